import PyProof.Rows.All
import Wide.All
import OpenK.AllK
import Wide.FinOn
import HandS.ForMost
import HandS.ForExc
import HandS.ExcIs
import HandS.Wide
import HandS.Zip
import HandS.Rev
import HandS.IsInst
import HandS.SortInts
import HandS.More
import HandS.NoneIn
import HandS.SortKw
import HandS.Style
import PyProof.LongRange
import HandS.Text
import HandS.WideBits
import HandS.EndBits
import PyProof.StrBlock2
import KE.GoesEnum
import HandS.Conv
import HandS.Strs
import HandS.Set
import KE.DataMinMax
import HandS.Deep
import KE.KDictZip
import HandS.OwnEq
import HandS.Keys
import HandS.TupAny
import HandS.RaiseMore
import KE.KDictDisplayH
import HandS.WordsDict
import HandS.Iter
import PySem.Challenge.RW_beaconvale_k29_whole_hours_gone_through
set_option Elab.async false
set_option linter.all false
set_option maxRecDepth 100000
/-! values, code, and what a code asks (a predicate transformer on plain data) -/
namespace Vd
open PySem

inductive D where
  | non | bl (b : Bool) | int (i : Int) | str (x : Str)
  | tup (xs : List D) | vl (xs : List D) | vi (c : String) (ns : List String) (vs : List D)
  | ref (n : Nat) | exc (c : String) | sv (xs : List D)
noncomputable instance : Inhabited D := ⟨.non⟩

inductive Ob where
  | lst (xs : List D) | ins (c : String) (ns : List String) (vs : List D)
  | dk (z : Bool) (kvs : List (L2.Key × D)) | dt (z : Bool) (kvs : List (List L2.Key × D))
noncomputable abbrev Hd := List Ob
noncomputable abbrev DSt := List (Option D)
noncomputable abbrev DK := D → Hd → Prop
noncomputable abbrev EK := String → Hd → Prop

inductive Op2 where | add | sub | mul | fdiv | mod | pow | shl | shr | band | bxor
  deriving DecidableEq
inductive Cm where | lt | le | gt | ge | eq | ne | is | isn | isin | nin
  deriving DecidableEq
inductive Tg where | nm (i : Nat) | tp (is : List Nat)
  deriving DecidableEq
mutual
inductive E where
  | var (i : Nat) | int (i : Int) | str (s : String) | bl (b : Bool) | non | glob (x : String)
  | bin (m : Bool) (o : Op2) (a b : E) | neg (a : E) | not (a : E)
  | cmp (o : Cm) (a b : E) | chain (o o' : Cm) (a b c : E)
  | and (es : Es) | or (es : Es) | ife (c a b : E)
  | tup (es : Es) | lst (m : Bool) (es : Es)
  | idx (a i : E) | slc (m : Bool) (a : E) (lo hi : Oe)
  | fld (a : E) (f : String) | isi (a : E) (t : String)
  | call (f : String) (es : Es) | make (c : String) (es : Es) | meth (o : E) (f : String) (es : Es)
  | bi (f : String) (m : Bool) (es : Es) | bm (f : String) (o : E) (es : Es)
  | comp (m : Bool) (elt : E) (tg : Tg) (it : It) (cond : Oe) (vs : List Nat)
  | stp (a : E) (lo c : Nat) | mdef (mx : Bool) (a : E) | ise (i : Nat) (t : String) | lrg (m : Bool) (a b : E)
  | lset (a : E) | lrev (m : Bool) (a : E) | srs (m : Bool) (a : E) | mpr (mx : Bool) (a : E) | lrb (m : Bool) (a b : E) | lzp (a b : E)
  | dnew (t : Bool) | dget (o i : E) | din (n : Bool) (i o : E) | ddsp (k v : E) | dln (a : E)
inductive Es where | nil | cons (e : E) (r : Es)
inductive Oe where | none | some (e : E)
inductive It where | val (e : E) | rng1 (a : E) | rng2 (a b : E) | rng3 (a b c : E) | zip (a b : E) | enum (a : E) | rev (a : E) | rngb (a b : E) | chs (a : E) | kys (a : E)
end
mutual
inductive S where
  | set (t : Tg) (e : E) | par (i j : Nat) (a b : E)
  | sub (o i e : E) | dput (o i e : E) | fset (o : E) (f : String) (e : E) | aug (i : Nat) (o : Op2) (e : E)
  | ex (e : E) | ret (e : E) | retN
  | ite (c : E) (a b : Ss) | whl (c : E) (b : Ss) | fr (t : Tg) (it : It) (b : Ss)
  | raise (c : String) | try (b : Ss) (c : String) (as : Option Nat) (h : Ss)
  | pass | brk | cont
inductive Ss where | nil | cons (s : S) (r : Ss)
end

/-- a key as data -/
noncomputable def keyV : L2.Key → D
  | .inl i => .int i
  | .inr x => .str x
/-! ### reading data -/
noncomputable def rdM (h : Hd) : D → Option (List D)
  | .vl xs => some xs
  | .ref r => match h[r]? with
    | some (.lst xs) => some xs
    | _ => none
  | _ => none
noncomputable def rdL (h : Hd) : D → Option (List D)
  | .vl xs => some xs
  | .sv xs => some xs
  | .ref r => match h[r]? with
    | some (.lst xs) => some xs
    | _ => none
  | _ => none
noncomputable def rdS (h : Hd) : D → Option (List D)
  | .tup xs => some xs
  | d => rdL h d
@[simp] theorem rdM_vl (h : Hd) (xs) : rdM h (.vl xs) = some xs := rfl
@[simp] theorem rdL_sv (h : Hd) (xs) : rdL h (.sv xs) = some xs := rfl
@[simp] theorem rdS_sv (h : Hd) (xs) : rdS h (.sv xs) = some xs := rfl
@[simp] theorem rdL_vl (h : Hd) (xs) : rdL h (.vl xs) = some xs := rfl
@[simp] theorem rdS_vl (h : Hd) (xs) : rdS h (.vl xs) = some xs := rfl
@[simp] theorem rdS_tup (h : Hd) (xs) : rdS h (.tup xs) = some xs := rfl
theorem rdS_ref (h : Hd) (r) : rdS h (.ref r) = rdL h (.ref r) := rfl
theorem rdL_ref {h : Hd} {r xs} (e : h[r]? = some (.lst xs)) : rdL h (.ref r) = some xs := by simp [rdL, e]
theorem rdM_ref {h : Hd} {r xs} (e : h[r]? = some (.lst xs)) : rdM h (.ref r) = some xs := by simp [rdM, e]
theorem rdS_ref' {h : Hd} {r xs} (e : h[r]? = some (.lst xs)) : rdS h (.ref r) = some xs := rdL_ref e

/-- two lists or two tuples -/
noncomputable def rd2 (h : Hd) (x y : D) : Option (List D × List D) := match rdL h x, rdL h y with
  | some a, some b => some (a, b)
  | _, _ => match x, y with
    | .tup a, .tup b => some (a, b)
    | _, _ => none
@[simp] theorem rd2_tup (h : Hd) (a b) : rd2 h (.tup a) (.tup b) = some (a, b) := rfl
theorem rd2_L {h : Hd} {x y a b} (e : rdL h x = some a) (f : rdL h y = some b) : rd2 h x y = some (a, b) := by simp [rd2, e, f]
theorem rd2_inv {h : Hd} {x y a b} (e : rd2 h x y = some (a, b)) : (rdL h x = some a ∧ rdL h y = some b) ∨ (x = .tup a ∧ y = .tup b) := by
  unfold rd2 at e
  split at e
  · rename_i a' b' e1 e2
    cases e
    exact .inl ⟨e1, e2⟩
  · split at e
    · cases e; exact .inr ⟨rfl, rfl⟩
    · cases e
noncomputable def flook : List String → List D → String → Option D
  | n :: ns, v :: vs, f => if n = f then some v else flook ns vs f
  | _, _, _ => none
noncomputable def fput : List String → List D → String → D → List String × List D
  | n :: ns, v :: vs, f, d => if n = f then (n :: ns, d :: vs) else ((n :: (fput ns vs f d).1), (v :: (fput ns vs f d).2))
  | _, _, f, d => ([f], [d])
/-- an instance's class and fields -/
noncomputable def rdI (h : Hd) : D → Option (String × List String × List D)
  | .vi c ns vs => some (c, ns, vs)
  | .ref r => match h[r]? with
    | some (.ins c ns vs) => some (c, ns, vs)
    | _ => none
  | _ => none
@[simp] theorem rdI_vi (h : Hd) (c ns vs) : rdI h (.vi c ns vs) = some (c, ns, vs) := rfl
theorem rdI_ref {h : Hd} {r c ns vs} (e : h[r]? = some (.ins c ns vs)) : rdI h (.ref r) = some (c, ns, vs) := by simp [rdI, e]

/-- a new list: kept as a value, or an object that may change -/
noncomputable def mkL : Bool → List D → Hd → DK → Prop
  | false, xs, h, Q => xs.length ≤ sizeLine ∧ Q (.vl xs) h
  | true, xs, h, Q => xs.length ≤ sizeLine ∧ Q (.ref h.length) (h ++ [.lst xs])

/-! ### equality of data -/
mutual
/-- == of data without objects that change -/
noncomputable def deq : D → D → Bool
  | .non, .non => true
  | .bl a, .bl b => a == b
  | .int a, .int b => a == b
  | .bl a, .int b => (if a then 1 else 0) == b
  | .int a, .bl b => a == (if b then 1 else 0)
  | .str a, .str b => decide (a = b)
  | .tup a, .tup b => deqs a b
  | .vl a, .vl b => deqs a b
  | _, _ => false
noncomputable def deqs : List D → List D → Bool
  | [], [] => true
  | a :: as, b :: bs => deq a b && deqs as bs
  | _, _ => false
end
/-- plain data: none, bools, whole numbers, texts, and tuples and lists of such, not too deep -/
noncomputable def pl : Nat → D → Bool
  | _, .non => true
  | _, .bl _ => true
  | _, .int _ => true
  | _, .str x => PyData.strOk x
  | k + 1, .tup xs => xs.all (pl k)
  | k + 1, .vl xs => xs.all (pl k)
  | _, _ => false
noncomputable def flat : D → Bool
  | .non => true
  | .bl _ => true
  | .int _ => true
  | .str _ => true
  | _ => false
/-- a value with the list at it read -/
noncomputable def seen (h : Hd) : D → D
  | .ref r => match h[r]? with
    | some (.lst xs) => .vl xs
    | _ => .ref r
  | d => d

/-! ### operators -/
noncomputable def MulOk (i j : Int) : Prop := L2.CMul i j ∨ L2.CMulW i j ∨ L2.CMulX i j
noncomputable def DivOk (j : Int) : Prop := j ≠ 0 ∧ j.natAbs.log2 < 9000
noncomputable def PowOk (i j : Int) : Prop := L2.CPow i j
noncomputable def bopW (m : Bool) : Op2 → D → D → Hd → DK → Prop
  | .add, .int i, .int j, h, Q => Q (.int (i + j)) h
  | .sub, .int i, .int j, h, Q => Q (.int (i - j)) h
  | .mul, .int i, .int j, h, Q => MulOk i j ∧ Q (.int (i * j)) h
  | .fdiv, .int i, .int j, h, Q => DivOk j ∧ Q (.int (i.fdiv j)) h
  | .mod, .int i, .int j, h, Q => j ≠ 0 ∧ Q (.int (i.fmod j)) h
  | .pow, .int i, .int j, h, Q => PowOk i j ∧ Q (.int (i ^ j.toNat)) h
  | .shl, .int i, .int j, h, Q => PowOk i j ∧ Q (.int (i * 2 ^ j.toNat)) h
  | .shr, .int i, .int j, h, Q => 0 ≤ j ∧ Q (.int (i / 2 ^ j.toNat)) h
  | .band, .int i, .int j, h, Q => Q (.int (Builtin.bitAnd i j)) h
  | .bxor, .int i, .int j, h, Q => Q (.int (Builtin.bitXor i j)) h
  | .add, .str x, .str y, h, Q => x.length + y.length ≤ sizeLine ∧ Q (.str (x ++ y)) h
  | .add, .tup xs, .tup ys, h, Q => xs.length + ys.length ≤ sizeLine ∧ Q (.tup (xs ++ ys)) h
  | .add, a, b, h, Q => ∃ xs ys, rdL h a = some xs ∧ rdL h b = some ys ∧ xs.length + ys.length ≤ sizeLine ∧ mkL m (xs ++ ys) h Q
  | .mul, .str x, .int k, h, Q => -(2 ^ 63) ≤ k ∧ k < 2 ^ 63 ∧ x.length * k.toNat ≤ sizeLine ∧ Q (.str (Txt.mul x k)) h
  | .mul, a, .int k, h, Q => ∃ xs, rdM h a = some xs ∧ -(2 ^ 63) ≤ k ∧ k < 2 ^ 63 ∧ xs.length * k.toNat ≤ sizeLine ∧ mkL m (List.replicate k.toNat xs).flatten h Q
  | _, _, _, _, _ => False
/-- comparisons -/
noncomputable def cmpW : Cm → D → D → Hd → (Bool → Prop) → Prop
  | .lt, .int i, .int j, _, Q => Q (decide (i < j))
  | .le, .int i, .int j, _, Q => Q (decide (i ≤ j))
  | .gt, .int i, .int j, _, Q => Q (decide (j < i))
  | .ge, .int i, .int j, _, Q => Q (decide (j ≤ i))
  | .eq, .int i, .int j, _, Q => Q (decide (i = j))
  | .ne, .int i, .int j, _, Q => Q (!decide (i = j))
  | .eq, a, b, h, Q => pl 16 (seen h a) = true ∧ pl 16 (seen h b) = true ∧ Q (deq (seen h a) (seen h b))
  | .ne, a, b, h, Q => pl 16 (seen h a) = true ∧ pl 16 (seen h b) = true ∧ Q (!deq (seen h a) (seen h b))
  | .is, .non, .non, _, Q => Q true
  | .is, .bl a, .bl b, _, Q => Q (decide (a = b))
  | .isn, .bl a, .bl b, _, Q => Q (!decide (a = b))
  | .is, _, .non, _, Q => Q false
  | .isn, .non, .non, _, Q => Q false
  | .isn, _, .non, _, Q => Q true
  | .isin, .str x, .str y, _, Q => Q (!(Builtin.Str.occurrences y x 0 y.length 1).isEmpty)
  | .nin, .str x, .str y, _, Q => Q (!(!(Builtin.Str.occurrences y x 0 y.length 1).isEmpty))
  | .isin, a, .tup xs, h, Q => flat a = true ∧ xs.all flat = true ∧ Q (xs.any fun y => deq y a)
  | .nin, a, .tup xs, h, Q => flat a = true ∧ xs.all flat = true ∧ Q (!xs.any fun y => deq y a)
  | .isin, a, b, h, Q => ∃ xs, rdM h b = some xs ∧ pl 15 a = true ∧ xs.all (pl 15) = true ∧ Q (xs.any fun y => deq y a)
  | .nin, a, b, h, Q => ∃ xs, rdM h b = some xs ∧ pl 15 a = true ∧ xs.all (pl 15) = true ∧ Q (!xs.any fun y => deq y a)
  | _, _, _, _, _ => False
/-- an item -/
noncomputable def idxW : D → D → Hd → DK → Prop
  | .str z, .int i, h, Q => ∃ c, z.length ≤ sizeLine ∧ L2.atI z.cps.toList i = some c ∧ Q (.str ⟨#[c]⟩) h
  | a, .int i, h, Q => ∃ xs v, rdS h a = some xs ∧ L2.atI xs i = some v ∧ Q v h
  | _, _, _, _ => False
/-- a slice -/
noncomputable def cut {α : Type} (xs : List α) (lo hi : Option Int) : List α := (xs.drop (HT.sIx xs.length 0 lo)).take (HT.sIx xs.length xs.length hi - HT.sIx xs.length 0 lo)
noncomputable def slcW (m : Bool) : D → Option Int → Option Int → Hd → DK → Prop
  | .tup xs, lo, hi, h, Q => Q (.tup (cut xs lo hi)) h
  | .str z, lo, hi, h, Q => z.length ≤ sizeLine ∧ Q (.str (L2.cutS z lo hi)) h
  | a, lo, hi, h, Q => ∃ xs, rdL h a = some xs ∧ mkL m (cut xs lo hi) h Q
/-- xs[lo::c] -/
noncomputable def stpL {α : Type} (xs : List α) (lo c : Nat) : List α := (PySem.sliceRange (max 0 (min (lo : Int) xs.length)) xs.length (c : Int)).filterMap (xs[·]?)
noncomputable def tyD : D → String
  | .non => "NoneType" | .bl _ => "bool" | .int _ => "int" | .str _ => "str" | .tup _ => "tuple" | .vl _ => "list" | _ => ""
noncomputable def isiS : String → String → Option Bool
  | "NoneType", "int" => some false | "NoneType", "tuple" => some false | "NoneType", "bool" => some false | "NoneType", "list" => some false | "NoneType", "str" => some false
  | "bool", "int" => some true | "bool", "tuple" => some false | "bool", "bool" => some true | "bool", "list" => some false | "bool", "str" => some false
  | "int", "int" => some true | "int", "tuple" => some false | "int", "bool" => some false | "int", "list" => some false | "int", "str" => some false
  | "str", "int" => some false | "str", "tuple" => some false | "str", "bool" => some false | "str", "list" => some false | "str", "str" => some true
  | "tuple", "int" => some false | "tuple", "tuple" => some true | "tuple", "bool" => some false | "tuple", "list" => some false | "tuple", "str" => some false
  | "list", "int" => some false | "list", "tuple" => some false | "list", "bool" => some false | "list", "list" => some true | "list", "str" => some false
  | _, _ => none
noncomputable def isiB (d : D) (t : String) : Option Bool := isiS (tyD d) t
noncomputable def tyN (t : String) : Bool := t == "int" || t == "bool" || t == "str" || t == "list" || t == "tuple"

/-! ### built-in functions by name -/
noncomputable def intsD : List D → Option (List Int)
  | [] => some []
  | .int i :: r => (intsD r).map (i :: ·)
  | _ => none
noncomputable def blsD : List D → Option (List Bool)
  | [] => some []
  | .bl i :: r => (blsD r).map (i :: ·)
  | _ => none
noncomputable def pairsD : List D → Option (List (Int × Int))
  | [] => some []
  | .tup [.int i, .int j] :: r => (pairsD r).map ((i, j) :: ·)
  | _ => none
noncomputable def lexLe (p q : Int × Int) : Prop := p.1 < q.1 ∨ (p.1 = q.1 ∧ p.2 ≤ q.2)
noncomputable def pairD (p : Int × Int) : D := .tup [.int p.1, .int p.2]
noncomputable def biW (m : Bool) : String → List D → Hd → DK → Prop
  | "abs", [.int i], h, Q => Q (.int (if i < 0 then -i else i)) h
  | "int", [.int i], h, Q => Q (.int i) h
  | "int", [.bl b], h, Q => Q (.int (if b then 1 else 0)) h
  | "int", [.str x], h, Q => ∃ n, PySem.intText? x = some n ∧ x.length ≤ 640 ∧ Q (.int n) h
  | "str", [.int i], h, Q => i.natAbs.log2 < 1920 ∧ Q (.str (Str.ofString (toString i))) h
  | "str", [.str x], h, Q => Q (.str x) h
  | "bool", [.int i], h, Q => Q (.bl (i != 0)) h
  | "bool", [.bl b], h, Q => Q (.bl b) h
  | "max", [.int i, .int j], h, Q => Q (.int (if j > i then j else i)) h
  | "min", [.int i, .int j], h, Q => Q (.int (if j < i then j else i)) h
  | "len", [.str z], h, Q => z.length ≤ sizeLine ∧ Q (.int z.length) h
  | "len", [d], h, Q => ∃ xs, rdS h d = some xs ∧ Q (.int xs.length) h
  | "list", [d], h, Q => ∃ xs, rdS h d = some xs ∧ mkL m xs h Q
  | "tuple", [.tup xs], h, Q => Q (.tup xs) h
  | "tuple", [d], h, Q => ∃ xs, rdL h d = some xs ∧ Q (.tup xs) h
  | "sum", [d], h, Q => ∃ xs ns, rdL h d = some xs ∧ intsD xs = some ns ∧ Q (.int ns.sum) h
  | "max", [d], h, Q => ∃ xs ns, rdL h d = some xs ∧ intsD xs = some ns ∧ 0 < ns.length ∧ ∀ k, k ∈ ns → (∀ y, y ∈ ns → y ≤ k) → Q (.int k) h
  | "min", [d], h, Q => ∃ xs ns, rdL h d = some xs ∧ intsD xs = some ns ∧ 0 < ns.length ∧ ∀ k, k ∈ ns → (∀ y, y ∈ ns → k ≤ y) → Q (.int k) h
  | "any", [d], h, Q => ∃ xs bs, rdL h d = some xs ∧ blsD xs = some bs ∧ Q (.bl (bs.any id)) h
  | "all", [d], h, Q => ∃ xs bs, rdL h d = some xs ∧ blsD xs = some bs ∧ Q (.bl (bs.all id)) h
  | "sorted", [d], h, Q => (∃ xs ns, rdL h d = some xs ∧ intsD xs = some ns ∧ ∀ ns' : List Int, ns'.Perm ns → ns'.Pairwise (· ≤ ·) → mkL m (ns'.map .int) h Q) ∨
      (∃ xs ps, rdL h d = some xs ∧ pairsD xs = some ps ∧ ∀ ps' : List (Int × Int), ps'.Perm ps → ps'.Pairwise lexLe → mkL m (ps'.map pairD) h Q)
  | _, _, _, _ => False
noncomputable def mdW (mx : Bool) (d : D) (h : Hd) (Q : DK) : Prop := ∃ xs ns, rdL h d = some xs ∧ intsD xs = some ns ∧ (ns = [] → Q .non h) ∧ ∀ k, k ∈ ns → (∀ y, y ∈ ns → if mx = true then y ≤ k else k ≤ y) → Q (.int k) h
/-- len(set(xs)), xs texts or whole numbers -/
noncomputable def strsD : List D → Option (List Str)
  | [] => some []
  | .str i :: r => (strsD r).map (i :: ·)
  | _ => none
noncomputable def ddA {κ : Type} [DecidableEq κ] (acc : List κ) (x : κ) : List κ := if x ∈ acc then acc else acc ++ [x]
/-- a list without doubles, in the order of the first ones -/
noncomputable def dd {κ : Type} [DecidableEq κ] (xs : List κ) : List κ := xs.foldl ddA []
/-- sorted(set(xs)), xs whole numbers -/
noncomputable def srsW (m : Bool) (d : D) (h : Hd) (Q : DK) : Prop := ∃ xs ns, rdL h d = some xs ∧ intsD xs = some ns ∧ ns.length ≤ 4000 ∧ (dd ns).length < 64 ∧ ∀ os : List Int, os.Pairwise (· < ·) → (∀ k, k ∈ os ↔ k ∈ ns) → mkL m (os.map .int) h Q
noncomputable def lsetW (d : D) (h : Hd) (Q : DK) : Prop := (∃ xs ns, rdL h d = some xs ∧ strsD xs = some ns ∧ ns.length ≤ 4000 ∧ Q (.int (dd ns).length) h) ∨ (∃ xs ns, rdL h d = some xs ∧ intsD xs = some ns ∧ ns.length ≤ 4000 ∧ Q (.int (dd ns).length) h)
/-- max or min of pairs -/
noncomputable def mprW (mx : Bool) (d : D) (h : Hd) (Q : DK) : Prop := ∃ xs ps, rdL h d = some xs ∧ pairsD xs = some ps ∧ 0 < ps.length ∧ ∀ k, k ∈ ps → (∀ y, y ∈ ps → if mx = true then lexLe y k else lexLe k y) → Q (pairD k) h
noncomputable def chsD (z : Str) : List D := z.cps.toList.map fun c => .str ⟨#[c]⟩
/-- what extend takes -/
noncomputable def rdE (h : Hd) : D → Option (List D)
  | .vl xs => some xs
  | .tup xs => some xs
  | .ref r => match h[r]? with
    | some (.lst xs) => some xs
    | _ => none
  | _ => none
@[simp] theorem rdE_tup (h : Hd) (xs : List D) : rdE h (.tup xs) = some xs := rfl
@[simp] theorem rdE_vl (h : Hd) (xs : List D) : rdE h (.vl xs) = some xs := rfl
/-- methods of built-in types -/
noncomputable def bmW : String → D → List D → Hd → DK → Prop
  | "append", .ref r, [d], h, Q => ∃ xs, h[r]? = some (.lst xs) ∧ xs.length < sizeLine ∧ Q .non (h.set r (.lst (xs ++ [d])))
  | "pop", .ref r, [], h, Q => ∃ xs y, h[r]? = some (.lst xs) ∧ xs[xs.length - 1]? = some y ∧ Q y (h.set r (.lst xs.dropLast))
  | "extend", .ref r, [d], h, Q => ∃ xs ys, h[r]? = some (.lst xs) ∧ rdE h d = some ys ∧ xs.length + ys.length ≤ sizeLine ∧ Q .non (h.set r (.lst (xs ++ ys)))
  | "insert", .ref r, [.int i, d], h, Q => ∃ xs, h[r]? = some (.lst xs) ∧ xs.length < sizeLine ∧ 0 ≤ i ∧ i < 2 ^ 63 ∧ Q .non (h.set r (.lst (xs.take i.toNat ++ [d] ++ xs.drop i.toNat)))
  | "pop", .ref r, [.int i], h, Q => ∃ xs k y, h[r]? = some (.lst xs) ∧ 0 ≤ i ∧ i.toNat = k ∧ k < 2 ^ 62 ∧ xs[k]? = some y ∧ Q y (h.set r (.lst (xs.eraseIdx k)))
  | "index", d, [y], h, Q => ∃ xs j z, rdM h d = some xs ∧ pl 15 y = true ∧ xs.all (pl 15) = true ∧ xs[j]? = some z ∧ deq z y = true ∧ (∀ m z', m < j → xs[m]? = some z' → deq z' y = false) ∧ Q (.int (j : Nat)) h
  | "join", .str x, [d], h, Q => ∃ xs ys, rdL h d = some xs ∧ strsD xs = some ys ∧ (ys.map (·.length)).sum + ys.length * x.length ≤ 16777216 ∧ Q (.str (Txt.join x ys)) h
  | "split", .str x, [.str y], h, Q => (y.length == 0) = false ∧ x.length + 2 ≤ sizeLine ∧ (Txt.split x y).length ≤ sizeLine ∧ Q (.vl ((Txt.split x y).map .str)) h
  | "clear", .ref r, [], h, Q => ∃ xs, h[r]? = some (.lst xs) ∧ Q .non (h.set r (.lst []))
  | "reverse", .ref r, [], h, Q => ∃ xs, h[r]? = some (.lst xs) ∧ Q .non (h.set r (.lst xs.reverse))
  | _, _, _, _, _ => False

/-! ### tables -/
noncomputable def getA {κ : Type} [DecidableEq κ] (kvs : List (κ × D)) (k : κ) : Option D := (kvs.find? fun kv => decide (kv.1 = k)).map (·.2)
/-- in its place, or at the end -/
noncomputable def putA {κ : Type} [DecidableEq κ] (kvs : List (κ × D)) (k : κ) (d : D) : List (κ × D) :=
  if (kvs.any fun kv => decide (kv.1 = k)) = true then kvs.map (fun kv => if kv.1 = k then (kv.1, d) else kv) else kvs ++ [(k, d)]
noncomputable def keyD : D → Option L2.Key
  | .int i => some (.inl i)
  | .str x => some (.inr x)
  | _ => none
noncomputable def keysD : List D → Option (List L2.Key)
  | [] => some []
  | x :: r => match keyD x, keysD r with
    | some k, some ks => some (k :: ks)
    | _, _ => none
/-- what a table holds at a key -/
noncomputable def dgetW : D → D → Hd → (Option D → Prop) → Prop
  | .ref r, .tup ys, h, Q => ∃ z kvs k, h[r]? = some (.dt z kvs) ∧ keysD ys = some k ∧ Q (getA kvs k)
  | .ref r, y, h, Q => ∃ z kvs k, h[r]? = some (.dk z kvs) ∧ keyD y = some k ∧ Q (getA kvs k)
  | _, _, _, _ => False
noncomputable def dputW : D → D → D → Hd → (Hd → Prop) → Prop
  | .ref r, .tup ys, v, h, Q => ∃ kvs k, h[r]? = some (.dt false kvs) ∧ keysD ys = some k ∧ kvs.length < sizeLine ∧ Q (h.set r (.dt false (putA kvs k v)))
  | .ref r, y, v, h, Q => ∃ kvs k, h[r]? = some (.dk false kvs) ∧ keyD y = some k ∧ kvs.length < sizeLine ∧ Q (h.set r (.dk false (putA kvs k v)))
  | _, _, _, _, _ => False
noncomputable def recOk : String → D → Hd → Prop
  | "join", x, _ => ∃ z, x = .str z
  | "split", x, _ => ∃ z, x = .str z
  | "upper", x, _ => ∃ z, x = .str z
  | _, x, h => ∃ ys, rdL h x = some ys
/-! ### what is around -/
structure Gam where
  fn : String → List D → Hd → DK → EK → Prop
  isFn : String → Bool
  gl : String → Option D
  fldOk : String → String → Bool
  sub : String → String → Option Bool
  /-- methods: class, name -/
  me : String → String → List D → Hd → DK → EK → Prop
  isMe : String → String → Bool
  /-- a class called -/
  mkc : String → List D → Hd → DK → EK → Prop
  isMk : String → Bool
  /-- exception classes that are raised; whether an except clause takes them -/
  isEx : String → Bool
  exm : String → String → Option Bool
  isTr : String → Bool
  /-- the exception that a suite holds: slot, class -/
  xs : Option (Nat × String)
noncomputable abbrev Gam.inx (G : Gam) (i : Nat) (c : String) : Gam := { G with xs := some (i, c) }

/-- the targets of a loop -/
noncomputable def tgW : Tg → D → DSt → Hd → (DSt → Prop) → Prop
  | .nm i, d, σ, _, K => K (σ.set i (some d))
  | .tp is, d, σ, h, K => ∃ xs, rdS h d = some xs ∧ xs.length = is.length ∧ K ((is.zip xs).foldl (fun s p => s.set p.1 (some p.2)) σ)
noncomputable def wipe (σ : DSt) : List Nat → DSt
  | [] => σ
  | v :: vs => (wipe σ vs).set v none
/-- what is walked: the items, and what must stay at each turn -/
structure Itm where
  xs : List D
  stay : Hd → Prop
noncomputable def rngN (lo hi : Int) : List D := (List.range (hi - lo).toNat).map fun (k : Nat) => D.int (lo + (k : Int))
/-- lo, lo + c, .. (n of them) -/
noncomputable def rngC (lo c : Int) (n : Nat) : List D := (List.range n).map fun (k : Nat) => .int (lo + (k : Int) * c)
noncomputable def Rg3 (i j c : Int) (n : Nat) : Prop := c ≠ 0 ∧ c.natAbs < 1073741824 ∧ Builtin.Range.rangeSize i j c = n
noncomputable def R62 (i : Int) : Prop := -(2 ^ 62) ≤ i ∧ i < 2 ^ 62
/-- a comprehension's turns -/
noncomputable def compL (stay : Hd → Prop) (t : D → Hd → (Option D → Hd → Prop) → Prop) : List D → List D → Hd → (List D → Hd → Prop) → Prop
  | [], acc, h, Q => stay h ∧ Q acc h
  | x :: xs, acc, h, Q => stay h ∧ t x h fun o h' => match o with
    | some y => acc.length < sizeLine ∧ compL stay t xs (acc ++ [y]) h' Q
    | none => compL stay t xs acc h' Q

mutual
noncomputable def wpE (G : Gam) : E → DSt → Hd → DK → EK → Prop
  | .var i, σ, h, Q, _ => ∃ d, σ[i]? = some (some d) ∧ Q d h
  | .int i, _, h, Q, _ => Q (.int i) h
  | .str x, _, h, Q, _ => Q (.str (Str.ofString x)) h
  | .bl b, _, h, Q, _ => Q (.bl b) h
  | .non, _, h, Q, _ => Q .non h
  | .glob x, _, h, Q, _ => ∃ d, G.gl x = some d ∧ Q d h
  | .bin m o a b, σ, h, Q, X => wpE G a σ h (fun x h1 => wpE G b σ h1 (fun y h2 => bopW m o x y h2 Q) X) X
  | .neg a, σ, h, Q, X => wpE G a σ h (fun x h1 => ∃ i, x = .int i ∧ Q (.int (-i)) h1) X
  | .not a, σ, h, Q, X => wpE G a σ h (fun x h1 => ∃ b, x = .bl b ∧ Q (.bl (!b)) h1) X
  | .cmp o a b, σ, h, Q, X => wpE G a σ h (fun x h1 => wpE G b σ h1 (fun y h2 => cmpW o x y h2 fun c => Q (.bl c) h2) X) X
  | .chain o o' a b c, σ, h, Q, X => wpE G a σ h (fun x h1 => wpE G b σ h1 (fun y h2 => cmpW o x y h2 fun k =>
      if k = true then wpE G c σ h2 (fun z h3 => cmpW o' y z h3 fun k' => Q (.bl k') h3) X else Q (.bl false) h2) X) X
  | .and es, σ, h, Q, X => wpAnd G es σ h Q X
  | .or es, σ, h, Q, X => wpOr G es σ h Q X
  | .ife c a b, σ, h, Q, X => wpE G c σ h (fun x h1 => ∃ k, x = .bl k ∧ if k = true then wpE G a σ h1 Q X else wpE G b σ h1 Q X) X
  | .tup es, σ, h, Q, X => wpEs G es σ h (fun xs h1 => xs.length ≤ sizeLine ∧ Q (.tup xs) h1) X
  | .lst m es, σ, h, Q, X => wpEs G es σ h (fun xs h1 => mkL m xs h1 Q) X
  | .idx a i, σ, h, Q, X => wpE G a σ h (fun x h1 => wpE G i σ h1 (fun y h2 => idxW x y h2 Q) X) X
  | .stp a lo c, σ, h, Q, X => wpE G a σ h (fun x h1 => ∃ xs, rdL h1 x = some xs ∧ mkL false (stpL xs lo c) h1 Q) X
  | .lrg m a b, σ, h, Q, X => wpE G a σ h (fun x h1 => wpE G b σ h1 (fun y h2 => ∃ i j, x = .int i ∧ y = .int j ∧ R62 i ∧ R62 j ∧ (j - i).toNat ≤ 16777216 ∧ mkL m (rngN i j) h2 Q) X) X
  | .lrb m a b, σ, h, Q, X => wpE G a σ h (fun x h1 => wpE G b σ h1 (fun y h2 => ∃ i j, x = .int i ∧ y = .int j ∧ (j - i).toNat ≤ 16777216 ∧ mkL m (rngN i j) h2 Q) X) X
  | .lzp a b, σ, h, Q, X => wpE G a σ h (fun x h1 => wpE G b σ h1 (fun y h2 => ∃ xs ys, rdL h2 x = some xs ∧ rdL h2 y = some ys ∧ xs.length ≤ 4000 ∧ Q (.vl ((xs.zip ys).map fun p => .tup [p.1, p.2])) h2) X) X
  | .lset a, σ, h, Q, X => wpE G a σ h (fun x h1 => lsetW x h1 Q) X
  | .lrev m a, σ, h, Q, X => wpE G a σ h (fun x h1 => ∃ xs, rdL h1 x = some xs ∧ mkL m xs.reverse h1 Q) X
  | .srs m a, σ, h, Q, X => wpE G a σ h (fun x h1 => srsW m x h1 Q) X
  | .mpr mx a, σ, h, Q, X => wpE G a σ h (fun x h1 => mprW mx x h1 Q) X
  | .dnew t, _, h, Q, _ => Q (.ref h.length) (h ++ [if t = true then .dt false [] else .dk false []])
  | .ddsp k v, σ, h, Q, X => wpE G k σ (h ++ [.dt false []]) (fun x h1 => wpE G v σ h1 (fun y h2 => ∃ ys ks, x = .tup ys ∧ keysD ys = some ks ∧ h2[h.length]? = some (.dt false []) ∧ Q (.ref h.length) (h2.set h.length (.dt false (putA [] ks y)))) X) X
  | .dln a, σ, h, Q, X => wpE G a σ h (fun x h1 => ∃ r z kvs, x = .ref r ∧ h1[r]? = some (.dk z kvs) ∧ Q (.int kvs.length) h1) X
  | .dget o i, σ, h, Q, X => wpE G o σ h (fun x h1 => wpE G i σ h1 (fun y h2 => dgetW x y h2 fun o => ∃ d, o = some d ∧ Q d h2) X) X
  | .din n i o, σ, h, Q, X => wpE G i σ h (fun y h1 => wpE G o σ h1 (fun x h2 => dgetW x y h2 fun o => Q (.bl (if n = true then !o.isSome else o.isSome)) h2) X) X
  | .mdef mx a, σ, h, Q, X => wpE G a σ h (fun x h1 => mdW mx x h1 Q) X
  | .slc m a lo hi, σ, h, Q, X => wpE G a σ h (fun x h1 => wpO G lo σ h1 (fun l h2 => wpO G hi σ h2 (fun u h3 => slcW m x l u h3 Q) X) X) X
  | .fld a f, σ, h, Q, X => wpE G a σ h (fun x h1 => ∃ c ns vs d, rdI h1 x = some (c, ns, vs) ∧ G.fldOk c f = true ∧ flook ns vs f = some d ∧ Q d h1) X
  | .isi a t, σ, h, Q, X => wpE G a σ h (fun x h1 => ∃ b, isiB (seen h1 x) t = some b ∧ Q (.bl b) h1) X
  | .call f es, σ, h, Q, X => G.isFn f = true ∧ wpEs G es σ h (fun xs h1 => G.fn f xs h1 Q X) X
  | .make c es, σ, h, Q, X => G.isMk c = true ∧ wpEs G es σ h (fun xs h1 => G.mkc c xs h1 Q X) X
  | .meth o f es, σ, h, Q, X => wpE G o σ h (fun x h1 => ∃ c ns vs, rdI h1 x = some (c, ns, vs) ∧ G.isMe c f = true ∧ flook ns vs f = none ∧ wpEs G es σ h1 (fun xs h2 => G.me c f (x :: xs) h2 Q X) X) X
  | .ise i t, σ, h, Q, _ => ∃ c b, σ[i]? = some none ∧ G.xs = some (i, c) ∧ G.sub c t = some b ∧ Q (.bl b) h
  | .bi f m es, σ, h, Q, X => wpEs G es σ h (fun xs h1 => biW m f xs h1 Q) X
  | .bm f o es, σ, h, Q, X => wpE G o σ h (fun x h1 => recOk f x h1 ∧ wpEs G es σ h1 (fun xs h2 => bmW f x xs h2 Q) X) X
  | .comp m elt tg it cond vs, σ, h, Q, X => wpI G it σ h (fun J h1 => compL J.stay (fun x h2 K => tgW tg x (wipe σ vs) h2 fun σ2 =>
      wpC G cond σ2 h2 (fun b h3 => if b = true then wpE G elt σ2 h3 (fun y h4 => K (some y) h4) (fun _ _ => False) else K none h3) (fun _ _ => False)) J.xs [] h1 (fun acc h5 => mkL m acc h5 Q)) X
noncomputable def wpEs (G : Gam) : Es → DSt → Hd → (List D → Hd → Prop) → EK → Prop
  | .nil, _, h, Q, _ => Q [] h
  | .cons e r, σ, h, Q, X => wpE G e σ h (fun x h1 => wpEs G r σ h1 (fun xs h2 => Q (x :: xs) h2) X) X
noncomputable def wpO (G : Gam) : Oe → DSt → Hd → (Option Int → Hd → Prop) → EK → Prop
  | .none, _, h, Q, _ => Q none h
  | .some e, σ, h, Q, X => wpE G e σ h (fun x h1 => ∃ i, x = .int i ∧ Q (some i) h1) X
noncomputable def wpC (G : Gam) : Oe → DSt → Hd → (Bool → Hd → Prop) → EK → Prop
  | .none, _, h, Q, _ => Q true h
  | .some e, σ, h, Q, X => wpE G e σ h (fun x h1 => ∃ b, x = .bl b ∧ Q b h1) X
noncomputable def wpI (G : Gam) : It → DSt → Hd → (Itm → Hd → Prop) → EK → Prop
  | .val e, σ, h, Q, X => wpE G e σ h (fun x h1 => ∃ xs, rdS h1 x = some xs ∧ Q ⟨xs, fun h' => rdS h' x = some xs⟩ h1) X
  | .rng1 a, σ, h, Q, X => wpE G a σ h (fun x h1 => ∃ j, x = .int j ∧ R62 j ∧ Q ⟨rngN 0 j, fun _ => True⟩ h1) X
  | .rng2 a b, σ, h, Q, X => wpE G a σ h (fun x h1 => wpE G b σ h1 (fun y h2 => ∃ i j, x = .int i ∧ y = .int j ∧ R62 i ∧ R62 j ∧ Q ⟨rngN i j, fun _ => True⟩ h2) X) X
  | .rng3 a b c, σ, h, Q, X => wpE G a σ h (fun x h1 => wpE G b σ h1 (fun y h2 => wpE G c σ h2 (fun z h3 => ∃ i j k n, x = .int i ∧ y = .int j ∧ z = .int k ∧ Rg3 i j k n ∧ Q ⟨rngC i k n, fun _ => True⟩ h3) X) X) X
  | .rngb a b, σ, h, Q, X => wpE G a σ h (fun x h1 => wpE G b σ h1 (fun y h2 => ∃ i j, x = .int i ∧ y = .int j ∧ Q ⟨rngN i j, fun _ => True⟩ h2) X) X
  | .zip a b, σ, h, Q, X => wpE G a σ h (fun x h1 => wpE G b σ h1 (fun y h2 => ∃ xs ys, rd2 h2 x y = some (xs, ys) ∧
      Q ⟨(xs.zip ys).map fun p => .tup [p.1, p.2], fun h' => rd2 h' x y = some (xs, ys)⟩ h2) X) X
  | .enum a, σ, h, Q, X => wpE G a σ h (fun x h1 => ∃ xs, rdS h1 x = some xs ∧ Q ⟨xs.zipIdx.map fun p => .tup [.int p.2, p.1], fun h' => rdS h' x = some xs⟩ h1) X
  | .chs a, σ, h, Q, X => wpE G a σ h (fun x h1 => ∃ z, x = .str z ∧ Q ⟨chsD z, fun _ => True⟩ h1) X
  | .kys a, σ, h, Q, X => wpE G a σ h (fun x h1 => ∃ r kvs, x = .ref r ∧ h1[r]? = some (.dk false kvs) ∧ Q ⟨kvs.map fun kv => keyV kv.1, fun h' => h'[r]? = some (.dk true kvs)⟩ (h1.set r (.dk true kvs))) X
  | .rev a, σ, h, Q, X => wpE G a σ h (fun x h1 => ∃ xs, rdS h1 x = some xs ∧ Q ⟨xs.reverse, fun h' => rdS h' x = some xs⟩ h1) X
noncomputable def wpAnd (G : Gam) : Es → DSt → Hd → DK → EK → Prop
  | .nil, _, _, _, _ => False
  | .cons e r, σ, h, Q, X => match r with
    | .nil => wpE G e σ h Q X
    | r => wpE G e σ h (fun x h1 => ∃ b, x = .bl b ∧ if b = true then wpAnd G r σ h1 Q X else Q (.bl false) h1) X
noncomputable def wpOr (G : Gam) : Es → DSt → Hd → DK → EK → Prop
  | .nil, _, _, _, _ => False
  | .cons e r, σ, h, Q, X => match r with
    | .nil => wpE G e σ h Q X
    | r => wpE G e σ h (fun x h1 => ∃ b, x = .bl b ∧ if b = true then Q (.bl true) h1 else wpOr G r σ h1 Q X) X
end
/-- a test -/
noncomputable def wpT (G : Gam) (e : E) (σ : DSt) (h : Hd) (Q : Bool → Hd → Prop) (X : EK) : Prop := wpE G e σ h (fun x h1 => ∃ b, x = .bl b ∧ Q b h1) X

/-! ### statements -/
structure Ends where
  nx : DSt → Hd → Prop
  rt : DK
  bk : DSt → Hd → Prop := fun _ _ => False
  ct : DSt → Hd → Prop := fun _ _ => False
noncomputable abbrev XS := String → DSt → Hd → Prop
noncomputable def forL (stay : Hd → Prop) (t : D → DSt → Hd → Ends → Prop) : List D → DSt → Hd → Ends → Prop
  | [], σ, h, K => stay h ∧ K.nx σ h
  | x :: xs, σ, h, K => stay h ∧ t x σ h { K with nx := fun σ' h' => forL stay t xs σ' h' K, ct := fun σ' h' => forL stay t xs σ' h' K, bk := K.nx }
noncomputable def whlL (c : DSt → Hd → (Bool → Hd → Prop) → Prop) (t : DSt → Hd → Ends → Prop) : Nat → DSt → Hd → Ends → Prop
  | 0, _, _, _ => False
  | n + 1, σ, h, K => c σ h fun b h1 => if b = true then t σ h1 { K with nx := fun σ' h' => whlL c t n σ' h' K, ct := fun σ' h' => whlL c t n σ' h' K, bk := K.nx } else K.nx σ h1
mutual
noncomputable def wpS (G : Gam) : S → DSt → Hd → Ends → XS → Prop
  | .set t e, σ, h, K, X => wpE G e σ h (fun x h1 => tgW t x σ h1 fun σ' => K.nx σ' h1) (fun c h' => X c σ h')
  | .par i j a b, σ, h, K, X => wpE G a σ h (fun x h1 => wpE G b σ h1 (fun y h2 => K.nx ((σ.set i (some x)).set j (some y)) h2) (fun c h' => X c σ h')) (fun c h' => X c σ h')
  | .sub o i e, σ, h, K, X => wpE G e σ h (fun v h1 => wpE G o σ h1 (fun x h2 => wpE G i σ h2 (fun y h3 => ∃ r k xs j, x = .ref r ∧ y = .int k ∧ h3[r]? = some (.lst xs) ∧ L2.ixN xs.length k = some j ∧
      K.nx σ (h3.set r (.lst (xs.set j v)))) (fun c h' => X c σ h')) (fun c h' => X c σ h')) (fun c h' => X c σ h')
  | .dput o i e, σ, h, K, X => wpE G e σ h (fun v h1 => wpE G o σ h1 (fun x h2 => wpE G i σ h2 (fun y h3 => dputW x y v h3 fun h4 => K.nx σ h4) (fun c h' => X c σ h')) (fun c h' => X c σ h')) (fun c h' => X c σ h')
  | .fset o f e, σ, h, K, X => wpE G e σ h (fun v h1 => wpE G o σ h1 (fun x h2 => ∃ r c ns vs, x = .ref r ∧ h2[r]? = some (.ins c ns vs) ∧ G.fldOk c f = true ∧ ns.length < 1000 ∧
      K.nx σ (h2.set r (.ins c (fput ns vs f v).1 (fput ns vs f v).2))) (fun c h' => X c σ h')) (fun c h' => X c σ h')
  | .aug i o e, σ, h, K, X => ∃ x, σ[i]? = some (some x) ∧ wpE G e σ h (fun y h1 => ∃ a b, x = .int a ∧ y = .int b ∧ ((o = .add ∧ K.nx (σ.set i (some (.int (a + b)))) h1) ∨ (o = .sub ∧ K.nx (σ.set i (some (.int (a - b)))) h1))) (fun c h' => X c σ h')
  | .ex e, σ, h, K, X => wpE G e σ h (fun _ h1 => K.nx σ h1) (fun c h' => X c σ h')
  | .ret e, σ, h, K, X => wpE G e σ h K.rt (fun c h' => X c σ h')
  | .retN, _, h, K, _ => K.rt .non h
  | .ite c a b, σ, h, K, X => wpT G c σ h (fun k h1 => if k = true then wpSs G a σ h1 K X else wpSs G b σ h1 K X) (fun c h' => X c σ h')
  | .whl c b, σ, h, K, X => ∃ n, whlL (fun σ h Q => wpT G c σ h Q (fun c h' => X c σ h')) (fun σ h K => wpSs G b σ h K X) n σ h K
  | .fr t it b, σ, h, K, X => wpI G it σ h (fun J h1 => forL J.stay (fun x σ h K => tgW t x σ h fun σ' => wpSs G b σ' h K X) J.xs σ h1 K) (fun c h' => X c σ h')
  | .raise c, σ, h, _, X => G.isEx c = true ∧ X c σ h
  | .try b c as hh, σ, h, K, X => G.isTr c = true ∧ wpSs G b σ h K (fun c' σ' h' => match G.exm c' c, as with
    | some true, some i => wpSs (G.inx i c') hh (σ'.set i none) h' { nx := fun s => K.nx (s.set i none), rt := K.rt, bk := fun s => K.bk (s.set i none), ct := fun s => K.ct (s.set i none) } (fun _ _ _ => False)
    | some true, none => wpSs G hh σ' h' K (fun _ _ _ => False)
    | some false, _ => X c' σ' h'
    | none, _ => False)
  | .pass, σ, h, K, _ => K.nx σ h
  | .brk, σ, h, K, _ => K.bk σ h
  | .cont, σ, h, K, _ => K.ct σ h
noncomputable def wpSs (G : Gam) : Ss → DSt → Hd → Ends → XS → Prop
  | .nil, σ, h, K, _ => K.nx σ h
  | .cons s r, σ, h, K, X => wpS G s σ h { K with nx := fun σ' h' => wpSs G r σ' h' K X } X
end
end Vd

set_option Elab.async false
set_option linter.all false
set_option maxRecDepth 100000
/-! min(xs, default=None), max(xs, default=None) of lists of ints; printed by genmm.py -/
namespace VdMm
open PySem PySem.Spec PyProof.Rows
section
variable {prog : Program} {w : World} {A : Around} {E : Value → Shared → Prop} {s : Shared}
theorem tree_kw {id : String} {b : Builtin} {args : List Value} {kw : List (Str × Value)} {Q : Value → Shared → Prop} (hk : builtinKind id = none) (hp : plainId id = true)
    (hb : entryFor table id = some b) (ha : argsOk id ⟨args, kw⟩)
    (hc : wpAny (model prog w) A.in1 (b ⟨args, kw⟩) (fun fin s' => match fin with
      | .done f => (match (Except.ok f : Result) with | .ok (.ret v) => Q v s' | .ok _ => False | .error e => E e s')
      | .again c' => c'.quiet = true ∧ codeAny (model prog w) A c' (fun r s' => match r with | .ok (.ret v) => Q v s' | .ok _ => False | .error e => E e s') s') E s) :
    wpAny (model prog w) A (call (.builtin id) args kw) Q E s := by
  refine wpAny_call (codeAny_call_builtin hp hb ?_)
  simp only [checkBuiltinCall, hk]
  cases hsig : Manifest.signature? id with
  | none => exact wpAny_pure hc
  | some sig =>
    simp only [argsOk, hsig] at ha
    have h2 : Bind.checkArgs id sig ⟨args, kw⟩ = pure () := ha
    show wpAny _ A.in1 (Bind.checkArgs id sig ⟨args, kw⟩) _ _ s
    rw [h2]; exact wpAny_pure hc
end

section
variable {prog : Program} {w : World} {A : Around} {R : Result → Shared → Prop} {I : Addr} {fp wr : List Addr} {n : Nat} {P : Nat → Value → Prop} {St : Nat → Heap → Prop}
theorem maxd_loop (W : Walks prog w A.in1 I fp wr n P St) (bt : Nat → Nat → Bool) (hcmp : CmpOf prog w A.in1 .Gt P bt) (S : Addr) (hSf : S ∉ fp) (kw : List (Str × Value)) :
    ∀ (k j : Nat) (s : Shared) (vb : Value) (c : Nat), n - (j + 1) = k → j + 1 ≤ n → St (j + 1) s.heap → P (argBest bt j) vb →
    s.heap.get? S = some { cls := .type "list", dict := none, data := .seq #[vb, vb] c, slots := #[] } →
    (∀ v h' tk, P (argBest bt (n - 1)) v → (∀ b o, b ∉ wr → b ≠ S → s.heap.get? b = some o → h'.get? b = some o) → R (.ok (.ret v)) { s with heap := h', toks := tk }) →
    codeAny (model prog w) A (.builtin "max.loop" ⟨[.ref I, .none, .ref S], kw⟩) R s := by
  have hSw : S ∉ wr := fun h => hSf (W.sub _ h)
  have hname : (toString "max" ++ toString ".loop" : String) = "max.loop" := by decide
  intro k
  induction k with
  | zero =>
    intro j s vb c hk hj hst hPb hS hR
    have hin : j + 1 = n := by omega
    refine codeAny_builtin F.entry_max_loop ?_
    rw [Around.under_plainId F.plain_max_loop _]
    show wpAny _ A.in1 (seqItems? (.ref S) >>= _) _ _ s
    refine wpAny_bind (wpAny_seqItems hS rfl ?_)
    show wpAny _ A.in1 (tryCatch (pyNext (.ref I)) _ >>= _) _ _ s
    refine wpAny_bind (wpAny_tryCatch (W.done s _ _ (hin ▸ hst) fun h' tk hk' => ?_))
    have hS' := hk' S _ hSw hS
    show wpAny _ A.in1 (updateSeq S (fun _ => #[]) >>= _) _ _ _
    refine wpAny_bind ?_
    refine wpAny_updateSeq hS' rfl (wpAny_bind (wpAny_letGo (wpAny_pure ?_)))
    refine hR vb _ tk (by rw [← hin]; exact hPb) fun b o hbw hbS e => (Heap.get?_update_other _ _ (Ne.symm hbS)).trans (hk' b o hbw e)
  | succ k ih =>
    intro j s vb c hk hj hst hPb hS hR
    have hlt : j + 1 < n := by omega
    refine codeAny_builtin F.entry_max_loop ?_
    rw [Around.under_plainId F.plain_max_loop _]
    show wpAny _ A.in1 (seqItems? (.ref S) >>= _) _ _ s
    refine wpAny_bind (wpAny_seqItems hS rfl ?_)
    show wpAny _ A.in1 (tryCatch (pyNext (.ref I)) _ >>= _) _ _ s
    refine wpAny_bind (wpAny_tryCatch (W.item (j + 1) s _ _ hlt hst fun v h' tk hP hst' hk' => ?_))
    have hS' := hk' S _ hSw hS
    show wpAny _ A.in1 (tryCatch (holding [v, v] (richCompare .Gt v vb >>= _)) _ >>= _) _ _ _
    refine wpAny_bind (wpAny_tryCatch (wpAny_holding (wpAny_bind (hcmp (j + 1) (argBest bt j) v vb _ _ _ hP hPb ?_))))
    refine wpAny_bind (wpAny_holding (wpAny_truthy_bool ?_))
    refine wpAny_bind (wpAny_letGo (wpAny_pure ?_))
    cases hb : bt (j + 1) (argBest bt j) with
    | true =>
      simp only [if_true]
      refine wpAny_bind ?_
      refine wpAny_updateSeq hS' rfl (wpAny_bind (wpAny_letGo ?_))
      rw [hname]
      refine wpAny_pure ⟨plainId_quiet F.plain_max_loop _, ih (j + 1) _ v _ (by omega) hlt (W.frame _ _ _ hst' fun b hbf o e => ?_) (by simp only [argBest, hb, if_true]; exact hP) (Heap.get?_update_self _ hS' rfl)
        fun v' h'' tk'' hP' hk'' => ?_⟩
      · exact (Heap.get?_update_other _ _ (fun h : S = b => hSf (by rw [h]; exact hbf))).trans e
      · exact hR v' h'' tk'' hP' fun b o hbw hbS e => hk'' b o hbw hbS ((Heap.get?_update_other _ _ (Ne.symm hbS)).trans (hk' b o hbw e))
    | false =>
      simp only [Bool.false_eq_true, if_false]
      refine wpAny_bind (wpAny_letGo ?_)
      rw [hname]
      refine wpAny_pure ⟨plainId_quiet F.plain_max_loop _, ih (j + 1) _ vb c (by omega) hlt hst' (by simp only [argBest, hb, Bool.false_eq_true, if_false]; exact hPb) hS' fun v' h'' tk'' hP' hk'' => ?_⟩
      exact hR v' h'' tk'' hP' fun b o hbw hbS e => hk'' b o hbw hbS (hk' b o hbw e)
theorem maxd_first (W : Walks prog w A.in1 I fp wr n P St) (bt : Nat → Nat → Bool) (hcmp : CmpOf prog w A.in1 .Gt P bt) (S : Addr) (hSf : S ∉ fp) (kw : List (Str × Value)) (hn : 0 < n) {s : Shared} {c : Nat} (hst : St 0 s.heap)
    (hS : s.heap.get? S = some { cls := .type "list", dict := none, data := .seq #[] c, slots := #[] })
    (hR : ∀ v h' tk, P (argBest bt (n - 1)) v → (∀ b o, b ∉ wr → b ≠ S → s.heap.get? b = some o → h'.get? b = some o) → R (.ok (.ret v)) { s with heap := h', toks := tk }) :
    codeAny (model prog w) A (.builtin "max.loop" ⟨[.ref I, .none, .ref S], kw⟩) R s := by
  have hSw : S ∉ wr := fun h => hSf (W.sub _ h)
  have hname : (toString "max" ++ toString ".loop" : String) = "max.loop" := by decide
  refine codeAny_builtin F.entry_max_loop ?_
  rw [Around.under_plainId F.plain_max_loop _]
  show wpAny _ A.in1 (seqItems? (.ref S) >>= _) _ _ s
  refine wpAny_bind (wpAny_seqItems hS rfl ?_)
  show wpAny _ A.in1 (tryCatch (pyNext (.ref I)) _ >>= _) _ _ s
  refine wpAny_bind (wpAny_tryCatch (W.item 0 s _ _ hn hst fun v h' tk hP hst' hk' => ?_))
  have hS' := hk' S _ hSw hS
  show wpAny _ A.in1 (updateSeq S (fun _ => #[v, v]) >>= _) _ _ _
  refine wpAny_bind ?_
  refine wpAny_updateSeq hS' rfl ?_
  rw [hname]
  refine wpAny_pure ⟨plainId_quiet F.plain_max_loop _, maxd_loop W bt hcmp S hSf kw _ 0 _ v _ rfl hn (W.frame _ _ _ hst' fun b hbf o e => ?_) hP (Heap.get?_update_self _ hS' rfl) fun v' h'' tk'' hP' hk'' => ?_⟩
  · exact (Heap.get?_update_other _ _ (fun h : S = b => hSf (by rw [h]; exact hbf))).trans e
  · exact hR v' h'' tk'' hP' fun b o hbw hbS e => hk'' b o hbw hbS ((Heap.get?_update_other _ _ (Ne.symm hbS)).trans (hk' b o hbw e))
theorem maxd_none (W : Walks prog w A.in1 I fp wr 0 P St) (S : Addr) (hSf : S ∉ fp) (k : Str) (d : Value) {s : Shared} {c : Nat} (hst : St 0 s.heap)
    (hS : s.heap.get? S = some { cls := .type "list", dict := none, data := .seq #[] c, slots := #[] })
    (hR : ∀ h' tk, (∀ b o, b ∉ wr → b ≠ S → s.heap.get? b = some o → h'.get? b = some o) → R (.ok (.ret d)) { s with heap := h', toks := tk }) :
    codeAny (model prog w) A (.builtin "max.loop" ⟨[.ref I, .none, .ref S], [(k, d)]⟩) R s := by
  have hSw : S ∉ wr := fun h => hSf (W.sub _ h)
  refine codeAny_builtin F.entry_max_loop ?_
  rw [Around.under_plainId F.plain_max_loop _]
  show wpAny _ A.in1 (seqItems? (.ref S) >>= _) _ _ s
  refine wpAny_bind (wpAny_seqItems hS rfl ?_)
  show wpAny _ A.in1 (tryCatch (pyNext (.ref I)) _ >>= _) _ _ s
  refine wpAny_bind (wpAny_tryCatch (W.done s _ _ hst fun h' tk hk' => ?_))
  show wpAny _ A.in1 (PySem.rule _ >>= _) _ _ _
  refine wpAny_bind (wpAny_rule (wpAny_pure ?_))
  exact hR _ tk fun b o hbw hbS e => hk' b o hbw e
end
section
variable {prog : Program} {w : World} {A : Around} {E : Value → Shared → Prop} {s : Shared} {l : Addr} {xs : Array (Int × Tok)}
theorem args_maxd (a d : Value) : argsOk "max" ⟨[a], [("default", d)]⟩ := by unfold argsOk; kernel_rfl
theorem maxd_list {d : Value} {Q : Value → Shared → Prop} (hh : A.handled = none) (hl : s.heap.IsList l (intItems xs))
    (h0 : xs.size = 0 → ∀ h' tk, (∀ b o, s.heap.get? b = some o → h'.get? b = some o) → Q d { s with heap := h', toks := tk })
    (h : 0 < xs.size → ∀ v h' tk, (intItems xs)[argBest (fun i j => decide (numAt xs i > numAt xs j)) (xs.size - 1)]? = some v → (∀ b o, s.heap.get? b = some o → h'.get? b = some o) → Q v { s with heap := h', toks := tk }) :
    wpAny (model prog w) A (call (.builtin "max") [.ref l] [("default", d)]) Q E s := by
  have hname : (toString "max" ++ toString ".loop" : String) = "max.loop" := by decide
  refine tree_kw F.kind_max F.plain_max F.entry_max (args_maxd _ _) ?_
  show wpAny _ A.in1 (Builtin.Builtins.bindParams "max" ["key", "default"] 0 ⟨[], [("default", d)]⟩ >>= _) _ _ s
  refine wpAny_bind (wpAny_of_eq (show Builtin.Builtins.bindParams "max" ["key", "default"] 0 ⟨[], [("default", d)]⟩ = pure [none, some d] from rfl) ?_)
  refine wpAny_bind (wpAny_pure ?_)
  refine wpAny_bind (iter_intList hl fun s₂ e st hfp hlI => ?_)
  refine wpAny_bind (wpAny_newObj_type ?_)
  have hSf : s₂.heap.objs.size ∉ [s.heap.objs.size, l] := fun hm => Nat.lt_irrefl _ (hfp _ hm)
  rw [hname]
  subst e
  have W := Walks.list (prog := prog) (w := w) (A := A.in1) hh s.heap.objs.size l hlI (intItems xs)
  refine wpAny_pure ⟨plainId_quiet F.plain_max_loop _, ?_⟩
  by_cases hz : xs.size = 0
  · have hz' : (intItems xs).size = 0 := by simpa [intItems] using hz
    rw [hz'] at W
    refine maxd_none W _ hSf _ d (W.frame _ _ _ st fun b _ o e => Heap.get?_push_of_some _ e) (Heap.get?_push_size _ rfl) fun h' tk hk => ?_
    exact h0 hz h' tk (old_kept fun b o hbw e => hk b o hbw (Nat.ne_of_lt (Heap.lt_size e)) (Heap.get?_push_of_some _ e))
  · refine maxd_first W _ (CmpOf.ints_gt (numAt xs) (fun _ _ => intItems_at)) _ hSf _ (by simp [intItems]; omega) (W.frame _ _ _ st fun b _ o e => Heap.get?_push_of_some _ e) (Heap.get?_push_size _ rfl) fun v h' tk hP hk => ?_
    exact h (by omega) v h' tk (by simpa [intItems] using hP) (old_kept fun b o hbw e => hk b o hbw (Nat.ne_of_lt (Heap.lt_size e)) (Heap.get?_push_of_some _ e))
end

section
variable {prog : Program} {w : World} {A : Around} {R : Result → Shared → Prop} {I : Addr} {fp wr : List Addr} {n : Nat} {P : Nat → Value → Prop} {St : Nat → Heap → Prop}
theorem mind_loop (W : Walks prog w A.in1 I fp wr n P St) (bt : Nat → Nat → Bool) (hcmp : CmpOf prog w A.in1 .Lt P bt) (S : Addr) (hSf : S ∉ fp) (kw : List (Str × Value)) :
    ∀ (k j : Nat) (s : Shared) (vb : Value) (c : Nat), n - (j + 1) = k → j + 1 ≤ n → St (j + 1) s.heap → P (argBest bt j) vb →
    s.heap.get? S = some { cls := .type "list", dict := none, data := .seq #[vb, vb] c, slots := #[] } →
    (∀ v h' tk, P (argBest bt (n - 1)) v → (∀ b o, b ∉ wr → b ≠ S → s.heap.get? b = some o → h'.get? b = some o) → R (.ok (.ret v)) { s with heap := h', toks := tk }) →
    codeAny (model prog w) A (.builtin "min.loop" ⟨[.ref I, .none, .ref S], kw⟩) R s := by
  have hSw : S ∉ wr := fun h => hSf (W.sub _ h)
  have hname : (toString "min" ++ toString ".loop" : String) = "min.loop" := by decide
  intro k
  induction k with
  | zero =>
    intro j s vb c hk hj hst hPb hS hR
    have hin : j + 1 = n := by omega
    refine codeAny_builtin F.entry_min_loop ?_
    rw [Around.under_plainId F.plain_min_loop _]
    show wpAny _ A.in1 (seqItems? (.ref S) >>= _) _ _ s
    refine wpAny_bind (wpAny_seqItems hS rfl ?_)
    show wpAny _ A.in1 (tryCatch (pyNext (.ref I)) _ >>= _) _ _ s
    refine wpAny_bind (wpAny_tryCatch (W.done s _ _ (hin ▸ hst) fun h' tk hk' => ?_))
    have hS' := hk' S _ hSw hS
    show wpAny _ A.in1 (updateSeq S (fun _ => #[]) >>= _) _ _ _
    refine wpAny_bind ?_
    refine wpAny_updateSeq hS' rfl (wpAny_bind (wpAny_letGo (wpAny_pure ?_)))
    refine hR vb _ tk (by rw [← hin]; exact hPb) fun b o hbw hbS e => (Heap.get?_update_other _ _ (Ne.symm hbS)).trans (hk' b o hbw e)
  | succ k ih =>
    intro j s vb c hk hj hst hPb hS hR
    have hlt : j + 1 < n := by omega
    refine codeAny_builtin F.entry_min_loop ?_
    rw [Around.under_plainId F.plain_min_loop _]
    show wpAny _ A.in1 (seqItems? (.ref S) >>= _) _ _ s
    refine wpAny_bind (wpAny_seqItems hS rfl ?_)
    show wpAny _ A.in1 (tryCatch (pyNext (.ref I)) _ >>= _) _ _ s
    refine wpAny_bind (wpAny_tryCatch (W.item (j + 1) s _ _ hlt hst fun v h' tk hP hst' hk' => ?_))
    have hS' := hk' S _ hSw hS
    show wpAny _ A.in1 (tryCatch (holding [v, v] (richCompare .Lt v vb >>= _)) _ >>= _) _ _ _
    refine wpAny_bind (wpAny_tryCatch (wpAny_holding (wpAny_bind (hcmp (j + 1) (argBest bt j) v vb _ _ _ hP hPb ?_))))
    refine wpAny_bind (wpAny_holding (wpAny_truthy_bool ?_))
    refine wpAny_bind (wpAny_letGo (wpAny_pure ?_))
    cases hb : bt (j + 1) (argBest bt j) with
    | true =>
      simp only [if_true]
      refine wpAny_bind ?_
      refine wpAny_updateSeq hS' rfl (wpAny_bind (wpAny_letGo ?_))
      rw [hname]
      refine wpAny_pure ⟨plainId_quiet F.plain_min_loop _, ih (j + 1) _ v _ (by omega) hlt (W.frame _ _ _ hst' fun b hbf o e => ?_) (by simp only [argBest, hb, if_true]; exact hP) (Heap.get?_update_self _ hS' rfl)
        fun v' h'' tk'' hP' hk'' => ?_⟩
      · exact (Heap.get?_update_other _ _ (fun h : S = b => hSf (by rw [h]; exact hbf))).trans e
      · exact hR v' h'' tk'' hP' fun b o hbw hbS e => hk'' b o hbw hbS ((Heap.get?_update_other _ _ (Ne.symm hbS)).trans (hk' b o hbw e))
    | false =>
      simp only [Bool.false_eq_true, if_false]
      refine wpAny_bind (wpAny_letGo ?_)
      rw [hname]
      refine wpAny_pure ⟨plainId_quiet F.plain_min_loop _, ih (j + 1) _ vb c (by omega) hlt hst' (by simp only [argBest, hb, Bool.false_eq_true, if_false]; exact hPb) hS' fun v' h'' tk'' hP' hk'' => ?_⟩
      exact hR v' h'' tk'' hP' fun b o hbw hbS e => hk'' b o hbw hbS (hk' b o hbw e)
theorem mind_first (W : Walks prog w A.in1 I fp wr n P St) (bt : Nat → Nat → Bool) (hcmp : CmpOf prog w A.in1 .Lt P bt) (S : Addr) (hSf : S ∉ fp) (kw : List (Str × Value)) (hn : 0 < n) {s : Shared} {c : Nat} (hst : St 0 s.heap)
    (hS : s.heap.get? S = some { cls := .type "list", dict := none, data := .seq #[] c, slots := #[] })
    (hR : ∀ v h' tk, P (argBest bt (n - 1)) v → (∀ b o, b ∉ wr → b ≠ S → s.heap.get? b = some o → h'.get? b = some o) → R (.ok (.ret v)) { s with heap := h', toks := tk }) :
    codeAny (model prog w) A (.builtin "min.loop" ⟨[.ref I, .none, .ref S], kw⟩) R s := by
  have hSw : S ∉ wr := fun h => hSf (W.sub _ h)
  have hname : (toString "min" ++ toString ".loop" : String) = "min.loop" := by decide
  refine codeAny_builtin F.entry_min_loop ?_
  rw [Around.under_plainId F.plain_min_loop _]
  show wpAny _ A.in1 (seqItems? (.ref S) >>= _) _ _ s
  refine wpAny_bind (wpAny_seqItems hS rfl ?_)
  show wpAny _ A.in1 (tryCatch (pyNext (.ref I)) _ >>= _) _ _ s
  refine wpAny_bind (wpAny_tryCatch (W.item 0 s _ _ hn hst fun v h' tk hP hst' hk' => ?_))
  have hS' := hk' S _ hSw hS
  show wpAny _ A.in1 (updateSeq S (fun _ => #[v, v]) >>= _) _ _ _
  refine wpAny_bind ?_
  refine wpAny_updateSeq hS' rfl ?_
  rw [hname]
  refine wpAny_pure ⟨plainId_quiet F.plain_min_loop _, mind_loop W bt hcmp S hSf kw _ 0 _ v _ rfl hn (W.frame _ _ _ hst' fun b hbf o e => ?_) hP (Heap.get?_update_self _ hS' rfl) fun v' h'' tk'' hP' hk'' => ?_⟩
  · exact (Heap.get?_update_other _ _ (fun h : S = b => hSf (by rw [h]; exact hbf))).trans e
  · exact hR v' h'' tk'' hP' fun b o hbw hbS e => hk'' b o hbw hbS ((Heap.get?_update_other _ _ (Ne.symm hbS)).trans (hk' b o hbw e))
theorem mind_none (W : Walks prog w A.in1 I fp wr 0 P St) (S : Addr) (hSf : S ∉ fp) (k : Str) (d : Value) {s : Shared} {c : Nat} (hst : St 0 s.heap)
    (hS : s.heap.get? S = some { cls := .type "list", dict := none, data := .seq #[] c, slots := #[] })
    (hR : ∀ h' tk, (∀ b o, b ∉ wr → b ≠ S → s.heap.get? b = some o → h'.get? b = some o) → R (.ok (.ret d)) { s with heap := h', toks := tk }) :
    codeAny (model prog w) A (.builtin "min.loop" ⟨[.ref I, .none, .ref S], [(k, d)]⟩) R s := by
  have hSw : S ∉ wr := fun h => hSf (W.sub _ h)
  refine codeAny_builtin F.entry_min_loop ?_
  rw [Around.under_plainId F.plain_min_loop _]
  show wpAny _ A.in1 (seqItems? (.ref S) >>= _) _ _ s
  refine wpAny_bind (wpAny_seqItems hS rfl ?_)
  show wpAny _ A.in1 (tryCatch (pyNext (.ref I)) _ >>= _) _ _ s
  refine wpAny_bind (wpAny_tryCatch (W.done s _ _ hst fun h' tk hk' => ?_))
  show wpAny _ A.in1 (PySem.rule _ >>= _) _ _ _
  refine wpAny_bind (wpAny_rule (wpAny_pure ?_))
  exact hR _ tk fun b o hbw hbS e => hk' b o hbw e
end
section
variable {prog : Program} {w : World} {A : Around} {E : Value → Shared → Prop} {s : Shared} {l : Addr} {xs : Array (Int × Tok)}
theorem args_mind (a d : Value) : argsOk "min" ⟨[a], [("default", d)]⟩ := by unfold argsOk; kernel_rfl
theorem mind_list {d : Value} {Q : Value → Shared → Prop} (hh : A.handled = none) (hl : s.heap.IsList l (intItems xs))
    (h0 : xs.size = 0 → ∀ h' tk, (∀ b o, s.heap.get? b = some o → h'.get? b = some o) → Q d { s with heap := h', toks := tk })
    (h : 0 < xs.size → ∀ v h' tk, (intItems xs)[argBest (fun i j => decide (numAt xs i < numAt xs j)) (xs.size - 1)]? = some v → (∀ b o, s.heap.get? b = some o → h'.get? b = some o) → Q v { s with heap := h', toks := tk }) :
    wpAny (model prog w) A (call (.builtin "min") [.ref l] [("default", d)]) Q E s := by
  have hname : (toString "min" ++ toString ".loop" : String) = "min.loop" := by decide
  refine tree_kw F.kind_min F.plain_min F.entry_min (args_mind _ _) ?_
  show wpAny _ A.in1 (Builtin.Builtins.bindParams "min" ["key", "default"] 0 ⟨[], [("default", d)]⟩ >>= _) _ _ s
  refine wpAny_bind (wpAny_of_eq (show Builtin.Builtins.bindParams "min" ["key", "default"] 0 ⟨[], [("default", d)]⟩ = pure [none, some d] from rfl) ?_)
  refine wpAny_bind (wpAny_pure ?_)
  refine wpAny_bind (iter_intList hl fun s₂ e st hfp hlI => ?_)
  refine wpAny_bind (wpAny_newObj_type ?_)
  have hSf : s₂.heap.objs.size ∉ [s.heap.objs.size, l] := fun hm => Nat.lt_irrefl _ (hfp _ hm)
  rw [hname]
  subst e
  have W := Walks.list (prog := prog) (w := w) (A := A.in1) hh s.heap.objs.size l hlI (intItems xs)
  refine wpAny_pure ⟨plainId_quiet F.plain_min_loop _, ?_⟩
  by_cases hz : xs.size = 0
  · have hz' : (intItems xs).size = 0 := by simpa [intItems] using hz
    rw [hz'] at W
    refine mind_none W _ hSf _ d (W.frame _ _ _ st fun b _ o e => Heap.get?_push_of_some _ e) (Heap.get?_push_size _ rfl) fun h' tk hk => ?_
    exact h0 hz h' tk (old_kept fun b o hbw e => hk b o hbw (Nat.ne_of_lt (Heap.lt_size e)) (Heap.get?_push_of_some _ e))
  · refine mind_first W _ (CmpOf.ints_lt (numAt xs) (fun _ _ => intItems_at)) _ hSf _ (by simp [intItems]; omega) (W.frame _ _ _ st fun b _ o e => Heap.get?_push_of_some _ e) (Heap.get?_push_size _ rfl) fun v h' tk hP hk => ?_
    exact h (by omega) v h' tk (by simpa [intItems] using hP) (old_kept fun b o hbw e => hk b o hbw (Nat.ne_of_lt (Heap.lt_size e)) (Heap.get?_push_of_some _ e))
end
end VdMm

namespace L2
open PySem PySem.Spec PyProof.Rows VdMm
section
variable {X : Cx}
/-- min or max of a list of ints, default=None -/
noncomputable def rMd (K : PySem.W.Frag) (mx : Bool) : List V → List V → Hp → VK → Prop := fun vs zs H Q => ∃ (a : Addr) (ns : List Int), vs = [V.ref a] ∧ zs = [V.non] ∧ SqL K H a (ns.map V.int) ∧ (ns = [] → Q .non H) ∧ ∀ m, m ∈ ns → (∀ y, y ∈ ns → if mx = true then y ≤ m else m ≤ y) → Q (.int m) H
theorem vals_non {ws : List Value} (r : Vals [V.non] ws) : ws = [Value.none] := by
  cases r with
  | cons r t => cases t; cases r; rfl
theorem cr_maxd (hc : X.calm = true) : CallRK X (.builtin "max") ["default"] (rMd X.K true) := by
  intro pins s σ H vs zs us ws Q I r rz h
  obtain ⟨a, ns, rfl, rfl, hs, hn, q⟩ := h
  obtain ⟨its, rv, hl, _⟩ := I.list hs
  rw [Vals.ref1 r, vals_non rz]
  have hi := rv.ints
  obtain ⟨xs, e⟩ := hi.allInts.items
  have hns : ns = xs.toList.map (·.1) := by
    rw [← hi.numsOf, ← nums_intItems, ← e]
  have hl' := hl.isList
  rw [e] at hl'
  have hz : xs.size = ns.length := by rw [hns, List.length_map, Array.length_toList]
  refine maxd_list (I.ok.hd hc) hl' (fun h0 h' tk hk => ⟨.non, H, I.kept hk, rfl, hn (List.length_eq_zero_iff.mp (by omega))⟩) fun h0 v h' tk hv hk => ?_
  obtain ⟨t, rfl⟩ := intItems_at hv
  obtain ⟨h1, h2⟩ := argBest_gt (numAt xs) (xs.size - 1)
  refine ⟨.int _, H, I.kept hk, ⟨_, rfl⟩, q _ ?_ fun b hb => ?_⟩
  · rw [hns, numAt_eq]; exact getD_mem (by rw [List.length_map, Array.length_toList]; omega)
  · rw [hns] at hb
    obtain ⟨j, hj, rfl⟩ := mem_getD hb
    rw [List.length_map, Array.length_toList] at hj
    rw [← numAt_eq]; exact h2 j (by omega)
theorem cr_mind (hc : X.calm = true) : CallRK X (.builtin "min") ["default"] (rMd X.K false) := by
  intro pins s σ H vs zs us ws Q I r rz h
  obtain ⟨a, ns, rfl, rfl, hs, hn, q⟩ := h
  obtain ⟨its, rv, hl, _⟩ := I.list hs
  rw [Vals.ref1 r, vals_non rz]
  have hi := rv.ints
  obtain ⟨xs, e⟩ := hi.allInts.items
  have hns : ns = xs.toList.map (·.1) := by
    rw [← hi.numsOf, ← nums_intItems, ← e]
  have hl' := hl.isList
  rw [e] at hl'
  have hz : xs.size = ns.length := by rw [hns, List.length_map, Array.length_toList]
  refine mind_list (I.ok.hd hc) hl' (fun h0 h' tk hk => ⟨.non, H, I.kept hk, rfl, hn (List.length_eq_zero_iff.mp (by omega))⟩) fun h0 v h' tk hv hk => ?_
  obtain ⟨t, rfl⟩ := intItems_at hv
  obtain ⟨h1, h2⟩ := argBest_lt (numAt xs) (xs.size - 1)
  refine ⟨.int _, H, I.kept hk, ⟨_, rfl⟩, q _ ?_ fun b hb => ?_⟩
  · rw [hns, numAt_eq]; exact getD_mem (by rw [List.length_map, Array.length_toList]; omega)
  · rw [hns] at hb
    obtain ⟨j, hj, rfl⟩ := mem_getD hb
    rw [List.length_map, Array.length_toList] at hj
    rw [← numAt_eq]; exact h2 j (by omega)
end
end L2

set_option Elab.async false
set_option linter.all false
set_option maxRecDepth 100000
/-! enumerate over a tuple (the proof follows the kit's for lists) -/
namespace VdEn
open PySem PySem.Spec PyProof.Rows L2
noncomputable def IteT (K : PySem.W.Frag) (a : Addr) : It :=
  ⟨fun i H => ∃ (xs : List V) (x : V), SqT K H a xs ∧ xs[i]? = some x, fun i H v H' => ∃ T x, v = .ref T ∧ H T = none ∧ H' = upd H T (.tup [.int (i : Nat), x]) ∧ ∀ xs, SqT K H a xs → xs[i]? = some x, fun i H => ∃ xs : List V, SqT K H a xs ∧ xs.length ≤ i⟩
section
variable {prog : Program} {w : World} {A : Around} {E : Value → Shared → Prop} {s : Shared}
theorem enumT_end {e it l : Addr} {i : Nat} {items : Array Value} {old : Value} {Q : Option Value → Shared → Prop} (hh : A.handled = none)
    (he : IsEnum s.heap e it i old) (hit : s.heap.IsTupleIter it l i) (hl : s.heap.IsTuple l items) (hx : items[i]? = none)
    (hQ : ∀ h', Heap.ExtBut it s.heap h' → Q none { s with heap := h' }) : wpAny (model prog w) A (pyNext (.ref e)) Q E s := by
  have hT : s.TypeIs (.ref e) "enumerate" := ⟨_, he, rfl⟩
  unfold pyNext
  refine wpAny_bind (wpAny_attempt (wpAny_callSpecial?_slot (name := Str.ofString "__next__") hT F.slot_enumerate_next
    (wpAny_call_entry F.slot_enumerate_next hT F.entry_enumerate_next ?_ (F.args_enumerate_next_1 _))))
  show wpAny _ _ (field (.ref e) 2 >>= _) _ _ _
  refine wpAny_bind (wpAny_field he rfl (x := .ref it) rfl ?_)
  refine wpAny_bind (wpAny_nextOf_tuple_end hh hit hl hx fun h' x he' hx' => ?_)
  obtain ⟨o, ho, hc⟩ := hx'
  refine wpAny_bind (wpAny_isInstance (T := "StopIteration") (b := true) ⟨o, ho, hc⟩ isSubtype_stop ?_)
  exact wpAny_pure (hQ _ he')
end
set_option maxHeartbeats 1000000 in
theorem meets_enum1 {v : Value} {o : Obj} {H : Heap → Prop} (B : Begins v o H) :
    Meets (Builtin.«enumerate.__new__» ⟨[.type "enumerate", v], []⟩) (fun _ R s => H s.heap ∧
      R (.ok (.ret (.ref (s.heap.push o).objs.size))) { s with heap := (s.heap.push o).push { cls := .type "enumerate", data := .fields #[.none, .bool false, .ref s.heap.objs.size, rawInt 0, .none, .none] } }) :=
  .of_wp fun prog w A R s h => by
    obtain ⟨hp, g, d, tk, os⟩ := s; obtain ⟨h1, h⟩ := h
    have hsub := sub_enumerate
    have q1 : ∀ {A' : Around} {E : Value → Shared → Prop} {Q : Value → Shared → Prop}, Q (.ref hp.objs.size) ⟨hp.push o, g, d, tk, os⟩ → wpAny (model prog w) A' (pyIter v) Q E ⟨hp, g, d, tk, os⟩ :=
      fun q => B.iter prog w _ _ ⟨hp, g, d, tk, os⟩ _ h1 q
    wp_walk using q1
    refine wpAny_stack_any fun st => wpAny_pure ?_
    split
    · rename_i c _ _ _ _ _
      cases (c == Value.type "enumerate")
      · wp_walk using q1
        exact ⟨_, rfl, h⟩
      · wp_walk using q1
        exact ⟨_, rfl, h⟩
    · wp_walk using q1
      exact ⟨_, rfl, h⟩
section
variable {prog : Program} {w : World} {A : Around} {E : Value → Shared → Prop} {s : Shared}
theorem enum_begins1 {v : Value} {o : Obj} {H : Heap → Prop} {Q : Value → Shared → Prop} (B : Begins v o H) (h1 : H s.heap)
    (h : ∀ h', IsEnum h' (s.heap.objs.size + 1) s.heap.objs.size 0 .none → h'.get? s.heap.objs.size = some o → h'.objs.size = s.heap.objs.size + 2 →
      (∀ b o, s.heap.get? b = some o → h'.get? b = some o) → Q (.ref (s.heap.objs.size + 1)) { s with heap := h' }) :
    wpAny (model prog w) A (call (.type "enumerate") [v]) Q E s := by
  refine callType_new F.called_enumerate (by decide) (F.typeCall_enumerate_1 _) (F.newCall_enumerate_1 _) (fun obj => F.args_object_init_2 obj _) F.entry_enumerate_new
    (meets_enum1 B) ⟨h1, ?_⟩
  have hz : (s.heap.push o).objs.size = s.heap.objs.size + 1 := Heap.size_push ..
  show _ ∧ _
  rw [hz]
  have he : IsEnum ((s.heap.push o).push { cls := .type "enumerate", data := .fields #[.none, .bool false, .ref s.heap.objs.size, rawInt 0, .none, .none] }) (s.heap.objs.size + 1) s.heap.objs.size 0 .none := by
    have := Heap.get?_push_size (s.heap.push o) (o := { cls := .type "enumerate", data := .fields #[.none, .bool false, .ref s.heap.objs.size, rawInt 0, .none, .none] }) rfl
    rw [hz] at this; exact this
  refine ⟨⟨_, he, rfl⟩, h _ he (Heap.get?_push_of_some _ (Heap.get?_push_size _ B.free)) (by rw [Heap.size_push, hz]) fun b o x => Heap.get?_push_of_some _ (Heap.get?_push_of_some _ x)⟩
end
theorem turn_enumT {P : Program} {w : World} {K : PySem.W.Frag} {elts : List Expr} {kk : Nat} {tpos : Pos} (a e it : Addr) :
    Turn P w K (.Tuple elts kk tpos) (IteT K a) [e, it] e (fun i h => (∃ old, IsEnum h e it ((i : Nat) : Int) old) ∧ h.IsTupleIter it a i ∧ e ≠ it) where
  mem := by simp
  obj := fun i h st b hb => by
    obtain ⟨⟨old, he⟩, ⟨o, ho, hc, hd⟩, _⟩ := st
    have e' : b = e ∨ b = it := by simpa using hb
    rcases e' with z | z
    · rw [z]; exact ⟨_, he, fun v q => nomatch q⟩
    · rw [z]; exact ⟨o, ho, fun v q => by rw [hd] at q; cases q⟩
  keep := fun i h h' st k => let ⟨⟨old, he⟩, hi, hne⟩ := st; ⟨⟨old, k e (by simp) _ he⟩, hi.at fun o q => k it (by simp) o q, hne⟩
  item := by
    intro X hP hw hK hc i pins s σ H E I hf st hg
    subst hP hw hK
    obtain ⟨⟨old, he⟩, hit, hne⟩ := st
    obtain ⟨xs, x, hq, hx⟩ := hg
    obtain ⟨its, rv, p, hz⟩ := I.tuple hq
    obtain ⟨u, hu, ru⟩ := rv.get hx
    have hel : e < s.heap.objs.size := Heap.lt_size he
    have hil : it < s.heap.objs.size := by obtain ⟨_, q, _⟩ := hit; exact Heap.lt_size q
    have hta : s.heap.IsTuple a its.toArray := p
    have hai : a ≠ it := fun z => by
      obtain ⟨o1, q1, c1, _⟩ := hta
      obtain ⟨o2, q2, c2, _⟩ := hit
      rw [z, q2] at q1
      cases q1
      rw [c2] at c1
      exact absurd c1 (by decide)
    have hae : a ≠ e := fun z => by
      obtain ⟨o1, q1, c1, _⟩ := hta
      rw [z] at q1
      have he' := he
      unfold IsEnum at he'
      rw [he'] at q1
      cases q1
      have c1 : (Value.type "enumerate") = Value.type "tuple" := c1
      exact absurd c1 (by decide)
    have hilt : i < its.toArray.size := by
      have := List.getElem?_eq_some_iff.mp hu
      simpa using this.1
    refine wpAny_pyNext_enum_itemD (Draws.tuple (prog := X.prog) (w := X.w) (A := X.A.in1) (I.ok.hd hc) it a hai its.toArray) he ⟨hit, hta⟩ hilt hne (by simp [hne, Ne.symm hae]) fun x' h' tk hx' ho hst' hT hsz hk => ?_
    obtain ⟨hit', _⟩ := hst'
    have ex : x' = u := by
      have h1 : its.toArray[i]? = some u := by simpa using hu
      rw [h1] at hx'
      exact (Option.some.inj hx').symm
    subst ex
    refine ⟨_, rfl, wpAny_letOwnedTupleGo_enum (s := { s with heap := h', toks := tk + 1 }) ho fun h'' he' sb => ?_⟩
    have hT2 : h''.get? s.heap.objs.size = some { cls := .type "tuple", data := .seq #[.int i tk, x'] } := (sb.2 _ (Nat.ne_of_gt hel)).trans hT
    have new : ObjOk X.prog X.w (upd H s.heap.objs.size (.tup [.int (i : Nat), x])) h'' s.heap.objs.size (.tup [.int (i : Nat), x]) :=
      ⟨by show 2 ≤ sizeLine; decide, [.int i tk, x'], .cons ⟨_, rfl⟩ (.cons ru .nil), ⟨_, hT2, rfl, _, rfl⟩⟩
    have I1 : Inv X pins σ (upd H s.heap.objs.size (.tup [.int (i : Nat), x])) { s with heap := h'', toks := tk + 1 } :=
      I.turnedNew (ch := [e, it]) (fun b ob hb q => (sb.2 b (fun z => hb (by simp [z]))).trans (hk b ob (fun z => hb (by simp [z])) (fun z => hb (by simp [z])) q)) hf (Nat.le_refl _) new
    refine ⟨.ref s.heap.objs.size, _, I1, rfl, ⟨_, x, rfl, I.hok.fresh (Nat.le_refl _), rfl, fun ys hy => by rw [I.tuple_inj hy hq]; exact hx⟩, ⟨⟨x', ?_⟩, hit'.at fun o q => (sb.2 it (Ne.symm hne)).trans q, hne⟩, fun b hb => ?_⟩
    · have e1 : ((i + 1 : Nat) : Int) = (i : Int) + 1 := by omega
      rw [e1]; exact he'
    · have hb' : b < s.heap.objs.size := by
        have e' : b = e ∨ b = it := by simpa using hb
        rcases e' with z | z
        · rw [z]; exact hel
        · rw [z]; exact hil
      rw [upd_ne (Nat.ne_of_lt hb')]
      exact (hf b hb).1
  done := by
    intro X hP hw hK hc i pins s σ H E I hf st hg
    subst hP hw hK
    obtain ⟨⟨old, he⟩, hit, hne⟩ := st
    obtain ⟨xs, hq, hx⟩ := hg
    obtain ⟨its, rv, p, hz⟩ := I.tuple hq
    obtain ⟨f0, f1, f2, f3, f4, f5⟩ := hf it (by simp)
    have hl := rv.length
    have hta : s.heap.IsTuple a its.toArray := p
    exact enumT_end (I.ok.hd hc) he hit hta (by simp; omega) fun h' eb => ⟨rfl, I.turned (t' := s.toks) (fun b o hb q => eb b o hb q) f0 f1 f3 f4 f5⟩
  self := fun A i s Q E st h => let ⟨⟨_, he⟩, _⟩ := st; wpAny_pyIter_enum he h
noncomputable def iEnumA (K : PySem.W.Frag) (ta : TA) : TI := fun σ H R => ta σ H fun vs H1 => ∃ a xs, vs = [.ref a] ∧ ((SqL K H1 a xs ∧ R (Ite K a) H1) ∨ (SqT K H1 a xs ∧ R (IteT K a) H1))
theorem pi_enumA {X : Cx} {e : Expr} {ta : TA} {p pos tpos : Pos} {elts : List Expr} {kk : Nat} (hg : Gl X "enumerate") (hm : X.mg "enumerate" = none) (ha : PA X [e] ta) (hs : starEach [e] X.env = [(false, eval e X.env)] := by rfl) :
    PI X (.Tuple elts kk tpos) (.Call (.Name "enumerate" p) [e] [] pos) (iEnumA X.K ta) := by
  refine ⟨fun pins s σ H R I h => ?_⟩
  refine Call_ (ld_blt I hg hm boot_enumerate (PyProof.Rows.callWith_type1 (thn (ha.run pos pins s σ H _ I h) fun us s1 ⟨vs, H1, I1, r1, q1⟩ => ?_) hs rfl))
  obtain ⟨a, xs, ex, q1⟩ := q1
  subst ex
  have fr : ∀ b, b ∈ [s1.heap.objs.size + 1, s1.heap.objs.size] → FpOk X pins H1 b := fun b hb => by
    have e' : b = s1.heap.objs.size + 1 ∨ b = s1.heap.objs.size := by simpa using hb
    have hle : s1.heap.objs.size ≤ b := by
      rcases e' with z | z
      · rw [z]; exact Nat.le_add_right _ _
      · rw [z]; exact Nat.le_refl _
    exact I1.fpOk hle (I1.hok.fresh hle)
  cases r1 with
  | cons r rr =>
    cases rr
    cases r
    rcases q1 with ⟨hq, q⟩ | ⟨hq, q⟩
    · obtain ⟨its, rv, p', hz⟩ := I1.list hq
      refine call_enumerate_list p'.isList fun h' he hit hsz hk => wpAny_pyIter_enum he ?_
      have I2 : Inv X pins σ H1 { s1 with heap := h' } := I1.kept (t' := s1.toks) hk
      exact ⟨s1.heap.objs.size + 1, [s1.heap.objs.size + 1, s1.heap.objs.size], _, _, H1, rfl, I2, turn_enum a (s1.heap.objs.size + 1) s1.heap.objs.size, ⟨⟨.none, he⟩, hit, Nat.succ_ne_self _⟩, fr, q⟩
    · obtain ⟨its, rv, p', hz⟩ := I1.tuple hq
      refine enum_begins1 (begins_tuple a its.toArray) p' fun h' he hit hsz hk => wpAny_pyIter_enum he ?_
      have I2 : Inv X pins σ H1 { s1 with heap := h' } := I1.kept (t' := s1.toks) hk
      exact ⟨s1.heap.objs.size + 1, [s1.heap.objs.size + 1, s1.heap.objs.size], _, _, H1, rfl, I2, turn_enumT a (s1.heap.objs.size + 1) s1.heap.objs.size, ⟨⟨.none, he⟩, ⟨_, hit, rfl, rfl⟩, Nat.succ_ne_self _⟩, fr, q⟩
end VdEn

set_option Elab.async false
set_option linter.all false
set_option maxRecDepth 100000
/-! range(a, b) of bounds of any size (the proofs follow the kit's for small ones) -/
namespace VdRg
open PySem PySem.Spec PyProof.Rows L2
theorem turn_long {P : Program} {w : World} {K : PySem.W.Frag} {tg : Expr} (it : Addr) (lo : Int) (n : Nat) : Turn P w K tg (Itr lo n) [it] it (fun i h => IsLongIter h it (lo + (i : Nat) * 1) ((n : Int) - (i : Nat)) 1) where
  mem := by simp
  obj := fun i h st b hb => by
    have e : b = it := by simpa using hb
    subst e
    exact ⟨_, st, fun v z => by
      have z' : Data.fields _ = Data.cell v := z
      cases z'⟩
  keep := fun i h h' st k => k it (by simp) _ st
  item := by
    intro X hP hw hK hc i pins s σ H E I hf st hg
    subst hP hw hK
    obtain ⟨f0, f1, f2, f3, f4, f5⟩ := hf it (by simp)
    have W := Walks.longrange (prog := X.prog) (w := X.w) (I.ok.hd hc) it lo 1 n
    refine W.item i s _ _ hg st fun v h' tk hv st' kk => ?_
    obtain ⟨t, rfl⟩ := hv
    have I1 : Inv X pins σ H { s with heap := h', toks := tk } := I.turned (fun b o hb e => kk b o (by simpa using hb) e) f0 f1 f3 f4 f5
    refine ⟨_, rfl, go_of (s := { s with heap := h', toks := tk }) (n := "longrange_iterator") st' rfl rfl (by decide) ⟨.int (lo + i), H, I1, ⟨t, ?_⟩, ⟨rfl, rfl⟩, st', fun b hb => (hf b hb).1⟩⟩
    rw [Int.mul_one]
  done := by
    intro X hP hw hK hc i pins s σ H E I hf st hg
    subst hP hw hK
    obtain ⟨f0, f1, f2, f3, f4, f5⟩ := hf it (by simp)
    exact wpAny_pyNext_long_end (I.ok.hd hc) st (by have : n ≤ i := hg; omega) fun h' eb => ⟨rfl, I.turned (t' := s.toks) (fun b o hb e => eb b o hb e) f0 f1 f3 f4 f5⟩
  self := fun _ _ _ _ _ st h => wpAny_pyIter_longiter st h
theorem turn_longC {P : Program} {w : World} {K : PySem.W.Frag} {tg : Expr} (it : Addr) (lo c : Int) (n : Nat) : Turn P w K tg (Itc lo c n) [it] it (fun i h => IsLongIter h it (lo + (i : Nat) * c) ((n : Int) - (i : Nat)) c) where
  mem := by simp
  obj := fun i h st b hb => by
    have e : b = it := by simpa using hb
    subst e
    exact ⟨_, st, fun v z => by
      have z' : Data.fields _ = Data.cell v := z
      cases z'⟩
  keep := fun i h h' st k => k it (by simp) _ st
  item := by
    intro X hP hw hK hc i pins s σ H E I hf st hg
    subst hP hw hK
    obtain ⟨f0, f1, f2, f3, f4, f5⟩ := hf it (by simp)
    have W := Walks.longrange (prog := X.prog) (w := X.w) (I.ok.hd hc) it lo c n
    refine W.item i s _ _ hg st fun v h' tk hv st' kk => ?_
    obtain ⟨t, rfl⟩ := hv
    have I1 : Inv X pins σ H { s with heap := h', toks := tk } := I.turned (fun b o hb e => kk b o (by simpa using hb) e) f0 f1 f3 f4 f5
    exact ⟨_, rfl, go_of (s := { s with heap := h', toks := tk }) (n := "longrange_iterator") st' rfl rfl (by decide) ⟨.int (lo + (i : Nat) * c), H, I1, ⟨t, rfl⟩, ⟨rfl, rfl⟩, st', fun b hb => (hf b hb).1⟩⟩
  done := by
    intro X hP hw hK hc i pins s σ H E I hf st hg
    subst hP hw hK
    obtain ⟨f0, f1, f2, f3, f4, f5⟩ := hf it (by simp)
    exact wpAny_pyNext_long_end (I.ok.hd hc) st (by have : n ≤ i := hg; omega) fun h' eb => ⟨rfl, I.turned (t' := s.toks) (fun b o hb e => eb b o hb e) f0 f1 f3 f4 f5⟩
  self := fun _ _ _ _ _ st h => wpAny_pyIter_longiter st h
variable {X : Cx} {tg : Expr}
theorem range_itA {pins : List (Addr × Obj)} {σ : L2.St} {H : Hp} {s : Shared} {R : It → Hp → Prop} {E : Value → Shared → Prop} {lo hi : Int} {t u v : Tok} {tk : Nat} (I : Inv X pins σ H s)
    (q : R (Itr lo (hi - lo).toNat) H) : wpAny (model X.prog X.w) X.A (pyIter (.ref s.heap.objs.size)) (PIE X pins σ tg R) E { s with heap := s.heap.push { cls := .type "range", data := .fields #[.int lo t, .int hi u, .int 1 v] }, toks := tk } := by
  have I1 : Inv X pins σ H { s with heap := s.heap.push { cls := .type "range", data := .fields #[.int lo t, .int hi u, .int 1 v] }, toks := tk } := I.kept fun b o e => Heap.get?_push_of_some _ e
  have e1 : lo + ((0 : Nat) : Int) * 1 = lo := by simp
  have e2 : (((hi - lo).toNat : Nat) : Int) - ((0 : Nat) : Int) = Builtin.Range.rangeSize lo hi 1 := by rw [rangeSize_one]; split <;> omega
  have fr : ∀ b, b ∈ [(s.heap.push { cls := .type "range", data := .fields #[.int lo t, .int hi u, .int 1 v] }).objs.size] → FpOk X pins H b := fun b hb => by
    have e : b = (s.heap.push { cls := .type "range", data := .fields #[.int lo t, .int hi u, .int 1 v] }).objs.size := by simpa using hb
    subst e
    exact I1.fpOk (Nat.le_refl _) (I1.hok.fresh (Nat.le_refl _))
  by_cases hsm : Builtin.Range.small lo hi 1 = true
  · refine wpAny_pyIter_range (IsRange.new ..) hsm ?_
    refine ⟨(s.heap.push { cls := .type "range", data := .fields #[.int lo t, .int hi u, .int 1 v] }).objs.size, [(s.heap.push { cls := .type "range", data := .fields #[.int lo t, .int hi u, .int 1 v] }).objs.size], _, _, H, rfl,
      I1.kept (t' := tk) fun b o e => Heap.get?_push_of_some _ e, turn_range _ lo (hi - lo).toNat, ?_, fr, q⟩
    show IsRangeIter _ _ (lo + ((0 : Nat) : Int) * 1) ((((hi - lo).toNat : Nat) : Int) - ((0 : Nat) : Int)) 1
    rw [e1, e2]
    exact Heap.get?_push_size _ rfl
  · refine wpAny_pyIter_longrange (IsRange.new ..) (by simpa using hsm) ?_
    refine ⟨(s.heap.push { cls := .type "range", data := .fields #[.int lo t, .int hi u, .int 1 v] }).objs.size, [(s.heap.push { cls := .type "range", data := .fields #[.int lo t, .int hi u, .int 1 v] }).objs.size], _, _, H, rfl,
      I1.kept (t' := tk) fun b o e => Heap.get?_push_of_some _ e, turn_long _ lo (hi - lo).toNat, ?_, fr, q⟩
    show IsLongIter _ _ (lo + ((0 : Nat) : Int) * 1) ((((hi - lo).toNat : Nat) : Int) - ((0 : Nat) : Int)) 1
    rw [e1, e2]
    exact Heap.get?_push_size _ rfl
noncomputable def iRngA (ta : TA) : TI := fun σ H R => ta σ H fun vs H1 => ∃ i j : Int, vs = [.int i, .int j] ∧ R (Itr i (j - i).toNat) H1
theorem pi_rangeA {a b : Expr} {ta : TA} {p pos : Pos} (hg : Gl X "range") (hm : X.mg "range" = none) (ha : PA X [a, b] ta) (hs : starEach [a, b] X.env = [(false, eval a X.env), (false, eval b X.env)] := by rfl) (hs2 : starEach [b] X.env = [(false, eval b X.env)] := by rfl) :
    PI X tg (.Call (.Name "range" p) [a, b] [] pos) (iRngA ta) := by
  refine ⟨fun pins s σ H R I h => ?_⟩
  refine Call_ (ld_blt I hg hm boot_range (PyProof.Rows.callWith_type1 (thn (ha.run pos pins s σ H _ I h) fun us s1 ⟨vs, H1, I1, r1, q1⟩ => ?_) (by rw [hs, hs2]) (by rw [hs2]; rfl)))
  obtain ⟨i, j, e, q⟩ := q1
  subst e
  cases r1 with
  | cons r rr =>
    cases rr with
    | cons r' rr =>
      cases rr
      obtain ⟨t, rfl⟩ := r
      obtain ⟨t', rfl⟩ := r'
      exact call_range_2 (range_itA I1 q)
/-- range(i, j, c): bounds of any size, n items -/
noncomputable def RgA (i j c : Int) (n : Nat) : Prop := c ≠ 0 ∧ c.natAbs < 1073741824 ∧ Builtin.Range.rangeSize i j c = n
noncomputable def iRngB (ta : TA) : TI := fun σ H R => ta σ H fun vs H1 => ∃ (i j c : Int) (n : Nat), vs = [.int i, .int j, .int c] ∧ RgA i j c n ∧ R (Itc i c n) H1
theorem pi_rangeB {a b c : Expr} {ta : TA} {p pos : Pos} (hg : Gl X "range") (hm : X.mg "range" = none) (ha : PA X [a, b, c] ta)
    (hs : starEach [a, b, c] X.env = (false, eval a X.env) :: starEach [b, c] X.env := by rfl) (hpl : (backTo pos (starEach [b, c] X.env)).any (·.1) = false := by rfl) :
    PI X tg (.Call (.Name "range" p) [a, b, c] [] pos) (iRngB ta) := by
  refine ⟨fun pins s σ H R I h => ?_⟩
  refine Call_ (ld_blt I hg hm boot_range (PyProof.Rows.callWith_type1 (thn (ha.run pos pins s σ H _ I h) fun us s1 ⟨vs, H1, I1, r1, q1⟩ => ?_) hs hpl))
  obtain ⟨i, j, k, n, e, ⟨c0, c1, c3⟩, q⟩ := q1
  subst e
  cases r1 with
  | cons r rr =>
    cases rr with
    | cons r' rr =>
      cases rr with
      | cons r'' rr =>
        cases rr
        obtain ⟨t, rfl⟩ := r
        obtain ⟨t', rfl⟩ := r'
        obtain ⟨t'', rfl⟩ := r''
        refine call_range_3 c0 ?_ (.inl (PyProof.noPylong_small c1))
        have I2 : Inv X pins σ H1 { s1 with heap := s1.heap.push { cls := .type "range", data := .fields #[.int i t, .int j t', .int k t''] } } := I1.kept (t' := s1.toks) fun b o e => Heap.get?_push_of_some _ e
        have e1 : i + ((0 : Nat) : Int) * k = i := by simp
        have e2 : (n : Int) - ((0 : Nat) : Int) = Builtin.Range.rangeSize i j k := by rw [c3]; simp
        by_cases hsm : Builtin.Range.small i j k = true
        · refine wpAny_pyIter_range (IsRange.new ..) hsm ?_
          refine pi_one (tk := s1.toks) I2 _ (turn_rangeC _ i k n) ?_ q
          show IsRangeIter _ _ (i + ((0 : Nat) : Int) * k) ((n : Int) - ((0 : Nat) : Int)) k
          rw [e1, e2]
          exact Heap.get?_push_size _ rfl
        · refine wpAny_pyIter_longrange (IsRange.new ..) (by simpa using hsm) ?_
          refine pi_one (tk := s1.toks) I2 _ (turn_longC _ i k n) ?_ q
          show IsLongIter _ _ (i + ((0 : Nat) : Int) * k) ((n : Int) - ((0 : Nat) : Int)) k
          rw [e1, e2]
          exact Heap.get?_push_size _ rfl
end VdRg

set_option Elab.async false
set_option linter.all false
set_option maxRecDepth 100000
/-! list(range(a, b)) of bounds of any size -/
namespace VdLr
open PySem PySem.Spec PyProof.Rows L2
section
variable {prog : Program} {w : World} {A : Around} {E : Value → Shared → Prop} {s : Shared}
noncomputable abbrev itO (a b c : Int) : Obj := { cls := .type "longrange_iterator", data := .fields #[rawInt a, rawInt (Builtin.Range.rangeSize a b c), rawInt c] }
theorem ext_long {R : Result → Shared → Prop} {r S : Addr} {a b c : Int} {t u v : Tok} {n c0 : Nat} (hh : A.handled = none) (hr : IsRange s.heap r a b c t u v) (hb : Builtin.Range.small a b c = false)
    (hn : Builtin.Range.rangeSize a b c = n) (hl : n ≤ 2 ^ 24) (hS : s.heap.get? S = some { cls := .type "list", data := .seq #[] c0 })
    (hR : ∀ h' tk acc c', (∀ b o, b ≠ S → s.heap.get? b = some o → h'.get? b = some o) → h'.get? S = some { cls := .type "list", dict := none, data := .seq acc c', slots := #[] } → ItemsOf (fun i v => ∃ t, v = .int (a + i * c) t) acc n → R (.ok (.ret .none)) { s with heap := h', toks := tk }) :
    wpAny (model prog w) A.in1 (Builtin.List.listExtendWith (.ref S) (.ref r) .none)
      (fun fin s' => match fin with | .done f => R (.ok f) s' | .again c' => c'.quiet = true ∧ codeAny (model prog w) A c' R s') (fun e s' => R (.error e) s') s := by
  have n1 : S ≠ r := fun e => by rw [e, hr] at hS; simp at hS
  have n2 : S < s.heap.objs.size := Heap.lt_size hS
  have n3 : S ≠ s.heap.objs.size := Nat.ne_of_lt n2
  have n4 : S ∉ [s.heap.objs.size] := fun z => n3 (List.mem_singleton.mp z)
  have W := (Walks.longrange (prog := prog) (w := w) (A := A.in1) hh s.heap.objs.size a c n).toS
  have run : ∀ (h : Heap) (c1 tk : Nat), IsLongIter h s.heap.objs.size (a + ((0 : Nat) : Int) * c) ((n : Int) - ((0 : Nat) : Int)) c → (∀ b o, b ≠ S → s.heap.get? b = some o → h.get? b = some o) →
      h.get? S = some { cls := .type "list", data := .seq #[] c1 } → codeAny (model prog w) A (.builtin "list.extend.loop" ⟨[.ref S, .ref s.heap.objs.size, .none], []⟩) R { s with heap := h, toks := tk } := by
    intro h c1 tk i1 i2 i3
    refine codeAny_extend_loopS W (by rw [sizeLine_eq]; omega) S n4 .none n 0 _ #[] c1 rfl (Nat.zero_le _) i1 i3 (ItemsOf.nil _) fun s1 acc c2 mv e1 e2 => ?_
    rw [Moved.eq_with mv]
    refine hR s1.heap s1.toks acc c2 (fun b o hb e => mv.heap b o (fun z => ?_) (i2 b o hb e)) e1 e2
    rcases List.mem_cons.mp z with z | z
    · exact hb z
    · exact absurd (Heap.lt_size e) (by rw [List.mem_singleton.mp z]; exact Nat.lt_irrefl _)
  unfold Builtin.List.listExtendWith
  refine wpAny_bind (wpAny_typeOf (T := "range") ⟨_, hr, rfl⟩ ?_)
  rw [if_neg (by simp [Builtin.List.listSameRef, n1])]
  refine wpAny_bind (wpAny_pyIter_longrange hr hb ?_)
  have kp : ∀ b o, s.heap.get? b = some o → (s.heap.push (itO a b c)).get? b = some o := fun b o e => Heap.get?_push_of_some _ e
  refine wpAny_bind (wpAny_holding (wpAny_hint_range (n := n) (Heap.get?_push_of_some _ hr) hn hl ?_))
  have j1 : IsLongIter (s.heap.push (itO a b c)) s.heap.objs.size (a + ((0 : Nat) : Int) * c) ((n : Int) - ((0 : Nat) : Int)) c := by
    rw [show a + ((0 : Nat) : Int) * c = a by simp, show (n : Int) - ((0 : Nat) : Int) = Builtin.Range.rangeSize a b c by rw [hn]; simp]
    exact Heap.get?_push_size _ rfl
  have j2 := Heap.get?_push_of_some (itO a b c) hS
  refine wpAny_ite_split (fun _ => ?_) (fun _ => wpAny_pure ⟨plainId_quiet F.plain_extend_loop _, run _ c0 _ j1 (fun b o _ e => Heap.get?_push_of_some _ e) j2⟩)
  refine wpAny_bind (wpAny_rule (wpAny_bind ?_))
  show wpAny _ _ (updateSeq S (·.push .none) >>= fun _ => updateSeq S (·.pop)) _ _ _
  refine wpAny_bind (wpAny_updateSeq j2 rfl ?_)
  have j3 := Heap.get?_update_self (Obj.mapSeq (·.push Value.none)) j2 rfl
  refine wpAny_updateSeq (hz := by seq_fits) j3 rfl ?_
  have j4 := Heap.get?_update_self (Obj.mapSeq (·.pop)) j3 rfl
  refine wpAny_pure ⟨plainId_quiet F.plain_extend_loop _, run _ _ _ ?_ (fun b o hb e => ?_) j4⟩
  · exact (Heap.get?_update_other _ _ n3).trans ((Heap.get?_update_other _ _ n3).trans j1)
  · exact (Heap.get?_update_other _ _ (Ne.symm hb)).trans ((Heap.get?_update_other _ _ (Ne.symm hb)).trans (Heap.get?_push_of_some _ e))
theorem init_long {R : Result → Shared → Prop} {r S : Addr} {a b c : Int} {t u v : Tok} {n : Nat} (hh : A.handled = none) (hr : IsRange s.heap r a b c t u v) (hb : Builtin.Range.small a b c = false)
    (hn : Builtin.Range.rangeSize a b c = n) (hl : n ≤ 2 ^ 24) (hS : s.heap.get? S = some { cls := .type "list", data := .seq #[] })
    (hR : ∀ h' tk acc c', (∀ b o, b ≠ S → s.heap.get? b = some o → h'.get? b = some o) → h'.get? S = some { cls := .type "list", dict := none, data := .seq acc c', slots := #[] } → ItemsOf (fun i v => ∃ t, v = .int (a + i * c) t) acc n → R (.ok (.ret .none)) { s with heap := h', toks := tk }) :
    wpAny (model prog w) A.in1 (Builtin.«list.__init__» ⟨[.ref S, .ref r], []⟩)
      (fun fin s' => match fin with | .done f => R (.ok f) s' | .again c' => c'.quiet = true ∧ codeAny (model prog w) A c' R s') (fun e s' => R (.error e) s') s := by
  have n1 : S ≠ r := fun e => by rw [e, hr] at hS; simp at hS
  show wpAny _ _ (do let old ← Builtin.List.listItems (.ref S); Builtin.List.listUpdate (.ref S) (fun _ => #[]); letGo old.toList.reverse; Builtin.List.listExtendWith (.ref S) (.ref r) .none) _ _ s
  refine wpAny_bind ?_
  unfold Builtin.List.listItems
  refine wpAny_bind (wpAny_seqItems hS rfl (wpAny_pure ?_))
  show wpAny _ A.in1 (updateSeq S (fun _ => #[]) >>= fun _ => letGo (#[] : Array Value).toList.reverse >>= fun _ => Builtin.List.listExtendWith (.ref S) (.ref r) .none) _ _ s
  refine wpAny_bind (wpAny_updateSeq hS rfl (wpAny_bind (wpAny_letGo ?_)))
  have j := Heap.get?_update_self (Obj.mapSeq (fun _ => (#[] : Array Value))) hS rfl
  have oth : ∀ b o, b ≠ S → s.heap.get? b = some o → (s.heap.update S (Obj.mapSeq (fun _ => (#[] : Array Value)))).get? b = some o := fun b o hb e => (Heap.get?_update_other _ _ (Ne.symm hb)).trans e
  exact ext_long (s := { s with heap := s.heap.update S (Obj.mapSeq (fun _ => (#[] : Array Value))) }) hh (oth r _ (Ne.symm n1) hr) hb hn hl j fun h' tk acc c' hk e1 e2 => hR h' tk acc c' (fun b o h1 e => hk b o h1 (oth b o h1 e)) e1 e2
theorem call_list_rg {Q : Value → Shared → Prop} {r : Addr} {a b c : Int} {t u v : Tok} {n : Nat} (hh : A.handled = none) (hr : IsRange s.heap r a b c t u v)
    (hn : Builtin.Range.rangeSize a b c = n) (hl : n ≤ 2 ^ 24)
    (hQ : ∀ h' tk acc c', (∀ b o, s.heap.get? b = some o → h'.get? b = some o) → h'.get? s.heap.objs.size = some { cls := .type "list", dict := none, data := .seq acc c', slots := #[] } → ItemsOf (fun i v => ∃ t, v = .int (a + i * c) t) acc n → Q (.ref s.heap.objs.size) { s with heap := h', toks := tk }) :
    wpAny (model prog w) A (call (.type "list") [.ref r]) Q E s := by
  by_cases hb : Builtin.Range.small a b c = true
  · exact call_list_range hh hr hb hn hl hQ
  · refine callType_codes (Q₁ := fun obj s₁ => obj = .ref s.heap.objs.size ∧ s₁ = { s with heap := s.heap.push { cls := .type "list", data := .seq #[] } }) F.called_list (F.typeCall_list_1 _) F.entry_list_init
      (code_list_new _ ⟨rfl, rfl⟩) fun obj s1 h1 => ?_
    obtain ⟨rfl, rfl⟩ := h1
    have hS : (s.heap.push { cls := .type "list", data := .seq #[] }).get? s.heap.objs.size = some { cls := .type "list", data := .seq #[] } := Heap.get?_push_size _ rfl
    refine ⟨⟨_, hS, rfl⟩, F.args_list_init_2 _ _, init_long (A := A.in1) (s := { s with heap := s.heap.push { cls := .type "list", data := .seq #[] } }) hh (Heap.get?_push_of_some _ hr) (by simpa using hb) hn hl hS fun h' tk acc c' hk e1 e2 => ?_⟩
    exact ⟨rfl, hQ h' tk acc c' (fun b o e => hk b o (Nat.ne_of_lt (Heap.lt_size e)) (Heap.get?_push_of_some _ e)) e1 e2⟩
end
variable {X : Cx} {e : Expr} {te : L2.St → Hp → (Int → Int → Hp → Prop) → Prop}
noncomputable def tLstRgA (te : L2.St → Hp → (Int → Int → Hp → Prop) → Prop) : TE := fun σ H Q => te σ H fun a b H1 => (b - a).toNat ≤ 2 ^ 24 ∧ ∀ q, H1 q = none → Q (.ref q) (upd H1 q (.lst (rgV a b)))
theorem pe_listRgA {p pos : Pos} (hc : X.calm = true) (hg : Gl X "list") (hm : X.mg "list" = none) (he : PRg X e te) (na : starEach [e] X.env = (false, eval e X.env) :: starEach [] X.env := by rfl) : PE X (.Call (.Name "list" p) [e] [] pos) (tLstRgA te) := by
  refine ⟨fun pins s σ H Q I h => Call_ (ld_blt I hg hm boot_list (PyProof.Rows.callWith_type1 (args_cons (thn (he pins s σ H _ I h) fun x s1 ⟨r, a, b, t, u, v, H1, ex, hr, I1, ok, q⟩ => args_nil ?_) na) na))⟩
  subst ex
  refine call_list_rg (n := (b - a).toNat) (I1.ok.hd hc) hr (rangeSize_nat a b) ok fun h' tk acc c' hk e' hi => ?_
  have bl : (rgV a b).length ≤ sizeLine := by rw [rgV_length, sizeLine_eq]; omega
  exact ⟨.ref s1.heap.objs.size, upd H1 s1.heap.objs.size (.lst (rgV a b)), I1.laid hk (Nat.le_refl _) (show ObjOk X.prog X.w _ _ _ (.lst (rgV a b)) from ⟨bl, acc.toList, c', vals_rg hi, by rw [Array.toArray_toList]; exact e'⟩), rfl, q _ (I1.hok.fresh (Nat.le_refl _))⟩
end VdLr

set_option Elab.async false
set_option linter.all false
set_option maxRecDepth 100000
/-! len(set(xs)): xs a list of texts, or of whole numbers (the steps follow the kit's rule for ints) -/
namespace VdSt
open PySem PySem.Spec PyProof.Rows L2
open Vd
theorem dd_snoc {κ : Type} [DecidableEq κ] (xs : List κ) (x : κ) : dd (xs ++ [x]) = ddA (dd xs) x := by unfold dd; rw [List.foldl_append]; rfl
theorem dd_all {κ : Type} [DecidableEq κ] (xs : List κ) : (dd xs).Nodup ∧ (dd xs).length ≤ xs.length ∧ ∀ y, y ∈ dd xs ↔ y ∈ xs := by
  have key : ∀ (n : Nat) (xs : List κ), xs.length = n → (dd xs).Nodup ∧ (dd xs).length ≤ xs.length ∧ ∀ y, y ∈ dd xs ↔ y ∈ xs := by
    intro n
    induction n with
    | zero => intro xs h; have : xs = [] := List.eq_nil_of_length_eq_zero h; subst this; exact ⟨List.nodup_nil, Nat.le_refl _, fun y => Iff.rfl⟩
    | succ n ih =>
      intro xs h
      obtain ⟨ys, y, rfl⟩ : ∃ ys y, xs = ys ++ [y] := ⟨xs.dropLast, xs.getLast (by intro z; subst z; cases h), (List.dropLast_concat_getLast _).symm⟩
      rw [List.length_append, List.length_singleton] at h
      obtain ⟨a, b, c⟩ := ih ys (by omega)
      rw [dd_snoc]
      unfold ddA
      by_cases hy : y ∈ dd ys
      · rw [if_pos hy]
        refine ⟨a, by rw [List.length_append]; omega, fun z => ?_⟩
        rw [List.mem_append, List.mem_singleton, c]
        constructor
        · exact .inl
        · rintro (q | q)
          · exact q
          · subst q; exact (c z).mp hy
      · rw [if_neg hy]
        refine ⟨?_, by rw [List.length_append, List.length_append, List.length_singleton]; omega, fun z => by rw [List.mem_append, List.mem_append, c]⟩
        rw [List.nodup_append]
        refine ⟨a, by simp, fun u hu v hv => ?_⟩
        rw [List.mem_singleton.mp hv]
        rintro rfl
        exact hy hu
  exact key _ xs rfl
noncomputable abbrev set0 (led : Bool) : Obj := { cls := .type "set", dict := none, data := .set #[] 0 (.fresh 0 0 led) }
section
variable {prog : Program} {w : World} {κ : Type} [DecidableEq κ] {knd : KeyKind prog w κ}
theorem setOf_as {h : Heap} {a : Addr} {S S' : κ → Bool} {n n' : Nat} (r : h.SetOf knd a S n) (e : ∀ k, S k = S' k) (en : n = n') : h.SetOf knd a S' n' := by
  have e2 : S = S' := funext e
  rw [← e2, ← en]; exact r
variable {A : Around} {R : Result → Shared → Prop} {I : Addr} {fp wr : List Addr} {G : Array GenState → Array GenState → Prop} {n : Nat} {P : Nat → Value → Prop} {St : Nat → Shared → Prop}
theorem loopG (W : WalksS prog w A.in1 I fp wr G n P St) (S : Addr) (hSf : S ∉ fp) (ks : List κ) (hsz : ks.length = n) (hn1 : n + 1 < scanBound)
    (hval : ∀ i v, P i v → ∃ k, ks[i]? = some k ∧ knd.is k v = true ∧ v.scannable = true) :
    ∀ (m i : Nat) (s : Shared), n - i = m → i ≤ n → St i s → s.heap.SetOf knd S (fun k => decide (k ∈ ks.take i)) (dd (ks.take i)).length →
      (∀ s', Moved (S :: wr) G s s' → s'.heap.SetOf knd S (fun k => decide (k ∈ ks)) (dd ks).length → R (.ok (.ret .none)) s') →
      codeAny (model prog w) A (.builtin "set.update.loop" ⟨[.ref S, .ref I], []⟩) R s := by
  have sw : S ∉ wr := fun q => hSf (W.sub _ q)
  have up : ∀ b ∈ wr, b ∈ S :: wr := fun b q => List.mem_cons_of_mem _ q
  intro m
  induction m with
  | zero =>
    intro i s hk hi hst hS hR
    have hin : i = n := by omega
    rw [hin] at hst hS
    rw [← hsz, List.take_length] at hS
    refine codeAny_builtin PyProof.Rows.F.entry_set_update_loop ?_
    rw [Around.under_plainId PyProof.Rows.F.plain_set_update_loop _]
    show wpAny _ A.in1 (pyNext (.ref I) >>= _) _ _ s
    refine wpAny_bind (W.done s _ _ hst fun s1 mv => ?_)
    show wpAny _ A.in1 (ret Value.none) _ _ s1
    refine wpAny_pure (hR s1 (mv.mono up) ?_)
    obtain ⟨o, es, ep, t, ho, q⟩ := hS
    exact ⟨o, es, ep, t, mv.heap S _ sw ho, q⟩
  | succ m ih =>
    intro i s hk hi hst hS hR
    have lt : i < n := by omega
    refine codeAny_builtin PyProof.Rows.F.entry_set_update_loop ?_
    rw [Around.under_plainId PyProof.Rows.F.plain_set_update_loop _]
    show wpAny _ A.in1 (pyNext (.ref I) >>= _) _ _ s
    refine wpAny_bind (W.item i s _ _ lt hst fun v s1 hP st1 mv => ?_)
    obtain ⟨k, hk2, hkey, hsc⟩ := hval i v hP
    have S1 : s1.heap.SetOf knd S (fun k => decide (k ∈ ks.take i)) (dd (ks.take i)).length := by
      obtain ⟨o, es, ep, t, ho, q⟩ := hS
      exact ⟨o, es, ep, t, mv.heap S _ sw ho, q⟩
    have et : ks.take (i + 1) = ks.take i ++ [k] := by rw [List.take_add_one, hk2]; rfl
    have room : (dd (ks.take i)).length + 1 < scanBound := by
      have := (dd_all (ks.take i)).2.1
      rw [List.length_take] at this
      omega
    show wpAny _ A.in1 (holding [v] (setAdd S v) >>= _) _ _ s1
    refine wpAny_bind (wpAny_holding ?_)
    unfold setAdd
    refine wpAny_holding (wpAny_bind (knd.pyHash hkey ?_))
    refine wpAny_setAddHashed_of (knd := knd) (s := { s1 with toks := s1.toks + 1 }) hkey hsc S1 room fun h2 sb S2 => ?_
    have S3 : h2.SetOf knd S (fun k => decide (k ∈ ks.take (i + 1))) (dd (ks.take (i + 1))).length := by
      refine setOf_as S2 (fun k' => ?_) ?_
      · rw [et]
        simp [List.mem_append]
      · rw [et, dd_snoc]
        unfold ddA
        have iff := (dd_all (ks.take i)).2.2 k
        by_cases c : k ∈ ks.take i
        · rw [if_pos (decide_eq_true c), if_pos (iff.mpr c)]
        · rw [if_neg (fun z => c (of_decide_eq_true z)), if_neg (fun z => c (iff.mp z)), List.length_append, List.length_singleton]
    refine wpAny_pure ⟨plainId_quiet PyProof.Rows.F.plain_set_update_loop _, ih (i + 1) _ (by omega) lt (W.frame _ s1 _ _ st1 (Nat.le_succ _) fun b hb o e => ?_) S3 fun s4 m4 S4 => hR s4 (Moved.trans W.gtrans ((mv.mono up).then_heap (Nat.le_succ _) fun b o hb e => ?_) m4) S4⟩
    · exact (sb.2 b fun q => hSf (q ▸ hb)).trans e
    · exact (sb.2 b fun q => hb (by rw [q]; exact List.mem_cons_self)).trans e
variable {E : Value → Shared → Prop} {s : Shared}
set_option maxHeartbeats 4000000 in
theorem call_set_of {l : Addr} {items : Array Value} {ks : List κ} {Q : Value → Shared → Prop} (hh : A.handled = none) (hl : s.heap.IsList l items) (hz : ks.length = items.size) (hn1 : items.size + 1 < scanBound)
    (hval : ∀ (i : Nat) (v : Value), items[i]? = some v → ∃ k, ks[i]? = some k ∧ knd.is k v = true ∧ v.scannable = true)
    (q : ∀ (h' : Heap) (tk : Nat), h'.SetOf knd s.heap.objs.size (fun k => decide (k ∈ ks)) (dd ks).length → (∀ b o, b < s.heap.objs.size → s.heap.get? b = some o → h'.get? b = some o) → Q (.ref s.heap.objs.size) { s with heap := h', toks := tk }) :
    wpAny (model prog w) A (call (.type "set") [.ref l]) Q E s := by
  obtain ⟨c, tl, hmro⟩ := PySem.F.called_set.mro
  have k1 := PySem.F.called_set.made
  have k2 := PySem.F.called_set.sub
  have k3 := PySem.F.called_set.notType
  have k4 := PySem.F.called_set.canCreate
  have k5 := PySem.F.typeCall_set_1 (.ref l)
  refine wpAny_call (codeAny_of_tree ?_)
  show wpAny _ _ (callAny (.type "set") _) _ _ _
  refine wpAny_pure ⟨Code.quiet_builtin _ (by decide +kernel), codeAny_builtin PySem.F.entry_type_call ?_⟩
  rw [Around.under_plain (weight_type_call_type "set" [.ref l] []) rfl]
  repeat (any_goals (first | assumption | wp_step))
  refine codeAny_mono (code_set_new_1 (.ref l) (E := E) (Q₁ := fun u s1 => ∃ led : Bool, u = .ref s.heap.objs.size ∧ s1 = { s with heap := s.heap.push (set0 led) }) fun led => ⟨led, rfl, rfl⟩) fun r s1 hr => ?_
  cases r with
  | error e => exact hr
  | ok fl =>
    cases fl with
    | ret obj =>
      obtain ⟨led, rfl, rfl⟩ := hr
      have hS : (s.heap.push (set0 led)).get? s.heap.objs.size = some (set0 led) := Heap.get?_push_size _ rfl
      have hT : Shared.TypeIs { s with heap := s.heap.push (set0 led) } (.ref s.heap.objs.size) "set" := ⟨_, hS, rfl⟩
      have k6 := PySem.F.called_set.init.lookup
      have k7 := PySem.F.called_set.init.bind (.ref s.heap.objs.size)
      repeat (any_goals (first | assumption | wp_step))
      refine codeAny_mono (codeAny_call_builtin (R := wants (fun r s2 => r = .none ∧ ∃ h' tk, s2 = { s with heap := h', toks := tk } ∧ h'.SetOf knd s.heap.objs.size (fun k => decide (k ∈ ks)) (dd ks).length ∧
          (∀ b o, b < s.heap.objs.size → s.heap.get? b = some o → h'.get? b = some o)) E) PySem.F.called_set.init.plain PySem.F.entry_set_init (check_set_init_1 hT ?_)) fun r2 s2 hr2 => ?_
      · obtain ⟨ol, hol, hcl, nl, hdl⟩ := hl
        obtain ⟨ocls, odict, odata, oslots⟩ := ol
        simp only at hcl hdl
        subst hcl
        subst hdl
        have hol2 : (s.heap.push (set0 led)).get? l = some { cls := .type "list", dict := odict, data := .seq items nl, slots := oslots } := Heap.get?_push_of_some _ hol
        have k8 := PySem.F.sub_list_set
        have k9 := PySem.F.sub_list_frozenset
        have k10 : (Value.type "list" == Value.type "dict") = false := by decide
        have hl1 : (s.heap.push (set0 led)).IsList l items := ⟨_, hol2, rfl, nl, rfl⟩
        unfold Builtin.«set.__init__» noKeywords Builtin.Frozenset.updateFrom
        generalize hPI : pyIter = PI
        wp_walk
        subst hPI
        refine wpAny_pyIter_list hl1 (wpAny_bind (wpAny_runValue ?_))
        have hlS : l < s.heap.objs.size := Heap.lt_size hol
        have hh3 : A.in1.in1.in1.handled = none := by simp [hh]
        have hz1 : (s.heap.push (set0 led)).objs.size = s.heap.objs.size + 1 := Heap.size_push ..
        have hneI : l ≠ (s.heap.push (set0 led)).objs.size := by rw [hz1]; exact Nat.ne_of_lt (Nat.lt_succ_of_lt hlS)
        have hSf : s.heap.objs.size ∉ [(s.heap.push (set0 led)).objs.size, l] := by
          rw [hz1]
          intro z
          simp only [List.mem_cons, List.not_mem_nil, or_false] at z
          rcases z with z | z
          · exact Nat.ne_of_lt (Nat.lt_succ_self _) z
          · exact Nat.ne_of_gt hlS z
        refine loopG ((Walks.list hh3 _ l hneI items).toS) s.heap.objs.size hSf ks hz hn1 hval (items.size - 0) 0 _ (by omega) (Nat.zero_le _)
          ⟨⟨_, Heap.get?_push_size _ rfl, rfl, rfl⟩, (hl1.push _)⟩ ?hS0 ?hR
        case hS0 => exact setOf_as ((PyProof.Rows.setObjOf_fresh (knd := knd) led).setOf (Heap.get?_push_of_some _ hS) (by unfold scanBound; omega)) (fun _ => by simp) rfl
        case hR =>
          intro s4 mv S4
          obtain ⟨h', g', d', tk', os'⟩ := s4
          have eg : g' = s.gens := mv.gens
          have ed : d' = s.drawn := mv.drawn
          have eo : os' = s.os := mv.os
          subst eg
          subst ed
          subst eo
          show wpAny _ _ _ _ _ _
          refine wpAny_pure ?_
          show wpAny _ _ (ret Value.none) _ _ _
          refine wpAny_pure ⟨rfl, h', tk', rfl, S4, fun b o hb e => mv.heap b o (fun z => ?_) (Heap.get?_push_of_some _ (Heap.get?_push_of_some _ e))⟩
          simp only [List.mem_cons, List.not_mem_nil, or_false] at z
          rw [hz1] at z
          rcases z with z | z
          · exact Nat.ne_of_lt hb z
          · exact Nat.ne_of_lt (Nat.lt_succ_of_lt hb) z
      · cases r2 with
        | error e => exact hr2
        | ok fl2 =>
          cases fl2 with
          | ret r =>
            obtain ⟨rfl, h', tk, rfl, S4, hk⟩ := hr2
            repeat (any_goals (first | assumption | wp_step))
            exact q _ _ S4 hk
          | _ => exact hr2.elim
    | _ => exact hr.elim
end
/-! ### len(set(xs)) -/
noncomputable def tLenSetG (K : PySem.W.Frag) (ta : TE) : TE := fun σ H Q => ta σ H fun x H1 =>
  (∃ l, ∃ xs : List Str, x = .ref l ∧ SqL K H1 l (xs.map V.str) ∧ xs.length ≤ 4000 ∧ Q (.int (dd xs).length) H1) ∨
  (∃ l, ∃ xs : List Int, x = .ref l ∧ SqL K H1 l (xs.map V.int) ∧ xs.length ≤ 4000 ∧ Q (.int (dd xs).length) H1)
section
variable {X : Cx}
theorem vals_at {α : Type} {f : α → V} : ∀ {ys : List α} {us : List Value}, Vals (ys.map f) us → ∀ (i : Nat) (u : Value), us[i]? = some u → ∃ y, ys[i]? = some y ∧ RelV (f y) u
  | [], _, .nil, i, u, h => by simp at h
  | y :: ys, _, .cons r t, 0, u, h => by simp at h; subst h; exact ⟨y, rfl, r⟩
  | y :: ys, _, .cons r t, i + 1, u, h => vals_at t i u h
theorem pe_lenSetG {a : Expr} {ta : TE} {p p2 q pos : Pos} (hc : X.calm = true) (hg : Gl X "len") (hm : X.mg "len" = none) (hg2 : Gl X "set") (hm2 : X.mg "set" = none) (ha : PE X a ta)
    (na : starEach [a] X.env = (false, eval a X.env) :: starEach [] X.env) : PE X (.Call (.Name "len" p) [.Call (.Name "set" p2) [a] [] q] [] pos) (tLenSetG X.K ta) := by
  refine ⟨fun pins s σ H Q I h => ?_⟩
  refine Call_ (ld_blt I hg hm boot_len (PyProof.Rows.callWith_builtin1 (PyProof.Rows.args_cons ?_ rfl) rfl rfl))
  refine Call_ (ld_blt I hg2 hm2 boot_set (PyProof.Rows.callWith_type1 (PyProof.Rows.args_cons (thn (ha.run pins s σ H _ I h) fun v s1 ⟨x, H1, I1, r1, q1⟩ => PyProof.Rows.args_nil ?_) na) na rfl))
  have fin : ∀ {κ : Type} [DecidableEq κ] (knd : KeyKind X.prog X.w κ) (f : κ → V) (hf : ∀ k u, RelV (f k) u → knd.is k u = true ∧ u.scannable = true) (l : Addr) (xs : List κ), x = .ref l → SqL X.K H1 l (xs.map f) → xs.length ≤ 4000 → Q (.int (dd xs).length) H1 →
      wpAny (model X.prog X.w) X.A (call (.type "set") [v]) (fun u s2 => wpAny (model X.prog X.w) X.A (spliced (backTo pos (starEach [] X.env))) (fun vs s₂ => wpAny (model X.prog X.w) X.A (call (.builtin "len") (u :: vs)) (EP X pins σ Q) X.xe s₂) X.xe s2) X.xe s1 := by
    intro κ _ knd f hf l xs ex hq hl qq
    subst ex
    cases r1
    obtain ⟨its, r, pl, hz⟩ := I1.list hq
    have e1 : xs.length = its.toArray.size := by rw [List.size_toArray, ← r.length, List.length_map]
    refine call_set_of (knd := knd) (ks := xs) (I1.ok.hd hc) pl.isList e1 (by unfold scanBound; omega) (fun i u hu => ?_) fun h' tk hS hk => PyProof.Rows.args_nil ?_
    · obtain ⟨y, h1, h2⟩ := vals_at r i u (by simpa using hu)
      exact ⟨y, h1, hf y u h2⟩
    · obtain ⟨o, es, ep, t, ho, hex, hd, _, _, _, hf2, hn⟩ := hS
      have I2 : Inv X pins σ H1 { s1 with heap := h', toks := tk } := I1.kept fun b o e => hk b o (Heap.lt_size e) e
      have le := (dd_all xs).2.1
      exact call_len_set ho hex hd hf2 (by rw [hn]; omega) ⟨.int (dd xs).length, H1, I2.tok _, ⟨_, by rw [hn]⟩, qq⟩
  rcases q1 with ⟨l, xs, e, hq, hl, q1⟩ | ⟨l, xs, e, hq, hl, q1⟩
  · refine fin (PySem.strKind X.prog X.w) V.str (fun k u r => ?_) l xs e hq hl q1
    obtain ⟨t, rfl⟩ := r
    exact ⟨strKind_is _ _ _ _, rfl⟩
  · refine fin (PySem.intKind X.prog X.w) V.int (fun k u r => ?_) l xs e hq hl q1
    obtain ⟨t, rfl⟩ := r
    exact ⟨intKind_is _ _ _ _, rfl⟩
end
end VdSt

set_option Elab.async false
set_option linter.all false
set_option maxRecDepth 100000
/-! sorted(set(xs)), xs a list of whole numbers -/
namespace VdSt
open PySem PySem.Spec PyProof.Rows L2
open Vd
section
variable {prog : Program} {w : World}
variable {A : Around} {R : Result → Shared → Prop} {I : Addr} {fp wr : List Addr} {G : Array GenState → Array GenState → Prop} {n : Nat} {P : Nat → Value → Prop} {St : Nat → Shared → Prop}
theorem loopR (W : WalksS prog w A.in1 I fp wr G n P St) (S : Addr) (hSf : S ∉ fp) (ks : List Int) (hsz : ks.length = n) (hn1 : n + 1 < scanBound)
    (hval : ∀ i v, P i v → ∃ k tk, ks[i]? = some k ∧ v = Value.int k tk) :
    ∀ (m i : Nat) (s : Shared), n - i = m → i ≤ n → St i s → SetR w s.heap S (fun k => decide (k ∈ ks.take i)) (dd (ks.take i)).length →
      (∀ s', Moved (S :: wr) G s s' → SetR w s'.heap S (fun k => decide (k ∈ ks)) (dd ks).length → R (.ok (.ret .none)) s') →
      codeAny (model prog w) A (.builtin "set.update.loop" ⟨[.ref S, .ref I], []⟩) R s := by
  have sw : S ∉ wr := fun q => hSf (W.sub _ q)
  have up : ∀ b ∈ wr, b ∈ S :: wr := fun b q => List.mem_cons_of_mem _ q
  intro m
  induction m with
  | zero =>
    intro i s hk hi hst hS hR
    have hin : i = n := by omega
    rw [hin] at hst hS
    rw [← hsz, List.take_length] at hS
    refine codeAny_builtin PyProof.Rows.F.entry_set_update_loop ?_
    rw [Around.under_plainId PyProof.Rows.F.plain_set_update_loop _]
    show wpAny _ A.in1 (pyNext (.ref I) >>= _) _ _ s
    refine wpAny_bind (W.done s _ _ hst fun s1 mv => ?_)
    show wpAny _ A.in1 (ret Value.none) _ _ s1
    refine wpAny_pure (hR s1 (mv.mono up) ?_)
    exact hS.at fun o ho => mv.heap S _ sw ho
  | succ m ih =>
    intro i s hk hi hst hS hR
    have lt : i < n := by omega
    refine codeAny_builtin PyProof.Rows.F.entry_set_update_loop ?_
    rw [Around.under_plainId PyProof.Rows.F.plain_set_update_loop _]
    show wpAny _ A.in1 (pyNext (.ref I) >>= _) _ _ s
    refine wpAny_bind (W.item i s _ _ lt hst fun v s1 hP st1 mv => ?_)
    obtain ⟨k, tk, hk2, rfl⟩ := hval i v hP
    have hkey : (intKind prog w).is k (.int k tk) = true := intKind_is prog w k tk
    have S1 : SetR w s1.heap S (fun k => decide (k ∈ ks.take i)) (dd (ks.take i)).length := hS.at fun o ho => mv.heap S _ sw ho
    have et : ks.take (i + 1) = ks.take i ++ [k] := by rw [List.take_add_one, hk2]; rfl
    have room : (dd (ks.take i)).length + 1 < scanBound := by
      have := (dd_all (ks.take i)).2.1
      rw [List.length_take] at this
      omega
    show wpAny _ A.in1 (holding [Value.int k tk] (setAdd S (Value.int k tk)) >>= _) _ _ s1
    refine wpAny_bind (wpAny_holding ?_)
    unfold setAdd
    refine wpAny_holding (wpAny_bind ((intKind prog w).pyHash hkey ?_))
    refine setR_add_hashed (P := prog) (s := { s1 with toks := s1.toks + 1 }) S1 room fun h2 sb S2 => ?_
    have S3 : SetR w h2 S (fun k => decide (k ∈ ks.take (i + 1))) (dd (ks.take (i + 1))).length := by
      have en : (if decide (k ∈ ks.take i) = true then (dd (ks.take i)).length else (dd (ks.take i)).length + 1) = (dd (ks.take (i + 1))).length := by
        rw [et, dd_snoc]
        unfold ddA
        have iff := (dd_all (ks.take i)).2.2 k
        by_cases c : k ∈ ks.take i
        · rw [if_pos (decide_eq_true c), if_pos (iff.mpr c)]
        · rw [if_neg (fun z => c (of_decide_eq_true z)), if_neg (fun z => c (iff.mp z)), List.length_append, List.length_singleton]
      rw [← en]
      refine S2.congr fun k' => ?_
      rw [et]
      simp [List.mem_append]
    refine wpAny_pure ⟨plainId_quiet PyProof.Rows.F.plain_set_update_loop _, ih (i + 1) _ (by omega) lt (W.frame _ s1 _ _ st1 (Nat.le_succ _) fun b hb o e => ?_) S3 fun s4 m4 S4 => hR s4 (Moved.trans W.gtrans ((mv.mono up).then_heap (Nat.le_succ _) fun b o hb e => ?_) m4) S4⟩
    · exact (sb.2 b fun q => hSf (q ▸ hb)).trans e
    · exact (sb.2 b fun q => hb (by rw [q]; exact List.mem_cons_self)).trans e
variable {E : Value → Shared → Prop} {s : Shared}
theorem code_set_led1 (a : Value) {Q₁ : Value → Shared → Prop}
    (h : Q₁ (.ref s.heap.objs.size) { s with heap := s.heap.push (set0 (!w.params.followText "set-order")) }) :
    codeAny (model prog w) A (.call (.builtin "set.__new__") ⟨[.type "set", a], []⟩) (wants Q₁ E) s := by
  refine codeAny_of_tree ?_
  show wpAny _ A.in1 (do checkBuiltinCall "set.__new__" ⟨[.type "set", a], []⟩; again (.builtin "set.__new__" ⟨[.type "set", a], []⟩)) _ _ s
  refine wpAny_bind (wpAny_of_eq (F.newCall_set_1 a) (wpAny_pure ⟨plainId_quiet F.plain_set_new _, codeAny_builtin F.entry_set_new ?_⟩))
  rw [Around.under_plainId F.plain_set_new _]
  unfold Builtin.«set.__new__» Builtin.Frozenset.newClass
  have hsub := sub_set_self
  obtain ⟨hp, g, d, tk, os⟩ := s
  dsimp only
  wp_walk
  refine wpAny_askSetting (wpAny_pure ?_)
  dsimp only
  simp only [newObj]
  refine wpAny_bind (wpAny_alloc (wpAny_pure ?_))
  exact wpAny_pure h
set_option maxHeartbeats 4000000 in
theorem call_setI_of {l : Addr} {items : Array Value} {ks : List Int} {Q : Value → Shared → Prop} (hh : A.handled = none) (hl : s.heap.IsList l items) (hz : ks.length = items.size) (hn1 : items.size + 1 < scanBound)
    (hval : ∀ (i : Nat) (v : Value), items[i]? = some v → ∃ k tk, ks[i]? = some k ∧ v = Value.int k tk)
    (q : ∀ (h' : Heap) (tk : Nat), SetR w h' s.heap.objs.size (fun k => decide (k ∈ ks)) (dd ks).length → (∀ b o, b < s.heap.objs.size → s.heap.get? b = some o → h'.get? b = some o) → Q (.ref s.heap.objs.size) { s with heap := h', toks := tk }) :
    wpAny (model prog w) A (call (.type "set") [.ref l]) Q E s := by
  obtain ⟨c, tl, hmro⟩ := PySem.F.called_set.mro
  have k1 := PySem.F.called_set.made
  have k2 := PySem.F.called_set.sub
  have k3 := PySem.F.called_set.notType
  have k4 := PySem.F.called_set.canCreate
  have k5 := PySem.F.typeCall_set_1 (.ref l)
  refine wpAny_call (codeAny_of_tree ?_)
  show wpAny _ _ (callAny (.type "set") _) _ _ _
  refine wpAny_pure ⟨Code.quiet_builtin _ (by decide +kernel), codeAny_builtin PySem.F.entry_type_call ?_⟩
  rw [Around.under_plain (weight_type_call_type "set" [.ref l] []) rfl]
  repeat (any_goals (first | assumption | wp_step))
  refine codeAny_mono (code_set_led1 (.ref l) (E := E) (Q₁ := fun u s1 => u = .ref s.heap.objs.size ∧ s1 = { s with heap := s.heap.push (set0 (!w.params.followText "set-order")) }) ⟨rfl, rfl⟩) fun r s1 hr => ?_
  cases r with
  | error e => exact hr
  | ok fl =>
    cases fl with
    | ret obj =>
      obtain ⟨rfl, rfl⟩ := hr
      generalize hled : (!w.params.followText "set-order") = led
      have hS : (s.heap.push (set0 led)).get? s.heap.objs.size = some (set0 led) := Heap.get?_push_size _ rfl
      have hT : Shared.TypeIs { s with heap := s.heap.push (set0 led) } (.ref s.heap.objs.size) "set" := ⟨_, hS, rfl⟩
      have k6 := PySem.F.called_set.init.lookup
      have k7 := PySem.F.called_set.init.bind (.ref s.heap.objs.size)
      repeat (any_goals (first | assumption | wp_step))
      refine codeAny_mono (codeAny_call_builtin (R := wants (fun r s2 => r = .none ∧ ∃ h' tk, s2 = { s with heap := h', toks := tk } ∧ SetR w h' s.heap.objs.size (fun k => decide (k ∈ ks)) (dd ks).length ∧
          (∀ b o, b < s.heap.objs.size → s.heap.get? b = some o → h'.get? b = some o)) E) PySem.F.called_set.init.plain PySem.F.entry_set_init (check_set_init_1 hT ?_)) fun r2 s2 hr2 => ?_
      · obtain ⟨ol, hol, hcl, nl, hdl⟩ := hl
        obtain ⟨ocls, odict, odata, oslots⟩ := ol
        simp only at hcl hdl
        subst hcl
        subst hdl
        have hol2 : (s.heap.push (set0 led)).get? l = some { cls := .type "list", dict := odict, data := .seq items nl, slots := oslots } := Heap.get?_push_of_some _ hol
        have k8 := PySem.F.sub_list_set
        have k9 := PySem.F.sub_list_frozenset
        have k10 : (Value.type "list" == Value.type "dict") = false := by decide
        have hl1 : (s.heap.push (set0 led)).IsList l items := ⟨_, hol2, rfl, nl, rfl⟩
        unfold Builtin.«set.__init__» noKeywords Builtin.Frozenset.updateFrom
        generalize hPI : pyIter = PI
        wp_walk
        subst hPI
        refine wpAny_pyIter_list hl1 (wpAny_bind (wpAny_runValue ?_))
        have hlS : l < s.heap.objs.size := Heap.lt_size hol
        have hh3 : A.in1.in1.in1.handled = none := by simp [hh]
        have hz1 : (s.heap.push (set0 led)).objs.size = s.heap.objs.size + 1 := Heap.size_push ..
        have hneI : l ≠ (s.heap.push (set0 led)).objs.size := by rw [hz1]; exact Nat.ne_of_lt (Nat.lt_succ_of_lt hlS)
        have hSf : s.heap.objs.size ∉ [(s.heap.push (set0 led)).objs.size, l] := by
          rw [hz1]
          intro z
          simp only [List.mem_cons, List.not_mem_nil, or_false] at z
          rcases z with z | z
          · exact Nat.ne_of_lt (Nat.lt_succ_self _) z
          · exact Nat.ne_of_gt hlS z
        refine loopR ((Walks.list hh3 _ l hneI items).toS) s.heap.objs.size hSf ks hz hn1 hval (items.size - 0) 0 _ (by omega) (Nat.zero_le _)
          ⟨⟨_, Heap.get?_push_size _ rfl, rfl, rfl⟩, (hl1.push _)⟩ ?hS0 ?hR
        case hS0 =>
          have h0 := setR_fresh (h := s.heap) w
          rw [hled] at h0
          exact (h0.at fun o e => Heap.get?_push_of_some _ e).congr fun _ => by simp
        case hR =>
          intro s4 mv S4
          obtain ⟨h', g', d', tk', os'⟩ := s4
          have eg : g' = s.gens := mv.gens
          have ed : d' = s.drawn := mv.drawn
          have eo : os' = s.os := mv.os
          subst eg
          subst ed
          subst eo
          show wpAny _ _ _ _ _ _
          refine wpAny_pure ?_
          show wpAny _ _ (ret Value.none) _ _ _
          refine wpAny_pure ⟨rfl, h', tk', rfl, S4, fun b o hb e => mv.heap b o (fun z => ?_) (Heap.get?_push_of_some _ (Heap.get?_push_of_some _ e))⟩
          simp only [List.mem_cons, List.not_mem_nil, or_false] at z
          rw [hz1] at z
          rcases z with z | z
          · exact Nat.ne_of_lt hb z
          · exact Nat.ne_of_lt (Nat.lt_succ_of_lt hb) z
      · cases r2 with
        | error e => exact hr2
        | ok fl2 =>
          cases fl2 with
          | ret r =>
            obtain ⟨rfl, h', tk, rfl, S4, hk⟩ := hr2
            repeat (any_goals (first | assumption | wp_step))
            exact q _ _ S4 hk
          | _ => exact hr2.elim
    | _ => exact hr.elim
end
noncomputable def tSortSet (K : PySem.W.Frag) (te : TE) : TE := fun σ H Q => te σ H fun x H1 => ∃ (l : Addr) (xs : List Int), x = .ref l ∧ SqL K H1 l (xs.map V.int) ∧ xs.length ≤ 4000 ∧ (dd xs).length < 64 ∧
  ∀ ns : List Int, ns.Pairwise (· < ·) → (∀ k, k ∈ ns ↔ k ∈ xs) → ∀ q, H1 q = none → Q (.ref q) (upd H1 q (.lst (ns.map V.int)))
section
variable {X : Cx}
theorem pe_sortSet {a : Expr} {ta : TE} {p p2 q pos : Pos} (hc : X.calm = true) (hg : Gl X "sorted") (hm : X.mg "sorted" = none) (hg2 : Gl X "set") (hm2 : X.mg "set" = none) (ha : PE X a ta)
    (na : starEach [a] X.env = (false, eval a X.env) :: starEach [] X.env) : PE X (.Call (.Name "sorted" p) [.Call (.Name "set" p2) [a] [] q] [] pos) (tSortSet X.K ta) := by
  refine ⟨fun pins s σ H Q I h => ?_⟩
  refine Call_ (ld_blt I hg hm boot_sorted (PyProof.Rows.callWith_builtin1 (PyProof.Rows.args_cons ?_ rfl) rfl rfl))
  refine Call_ (ld_blt I hg2 hm2 boot_set (PyProof.Rows.callWith_type1 (PyProof.Rows.args_cons (thn (ha.run pins s σ H _ I h) fun v s1 ⟨x, H1, I1, r1, q1⟩ => PyProof.Rows.args_nil ?_) na) na rfl))
  obtain ⟨l, xs, ex, hq, hl, h64, qq⟩ := q1
  subst ex
  cases r1
  obtain ⟨its, r, pl, hz⟩ := I1.list hq
  have e1 : xs.length = its.toArray.size := by rw [List.size_toArray, ← r.length, List.length_map]
  refine call_setI_of (ks := xs) (I1.ok.hd hc) pl.isList e1 (by unfold scanBound; omega) (fun i u hu => ?_) fun h' tk hS hk => PyProof.Rows.args_nil ?_
  · obtain ⟨y, h1, h2⟩ := vals_at r i u (by simpa using hu)
    obtain ⟨t, rfl⟩ := h2
    exact ⟨y, t, h1, rfl⟩
  · have I2 : Inv X pins σ H1 { s1 with heap := h', toks := tk } := I1.kept fun b o e => hk b o (Heap.lt_size e) e
    refine sorted_set hS (I2.ok.hd hc) h64 fun s' p out c ns k g o hp hg hi hs hm hl2 => ?_
    have hlen : (ns.map V.int).length ≤ sizeLine := by rw [List.length_map, hl2, sizeLine_eq]; omega
    have hn : H1 p = none := I2.hok.fresh hp
    have new : ObjOk X.prog X.w (upd H1 p (.lst (ns.map V.int))) s'.heap p (.lst (ns.map V.int)) := ⟨hlen, out.toList, c, vals_of_ints hi, hg⟩
    have J := Inv.call (s := ({ s1 with heap := h', toks := tk } : Shared)) (h' := s'.heap) (g' := s'.gens) (d' := s'.drawn) (t' := s'.toks) (ch := []) I2 (Un.laid (h := h') k hp hn) (I2.hok.laid (h := h') k hp new) (by rw [g]; exact I2.bare) (fun _ z => nomatch z)
    have e : s' = { s1 with heap := s'.heap, gens := s'.gens, drawn := s'.drawn, toks := s'.toks } := by
      cases s'
      cases s1
      cases o
      rfl
    rw [e]
    exact ⟨.ref p, _, J, rfl, qq ns hs (fun k => by rw [hm k, decide_eq_true_eq]) p hn⟩
end
end VdSt

set_option Elab.async false
set_option linter.all false
set_option maxRecDepth 100000
/-! list(reversed(xs)), xs a list; max and min of pairs (the steps follow the kit's for texts and for tuples) -/
namespace VdRv
open PySem PySem.Spec PyProof.Rows L2
section
variable {prog : Program} {w : World} {A : Around} {E : Value → Shared → Prop} {s : Shared}
noncomputable abbrev revP (items : Array Value) : Nat → Value → Prop := fun i v => items[items.size - 1 - i]? = some v
theorem ext_rev {R : Result → Shared → Prop} {S it l : Addr} {items : Array Value} {c0 : Nat} (hh : A.handled = none) (hit : s.heap.IsRevIter it l ((items.size : Int) - 1)) (hl : s.heap.IsList l items) (hne : l ≠ it) (hSi : S ≠ it) (hSl : S ≠ l) (hn : items.size ≤ sizeLine)
    (hS : s.heap.get? S = some { cls := .type "list", data := .seq #[] c0 })
    (hR : ∀ h' tk acc c', (∀ b o, b ≠ S → b ≠ it → s.heap.get? b = some o → h'.get? b = some o) → h'.get? S = some { cls := .type "list", dict := none, data := .seq acc c', slots := #[] } → ItemsOf (revP items) acc items.size → R (.ok (.ret .none)) { s with heap := h', toks := tk }) :
    wpAny (model prog w) A.in1 (Builtin.List.listExtendWith (.ref S) (.ref it) .none)
      (fun fin s' => match fin with | .done f => R (.ok f) s' | .again c' => c'.quiet = true ∧ codeAny (model prog w) A c' R s') (fun e s' => R (.error e) s') s := by
  have W := (Walks.listRev (prog := prog) (w := w) (A := A.in1) hh it l hne items).toS
  have sf : S ∉ [it, l] := fun z => by
    rcases List.mem_cons.mp z with z | z
    · exact hSi z
    · exact hSl (List.mem_singleton.mp z)
  have ty : s.TypeIs (.ref it) "list_reverseiterator" := hit.typeIs
  have same : Builtin.List.listSameRef (.ref S) (.ref it) = false := by simp [Builtin.List.listSameRef, hSi]
  unfold Builtin.List.listExtendWith
  refine wpAny_bind (wpAny_typeOf ty ?_)
  rw [if_neg (by rw [same]; decide)]
  refine wpAny_bind (wpAny_pyIter_revIter hit (wpAny_bind (wpAny_holding ?_)))
  unfold Builtin.List.listLengthHint
  refine wpAny_bind (wpAny_specialOf ty RT.nolen_lri ?_)
  show wpAny _ A.in1 (specialOf (Value.ref it) (Str.ofString "__length_hint__") >>= _) _ _ _
  refine wpAny_bind (wpAny_specialOf ty RT.hint_lri ?_)
  generalize hid : ("list_reverseiterator.__length_hint__" : String) = id0
  wp_delta
  rw [show splitId id0 = some ("list_reverseiterator", "__length_hint__") from by subst hid; decide +kernel]
  subst hid
  refine wpAny_bind (wpAny_isInstance (b := true) ty (by rw [isSubtype_type]; kernel_rfl) (wpAny_pure ?_))
  rw [if_neg (by decide)]
  have e0 : ((items.size : Nat) : Int) - 1 - ((0 : Nat) : Int) = (items.size : Int) - 1 := by omega
  refine wpAny_pure ⟨plainId_quiet F.plain_extend_loop _, codeAny_extend_loopS W hn _ sf _ items.size 0 _ _ _ rfl (Nat.zero_le _) ⟨Nat.zero_le _, by rw [e0]; exact hit, hl⟩ hS (ItemsOf.nil _) fun s1 acc c1 mv hS1 ha => ?_⟩
  rw [Moved.eq_with mv]
  refine hR s1.heap s1.toks acc c1 (fun b o h1 h2 e => mv.heap b o (fun z => ?_) e) hS1 ha
  rcases List.mem_cons.mp z with z | z
  · exact h1 z
  · exact h2 (List.mem_singleton.mp z)
theorem init_rev {R : Result → Shared → Prop} {S it l : Addr} {items : Array Value} (hh : A.handled = none) (hit : s.heap.IsRevIter it l ((items.size : Int) - 1)) (hl : s.heap.IsList l items) (hne : l ≠ it) (hSi : S ≠ it) (hSl : S ≠ l) (hn : items.size ≤ sizeLine)
    (hS : s.heap.get? S = some { cls := .type "list", data := .seq #[] })
    (hR : ∀ h' tk acc c', (∀ b o, b ≠ S → b ≠ it → s.heap.get? b = some o → h'.get? b = some o) → h'.get? S = some { cls := .type "list", dict := none, data := .seq acc c', slots := #[] } → ItemsOf (revP items) acc items.size → R (.ok (.ret .none)) { s with heap := h', toks := tk }) :
    wpAny (model prog w) A.in1 (Builtin.«list.__init__» ⟨[.ref S, .ref it], []⟩)
      (fun fin s' => match fin with | .done f => R (.ok f) s' | .again c' => c'.quiet = true ∧ codeAny (model prog w) A c' R s') (fun e s' => R (.error e) s') s := by
  show wpAny _ _ (do let old ← Builtin.List.listItems (.ref S); Builtin.List.listUpdate (.ref S) (fun _ => #[]); letGo old.toList.reverse; Builtin.List.listExtendWith (.ref S) (.ref it) .none) _ _ s
  refine wpAny_bind ?_
  unfold Builtin.List.listItems
  refine wpAny_bind (wpAny_seqItems hS rfl (wpAny_pure ?_))
  show wpAny _ A.in1 (updateSeq S (fun _ => #[]) >>= fun _ => letGo (#[] : Array Value).toList.reverse >>= fun _ => Builtin.List.listExtendWith (.ref S) (.ref it) .none) _ _ s
  refine wpAny_bind (wpAny_updateSeq hS rfl (wpAny_bind (wpAny_letGo ?_)))
  have hS2 := Heap.get?_update_self (Obj.mapSeq (fun _ => (#[] : Array Value))) hS rfl
  have oth : ∀ b o, b ≠ S → s.heap.get? b = some o → (s.heap.update S (Obj.mapSeq (fun _ => (#[] : Array Value)))).get? b = some o := fun b o hb e => (Heap.get?_update_other _ _ (Ne.symm hb)).trans e
  refine ext_rev (s := { s with heap := s.heap.update S (Obj.mapSeq (fun _ => (#[] : Array Value))) }) hh (hit.at fun o e => oth it o (Ne.symm hSi) e) (hl.at fun o e => oth l o (Ne.symm hSl) e) hne hSi hSl hn hS2 fun h' tk acc c' hk hS' ha => ?_
  exact hR h' tk acc c' (fun b o h1 h2 e => hk b o h1 h2 (oth b o h1 e)) hS' ha
theorem call_list_rev {it l : Addr} {items : Array Value} {Q : Value → Shared → Prop} (hh : A.handled = none) (hit : s.heap.IsRevIter it l ((items.size : Int) - 1)) (hl : s.heap.IsList l items) (hne : l ≠ it) (hn : items.size ≤ sizeLine)
    (hQ : ∀ h' tk acc c', (∀ b o, b ≠ it → s.heap.get? b = some o → h'.get? b = some o) → h'.get? s.heap.objs.size = some { cls := .type "list", dict := none, data := .seq acc c', slots := #[] } → ItemsOf (revP items) acc items.size → Q (.ref s.heap.objs.size) { s with heap := h', toks := tk }) :
    wpAny (model prog w) A (call (.type "list") [.ref it]) Q E s := by
  obtain ⟨oi, hoi, _⟩ := id hit
  obtain ⟨ol, hol, _⟩ := id hl
  refine callType_codes (Q₁ := fun obj s₁ => obj = .ref s.heap.objs.size ∧ s₁ = { s with heap := s.heap.push { cls := .type "list", data := .seq #[] } }) F.called_list (F.typeCall_list_1 _) F.entry_list_init
    (code_list_new _ ⟨rfl, rfl⟩) fun obj s1 h1 => ?_
  obtain ⟨rfl, rfl⟩ := h1
  have hS : (s.heap.push { cls := .type "list", data := .seq #[] }).get? s.heap.objs.size = some { cls := .type "list", data := .seq #[] } := Heap.get?_push_size _ rfl
  refine ⟨⟨_, hS, rfl⟩, F.args_list_init_2 _ _, init_rev (A := A.in1) (s := { s with heap := s.heap.push { cls := .type "list", data := .seq #[] } }) hh (hit.at fun o e => Heap.get?_push_of_some _ e) (hl.push _) hne (Nat.ne_of_gt (Heap.lt_size hoi)) (Nat.ne_of_gt (Heap.lt_size hol)) hn hS fun h' tk acc c' hk hS' ha => ?_⟩
  exact ⟨rfl, hQ h' tk acc c' (fun b o hb e => hk b o (Nat.ne_of_lt (Heap.lt_size e)) hb (Heap.get?_push_of_some _ e)) hS' ha⟩
end
noncomputable def tListRev (K : PySem.W.Frag) (te : TE) : TE := fun σ H Q => te σ H fun v H1 => ∃ (a : Addr) (xs : List V), v = .ref a ∧ SqL K H1 a xs ∧ ∀ q, H1 q = none → Q (.ref q) (upd H1 q (.lst xs.reverse))
section
variable {X : Cx}
theorem pe_listRev {e : Expr} {te : TE} {p p2 pos pos2 : Pos} (hc : X.calm = true) (hg : Gl X "list") (hm : X.mg "list" = none) (hg2 : Gl X "reversed") (hm2 : X.mg "reversed" = none) (he : PE X e te)
    (na : starEach [e] X.env = (false, eval e X.env) :: starEach [] X.env) : PE X (.Call (.Name "list" p) [.Call (.Name "reversed" p2) [e] [] pos2] [] pos) (tListRev X.K te) := by
  refine ⟨fun pins s σ H Q I h => ?_⟩
  refine Call_ (ld_blt I hg hm boot_list (PyProof.Rows.callWith_type1 (args_cons (Call_ (ld_blt I hg2 hm2 PyProof.Rows.boot_reversed (PyProof.Rows.callWith_type1 (args_cons (thn (he.run pins s σ H _ I h) fun u s1 ⟨v, H1, I1, r1, q1⟩ => args_nil ?_) na) na rfl))) rfl) rfl rfl))
  obtain ⟨a, xs, ev, hq, q⟩ := q1
  subst ev
  obtain rfl : u = Value.ref a := r1
  obtain ⟨its, rv, pl, hz⟩ := I1.list hq
  have hl := pl.isList
  refine call_reversed_list hl (args_nil ?_)
  have I2 : Inv X pins σ H1 { s1 with heap := s1.heap.push (revObj a ((its.toArray.size : Int) - 1)) } := I1.kept (t' := s1.toks) fun b o e => Heap.get?_push_of_some _ e
  have hf : ∀ b ∈ [s1.heap.objs.size], FpOk X pins H1 b := fun b hb => by
    rw [List.mem_singleton.mp hb]
    exact I1.fpOk (Nat.le_refl _) (I1.hok.fresh (Nat.le_refl _))
  obtain ⟨ol, hol, _⟩ := id hl
  have hne : a ≠ s1.heap.objs.size := Nat.ne_of_lt (Heap.lt_size hol)
  have hn : its.toArray.size ≤ sizeLine := by rw [List.size_toArray, ← rv.length]; exact hz
  refine call_list_rev (s := { s1 with heap := s1.heap.push (revObj a ((its.toArray.size : Int) - 1)) }) (I1.ok.hd hc) ⟨_, Heap.get?_push_size _ rfl, rfl, rfl⟩ (hl.push _) hne hn fun h' tk acc c' hk e' hi => ?_
  have fr : H1 (s1.heap.push (revObj a ((its.toArray.size : Int) - 1))).objs.size = none := I2.hok.fresh (Nat.le_refl _)
  have z : xs.reverse.length ≤ sizeLine := by rw [List.length_reverse]; exact hz
  have new : ObjOk X.prog X.w (upd H1 (s1.heap.push (revObj a ((its.toArray.size : Int) - 1))).objs.size (.lst xs.reverse)) h' (s1.heap.push (revObj a ((its.toArray.size : Int) - 1))).objs.size (.lst xs.reverse) := ⟨z, acc.toList, c', RT.vals_rev rv hi, by rw [Array.toArray_toList]; exact e'⟩
  exact ⟨.ref _, _, I2.turnedNew (t' := tk) (ch := [s1.heap.objs.size]) (fun b o hb e => hk b o (fun z => hb (by rw [z]; exact List.mem_singleton_self _)) e) hf (Nat.le_refl _) new, rfl, q _ fr⟩
end
end VdRv

set_option Elab.async false
set_option linter.all false
set_option maxRecDepth 100000
/-! max and min of a list of pairs of whole numbers -/
namespace VdMp
open PySem PySem.Spec PySem.SeqAt PySem.W PyProof.Rows L2
open Vd (lexLe)
noncomputable def pyP (p : Int × Int) : PyData := .tuple [.int p.1, .int p.2]
noncomputable def lexB (p q : Int × Int) : Bool := decide (p.1 < q.1 ∨ (p.1 = q.1 ∧ p.2 < q.2))
theorem int_blt (a b : Int) (h : a ≠ b) (l m : List (Int ⊕ List Nat)) : PyProof.Rows.lexLt itemOrd (.inl a :: l) (.inl b :: m) = decide (a < b) := by
  rw [lex_diff (O := itemOrd) (by intro z; cases z; exact h rfl)]
  rfl
theorem lt_pair (p q : Int × Int) : dataLt (pyP p) (pyP q) = lexB p q := by
  unfold dataLt pyP lexB
  simp only [keyToks, keyToksAll, List.singleton_append]
  rw [lex_self (O := itemOrd)]
  by_cases c : p.1 = q.1
  · rw [c, lex_self (O := itemOrd), lex_self (O := itemOrd)]
    by_cases d : p.2 = q.2
    · rw [d, lex_self (O := itemOrd), lex_self (O := itemOrd)]
      have e : PyProof.Rows.lexLt itemOrd [] [] = false := rfl
      rw [e]
      symm
      exact decide_eq_false (by omega)
    · rw [int_blt _ _ d]
      by_cases e : p.2 < q.2
      · rw [decide_eq_true e, decide_eq_true (.inr ⟨rfl, e⟩)]
      · rw [decide_eq_false e, decide_eq_false (by omega)]
  · rw [int_blt _ _ c]
    by_cases e : p.1 < q.1
    · rw [decide_eq_true e, decide_eq_true (.inl e)]
    · rw [decide_eq_false e, decide_eq_false (by omega)]
theorem alike_pair (p q : Int × Int) : alike (pyP p) (pyP q) = true := by simp [pyP, alike, alikeAll]
theorem alikeP (ps : List (Int × Int)) : AlikeAll (ps.map pyP) := by
  refine ⟨fun x hx y hy => ?_, fun x hx => ?_⟩
  · obtain ⟨p, _, rfl⟩ := List.mem_map.mp hx
    obtain ⟨q, _, rfl⟩ := List.mem_map.mp hy
    exact alike_pair p q
  · obtain ⟨p, _, rfl⟩ := List.mem_map.mp hx
    exact fun z => nomatch z
theorem depthP : ∀ ps : List (Int × Int), PyData.depthAll (ps.map pyP) ≤ 2
  | [] => by simp [PyData.depthAll]
  | p :: ps => by
    have := depthP ps
    simp only [List.map_cons, PyData.depthAll, pyP, PyData.depth]
    omega
/-- the one that a pick leaves -/
noncomputable def bst (f : Int × Int → Int × Int → Bool) (p : Int × Int) (ps : List (Int × Int)) : Int × Int := ps.foldl (fun a y => if f y a = true then y else a) p
theorem bst_py (mx : Bool) (ps : List (Int × Int)) : ∀ p, (ps.map pyP).foldl (fun a y => if (if mx = true then dataLt a y else dataLt y a) = true then y else a) (pyP p) = pyP (bst (fun y a => if mx = true then lexB a y else lexB y a) p ps) := by
  induction ps with
  | nil => intro p; rfl
  | cons q ps ih =>
    intro p
    show (ps.map pyP).foldl _ (if (if mx = true then dataLt (pyP p) (pyP q) else dataLt (pyP q) (pyP p)) = true then pyP q else pyP p) = pyP (bst _ (if (if mx = true then lexB p q else lexB q p) = true then q else p) ps)
    rw [lt_pair, lt_pair]
    by_cases c : (if mx = true then lexB p q else lexB q p) = true
    · rw [if_pos c, if_pos c]; exact ih q
    · rw [if_neg c, if_neg c]; exact ih p
theorem bst_least (mx : Bool) (ps : List (Int × Int)) : ∀ p, bst (fun y a => if mx = true then lexB a y else lexB y a) p ps ∈ p :: ps ∧ ∀ y ∈ p :: ps, if mx = true then lexLe y (bst (fun y a => if mx = true then lexB a y else lexB y a) p ps) else lexLe (bst (fun y a => if mx = true then lexB a y else lexB y a) p ps) y := by
  have rfl' : ∀ p : Int × Int, if mx = true then lexLe p p else lexLe p p := fun p => by split <;> (unfold lexLe; omega)
  induction ps with
  | nil => intro p; exact ⟨List.mem_singleton_self _, fun y hy => by rw [List.mem_singleton.mp hy]; exact rfl' p⟩
  | cons q ps ih =>
    intro p
    show bst _ (if (if mx = true then lexB p q else lexB q p) = true then q else p) ps ∈ _ ∧ _
    have e : bst (fun y a => if mx = true then lexB a y else lexB y a) p (q :: ps) = bst (fun y a => if mx = true then lexB a y else lexB y a) (if (if mx = true then lexB p q else lexB q p) = true then q else p) ps := rfl
    rw [e]
    obtain ⟨h1, h2⟩ := ih (if (if mx = true then lexB p q else lexB q p) = true then q else p)
    generalize bst (fun y a => if mx = true then lexB a y else lexB y a) (if (if mx = true then lexB p q else lexB q p) = true then q else p) ps = b at h1 h2
    refine ⟨?_, fun y hy => ?_⟩
    · rcases List.mem_cons.mp h1 with z | z
      · rw [z]
        by_cases c : (if mx = true then lexB p q else lexB q p) = true
        · rw [if_pos c]; exact List.mem_cons_of_mem _ (List.mem_cons_self)
        · rw [if_neg c]; exact List.mem_cons_self
      · exact List.mem_cons_of_mem _ (List.mem_cons_of_mem _ z)
    · have h0 := h2 _ List.mem_cons_self
      have tr : ∀ u v w : Int × Int, lexLe u v → lexLe v w → lexLe u w := fun u v w a b => by unfold lexLe at *; omega
      have pick : ∀ y, y = p ∨ y = q → if mx = true then lexLe y (if (if mx = true then lexB p q else lexB q p) = true then q else p) else lexLe (if (if mx = true then lexB p q else lexB q p) = true then q else p) y := by
        intro y hy
        cases mx with
        | true =>
          simp only [if_true]
          cases c : lexB p q with
          | true => have := of_decide_eq_true c; rcases hy with rfl | rfl <;> simp only [if_true] <;> (unfold lexLe; omega)
          | false => have := of_decide_eq_false c; rcases hy with rfl | rfl <;> simp only [Bool.false_eq_true, if_false] <;> (unfold lexLe; omega)
        | false =>
          simp only [Bool.false_eq_true, if_false]
          cases c : lexB q p with
          | true => have := of_decide_eq_true c; rcases hy with rfl | rfl <;> simp only [if_true] <;> (unfold lexLe; omega)
          | false => have := of_decide_eq_false c; rcases hy with rfl | rfl <;> simp only [Bool.false_eq_true, if_false] <;> (unfold lexLe; omega)
      have go : y = p ∨ y = q → if mx = true then lexLe y b else lexLe b y := fun hy => by
        have a := pick y hy
        cases mx with
        | true => exact tr _ _ _ a h0
        | false => exact tr _ _ _ h0 a
      rcases List.mem_cons.mp hy with z | z
      · exact go (.inl z)
      · rcases List.mem_cons.mp z with z | z
        · exact go (.inr z)
        · exact h2 y (List.mem_cons_of_mem _ z)
noncomputable def rMpr (K : PySem.W.Frag) (mx : Bool) : List V → Hp → VK → Prop := fun vs H Q => ∃ (a : Addr) (xs : List V) (ps : List (Int × Int)), vs = [.ref a] ∧ SqL K H a xs ∧ DpAll K H xs (ps.map pyP) ∧ 0 < ps.length ∧
  ∀ (i : Nat) (k : Int × Int) (x : V), xs[i]? = some x → ps[i]? = some k → (∀ y ∈ ps, if mx = true then lexLe y k else lexLe k y) → Q x H
variable {X : Cx}
theorem mpr_fin {pins : List (Addr × Obj)} {σ : L2.St} {H : Hp} {s : Shared} {Q : VK} {mx : Bool} (I : Inv X pins σ H s) {xs : List V} {its : List Value} {p : Int × Int} {ps : List (Int × Int)} {as : List Addr} (rv : Vals xs its) (hr : ReadsAll s.heap its ((p :: ps).map pyP) as)
    (q : ∀ (i : Nat) (k : Int × Int) (x : V), xs[i]? = some x → (p :: ps)[i]? = some k → (∀ y ∈ p :: ps, if mx = true then lexLe y k else lexLe k y) → Q x H)
    (i : Nat) (v : Value) (h' : Heap) (tk : Nat) (bs : List Addr) (hv : its.toArray[i]? = some v) (rd : Reads h' v (pyP (bst (fun y a => if mx = true then lexB a y else lexB y a) p ps)) bs) (hk : ∀ b o, s.heap.get? b = some o → h'.get? b = some o) : EP X pins σ Q v { s with heap := h', toks := tk } := by
  have hv' : its[i]? = some v := by simpa using hv
  obtain ⟨cs, r1, r2, r3, r4⟩ := readsAll_at hr i v hv'
  rw [List.length_map] at r2
  obtain ⟨k, hkk⟩ : ∃ k, (p :: ps)[i]? = some k := ⟨_, List.getElem?_eq_getElem r2⟩
  have ek : ((p :: ps).map pyP).getD i .none = pyP k := by
    rw [List.getD_eq_getElem?_getD, List.getElem?_map, hkk]; rfl
  rw [ek] at r1
  have eq := alike_unique _ _ _ _ _ (alike_pair _ _) (reads_keeps hk r1) rd
  have eq2 : k = bst (fun y a => if mx = true then lexB a y else lexB y a) p ps := by
    unfold pyP at eq
    injection eq with e1
    injection e1 with e2 e3
    injection e2 with e2
    injection e3 with e3
    injection e3 with e3
    exact Prod.ext e2 e3
  have hxl : i < xs.length := by rw [rv.length]; exact (List.getElem?_eq_some_iff.mp hv').1
  obtain ⟨u, hu, ru⟩ := rv.get (i := i) (x := xs[i]) (List.getElem?_eq_getElem hxl)
  rw [hv'] at hu
  cases hu
  exact ⟨xs[i], H, I.kept (t' := tk) hk, ru, q i k _ (List.getElem?_eq_getElem hxl) hkk (by rw [eq2]; exact (bst_least mx ps p).2)⟩
theorem cr_mpr (hc : X.calm = true) (hu : X.A.units + 65 < cLine) (mx : Bool) : CallR X (.builtin (if mx = true then "max" else "min")) (rMpr X.K mx) := by
  intro pins s σ H vs us Q I r h
  obtain ⟨a, xs, ps, rfl, hq, hd, hp, q⟩ := h
  obtain ⟨u, rfl, rx⟩ := vals1 r
  cases rx
  obtain ⟨its, rv, pl, hz⟩ := I.list hq
  obtain ⟨as, hr⟩ := Dp.readsAll I _ _ _ hd rv
  cases ps with
  | nil => cases hp
  | cons p ps =>
    have hdp := depthP (p :: ps)
    cases mx with
    | true =>
      refine max_list_data (x := pyP p) (xs := ps.map pyP) (I.ok.hd hc) pl.isList (by simpa using hr) (alikeP (p :: ps)) (by show _ + 1 + PyData.depthAll ((p :: ps).map pyP) < _; omega) fun i v h' tk bs hv rd hk => ?_
      have e := bst_py true ps p
      simp only [if_true] at e
      refine mpr_fin (mx := true) I rv hr q i v h' tk bs hv ?_ hk
      simp only [if_true]
      rw [← e]
      exact rd
    | false =>
      refine min_list_data (x := pyP p) (xs := ps.map pyP) (I.ok.hd hc) pl.isList (by simpa using hr) (alikeP (p :: ps)) (by show _ + 1 + PyData.depthAll ((p :: ps).map pyP) < _; omega) fun i v h' tk bs hv rd hk => ?_
      have e := bst_py false ps p
      simp only [Bool.false_eq_true, if_false] at e
      refine mpr_fin (mx := false) I rv hr q i v h' tk bs hv ?_ hk
      simp only [Bool.false_eq_true, if_false]
      rw [← e]
      exact rd
end VdMp

set_option Elab.async false
set_option linter.all false
set_option maxRecDepth 100000
/-! list(zip(xs, ys)), both lists: every pair stays, and so does the row of them -/
namespace VdZp
open PySem PySem.Spec PyProof.Rows L2
theorem zp_len : typeLookup (.type "zip") "__len__" = pure none := am_miss_of_fast (by decide +kernel)
theorem zp_hint : typeLookup (.type "zip") "__length_hint__" = pure none := am_miss_of_fast (by decide +kernel)
/-- what is asked of the row: pair by pair a new tuple, at last the list of them -/
noncomputable def zipT : List (V × V) → List V → Hp → VK → Prop
  | [], acc, H, Q => ∀ q, H q = none → Q (.ref q) (upd H q (.lst acc))
  | (x, y) :: r, acc, H, Q => ∀ q, H q = none → zipT r (acc ++ [.ref q]) (upd H q (.tup [x, y])) Q
/-- the zip's own records, i pairs told -/
structure ZSt (S z TI TO i1 i2 a b : Addr) (i : Nat) (h : Heap) : Prop where
  inp : IsPair h TI (.ref i1) (.ref i2)
  fst : h.IsListIter i1 a i
  snd : h.IsListIter i2 b i
  tow : ∃ o, h.get? TO = some o
  out : (IsZip h z TI TO .none ∧ ∃ x y, IsPair h TO x y) ∨ ∃ T f oT, IsZipHeld h z TI TO T f ∧ h.get? T = some oT ∧ T ≠ z ∧ T ≠ i1 ∧ T ≠ i2 ∧ T ≠ S
theorem ZSt.keep {S z TI TO i1 i2 a b : Addr} {i : Nat} {h h' : Heap} (st : ZSt S z TI TO i1 i2 a b i h) (n : ∀ c ∈ [z, TI, TO, i1, i2], c ≠ S) (k : ∀ c o, c ≠ S → h.get? c = some o → h'.get? c = some o) : ZSt S z TI TO i1 i2 a b i h' := by
  obtain ⟨q1, q2, q3, ⟨oo, q0⟩, q4⟩ := st
  refine ⟨k _ _ (n TI (by simp)) q1, q2.at fun o e => k _ o (n i1 (by simp)) e, q3.at fun o e => k _ o (n i2 (by simp)) e, ⟨oo, k _ _ (n TO (by simp)) q0⟩, ?_⟩
  rcases q4 with ⟨q, x, y, q5⟩ | ⟨T, f, oT, q, q5, r1, r2, r3, r4⟩
  · exact .inl ⟨k _ _ (n z (by simp)) q, x, y, k _ _ (n TO (by simp)) q5⟩
  · exact .inr ⟨T, f, oT, k _ _ (n z (by simp)) q, k _ _ r4 q5, r1, r2, r3, r4⟩
section
variable {X : Cx} {A : Around} {pins : List (Addr × Obj)} {σ : L2.St} {S z TI TO i1 i2 a b : Addr}
/-- one more pair -/
theorem zp_item {s : Shared} {i : Nat} {us ws : Array Value} {u w : Value} {Q : Option Value → Shared → Prop} {E : Value → Shared → Prop} (D : ZipApart z TI TO i1 i2 a b) (st : ZSt S z TI TO i1 i2 a b i s.heap) (hSl : S < s.heap.objs.size)
    (l1 : s.heap.IsList a us) (l2 : s.heap.IsList b ws) (e1 : us[i]? = some u) (e2 : ws[i]? = some w)
    (hq : ∀ h', ZSt S z TI TO i1 i2 a b (i + 1) h' → h'.get? s.heap.objs.size = some { cls := .type "tuple", data := .seq #[u, w] } →
      (∀ c o, c ∉ [z, TI, TO, i1, i2] → s.heap.get? c = some o → h'.get? c = some o) → Q (some (.ref s.heap.objs.size)) { s with heap := h' }) :
    wpAny (model X.prog X.w) A.in1 (pyNext (.ref z)) Q E s := by
  obtain ⟨q1, q2, q3, ⟨oo, q0⟩, q4⟩ := st
  have big : ∀ {c o}, s.heap.get? c = some o → s.heap.objs.size ≠ c := fun e => Nat.ne_of_gt (Heap.lt_size e)
  have b1 : s.heap.objs.size ≠ i1 := let ⟨_, e, _⟩ := q2; big e
  have b2 : s.heap.objs.size ≠ i2 := let ⟨_, e, _⟩ := q3; big e
  have bS : s.heap.objs.size ≠ S := Nat.ne_of_gt hSl
  have un : ∀ {c}, c ∉ [z, TI, TO, i1, i2] → c ≠ z ∧ c ≠ TO ∧ c ≠ i1 ∧ c ≠ i2 := fun h => by
    simp only [List.mem_cons, List.not_mem_nil, or_false, not_or] at h
    exact ⟨h.1, h.2.2.1, h.2.2.2.1, h.2.2.2.2⟩
  rcases q4 with ⟨q, x, y, q5⟩ | ⟨T, f, oT, q, q5, r1, r2, r3, r4⟩
  · refine wpAny_pyNext_zip_item D q q1 q5 q2 q3 l1 l2 e1 e2 fun h' a1 a2 a3 a4 a5 a6 hk => hq h' ⟨?_, a3, a4, ⟨_, a2⟩, .inr ⟨_, false, _, a1, a5, big q, b1, b2, bS⟩⟩ a5 fun c o hc e => ?_
    · exact hk _ _ D.TIz D.TITO D.TIi1 D.TIi2 q1
    · obtain ⟨n1, n2, n3, n4⟩ := un hc
      exact hk c o n1 n2 n3 n4 e
  · refine wpAny_pyNext_zip_item_held D q q5 q1 q2 q3 l1 l2 e1 e2 fun h' a1 a3 a4 a5 a6 hk => hq h' ⟨?_, a3, a4, ⟨_, hk _ _ D.TOz D.TOi1 D.TOi2 q0⟩, .inr ⟨T, true, oT, a1, hk _ _ r1 r2 r3 q5, r1, r2, r3, r4⟩⟩ a5 fun c o hc e => ?_
    · exact hk _ _ D.TIz D.TIi1 D.TIi2 q1
    · obtain ⟨n1, n2, n3, n4⟩ := un hc
      exact hk c o n1 n3 n4 e
/-- no more pairs -/
theorem zp_end {s : Shared} {i : Nat} {us ws : Array Value} {Q : Option Value → Shared → Prop} {E : Value → Shared → Prop} (hh : A.handled = none) (D : ZipApart z TI TO i1 i2 a b) (st : ZSt S z TI TO i1 i2 a b i s.heap)
    (l1 : s.heap.IsList a us) (l2 : s.heap.IsList b ws) (en : us[i]? = none ∨ ws[i]? = none)
    (hq : ∀ h', (∀ c o, c ∉ [z, TI, TO, i1, i2] → s.heap.get? c = some o → h'.get? c = some o) → Q none { s with heap := h' }) :
    wpAny (model X.prog X.w) A.in1 (pyNext (.ref z)) Q E s := by
  obtain ⟨q1, q2, q3, ⟨oo, q0⟩, q4⟩ := st
  have un : ∀ {c}, c ∉ [z, TI, TO, i1, i2] → c ≠ z ∧ c ≠ TO ∧ c ≠ i1 ∧ c ≠ i2 := fun h => by
    simp only [List.mem_cons, List.not_mem_nil, or_false, not_or] at h
    exact ⟨h.1, h.2.2.1, h.2.2.2.1, h.2.2.2.2⟩
  rcases q4 with ⟨q, x, y, q5⟩ | ⟨T, f, oT, q, q5, r1, r2, r3, r4⟩
  · refine wpAny_pyNext_zip_end (A := A.in1) hh D q q1 q5 q2 q3 l1 l2 en fun h' hk => hq h' fun c o hc e => ?_
    obtain ⟨n1, n2, n3, n4⟩ := un hc
    exact hk c o n1 n2 n3 n4 e
  · refine wpAny_pyNext_zip_end_held (A := A.in1) hh D q q5 q1 q2 q3 l1 l2 en fun h' hk => hq h' fun c o hc e => ?_
    obtain ⟨n1, n2, n3, n4⟩ := un hc
    exact hk c o n1 n3 n4 e
/-- the filling loop -/
theorem zp_loop {xs ys : List V} {Q : VK} (hh : A.handled = none) (D : ZipApart z TI TO i1 i2 a b) (nS : ∀ c ∈ [z, TI, TO, i1, i2], c ≠ S) (hn : xs.length < sizeLine) (res : Value) :
    ∀ (r : List (V × V)) (i : Nat) (s : Shared) (H : Hp) (acc : Array Value) (cc : Nat) (av : List V), (xs.zip ys).drop i = r → i ≤ xs.length → Inv X pins σ H s → SqL X.K H a xs → SqL X.K H b ys → (∀ c ∈ [z, TI, TO, i1, i2, S], FpOk X pins H c) →
      ZSt S z TI TO i1 i2 a b i s.heap → s.heap.get? S = some { cls := .type "list", dict := none, data := .seq acc cc, slots := #[] } → Vals av acc.toList → av.length = i → zipT r av H Q →
      codeAny (model X.prog X.w) A (.builtin "list.extend.loop" ⟨[.ref S, .ref z, res], []⟩) (fun rr s' => rr = .ok (.ret res) ∧ EP X pins σ Q (.ref S) s') s := by
  intro r
  induction r with
  | nil =>
    intro i s H acc cc av hr hi I ha hb hf st hS hv hl hz
    obtain ⟨us, rv, p, _⟩ := I.list ha
    obtain ⟨ws, rv2, p2, _⟩ := I.list hb
    have n1 := rv.length
    have n2 := rv2.length
    have hm : xs.length ≤ i ∨ ys.length ≤ i := by
      have e := congrArg List.length hr
      rw [List.length_drop, List.length_zip, List.length_nil] at e
      omega
    have en : us.toArray[i]? = none ∨ ws.toArray[i]? = none := by
      rcases hm with q | q
      · exact .inl (by simp; omega)
      · exact .inr (by simp; omega)
    refine codeAny_builtin F.entry_extend_loop ?_
    rw [Around.under_plainId F.plain_extend_loop _]
    show wpAny _ A.in1 (pyNext (.ref z) >>= _) _ _ s
    refine wpAny_bind (zp_end hh D st p.isList p2.isList en fun h' hk => wpAny_pure ⟨rfl, ?_⟩)
    have hS' : h'.get? S = some { cls := .type "list", dict := none, data := .seq acc cc, slots := #[] } := hk S _ (fun z => nS S z rfl) hS
    have I1 : Inv X pins σ H { s with heap := h' } := I.turnedL (t' := s.toks) (ch := [z, TI, TO, i1, i2]) hk fun c hc => hf c (List.mem_append_left [S] hc)
    have new : ObjOk X.prog X.w (upd H S (.lst av)) h' S (.lst av) := ⟨by rw [hl]; omega, acc.toList, cc, hv, by rw [Array.toArray_toList]; exact hS'⟩
    exact ⟨.ref S, _, I1.take (t' := s.toks) (it := S) (fun _ _ _ e => e) (hf S (by simp)) new, rfl, hz S (hf S (by simp)).1⟩
  | cons xy r ih =>
    obtain ⟨x, y⟩ := xy
    intro i s H acc cc av hr hi I ha hb hf st hS hv hl hz
    have g : (xs.zip ys)[i]? = some (x, y) := by
      have := congrArg (fun l : List (V × V) => l[0]?) hr
      simpa using this
    have hr' : (xs.zip ys).drop (i + 1) = r := by
      rw [← List.drop_drop, hr]
      rfl
    obtain ⟨gx, gy⟩ := List.getElem?_zip_eq_some.mp g
    have hlt : i < xs.length := (List.getElem?_eq_some_iff.mp gx).1
    obtain ⟨us, rv, p, _⟩ := I.list ha
    obtain ⟨ws, rv2, p2, _⟩ := I.list hb
    obtain ⟨u, hu, ru⟩ := rv.get gx
    obtain ⟨w, hw, rw2⟩ := rv2.get gy
    have hsz : acc.size = i := by rw [← Array.length_toList, ← hv.length, hl]
    refine codeAny_builtin F.entry_extend_loop ?_
    rw [Around.under_plainId F.plain_extend_loop _]
    show wpAny _ A.in1 (pyNext (.ref z) >>= _) _ _ s
    refine wpAny_bind (zp_item (u := u) (w := w) D st (Heap.lt_size hS) p.isList p2.isList (by simpa using hu) (by simpa using hw) fun h' st' hT hk => ?_)
    have hS' : h'.get? S = some { cls := .type "list", dict := none, data := .seq acc cc, slots := #[] } := hk S _ (fun z => nS S z rfl) hS
    have hn0 : H s.heap.objs.size = none := I.hok.fresh (Nat.le_refl _)
    have hf5 : ∀ c ∈ [z, TI, TO, i1, i2], FpOk X pins H c := fun c hc => hf c (List.mem_append_left [S] hc)
    have there : ∀ c ∈ [z, TI, TO, i1, i2, S], c ≠ s.heap.objs.size := by
      intro c hc
      have q2 := st.fst
      have q3 := st.snd
      refine Nat.ne_of_lt ?_
      simp only [List.mem_cons, List.not_mem_nil, or_false] at hc
      rcases hc with q | q | q | q | q | q
      · rw [q]
        rcases st.out with ⟨e, _⟩ | ⟨_, _, _, e, _⟩
        · exact Heap.lt_size e
        · exact Heap.lt_size e
      · rw [q]; exact Heap.lt_size st.inp
      · rw [q]; obtain ⟨_, e⟩ := st.tow; exact Heap.lt_size e
      · rw [q]; obtain ⟨_, e, _⟩ := q2; exact Heap.lt_size e
      · rw [q]; obtain ⟨_, e, _⟩ := q3; exact Heap.lt_size e
      · rw [q]; exact Heap.lt_size hS
    have new : ObjOk X.prog X.w (upd H s.heap.objs.size (.tup [x, y])) h' s.heap.objs.size (.tup [x, y]) :=
      ⟨show 2 ≤ sizeLine from by decide, [u, w], .cons ru (.cons rw2 .nil), ⟨_, hT, rfl, _, rfl⟩⟩
    have I1 : Inv X pins σ (upd H s.heap.objs.size (.tup [x, y])) { s with heap := h' } := I.turnedNew (t' := s.toks) (ch := [z, TI, TO, i1, i2]) hk hf5 (Nat.le_refl _) new
    have hf' : ∀ c ∈ [z, TI, TO, i1, i2, S], FpOk X pins (upd H s.heap.objs.size (.tup [x, y])) c := fun c hc => ⟨by rw [upd_ne (there c hc)]; exact (hf c hc).1, (hf c hc).2⟩
    have up : ∀ c o, c ≠ S → h'.get? c = some o → (h'.update S (Obj.mapSeq (·.push (Value.ref s.heap.objs.size)))).get? c = some o := fun c o hc e => (Heap.get?_update_other _ _ (Ne.symm hc)).trans e
    show wpAny _ A.in1 (updateSeq S (·.push (Value.ref s.heap.objs.size)) >>= _) _ _ _
    refine wpAny_bind ?_
    refine wpAny_updateSeq hS' rfl (wpAny_pure ⟨plainId_quiet F.plain_extend_loop _, ?_⟩) (by rw [hsz]; omega) (by show (acc.push (Value.ref s.heap.objs.size)).size ≤ sizeLine + 1; rw [Array.size_push, hsz]; omega)
    have I2 := I1.turnedL (t' := s.toks) (h' := h'.update S (Obj.mapSeq (·.push (Value.ref s.heap.objs.size)))) (ch := [S]) (fun c o hc e => up c o (fun q => hc (by simp [q])) e) fun c hc => hf' c (by rw [List.mem_singleton.mp hc]; simp)
    exact ih (i + 1) _ _ (acc.push (Value.ref s.heap.objs.size)) _ (av ++ [.ref s.heap.objs.size]) hr' hlt I2 (ha.ext (Ext.upd hn0)) (hb.ext (Ext.upd hn0)) hf' (st'.keep nS up) (Heap.get?_update_self _ hS' rfl)
      (by rw [Array.toList_push]; exact hv.append (.cons rfl .nil)) (by rw [List.length_append, hl]; rfl) (hz _ hn0)
theorem zp_ext {R : Result → Shared → Prop} {xs ys : List V} {Q : VK} {s : Shared} {H : Hp} {c0 : Nat} (hh : A.handled = none) (D : ZipApart z TI TO i1 i2 a b) (nS : ∀ c ∈ [z, TI, TO, i1, i2], c ≠ S) (hn : xs.length < sizeLine)
    (I : Inv X pins σ H s) (ha : SqL X.K H a xs) (hb : SqL X.K H b ys) (hf : ∀ c ∈ [z, TI, TO, i1, i2, S], FpOk X pins H c) (st : ZSt S z TI TO i1 i2 a b 0 s.heap) (hz0 : IsZip s.heap z TI TO .none)
    (hS : s.heap.get? S = some { cls := .type "list", data := .seq #[] c0 }) (hz : zipT (xs.zip ys) [] H Q) (hR : ∀ s', EP X pins σ Q (.ref S) s' → R (.ok (.ret .none)) s') :
    wpAny (model X.prog X.w) A.in1 (Builtin.List.listExtendWith (.ref S) (.ref z) .none)
      (fun fin s' => match fin with | .done f => R (.ok f) s' | .again c' => c'.quiet = true ∧ codeAny (model X.prog X.w) A c' R s') (fun e s' => R (.error e) s') s := by
  have ty : s.TypeIs (.ref z) "zip" := ⟨_, hz0, rfl⟩
  have nz : S ≠ z := fun e => nS z (by simp) e.symm
  have k1 : Builtin.List.listSameRef (.ref S) (.ref z) = false := by simp [Builtin.List.listSameRef, nz]
  have k2 : (Value.type "zip" == Value.type "list") = false := by decide
  have k3 : (Value.type "zip" == Value.type "tuple") = false := by decide
  unfold Builtin.List.listExtendWith
  refine wpAny_bind (wpAny_typeOf ty ?_)
  rw [if_neg (by rw [k1, k2, k3]; decide)]
  refine wpAny_bind (wpAny_pyIter_zip hz0 (wpAny_bind (wpAny_holding ?_)))
  unfold Builtin.List.listLengthHint
  refine wpAny_bind (wpAny_specialOf ty zp_len ?_)
  show wpAny _ A.in1 (specialOf (Value.ref z) (Str.ofString "__length_hint__") >>= _) _ _ _
  refine wpAny_bind (wpAny_specialOf ty zp_hint (wpAny_pure ?_))
  show wpAny _ A.in1 (rule "list.extend.makes-room" >>= fun _ => Builtin.List.listTouch (.ref S) >>= fun _ => again (.builtin "list.extend.loop" ⟨[.ref S, .ref z, .none], []⟩)) _ _ _
  refine wpAny_bind (wpAny_rule (wpAny_bind ?_))
  show wpAny _ A.in1 (updateSeq S (·.push .none) >>= fun _ => updateSeq S (·.pop)) _ _ _
  refine wpAny_bind (wpAny_updateSeq hS rfl ?_)
  have j1 := Heap.get?_update_self (Obj.mapSeq (·.push Value.none)) hS rfl
  refine wpAny_updateSeq j1 rfl ?_
  have j2 := Heap.get?_update_self (Obj.mapSeq (·.pop)) j1 rfl
  have oth : ∀ c o, c ≠ S → s.heap.get? c = some o → ((s.heap.update S (Obj.mapSeq (·.push Value.none))).update S (Obj.mapSeq (·.pop))).get? c = some o := fun c o hc e => (Heap.get?_update_other _ _ (Ne.symm hc)).trans ((Heap.get?_update_other _ _ (Ne.symm hc)).trans e)
  have I2 := I.turnedL (t' := s.toks) (h' := (s.heap.update S (Obj.mapSeq (·.push Value.none))).update S (Obj.mapSeq (·.pop))) (ch := [S]) (fun c o hc e => oth c o (fun q => hc (by simp [q])) e) fun c hc => hf c (by rw [List.mem_singleton.mp hc]; simp)
  refine wpAny_pure ⟨plainId_quiet F.plain_extend_loop _, codeAny_mono (zp_loop hh D nS hn .none (xs.zip ys) 0 _ H #[] _ [] rfl (Nat.zero_le _) I2 ha hb hf (st.keep nS oth) j2 .nil rfl hz) fun r s' q => ?_⟩
  obtain ⟨rfl, q⟩ := q
  exact hR s' q
theorem zp_init {R : Result → Shared → Prop} {xs ys : List V} {Q : VK} {s : Shared} {H : Hp} (hh : A.handled = none) (D : ZipApart z TI TO i1 i2 a b) (nS : ∀ c ∈ [z, TI, TO, i1, i2], c ≠ S) (hn : xs.length < sizeLine)
    (I : Inv X pins σ H s) (ha : SqL X.K H a xs) (hb : SqL X.K H b ys) (hf : ∀ c ∈ [z, TI, TO, i1, i2, S], FpOk X pins H c) (st : ZSt S z TI TO i1 i2 a b 0 s.heap) (hz0 : IsZip s.heap z TI TO .none)
    (hS : s.heap.get? S = some { cls := .type "list", data := .seq #[] }) (hz : zipT (xs.zip ys) [] H Q) (hR : ∀ s', EP X pins σ Q (.ref S) s' → R (.ok (.ret .none)) s') :
    wpAny (model X.prog X.w) A.in1 (Builtin.«list.__init__» ⟨[.ref S, .ref z], []⟩)
      (fun fin s' => match fin with | .done f => R (.ok f) s' | .again c' => c'.quiet = true ∧ codeAny (model X.prog X.w) A c' R s') (fun e s' => R (.error e) s') s := by
  show wpAny _ _ (do let old ← Builtin.List.listItems (.ref S); Builtin.List.listUpdate (.ref S) (fun _ => #[]); letGo old.toList.reverse; Builtin.List.listExtendWith (.ref S) (.ref z) .none) _ _ s
  refine wpAny_bind ?_
  unfold Builtin.List.listItems
  refine wpAny_bind (wpAny_seqItems hS rfl (wpAny_pure ?_))
  show wpAny _ A.in1 (updateSeq S (fun _ => #[]) >>= fun _ => letGo (#[] : Array Value).toList.reverse >>= fun _ => Builtin.List.listExtendWith (.ref S) (.ref z) .none) _ _ s
  refine wpAny_bind (wpAny_updateSeq hS rfl (wpAny_bind (wpAny_letGo ?_)))
  have j := Heap.get?_update_self (Obj.mapSeq (fun _ => (#[] : Array Value))) hS rfl
  have oth : ∀ c o, c ≠ S → s.heap.get? c = some o → (s.heap.update S (Obj.mapSeq (fun _ => (#[] : Array Value)))).get? c = some o := fun c o hc e => (Heap.get?_update_other _ _ (Ne.symm hc)).trans e
  have I2 := I.turnedL (t' := s.toks) (h' := s.heap.update S (Obj.mapSeq (fun _ => (#[] : Array Value)))) (ch := [S]) (fun c o hc e => oth c o (fun q => hc (by simp [q])) e) fun c hc => hf c (by rw [List.mem_singleton.mp hc]; simp)
  exact zp_ext hh D nS hn I2 ha hb hf (st.keep nS oth) (oth z _ (nS z (by simp)) hz0) j hz hR
theorem call_list_zip {xs ys : List V} {Q : VK} {E : Value → Shared → Prop} {s : Shared} {H : Hp} (hh : X.A.handled = none) (D : ZipApart z TI TO i1 i2 a b) (hn : xs.length < sizeLine)
    (I : Inv X pins σ H s) (ha : SqL X.K H a xs) (hb : SqL X.K H b ys) (hf : ∀ c ∈ [z, TI, TO, i1, i2], FpOk X pins H c) (hlt : ∀ c ∈ [z, TI, TO, i1, i2], c < s.heap.objs.size) (st : ZSt s.heap.objs.size z TI TO i1 i2 a b 0 s.heap) (hz0 : IsZip s.heap z TI TO .none)
    (hz : zipT (xs.zip ys) [] H Q) :
    wpAny (model X.prog X.w) X.A (call (.type "list") [.ref z]) (EP X pins σ Q) E s := by
  refine callType_codes (Q₁ := fun obj s₁ => obj = .ref s.heap.objs.size ∧ s₁ = { s with heap := s.heap.push { cls := .type "list", data := .seq #[] } }) F.called_list (F.typeCall_list_1 _) F.entry_list_init
    (code_list_new _ ⟨rfl, rfl⟩) fun obj s1 h1 => ?_
  obtain ⟨rfl, rfl⟩ := h1
  have hS : (s.heap.push { cls := .type "list", data := .seq #[] }).get? s.heap.objs.size = some { cls := .type "list", data := .seq #[] } := Heap.get?_push_size _ rfl
  have nS : ∀ c ∈ [z, TI, TO, i1, i2], c ≠ s.heap.objs.size := fun c hc => Nat.ne_of_lt (hlt c hc)
  have I2 : Inv X pins σ H { s with heap := s.heap.push { cls := .type "list", data := .seq #[] } } := I.kept (t' := s.toks) fun c o e => Heap.get?_push_of_some _ e
  have hf6 : ∀ c ∈ [z, TI, TO, i1, i2, s.heap.objs.size], FpOk X pins H c := fun c hc => by
    rcases List.mem_append.mp (show c ∈ [z, TI, TO, i1, i2] ++ [s.heap.objs.size] from hc) with q | q
    · exact hf c q
    · rw [List.mem_singleton.mp q]
      exact I.fpOk (Nat.le_refl _) (I.hok.fresh (Nat.le_refl _))
  exact ⟨⟨_, hS, rfl⟩, F.args_list_init_2 _ _, zp_init (A := X.A.in1) hh D nS hn I2 ha hb hf6 (st.keep nS fun c o _ e => Heap.get?_push_of_some _ e) (Heap.get?_push_of_some _ hz0) hS hz fun s' q => ⟨rfl, q⟩⟩
end
noncomputable def tListZip (K : PySem.W.Frag) (ta tb : TE) : TE := fun σ H Q => ta σ H fun v H1 => tb σ H1 fun w H2 => ∃ (a b : Addr) (xs ys : List V), v = .ref a ∧ w = .ref b ∧ SqL K H2 a xs ∧ SqL K H2 b ys ∧ xs.length ≤ 4000 ∧ zipT (xs.zip ys) [] H2 Q
section
variable {X : Cx}
theorem pe_listZip {e1 e2 : Expr} {ta tb : TE} {p p2 pos pos2 : Pos} (hc : X.calm = true) (hg : Gl X "list") (hm : X.mg "list" = none) (hg2 : Gl X "zip") (hm2 : X.mg "zip" = none) (h1 : PE X e1 ta) (h2 : PE X e2 tb)
    (n1 : starEach [e1, e2] X.env = (false, eval e1 X.env) :: starEach [e2] X.env) (n2 : starEach [e2] X.env = (false, eval e2 X.env) :: starEach [] X.env) (n3 : (backTo pos2 (starEach [e2] X.env)).any (·.1) = false)
    (n4 : starEach [.Call (.Name "zip" p2) [e1, e2] [] pos2] X.env = (false, eval (.Call (.Name "zip" p2) [e1, e2] [] pos2) X.env) :: starEach [] X.env) :
    PE X (.Call (.Name "list" p) [.Call (.Name "zip" p2) [e1, e2] [] pos2] [] pos) (tListZip X.K ta tb) := by
  refine ⟨fun pins s σ H Q I h => ?_⟩
  refine Call_ (ld_blt I hg hm boot_list (PyProof.Rows.callWith_type1 (args_cons (Call_ (ld_blt I hg2 hm2 PyProof.Rows.boot_zip (PyProof.Rows.callWith_type1 (args_cons (thn (h1.run pins s σ H _ I h) fun u s1 ⟨v, H1, I1, r1, q1⟩ => args_cons (thn (h2.run pins s1 σ H1 _ I1 q1) fun u' s2 ⟨v', H2, I2, r2, q2⟩ => args_nil ?_) n2) n1) n1 n3))) n4) n4 rfl))
  obtain ⟨a, b, xs, ys, ev, ew, ha, hb, hl, q⟩ := q2
  subst ev
  subst ew
  obtain rfl : u = Value.ref a := r1
  obtain rfl : u' = Value.ref b := r2
  obtain ⟨is1, rv1, pl1, _⟩ := I2.list ha
  obtain ⟨is2, rv2, pl2, _⟩ := I2.list hb
  refine call_zip_2 pl1.isList pl2.isList fun h' hz hTI hTO g1 g2 hsz hk => args_nil ?_
  have I3 : Inv X pins σ H2 { s2 with heap := h' } := I2.kept (t' := s2.toks) hk
  have lst : ∀ c ∈ [s2.heap.objs.size + 4, s2.heap.objs.size + 2, s2.heap.objs.size + 3, s2.heap.objs.size, s2.heap.objs.size + 1], s2.heap.objs.size ≤ c ∧ c < h'.objs.size := fun c hc => by
    simp only [List.mem_cons, List.not_mem_nil, or_false] at hc
    rw [hsz]
    omega
  refine call_list_zip (s := { s2 with heap := h' }) (I2.ok.hd hc) (PySem.W.ktu_apart s2.heap.objs.size a b pl1.lt pl2.lt) (by rw [sizeLine_eq]; omega) I3 ha hb (fun c hc => I2.fpOk (lst c hc).1 (I2.hok.fresh (lst c hc).1)) (fun c hc => (lst c hc).2) ⟨hTI, g1, g2, ⟨_, hTO⟩, .inl ⟨hz, _, _, hTO⟩⟩ hz q
end
end VdZp

set_option Elab.async false
set_option linter.all false
set_option maxRecDepth 100000
/-! how plain data lies in the abstract heap -/
namespace Vd
open PySem PySem.Spec PyProof.Rows L2

structure Wd where
  K : PySem.W.Frag
  mg : Str → Option Value
  xs : Option (Nat × Addr × String)
  fb : List Addr
/-- an address that is not written -/
noncomputable def Off (W : Wd) (φ : List Addr) (a : Addr) : Prop := a ∉ φ ∧ a ∉ W.fb
noncomputable def clOf (mg : Str → Option Value) (c : String) : Option Addr := match mg (Str.ofString c) with
  | some (.ref C) => some C
  | _ => none

noncomputable def SvAt (W : Wd) (φ : List Addr) (H : Hp) (a : Addr) (vs : List V) : Prop :=
  (Rd H a (.lst vs) ∧ Off W φ a) ∨ ∃ (o : Obj) (its : Array Value) (n : Nat), W.K.lookup a = some o ∧ o.cls = .type "list" ∧ o.dict = none ∧ o.data = .seq its n ∧ its.size ≤ sizeLine ∧ Vals vs its.toList
mutual
inductive Rep (W : Wd) (φ : List Addr) (H : Hp) : D → V → Prop
  | non : Rep W φ H .non .non
  | bl (b : Bool) : Rep W φ H (.bl b) (.bl b)
  | int (i : Int) : Rep W φ H (.int i) (.int i)
  | str (x : Str) : Rep W φ H (.str x) (.str x)
  | tup {a vs xs} : H a = some (.tup vs) → Off W φ a → Reps W φ H xs vs → Rep W φ H (.tup xs) (.ref a)
  | vl {a vs xs} : H a = some (.lst vs) → Off W φ a → Reps W φ H xs vs → Rep W φ H (.vl xs) (.ref a)
  | sv {a vs xs} : SvAt W φ H a vs → Reps W φ H xs vs → Rep W φ H (.sv xs) (.ref a)
  | vi {a C dx c ns vs xs} {fs : List (Str × V)} : H a = some (.ins C dx fs) → Off W φ a → clOf W.mg c = some C → fs = (ns.map Str.ofString).zip vs → Reps W φ H xs vs → ns.length = vs.length → Rep W φ H (.vi c ns xs) (.ref a)
  | ref {n a} : φ[n]? = some a → Rep W φ H (.ref n) (.ref a)
inductive Reps (W : Wd) (φ : List Addr) (H : Hp) : List D → List V → Prop
  | nil : Reps W φ H [] []
  | cons {x v xs vs} : Rep W φ H x v → Reps W φ H xs vs → Reps W φ H (x :: xs) (v :: vs)
end
structure Ext (φ φ' : List Addr) (H H' : Hp) : Prop where
  pre : ∃ l, φ' = φ ++ l ∧ ∀ p ∈ l, H p = none
  keep : ∀ a o, a ∉ φ → H a = some o → H' a = some o
  there : ∀ a, H a ≠ none → H' a ≠ none
  frz : ∀ a o u, H a = some (.frz o u) → H' a = some (.frz o u)

theorem Ext.out {φ φ' H H'} (e : Ext φ φ' H H') {a : Addr} {o : HO} (n : a ∉ φ) (h : H a = some o) : a ∉ φ' := by
  obtain ⟨l, rfl, hl⟩ := e.pre
  intro hm
  rcases List.mem_append.mp hm with z | z
  · exact n z
  · rw [hl a z] at h; cases h
theorem Ext.refl {φ H} : Ext φ φ H H := ⟨⟨[], by simp, by simp⟩, fun _ _ _ h => h, fun _ h => h, fun _ _ _ h => h⟩
theorem Ext.trans {φ φ1 φ2 H H1 H2} (a : Ext φ φ1 H H1) (b : Ext φ1 φ2 H1 H2) : Ext φ φ2 H H2 := by
  obtain ⟨l, e1, hl⟩ := a.pre
  obtain ⟨m, e2, hm⟩ := b.pre
  refine ⟨⟨l ++ m, by rw [e2, e1, List.append_assoc], fun p hp => ?_⟩, fun c o n h => ?_, fun c h => b.there c (a.there c h), fun c o u h => b.frz c o u (a.frz c o u h)⟩
  · rcases List.mem_append.mp hp with z | z
    · exact hl p z
    · have h1 := hm p z
      cases q : H p with
      | none => rfl
      | some o => exact absurd h1 (a.there p (by rw [q]; simp))
  · exact b.keep c o (a.out n h) (a.keep c o n h)

section
variable {W : Wd} {φ φ' : List Addr} {H H' : Hp}
mutual
theorem Rep.ext (e : Ext φ φ' H H') : ∀ {d v}, Rep W φ H d v → Rep W φ' H' d v
  | _, _, .non => .non
  | _, _, .bl b => .bl b
  | _, _, .int i => .int i
  | _, _, .str x => .str x
  | _, _, .tup h n r => .tup (e.keep _ _ n.1 h) ⟨e.out n.1 h, n.2⟩ (Reps.ext e r)
  | _, _, .vl h n r => .vl (e.keep _ _ n.1 h) ⟨e.out n.1 h, n.2⟩ (Reps.ext e r)
  | _, _, .sv h r => .sv (by
      rcases h with ⟨h, n⟩ | h
      · rcases h with h | ⟨o, h⟩
        · exact .inl ⟨.inl (e.keep _ _ n.1 h), e.out n.1 h, n.2⟩
        · exact .inl ⟨.inr ⟨o, e.keep _ _ n.1 h⟩, e.out n.1 h, n.2⟩
      · exact .inr h) (Reps.ext e r)
  | _, _, .vi h n c m r l => .vi (e.keep _ _ n.1 h) ⟨e.out n.1 h, n.2⟩ c m (Reps.ext e r) l
  | _, _, .ref h => .ref (by
      obtain ⟨l, rfl, _⟩ := e.pre
      rw [List.getElem?_append_left]
      · exact h
      · exact (List.getElem?_eq_some_iff.mp h).1)
theorem Reps.ext (e : Ext φ φ' H H') : ∀ {ds vs}, Reps W φ H ds vs → Reps W φ' H' ds vs
  | _, _, .nil => .nil
  | _, _, .cons a b => .cons (Rep.ext e a) (Reps.ext e b)
end
theorem Reps.len : ∀ {ds vs}, Reps W φ H ds vs → ds.length = vs.length
  | _, _, .nil => rfl
  | _, _, .cons _ b => by simp [Reps.len b]
theorem Reps.get : ∀ {ds vs} {i : Nat} {d}, Reps W φ H ds vs → ds[i]? = some d → ∃ v, vs[i]? = some v ∧ Rep W φ H d v
  | _, _, _, _, .nil, h => by simp at h
  | _, _, 0, _, .cons a _, h => by simp at h; subst h; exact ⟨_, rfl, a⟩
  | _, _, i + 1, _, .cons _ b, h => by
    obtain ⟨v, h1, h2⟩ := Reps.get (i := i) b (by simpa using h)
    exact ⟨v, by simpa using h1, h2⟩
theorem Reps.get' : ∀ {ds vs} {i : Nat} {v}, Reps W φ H ds vs → vs[i]? = some v → ∃ d, ds[i]? = some d ∧ Rep W φ H d v
  | _, _, _, _, .nil, h => by simp at h
  | _, _, 0, _, .cons a _, h => by simp at h; subst h; exact ⟨_, rfl, a⟩
  | _, _, i + 1, _, .cons _ b, h => by
    obtain ⟨v, h1, h2⟩ := Reps.get' (i := i) b (by simpa using h)
    exact ⟨v, by simpa using h1, h2⟩
theorem Reps.append : ∀ {ds vs es us}, Reps W φ H ds vs → Reps W φ H es us → Reps W φ H (ds ++ es) (vs ++ us)
  | _, _, _, _, .nil, s => s
  | _, _, _, _, .cons a b, s => .cons a (Reps.append b s)
theorem Reps.drop : ∀ {ds vs} (n : Nat), Reps W φ H ds vs → Reps W φ H (ds.drop n) (vs.drop n)
  | _, _, 0, r => r
  | _, _, n + 1, .nil => .nil
  | _, _, n + 1, .cons _ b => Reps.drop n b
theorem Reps.take : ∀ {ds vs} (n : Nat), Reps W φ H ds vs → Reps W φ H (ds.take n) (vs.take n)
  | _, _, 0, _ => .nil
  | _, _, n + 1, .nil => .nil
  | _, _, n + 1, .cons a b => .cons a (Reps.take n b)
theorem Reps.set {d v} (r : Rep W φ H d v) : ∀ {ds vs} (i : Nat), Reps W φ H ds vs → Reps W φ H (ds.set i d) (vs.set i v)
  | _, _, _, .nil => .nil
  | _, _, 0, .cons _ b => .cons r b
  | _, _, i + 1, .cons a b => .cons a (Reps.set r i b)
theorem Reps.dropLast {ds vs} (r : Reps W φ H ds vs) : Reps W φ H ds.dropLast vs.dropLast := by
  rw [List.dropLast_eq_take, List.dropLast_eq_take, r.len]; exact r.take _
theorem Reps.reverse : ∀ {ds vs}, Reps W φ H ds vs → Reps W φ H ds.reverse vs.reverse
  | _, _, .nil => .nil
  | _, _, .cons a b => by rw [List.reverse_cons, List.reverse_cons]; exact (Reps.reverse b).append (.cons a .nil)
theorem Reps.rep {ds vs} (r : Reps W φ H ds vs) : ∀ k : Nat, Reps W φ H (List.replicate k ds).flatten (List.replicate k vs).flatten
  | 0 => .nil
  | k + 1 => by rw [List.replicate_succ, List.replicate_succ, List.flatten_cons, List.flatten_cons]; exact r.append (Reps.rep r k)
theorem Reps.single {d v} (r : Rep W φ H d v) : Reps W φ H [d] [v] := .cons r .nil

/-! ### inversions -/
theorem Rep.int_inv {i v} (r : Rep W φ H (.int i) v) : v = .int i := by cases r; rfl
theorem Rep.bl_inv {i v} (r : Rep W φ H (.bl i) v) : v = .bl i := by cases r; rfl
theorem Rep.str_inv {i v} (r : Rep W φ H (.str i) v) : v = .str i := by cases r; rfl
theorem Rep.non_inv {v} (r : Rep W φ H .non v) : v = .non := by cases r; rfl

/-- written, or locked -/
noncomputable def HzD : Bool → Hp → Addr → HO → Prop
  | false, H, a, u => H a = some u
  | true, H, a, u => ∃ o, H a = some (.frz o u)
theorem HzD.rd {z : Bool} {H : Hp} {a : Addr} {u : HO} (h : HzD z H a u) : Rd H a u := by
  cases z with
  | false => exact .inl h
  | true => exact .inr h
theorem HzD.there {z : Bool} {H : Hp} {a : Addr} {u : HO} (h : HzD z H a u) : H a ≠ none := by
  cases z with
  | false => rw [show H a = some u from h]; simp
  | true => obtain ⟨o, h⟩ := h; rw [h]; simp
theorem HzD.same {z : Bool} {H H' : Hp} {a : Addr} {u : HO} (e : H' a = H a) (h : HzD z H a u) : HzD z H' a u := by
  cases z with
  | false => exact e.trans h
  | true => obtain ⟨o, h⟩ := h; exact ⟨o, e.trans h⟩
noncomputable def RepO (W : Wd) (φ : List Addr) (H : Hp) (a : Addr) : Ob → Prop
  | .lst xs => ∃ vs, H a = some (.lst vs) ∧ Reps W φ H xs vs
  | .ins c ns xs => ∃ C dx vs, H a = some (.ins C dx ((ns.map Str.ofString).zip vs)) ∧ clOf W.mg c = some C ∧ Reps W φ H xs vs ∧ ns.length = vs.length
  | .dk z kvs => ∃ vs, HzD z H a (.dK ((kvs.map (·.1)).zip vs)) ∧ Reps W φ H (kvs.map (·.2)) vs
  | .dt z kvs => ∃ vs, HzD z H a (.dT ((kvs.map (·.1)).zip vs)) ∧ Reps W φ H (kvs.map (·.2)) vs
structure Sim (W : Wd) (φ : List Addr) (hd : Hd) (H : Hp) : Prop where
  len : φ.length = hd.length
  nd : φ.Nodup
  fbt : ∀ a ∈ W.fb, H a ≠ none
  fbn : ∀ a ∈ W.fb, a ∉ φ
  obj : ∀ (n : Nat) (o : Ob), hd[n]? = some o → ∃ a, φ[n]? = some a ∧ RepO W φ H a o
theorem RepO.there {a o} (r : RepO W φ H a o) : H a ≠ none := by
  cases o with
  | lst xs => obtain ⟨vs, h, _⟩ := r; rw [h]; simp
  | ins c ns xs => obtain ⟨C, dx, vs, h, _⟩ := r; rw [h]; simp
  | dk z kvs => obtain ⟨vs, h, _⟩ := r; exact h.there
  | dt z kvs => obtain ⟨vs, h, _⟩ := r; exact h.there
theorem Sim.there {hd} (s : Sim W φ hd H) {a} (h : a ∈ φ) : H a ≠ none := by
  obtain ⟨n, hn, e⟩ := List.getElem_of_mem h
  have : n < hd.length := by rw [← s.len]; exact hn
  obtain ⟨b, hb, r⟩ := s.obj n hd[n] (by simp [this])
  rw [List.getElem?_eq_getElem hn, e] at hb
  cases hb
  exact r.there
theorem RepO.ext {a o} (e : Ext φ φ' H H') (h : H' a = H a) (r : RepO W φ H a o) : RepO W φ' H' a o := by
  cases o with
  | lst xs => obtain ⟨vs, q, r⟩ := r; exact ⟨vs, by rw [h]; exact q, r.ext e⟩
  | ins c ns xs => obtain ⟨C, dx, vs, q, c, r, l⟩ := r; exact ⟨C, dx, vs, by rw [h]; exact q, c, r.ext e, l⟩
  | dk z kvs => obtain ⟨vs, q, r⟩ := r; exact ⟨vs, q.same h, r.ext e⟩
  | dt z kvs => obtain ⟨vs, q, r⟩ := r; exact ⟨vs, q.same h, r.ext e⟩

/-- a new object that is not to change -/
theorem Ext.new {p : Addr} {o : HO} (hp : H p = none) : Ext φ φ H (upd H p o) := ⟨⟨[], by simp, by simp⟩, fun a u _ h => by rw [upd_ne (ne_of_none h hp)]; exact h, fun a h => by
  by_cases e : a = p
  · subst e; rw [upd_same]; simp
  · rw [upd_ne e]; exact h, fun a u v h => by rw [upd_ne (ne_of_none h hp)]; exact h⟩
theorem Sim.notin {hd} (s : Sim W φ hd H) {p : Addr} (hp : H p = none) : p ∉ φ := fun h => s.there h hp
theorem Sim.off {hd} (s : Sim W φ hd H) {p : Addr} (hp : H p = none) : Off W φ p := ⟨s.notin hp, fun h => s.fbt p h hp⟩
theorem Sim.new {hd} (s : Sim W φ hd H) {p : Addr} {o : HO} (hp : H p = none) : Sim W φ hd (upd H p o) := by
  refine ⟨s.len, s.nd, fun a h => (Ext.new (φ := φ) hp).there a (s.fbt a h), s.fbn, fun n u h => ?_⟩
  obtain ⟨a, ha, r⟩ := s.obj n u h
  refine ⟨a, ha, r.ext (Ext.new hp) ?_⟩
  refine upd_ne fun e => ?_
  subst e
  exact r.there hp
/-- a new list that may change -/
theorem Ext.alloc {p : Addr} {o : HO} (hp : H p = none) : Ext φ (φ ++ [p]) H (upd H p o) := ⟨⟨[p], rfl, by simpa using hp⟩, (Ext.new (φ := φ) hp).keep, (Ext.new (φ := φ) hp).there, (Ext.new (φ := φ) hp).frz⟩
theorem Sim.alloc {hd} (s : Sim W φ hd H) {p : Addr} {o : HO} {ob : Ob} (hp : H p = none) (r : RepO W (φ ++ [p]) (upd H p o) p ob) : Sim W (φ ++ [p]) (hd ++ [ob]) (upd H p o) := by
  refine ⟨by simp [s.len], ?_, fun a h => (Ext.new (φ := φ) hp).there a (s.fbt a h), fun a h z => ?_, fun n u h => ?_⟩
  rotate_left
  · rcases List.mem_append.mp z with z | z
    · exact s.fbn a h z
    · have : a = p := by simpa using z
      exact s.fbt a h (by rw [this]; exact hp)
  rotate_left
  · rw [List.nodup_append]
    refine ⟨s.nd, by simp, fun a ha b hb => ?_⟩
    have : b = p := by simpa using hb
    subst this
    exact fun e => s.notin hp (e ▸ ha)
  · by_cases hn : n < hd.length
    · rw [List.getElem?_append_left hn] at h
      obtain ⟨a, ha, q⟩ := s.obj n u h
      refine ⟨a, by rw [List.getElem?_append_left (by rw [s.len]; exact hn)]; exact ha, q.ext (Ext.alloc hp) (upd_ne fun e => ?_)⟩
      subst e
      exact q.there hp
    · have e : n = hd.length := by
        have := (List.getElem?_eq_some_iff.mp h).1
        simp at this; omega
      subst e
      simp at h
      subst h
      exact ⟨p, by rw [← s.len]; simp, r⟩
theorem nofrz {H : Hp} {p : Addr} {u : HO} (e : H p = some u) (n : ∀ o v, u ≠ .frz o v) (od : Obj) (v : HO) : H p ≠ some (.frz od v) := fun z => n od v (Option.some.inj (e.symm.trans z))
/-- an object that may change is written -/
theorem Ext.write {p : Addr} {o : HO} (hp : p ∈ φ) (hz : ∀ od u, H p ≠ some (.frz od u)) : Ext φ φ H (upd H p o) := ⟨⟨[], by simp, by simp⟩, fun a u n h => by rw [upd_ne (fun (e : a = p) => n (by rw [e]; exact hp))]; exact h, fun a h => by
  by_cases e : a = p
  · subst e; rw [upd_same]; simp
  · rw [upd_ne e]; exact h, fun a u v h => by rw [upd_ne (fun (e : a = p) => hz u v (by rw [← e]; exact h))]; exact h⟩
theorem Sim.write {hd} (s : Sim W φ hd H) {p : Addr} {k : Nat} {o : HO} {ob : Ob} (hk : φ[k]? = some p) (hz : ∀ od u, H p ≠ some (.frz od u)) (r : RepO W φ (upd H p o) p ob) : Sim W φ (hd.set k ob) (upd H p o) := by
  have hkl := (List.getElem?_eq_some_iff.mp hk).1
  refine ⟨by simp [s.len], s.nd, fun a h => (Ext.write (List.mem_of_getElem? hk) hz).there a (s.fbt a h), s.fbn, fun n u h => ?_⟩
  by_cases e : n = k
  · subst e
    rw [List.getElem?_set_self (by rw [← s.len]; exact hkl)] at h
    cases h
    exact ⟨p, hk, r⟩
  · rw [List.getElem?_set_ne (Ne.symm e)] at h
    obtain ⟨a, ha, q⟩ := s.obj n u h
    refine ⟨a, ha, q.ext (Ext.write (List.mem_of_getElem? hk) hz) (upd_ne fun z => ?_)⟩
    subst z
    obtain ⟨h1, e1⟩ := List.getElem?_eq_some_iff.mp hk
    obtain ⟨h2, e2⟩ := List.getElem?_eq_some_iff.mp ha
    exact e ((List.getElem_inj s.nd).mp (e2.trans e1.symm))

/-! ### a list under way, that no value knows -/
noncomputable abbrev Wd.more (W : Wd) (p : Addr) : Wd := { W with fb := p :: W.fb }
mutual
theorem Rep.more {p : Addr} (hp : H p = none) : ∀ {d v}, Rep W φ H d v → Rep (W.more p) φ H d v
  | _, _, .non => .non
  | _, _, .bl b => .bl b
  | _, _, .int i => .int i
  | _, _, .str x => .str x
  | _, _, .tup h n r => .tup h ⟨n.1, by simp only [List.mem_cons, not_or]; exact ⟨ne_of_none h hp, n.2⟩⟩ (Reps.more hp r)
  | _, _, .vl h n r => .vl h ⟨n.1, by simp only [List.mem_cons, not_or]; exact ⟨ne_of_none h hp, n.2⟩⟩ (Reps.more hp r)
  | _, _, .sv h r => .sv (by
      rcases h with ⟨h, n⟩ | h
      · refine .inl ⟨h, n.1, ?_⟩
        simp only [List.mem_cons, not_or]
        refine ⟨?_, n.2⟩
        rcases h with h | ⟨o, h⟩ <;> exact ne_of_none h hp
      · exact .inr h) (Reps.more hp r)
  | _, _, .vi h n c m r l => .vi h ⟨n.1, by simp only [List.mem_cons, not_or]; exact ⟨ne_of_none h hp, n.2⟩⟩ c m (Reps.more hp r) l
  | _, _, .ref h => .ref h
theorem Reps.more {p : Addr} (hp : H p = none) : ∀ {ds vs}, Reps W φ H ds vs → Reps (W.more p) φ H ds vs
  | _, _, .nil => .nil
  | _, _, .cons a b => .cons (Rep.more hp a) (Reps.more hp b)
end
mutual
theorem Rep.less {p : Addr} : ∀ {d v}, Rep (W.more p) φ H d v → Rep W φ H d v
  | _, _, .non => .non
  | _, _, .bl b => .bl b
  | _, _, .int i => .int i
  | _, _, .str x => .str x
  | _, _, .tup h n r => .tup h ⟨n.1, fun z => n.2 (List.mem_cons_of_mem _ z)⟩ (Reps.less r)
  | _, _, .vl h n r => .vl h ⟨n.1, fun z => n.2 (List.mem_cons_of_mem _ z)⟩ (Reps.less r)
  | _, _, .sv h r => .sv (by
      rcases h with ⟨h, n⟩ | h
      · exact .inl ⟨h, n.1, fun z => n.2 (List.mem_cons_of_mem _ z)⟩
      · exact .inr h) (Reps.less r)
  | _, _, .vi h n c m r l => .vi h ⟨n.1, fun z => n.2 (List.mem_cons_of_mem _ z)⟩ c m (Reps.less r) l
  | _, _, .ref h => .ref h
theorem Reps.less {p : Addr} : ∀ {ds vs}, Reps (W.more p) φ H ds vs → Reps W φ H ds vs
  | _, _, .nil => .nil
  | _, _, .cons a b => .cons (Rep.less a) (Reps.less b)
end
theorem off_ne {W : Wd} {p a : Addr} (hp : p ∈ W.fb) (n : Off W φ a) : a ≠ p := fun e => n.2 (by rw [e]; exact hp)
mutual
theorem Rep.poke {p : Addr} {o : HO} (hp : p ∈ W.fb) : ∀ {d v}, Rep W φ H d v → Rep W φ (upd H p o) d v
  | _, _, .non => .non
  | _, _, .bl b => .bl b
  | _, _, .int i => .int i
  | _, _, .str x => .str x
  | _, _, .tup h n r => .tup (by rw [upd_ne (off_ne hp n)]; exact h) n (Reps.poke hp r)
  | _, _, .vl h n r => .vl (by rw [upd_ne (off_ne hp n)]; exact h) n (Reps.poke hp r)
  | _, _, .sv h r => .sv (by
      rcases h with ⟨h, n⟩ | h
      · refine .inl ⟨?_, n⟩
        rcases h with h | ⟨o, h⟩
        · exact .inl (by rw [upd_ne (off_ne hp n)]; exact h)
        · exact .inr ⟨o, by rw [upd_ne (off_ne hp n)]; exact h⟩
      · exact .inr h) (Reps.poke hp r)
  | _, _, .vi h n c m r l => .vi (by rw [upd_ne (off_ne hp n)]; exact h) n c m (Reps.poke hp r) l
  | _, _, .ref h => .ref h
theorem Reps.poke {p : Addr} {o : HO} (hp : p ∈ W.fb) : ∀ {ds vs}, Reps W φ H ds vs → Reps W φ (upd H p o) ds vs
  | _, _, .nil => .nil
  | _, _, .cons a b => .cons (Rep.poke hp a) (Reps.poke hp b)
end
theorem RepO.imp {W' : Wd} {H' : Hp} {a : Addr} {o : Ob} (hm : W'.mg = W.mg) (h : H' a = H a) (f : ∀ ds vs, Reps W φ H ds vs → Reps W' φ H' ds vs) (r : RepO W φ H a o) : RepO W' φ H' a o := by
  cases o with
  | lst xs => obtain ⟨vs, q, r⟩ := r; exact ⟨vs, by rw [h]; exact q, f _ _ r⟩
  | ins c ns xs => obtain ⟨C, dx, vs, q, c, r, l⟩ := r; exact ⟨C, dx, vs, by rw [h]; exact q, by rw [hm]; exact c, f _ _ r, l⟩
  | dk z kvs => obtain ⟨vs, q, r⟩ := r; exact ⟨vs, q.same h, f _ _ r⟩
  | dt z kvs => obtain ⟨vs, q, r⟩ := r; exact ⟨vs, q.same h, f _ _ r⟩
theorem Sim.more {hd} {p : Addr} {o : HO} (s : Sim W φ hd H) (hp : H p = none) : Sim (W.more p) φ hd (upd H p o) := by
  have s' := s.new (o := o) hp
  have e := Ext.new (φ := φ) (o := o) hp
  refine ⟨s.len, s.nd, fun a h => ?_, fun a h => ?_, fun n u h => ?_⟩
  · rcases List.mem_cons.mp h with rfl | h
    · rw [upd_same]; simp
    · exact s'.fbt a h
  · rcases List.mem_cons.mp h with rfl | h
    · exact s.notin hp
    · exact s.fbn a h
  · obtain ⟨a, ha, r⟩ := s.obj n u h
    refine ⟨a, ha, RepO.imp (W := W) (W' := W.more p) (φ := φ) (H := H) (H' := upd H p o) rfl (upd_ne fun z => r.there (by rw [z]; exact hp)) (fun ds vs q => ?_) r⟩
    exact Reps.ext (W := W.more p) e (Reps.more (W := W) hp q)
theorem Sim.less {hd} {p : Addr} (s : Sim (W.more p) φ hd H) : Sim W φ hd H := by
  refine ⟨s.len, s.nd, fun a h => s.fbt a (List.mem_cons_of_mem _ h), fun a h => s.fbn a (List.mem_cons_of_mem _ h), fun n u h => ?_⟩
  obtain ⟨a, ha, r⟩ := s.obj n u h
  exact ⟨a, ha, RepO.imp (W := W.more p) (W' := W) (φ := φ) (H := H) (H' := H) rfl rfl (fun ds vs q => Reps.less (W := W) q) r⟩
theorem Sim.poke {hd} {p : Addr} {o : HO} (s : Sim W φ hd H) (hp : p ∈ W.fb) (hn : p ∉ φ) : Sim W φ hd (upd H p o) := by
  refine ⟨s.len, s.nd, fun a h => ?_, s.fbn, fun n u h => ?_⟩
  · by_cases e : a = p
    · subst e; rw [upd_same]; simp
    · rw [upd_ne e]; exact s.fbt a h
  · obtain ⟨a, ha, r⟩ := s.obj n u h
    exact ⟨a, ha, RepO.imp (W := W) (W' := W) (φ := φ) (H := H) (H' := upd H p o) rfl (upd_ne fun z => hn (by rw [← z]; exact List.mem_of_getElem? ha)) (fun ds vs q => q.poke hp) r⟩

/-! ### slots -/
structure RepSt (W : Wd) (φ : List Addr) (H : Hp) (σd : DSt) (σ : L2.St) : Prop where
  len : σd.length = σ.length
  get : ∀ (i : Nat) d, σd[i]? = some (some d) → ∃ v, σ[i]? = some (some v) ∧ Rep W φ H d v
  xs : ∀ p, W.xs = some p → σd[p.1]? = some none → σ[p.1]? = some (some (.ref p.2.1))
theorem RepSt.ext {σd σ} (e : Ext φ φ' H H') (r : RepSt W φ H σd σ) : RepSt W φ' H' σd σ :=
  ⟨r.len, fun i d h => let ⟨v, h1, h2⟩ := r.get i d h; ⟨v, h1, h2.ext e⟩, r.xs⟩
theorem RepSt.set {σd σ d v} (r : RepSt W φ H σd σ) (i : Nat) (q : Rep W φ H d v) : RepSt W φ H (σd.set i (some d)) (σ.set i (some v)) := by
  refine ⟨by simp [r.len], fun j e h => ?_, fun p hp h => ?_⟩
  rotate_left
  · by_cases hj : i = p.1
    · rw [hj] at h
      have hl : p.1 < σd.length := by
        have := (List.getElem?_eq_some_iff.mp h).1
        simpa using this
      rw [List.getElem?_set_self hl] at h
      cases h
    · rw [List.getElem?_set_ne hj] at h ⊢
      exact r.xs p hp h
  by_cases hj : i = j
  · subst hj
    have hl : i < σd.length := by
      have := (List.getElem?_eq_some_iff.mp h).1
      simpa using this
    rw [List.getElem?_set_self hl] at h
    cases h
    exact ⟨v, by rw [List.getElem?_set_self (by rw [← r.len]; exact hl)], q⟩
  · rw [List.getElem?_set_ne hj] at h
    obtain ⟨w, h1, h2⟩ := r.get j e h
    exact ⟨w, by rw [List.getElem?_set_ne hj]; exact h1, h2⟩
theorem RepSt.wipe1 {σd σ} (hx : W.xs = none) (r : RepSt W φ H σd σ) (i : Nat) (o : Option V) : RepSt W φ H (σd.set i none) (σ.set i o) := by
  refine ⟨by simp [r.len], fun j e h => ?_, fun p hp => by rw [hx] at hp; cases hp⟩
  by_cases hj : i = j
  · subst hj
    have hl : i < σd.length := by
      have := (List.getElem?_eq_some_iff.mp h).1
      simpa using this
    rw [List.getElem?_set_self hl] at h
    cases h
  · rw [List.getElem?_set_ne hj] at h
    obtain ⟨w, h1, h2⟩ := r.get j e h
    exact ⟨w, by rw [List.getElem?_set_ne hj]; exact h1, h2⟩
theorem RepSt.wipe {σd σ} (hx : W.xs = none) (r : RepSt W φ H σd σ) : ∀ vs : List Nat, RepSt W φ H (Vd.wipe σd vs) (L2.wipe σ vs)
  | [] => r
  | v :: vs => RepSt.wipe1 hx (RepSt.wipe hx r vs) v none
theorem RepSt.imp {W' : Wd} {φ' : List Addr} {H' : Hp} {σd σ} (r : RepSt W φ H σd σ) (f : ∀ d v, Rep W φ H d v → Rep W' φ' H' d v) (hx : W'.xs = W.xs := by rfl) : RepSt W' φ' H' σd σ :=
  ⟨r.len, fun i d h => let ⟨v, h1, h2⟩ := r.get i d h; ⟨v, h1, f d v h2⟩, fun p hp => r.xs p (by rw [← hx]; exact hp)⟩
end
end Vd

set_option Elab.async false
set_option linter.all false
set_option maxRecDepth 100000
/-! the operators of plain data are the machine's -/
namespace Vd
open PySem PySem.Spec PyProof.Rows L2

noncomputable def QOk (W : Wd) (φ : List Addr) (H : Hp) (Qd : DK) (Q : VK) : Prop := ∀ φ' hd' H' d v, Ext φ φ' H H' → Sim W φ' hd' H' → Rep W φ' H' d v → Qd d hd' → Q v H'
noncomputable def XOk (W : Wd) (WX : L2.WX) (φ : List Addr) (H : Hp) (σ : L2.St) (Xd : EK) : Prop := ∀ φ' hd' H' c C, Ext φ φ' H H' → Sim W φ' hd' H' → clOf W.mg c = some C → Xd c hd' → WX (.ref C) none σ H'
structure At (W : Wd) (φ : List Addr) (hd : Hd) (H : Hp) (σd : DSt) (σ : L2.St) : Prop where
  sim : Sim W φ hd H
  st : RepSt W φ H σd σ
section
variable {W : Wd} {WX : L2.WX} {φ φ' : List Addr} {hd : Hd} {H H' : Hp} {σd : DSt} {σ : L2.St} {Qd : DK} {Q : VK} {Xd : EK}
theorem QOk.ext (q : QOk W φ H Qd Q) (e : Ext φ φ' H H') : QOk W φ' H' Qd Q := fun φ2 h2 H2 d v e2 s r w => q φ2 h2 H2 d v (e.trans e2) s r w
theorem XOk.ext (q : XOk W WX φ H σ Xd) (e : Ext φ φ' H H') : XOk W WX φ' H' σ Xd := fun φ2 h2 H2 d v e2 s r w => q φ2 h2 H2 d v (e.trans e2) s r w
theorem QOk.now (q : QOk W φ H Qd Q) (s : Sim W φ hd H) {d v} (r : Rep W φ H d v) (w : Qd d hd) : Q v H := q φ hd H d v .refl s r w

/-! ### reading -/
theorem rdM_ok {d xs v} (s : Sim W φ hd H) (r : Rep W φ H d v) (e : rdM hd d = some xs) : ∃ a vs, v = .ref a ∧ H a = some (.lst vs) ∧ Reps W φ H xs vs := by
  cases r with
  | vl h n q => simp [rdM] at e; subst e; exact ⟨_, _, rfl, h, q⟩
  | @ref n a h =>
    have e : (match hd[n]? with
      | some (.lst xs) => some xs
      | _ => none) = some xs := e
    cases o : hd[n]? with
    | none => rw [o] at e; cases e
    | some ob =>
      rw [o] at e
      cases ob with
      | lst ys =>
        cases e
        obtain ⟨b, hb, vs, h1, h2⟩ := s.obj n _ o
        rw [h] at hb; cases hb
        exact ⟨_, vs, rfl, h1, h2⟩
      | ins _ _ _ => cases e
      | dk _ _ => cases e
      | dt _ _ => cases e
  | non => cases e
  | bl => cases e
  | int => cases e
  | str => cases e
  | tup => cases e
  | sv => cases e
  | vi => cases e
theorem rdL_ok {d xs v} (s : Sim W φ hd H) (r : Rep W φ H d v) (e : rdL hd d = some xs) : ∃ a vs, v = .ref a ∧ SqL W.K H a vs ∧ Reps W φ H xs vs := by
  cases r with
  | @sv a vs xs' h q =>
    cases e
    refine ⟨_, vs, rfl, ?_, q⟩
    rcases h with ⟨h, _⟩ | h
    · exact .inl h
    · exact .inr h
  | vl h n q => cases e; exact ⟨_, _, rfl, .of h, q⟩
  | @ref n a h =>
    obtain ⟨b, vs, e1, h1, h2⟩ := rdM_ok s (.ref h) (show rdM hd (.ref n) = some xs from e)
    exact ⟨b, vs, e1, .of h1, h2⟩
  | non => cases e
  | bl => cases e
  | int => cases e
  | str => cases e
  | tup => cases e
  | vi => cases e
theorem rdS_ok {d xs v} (s : Sim W φ hd H) (r : Rep W φ H d v) (e : rdS hd d = some xs) : ∃ a vs, v = .ref a ∧ (SqL W.K H a vs ∨ SqT W.K H a vs) ∧ Reps W φ H xs vs := by
  cases r with
  | tup h n q => cases e; exact ⟨_, _, rfl, .inr (.of h), q⟩
  | sv h q =>
    obtain ⟨a, vs, e1, h1, h2⟩ := rdL_ok s (.sv h q) (show rdL hd (.sv _) = some xs from e)
    exact ⟨a, vs, e1, .inl h1, h2⟩
  | vl h n q =>
    obtain ⟨a, vs, e1, h1, h2⟩ := rdL_ok s (.vl h n q) (show rdL hd (.vl _) = some xs from e)
    exact ⟨a, vs, e1, .inl h1, h2⟩
  | ref h =>
    obtain ⟨a, vs, e1, h1, h2⟩ := rdL_ok s (.ref h) (show rdL hd (.ref _) = some xs from e)
    exact ⟨a, vs, e1, .inl h1, h2⟩
  | non => cases e
  | bl => cases e
  | int => cases e
  | str => cases e
  | vi => cases e
/-- a new list -/
theorem mkL_ok {m xs vs} (s : Sim W φ hd H) (r : Reps W φ H xs vs) (q : QOk W φ H Qd Q) (w : mkL m xs hd Qd) : vs.length ≤ sizeLine ∧ ∀ p, H p = none → Q (.ref p) (upd H p (.lst vs)) := by
  cases m with
  | false =>
    obtain ⟨z, w⟩ := w
    refine ⟨by rw [← r.len]; exact z, fun p hp => q φ hd _ _ _ (Ext.new hp) (s.new hp) (.vl upd_same (s.off hp) (r.ext (Ext.new hp))) w⟩
  | true =>
    obtain ⟨z, w⟩ := w
    refine ⟨by rw [← r.len]; exact z, fun p hp => q (φ ++ [p]) _ _ _ _ (Ext.alloc hp) (s.alloc hp (show RepO W (φ ++ [p]) _ p (.lst xs) from ⟨vs, upd_same, r.ext (Ext.alloc hp)⟩)) (.ref ?_) w⟩
    rw [← s.len]; simp
theorem mkT_ok {xs vs} (s : Sim W φ hd H) (r : Reps W φ H xs vs) (q : QOk W φ H Qd Q) (w : Qd (.tup xs) hd) : ∀ p, H p = none → Q (.ref p) (upd H p (.tup vs)) :=
  fun p hp => q φ hd _ _ _ (Ext.new hp) (s.new hp) (.tup upd_same (s.off hp) (r.ext (Ext.new hp))) w

/-! ### equality -/
mutual
noncomputable def py : D → PyData
  | .bl b => .bool b
  | .int i => .int i
  | .str x => .str x
  | .tup xs => .tuple (pys xs)
  | .vl xs => .list (pys xs)
  | _ => .none
noncomputable def pys : List D → List PyData
  | [] => []
  | x :: xs => py x :: pys xs
end
theorem pys_map : ∀ xs : List D, pys xs = xs.map py
  | [] => rfl
  | x :: xs => by rw [pys, pys_map xs]; rfl
theorem pl_lay : ∀ (k : Nat) (d : D), pl k d = true → (py d).canLay0 = true ∧ (py d).depth ≤ k := by
  intro k
  induction k with
  | zero =>
    intro d h
    cases d <;> simp [pl] at h <;> simp [py, PyData.canLay0, PyData.depth, h]
  | succ k ih =>
    have ihs : ∀ xs : List D, xs.all (pl k) = true → PyData.canLayAll0 (pys xs) = true ∧ PyData.depthAll (pys xs) ≤ k := by
      intro xs
      induction xs with
      | nil => intro _; simp [pys, PyData.canLayAll0, PyData.depthAll]
      | cons x xs ihx =>
        intro h
        rw [List.all_cons, Bool.and_eq_true] at h
        obtain ⟨h1, h2⟩ := ih x h.1
        obtain ⟨h3, h4⟩ := ihx h.2
        simp only [pys, PyData.canLayAll0, PyData.depthAll, h1, h3, Bool.and_self, true_and]
        omega
    intro d h
    cases d with
    | tup xs => obtain ⟨h1, h2⟩ := ihs xs h; simp only [py, PyData.canLay0, PyData.depth, h1, true_and]; omega
    | vl xs => obtain ⟨h1, h2⟩ := ihs xs h; simp only [py, PyData.canLay0, PyData.depth, h1, true_and]; omega
    | _ => simp [pl] at h <;> simp [py, PyData.canLay0, PyData.depth, h]
theorem pl_shaped {k : Nat} {d : D} (hk : k ≤ 64) (h : pl k d = true) : SeqAt.shaped (py d) = true := by
  obtain ⟨h1, h2⟩ := pl_lay k d h
  unfold SeqAt.shaped
  rw [h1, decide_eq_true (show (py d).depth ≤ 64 by omega)]; rfl
theorem pls_shaped {k : Nat} {xs : List D} (hk : k + 1 ≤ 64) (h : xs.all (pl k) = true) : SeqAt.shaped (.list (pys xs)) = true :=
  pl_shaped (d := .vl xs) (k := k + 1) hk h
/-- equal as plain data -/
theorem deq_py : ∀ (k : Nat) (a b : D), pl k a = true → pl k b = true → PyData.eqv (py a) (py b) = deq a b := by
  intro k
  induction k with
  | zero => intro a b ha hb; cases a <;> simp [pl] at ha <;> cases b <;> simp [pl] at hb <;> simp [py, PyData.eqv, deq] <;> rfl
  | succ k ih =>
    have ihs : ∀ xs ys : List D, xs.all (pl k) = true → ys.all (pl k) = true → PyData.eqvAll (pys xs) (pys ys) = deqs xs ys := by
      intro xs
      induction xs with
      | nil => intro ys _ _; cases ys <;> simp [pys, PyData.eqvAll, deqs]
      | cons x xs ihx =>
        intro ys h1 h2
        cases ys with
        | nil => simp [pys, PyData.eqvAll, deqs]
        | cons y ys =>
          rw [List.all_cons, Bool.and_eq_true] at h1 h2
          simp only [pys, PyData.eqvAll, deqs, ih x y h1.1 h2.1, ihx ys h1.2 h2.2]
    intro a b ha hb
    cases a with
    | tup xs => cases b with
      | tup ys => simp only [py, PyData.eqv, deq]; exact ihs xs ys ha hb
      | _ => simp [pl] at hb <;> simp [py, PyData.eqv, deq]
    | vl xs => cases b with
      | vl ys => simp only [py, PyData.eqv, deq]; exact ihs xs ys ha hb
      | _ => simp [pl] at hb <;> simp [py, PyData.eqv, deq]
    | _ => cases b <;> simp [pl] at ha hb <;> simp [py, PyData.eqv, deq] <;> rfl
theorem rep_dp : ∀ (k : Nat) {d v}, pl k d = true → Rep W φ H d v → Dp W.K H v (py d) := by
  intro k
  induction k with
  | zero => intro d v h r; cases r <;> simp [pl] at h <;> constructor
  | succ k ih =>
    have ihs : ∀ {xs vs}, xs.all (pl k) = true → Reps W φ H xs vs → DpAll W.K H vs (pys xs) := by
      intro xs
      induction xs with
      | nil => intro vs _ r; cases r; exact .nil
      | cons x xs ihx =>
        intro vs h r
        cases r with
        | cons a b =>
          rw [List.all_cons, Bool.and_eq_true] at h
          exact .cons (ih h.1 a) (ihx h.2 b)
    intro d v h r
    cases r with
    | tup e n q => exact .tup (.of e) (ihs h q)
    | vl e n q => exact .lst (.of e) (ihs h q)
    | non => exact .non
    | bl => exact .bl _
    | int => exact .int _
    | str => exact .str _
    | sv => simp [pl] at h
    | vi => simp [pl] at h
    | ref => simp [pl] at h
theorem seen_rep {d v} (s : Sim W φ hd H) (r : Rep W φ H d v) (h : pl 16 (seen hd d) = true) : Dp W.K H v (py (seen hd d)) := by
  cases r with
  | @ref n a e =>
    have hn : seen hd (.ref n) = match hd[n]? with
      | some (.lst xs) => .vl xs
      | _ => .ref n := rfl
    cases o : hd[n]? with
    | none => rw [hn, o] at h; simp [pl] at h
    | some ob => cases ob with
      | ins _ _ _ => rw [hn, o] at h; simp [pl] at h
      | dk _ _ => rw [hn, o] at h; simp [pl] at h
      | dt _ _ => rw [hn, o] at h; simp [pl] at h
      | lst xs =>
        rw [hn, o] at h ⊢
        obtain ⟨b, hb, vs, h1, h2⟩ := s.obj n _ o
        rw [e] at hb; cases hb
        have h' : xs.all (pl 15) = true := h
        refine .lst (.of h1) ?_
        have : ∀ {xs vs}, xs.all (pl 15) = true → Reps W φ H xs vs → DpAll W.K H vs (pys xs) := by
          intro xs
          induction xs with
          | nil => intro vs _ r; cases r; exact .nil
          | cons x xs ihx =>
            intro vs h r
            cases r with
            | cons a b =>
              rw [List.all_cons, Bool.and_eq_true] at h
              exact .cons (rep_dp 15 h.1 a) (ihx h.2 b)
        exact this h' h2
  | non => exact rep_dp (φ := φ) 16 h .non
  | bl b => exact rep_dp (φ := φ) 16 h (.bl b)
  | int i => exact rep_dp (φ := φ) 16 h (.int i)
  | str x => exact rep_dp (φ := φ) 16 h (.str x)
  | tup a b c => exact rep_dp 16 h (.tup a b c)
  | vl a b c => exact rep_dp 16 h (.vl a b c)
  | sv a b => exact rep_dp 16 h (.sv a b)
  | vi a b c d e f => exact rep_dp 16 h (.vi a b c d e f)
theorem reps_dp {xs vs} (k : Nat) (h : xs.all (pl k) = true) (r : Reps W φ H xs vs) : DpAll W.K H vs (pys xs) := by
  induction xs generalizing vs with
  | nil => cases r; exact .nil
  | cons x xs ihx =>
    cases r with
    | cons a b =>
      rw [List.all_cons, Bool.and_eq_true] at h
      exact .cons (rep_dp k h.1 a) (ihx h.2 b)
theorem flat_V {d v} (r : Rep W φ H d v) (h : flat d = true) : flatV v = true := by cases r <;> simp [flat] at h <;> rfl
theorem flats_V {xs vs} (r : Reps W φ H xs vs) (h : xs.all flat = true) : vs.all flatV = true := by
  induction xs generalizing vs with
  | nil => cases r; rfl
  | cons x xs ih =>
    cases r with
    | cons a b =>
      rw [List.all_cons, Bool.and_eq_true] at h ⊢
      exact ⟨flat_V a h.1, ih b h.2⟩
theorem deq_eqV {a b u v} (ra : Rep W φ H a u) (rb : Rep W φ H b v) (ha : flat a = true) (hb : flat b = true) : eqV u v = deq a b := by
  cases ra <;> simp [flat] at ha <;> cases rb <;> simp [flat] at hb <;> simp [eqV, deq] <;> rfl
theorem any_inV {a u xs vs} (ra : Rep W φ H a u) (r : Reps W φ H xs vs) (ha : flat a = true) (h : xs.all flat = true) : inV u vs = xs.any fun y => deq y a := by
  unfold inV
  induction xs generalizing vs with
  | nil => cases r; rfl
  | cons x xs ih =>
    cases r with
    | cons p q =>
      rw [List.all_cons, Bool.and_eq_true] at h
      rw [List.any_cons, List.any_cons, deq_eqV p ra h.1 ha, ih q h.2]
theorem any_inD {a xs} (k : Nat) (ha : pl k a = true) (h : xs.all (pl k) = true) : ((pys xs).any fun z => PyData.eqv z (py a)) = xs.any fun y => deq y a := by
  induction xs with
  | nil => rfl
  | cons x xs ih =>
    rw [List.all_cons, Bool.and_eq_true] at h
    rw [pys, List.any_cons, List.any_cons, deq_py k x a h.1 ha, ih h.2]
end
end Vd

set_option Elab.async false
set_option linter.all false
set_option maxRecDepth 100000
set_option maxHeartbeats 1000000
namespace Vd
open PySem PySem.Spec PyProof.Rows L2
noncomputable def opOf : Op2 → Operator
  | .add => .Add | .sub => .Sub | .mul => .Mult | .fdiv => .FloorDiv | .mod => .Mod | .pow => .Pow | .shl => .LShift | .shr => .RShift | .band => .BitAnd | .bxor => .BitXor
noncomputable def cmOf : Cm → CmpOp
  | .lt => .Lt | .le => .LtE | .gt => .Gt | .ge => .GtE | .eq => .Eq | .ne => .NotEq | .is => .Is | .isn => .IsNot | .isin => .In | .nin => .NotIn
section
variable {W : Wd} {X : Cx}
noncomputable def rD (W : Wd) (op : D → D → Hd → DK → Prop) : R2 := fun xv yv H Q => ∃ φ hd x y Qd, Sim W φ hd H ∧ Rep W φ H x xv ∧ Rep W φ H y yv ∧ op x y hd Qd ∧ QOk W φ H Qd Q
theorem mul_wide : OpR X (binaryOp .Mult) (rI (fun i j => MulOk i j) fun i j => .int (i * j)) := fun pins s σ H x y v u Q I rx ry h => by
  obtain ⟨i, j, e1, e2, c, q⟩ := h
  rcases c with c | c | c
  · exact op_mul pins s σ H x y v u Q I rx ry ⟨i, j, e1, e2, c, q⟩
  · exact op_mulW pins s σ H x y v u Q I rx ry ⟨i, j, e1, e2, c, q⟩
  · exact op_mulX pins s σ H x y v u Q I rx ry ⟨i, j, e1, e2, c, q⟩
theorem div_wide : OpR X (binaryOp .FloorDiv) (rI (fun _ j => DivOk j) fun i j => .int (i.fdiv j)) := opI fun _ _ _ _ _ _ _ hc q => floordiv_int hc.1 q (.inl (PyProof.noPylong_of_log2 hc.2))
noncomputable def rCatK (K : PySem.W.Frag) : R2 := fun x y H Q => ∃ l b xs zs, x = .ref l ∧ y = .ref b ∧ SqL K H l xs ∧ SqL K H b zs ∧ xs.length + zs.length ≤ sizeLine ∧ ∀ p, H p = none → Q (.ref p) (upd H p (.lst (xs ++ zs)))
theorem op_catK : OpR X (binaryOp .Add) (rCatK X.K) := by
  intro pins s σ H x y v u Q I rx ry h
  obtain ⟨l, b, xs, zs, rfl, rfl, hH, hB, hz, q⟩ := h
  cases rx
  cases ry
  obtain ⟨its, r, hl, z⟩ := I.list hH
  obtain ⟨its2, r2, hl2, z2⟩ := I.list hB
  obtain ⟨⟨cls, dd, data, sl⟩, ho, hc, n, hd⟩ := hl.isList
  obtain ⟨⟨cls2, dd2, data2, sl2⟩, ho2, hc2, n2, hd2⟩ := hl2.isList
  simp only at hc hd hc2 hd2
  subst hc hd hc2 hd2
  have e : its.toArray ++ its2.toArray = (its ++ its2).toArray := by simp
  have hz' : its.toArray.size + its2.toArray.size ≤ sizeLine := by rw [List.size_toArray, List.size_toArray, ← r.length, ← r2.length]; exact hz
  refine concat_meets ⟨_, ho, rfl⟩ ⟨_, ho2, rfl⟩ noFill_list_add seq_list_add PySem.F.slot_list_add PySem.F.entry_list_add (PySem.F.args_list_add_2 _ _) (list_addW l b its.toArray its2.toArray n n2 dd dd2 sl sl2 hz') ⟨ho, ho2, ?_⟩
  rw [e]
  exact ⟨.ref _, _, I.lnew (t' := s.toks) (r.append r2) (by rw [List.length_append]; omega), rfl, q _ I.fresh⟩
theorem txtMul_ok {z : Str} {k : Int} (h1 : -(2 ^ 63) ≤ k) (h2 : k < 2 ^ 63) (h3 : z.length * k.toNat ≤ sizeLine) : PySem.MulOk z k := by
  have hl := sizeLine_eq
  refine ⟨?_, fun a b => ?_, fun a b => ?_⟩
  · rw [decide_eq_false (by omega), decide_eq_false (by omega)]; rfl
  · have hk : 0 < k := by omega
    have e : ((z.length * k.toNat : Nat) : Int) = (z.length : Int) * k := by
      rw [Int.natCast_mul, Int.toNat_of_nonneg (by omega)]
    have : (z.length : Int) ≤ (2 ^ 63 - 1) / k := (Int.le_ediv_iff_mul_le hk).mpr (by omega)
    omega
  · unfold Builtin.Str.tooLong
    exact decide_eq_false (by omega)
theorem op_mulStr : OpR X (binaryOp .Mult) (fun x y H Q => ∃ z k, x = V.str z ∧ y = V.int k ∧ PySem.MulOk z k ∧ Q (.str (Txt.mul z k)) H) := by
  intro pins s σ H x y v u Q I rx ry h
  obtain ⟨z, k, rfl, rfl, ok, q⟩ := h
  obtain ⟨t, rfl⟩ := rx
  obtain ⟨t2, rfl⟩ := ry
  exact SB.mul ok fun t3 tk => ⟨.str _, H, I.tok _, ⟨_, rfl⟩, q⟩
theorem bop_ok (hK : X.K = W.K) (m : Bool) (o : Op2) : OpR X (binaryOp (opOf o)) (rD W (bopW m o)) := by
  intro pins s σ H xv yv v u Q I rx ry h
  obtain ⟨φ, hd, x, y, Qd, S, rx', ry', w, q⟩ := h
  have cat : ∀ a b, (∃ xs ys, rdL hd a = some xs ∧ rdL hd b = some ys ∧ xs.length + ys.length ≤ sizeLine ∧ mkL m (xs ++ ys) hd Qd) → Rep W φ H a xv → Rep W φ H b yv → wpAny (model X.prog X.w) X.A (binaryOp .Add v u) (EP X pins σ Q) X.xe s := fun a b w ra rb => by
    obtain ⟨xs, ys, e1, e2, z, w⟩ := w
    obtain ⟨p, vs, rfl, h1, r1⟩ := rdL_ok S ra e1
    obtain ⟨p2, us, rfl, h2, r2⟩ := rdL_ok S rb e2
    have z2 := mkL_ok S (r1.append r2) q w
    exact op_catK pins s σ H _ _ v u Q I rx ry ⟨p, p2, vs, us, rfl, rfl, by rw [hK]; exact h1, by rw [hK]; exact h2, by rw [← r1.len, ← r2.len]; exact z, z2.2⟩
  cases o with
  | add =>
    cases rx' with
    | int i =>
      cases ry' with
      | int j => exact op_add pins s σ H _ _ v u Q I rx ry ⟨i, j, rfl, rfl, q.now S (.int _) w⟩
      | _ => first | exact cat _ _ w (.int i) (by constructor <;> assumption) | (exact w.elim)
    | str i =>
      cases ry' with
      | str j => exact op_add_str pins s σ H _ _ v u Q I rx ry ⟨i, j, rfl, rfl, w.1, q.now S (.str _) w.2⟩
      | _ => exact cat _ _ w (.str i) (by constructor <;> assumption)
    | tup ha na ra =>
      cases ry' with
      | tup hb nb rb =>
        refine op_catA pins s σ H _ _ v u Q I rx ry ⟨_, _, _, _, rfl, rfl, .of ha, .of hb, by rw [← ra.len, ← rb.len]; exact w.1, fun e => ?_, fun _ e => ?_, fun _ _ => ?_⟩
        · subst e
          cases ra
          exact q.now S (.tup hb nb rb) w.2
        · subst e
          cases rb
          have w2 := w.2
          rw [List.append_nil] at w2
          exact q.now S (.tup ha na ra) w2
        · exact mkT_ok S (ra.append rb) q w.2
      | _ => exact cat _ _ w (.tup ha na ra) (by constructor <;> assumption)
    | non => exact cat _ _ (by cases ry' <;> exact w) .non ry'
    | bl b => exact cat _ _ (by cases ry' <;> exact w) (.bl b) ry'
    | vl a b c => exact cat _ _ (by cases ry' <;> exact w) (.vl a b c) ry'
    | sv a b => exact cat _ _ (by cases ry' <;> exact w) (.sv a b) ry'
    | vi a b c d e f => exact cat _ _ (by cases ry' <;> exact w) (.vi a b c d e f) ry'
    | ref a => exact cat _ _ (by cases ry' <;> exact w) (.ref a) ry'
  | sub => cases rx' <;> cases ry' <;> first | exact w.elim | exact op_sub pins s σ H _ _ v u Q I rx ry ⟨_, _, rfl, rfl, q.now S (.int _) w⟩
  | mul =>
    have rep : ∀ a k, (∃ xs, rdM hd a = some xs ∧ -(2 ^ 63) ≤ k ∧ k < 2 ^ 63 ∧ xs.length * k.toNat ≤ sizeLine ∧ mkL m (List.replicate k.toNat xs).flatten hd Qd) → Rep W φ H a xv → yv = .int k → wpAny (model X.prog X.w) X.A (binaryOp .Mult v u) (EP X pins σ Q) X.xe s := fun a k w ra ek => by
      subst ek
      obtain ⟨xs, e1, k1, k2, z, w⟩ := w
      obtain ⟨p, vs, rfl, h1, r1⟩ := rdM_ok S ra e1
      have z2 := mkL_ok S (r1.rep k.toNat) q w
      exact op_rep pins s σ H _ _ v u Q I rx ry ⟨p, k, vs, rfl, rfl, h1, k1, k2, by rw [← r1.len]; exact z, z2.2⟩
    cases ry' with
    | int j =>
      cases rx' with
      | int i => exact mul_wide pins s σ H _ _ v u Q I rx ry ⟨i, j, rfl, rfl, w.1, q.now S (.int _) w.2⟩
      | non => exact rep _ j w .non rfl
      | bl b => exact rep _ j w (.bl b) rfl
      | str b => exact op_mulStr pins s σ H _ _ v u Q I rx ry ⟨b, j, rfl, rfl, txtMul_ok w.1 w.2.1 w.2.2.1, q.now S (.str _) w.2.2.2⟩
      | tup a b c => exact rep _ j w (.tup a b c) rfl
      | vl a b c => exact rep _ j w (.vl a b c) rfl
      | sv a b => exact rep _ j w (.sv a b) rfl
      | vi a b c d e f => exact rep _ j w (.vi a b c d e f) rfl
      | ref a => exact rep _ j w (.ref a) rfl
    | _ => cases rx' <;> exact w.elim
  | fdiv => cases rx' <;> cases ry' <;> first | exact w.elim | exact div_wide pins s σ H _ _ v u Q I rx ry ⟨_, _, rfl, rfl, w.1, q.now S (.int _) w.2⟩
  | mod => cases rx' <;> cases ry' <;> first | exact w.elim | exact op_modN pins s σ H _ _ v u Q I rx ry ⟨_, _, rfl, rfl, w.1, q.now S (.int _) w.2⟩
  | pow => cases rx' <;> cases ry' <;> first | exact w.elim | exact op_pow pins s σ H _ _ v u Q I rx ry ⟨_, _, rfl, rfl, w.1, q.now S (.int _) w.2⟩
  | shl => cases rx' <;> cases ry' <;> first | exact w.elim | exact op_shl pins s σ H _ _ v u Q I rx ry ⟨_, _, rfl, rfl, w.1, q.now S (.int _) w.2⟩
  | shr => cases rx' <;> cases ry' <;> first | exact w.elim | exact op_shr pins s σ H _ _ v u Q I rx ry ⟨_, _, rfl, rfl, w.1, q.now S (.int _) w.2⟩
  | band => cases rx' <;> cases ry' <;> first | exact w.elim | exact op_and pins s σ H _ _ v u Q I rx ry ⟨_, _, rfl, rfl, q.now S (.int _) w⟩
  | bxor => cases rx' <;> cases ry' <;> first | exact w.elim | exact op_xor pins s σ H _ _ v u Q I rx ry ⟨_, _, rfl, rfl, q.now S (.int _) w⟩
/-- comparisons -/
noncomputable def rC (W : Wd) (o : Cm) : R2 := fun xv yv H Q => ∃ φ hd x y Qd, Sim W φ hd H ∧ Rep W φ H x xv ∧ Rep W φ H y yv ∧ cmpW o x y hd (fun k => Qd (.bl k) hd) ∧ QOk W φ H Qd Q
theorem cmp_ok (hK : X.K = W.K) (hu : X.A.units + 65 < cLine) (o : Cm) : OpR X (compareOp (cmOf o)) (rC W o) := by
  intro pins s σ H xv yv v u Q I rx ry h
  obtain ⟨φ, hd, x, y, Qd, S, rx', ry', w, q⟩ := h
  have fin : ∀ {k}, Qd (.bl k) hd → Q (.bl k) H := fun {k} w => q.now S (.bl k) w
  have geq : ∀ x y, pl 16 (seen hd x) = true ∧ pl 16 (seen hd y) = true ∧ Qd (.bl (deq (seen hd x) (seen hd y))) hd → Rep W φ H x xv → Rep W φ H y yv → wpAny (model X.prog X.w) X.A (compareOp .Eq v u) (EP X pins σ Q) X.xe s := fun x y w r1 r2 => by
    obtain ⟨p1, p2, w⟩ := w
    exact op_eqD (by omega) pins s σ H _ _ v u Q I rx ry ⟨_, _, by rw [hK]; exact seen_rep S r1 p1, by rw [hK]; exact seen_rep S r2 p2, pl_shaped (by decide) p1, pl_shaped (by decide) p2, by rw [deq_py 16 _ _ p1 p2]; exact fin w⟩
  have gne : ∀ x y, pl 16 (seen hd x) = true ∧ pl 16 (seen hd y) = true ∧ Qd (.bl (!deq (seen hd x) (seen hd y))) hd → Rep W φ H x xv → Rep W φ H y yv → wpAny (model X.prog X.w) X.A (compareOp .NotEq v u) (EP X pins σ Q) X.xe s := fun x y w r1 r2 => by
    obtain ⟨p1, p2, w⟩ := w
    exact op_neD (by omega) pins s σ H _ _ v u Q I rx ry ⟨_, _, by rw [hK]; exact seen_rep S r1 p1, by rw [hK]; exact seen_rep S r2 p2, pl_shaped (by decide) p1, pl_shaped (by decide) p2, by rw [deq_py 16 _ _ p1 p2]; exact fin w⟩
  cases o with
  | lt => cases rx' <;> cases ry' <;> first | exact w.elim | exact op_lt pins s σ H _ _ v u Q I rx ry ⟨_, _, rfl, rfl, fin w⟩
  | le => cases rx' <;> cases ry' <;> first | exact w.elim | exact op_le pins s σ H _ _ v u Q I rx ry ⟨_, _, rfl, rfl, fin w⟩
  | gt => cases rx' <;> cases ry' <;> first | exact w.elim | exact op_gt pins s σ H _ _ v u Q I rx ry ⟨_, _, rfl, rfl, fin w⟩
  | ge => cases rx' <;> cases ry' <;> first | exact w.elim | exact op_ge pins s σ H _ _ v u Q I rx ry ⟨_, _, rfl, rfl, fin w⟩
  | eq =>
    have go : (∃ i j, x = .int i ∧ y = .int j) ∨ (pl 16 (seen hd x) = true ∧ pl 16 (seen hd y) = true ∧ Qd (.bl (deq (seen hd x) (seen hd y))) hd) := by
      cases x <;> cases y <;> first | exact .inl ⟨_, _, rfl, rfl⟩ | exact .inr w
    rcases go with ⟨i, j, rfl, rfl⟩ | go
    · cases rx'; cases ry'
      refine op_eq pins s σ H _ _ v u Q I rx ry ⟨rfl, ?_⟩
      rw [dec_int, Bool.beq_eq_decide_eq]
      exact fin w
    · exact geq x y go rx' ry'
  | ne =>
    have go : (∃ i j, x = .int i ∧ y = .int j) ∨ (pl 16 (seen hd x) = true ∧ pl 16 (seen hd y) = true ∧ Qd (.bl (!deq (seen hd x) (seen hd y))) hd) := by
      cases x <;> cases y <;> first | exact .inl ⟨_, _, rfl, rfl⟩ | exact .inr w
    rcases go with ⟨i, j, rfl, rfl⟩ | go
    · cases rx'; cases ry'
      refine op_ne pins s σ H _ _ v u Q I rx ry ⟨rfl, ?_⟩
      rw [dec_int, Bool.beq_eq_decide_eq]
      exact fin w
    · exact gne x y go rx' ry'
  | is =>
    cases ry' with
    | non =>
      refine op_isN pins s σ H _ _ v u Q I rx ry ⟨rfl, ?_⟩
      cases rx' <;> first | (rw [decide_eq_true rfl]; exact fin w) | (rw [decide_eq_false (by intro h; cases h)]; exact fin w)
    | bl b =>
      cases rx' with
      | bl a => exact op_isBl pins s σ H _ _ v u Q I rx ry ⟨_, _, rfl, rfl, fin w⟩
      | _ => exact w.elim
    | _ => cases rx' <;> exact w.elim
  | isn =>
    cases ry' with
    | non =>
      refine op_notN pins s σ H _ _ v u Q I rx ry ⟨rfl, ?_⟩
      cases rx' <;> first | (rw [decide_eq_true rfl]; exact fin w) | (rw [decide_eq_false (by intro h; cases h)]; exact fin w)
    | bl b =>
      cases rx' with
      | bl a => exact op_notBl pins s σ H _ _ v u Q I rx ry ⟨_, _, rfl, rfl, fin w⟩
      | _ => exact w.elim
    | _ => cases rx' <;> exact w.elim
  | isin =>
    have go : ∀ a b, (∃ xs, rdM hd b = some xs ∧ pl 15 a = true ∧ xs.all (pl 15) = true ∧ Qd (.bl (xs.any fun y => deq y a)) hd) → Rep W φ H a xv → Rep W φ H b yv → wpAny (model X.prog X.w) X.A (compareOp .In v u) (EP X pins σ Q) X.xe s := fun a b w r1 r2 => by
      obtain ⟨xs, e, p1, p2, w⟩ := w
      obtain ⟨p, vs, rfl, h1, r3⟩ := rdM_ok S r2 e
      exact op_inD hu pins s σ H _ _ v u Q I rx ry ⟨py a, pys xs, by rw [hK]; exact rep_dp 15 p1 r1, .lst (.of h1) (by rw [hK]; exact reps_dp 15 p2 r3), pl_shaped (by decide) p1, pls_shaped (by decide) p2, by rw [any_inD 15 p1 p2]; exact fin w⟩
    cases y with
    | str t => cases x with
      | str z => cases rx'; cases ry'; exact op_in_str pins s σ H _ _ v u Q I rx ry ⟨_, _, rfl, rfl, fin w⟩
      | _ => exact go _ _ w rx' ry'
    | tup xs =>
      have w' : flat x = true ∧ xs.all flat = true ∧ Qd (.bl (xs.any fun y => deq y x)) hd := by cases x <;> exact w
      cases ry' with
      | tup ha na ra => exact op_in_seq pins s σ H _ _ v u Q I rx ry ⟨_, _, rfl, .inr (.of ha), flat_V rx' w'.1, flats_V ra w'.2.1, by rw [any_inV rx' ra w'.1 w'.2.1]; exact fin w'.2.2⟩
    | _ => exact go _ _ (by cases x <;> exact w) rx' ry'
  | nin =>
    have go : ∀ a b, (∃ xs, rdM hd b = some xs ∧ pl 15 a = true ∧ xs.all (pl 15) = true ∧ Qd (.bl (!xs.any fun y => deq y a)) hd) → Rep W φ H a xv → Rep W φ H b yv → wpAny (model X.prog X.w) X.A (compareOp .NotIn v u) (EP X pins σ Q) X.xe s := fun a b w r1 r2 => by
      obtain ⟨xs, e, p1, p2, w⟩ := w
      obtain ⟨p, vs, rfl, h1, r3⟩ := rdM_ok S r2 e
      exact op_notInD hu pins s σ H _ _ v u Q I rx ry ⟨py a, pys xs, by rw [hK]; exact rep_dp 15 p1 r1, .lst (.of h1) (by rw [hK]; exact reps_dp 15 p2 r3), pl_shaped (by decide) p1, pls_shaped (by decide) p2, by rw [any_inD 15 p1 p2]; exact fin w⟩
    cases y with
    | str t => cases x with
      | str z => cases rx'; cases ry'; exact op_notin_str pins s σ H _ _ v u Q I rx ry ⟨_, _, rfl, rfl, fin w⟩
      | _ => exact go _ _ w rx' ry'
    | tup xs =>
      have w' : flat x = true ∧ xs.all flat = true ∧ Qd (.bl (!xs.any fun y => deq y x)) hd := by cases x <;> exact w
      cases ry' with
      | tup ha na ra => exact op_notIn_seq pins s σ H _ _ v u Q I rx ry ⟨_, _, rfl, .inr (.of ha), flat_V rx' w'.1, flats_V ra w'.2.1, by rw [any_inV rx' ra w'.1 w'.2.1]; exact fin w'.2.2⟩
    | _ => exact go _ _ (by cases x <;> exact w) rx' ry'
end
end Vd

set_option Elab.async false
set_option linter.all false
set_option maxRecDepth 100000
set_option maxHeartbeats 1000000
namespace PySem
open PySem PySem.Spec PySem.AutoSeq1
theorem list_extend_tupG (l : Addr) (items : Array Value) (n : Nat) (b : Addr) (items2 : Array Value) (n2 : Nat) (dict : Option Addr) (slots : Array (Option Value)) (hs0 : ¬(!items.isEmpty && Builtin.List.listTooLong (items.size + items2.size)) = true) (hs1 : items.size ≤ sizeLine) (hs2 : items.size + items2.size ≤ sizeLine + 1) :
    Meets (Builtin.«list.extend» ⟨[.ref l, .ref b], []⟩) (fun _ R s => s.heap.get? l = some { cls := .type "list", dict := none, data := .seq items n, slots := #[] } ∧ s.heap.get? b = some { cls := .type "tuple", dict := dict, data := .seq items2 n2, slots := slots } ∧ R (.ok (.ret Value.none)) { s with heap := s.heap.update l (Obj.mapSeq fun x => x ++ items2), toks := s.toks }) :=
  .of_wp fun prog w A R s h => by
    obtain ⟨hp, g, d, tk, os⟩ := s; obtain ⟨hl, hb, h⟩ := h; have f1 := idx_int; have f2 := sub_tuple_tuple; have f3 := sub_list_list; have f4 := sub_tuple_list; have f5 := sub_list_tuple;
    have hz' : (items ++ items2).size ≤ sizeLine + 1 := by rw [Array.size_append]; exact hs2
    wp_walk using (wpAny_updateSeq hl rfl (hz := hs1) (_hz' := hz')), wpAny_loadPart' hl, wpAny_loadPart' hb; exact ⟨_, rfl, h⟩
end PySem
namespace Vd
open PySem PySem.Spec PyProof.Rows L2
section
variable {W : Wd} {X : Cx} {φ : List Addr} {hd : Hd} {H : Hp} {Qd : DK} {Q : VK}
theorem atI_rep {xs vs d} {i : Int} (r : Reps W φ H xs vs) (h : L2.atI xs i = some d) : ∃ v, L2.atI vs i = some v ∧ Rep W φ H d v := by
  unfold L2.atI at h ⊢
  rw [← r.len]
  cases e : L2.ixN xs.length i with
  | none => rw [e] at h; cases h
  | some j =>
    rw [e] at h
    exact r.get h
theorem cut_rep {xs vs} (r : Reps W φ H xs vs) (lo hi : Option Int) : Reps W φ H (cut xs lo hi) (cutV vs lo hi) := by
  unfold cut cutV
  rw [← r.len]
  exact (r.drop _).take _
theorem ints_rep : ∀ {xs vs ns}, Reps W φ H xs vs → intsD xs = some ns → vs = ns.map V.int
  | _, _, _, .nil, h => by cases h; rfl
  | _, _, _, .cons (x := x) a b, h => by
    cases x with
    | int i =>
      simp only [intsD, Option.map_eq_some_iff] at h
      obtain ⟨ms, h1, rfl⟩ := h
      cases a
      rw [ints_rep b h1]; rfl
    | _ => cases h
theorem bls_rep : ∀ {xs vs ns}, Reps W φ H xs vs → blsD xs = some ns → vs = ns.map V.bl
  | _, _, _, .nil, h => by cases h; rfl
  | _, _, _, .cons (x := x) a b, h => by
    cases x with
    | bl i =>
      simp only [blsD, Option.map_eq_some_iff] at h
      obtain ⟨ms, h1, rfl⟩ := h
      cases a
      rw [bls_rep b h1]; rfl
    | _ => cases h
theorem rep_ints : ∀ ns : List Int, Reps W φ H (ns.map D.int) (ns.map V.int)
  | [] => .nil
  | n :: ns => .cons (.int n) (rep_ints ns)
theorem strs_rep : ∀ {xs vs ns}, Reps W φ H xs vs → strsD xs = some ns → vs = ns.map V.str
  | _, _, _, .nil, h => by cases h; rfl
  | _, _, _, .cons (x := x) a b, h => by
    cases x with
    | str i =>
      simp only [strsD, Option.map_eq_some_iff] at h
      obtain ⟨ms, h1, rfl⟩ := h
      cases a
      rw [strs_rep b h1]; rfl
    | _ => cases h
theorem rep_strs : ∀ ns : List Str, Reps W φ H (ns.map D.str) (ns.map V.str)
  | [] => .nil
  | n :: ns => .cons (.str n) (rep_strs ns)
theorem Reps.eraseIdx {ds vs} (r : Reps W φ H ds vs) (k : Nat) : Reps W φ H (ds.eraseIdx k) (vs.eraseIdx k) := by
  rw [List.eraseIdx_eq_take_drop_succ, List.eraseIdx_eq_take_drop_succ]
  exact (r.take k).append (r.drop (k + 1))
/-- the two numbers of a pair -/
noncomputable def pkV (H : Hp) : V → Int × Int
  | .ref t => match H t with
    | some (.tup [.int a, .int b]) => (a, b)
    | _ => (0, 0)
  | _ => (0, 0)
theorem pairs_rep : ∀ {xs vs ps}, Reps W φ H xs vs → pairsD xs = some ps → vs.map (pkV H) = ps ∧ ∀ v ∈ vs, Rep W φ H (pairD (pkV H v)) v ∧ ∃ t, v = V.ref t ∧ H t = some (.tup [.int (pkV H v).1, .int (pkV H v).2])
  | _, _, _, .nil, h => by cases h; exact ⟨rfl, fun v hv => by simp at hv⟩
  | _, _, _, .cons (x := x) (v := v) a b, h => by
    unfold pairsD at h
    split at h
    · rename_i q; cases q
    · rename_i i j r q
      cases q
      simp only [Option.map_eq_some_iff] at h
      obtain ⟨ms, h1, rfl⟩ := h
      obtain ⟨k1, k2⟩ := pairs_rep b h1
      have a' := a
      cases a with
      | @tup t us _ ha na ra =>
        have eu : us = [V.int i, V.int j] := by
          cases ra with
          | cons x1 r1 => cases r1 with
            | cons x2 r2 => cases r2; cases x1; cases x2; rfl
        have ek : pkV H (.ref t) = (i, j) := by
          show (match H t with | some (.tup [.int a, .int b]) => (a, b) | _ => (0, 0)) = _
          rw [ha, eu]
        refine ⟨by rw [List.map_cons, k1, ek], fun v hv => ?_⟩
        rcases List.mem_cons.mp hv with rfl | hv
        · rw [ek]
          exact ⟨a', t, rfl, by rw [ha, eu]⟩
        · exact k2 v hv
    · cases h
theorem reps_pk : ∀ {vs : List V}, (∀ v ∈ vs, Rep W φ H (pairD (pkV H v)) v) → Reps W φ H ((vs.map (pkV H)).map pairD) vs
  | [], _ => .nil
  | v :: vs, h => .cons (h v (by simp)) (reps_pk fun x hx => h x (by simp [hx]))
/-! ### items, slices -/
theorem ix_ok (hK : X.K = W.K) : IxR X (rD W idxW) := by
  intro value slice pins s σ H xv yv v u Q I rx ry h hs
  obtain ⟨φ, hd, x, y, Qd, S, rx', ry', w, q⟩ := h
  have go : ∀ a i, (∃ xs d, rdS hd a = some xs ∧ L2.atI xs i = some d ∧ Qd d hd) → Rep W φ H a xv → yv = .int i → wpAny (model X.prog X.w) X.A (subscriptTail value slice v u) (EP X pins σ Q) X.xe s := fun a i w ra ey => by
    subst ey
    obtain ⟨xs, d, e1, e2, w⟩ := w
    obtain ⟨p, vs, rfl, h1, r1⟩ := rdS_ok S ra e1
    obtain ⟨dv, e3, r2⟩ := atI_rep r1 e2
    rcases h1 with h1 | h1
    · exact ix_list value slice pins s σ H _ _ v u Q I rx ry ⟨p, vs, i, dv, rfl, rfl, by rw [hK]; exact h1, e3, q.now S r2 w⟩ hs
    · exact ix_tup value slice pins s σ H _ _ v u Q I rx ry ⟨p, vs, i, dv, rfl, rfl, by rw [hK]; exact h1, e3, q.now S r2 w⟩ hs
  cases y with
  | int i =>
    have ey := ry'.int_inv
    cases x with
    | str z =>
      obtain ⟨c, z1, e, w⟩ := w
      cases rx'
      subst ey
      exact ix_str value slice pins s σ H _ _ v u Q I rx ry ⟨z, i, c, rfl, rfl, z1, e, q.now S (.str _) w⟩ hs
    | _ => exact go _ _ w rx' ey
  | _ => cases x <;> exact w.elim
noncomputable def rSl (W : Wd) (m : Bool) : V → Option Int → Option Int → Hp → VK → Prop := fun xv lo hi H Q => ∃ φ hd x Qd, Sim W φ hd H ∧ Rep W φ H x xv ∧ slcW m x lo hi hd Qd ∧ QOk W φ H Qd Q
theorem cutV_whole (vs : List V) (lo hi : Option Int) (h : HT.sIx vs.length 0 lo = 0 ∧ HT.sIx vs.length vs.length hi = vs.length) : cutV vs lo hi = vs := by
  unfold cutV
  rw [h.1, h.2]
  simp
theorem cut_whole {α : Type} (vs : List α) (lo hi : Option Int) (h : HT.sIx vs.length 0 lo = 0 ∧ HT.sIx vs.length vs.length hi = vs.length) : cut vs lo hi = vs := by
  unfold cut
  rw [h.1, h.2]
  simp
theorem sl_ok (hK : X.K = W.K) (m : Bool) : SlR X (rSl W m) := by
  intro pins s σ H xv v vl vu lo hi sl Q I rx hsl pl pu h
  obtain ⟨φ, hd, x, Qd, S, rx', w, q⟩ := h
  have go : ∀ a, (∃ xs, rdL hd a = some xs ∧ mkL m (cut xs lo hi) hd Qd) → Rep W φ H a xv →
    ∃ T id, typeLookup (.type T) "__getitem__" = pure (some (.builtin id)) ∧ s.TypeIs v T ∧ wpAny (model X.prog X.w) X.A (getItem v (.ref sl)) (EP X pins σ Q) X.xe s := fun a w ra => by
    obtain ⟨xs, e1, w⟩ := w
    obtain ⟨p, vs, rfl, h1, r1⟩ := rdL_ok S ra e1
    have z := mkL_ok S (cut_rep r1 lo hi) q w
    exact sl_list pins s σ H _ v vl vu lo hi sl Q I rx hsl pl pu ⟨p, vs, rfl, by rw [hK]; exact h1, z.2⟩
  cases x with
  | tup xs =>
    cases rx' with
    | tup ha na ra =>
      refine sl_tupA pins s σ H _ v vl vu lo hi sl Q I rx hsl pl pu ⟨_, _, rfl, .of ha, fun e => ?_, fun e => mkT_ok S (cut_rep ra lo hi) q w⟩
      have e' := e
      rw [← ra.len] at e'
      have w' : Qd (.tup (cut xs lo hi)) hd := w
      rw [cut_whole xs lo hi e'] at w'
      exact q.now S (.tup ha na ra) w'
  | str z =>
    cases rx'
    exact sl_str pins s σ H _ v vl vu lo hi sl Q I rx hsl pl pu ⟨z, rfl, w.1, q.now S (.str _) w.2⟩
  | _ => exact go _ w rx'
/-! ### built-in functions -/
noncomputable def biV : String → Option Value
  | "abs" => some (.builtin "abs") | "max" => some (.builtin "max") | "min" => some (.builtin "min") | "len" => some (.builtin "len") | "sum" => some (.builtin "sum") | "any" => some (.builtin "any") | "all" => some (.builtin "all")
  | "int" => some (.type "int") | "bool" => some (.type "bool") | "list" => some (.type "list") | "tuple" => some (.type "tuple")
  | "sorted" => some (.builtin "sorted")
  | "str" => some (.type "str")
  | "set" => some (.type "set")
  | _ => none
theorem biV_boot {f v} (h : biV f = some v) : bootBuiltins (Str.ofString f) = some v := by
  unfold biV at h
  split at h <;> first | (cases h; decide +kernel) | cases h
noncomputable def rB (W : Wd) (m : Bool) (f : String) : List V → Hp → VK → Prop := fun vs H Q => ∃ φ hd xs Qd, Sim W φ hd H ∧ Reps W φ H xs vs ∧ biW m f xs hd Qd ∧ QOk W φ H Qd Q
theorem reps1 {vs} {x : D} (r : Reps W φ H [x] vs) : ∃ v, vs = [v] ∧ Rep W φ H x v := by
  cases r with
  | cons a b => cases b; exact ⟨_, rfl, a⟩
theorem reps2 {vs} {x y : D} (r : Reps W φ H [x, y] vs) : ∃ v u, vs = [v, u] ∧ Rep W φ H x v ∧ Rep W φ H y u := by
  cases r with
  | cons a b => cases b with
    | cons c d => cases d; exact ⟨_, _, rfl, a, c⟩
theorem bi_ok (hK : X.K = W.K) (hc : X.calm = true) (m : Bool) (f : String) (v : Value) (hv : biV f = some v) : CallR X v (rB W m f) := by
  intro pins s σ H vs us Q I r h
  obtain ⟨φ, hd, xs, Qd, S, rx, w, q⟩ := h
  unfold biW at w
  split at w
  · cases hv
    obtain ⟨_, rfl, a⟩ := reps1 rx
    cases a
    exact call_abs pins s σ H _ us Q I r ⟨_, rfl, q.now S (.int _) w⟩
  · cases hv
    obtain ⟨_, rfl, a⟩ := reps1 rx
    cases a
    exact call_int1 pins s σ H _ us Q I r (.inl ⟨_, rfl, q.now S (.int _) w⟩)
  · cases hv
    obtain ⟨_, rfl, a⟩ := reps1 rx
    cases a
    exact call_int1 pins s σ H _ us Q I r (.inr ⟨_, rfl, q.now S (.int _) w⟩)
  · cases hv
    obtain ⟨_, rfl, a⟩ := reps1 rx
    cases a
    obtain ⟨n, h1, h2, w⟩ := w
    exact call_int_str pins s σ H _ us Q I r ⟨_, n, rfl, h1, h2, q.now S (.int _) w⟩
  · cases hv
    obtain ⟨_, rfl, a⟩ := reps1 rx
    cases a
    exact call_str_int pins s σ H _ us Q I r ⟨_, rfl, w.1, q.now S (.str _) w.2⟩
  · cases hv
    obtain ⟨_, rfl, a⟩ := reps1 rx
    cases a
    exact SkE.call_str_str pins s σ H _ us Q I r ⟨_, rfl, q.now S (.str _) w⟩
  · cases hv
    obtain ⟨_, rfl, a⟩ := reps1 rx
    cases a
    exact call_bool1 pins s σ H _ us Q I r (.inl ⟨_, rfl, q.now S (.bl _) w⟩)
  · cases hv
    obtain ⟨_, rfl, a⟩ := reps1 rx
    cases a
    exact call_bool1 pins s σ H _ us Q I r (.inr ⟨_, rfl, q.now S (.bl _) w⟩)
  · cases hv
    obtain ⟨_, _, rfl, a, b⟩ := reps2 rx
    cases a; cases b
    exact call_max2 hc pins s σ H _ us Q I r ⟨_, _, rfl, q.now S (.int _) w⟩
  · cases hv
    obtain ⟨_, _, rfl, a, b⟩ := reps2 rx
    cases a; cases b
    exact call_min2 hc pins s σ H _ us Q I r ⟨_, _, rfl, q.now S (.int _) w⟩
  · cases hv
    obtain ⟨_, rfl, a⟩ := reps1 rx
    cases a
    exact call_len_str pins s σ H _ us Q I r ⟨_, rfl, w.1, q.now S (.int _) w.2⟩
  · cases hv
    obtain ⟨_, rfl, a⟩ := reps1 rx
    obtain ⟨ys, e, w⟩ := w
    obtain ⟨p, ws, rfl, h1, r1⟩ := rdS_ok S a e
    exact call_len_seq pins s σ H _ us Q I r ⟨p, ws, rfl, by rw [hK]; exact h1, by rw [← r1.len]; exact q.now S (.int _) w⟩
  · cases hv
    obtain ⟨_, rfl, a⟩ := reps1 rx
    obtain ⟨ys, e, w⟩ := w
    obtain ⟨p, ws, rfl, h1, r1⟩ := rdS_ok S a e
    have z := mkL_ok S r1 q w
    exact call_list_of pins s σ H _ us Q I r ⟨p, ws, rfl, by rw [hK]; exact h1, z.2⟩
  · cases hv
    obtain ⟨_, rfl, a⟩ := reps1 rx
    cases a with
    | tup ha na ra => exact call_tupleT pins s σ H _ us Q I r ⟨_, _, rfl, .of ha, q.now S (.tup ha na ra) w⟩
  · cases hv
    obtain ⟨_, rfl, a⟩ := reps1 rx
    obtain ⟨ys, e, w⟩ := w
    obtain ⟨p, ws, rfl, h1, r1⟩ := rdL_ok S a e
    exact call_tuple_of pins s σ H _ us Q I r ⟨p, ws, rfl, .inl ⟨by rw [hK]; exact h1, mkT_ok S r1 q w⟩⟩
  · cases hv
    obtain ⟨_, rfl, a⟩ := reps1 rx
    obtain ⟨ys, ns, e, e2, w⟩ := w
    obtain ⟨p, ws, rfl, h1, r1⟩ := rdL_ok S a e
    exact cr_sum hc pins s σ H _ us Q I r ⟨p, ns, rfl, by rw [hK, ← ints_rep r1 e2]; exact h1, q.now S (.int _) w⟩
  · cases hv
    obtain ⟨_, rfl, a⟩ := reps1 rx
    obtain ⟨ys, ns, e, e2, z, w⟩ := w
    obtain ⟨p, ws, rfl, h1, r1⟩ := rdL_ok S a e
    exact cr_max hc pins s σ H _ us Q I r ⟨p, ns, rfl, by rw [hK, ← ints_rep r1 e2]; exact h1, z, fun k h1 h2 => q.now S (.int _) (w k h1 h2)⟩
  · cases hv
    obtain ⟨_, rfl, a⟩ := reps1 rx
    obtain ⟨ys, ns, e, e2, z, w⟩ := w
    obtain ⟨p, ws, rfl, h1, r1⟩ := rdL_ok S a e
    exact cr_min hc pins s σ H _ us Q I r ⟨p, ns, rfl, by rw [hK, ← ints_rep r1 e2]; exact h1, z, fun k h1 h2 => q.now S (.int _) (w k h1 h2)⟩
  · cases hv
    obtain ⟨_, rfl, a⟩ := reps1 rx
    obtain ⟨ys, ns, e, e2, w⟩ := w
    obtain ⟨p, ws, rfl, h1, r1⟩ := rdL_ok S a e
    exact cr_any hc pins s σ H _ us Q I r ⟨p, ns, rfl, by rw [hK, ← bls_rep r1 e2]; exact h1, q.now S (.bl _) w⟩
  · cases hv
    obtain ⟨_, rfl, a⟩ := reps1 rx
    obtain ⟨ys, ns, e, e2, w⟩ := w
    obtain ⟨p, ws, rfl, h1, r1⟩ := rdL_ok S a e
    exact cr_all hc pins s σ H _ us Q I r ⟨p, ns, rfl, by rw [hK, ← bls_rep r1 e2]; exact h1, q.now S (.bl _) w⟩
  · cases hv
    obtain ⟨_, rfl, a⟩ := reps1 rx
    rcases w with ⟨ys, ns, e, e2, w⟩ | ⟨ys, ps, e, e2, w⟩
    · obtain ⟨p, ws, rfl, h1, r1⟩ := rdL_ok S a e
      exact cr_sortedI pins s σ H _ us Q I r ⟨p, ns, rfl, by rw [hK, ← ints_rep r1 e2]; exact h1, fun ns' q' hp hs hq => (mkL_ok S (rep_ints ns') q (w ns' hp hs)).2 q' hq⟩
    · obtain ⟨p, ws, rfl, h1, r1⟩ := rdL_ok S a e
      obtain ⟨ek, hr⟩ := pairs_rep r1 e2
      refine cr_sortedPO pins s σ H _ us Q I r ⟨p, ws, pkV H, rfl, by rw [hK]; exact h1, fun x hx => (hr x hx).2, fun zs q' hs hb hq => ?_⟩
      have hz : Reps W φ H ((zs.map (pkV H)).map pairD) zs := reps_pk fun x hx => (hr x (hb.perm.mem_iff.mp hx)).1
      refine (mkL_ok S hz q (w _ (by rw [← ek]; exact hb.perm.map _) (List.pairwise_map.mpr (hs.imp fun {x y} h => ?_)))).2 q' hq
      have := SrtO.lexB_no.mp h
      unfold lexLe
      omega
  · exact w.elim
/-! ### methods of lists -/
theorem ref_lst {r xs v} (S : Sim W φ hd H) (a : Rep W φ H (.ref r) v) (e : hd[r]? = some (.lst xs)) : ∃ p vs, v = .ref p ∧ φ[r]? = some p ∧ H p = some (.lst vs) ∧ Reps W φ H xs vs := by
  cases a with
  | ref h =>
    obtain ⟨b, hb, vs, h1, h2⟩ := S.obj r _ e
    rw [h] at hb; cases hb
    exact ⟨_, vs, rfl, h, h1, h2⟩
/-- extend by a tuple -/
theorem mt_extendT {b l : Addr} {xs zs : List V} {pins : List (Addr × Obj)} {s : Shared} {σ : L2.St} {v : Value} {us : List Value} (I : Inv X pins σ H s) (rx : RelV (.ref l) v) (rv : Vals [.ref b] us) (hH : H l = some (.lst xs)) (hB : H b = some (.tup zs)) (hz : xs.length + zs.length ≤ sizeLine) (q : Q .non (upd H l (.lst (xs ++ zs)))) :
    wpAny (model X.prog X.w) X.A (call (.builtin "list.extend") (v :: us)) (EP X pins σ Q) X.xe s := by
  cases rx
  obtain ⟨u, rfl, ru⟩ := rv.one
  cases ru
  obtain ⟨z, its, n, r, hl, e⟩ := I.lstM hH
  obtain ⟨z2, its2, r2, o, ho, hc, n2, hd⟩ := I.hok b _ hB
  obtain ⟨cls, dict, data, slots⟩ := o
  simp only at hc hd
  subst hc hd
  have hl2 : zs.length = its2.length := r2.length
  have hsz : its.toArray.size + its2.toArray.size ≤ sizeLine := by rw [List.size_toArray, List.size_toArray]; omega
  have hlong : ¬ (!its.toArray.isEmpty && Builtin.List.listTooLong (its.toArray.size + its2.toArray.size)) = true := by
    rw [notLongL hsz, Bool.and_false]
    exact Bool.false_ne_true
  refine call_meets PySem.F.slot_list_extend ⟨_, e, rfl⟩ PySem.F.entry_list_extend (PySem.F.args_list_extend_2 _ _)
    (PySem.list_extend_tupG l its.toArray n b its2.toArray n2 dict slots hlong (by rw [List.size_toArray]; omega) (by omega)) ⟨e, ho, ?_⟩
  refine ⟨.non, _, I.lset (its' := its ++ its2) hH e (by simp) (r.append r2) ?_, rfl, q⟩
  rw [List.length_append]
  omega
theorem rdE_ok {d v ys} (S : Sim W φ hd H) (a : Rep W φ H d v) (e : rdE hd d = some ys) : ∃ b bs, v = .ref b ∧ (H b = some (.lst bs) ∨ H b = some (.tup bs)) ∧ Reps W φ H ys bs := by
  unfold rdE at e
  split at e
  · cases e
    cases a with
    | vl ha na ra => exact ⟨_, _, rfl, .inl ha, ra⟩
  · cases e
    cases a with
    | tup ha na ra => exact ⟨_, _, rfl, .inr ha, ra⟩
  · split at e
    · cases e
      obtain ⟨p, vs, rfl, _, h1, r1⟩ := ref_lst S a (by assumption)
      exact ⟨p, vs, rfl, .inl h1, r1⟩
    · cases e
  · cases e
theorem put_lst {r ys ws ws0} {p : Addr} {d v} (S : Sim W φ hd H) (hp : φ[r]? = some p) (h0 : H p = some (.lst ws0)) (rs : Reps W φ H ys ws) (rd : Rep W φ H d v) (q : QOk W φ H Qd Q) (w : Qd d (hd.set r (.lst ys))) : Q v (upd H p (.lst ws)) := by
  have E := Ext.write (φ := φ) (H := H) (o := .lst ws) (List.mem_of_getElem? hp) (nofrz h0 (fun _ _ z => nomatch z))
  exact q φ _ _ _ _ E (S.write hp (nofrz h0 (fun _ _ z => nomatch z)) (show RepO W φ _ p (.lst ys) from ⟨ws, upd_same, rs.ext E⟩)) (rd.ext E) w
noncomputable def bmT : String → Option (String × Nat)
  | "append" => some ("list.append", 1) | "pop" => some ("list.pop", 0) | "clear" => some ("list.clear", 0) | "reverse" => some ("list.reverse", 0)
  | "extend" => some ("list.extend", 1) | "insert" => some ("list.insert", 2) | "index" => some ("list.index", 1)
  | "join" => some ("str.join", 1) | "split" => some ("str.split", 1)
  | _ => none
noncomputable def rM (W : Wd) (f : String) : V → List V → Hp → VK → Prop := fun xv vs H Q => ∃ φ hd x xs Qd, Sim W φ hd H ∧ Rep W φ H x xv ∧ Reps W φ H xs vs ∧ bmW f x xs hd Qd ∧ QOk W φ H Qd Q
theorem sqix {i : Int} {k n : Nat} (h0 : 0 ≤ i) (h1 : i.toNat = k) (h2 : k < n) : seqIndex? i n = some k := by
  unfold seqIndex?
  have e : (if i < 0 then i + (n : Int) else i) = i := if_neg (by omega)
  simp only [e]
  rw [if_pos (by rw [decide_eq_true h0, decide_eq_true (show i < (n : Int) by omega)]; rfl), h1]
theorem bm_ok (hK : X.K = W.K) (hu : X.A.units + 65 < cLine) (f id : String) (n : Nat) (hv : bmT f = some (id, n)) : MtR X id (rM W f) := by
  intro pins s σ H xv vs v us Q I rv r h
  obtain ⟨φ, hd, x, xs, Qd, S, rx, rs, w, q⟩ := h
  unfold bmW at w
  split at w
  · cases hv
    obtain ⟨ys, e, z, w⟩ := w
    obtain ⟨p, ws, rfl, hp, h1, r1⟩ := ref_lst S rx e
    obtain ⟨dv, rfl, rd⟩ := reps1 rs
    exact mt_append pins s σ H _ _ v us Q I rv r ⟨p, ws, dv, rfl, rfl, h1, by rw [← r1.len]; exact z, put_lst S hp h1 (r1.append (.single rd)) .non q w⟩
  · cases hv
    obtain ⟨ys, y, e, e2, w⟩ := w
    obtain ⟨p, ws, rfl, hp, h1, r1⟩ := ref_lst S rx e
    cases rs
    obtain ⟨yv, e3, ry⟩ := r1.get e2
    exact mt_pop pins s σ H _ _ v us Q I rv r ⟨p, ws, yv, rfl, rfl, h1, by rw [← r1.len]; exact e3, put_lst S hp h1 r1.dropLast ry q w⟩
  · cases hv
    obtain ⟨ys, zs, e, e2, z, w⟩ := w
    obtain ⟨p, ws, rfl, hp, h1, r1⟩ := ref_lst S rx e
    obtain ⟨dv, rfl, rd⟩ := reps1 rs
    obtain ⟨b, bs, rfl, hb, rb⟩ := rdE_ok S rd e2
    rcases hb with hb | hb
    · exact mt_extend pins s σ H _ _ v us Q I rv r ⟨p, b, ws, bs, rfl, rfl, h1, hb, by rw [← r1.len, ← rb.len]; exact z, put_lst S hp h1 (r1.append rb) .non q w⟩
    · exact mt_extendT I rv r h1 hb (by rw [← r1.len, ← rb.len]; exact z) (put_lst S hp h1 (r1.append rb) .non q w)
  · cases hv
    obtain ⟨ys, e, z, z1, z2, w⟩ := w
    obtain ⟨p, ws, rfl, hp, h1, r1⟩ := ref_lst S rx e
    obtain ⟨iv, dv, rfl, ri, rd⟩ := reps2 rs
    cases ri
    exact mt_insert pins s σ H _ _ v us Q I rv r ⟨p, ws, _, dv, rfl, rfl, h1, by rw [← r1.len]; exact z, z1, z2, put_lst S hp h1 (((r1.take _).append (.single rd)).append (r1.drop _)) .non q w⟩
  · cases hv
    obtain ⟨ys, k, y, e, z1, z2, z3, e2, w⟩ := w
    obtain ⟨p, ws, rfl, hp, h1, r1⟩ := ref_lst S rx e
    obtain ⟨iv, rfl, ri⟩ := reps1 rs
    cases ri
    obtain ⟨yv, e3, ry⟩ := r1.get e2
    have hlt := (List.getElem?_eq_some_iff.mp e3).1
    exact mt_popAt pins s σ H _ _ v us Q I rv r ⟨p, ws, _, k, yv, rfl, rfl, h1, by omega, by omega, sqix z1 z2 hlt, e3, put_lst S hp h1 (r1.eraseIdx k) ry q w⟩
  · cases hv
    obtain ⟨ys, j, z, e, py1, py2, e2, dz, dn, w⟩ := w
    obtain ⟨yv, rfl, ry⟩ := reps1 rs
    obtain ⟨p, ws, rfl, h1, r1⟩ := rdM_ok S rx e
    refine mt_indexD hu pins s σ H _ _ v us Q I rv r ⟨p, yv, py _, pys ys, j, py z, rfl, rfl, ?_, by rw [hK]; exact rep_dp 15 py1 ry, pls_shaped (k := 15) (by decide) py2, pl_shaped (k := 15) (by decide) py1, ?_, ?_, ?_, q.now S (.int _) w⟩
    · rw [hK]
      exact .lst (.of h1) (reps_dp 15 py2 r1)
    · rw [pys_map, List.getElem?_map, e2]; rfl
    · rw [deq_py 15 _ _ (List.all_eq_true.mp py2 z (List.mem_of_getElem? e2)) py1]; exact dz
    · intro m z' hm hz'
      rw [pys_map, List.getElem?_map] at hz'
      cases o : ys[m]? with
      | none => rw [o] at hz'; cases hz'
      | some y2 =>
        rw [o] at hz'
        have hz' : py y2 = z' := Option.some.inj hz'
        subst hz'
        rw [deq_py 15 _ _ (List.all_eq_true.mp py2 y2 (List.mem_of_getElem? o)) py1]; exact dn m y2 hm o
  · cases hv
    obtain ⟨xs, ys, e, e2, z, w⟩ := w
    obtain ⟨dv, rfl, rd⟩ := reps1 rs
    cases rx
    obtain ⟨p, vs, rfl, h1, r1⟩ := rdL_ok S rd e
    exact mt_join pins s σ H _ _ v us Q I rv r ⟨_, p, ys, rfl, rfl, .inl (by rw [hK, ← strs_rep r1 e2]; exact h1), z, q.now S (.str _) w⟩
  · cases hv
    obtain ⟨z, z2, z3, w⟩ := w
    obtain ⟨dv, rfl, rd⟩ := reps1 rs
    cases rx
    cases rd
    exact mt_split pins s σ H _ _ v us Q I rv r ⟨_, _, rfl, rfl, z, z2, (mkL_ok (m := false) S (rep_strs (Txt.split _ _)) q ⟨by rw [List.length_map]; exact z3, w⟩).2⟩
  · cases hv
    obtain ⟨ys, e, w⟩ := w
    obtain ⟨p, ws, rfl, hp, h1, r1⟩ := ref_lst S rx e
    cases rs
    exact mt_clear pins s σ H _ _ v us Q I rv r ⟨p, ws, rfl, rfl, h1, put_lst S hp h1 .nil .non q w⟩
  · cases hv
    obtain ⟨ys, e, w⟩ := w
    obtain ⟨p, ws, rfl, hp, h1, r1⟩ := ref_lst S rx e
    cases rs
    exact mt_reverse pins s σ H _ _ v us Q I rv r ⟨p, ws, rfl, rfl, h1, put_lst S hp h1 r1.reverse .non q w⟩
  · exact w.elim
/-- o[i] = v -/
noncomputable def subW (o i d : D) (h : Hd) (K : Hd → Prop) : Prop := ∃ r k xs j, o = .ref r ∧ i = .int k ∧ h[r]? = some (.lst xs) ∧ L2.ixN xs.length k = some j ∧ K (h.set r (.lst (xs.set j d)))
end
end Vd

set_option Elab.async false
set_option linter.all false
set_option maxRecDepth 100000
set_option maxHeartbeats 2000000
/-! the code that stands in the text, and that what it asks suffices: expressions -/
namespace Vd
open PySem PySem.Spec PyProof.Rows L2

/-! ### looks at the text -/
noncomputable def visB (sc : Scope) (x : Str) : Bool := match sc.names.lookup x with
  | some .local => true | some .cell => true | some .free => true | _ => false
noncomputable def glB (sc : Scope) (x : Str) : Bool := match sc.names.lookup x with
  | some .globalImplicit => true | _ => false
noncomputable def okN (x : Str) : Bool := !(x == ("__debug__" : Str)) && !(x == ("__classdict__" : Str)) && !(x == ("__name__" : Str))
noncomputable def tgB (os sc : Scope) (x : Str) : Bool := match os.names.lookup x, sc.names.lookup x with
  | some .local, some .local => true | some .cell, some .cell => true | _, _ => false
noncomputable def starB : Expr → Bool | .Starred .. => true | _ => false
noncomputable def sliceB : Expr → Bool | .Slice .. => true | _ => false
noncomputable def setB : Expr → Bool | .Set .. => true | _ => false
noncomputable def compB : Expr → Bool | .ListComp .. => true | .SetComp .. => true | .DictComp .. => true | _ => false
noncomputable def plainT : Expr → Bool | .UnaryOp .Not _ _ => false | .BoolOp .. => false | .IfExp .. => false | .Compare .. => false | _ => true
noncomputable def baseB : Expr → Bool | .Call (.Name _ _) [] [] _ => false | _ => true
theorem star_cons {e : Expr} {es : List Expr} {env : Env} (h : starB e = false) : starEach (e :: es) env = (false, eval e env) :: starEach es env := by
  cases e <;> first | rfl | (simp [starB] at h)
theorem star_any {env : Env} {pos : Pos} : ∀ {es : List Expr}, es.all (fun e => !starB e) = true → (backTo pos (starEach es env)).any (·.1) = false
  | [], _ => rfl
  | e :: es, h => by
    rw [List.all_cons, Bool.and_eq_true] at h
    rw [star_cons (by simpa using h.1)]
    show (false || (backTo pos (starEach es env)).any (·.1)) = false
    rw [star_any h.2]; rfl
theorem ix_plain {e : Expr} (h : sliceB e = false) : PlainIx e := by
  intro o i
  cases e <;> first | rfl | (simp [sliceB] at h)
theorem test_plain {e : Expr} {env : Env} (h : plainT e = true) : ∀ whole, isTrue e env whole = (do let v ← whole; standAt e.pos; holding [v] (truthy v)) := by
  intro w
  cases e with
  | UnaryOp op a p => cases op <;> first | rfl | (simp [plainT] at h)
  | BoolOp => simp [plainT] at h
  | IfExp => simp [plainT] at h
  | Compare => simp [plainT] at h
  | _ => rfl
theorem set_plain {e : Expr} {env : Env} (h : setB e = false) : ∀ x, foldedSetIterable e env x = pure x := by
  intro x
  cases e <;> first | rfl | (simp [setB] at h)
theorem comp_plain {e : Expr} {t : Option Expr} {l : Nat} {env : Env} (h : compB e = false) : swapsWith e t l env = pure false := by
  cases e <;> first | rfl | (simp [compB] at h)
theorem base_plain {e : Expr} {f : Str} {env : Env} (h : baseB e = true) : attributeBase e f env (eval e env) = eval e env := by
  cases e with
  | Call fn args kws pos =>
    cases fn with
    | Name x p =>
      cases args with
      | nil => cases kws with
        | nil => simp [baseB] at h
        | cons => rfl
      | cons => rfl
    | _ => rfl
  | _ => rfl
theorem mark_plain {op : CmpOp} {e : Expr} (h : setB e = false) : behindInMarks op e = false := by
  cases e <;> first | rfl | (simp [setB] at h)

noncomputable def opB : Op2 → Operator → Bool
  | .add, .Add => true | .sub, .Sub => true | .mul, .Mult => true | .fdiv, .FloorDiv => true | .mod, .Mod => true | .pow, .Pow => true | .shl, .LShift => true | .shr, .RShift => true | .band, .BitAnd => true | .bxor, .BitXor => true
  | _, _ => false
theorem opB_eq {a b} (h : opB a b = true) : b = opOf a := by
  cases a <;> cases b <;> first | rfl | (simp [opB] at h)
noncomputable def cmB : Cm → CmpOp → Bool
  | .lt, .Lt => true | .le, .LtE => true | .gt, .Gt => true | .ge, .GtE => true | .eq, .Eq => true | .ne, .NotEq => true | .is, .Is => true | .isn, .IsNot => true | .isin, .In => true | .nin, .NotIn => true
  | _, _ => false
theorem cmB_eq {a b} (h : cmB a b = true) : b = cmOf a := by
  cases a <;> cases b <;> first | rfl | (simp [cmB] at h)

/-- where one stands -/
structure Pl where
  cm : Bool
  N : List Str
  sc : Scope
  os : Scope
  ex : Bool := false
noncomputable def nmB (P : Pl) (i : Nat) (x : Str) : Bool := decide (P.N[i]? = some x) && tgB P.os P.sc x
noncomputable def tgC (P : Pl) : Tg → Expr → Bool
  | .nm i, .Name x _ => nmB P i x
  | .tp is, .Tuple es _ _ => P.cm && decide (is.length = es.length) && (is.zip es).all fun p => match p.2 with
    | .Name x _ => nmB P p.1 x
    | _ => false
  | _, _ => false
/-- what a comprehension's block is -/
noncomputable def blkB (P : Pl) (scope : Scope) (vs : List Nat) : Bool := blkC P.N P.sc scope (vs.filterMap fun i => (P.N[i]?).map fun x => (x, i)) && vs.all fun i => (P.N[i]?).isSome
noncomputable def Pl.blk (P : Pl) (scope : Scope) : Pl := { P with sc := relS scope P.sc, os := scope, ex := false }
mutual
noncomputable def chkE (P : Pl) : E → Expr → Bool
  | .var i, e0 => match e0 with
    | .Name x _ => decide (P.N[i]? = some x) && visB P.sc x && okN x
    | _ => false
  | .int i, e0 => match e0 with
    | .Constant (.int j) _ _ => decide (i = j)
    | _ => false
  | .str s, e0 => match e0 with
    | .Constant (.str x) _ _ => decide (x = Str.ofString s)
    | _ => false
  | .bl b, e0 => match e0 with
    | .Constant (.bool c) _ _ => b == c
    | _ => false
  | .non, e0 => match e0 with
    | .Constant .none _ _ => true
    | _ => false
  | .glob x, e0 => match e0 with
    | .Name y _ => decide (y = Str.ofString x) && glB P.sc y && okN y
    | _ => false
  | .bin _ o a b, e0 => match e0 with
    | .BinOp a' o' b' _ => opB o o' && chkE P a a' && chkE P b b'
    | _ => false
  | .neg a, e0 => match e0 with
    | .UnaryOp .USub a' _ => chkE P a a'
    | _ => false
  | .not a, e0 => match e0 with
    | .UnaryOp .Not a' _ => chkE P a a'
    | _ => false
  | .cmp o a b, e0 => match e0 with
    | .Compare a' [o'] [b'] _ => cmB o o' && chkE P a a' && chkE P b b' && !setB b'
    | _ => false
  | .chain o p a b c, e0 => match e0 with
    | .Compare a' [o', p'] [b', c'] _ => cmB o o' && cmB p p' && chkE P a a' && chkE P b b' && chkE P c c' && !setB b' && !setB c'
    | _ => false
  | .and es, e0 => match e0 with
    | .BoolOp .And vs _ => chkEs P es vs
    | _ => false
  | .or es, e0 => match e0 with
    | .BoolOp .Or vs _ => chkEs P es vs
    | _ => false
  | .ife c a b, e0 => match e0 with
    | .IfExp c' a' b' _ => chkE P c c' && tstB c && chkE P a a' && chkE P b b'
    | _ => false
  | .tup es, e0 => match e0 with
    | .Tuple vs _ _ => chkEs P es vs
    | _ => false
  | .lst _ es, e0 => match e0 with
    | .List vs _ => chkEs P es vs
    | _ => false
  | .idx a i, e0 => match e0 with
    | .Subscript a' i' _ => !sliceB i' && chkE P a a' && chkE P i i'
    | _ => false
  | .slc _ a lo hi, e0 => match e0 with
    | .Subscript a' (.Slice lo' hi' none _) _ => chkE P a a' && chkO P lo lo' && chkO P hi hi'
    | _ => false
  | .stp a lo c, e0 => match e0 with
    | .Subscript a' (.Slice lo' none (some (.Constant (.int c') _ _)) _) _ => chkE P a a' && decide (c' = (c : Int)) && decide (0 < c) && (match lo' with
        | none => decide (lo = 0)
        | some (.Constant (.int l) _ _) => decide (l = (lo : Int))
        | _ => false)
    | _ => false
  | .lrg _ a b, e0 => match e0 with
    | .Call (.Name x _) [.Call (.Name y _) [a', b'] [] _] [] _ => P.cm && decide (x = Str.ofString "list") && glB P.sc x && decide (y = Str.ofString "range") && glB P.sc y && !starB a' && !starB b' && chkE P a a' && chkE P b b'
    | _ => false
  | .lrb _ a b, e0 => match e0 with
    | .Call (.Name x _) [.Call (.Name y _) [a', b'] [] _] [] _ => P.cm && decide (x = Str.ofString "list") && glB P.sc x && decide (y = Str.ofString "range") && glB P.sc y && !starB a' && !starB b' && chkE P a a' && chkE P b b'
    | _ => false
  | .lzp a b, e0 => match e0 with
    | .Call (.Name x _) [.Call (.Name y _) [a', b'] [] _] [] _ => P.cm && decide (x = Str.ofString "list") && glB P.sc x && decide (y = Str.ofString "zip") && glB P.sc y && !starB a' && !starB b' && chkE P a a' && chkE P b b'
    | _ => false
  | .lset a, e0 => match e0 with
    | .Call (.Name x _) [.Call (.Name y _) [a'] [] _] [] _ => P.cm && decide (x = Str.ofString "len") && glB P.sc x && decide (y = Str.ofString "set") && glB P.sc y && !starB a' && chkE P a a'
    | _ => false
  | .srs _ a, e0 => match e0 with
    | .Call (.Name x _) [.Call (.Name y _) [a'] [] _] [] _ => P.cm && decide (x = Str.ofString "sorted") && glB P.sc x && decide (y = Str.ofString "set") && glB P.sc y && !starB a' && chkE P a a'
    | _ => false
  | .lrev _ a, e0 => match e0 with
    | .Call (.Name x _) [.Call (.Name y _) [a'] [] _] [] _ => P.cm && decide (x = Str.ofString "list") && glB P.sc x && decide (y = Str.ofString "reversed") && glB P.sc y && !starB a' && chkE P a a'
    | _ => false
  | .dnew _, e0 => match e0 with
    | .Dict [] [] _ => true
    | _ => false
  | .ddsp k v, e0 => match e0 with
    | .Dict [some k'] [v'] _ => chkE P k k' && chkE P v v'
    | _ => false
  | .dln a, e0 => match e0 with
    | .Call (.Name x _) [a'] [] _ => P.cm && decide (x = Str.ofString "len") && glB P.sc x && okN x && !starB a' && chkE P a a'
    | _ => false
  | .dget o i, e0 => match e0 with
    | .Subscript o' i' _ => !sliceB i' && chkE P o o' && chkE P i i'
    | _ => false
  | .din n i o, e0 => match e0 with
    | .Compare i' [op] [o'] _ => (if n = true then cmB .nin op else cmB .isin op) && chkE P i i' && chkE P o o' && !setB o'
    | _ => false
  | .mpr mx a, e0 => match e0 with
    | .Call (.Name x _) [v] [] _ => P.cm && decide (x = Str.ofString (if mx = true then "max" else "min")) && glB P.sc x && okN x && !starB v && chkE P a v
    | _ => false
  | .mdef mx a, e0 => match e0 with
    | .Call (.Name x _) [v] [⟨some k, .Constant .none _ _, _⟩] _ => P.cm && decide (x = Str.ofString (if mx = true then "max" else "min")) && glB P.sc x && okN x && !starB v && decide (k = Str.ofString "default") && chkE P a v
    | _ => false
  | .fld a f, e0 => match e0 with
    | .Attribute a' g _ => decide (g = Str.ofString f) && baseB a' && chkE P a a'
    | _ => false
  | .isi a t, e0 => match e0 with
    | .Call (.Name x _) [a', .Name t' _] [] _ => decide (x = Str.ofString "isinstance") && glB P.sc x && decide (t' = Str.ofString t) && tyN t && glB P.sc t' && okN t' && !starB a' && chkE P a a'
    | _ => false
  | .call f es, e0 => match e0 with
    | .Call (.Name x _) (v :: vs) [] _ => P.cm && decide (x = Str.ofString f) && glB P.sc x && okN x && (v :: vs).all (fun e => !starB e) && chkEs P es (v :: vs)
    | _ => false
  | .make c es, e0 => match e0 with
    | .Call (.Name x _) (v :: vs) [] _ => P.cm && decide (x = Str.ofString c) && glB P.sc x && okN x && (v :: vs).all (fun e => !starB e) && chkEs P es (v :: vs)
    | _ => false
  | .meth o f es, e0 => match e0 with
    | .Call (.Attribute o' g ap) vs [] cp => P.cm && decide (g = Str.ofString f) && (ap.endLine == cp.line) && decide (vs.length < 20) && baseB o' && chkE P o o' && vs.all (fun e => !starB e) && chkEs P es vs
    | _ => false
  | .ise i t, e0 => match e0 with
    | .Call (.Name x _) [.Name y _, .Name t' _] [] _ => P.ex && decide (x = Str.ofString "isinstance") && glB P.sc x && decide (P.N[i]? = some y) && visB P.sc y && okN y && decide (t' = Str.ofString t) && glB P.sc t' && okN t'
    | _ => false
  | .bi f _ es, e0 => match e0 with
    | .Call (.Name x _) (v :: vs) [] _ => P.cm && decide (x = Str.ofString f) && glB P.sc x && okN x && (biV f).isSome && (v :: vs).all (fun e => !starB e) && chkEs P es (v :: vs)
    | _ => false
  | .bm f o es, e0 => match e0 with
    | .Call (.Attribute o' g ap) vs [] cp => decide (g = Str.ofString f) && (ap.endLine == cp.line) && decide (vs.length < 20) && baseB o' && chkE P o o' && vs.all (fun e => !starB e) && chkEs P es vs && (bmT f).isSome
    | _ => false
  | .comp _ elt tg it cond vs, e0 => match e0 with
    | .ListComp elt' [⟨tg', it', ifs, 0⟩] scope _ => P.cm && blkB P scope vs && chkI P it it' tg' && tgC (P.blk scope) tg tg' && chkC (P.blk scope) cond ifs && chkE (P.blk scope) elt elt' && tgIn tg vs
    | _ => false
noncomputable def chkEs (P : Pl) : Es → List Expr → Bool
  | .nil, [] => true
  | .cons e r, v :: vs => chkE P e v && chkEs P r vs
  | _, _ => false
noncomputable def chkO (P : Pl) : Oe → Option Expr → Bool
  | .none, none => true
  | .some e, some v => chkE P e v
  | _, _ => false
noncomputable def chkC (P : Pl) : Oe → List Expr → Bool
  | .none, [] => true
  | .some e, [v] => chkE P e v && tstB e
  | _, _ => false
noncomputable def chkI (P : Pl) : It → Expr → Expr → Bool
  | .val e, v, _ => chkE P e v && !setB v
  | .chs e, v, _ => chkE P e v && !setB v
  | .kys e, v, _ => chkE P e v && !setB v
  | .rng1 a, e0, e1 => match e0, e1 with
    | .Call (.Name x _) [a'] [] _, _ => decide (x = Str.ofString "range") && glB P.sc x && !starB a' && chkE P a a'
    | _, _ => false
  | .rng3 a b c, e0, e1 => match e0, e1 with
    | .Call (.Name x _) [a', b', c'] [] _, _ => decide (x = Str.ofString "range") && glB P.sc x && !starB a' && !starB b' && !starB c' && chkE P a a' && chkE P b b' && chkE P c c'
    | _, _ => false
  | .rngb a b, e0, e1 => match e0, e1 with
    | .Call (.Name x _) [a', b'] [] _, _ => decide (x = Str.ofString "range") && glB P.sc x && !starB a' && !starB b' && chkE P a a' && chkE P b b'
    | _, _ => false
  | .rng2 a b, e0, e1 => match e0, e1 with
    | .Call (.Name x _) [a', b'] [] _, _ => decide (x = Str.ofString "range") && glB P.sc x && !starB a' && !starB b' && chkE P a a' && chkE P b b'
    | _, _ => false
  | .zip a b, e0, e1 => match e0, e1 with
    | .Call (.Name x _) [a', b'] [] _, .Tuple _ _ _ => decide (x = Str.ofString "zip") && glB P.sc x && !starB a' && !starB b' && chkE P a a' && chkE P b b'
    | _, _ => false
  | .enum a, e0, e1 => match e0, e1 with
    | .Call (.Name x _) [a'] [] _, .Tuple _ _ _ => decide (x = Str.ofString "enumerate") && glB P.sc x && !starB a' && chkE P a a'
    | _, _ => false
  | .rev a, e0, e1 => match e0, e1 with
    | .Call (.Name x _) [a'] [] _, _ => decide (x = Str.ofString "reversed") && glB P.sc x && !starB a' && chkE P a a'
    | _, _ => false
/-- may stand as a test -/
noncomputable def tstB : E → Bool
  | .ife _ _ _ => false
  | .and es => tstsB es
  | .or es => tstsB es
  | .not a => tstB a
  | _ => true
noncomputable def tstsB : Es → Bool
  | .nil => true
  | .cons e r => tstB e && tstsB r
noncomputable def tgIn : Tg → List Nat → Bool
  | .nm i, vs => vs.contains i
  | .tp is, vs => is.all fun i => vs.contains i
end
end Vd

set_option Elab.async false
set_option linter.all false
set_option maxRecDepth 100000
set_option maxHeartbeats 4000000
namespace Vd
open PySem PySem.Spec PyProof.Rows L2
/-! ### a value behind a call: no object that changes goes with it -/
mutual
inductive Fz (n : Nat) (h : Hd) : D → D → Prop
  | non : Fz n h .non .non
  | bl (b : Bool) : Fz n h (.bl b) (.bl b)
  | int (i : Int) : Fz n h (.int i) (.int i)
  | str (x : Str) : Fz n h (.str x) (.str x)
  | tup {xs ys} : Fzs n h xs ys → Fz n h (.tup xs) (.tup ys)
  | vl {xs ys} : Fzs n h xs ys → Fz n h (.vl xs) (.vl ys)
  | vi {c ns xs ys} : Fzs n h xs ys → Fz n h (.vi c ns xs) (.vi c ns ys)
  | sv {xs ys} : Fzs n h xs ys → Fz n h (.sv xs) (.sv ys)
  | old {r} : r < n → Fz n h (.ref r) (.ref r)
  | lst {r xs ys} : n ≤ r → h[r]? = some (.lst xs) → Fzs n h xs ys → Fz n h (.ref r) (.vl ys)
  | ins {r c ns xs ys} : n ≤ r → h[r]? = some (.ins c ns xs) → Fzs n h xs ys → Fz n h (.ref r) (.vi c ns ys)
inductive Fzs (n : Nat) (h : Hd) : List D → List D → Prop
  | nil : Fzs n h [] []
  | cons {x y xs ys} : Fz n h x y → Fzs n h xs ys → Fzs n h (x :: xs) (y :: ys)
end
mutual
inductive Bd (n : Nat) : D → Prop
  | non : Bd n .non
  | bl (b : Bool) : Bd n (.bl b)
  | int (i : Int) : Bd n (.int i)
  | str (x : Str) : Bd n (.str x)
  | tup {xs} : Bds n xs → Bd n (.tup xs)
  | vl {xs} : Bds n xs → Bd n (.vl xs)
  | vi {c ns xs} : Bds n xs → Bd n (.vi c ns xs)
  | sv {xs} : Bds n xs → Bd n (.sv xs)
  | ref {r} : r < n → Bd n (.ref r)
inductive Bds (n : Nat) : List D → Prop
  | nil : Bds n []
  | cons {x xs} : Bd n x → Bds n xs → Bds n (x :: xs)
end
mutual
theorem Bd.fz {n h} : ∀ {d}, Bd n d → Fz n h d d
  | _, .non => .non
  | _, .bl b => .bl b
  | _, .int b => .int b
  | _, .str b => .str b
  | _, .tup r => .tup (Bds.fz r)
  | _, .vl r => .vl (Bds.fz r)
  | _, .vi r => .vi (Bds.fz r)
  | _, .sv r => .sv (Bds.fz r)
  | _, .ref r => .old r
theorem Bds.fz {n h} : ∀ {ds}, Bds n ds → Fzs n h ds ds
  | _, .nil => .nil
  | _, .cons a b => .cons (Bd.fz a) (Bds.fz b)
end
noncomputable def BdO (n : Nat) : Ob → Prop
  | .lst xs => Bds n xs
  | .ins _ _ xs => Bds n xs
  | .dk _ kvs => Bds n (kvs.map (·.2))
  | .dt _ kvs => Bds n (kvs.map (·.2))
/-- the ways behind a call that began at h0 -/
inductive Exit (h0 : Hd) (v : D) (h' : Hd) (Q : DK) : Prop
  | raw : Q v h' → Exit h0 v h' Q
  | pure {v'} : Fz h0.length h' v v' → h0 <+: h' → Q v' h0 → Exit h0 v h' Q
  | fresh {r xs} : v = .ref r → h0.length ≤ r → h'[r]? = some (.lst xs) → Bds h0.length xs → h0 <+: h' → Q (.ref h0.length) (h0 ++ [.lst xs]) → Exit h0 v h' Q
  | keep {v'} : Fz h0.length h' v v' → (∀ o ∈ h'.take h0.length, BdO h0.length o) → Q v' (h'.take h0.length) → Exit h0 v h' Q

end Vd

set_option Elab.async false
set_option linter.all false
set_option maxRecDepth 100000
set_option maxHeartbeats 2000000
namespace Vd
open PySem PySem.Spec PyProof.Rows L2

noncomputable abbrev GR (α β : Type) := List Addr → Hp → α → β → Prop
noncomputable def GOk {α β : Type} (W : Wd) (R : GR α β) (φ : List Addr) (H : Hp) (Qd : α → Hd → Prop) (Q : β → Hp → Prop) : Prop :=
  ∀ φ' hd' H' d v, Ext φ φ' H H' → Sim W φ' hd' H' → R φ' H' d v → Qd d hd' → Q v H'
noncomputable def Ter {α β : Type} (W : Wd) (R : GR α β) (WX : L2.WX) (w : DSt → Hd → (α → Hd → Prop) → EK → Prop) : L2.St → Hp → (β → Hp → Prop) → Prop := fun σ H Q =>
  ∃ φ hd σd Qd Xd, At W φ hd H σd σ ∧ w σd hd Qd Xd ∧ GOk W R φ H Qd Q ∧ XOk W WX φ H σ Xd
noncomputable abbrev rV (W : Wd) : GR D V := fun φ H d v => Rep W φ H d v
noncomputable abbrev rA (W : Wd) : GR (List D) (List V) := fun φ H d v => Reps W φ H d v
noncomputable abbrev rQ {α : Type} : GR α α := fun _ _ a b => a = b
theorem GOk.ext {α β : Type} {W R φ φ' H H'} {Qd : α → Hd → Prop} {Q : β → Hp → Prop} (q : GOk W R φ H Qd Q) (e : Ext φ φ' H H') : GOk W R φ' H' Qd Q :=
  fun φ2 h2 H2 d v e2 s r w => q φ2 h2 H2 d v (e.trans e2) s r w
section
variable {W : Wd} {WX : L2.WX} {φ : List Addr} {hd : Hd} {H : Hp} {σd : DSt} {σ : L2.St} {Xd : EK}
theorem Ter.go {α β : Type} {R : GR α β} {wa : DSt → Hd → (α → Hd → Prop) → EK → Prop} {Qd1 : α → Hd → Prop} {Q1 : β → Hp → Prop} (A : At W φ hd H σd σ) (x : XOk W WX φ H σ Xd) (w : wa σd hd Qd1 Xd)
    (k : ∀ φ1 h1 H1 d v, Ext φ φ1 H H1 → At W φ1 h1 H1 σd σ → R φ1 H1 d v → Qd1 d h1 → Q1 v H1) : Ter W R WX wa σ H Q1 :=
  ⟨φ, hd, σd, Qd1, Xd, A, w, fun φ1 h1 H1 d v e s r w1 => k φ1 h1 H1 d v e ⟨s, A.st.ext e⟩ r w1, x⟩
end

theorem pe_imp {X : Cx} {e : Expr} {t t' : TE} (h : PE X e t) (i : ∀ σ H Q, t' σ H Q → t σ H Q) : PE X e t' := ⟨fun pins s σ H Q I q => h.run pins s σ H Q I (i _ _ _ q)⟩
theorem pt_imp {X : Cx} {e : Expr} {t t' : TT} (h : PT X e t) (i : ∀ σ H Q, t' σ H Q → t σ H Q) : PT X e t' := ⟨fun pins s σ H Q I q => h.run pins s σ H Q I (i _ _ _ q)⟩
theorem pw_imp {X : Cx} {e : Expr} {t t' : TT} (h : PW X e t) (i : ∀ σ H Q, t' σ H Q → t σ H Q) : PW X e t' := ⟨fun w pins s σ H Q I q => h.run w pins s σ H Q I (i _ _ _ q)⟩
theorem pa_imp {X : Cx} {e : List Expr} {t t' : TA} (h : PA X e t) (i : ∀ σ H Q, t' σ H Q → t σ H Q) : PA X e t' := ⟨fun p pins s σ H Q I q => h.run p pins s σ H Q I (i _ _ _ q)⟩
theorem po_imp {X : Cx} {e : Option Expr} {t t' : TO} (h : PO X e t) (i : ∀ σ H Q, t' σ H Q → t σ H Q) : PO X e t' := ⟨fun pins s σ H Q I q => h.run pins s σ H Q I (i _ _ _ q)⟩
theorem pts_imp {X : Cx} {e : List Expr} {t t' : TT} (h : PTs X e t) (i : ∀ σ H Q, t' σ H Q → t σ H Q) : PTs X e t' := ⟨fun pins s σ H Q I q => h.run pins s σ H Q I (i _ _ _ q)⟩
theorem pi_imp {X : Cx} {tg e : Expr} {t t' : TI} (h : PI X tg e t) (i : ∀ σ H R, t' σ H R → t σ H R) : PI X tg e t' := ⟨fun pins s σ H R I q => h.run pins s σ H R I (i _ _ _ q)⟩
theorem pg_imp {X : Cx} {e : Expr} {t t' : TG} (h : PG X e t) (i : ∀ v σ H Q, t' v σ H Q → t v σ H Q) : PG X e t' := ⟨fun pins s σ H v u Q I r q => h.run pins s σ H v u Q I r (i _ _ _ _ q)⟩
theorem pgs_imp {X : Cx} {e : List Expr} {t t' : TGs} (h : PGs X e t) (i : ∀ v σ H Q, t' v σ H Q → t v σ H Q) : PGs X e t' := ⟨fun pins s σ H v u Q I r q => h.run pins s σ H v u Q I r (i _ _ _ _ q)⟩

/-! ### what a def promises, by plain data -/
noncomputable def SPd (W : Wd) (s : List D → Hd → DK → EK → Prop) : Sp := fun vs H Q E => ∃ fb φ hd ds Qd Xd, Sim { W with fb := fb } φ hd H ∧ Reps { W with fb := fb } φ H ds vs ∧ s ds hd Qd Xd ∧ GOk { W with fb := fb } (rV { W with fb := fb }) φ H Qd Q ∧
  ∀ φ' hd' H' c C, Ext φ φ' H H' → Sim { W with fb := fb } φ' hd' H' → clOf W.mg c = some C → Xd c hd' → E (.ref C) none H'
noncomputable def FnHere (W : Wd) (G : Gam) (lv : Nat) (X : Cx) (f : String) : Prop := ∃ (fa : Addr) (fd : FuncData) (ps : List Str), X.mg (Str.ofString f) = some (.ref fa) ∧ PySem.W.keepIn X.K (.ref fa) = true ∧ Binds X.K fd ps [] ∧
  FnOk X.prog X.w X.K X.mg X.base (CX X.prog X.w) lv fa fd ps (SPd W (G.fn f))
/-- a method, a class, as the top has made them -/
noncomputable def MeHere (W : Wd) (G : Gam) (lv : Nat) (X : Cx) (c m : String) : Prop := ∃ (C fa : Addr) (fd : FuncData) (ps : List Str), clOf W.mg c = some C ∧ Cls X.K C ∧ Meth X.K C (Str.ofString m) fa ∧ Binds X.K fd ps [] ∧
  FnOk X.prog X.w X.K X.mg X.base (CX X.prog X.w) lv fa fd ps (SPd W (G.me c m))
/-- what a class called asks, by what its __init__ asks -/
noncomputable def mkW (me : String → String → List D → Hd → DK → EK → Prop) (c : String) (xs : List D) (h : Hd) (Q : DK) (X : EK) : Prop :=
  me c "__init__" (.ref h.length :: xs) (h ++ [.ins c [] []]) (fun v h2 => v = .non ∧ Exit h (.ref h.length) h2 Q) (fun e h2 => X e h2 ∨ (h <+: h2 ∧ X e h))
noncomputable def MkHere (W : Wd) (G : Gam) (lv : Nat) (X : Cx) (c : String) : Prop := ∃ (C fa : Addr) (fd : FuncData) (ps : List Str) (k : Nat) (me : String → String → List D → Hd → DK → EK → Prop), lv = k + 1 ∧ X.mg (Str.ofString c) = some (.ref C) ∧ Mk X.K C fa ∧ Binds X.K fd ps [] ∧
  FnOk X.prog X.w X.K X.mg X.base (CX X.prog X.w) k fa fd ps (SPd W (me c "__init__")) ∧ G.mkc c = mkW me c
structure Cok (W : Wd) (G : Gam) (lv : Nat) (P : Pl) (WX : L2.WX) (X : Cx) : Prop where
  K : X.K = W.K
  mg : X.mg = W.mg
  N : X.N = P.N
  nd : P.N.Nodup
  sc : X.env.scope = P.sc
  calm : P.cm = true → X.calm = true
  room : P.cm = true → Room lv X.A
  hu : X.A.units + 65 < cLine
  fn : ∀ x, P.os.names.lookup x = some .cell → X.fn x = true
  bn : ∀ f v, biV f = some v → X.mg (Str.ofString f) = none
  bn2 : X.mg (Str.ofString "range") = none ∧ X.mg (Str.ofString "zip") = none ∧ X.mg (Str.ofString "enumerate") = none ∧ X.mg (Str.ofString "reversed") = none ∧ X.mg (Str.ofString "isinstance") = none
  bn3 : X.mg (Str.ofString "int") = none ∧ X.mg (Str.ofString "bool") = none ∧ X.mg (Str.ofString "str") = none ∧ X.mg (Str.ofString "list") = none ∧ X.mg (Str.ofString "tuple") = none
  tk : Takes X WX
  fns : P.cm = true → ∀ f, G.isFn f = true → FnHere W G lv X f
  gl : ∀ x d, G.gl x = some d → ∃ u v, X.mg (Str.ofString x) = some u ∧ RelV v u ∧ ∀ (W' : Wd) φ H, Rep W' φ H d v
  fld : ∀ c f, G.fldOk c f = true → ∀ C, clOf W.mg c = some C → Cls X.K C ∧ NoAttr X.K C (Str.ofString f)
  mes : P.cm = true → ∀ c m, G.isMe c m = true → MeHere W G lv X c m
  mks : P.cm = true → ∀ c, G.isMk c = true → MkHere W G lv X c
  xn : P.cm = true → W.xs = none
  exs : ∀ c, G.isEx c = true → ∃ C, X.mg (Str.ofString c) = some (.ref C) ∧ ExcC X.K C ∧ PySem.W.excIn X.K C [.type "ValueError", .type "Exception", .type "BaseException", .type "object"] "ValueError.__new__" = true ∧ PySem.W.keepIn X.K (.ref C) = true ∧ PySem.W.typeIn X.K (.ref C) = some (.type "type")
  exm : ∀ c t b, G.exm c t = some b → ∀ C, clOf W.mg c = some C → ExcC X.K C ∧ ∃ T, X.mg (Str.ofString t) = some (.ref T) ∧ PySem.W.exmOne X.K (.ref C) (.ref T) = some b
  sub : ∀ c t b, G.sub c t = some b → ∀ C, clOf W.mg c = some C → (∃ T, X.mg (Str.ofString t) = some (.ref T) ∧ PySem.W.kitOne X.K (.ref C) (.ref T) = some b) ∨ (t = "ValueError" ∧ X.mg (Str.ofString t) = none ∧ PySem.W.kitOne X.K (.ref C) (.type "ValueError") = some b)
  xe : P.ex = true → ∀ i c, G.xs = some (i, c) → ∃ a C, W.xs = some (i, a, c) ∧ clOf W.mg c = some C ∧ CallR X (.builtin "isinstance") (rIsE X.K C a)
  isn : X.mg (Str.ofString "isinstance") = none
  trs : ∀ c, G.isTr c = true → ∃ T, X.mg (Str.ofString c) = some (.ref T)
section
variable {W : Wd} {G : Gam} {lv : Nat} {P : Pl} {WX : L2.WX} {X : Cx}
theorem Cok.vis (C : Cok W G lv P WX X) {x : Str} (h : visB P.sc x = true) : Vis X.env.scope x := by
  rw [C.sc]
  unfold visB at h
  unfold Vis
  cases e : P.sc.names.lookup x with
  | none => rw [e] at h; cases h
  | some k => rw [e] at h; cases k <;> first | exact .inl rfl | exact .inr (.inl rfl) | exact .inr (.inr rfl) | cases h
theorem Cok.gl' (C : Cok W G lv P WX X) {x : Str} (h : glB P.sc x = true) : Gl X x := by
  show X.env.scope.names.lookup x = some .globalImplicit
  rw [C.sc]
  unfold glB at h
  cases e : P.sc.names.lookup x with
  | none => rw [e] at h; cases h
  | some k => rw [e] at h; cases k <;> first | rfl | cases h
theorem okN_inv {x : Str} (h : okN x = true) : (x == ("__debug__" : Str)) = false ∧ (x == ("__classdict__" : Str)) = false ∧ x ≠ "__name__" := by
  unfold okN at h
  simp only [Bool.and_eq_true, Bool.not_eq_true'] at h
  exact ⟨h.1.1, h.1.2, by simpa using h.2⟩
/-- the target of a store -/
theorem Cok.nm (C : Cok W G lv P WX X) {i : Nat} {x : Str} (h : nmB P i x = true) : X.N.Nodup ∧ X.N[i]? = some x ∧ L2.Loc X.env.scope x ∧ (X.fn x = true ∨ X.env.scope.names.lookup x = some .local) := by
  unfold nmB at h
  rw [Bool.and_eq_true, decide_eq_true_eq] at h
  obtain ⟨h1, h2⟩ := h
  refine ⟨by rw [C.N]; exact C.nd, by rw [C.N]; exact h1, ?_⟩
  rw [C.sc]
  unfold tgB at h2
  unfold L2.Loc
  cases e1 : P.os.names.lookup x with
  | none => rw [e1] at h2; cases h2
  | some k1 =>
    cases e2 : P.sc.names.lookup x with
    | none => rw [e1, e2] at h2; cases k1 <;> cases h2
    | some k2 =>
      rw [e1, e2] at h2
      cases k1 <;> first | (cases k2 <;> first | exact ⟨.inl rfl, .inr rfl⟩ | exact ⟨.inr rfl, .inl (C.fn x e1)⟩ | cases h2) | cases h2
end

noncomputable def SndE (c : E) : Prop := ∀ {W : Wd} {G : Gam} {lv : Nat} {P : Pl} {WX : L2.WX} {X : Cx}, Cok W G lv P WX X → ∀ e, chkE P c e = true → PE X e (Ter W (rV W) WX (wpE G c)) ∧ (tstB c = true → PT X e (Ter W rQ WX (wpT G c)))
noncomputable def SndEs (c : Es) : Prop := ∀ {W : Wd} {G : Gam} {lv : Nat} {P : Pl} {WX : L2.WX} {X : Cx}, Cok W G lv P WX X → ∀ vs, chkEs P c vs = true →
  (vs.all (fun e => !starB e) = true → PA X vs (Ter W (rA W) WX (wpEs G c))) ∧
  (vs ≠ [] → ∀ pos, PE X (.BoolOp .And vs pos) (Ter W (rV W) WX (wpAnd G c)) ∧ PE X (.BoolOp .Or vs pos) (Ter W (rV W) WX (wpOr G c)) ∧
    (tstsB c = true → PW X (.BoolOp .And vs pos) (Ter W rQ WX (fun σ h Q X => wpAnd G c σ h (fun x h1 => ∃ b, x = .bl b ∧ Q b h1) X)) ∧ PW X (.BoolOp .Or vs pos) (Ter W rQ WX (fun σ h Q X => wpOr G c σ h (fun x h1 => ∃ b, x = .bl b ∧ Q b h1) X))))
noncomputable def SndO (c : Oe) : Prop := ∀ {W : Wd} {G : Gam} {lv : Nat} {P : Pl} {WX : L2.WX} {X : Cx}, Cok W G lv P WX X → (∀ e, chkO P c e = true → PO X e (Ter W rQ WX (wpO G c))) ∧ (∀ e, chkC P c e = true → PTs X e (Ter W rQ WX (wpC G c)))
section
variable {W : Wd} {G : Gam} {lv : Nat} {P : Pl} {WX : L2.WX} {X : Cx}
/-- the plain tests follow from the value -/
theorem tst_of {c : E} {e : Expr} (h : PE X e (Ter W (rV W) WX (wpE G c))) (he : plainT e = true) : PT X e (Ter W rQ WX (wpT G c)) := by
  refine pt_imp (pt_val h (test_plain he)) fun σ H Q hq => ?_
  obtain ⟨φ, hd, σd, Qd, Xd, A, w, q, x⟩ := hq
  refine Ter.go A x w fun φ1 h1 H1 d v e1 A1 r1 w1 => ?_
  obtain ⟨b, rfl, w1⟩ := w1
  cases r1
  exact ⟨b, rfl, q φ1 h1 H1 b b e1 A1.sim rfl w1⟩
theorem ok_var (i : Nat) : SndE (.var i) := by
  intro W G lv P WX X C e h
  cases e with
  | Name x pos =>
    simp only [chkE, Bool.and_eq_true, decide_eq_true_eq] at h
    obtain ⟨⟨h1, h2⟩, h3⟩ := h
    obtain ⟨o1, o2, _⟩ := okN_inv h3
    have p : PE X (.Name x pos) (Ter W (rV W) WX (wpE G (.var i))) := by
      refine pe_imp (pe_var (i := i) (by rw [C.N]; exact h1) (C.vis h2) o1 o2) fun σ H Q hq => ?_
      obtain ⟨φ, hd, σd, Qd, Xd, A, ⟨d, hd', w⟩, q, x⟩ := hq
      obtain ⟨v, hv, r⟩ := A.st.get i d hd'
      exact ⟨v, hv, q φ hd H d v .refl A.sim r w⟩
    exact ⟨p, fun _ => tst_of p rfl⟩
  | _ => simp [chkE] at h
theorem ok_int (i : Int) : SndE (.int i) := by
  intro W G lv P WX X C e h
  cases e with
  | Constant k j pos =>
    cases k with
    | int m =>
      have h' : i = m := by simpa [chkE] using h
      subst h'
      have p : PE X (.Constant (.int i) j pos) (Ter W (rV W) WX (wpE G (.int i))) := pe_imp pe_int fun σ H Q hq => by
        obtain ⟨φ, hd, σd, Qd, Xd, A, w, q, x⟩ := hq
        exact q φ hd H _ _ .refl A.sim (.int i) w
      exact ⟨p, fun _ => tst_of p rfl⟩
    | _ => simp [chkE] at h
  | _ => simp [chkE] at h
theorem ok_bl (i : Bool) : SndE (.bl i) := by
  intro W G lv P WX X C e h
  cases e with
  | Constant k j pos =>
    cases k with
    | bool m =>
      have h' : i = m := by simpa [chkE] using h
      subst h'
      have p : PE X (.Constant (.bool i) j pos) (Ter W (rV W) WX (wpE G (.bl i))) := pe_imp pe_bl fun σ H Q hq => by
        obtain ⟨φ, hd, σd, Qd, Xd, A, w, q, x⟩ := hq
        exact q φ hd H _ _ .refl A.sim (.bl i) w
      exact ⟨p, fun _ => tst_of p rfl⟩
    | _ => simp [chkE] at h
  | _ => simp [chkE] at h
theorem ok_str (i : String) : SndE (.str i) := by
  intro W G lv P WX X C e h
  cases e with
  | Constant k j pos =>
    cases k with
    | str m =>
      have h' : m = Str.ofString i := by simpa [chkE] using h
      subst h'
      have p : PE X (.Constant (.str (Str.ofString i)) j pos) (Ter W (rV W) WX (wpE G (.str i))) := pe_imp pe_str fun σ H Q hq => by
        obtain ⟨φ, hd, σd, Qd, Xd, A, w, q, x⟩ := hq
        exact q φ hd H _ _ .refl A.sim (.str _) w
      exact ⟨p, fun _ => tst_of p rfl⟩
    | _ => simp [chkE] at h
  | _ => simp [chkE] at h
theorem ok_non : SndE .non := by
  intro W G lv P WX X C e h
  cases e with
  | Constant k j pos =>
    cases k with
    | none =>
      have p : PE X (.Constant .none j pos) (Ter W (rV W) WX (wpE G .non)) := pe_imp pe_non fun σ H Q hq => by
        obtain ⟨φ, hd, σd, Qd, Xd, A, w, q, x⟩ := hq
        exact q φ hd H _ _ .refl A.sim .non w
      exact ⟨p, fun _ => tst_of p rfl⟩
    | _ => simp [chkE] at h
  | _ => simp [chkE] at h
theorem ok_glob (n : String) : SndE (.glob n) := by
  intro W G lv P WX X C e h
  cases e with
  | Name y pos =>
    simp only [chkE, Bool.and_eq_true, decide_eq_true_eq] at h
    obtain ⟨⟨rfl, h2⟩, h3⟩ := h
    obtain ⟨o1, o2, _⟩ := okN_inv h3
    have p : PE X (.Name (Str.ofString n) pos) (Ter W (rV W) WX (wpE G (.glob n))) := by
      cases e : G.gl n with
      | none =>
        refine ⟨fun pins s σ H Q I hq => ?_⟩
        obtain ⟨φ, hd, σd, Qd, Xd, A, ⟨d, e1, w⟩, q, x⟩ := hq
        rw [e] at e1; cases e1
      | some d =>
        obtain ⟨u, v, hm, hr, rp⟩ := C.gl n d e
        refine pe_imp (pe_glob (C.gl' h2) hm hr o1) fun σ H Q hq => ?_
        obtain ⟨φ, hd, σd, Qd, Xd, A, ⟨d', e1, w⟩, q, x⟩ := hq
        rw [e] at e1; cases e1
        exact q φ hd H _ _ .refl A.sim (rp W φ H) w
    exact ⟨p, fun _ => tst_of p rfl⟩
  | _ => simp [chkE] at h
theorem ok_bin {m o a b} (ha : SndE a) (hb : SndE b) : SndE (.bin m o a b) := by
  intro W G lv P WX X C e h
  cases e with
  | BinOp a' o' b' pos =>
    simp only [chkE, Bool.and_eq_true] at h
    obtain ⟨⟨h1, h2⟩, h3⟩ := h
    have eo := opB_eq h1
    subst eo
    have p : PE X (.BinOp a' (opOf o) b' pos) (Ter W (rV W) WX (wpE G (.bin m o a b))) := pe_imp (pe_op (bop_ok (W := W) C.K m o) (ha C a' h2).1 (hb C b' h3).1) fun σ H Q hq => by
      obtain ⟨φ, hd, σd, Qd, Xd, A, w, q, x⟩ := hq
      exact Ter.go A x w fun φ1 h1 H1 d v e1 A1 r1 w1 => Ter.go A1 (x.ext e1) w1 fun φ2 h2 H2 d2 v2 e2 A2 r2 w2 => ⟨φ2, h2, d, d2, Qd, A2.sim, r1.ext e2, r2, w2, q.ext (e1.trans e2)⟩
    exact ⟨p, fun _ => tst_of p rfl⟩
  | _ => simp [chkE] at h
theorem ok_neg {a} (ha : SndE a) : SndE (.neg a) := by
  intro W G lv P WX X C e h
  cases e with
  | UnaryOp o' a' pos =>
    cases o' with
    | USub =>
      have h' : chkE P a a' = true := h
      have p : PE X (.UnaryOp .USub a' pos) (Ter W (rV W) WX (wpE G (.neg a))) := pe_imp (pe_un un_neg (ha C a' h').1) fun σ H Q hq => by
        obtain ⟨φ, hd, σd, Qd, Xd, A, w, q, x⟩ := hq
        refine Ter.go A x w fun φ1 h1 H1 d v e1 A1 r1 w1 => ?_
        obtain ⟨i, rfl, w1⟩ := w1
        cases r1
        exact ⟨i, rfl, q φ1 h1 H1 _ _ e1 A1.sim (.int _) w1⟩
      exact ⟨p, fun _ => tst_of p rfl⟩
    | _ => simp [chkE] at h
  | _ => simp [chkE] at h
theorem ok_not {a} (ha : SndE a) : SndE (.not a) := by
  intro W G lv P WX X C e h
  cases e with
  | UnaryOp o' a' pos =>
    cases o' with
    | Not =>
      have h' : chkE P a a' = true := h
      refine ⟨pe_imp (pe_not (ha C a' h').1) fun σ H Q hq => ?_, fun ht => pt_imp (pt_not ((ha C a' h').2 ht)) fun σ H Q hq => ?_⟩
      · obtain ⟨φ, hd, σd, Qd, Xd, A, w, q, x⟩ := hq
        refine Ter.go A x w fun φ1 h1 H1 d v e1 A1 r1 w1 => ?_
        obtain ⟨i, rfl, w1⟩ := w1
        cases r1
        exact ⟨i, rfl, q φ1 h1 H1 _ _ e1 A1.sim (.bl _) w1⟩
      · obtain ⟨φ, hd, σd, Qd, Xd, A, w, q, x⟩ := hq
        refine Ter.go (wa := wpT G a) (Qd1 := fun b h1 => Qd (!b) h1) A x ?_ fun φ1 h1 H1 d v e1 A1 r1 w1 => ?_
        · have w' : wpE G a σd hd (fun x h1 => ∃ b, x = .bl b ∧ (∃ b', D.bl (!b) = .bl b' ∧ Qd b' h1)) Xd := w
          have e : (fun (x : D) (h1 : Hd) => ∃ b, x = .bl b ∧ (∃ b', D.bl (!b) = .bl b' ∧ Qd b' h1)) = fun x h1 => ∃ b, x = .bl b ∧ Qd (!b) h1 := by
            funext x h1
            exact propext ⟨fun ⟨b, e, b', e2, z⟩ => ⟨b, e, by cases e2; exact z⟩, fun ⟨b, e, z⟩ => ⟨b, e, _, rfl, z⟩⟩
          rw [e] at w'
          exact w'
        · cases r1
          exact q φ1 h1 H1 _ _ e1 A1.sim rfl w1
    | _ => simp [chkE] at h
  | _ => simp [chkE] at h
theorem ok_cmp {o a b} (ha : SndE a) (hb : SndE b) : SndE (.cmp o a b) := by
  intro W G lv P WX X C e h
  cases e with
  | Compare a' os bs pos =>
    match os, bs, h with
    | [o'], [b'], h =>
      simp only [chkE, Bool.and_eq_true, Bool.not_eq_true'] at h
      obtain ⟨⟨⟨h1, h2⟩, h3⟩, h4⟩ := h
      have eo := cmB_eq h1
      subst eo
      have ho := cmp_ok (W := W) C.K C.hu o
      refine ⟨pe_imp (pe_cmpR ho (ha C a' h2).1 (hb C b' h3).1 (mark_plain h4)) fun σ H Q hq => ?_, fun _ => pt_imp (pt_cmpR ho (ha C a' h2).1 (hb C b' h3).1 (mark_plain h4)) fun σ H Q hq => ?_⟩
      · obtain ⟨φ, hd, σd, Qd, Xd, A, w, q, x⟩ := hq
        exact Ter.go A x w fun φ1 h1 H1 d v e1 A1 r1 w1 => Ter.go A1 (x.ext e1) w1 fun φ2 h2 H2 d2 v2 e2 A2 r2 w2 => ⟨φ2, h2, d, d2, Qd, A2.sim, r1.ext e2, r2, w2, q.ext (e1.trans e2)⟩
      · obtain ⟨φ, hd, σd, Qd, Xd, A, w, q, x⟩ := hq
        exact Ter.go A x w fun φ1 h1 H1 d v e1 A1 r1 w1 => Ter.go A1 (x.ext e1) w1 fun φ2 h2 H2 d2 v2 e2 A2 r2 w2 => ⟨φ2, h2, d, d2, fun z h' => ∃ b, z = .bl b ∧ Qd b h', A2.sim, r1.ext e2, r2, w2, fun φ3 h3 H3 d3 v3 e3 S3 r3 w3 => by
          obtain ⟨b, rfl, w3⟩ := w3
          cases r3
          exact ⟨b, rfl, q φ3 h3 H3 _ _ (e1.trans (e2.trans e3)) S3 rfl w3⟩⟩
    | [], _, h => simp [chkE] at h
    | [_], [], h => simp [chkE] at h
    | [_], _ :: _ :: _, h => simp [chkE] at h
    | _ :: _ :: _, _, h => simp [chkE] at h
  | _ => simp [chkE] at h
theorem ok_chain {o p a b c} (ha : SndE a) (hb : SndE b) (hc : SndE c) : SndE (.chain o p a b c) := by
  intro W G lv P WX X C e h
  cases e with
  | Compare a' os bs pos =>
    match os, bs, h with
    | [o', p'], [b', c'], h =>
      simp only [chkE, Bool.and_eq_true, Bool.not_eq_true'] at h
      obtain ⟨⟨⟨⟨⟨⟨h1, h2⟩, h3⟩, h4⟩, h5⟩, h6⟩, h7⟩ := h
      have eo := cmB_eq h1
      subst eo
      have ep := cmB_eq h2
      subst ep
      have ho := cmp_ok (W := W) C.K C.hu o
      have hp := cmp_ok (W := W) C.K C.hu p
      refine ⟨pe_imp (pe_chain ho hp (ha C a' h3).1 (hb C b' h4).1 (hc C c' h5).1 (mark_plain (op := cmOf p) h7)) fun σ H Q hq => ?_, fun _ => pt_imp (pt_chain ho hp (ha C a' h3).1 (hb C b' h4).1 (hc C c' h5).1 (mark_plain (op := cmOf p) h7)) fun σ H Q hq => ?_⟩
      · obtain ⟨φ, hd, σd, Qd, Xd, A, w, q, x⟩ := hq
        refine Ter.go A x w fun φ1 h1 H1 d v e1 A1 r1 w1 => Ter.go A1 (x.ext e1) w1 fun φ2 h2 H2 d2 v2 e2 A2 r2 w2 => ?_
        refine ⟨φ2, h2, d, d2, fun z h' => ∃ k, z = .bl k ∧ h' = h2 ∧ (if k = true then wpE G c σd h2 (fun z h3 => cmpW p d2 z h3 fun k' => Qd (.bl k') h3) Xd else Qd (.bl false) h2), A2.sim, r1.ext e2, r2, ?_, fun φ3 h3 H3 d3 v3 e3 S3 r3 w3 => ?_⟩
        · refine cast ?_ w2
          congr 1
          funext k
          exact propext ⟨fun z => ⟨k, rfl, rfl, z⟩, fun ⟨k', e, _, z⟩ => by cases e; exact z⟩
        · obtain ⟨k, rfl, rfl, w3⟩ := w3
          cases r3
          refine ⟨k, rfl, ?_⟩
          cases k with
          | true =>
            rw [if_pos rfl] at w3 ⊢
            exact Ter.go ⟨S3, A2.st.ext e3⟩ (x.ext (e1.trans (e2.trans e3))) w3 fun φ4 h4 H4 d4 v4 e4 A4 r4 w4 => ⟨φ4, h4, d2, d4, Qd, A4.sim, r2.ext (e3.trans e4), r4, w4, q.ext (e1.trans (e2.trans (e3.trans e4)))⟩
          | false =>
            rw [if_neg Bool.false_ne_true] at w3 ⊢
            exact q φ3 h3 H3 _ _ (e1.trans (e2.trans e3)) S3 (.bl _) w3
      · obtain ⟨φ, hd, σd, Qd, Xd, A, w, q, x⟩ := hq
        refine Ter.go A x w fun φ1 h1 H1 d v e1 A1 r1 w1 => Ter.go A1 (x.ext e1) w1 fun φ2 h2 H2 d2 v2 e2 A2 r2 w2 => ?_
        refine ⟨φ2, h2, d, d2, fun z h' => ∃ k, z = .bl k ∧ h' = h2 ∧ (if k = true then wpE G c σd h2 (fun z h3 => cmpW p d2 z h3 fun k' => ∃ b, D.bl k' = .bl b ∧ Qd b h3) Xd else ∃ b, D.bl false = .bl b ∧ Qd b h2), A2.sim, r1.ext e2, r2, ?_, fun φ3 h3 H3 d3 v3 e3 S3 r3 w3 => ?_⟩
        · refine cast ?_ w2
          congr 1
          funext k
          exact propext ⟨fun z => ⟨k, rfl, rfl, z⟩, fun ⟨k', e, _, z⟩ => by cases e; exact z⟩
        · obtain ⟨k, rfl, rfl, w3⟩ := w3
          cases r3
          refine ⟨k, rfl, ?_⟩
          cases k with
          | true =>
            rw [if_pos rfl] at w3 ⊢
            refine Ter.go ⟨S3, A2.st.ext e3⟩ (x.ext (e1.trans (e2.trans e3))) w3 fun φ4 h4 H4 d4 v4 e4 A4 r4 w4 => ⟨φ4, h4, d2, d4, fun z h' => ∃ b, z = .bl b ∧ Qd b h', A4.sim, r2.ext (e3.trans e4), r4, w4, fun φ5 h5 H5 d5 v5 e5 S5 r5 w5 => ?_⟩
            obtain ⟨b, rfl, w5⟩ := w5
            cases r5
            exact ⟨b, rfl, q φ5 h5 H5 _ _ (e1.trans (e2.trans (e3.trans (e4.trans e5)))) S5 rfl w5⟩
          | false =>
            rw [if_neg Bool.false_ne_true] at w3 ⊢
            obtain ⟨b, e, w3⟩ := w3
            cases e
            exact ⟨false, rfl, q φ3 h3 H3 _ _ (e1.trans (e2.trans e3)) S3 rfl w3⟩
    | [], _, h => simp [chkE] at h
    | [_], _, h => simp [chkE] at h
    | [_, _], [], h => simp [chkE] at h
    | [_, _], [_], h => simp [chkE] at h
    | [_, _], _ :: _ :: _ :: _, h => simp [chkE] at h
    | _ :: _ :: _ :: _, _, h => simp [chkE] at h
  | _ => simp [chkE] at h
end
end Vd

set_option Elab.async false
set_option linter.all false
set_option maxRecDepth 100000
set_option maxHeartbeats 4000000
namespace Vd
open PySem PySem.Spec PyProof.Rows L2
section
variable {W : Wd} {φ l : List Addr} {H H' : Hp}
mutual
theorem Rep.bd : ∀ {d v}, Rep W φ H d v → Bd φ.length d
  | _, _, .non => .non
  | _, _, .bl b => .bl b
  | _, _, .int i => .int i
  | _, _, .str x => .str x
  | _, _, .tup h n r => .tup (Reps.bd r)
  | _, _, .vl h n r => .vl (Reps.bd r)
  | _, _, .sv h r => .sv (Reps.bd r)
  | _, _, .vi h n c m r l => .vi (Reps.bd r)
  | _, _, .ref h => .ref (List.getElem?_eq_some_iff.mp h).1
theorem Reps.bd : ∀ {ds vs}, Reps W φ H ds vs → Bds φ.length ds
  | _, _, .nil => .nil
  | _, _, .cons a b => .cons (Rep.bd a) (Reps.bd b)
end
/-- fewer objects are known -/
theorem Off.sub {φ' : List Addr} {a : Addr} (hs : ∀ p ∈ φ', p ∈ φ) (n : Off W φ a) : Off W φ' a := ⟨fun z => n.1 (hs a z), n.2⟩
mutual
theorem Rep.sub {φ' : List Addr} (hs : ∀ p ∈ φ', p ∈ φ) (m : Nat) (hi : ∀ i, i < m → φ'[i]? = φ[i]?) : ∀ {d v}, Rep W φ H d v → Bd m d → Rep W φ' H d v
  | _, _, .non, _ => .non
  | _, _, .bl b, _ => .bl b
  | _, _, .int i, _ => .int i
  | _, _, .str x, _ => .str x
  | _, _, .tup h n r, .tup b => .tup h (n.sub hs) (Reps.sub hs m hi r b)
  | _, _, .vl h n r, .vl b => .vl h (n.sub hs) (Reps.sub hs m hi r b)
  | _, _, .sv h r, .sv b => .sv (by
      rcases h with ⟨h, n⟩ | h
      · exact .inl ⟨h, n.sub hs⟩
      · exact .inr h) (Reps.sub hs m hi r b)
  | _, _, .vi h n c m' r l, .vi b => .vi h (n.sub hs) c m' (Reps.sub hs m hi r b) l
  | _, _, .ref h, .ref b => .ref (by rw [hi _ b]; exact h)
theorem Reps.sub {φ' : List Addr} (hs : ∀ p ∈ φ', p ∈ φ) (m : Nat) (hi : ∀ i, i < m → φ'[i]? = φ[i]?) : ∀ {ds vs}, Reps W φ H ds vs → Bds m ds → Reps W φ' H ds vs
  | _, _, .nil, _ => .nil
  | _, _, .cons a b, .cons p q => .cons (Rep.sub hs m hi a p) (Reps.sub hs m hi b q)
end
theorem take_sub (φ : List Addr) (n : Nat) : (∀ p ∈ φ.take n, p ∈ φ) ∧ ∀ i, i < n → (φ.take n)[i]? = φ[i]? :=
  ⟨fun p h => List.mem_of_mem_take h, fun i h => by rw [List.getElem?_take_of_lt h]⟩
/-- frozen -/
theorem Off.take {hd : Hd} (S : Sim W φ hd H) {n r : Nat} {a : Addr} (hn : n ≤ r) (h : φ[r]? = some a) : Off W (φ.take n) a := by
  refine ⟨fun hm => ?_, fun hm => S.fbn a hm (List.mem_of_getElem? h)⟩
  obtain ⟨i, hi, e⟩ := List.getElem_of_mem hm
  obtain ⟨hr, er⟩ := List.getElem?_eq_some_iff.mp h
  have hi' : i < φ.length := by simp at hi; omega
  have e2 : φ[i] = φ[r] := by
    rw [List.getElem_take] at e
    rw [e, er]
  have := (List.getElem_inj S.nd).mp e2
  simp at hi
  omega
mutual
theorem Rep.fz {hd : Hd} {n : Nat} (S : Sim W φ hd H) : ∀ {d d' v}, Fz n hd d d' → Rep W φ H d v → Rep W (φ.take n) H d' v
  | _, _, _, .non, .non => .non
  | _, _, _, .bl _, .bl b => .bl b
  | _, _, _, .int _, .int b => .int b
  | _, _, _, .str _, .str b => .str b
  | _, _, _, .tup f, .tup h o r => .tup h (o.sub (take_sub φ n).1) (Reps.fz S f r)
  | _, _, _, .vl f, .vl h o r => .vl h (o.sub (take_sub φ n).1) (Reps.fz S f r)
  | _, _, _, .vi f, .vi h o c m r l => .vi h (o.sub (take_sub φ n).1) c m (Reps.fz S f r) l
  | _, _, _, .sv f, .sv h r => .sv (by
      rcases h with ⟨h, o⟩ | h
      · exact .inl ⟨h, o.sub (take_sub φ n).1⟩
      · exact .inr h) (Reps.fz S f r)
  | _, _, _, .old hr, .ref h => .ref (by rw [List.getElem?_take_of_lt hr]; exact h)
  | _, _, _, .lst (xs := xs) hr e f, .ref h => by
      obtain ⟨a, ha, vs, h1, h2⟩ := S.obj _ _ e
      rw [h] at ha; cases ha
      exact .vl h1 (Off.take S hr h) (Reps.fz S f h2)
  | _, _, _, .ins hr e f, .ref h => by
      obtain ⟨a, ha, C, dx, vs, h1, h2, h3, h4⟩ := S.obj _ _ e
      rw [h] at ha; cases ha
      exact .vi h1 (Off.take S hr h) h2 rfl (Reps.fz S f h3) h4
theorem Reps.fz {hd : Hd} {n : Nat} (S : Sim W φ hd H) : ∀ {ds ds' vs}, Fzs n hd ds ds' → Reps W φ H ds vs → Reps W (φ.take n) H ds' vs
  | _, _, _, .nil, .nil => .nil
  | _, _, _, .cons f g, .cons a b => .cons (Rep.fz S f a) (Reps.fz S g b)
end
theorem Sim.take {hd : Hd} {n : Nat} (S : Sim W φ hd H) (hb : ∀ o ∈ hd.take n, BdO n o) (hn : n ≤ hd.length) : Sim W (φ.take n) (hd.take n) H := by
  have hl : n ≤ φ.length := by rw [S.len]; exact hn
  refine ⟨by simp [S.len], S.nd.sublist (List.take_sublist _ _), S.fbt, fun a h z => S.fbn a h ((take_sub φ n).1 a z), fun m o h => ?_⟩
  have hm : m < n := by
    have := (List.getElem?_eq_some_iff.mp h).1
    simp at this; omega
  rw [List.getElem?_take_of_lt hm] at h
  obtain ⟨a, ha, r⟩ := S.obj m o h
  refine ⟨a, by rw [List.getElem?_take_of_lt hm]; exact ha, ?_⟩
  have hbo := hb o (List.mem_of_getElem? (show (hd.take n)[m]? = some o by rw [List.getElem?_take_of_lt hm]; exact h))
  have hlen : n ≤ (φ.take n).length := by simp; omega
  cases o with
  | lst xs => obtain ⟨vs, q1, q2⟩ := r; exact ⟨vs, q1, q2.sub (take_sub φ n).1 n (take_sub φ n).2 hbo⟩
  | ins c ns xs => obtain ⟨C, dx, vs, q1, q2, q3, q4⟩ := r; exact ⟨C, dx, vs, q1, q2, q3.sub (take_sub φ n).1 n (take_sub φ n).2 hbo, q4⟩
  | dk z kvs => obtain ⟨vs, q1, q2⟩ := r; exact ⟨vs, q1, q2.sub (take_sub φ n).1 n (take_sub φ n).2 hbo⟩
  | dt z kvs => obtain ⟨vs, q1, q2⟩ := r; exact ⟨vs, q1, q2.sub (take_sub φ n).1 n (take_sub φ n).2 hbo⟩
theorem Sim.bdo {hd : Hd} (S : Sim W φ hd H) : ∀ o ∈ hd, BdO hd.length o := by
  intro o ho
  obtain ⟨m, hm, e⟩ := List.getElem_of_mem ho
  obtain ⟨a, ha, r⟩ := S.obj m o (by rw [List.getElem?_eq_getElem hm, e])
  rw [← S.len]
  cases o with
  | lst xs => obtain ⟨vs, q1, q2⟩ := r; exact q2.bd
  | ins c ns xs => obtain ⟨C, dx, vs, q1, q2, q3, q4⟩ := r; exact q3.bd
  | dk z kvs => obtain ⟨vs, q1, q2⟩ := r; exact q2.bd
  | dt z kvs => obtain ⟨vs, q1, q2⟩ := r; exact q2.bd
/-- what holds behind a call -/
theorem Exit.ok {hd h' : Hd} {φ' : List Addr} {v : D} {vv : V} {Qd : DK} {Q : VK} (S0 : Sim W φ hd H) (e : Ext φ φ' H H') (S : Sim W φ' h' H') (r : Rep W φ' H' v vv) (x : Exit hd v h' Qd) (q : GOk W (rV W) φ H Qd Q) : Q vv H' := by
  obtain ⟨l, el, hl⟩ := e.pre
  have ht : φ'.take hd.length = φ := by rw [el, ← S0.len]; simp
  have pre : hd <+: h' → h'.take hd.length = hd := fun ⟨t, et⟩ => by rw [← et]; simp
  have e0 : Ext φ φ H H' := ⟨⟨[], by simp, by simp⟩, e.keep, e.there, e.frz⟩
  cases x with
  | raw w => exact q φ' h' H' v vv e S r w
  | pure f p w =>
    have hle : hd.length ≤ h'.length := p.length_le
    have S2 := S.take (n := hd.length) (by rw [pre p]; exact S0.bdo) hle
    rw [ht, pre p] at S2
    have r2 := Rep.fz S f r
    rw [ht] at r2
    exact q φ hd H' _ vv e0 S2 r2 w
  | keep f b w =>
    have hle : hd.length ≤ h'.length := by
      rw [← S0.len, ← S.len, el]; simp
    have S2 := S.take (n := hd.length) b hle
    rw [ht] at S2
    have r2 := Rep.fz S f r
    rw [ht] at r2
    exact q φ _ H' _ vv e0 S2 r2 w
  | @fresh r' xs ev hr ex b p w =>
    subst ev
    cases r with
    | @ref _ a ha =>
    obtain ⟨a', ha', vs, h1, h2⟩ := S.obj _ _ ex
    rw [ha] at ha'; cases ha'
    have hle : hd.length ≤ h'.length := p.length_le
    have hsub : ∀ p ∈ φ ++ [a], p ∈ φ' := fun p hp => by
      rcases List.mem_append.mp hp with z | z
      · rw [el]; exact List.mem_append_left _ z
      · have : p = a := by simpa using z
        rw [this]; exact List.mem_of_getElem? ha
    have hanφ : a ∉ φ := fun z => by
      have o := Off.take S hr ha
      rw [ht] at o
      exact o.1 z
    have old : ∀ m, m < φ.length → (φ ++ [a])[m]? = φ'[m]? := fun m hm => by
      rw [List.getElem?_append_left hm, el, List.getElem?_append_left hm]
    have rsub : ∀ {xs vs}, Bds hd.length xs → Reps W φ' H' xs vs → Reps W (φ ++ [a]) H' xs vs := fun {xs vs} hb rr => rr.sub hsub hd.length (fun i hi => old i (by rw [S0.len]; exact hi)) hb
    have han : H a = none := by
      have : a ∈ φ ++ l := by rw [← el]; exact List.mem_of_getElem? ha
      rcases List.mem_append.mp this with z | z
      · exact absurd z hanφ
      · exact hl a z
    have e1 : Ext φ (φ ++ [a]) H H' := ⟨⟨[a], rfl, by simpa using han⟩, e.keep, e.there, e.frz⟩
    have S1 : Sim W (φ ++ [a]) (hd ++ [.lst xs]) H' := by
      refine ⟨by simp [S0.len], ?_, S.fbt, fun c h z => S.fbn c h (hsub c z), fun m o h => ?_⟩
      · rw [List.nodup_append]
        refine ⟨S0.nd, by simp, fun c hc d hd' z => ?_⟩
        have : d = a := by simpa using hd'
        exact hanφ (by rw [← this, ← z]; exact hc)
      · by_cases hm : m < hd.length
        · rw [List.getElem?_append_left hm] at h
          have h2 : h'[m]? = some o := by
            obtain ⟨t, et⟩ := p
            rw [← et, List.getElem?_append_left hm]; exact h
          obtain ⟨c, hc, rr⟩ := S.obj m o h2
          have hb := S0.bdo o (List.mem_of_getElem? h)
          refine ⟨c, by rw [old m (by rw [S0.len]; exact hm)]; exact hc, ?_⟩
          cases o with
          | lst ys => obtain ⟨us, q1, q2⟩ := rr; exact ⟨us, q1, rsub hb q2⟩
          | ins cc ns ys => obtain ⟨C, dx, us, q1, q2, q3, q4⟩ := rr; exact ⟨C, dx, us, q1, q2, rsub hb q3, q4⟩
          | dk z kvs => obtain ⟨us, q1, q2⟩ := rr; exact ⟨us, q1, rsub hb q2⟩
          | dt z kvs => obtain ⟨us, q1, q2⟩ := rr; exact ⟨us, q1, rsub hb q2⟩
        · have em : m = hd.length := by
            have := (List.getElem?_eq_some_iff.mp h).1
            simp at this; omega
          subst em
          simp at h
          subst h
          exact ⟨a, by rw [← S0.len]; simp, vs, h1, rsub b h2⟩
    exact q (φ ++ [a]) _ H' _ _ e1 S1 (.ref (by rw [← S0.len]; simp)) w
end

end Vd

set_option Elab.async false
set_option linter.all false
set_option maxRecDepth 100000
set_option maxHeartbeats 2000000
namespace Vd
open PySem PySem.Spec PyProof.Rows L2
section
variable {W : Wd} {G : Gam} {lv : Nat} {P : Pl} {WX : L2.WX} {X : Cx}
theorem ok_ife {c a b} (hc : SndE c) (ha : SndE a) (hb : SndE b) : SndE (.ife c a b) := by
  intro W G lv P WX X C e h
  cases e with
  | IfExp c' a' b' pos =>
    simp only [chkE, Bool.and_eq_true] at h
    obtain ⟨⟨⟨h1, h2⟩, h3⟩, h4⟩ := h
    refine ⟨pe_imp (pe_ifExp ((hc C c' h1).2 h2) (ha C a' h3).1 (hb C b' h4).1) fun σ H Q hq => ?_, fun ht => by simp [tstB] at ht⟩
    obtain ⟨φ, hd, σd, Qd, Xd, A, w, q, x⟩ := hq
    refine Ter.go (wa := wpT G c) (Qd1 := fun k h1 => if k = true then wpE G a σd h1 Qd Xd else wpE G b σd h1 Qd Xd) A x w fun φ1 h1 H1 d v e1 A1 r1 w1 => ?_
    cases r1
    cases d with
    | true =>
      rw [if_pos rfl] at w1 ⊢
      exact Ter.go A1 (x.ext e1) w1 fun φ2 h2 H2 d2 v2 e2 A2 r2 w2 => q φ2 h2 H2 _ _ (e1.trans e2) A2.sim r2 w2
    | false =>
      rw [if_neg Bool.false_ne_true] at w1 ⊢
      exact Ter.go A1 (x.ext e1) w1 fun φ2 h2 H2 d2 v2 e2 A2 r2 w2 => q φ2 h2 H2 _ _ (e1.trans e2) A2.sim r2 w2
  | _ => simp [chkE] at h
theorem nostar {es : Es} {vs : List Expr} (h : chkEs P es vs = true) : vs.all (fun e => !starB e) = true := by
  have one : ∀ (c : E) (e : Expr), chkE P c e = true → starB e = false := fun c e h => by
    cases e <;> first | rfl | (cases c <;> simp [chkE] at h)
  induction vs generalizing es with
  | nil => rfl
  | cons v vs ih =>
    cases es with
    | nil => simp [chkEs] at h
    | cons e r =>
      simp only [chkEs, Bool.and_eq_true] at h
      rw [List.all_cons, one e v h.1, ih h.2]; rfl
theorem ok_tup {es} (hs : SndEs es) : SndE (.tup es) := by
  intro W G lv P WX X C e h
  cases e with
  | Tuple vs k pos =>
    have h' : chkEs P es vs = true := h
    have p : PE X (.Tuple vs k pos) (Ter W (rV W) WX (wpE G (.tup es))) := pe_imp (pe_tup ((hs C vs h').1 (nostar h'))) fun σ H Q hq => by
      obtain ⟨φ, hd, σd, Qd, Xd, A, w, q, x⟩ := hq
      refine Ter.go A x w fun φ1 h1 H1 d v e1 A1 r1 w1 => ⟨by rw [← r1.len]; exact w1.1, mkT_ok A1.sim r1 (q.ext e1) w1.2⟩
    exact ⟨p, fun _ => tst_of p rfl⟩
  | _ => simp [chkE] at h
theorem ok_lst {m es} (hs : SndEs es) : SndE (.lst m es) := by
  intro W G lv P WX X C e h
  cases e with
  | List vs pos =>
    have h' : chkEs P es vs = true := h
    have p : PE X (.List vs pos) (Ter W (rV W) WX (wpE G (.lst m es))) := pe_imp (pe_lst ((hs C vs h').1 (nostar h'))) fun σ H Q hq => by
      obtain ⟨φ, hd, σd, Qd, Xd, A, w, q, x⟩ := hq
      exact Ter.go A x w fun φ1 h1 H1 d v e1 A1 r1 w1 => mkL_ok A1.sim r1 (q.ext e1) w1
    exact ⟨p, fun _ => tst_of p rfl⟩
  | _ => simp [chkE] at h
theorem ok_idx {a i} (ha : SndE a) (hi : SndE i) : SndE (.idx a i) := by
  intro W G lv P WX X C e h
  cases e with
  | Subscript a' i' pos =>
    simp only [chkE, Bool.and_eq_true, Bool.not_eq_true'] at h
    obtain ⟨⟨h1, h2⟩, h3⟩ := h
    have p : PE X (.Subscript a' i' pos) (Ter W (rV W) WX (wpE G (.idx a i))) := pe_imp (pe_ix (ix_ok (W := W) C.K) (ha C a' h2).1 (hi C i' h3).1 (ix_plain h1)) fun σ H Q hq => by
      obtain ⟨φ, hd, σd, Qd, Xd, A, w, q, x⟩ := hq
      exact Ter.go A x w fun φ1 h1 H1 d v e1 A1 r1 w1 => Ter.go A1 (x.ext e1) w1 fun φ2 h2 H2 d2 v2 e2 A2 r2 w2 => ⟨φ2, h2, d, d2, Qd, A2.sim, r1.ext e2, r2, w2, q.ext (e1.trans e2)⟩
    exact ⟨p, fun _ => tst_of p rfl⟩
  | _ => simp [chkE] at h
theorem ok_slc {m a lo hi} (ha : SndE a) (hl : SndO lo) (hh : SndO hi) : SndE (.slc m a lo hi) := by
  intro W G lv P WX X C e h
  cases e with
  | Subscript a' i' pos =>
    cases i' with
    | Slice lo' hi' st p2 =>
      cases st with
      | some _ => simp [chkE] at h
      | none =>
        simp only [chkE, Bool.and_eq_true, Bool.not_eq_true'] at h
        obtain ⟨⟨h1, h2⟩, h3⟩ := h
        have p : PE X (.Subscript a' (.Slice lo' hi' none p2) pos) (Ter W (rV W) WX (wpE G (.slc m a lo hi))) := pe_imp (pe_slice (sl_ok (W := W) C.K m) (ha C a' h1).1 ((hl C).1 lo' h2) ((hh C).1 hi' h3)) fun σ H Q hq => by
          obtain ⟨φ, hd, σd, Qd, Xd, A, w, q, x⟩ := hq
          refine Ter.go A x w fun φ1 h1 H1 d v e1 A1 r1 w1 => Ter.go A1 (x.ext e1) w1 fun φ2 h2 H2 d2 v2 e2 A2 r2 w2 => ?_
          cases r2
          refine Ter.go A2 (x.ext (e1.trans e2)) w2 fun φ3 h3 H3 d3 v3 e3 A3 r3 w3 => ?_
          cases r3
          exact ⟨φ3, h3, d, Qd, A3.sim, r1.ext (e2.trans e3), w3, q.ext (e1.trans (e2.trans e3))⟩
        exact ⟨p, fun _ => tst_of p rfl⟩
    | _ => simp [chkE] at h
  | _ => simp [chkE] at h
/-- xs[lo::c] -/
theorem vals_fm {xs : List V} {its : List Value} (r : Vals xs its) : ∀ ks : List Nat, Vals (ks.filterMap (xs[·]?)) (ks.filterMap (its[·]?))
  | [] => .nil
  | k :: ks => by
    have hl := r.length
    cases hx : xs[k]? with
    | none =>
      have hk : its[k]? = none := by
        rw [List.getElem?_eq_none_iff] at hx ⊢
        omega
      simp only [List.filterMap_cons, hx, hk]
      exact vals_fm r ks
    | some x =>
      obtain ⟨u, hu, ru⟩ := r.get hx
      simp only [List.filterMap_cons, hx, hu]
      exact .cons ru (vals_fm r ks)
theorem reps_fm {W : Wd} {φ : List Addr} {H : Hp} {xs : List D} {vs : List V} (r : Reps W φ H xs vs) : ∀ ks : List Nat, Reps W φ H (ks.filterMap (xs[·]?)) (ks.filterMap (vs[·]?))
  | [] => .nil
  | k :: ks => by
    have hl := r.len
    cases hx : xs[k]? with
    | none =>
      have hk : vs[k]? = none := by
        rw [List.getElem?_eq_none_iff] at hx ⊢
        omega
      simp only [List.filterMap_cons, hx, hk]
      exact reps_fm r ks
    | some x =>
      obtain ⟨u, hu, ru⟩ := r.get hx
      simp only [List.filterMap_cons, hx, hu]
      exact .cons ru (reps_fm r ks)
noncomputable def tStpL (K : PySem.W.Frag) (lo c : Nat) (te : TE) : TE := fun σ H Q => te σ H fun x H1 => ∃ a xs, x = .ref a ∧ SqL K H1 a xs ∧ (stpL xs lo c).length ≤ sizeLine ∧ ∀ p, H1 p = none → Q (.ref p) (upd H1 p (.lst (stpL xs lo c)))
theorem pe_stpL {X : Cx} {e : Expr} {lo' : Option Expr} {te : TE} {tlo : TO} {k lo c : Nat} {l : Option Int} {p1 p3 pos : Pos} (he : PE X e te) (hlo : PO X lo' tlo) (ht : ∀ σ H, tlo σ H fun o H2 => o = l ∧ H2 = H) (hc : 0 < c) (hl : l.getD 0 = (lo : Int)) : PE X (.Subscript e (.Slice lo' none (some (.Constant (.int (c : Int)) k p1)) p3) pos) (tStpL X.K lo c te) := by
  refine ⟨fun pins s σ H Q I h => ?_⟩
  refine Subscript_ (thn (he.run pins s σ H _ I h) fun v s1 ⟨x, H1, I1, r1, q1⟩ => ?_)
  obtain ⟨a, xs, ex, hx, hsz, q⟩ := q1
  subst ex
  cases r1
  have hst : PO X (some (.Constant (.int (c : Int)) k p1)) (tPart (tC (.int (c : Int)))) := po_some pe_int
  refine wpAny_Slice (thn (hlo.run pins s1 σ H1 (fun o H2 => o = l ∧ H2 = H1) I1 (ht σ H1)) fun vl s2 ⟨l', H2, I2, pl, el, e2⟩ => ?_)
  subst el e2
  refine thn (po_none.run pins s2 σ H2 (fun o H3 => o = none ∧ H3 = H2) I2 ⟨rfl, rfl⟩) fun vu s3 ⟨u, H3, I3, pu, eu, e3⟩ => ?_
  subst eu e3
  refine thn (hst.run pins s3 σ H3 (fun o H4 => o = some (c : Int) ∧ H4 = H3) I3 ⟨_, rfl, rfl, rfl⟩) fun vs s4 ⟨o, H4, I4, ps, eo, e4⟩ => ?_
  subst eo e4
  have I5 : Inv X pins σ H4 { s4 with heap := s4.heap.push { cls := .type "slice", data := .fields #[vl, vu, vs] } } := I4.kept (t' := s4.toks) fun b ob q => Heap.get?_push_of_some _ q
  obtain ⟨its, r, ht, hz⟩ := I5.list hx
  have hlen := r.length
  show wpAny (model X.prog X.w) X.A (subscriptTail e (.Slice lo' none (some (.Constant (.int (c : Int)) k p1)) p3) (.ref a) (.ref s4.heap.objs.size)) (EP X pins σ Q) X.xe { s4 with heap := s4.heap.push { cls := .type "slice", data := .fields #[vl, vu, vs] } }
  refine tail_any (ops := [.ref a, .ref s4.heap.objs.size]) ht.isList.typeIs (PySem.slot_list_getitem.lookup) ?_ (by with_unfolding_all rfl)
  refine wpAny_getItem_list_slice ht.isList (Heap.IsSliceOf.new _ vl vu vs) pl pu ps (by simp; omega) ?_ (by rw [List.size_toArray]; omega)
  have hp : slicePick its.toArray l' none (some (c : Int)) = (stpL its lo c).toArray := by
    unfold slicePick stpL
    have hb : sliceBounds l' none (some (c : Int)) its.toArray.size = (max 0 (min (lo : Int) its.length), (its.length : Int), (c : Int)) := by
      have hc' : (c : Int) > 0 := by omega
      cases l' with
      | none =>
        have : (lo : Int) = 0 := by simpa using hl.symm
        simp [sliceBounds, hc', this]
        omega
      | some i =>
        have : i = (lo : Int) := by simpa using hl
        subst this
        have : ¬ ((lo : Int) < 0) := by omega
        have hc0 : c ≠ 0 := by omega
        simp [sliceBounds, this, hc0]
    have hf : (fun i : Nat => its.toArray[i]?) = fun i : Nat => its[i]? := by funext i; simp
    rw [hb]
    show ((sliceRange _ _ _).filterMap (fun i : Nat => its.toArray[i]?)).toArray = _
    rw [hf]
  rw [hp]
  have hvr : Vals (stpL xs lo c) (stpL its lo c) := by
    unfold stpL
    rw [hlen]
    exact vals_fm r _
  refine ⟨.ref _, _, I5.laid (t' := s4.toks) (o := .lst (stpL xs lo c)) (fun b ob q => Heap.get?_push_of_some _ q) (Nat.le_refl _) ?_, rfl, q _ (I5.hok.fresh (Nat.le_refl _))⟩
  exact ⟨hsz, _, 0, hvr, Heap.get?_push_size _ rfl⟩
theorem ok_stp {a lo c} (ha : SndE a) : SndE (.stp a lo c) := by
  intro W G lv P WX X C e h
  cases e with
  | Subscript a' i' pos =>
    cases i' with
    | Slice lo' hi' st p2 =>
      cases hi' with
      | some _ => simp [chkE] at h
      | none =>
      cases st with
      | none => simp [chkE] at h
      | some st =>
      cases st with
      | Constant cv j p3 =>
        cases cv with
        | int c' =>
          simp only [chkE, Bool.and_eq_true, decide_eq_true_eq] at h
          obtain ⟨⟨⟨h1, h2⟩, h3⟩, h4⟩ := h
          subst h2
          have fin : ∀ {tlo : TO} {l : Option Int}, PO X lo' tlo → (∀ σ H, tlo σ H fun o H2 => o = l ∧ H2 = H) → l.getD 0 = (lo : Int) → PE X (.Subscript a' (.Slice lo' none (some (.Constant (.int (c : Int)) j p3)) p2) pos) (Ter W (rV W) WX (wpE G (.stp a lo c))) := fun hlo ht hl => pe_imp (pe_stpL (ha C a' h1).1 hlo ht h3 hl) fun σ H Q hq => by
            obtain ⟨φ, hd, σd, Qd, Xd, A, w, q, x⟩ := hq
            refine Ter.go A x w fun φ1 h1 H1 d v e1 A1 r1 w1 => ?_
            obtain ⟨xs, e2, w1⟩ := w1
            obtain ⟨p, vs, rfl, hq, rs⟩ := rdL_ok A1.sim r1 e2
            have hr : Reps W φ1 H1 (stpL xs lo c) (stpL vs lo c) := by
              unfold stpL
              rw [rs.len]
              exact reps_fm rs _
            have z := mkL_ok A1.sim hr (q.ext e1) w1
            exact ⟨p, vs, rfl, by rw [C.K]; exact hq, z.1, z.2⟩
          have p : PE X (.Subscript a' (.Slice lo' none (some (.Constant (.int (c : Int)) j p3)) p2) pos) (Ter W (rV W) WX (wpE G (.stp a lo c))) := by
            split at h4
            · exact fin po_none (l := none) (fun σ H => ⟨rfl, rfl⟩) (by have := of_decide_eq_true h4; show (0 : Int) = lo; omega)
            · rename_i l _ _
              exact fin (po_some pe_int) (l := some l) (fun σ H => ⟨_, rfl, rfl, rfl⟩) (of_decide_eq_true h4)
            · cases h4
          exact ⟨p, fun _ => tst_of p rfl⟩
        | _ => simp [chkE] at h
      | _ => simp [chkE] at h
    | _ => simp [chkE] at h
  | _ => simp [chkE] at h
theorem ok_call {f es} (hs : SndEs es) : SndE (.call f es) := by
  intro W G lv P WX X C e h
  cases e with
  | Call fn args kws pos =>
    match fn, args, kws, h with
    | .Name x p, v :: vs, [], h =>
      simp only [chkE, Bool.and_eq_true, decide_eq_true_eq] at h
      obtain ⟨⟨⟨⟨⟨hc, rfl⟩, h2⟩, h3⟩, h4⟩, h5⟩ := h
      have pr : PE X (.Call (.Name (Str.ofString f) p) (v :: vs) [] pos) (Ter W (rV W) WX (wpE G (.call f es))) := by
        cases ef : G.isFn f with
        | false =>
          refine ⟨fun pins s σ H Q I hq => ?_⟩
          obtain ⟨φ, hd, σd, Qd, Xd, A, ⟨w, _⟩, q, x⟩ := hq
          rw [ef] at w; cases w
        | true =>
          obtain ⟨fa, fd, ps, hm, hk, hb, F⟩ := C.fns hc f ef
          have h4' : starB v = false ∧ vs.all (fun e => !starB e) = true := by
            rw [List.all_cons, Bool.and_eq_true] at h4
            exact ⟨by simpa using h4.1, h4.2⟩
          refine pe_imp (pe_callS F (C.room hc) (C.gl' h2) hm hk hb (fun σ => passAt C.tk σ) ((hs C (v :: vs) h5).1 h4) (okN_inv h3).1 (star_cons h4'.1) (star_any h4'.2)) fun σ H Q hq => ?_
          obtain ⟨φ, hd, σd, Qd, Xd, A, ⟨_, w⟩, q, x⟩ := hq
          exact Ter.go A x w fun φ1 h1 H1 d v e1 A1 r1 w1 => ⟨W.fb, φ1, h1, d, Qd, Xd, A1.sim, r1, w1, q.ext e1, x.ext e1⟩
      exact ⟨pr, fun _ => tst_of pr rfl⟩
    | .Name x p, [], _, h => simp [chkE] at h
    | .Name x p, _ :: _, _ :: _, h => simp [chkE] at h
    | .BoolOp .., _, _, h => simp [chkE] at h
    | .NamedExpr .., _, _, h => simp [chkE] at h
    | .BinOp .., _, _, h => simp [chkE] at h
    | .UnaryOp .., _, _, h => simp [chkE] at h
    | .Lambda .., _, _, h => simp [chkE] at h
    | .IfExp .., _, _, h => simp [chkE] at h
    | .Dict .., _, _, h => simp [chkE] at h
    | .Set .., _, _, h => simp [chkE] at h
    | .ListComp .., _, _, h => simp [chkE] at h
    | .SetComp .., _, _, h => simp [chkE] at h
    | .DictComp .., _, _, h => simp [chkE] at h
    | .GeneratorExp .., _, _, h => simp [chkE] at h
    | .Await .., _, _, h => simp [chkE] at h
    | .Yield .., _, _, h => simp [chkE] at h
    | .YieldFrom .., _, _, h => simp [chkE] at h
    | .Compare .., _, _, h => simp [chkE] at h
    | .Call .., _, _, h => simp [chkE] at h
    | .FormattedValue .., _, _, h => simp [chkE] at h
    | .JoinedStr .., _, _, h => simp [chkE] at h
    | .Constant .., _, _, h => simp [chkE] at h
    | .Attribute .., _, _, h => simp [chkE] at h
    | .Subscript .., _, _, h => simp [chkE] at h
    | .Starred .., _, _, h => simp [chkE] at h
    | .List .., _, _, h => simp [chkE] at h
    | .Tuple .., _, _, h => simp [chkE] at h
    | .Slice .., _, _, h => simp [chkE] at h
  | _ => simp [chkE] at h
end
end Vd

set_option Elab.async false
set_option linter.all false
set_option maxRecDepth 100000
set_option maxHeartbeats 2000000
namespace Vd
open PySem PySem.Spec PyProof.Rows L2
theorem ofString_inj {a b : String} (h : Str.ofString a = Str.ofString b) : a = b := by
  rw [Str.ofString_eq_toList, Str.ofString_eq_toList] at h
  injection h with h
  have h2 : a.toList.map Char.toNat = b.toList.map Char.toNat := by simpa using h
  have inj : ∀ {x y : Char}, x.toNat = y.toNat → x = y := fun {x y} e => Char.ext (UInt32.toNat_inj.mp e)
  have h3 : a.toList = b.toList := by
    generalize a.toList = as at h2
    generalize b.toList = bs at h2
    induction as generalizing bs with
    | nil => cases bs with
      | nil => rfl
      | cons => simp at h2
    | cons x xs ih => cases bs with
      | nil => simp at h2
      | cons y ys =>
        simp only [List.map_cons, List.cons.injEq] at h2
        rw [inj h2.1, ih ys h2.2]
  exact String.toList_inj.mp h3
section
variable {W : Wd} {G : Gam} {lv : Nat} {P : Pl} {WX : L2.WX} {X : Cx} {φ : List Addr} {hd : Hd} {H : Hp}
theorem flook_rep {ns xs vs f d} (r : Reps W φ H xs vs) (l : ns.length = vs.length) (h : flook ns xs f = some d) : ∃ v, ((ns.map Str.ofString).zip vs).lookup (Str.ofString f) = some v ∧ Rep W φ H d v := by
  induction ns generalizing xs vs with
  | nil => simp [flook] at h
  | cons n ns ih =>
    cases r with
    | nil => simp at l
    | @cons x v xs vs a b =>
      simp only [flook] at h
      show ∃ w, List.lookup (Str.ofString f) ((Str.ofString n, v) :: (ns.map Str.ofString).zip vs) = some w ∧ _
      by_cases e : n = f
      · subst e
        rw [if_pos rfl] at h
        cases h
        exact ⟨v, by simp [List.lookup_cons], a⟩
      · rw [if_neg e] at h
        have ne : (Str.ofString f == Str.ofString n) = false := by
          rw [beq_eq_false_iff_ne]
          exact fun z => e (ofString_inj z).symm
        rw [List.lookup_cons, ne]
        exact ih b (by simpa using l) h
theorem fld_inv {a : E} {f : String} {e : Expr} (h : chkE P (.fld a f) e = true) : ∃ a' g pos, e = .Attribute a' g pos ∧ (decide (g = Str.ofString f) && baseB a' && chkE P a a') = true := by
  unfold chkE at h
  split at h <;> first | (rename_i q; cases q; done) | (injections; subst_vars; exact ⟨_, _, _, rfl, h⟩) | cases h
theorem ok_fld {a f} (ha : SndE a) : SndE (.fld a f) := by
  intro W G lv P WX X C e h
  obtain ⟨a', g, pos, rfl, k⟩ := fld_inv h
  simp only [Bool.and_eq_true, decide_eq_true_eq] at k
  obtain ⟨⟨rfl, h2⟩, h3⟩ := k
  have p : PE X (.Attribute a' (Str.ofString f) pos) (Ter W (rV W) WX (wpE G (.fld a f))) := pe_imp (pe_fld (ha C a' h3).1 (base_plain h2)) fun σ H Q hq => by
    obtain ⟨φ, hd, σd, Qd, Xd, A, w, q, x⟩ := hq
    refine Ter.go A x w fun φ1 h1 H1 d v e1 A1 r1 w1 => ?_
    obtain ⟨c, ns, vs, y, e, hf, l, w1⟩ := w1
    have fin : ∀ {C' dx ws} {p : Addr}, H1 p = some (.ins C' dx ((ns.map Str.ofString).zip ws)) → clOf W.mg c = some C' → Reps W φ1 H1 vs ws → ns.length = ws.length → v = .ref p →
        ∃ a C dx fs v', v = .ref a ∧ H1 a = some (.ins C dx fs) ∧ Cls X.K C ∧ NoAttr X.K C (Str.ofString f) ∧ fs.lookup (Str.ofString f) = some v' ∧ Q v' H1 := by
      intro C' dx ws p e2 hc rs ll ev
      obtain ⟨k1, k2⟩ := C.fld c f hf C' hc
      obtain ⟨v', l1, l2⟩ := flook_rep rs ll l
      exact ⟨p, C', dx, _, v', ev, e2, k1, k2, l1, q φ1 h1 H1 _ _ e1 A1.sim l2 w1⟩
    cases r1 with
    | vi e2 n hc ef rs ll =>
      cases e
      subst ef
      exact fin e2 hc rs ll rfl
    | @ref n p hp =>
      have e : (match h1[n]? with
        | some (.ins c ns vs) => some (c, ns, vs)
        | _ => none) = some (c, ns, vs) := e
      cases o : h1[n]? with
      | none => rw [o] at e; cases e
      | some ob =>
        rw [o] at e
        cases ob with
        | lst => cases e
        | dk => cases e
        | dt => cases e
        | ins c' ns' vs' =>
          cases e
          obtain ⟨b, hb, C', dx, ws, e2, hc, rs, ll⟩ := A1.sim.obj _ _ o
          rw [hp] at hb; cases hb
          exact fin e2 hc rs ll rfl
    | _ => cases e
  exact ⟨p, fun _ => tst_of p rfl⟩

theorem pe_callV {x : Str} {v : Value} {r : List V → Hp → VK → Prop} {e : Expr} {es : List Expr} {t : TA} {p pos : Pos} (hv : (∃ id, v = .builtin id) ∨ ∃ T, v = .type T) (hc : CallR X v r) (hg : Gl X x) (hm : X.mg x = none) (hb : bootBuiltins x = some v) (ha : PA X (e :: es) t)
    (hn : x ≠ "__name__") (hdb : (x == ("__debug__" : Str)) = false) (he : starEach (e :: es) X.env = (false, eval e X.env) :: starEach es X.env) (hpl : (backTo pos (starEach es X.env)).any (·.1) = false) : PE X (.Call (.Name x p) (e :: es) [] pos) (tCB r t) := by
  rcases hv with ⟨id, rfl⟩ | ⟨T, rfl⟩
  · exact pe_callB hc hg hm hb ha hn hdb he hpl
  · exact pe_callTy hc hg hm hb ha hn hdb he hpl
theorem biV_kind {f v} (h : biV f = some v) : (∃ id, v = .builtin id) ∨ ∃ T, v = .type T := by
  unfold biV at h
  split at h <;> first | (cases h; exact .inl ⟨_, rfl⟩) | (cases h; exact .inr ⟨_, rfl⟩) | cases h
theorem bi_inv {f : String} {m : Bool} {es : Es} {e : Expr} (h : chkE P (.bi f m es) e = true) : ∃ x p v vs pos, e = .Call (.Name x p) (v :: vs) [] pos ∧
    (P.cm && decide (x = Str.ofString f) && glB P.sc x && okN x && (biV f).isSome && (v :: vs).all (fun e => !starB e) && chkEs P es (v :: vs)) = true := by
  unfold chkE at h
  split at h <;> first | (rename_i q; cases q; done) | (injections; subst_vars; exact ⟨_, _, _, _, _, rfl, h⟩) | cases h
theorem ok_bi {f m es} (hs : SndEs es) : SndE (.bi f m es) := by
  intro W G lv P WX X C e h
  obtain ⟨x, p, v, vs, pos, rfl, k⟩ := bi_inv h
  simp only [Bool.and_eq_true, decide_eq_true_eq] at k
  obtain ⟨⟨⟨⟨⟨⟨hc, rfl⟩, h2⟩, h3⟩, hb⟩, h4⟩, h5⟩ := k
  obtain ⟨bv, hbv⟩ := Option.isSome_iff_exists.mp hb
  have h4' : starB v = false ∧ vs.all (fun e => !starB e) = true := by
    rw [List.all_cons, Bool.and_eq_true] at h4
    exact ⟨by simpa using h4.1, h4.2⟩
  have pr : PE X (.Call (.Name (Str.ofString f) p) (v :: vs) [] pos) (Ter W (rV W) WX (wpE G (.bi f m es))) :=
    pe_imp (pe_callV (biV_kind hbv) (bi_ok (W := W) C.K (C.calm hc) m f bv hbv) (C.gl' h2) (C.bn f bv hbv) (biV_boot hbv) ((hs C (v :: vs) h5).1 h4) (okN_inv h3).2.2 (okN_inv h3).1 (star_cons h4'.1) (star_any h4'.2)) fun σ H Q hq => by
      obtain ⟨φ, hd, σd, Qd, Xd, A, w, q, x⟩ := hq
      exact Ter.go A x w fun φ1 h1 H1 d v e1 A1 r1 w1 => ⟨φ1, h1, d, Qd, A1.sim, r1, w1, q.ext e1⟩
  exact ⟨pr, fun _ => tst_of pr rfl⟩

theorem ok_mdef {mx a} (ha : SndE a) : SndE (.mdef mx a) := by
  intro W G lv P WX X C e h
  obtain ⟨x, p, v, k, j, p2, kp, pos, rfl, hh⟩ : ∃ x p v k j p2 kp pos, e = .Call (.Name x p) [v] [⟨some k, .Constant .none j p2, kp⟩] pos ∧ (P.cm && decide (x = Str.ofString (if mx = true then "max" else "min")) && glB P.sc x && okN x && !starB v && decide (k = Str.ofString "default") && chkE P a v) = true := by
    unfold chkE at h
    split at h <;> first | (rename_i q; cases q; done) | (injections; subst_vars; exact ⟨_, _, _, _, _, _, _, _, rfl, h⟩) | cases h
  simp only [Bool.and_eq_true, decide_eq_true_eq, Bool.not_eq_true'] at hh
  obtain ⟨⟨⟨⟨⟨⟨hc, rfl⟩, h2⟩, h3⟩, h4⟩, rfl⟩, h5⟩ := hh
  have ck : CallRK X (.builtin (if mx = true then "max" else "min")) ["default"] (rMd X.K mx) := by
    cases mx with
    | true => exact cr_maxd (C.calm hc)
    | false => exact cr_mind (C.calm hc)
  have hbv : bootBuiltins (Str.ofString (if mx = true then "max" else "min")) = some (.builtin (if mx = true then "max" else "min")) := by
    cases mx with
    | true => exact biV_boot (f := "max") rfl
    | false => exact biV_boot (f := "min") rfl
  have hbn : X.mg (Str.ofString (if mx = true then "max" else "min")) = none := by
    cases mx with
    | true => exact C.bn "max" _ rfl
    | false => exact C.bn "min" _ rfl
  have pr : PE X (.Call (.Name (Str.ofString (if mx = true then "max" else "min")) p) [v] [⟨some (Str.ofString "default"), .Constant .none j p2, kp⟩] pos) (Ter W (rV W) WX (wpE G (.mdef mx a))) :=
    pe_imp (pe_callBK (pos := pos) ck (C.gl' h2) hbn hbv (pa_cons (ha C v h5).1 pa_nil (star_cons h4)) (pk_cons pe_non pk_nil) (okN_inv h3).2.2 (okN_inv h3).1 (by rw [star_cons h4]; rfl) (by rw [star_cons h4]; rfl)) fun σ H Q hq => by
      obtain ⟨φ, hd, σd, Qd, Xd, A, w, q, x⟩ := hq
      refine Ter.go A x w fun φ1 h1 H1 d v e1 A1 r1 w1 => ?_
      obtain ⟨xs, ns, e2, e3, wn, w1⟩ := w1
      obtain ⟨p, vs, rfl, hq, rs⟩ := rdL_ok A1.sim r1 e2
      have qe := q.ext e1
      exact ⟨p, ns, rfl, rfl, by rw [C.K, ← ints_rep rs e3]; exact hq, fun hn => qe φ1 h1 H1 .non .non .refl A1.sim .non (wn hn), fun m hm hy => qe φ1 h1 H1 (.int m) (.int m) .refl A1.sim (.int m) (w1 m hm hy)⟩
  exact ⟨pr, fun _ => tst_of pr rfl⟩
/-! ### methods of lists -/
theorem bm_inv {f : String} {o : E} {es : Es} {e : Expr} (h : chkE P (.bm f o es) e = true) : ∃ o' g ap vs cp, e = .Call (.Attribute o' g ap) vs [] cp ∧
    (decide (g = Str.ofString f) && (ap.endLine == cp.line) && decide (vs.length < 20) && baseB o' && chkE P o o' && vs.all (fun e => !starB e) && chkEs P es vs && (bmT f).isSome) = true := by
  unfold chkE at h
  split at h <;> first | (rename_i q; cases q; done) | (injections; subst_vars; exact ⟨_, _, _, _, _, rfl, h⟩) | cases h
theorem bm_plain {env : Env} {es : List Expr} {cp : Pos} (hl : es.length < 20) (hs : es.all (fun e => !starB e) = true) : ((backTo cp (starEach es env)).all (fun x => !x.1) && (backToKw cp (keywordEach [] env)).all (fun x => x.1.isSome)
      && decide (es.length + ([] : List Keyword).length + (if ([] : List Keyword).isEmpty then 0 else 1) < 30)) = true := by
  have h1 : (backTo cp (starEach es env)).all (fun x => !x.1) = true := by
    induction es with
    | nil => rfl
    | cons e es ih =>
      rw [List.all_cons, Bool.and_eq_true] at hs
      rw [star_cons (by simpa using hs.1)]
      show (true && (backTo cp (starEach es env)).all (fun x => !x.1)) = true
      rw [ih (by simp at hl; omega) hs.2]; rfl
  rw [h1]
  have h2 : (backToKw cp (keywordEach [] env)).all (fun x => x.1.isSome) = true := rfl
  rw [h2]
  simp
  omega
/-- the facts of a method's name -/
structure BmF (f : String) (T id : String) : Prop where
  pa : PlainAttrs T
  slot : Slot T (Str.ofString f) id
  ty : typeOf (.builtin id) = pure (.type "method_descriptor")
noncomputable def bmK (f : String) : String := if f = "join" ∨ f = "split" then "str" else "list"
theorem bmF {f id n} (h : bmT f = some (id, n)) : BmF f (bmK f) id := by
  unfold bmT at h
  split at h
  · cases h; exact ⟨PySem.F.plainAttrs_list, PySem.F.slot_list_append, PySem.F.type_list_append⟩
  · cases h; exact ⟨PySem.F.plainAttrs_list, PySem.F.slot_list_pop, PySem.F.type_list_pop⟩
  · cases h; exact ⟨PySem.F.plainAttrs_list, PySem.F.slot_list_clear, PySem.F.type_list_clear⟩
  · cases h; exact ⟨PySem.F.plainAttrs_list, PySem.F.slot_list_reverse, PySem.F.type_list_reverse⟩
  · cases h; exact ⟨PySem.F.plainAttrs_list, PySem.F.slot_list_extend, PySem.F.type_list_extend⟩
  · cases h; exact ⟨PySem.F.plainAttrs_list, PySem.F.slot_list_insert, PySem.F.type_list_insert⟩
  · cases h; exact ⟨PySem.F.plainAttrs_list, PySem.F.slot_list_index, PySem.F.type_list_index⟩
  · cases h; exact ⟨PySem.F.plainAttrs_str, PySem.F.slot_str_join, PySem.F.type_str_join⟩
  · cases h; exact ⟨PySem.F.plainAttrs_str, PySem.F.slot_str_split, PySem.F.type_str_split⟩
  · cases h
theorem recOk_ty {f id n x h v} (hb : bmT f = some (id, n)) (S : Sim W φ h H) (r : Rep W φ H x v) (k : recOk f x h) : tyV W.K (bmK f) v H := by
  have go : (∃ ys, rdL h x = some ys) → tyV W.K "list" v H := fun k' => by
    obtain ⟨ys, e⟩ := k'
    obtain ⟨a, vs, rfl, h1, _⟩ := rdL_ok S r e
    exact .inl ⟨rfl, _, h1⟩
  have gos : (∃ z, x = .str z) → tyV W.K "str" v H := fun k' => by
    obtain ⟨z, rfl⟩ := k'
    cases r
    rfl
  unfold bmT at hb
  split at hb
  all_goals first | exact go k | exact gos k | cases hb
theorem ok_bm {f o es} (ho : SndE o) (hs : SndEs es) : SndE (.bm f o es) := by
  intro W G lv P WX X C e h
  obtain ⟨o', g, ap, vs, cp, rfl, k⟩ := bm_inv h
  simp only [Bool.and_eq_true, decide_eq_true_eq] at k
  obtain ⟨⟨⟨⟨⟨⟨⟨rfl, hl⟩, hn⟩, h1⟩, h2⟩, h3⟩, h4⟩, h5⟩ := k
  cases hb : bmT f with
  | none => rw [hb] at h5; cases h5
  | some idn =>
    obtain ⟨id, n⟩ := idn
    have F := bmF hb
    have M := bm_ok (W := W) (X := X) C.K C.hu f id n hb
    have po := (ho C o' h2).1
    have pa := (hs C vs h4).1 h3
    cases vs with
    | nil =>
      have p : PE X (.Call (.Attribute o' (Str.ofString f) ap) [] [] cp) (Ter W (rV W) WX (wpE G (.bm f o es))) := pe_imp (pe_bm0 F.pa F.slot F.ty M po (base_plain h1) hl) fun σ H Q hq => by
        obtain ⟨φ, hd, σd, Qd, Xd, A, w, q, x⟩ := hq
        refine Ter.go A x w fun φ1 h1 H1 d v e1 A1 r1 w1 => ⟨by rw [C.K]; exact recOk_ty hb A1.sim r1 w1.1, ?_⟩
        cases es with
        | nil => exact ⟨φ1, h1, d, [], Qd, A1.sim, r1, .nil, w1.2, q.ext e1⟩
        | cons => simp [chkEs] at h4
      exact ⟨p, fun _ => tst_of p rfl⟩
    | cons v vs =>
      have h4' : starB v = false ∧ vs.all (fun e => !starB e) = true := by
        rw [List.all_cons, Bool.and_eq_true] at h3
        exact ⟨by simpa using h3.1, h3.2⟩
      have p : PE X (.Call (.Attribute o' (Str.ofString f) ap) (v :: vs) [] cp) (Ter W (rV W) WX (wpE G (.bm f o es))) := pe_imp (pe_bm F.pa F.slot F.ty M po pa (base_plain h1) (bm_plain hn h3) hl (star_cons h4'.1) (star_any h4'.2)) fun σ H Q hq => by
        obtain ⟨φ, hd, σd, Qd, Xd, A, w, q, x⟩ := hq
        refine Ter.go A x w fun φ1 h1 H1 d v e1 A1 r1 w1 => ⟨by rw [C.K]; exact recOk_ty hb A1.sim r1 w1.1, ?_⟩
        exact Ter.go A1 (x.ext e1) w1.2 fun φ2 h2 H2 d2 v2 e2 A2 r2 w2 => ⟨φ2, h2, d, d2, Qd, A2.sim, r1.ext e2, r2, w2, q.ext (e1.trans e2)⟩
      exact ⟨p, fun _ => tst_of p rfl⟩

/-! ### isinstance against a built-in type -/
theorem isiB_kit {d : D} {t : String} {b : Bool} (h : isiB d t = some b) : kitB (tyD d) t = some b ∧ tyD d ≠ "" := by
  unfold isiB at h
  generalize tyD d = s at h ⊢
  unfold isiS at h
  split at h <;> first | (cases h; exact ⟨by decide +kernel, by decide⟩) | cases h
theorem tyN_boot {t : String} (h : tyN t = true) : (t = "int" ∨ t = "bool" ∨ t = "str" ∨ t = "list" ∨ t = "tuple") ∧ bootBuiltins (Str.ofString t) = some (.type t) := by
  unfold tyN at h
  simp only [Bool.or_eq_true, beq_iff_eq] at h
  rcases h with (((rfl | rfl) | rfl) | rfl) | rfl
  · exact ⟨by simp, boot_int⟩
  · exact ⟨by simp, boot_bool⟩
  · exact ⟨by simp, boot_str⟩
  · exact ⟨by simp, boot_list⟩
  · exact ⟨by simp, boot_tuple⟩
theorem isi_inv {a : E} {t : String} {e : Expr} (h : chkE P (.isi a t) e = true) : ∃ x p a' t' p' pos, e = .Call (.Name x p) [a', .Name t' p'] [] pos ∧
    (decide (x = Str.ofString "isinstance") && glB P.sc x && decide (t' = Str.ofString t) && tyN t && glB P.sc t' && okN t' && !starB a' && chkE P a a') = true := by
  unfold chkE at h
  split at h <;> first | (rename_i q; cases q; done) | (injections; subst_vars; exact ⟨_, _, _, _, _, _, rfl, h⟩) | cases h
theorem seen_ty {d : D} {v : V} (S : Sim W φ hd H) (r : Rep W φ H d v) (h : tyD (seen hd d) ≠ "") : TyOf W.K H v (.type (tyD (seen hd d))) := by
  cases r with
  | non => exact .non
  | bl b => exact .bl b
  | int i => exact .int i
  | str x => exact .str x
  | tup a b c => exact .tup a
  | vl a b c => exact .lst a
  | sv => exact absurd rfl h
  | vi => exact absurd rfl h
  | @ref n a e =>
    have hn : seen hd (.ref n) = match hd[n]? with
      | some (.lst xs) => .vl xs
      | _ => .ref n := rfl
    cases o : hd[n]? with
    | none => rw [hn, o] at h; exact absurd rfl h
    | some ob => cases ob with
      | ins _ _ _ => rw [hn, o] at h; exact absurd rfl h
      | dk _ _ => rw [hn, o] at h; exact absurd rfl h
      | dt _ _ => rw [hn, o] at h; exact absurd rfl h
      | lst xs =>
        rw [hn, o]
        obtain ⟨b, hb, vs, h1, h2⟩ := S.obj n _ o
        rw [e] at hb; cases hb
        exact .lst h1
theorem ok_isi {a t} (ha : SndE a) : SndE (.isi a t) := by
  intro W G lv P WX X C e h
  obtain ⟨x, p, a', t', p', pos, rfl, k⟩ := isi_inv h
  simp only [Bool.and_eq_true, decide_eq_true_eq, Bool.not_eq_true'] at k
  obtain ⟨⟨⟨⟨⟨⟨⟨rfl, h1⟩, rfl⟩, h0⟩, h2⟩, h3⟩, h4⟩, h5⟩ := k
  obtain ⟨ht, hb⟩ := tyN_boot h0
  have hm : X.mg (Str.ofString t) = none := by
    obtain ⟨b1, b2, b3, b4, b5⟩ := C.bn3
    rcases ht with rfl | rfl | rfl | rfl | rfl <;> assumption
  have pt : PE X (.Name (Str.ofString t) p') (tC (.ty t)) := pe_bltn (C.gl' h2) hm hb rfl (okN_inv h3).2.2 (okN_inv h3).1
  have pa : PA X [a', .Name (Str.ofString t) p'] _ := pa_cons (ha C a' h5).1 (pa_cons pt pa_nil) (star_cons h4)
  have pr : PE X (.Call (.Name (Str.ofString "isinstance") p) [a', .Name (Str.ofString t) p'] [] pos) (Ter W (rV W) WX (wpE G (.isi a t))) := by
    refine pe_imp (pe_callB call_isi (C.gl' h1) C.bn2.2.2.2.2 boot_isinstance pa (by decide) (by decide) (star_cons h4) rfl) fun σ H Q hq => ?_
    obtain ⟨φ, hd, σd, Qd, Xd, A, w, q, x⟩ := hq
    refine Ter.go A x w fun φ1 h1 H1 d v e1 A1 r1 w1 => ?_
    obtain ⟨b, hb', w1⟩ := w1
    obtain ⟨k1, k3⟩ := isiB_kit hb'
    exact ⟨v, .ty t, _, _, b, rfl, .ty t, .base (by rw [C.K]; exact seen_ty A1.sim r1 k3), kit_ty k1, q φ1 h1 H1 _ _ e1 A1.sim (.bl _) w1⟩
  exact ⟨pr, fun _ => tst_of pr rfl⟩
theorem lrg_inv {m : Bool} {a b : E} {e : Expr} (h : chkE P (.lrg m a b) e = true) : ∃ x p y p2 a' b' q pos, e = .Call (.Name x p) [.Call (.Name y p2) [a', b'] [] q] [] pos ∧
    (P.cm && decide (x = Str.ofString "list") && glB P.sc x && decide (y = Str.ofString "range") && glB P.sc y && !starB a' && !starB b' && chkE P a a' && chkE P b b') = true := by
  unfold chkE at h
  split at h <;> first | (rename_i q; cases q; done) | (injections; subst_vars; exact ⟨_, _, _, _, _, _, _, _, rfl, h⟩) | cases h
theorem ok_lrg {m a b} (ha : SndE a) (hb : SndE b) : SndE (.lrg m a b) := by
  intro W G lv P WX X C e h
  obtain ⟨x, p, y, p2, a', b', q, pos, rfl, k⟩ := lrg_inv h
  simp only [Bool.and_eq_true, decide_eq_true_eq, Bool.not_eq_true'] at k
  obtain ⟨⟨⟨⟨⟨⟨⟨⟨h0, rfl⟩, h1⟩, rfl⟩, h2⟩, h3⟩, h4⟩, h5⟩, h6⟩ := k
  have pr : PE X (.Call (.Name (Str.ofString "list") p) [.Call (.Name (Str.ofString "range") p2) [a', b'] [] q] [] pos) (Ter W (rV W) WX (wpE G (.lrg m a b))) := by
    refine pe_imp (pe_listRg (C.calm h0) (C.gl' h1) C.bn3.2.2.2.1 (prg_2 (C.gl' h2) C.bn2.1 (ha C a' h5).1 (hb C b' h6).1 (star_cons h3) (star_cons h4) (star_any (es := [b']) (by simp [h4]))) rfl) fun σ H Q hq => ?_
    obtain ⟨φ, hd, σd, Qd, Xd, A, w, q, x⟩ := hq
    refine Ter.go A x w fun φ1 h1 H1 d v e1 A1 r1 w1 => Ter.go A1 (x.ext e1) w1 fun φ2 h2 H2 d2 v2 e2 A2 r2 w2 => ?_
    obtain ⟨i, j, rfl, rfl, g1, g2, g3, w2⟩ := w2
    cases r1
    cases r2
    refine ⟨i, j, rfl, rfl, ⟨g1.1, g1.2, g2.1, g2.2, g3⟩, ?_⟩
    have er : Reps W φ2 H2 (rngN i j) (rgV i j) := by
      unfold rngN rgV
      generalize List.range (j - i).toNat = l
      induction l with
      | nil => exact .nil
      | cons t l ih => exact .cons (.int _) ih
    exact (mkL_ok A2.sim er (q.ext (e1.trans e2)) w2).2
  exact ⟨pr, fun _ => tst_of pr rfl⟩
theorem lrb_inv {m : Bool} {a b : E} {e : Expr} (h : chkE P (.lrb m a b) e = true) : ∃ x p y p2 a' b' q pos, e = .Call (.Name x p) [.Call (.Name y p2) [a', b'] [] q] [] pos ∧
    (P.cm && decide (x = Str.ofString "list") && glB P.sc x && decide (y = Str.ofString "range") && glB P.sc y && !starB a' && !starB b' && chkE P a a' && chkE P b b') = true := by
  unfold chkE at h
  split at h <;> first | (rename_i q; cases q; done) | (injections; subst_vars; exact ⟨_, _, _, _, _, _, _, _, rfl, h⟩) | cases h
theorem ok_lrb {m a b} (ha : SndE a) (hb : SndE b) : SndE (.lrb m a b) := by
  intro W G lv P WX X C e h
  obtain ⟨x, p, y, p2, a', b', q, pos, rfl, k⟩ := lrb_inv h
  simp only [Bool.and_eq_true, decide_eq_true_eq, Bool.not_eq_true'] at k
  obtain ⟨⟨⟨⟨⟨⟨⟨⟨h0, rfl⟩, h1⟩, rfl⟩, h2⟩, h3⟩, h4⟩, h5⟩, h6⟩ := k
  have pr : PE X (.Call (.Name (Str.ofString "list") p) [.Call (.Name (Str.ofString "range") p2) [a', b'] [] q] [] pos) (Ter W (rV W) WX (wpE G (.lrb m a b))) := by
    refine pe_imp (VdLr.pe_listRgA (C.calm h0) (C.gl' h1) C.bn3.2.2.2.1 (prg_2 (C.gl' h2) C.bn2.1 (ha C a' h5).1 (hb C b' h6).1 (star_cons h3) (star_cons h4) (star_any (es := [b']) (by simp [h4]))) rfl) fun σ H Q hq => ?_
    obtain ⟨φ, hd, σd, Qd, Xd, A, w, q, x⟩ := hq
    refine Ter.go A x w fun φ1 h1 H1 d v e1 A1 r1 w1 => Ter.go A1 (x.ext e1) w1 fun φ2 h2 H2 d2 v2 e2 A2 r2 w2 => ?_
    obtain ⟨i, j, rfl, rfl, g3, w2⟩ := w2
    cases r1
    cases r2
    refine ⟨i, j, rfl, rfl, g3, ?_⟩
    have er : Reps W φ2 H2 (rngN i j) (rgV i j) := by
      unfold rngN rgV
      generalize List.range (j - i).toNat = l
      induction l with
      | nil => exact .nil
      | cons t l ih => exact .cons (.int _) ih
    exact (mkL_ok A2.sim er (q.ext (e1.trans e2)) w2).2
  exact ⟨pr, fun _ => tst_of pr rfl⟩
theorem lzp_inv {a b : E} {e : Expr} (h : chkE P (.lzp a b) e = true) : ∃ x p y p2 a' b' q pos, e = .Call (.Name x p) [.Call (.Name y p2) [a', b'] [] q] [] pos ∧
    (P.cm && decide (x = Str.ofString "list") && glB P.sc x && decide (y = Str.ofString "zip") && glB P.sc y && !starB a' && !starB b' && chkE P a a' && chkE P b b') = true := by
  unfold chkE at h
  split at h <;> first | (rename_i q; cases q; done) | (injections; subst_vars; exact ⟨_, _, _, _, _, _, _, _, rfl, h⟩) | cases h
theorem zipT_ok {W : Wd} {φ : List Addr} {hd : Hd} {Q : VK} {xs ys : List D} :
    ∀ {vs ws : List V} (acc : List D) (av : List V) (H : Hp), Sim W φ hd H → Reps W φ H xs vs → Reps W φ H ys ws → Reps W φ H acc av → acc.length + xs.length ≤ sizeLine →
      (∀ H' v, Ext φ φ H H' → Sim W φ hd H' → Rep W φ H' (.vl (acc ++ (xs.zip ys).map fun p => .tup [p.1, p.2])) v → Q v H') → VdZp.zipT (vs.zip ws) av H Q := by
  induction xs generalizing ys with
  | nil =>
    intro vs ws acc av H s r1 r2 ra hl hQ
    cases r1
    intro q hq
    refine hQ _ _ (Ext.new hq) (s.new hq) ?_
    rw [List.zip_nil_left, List.map_nil, List.append_nil]
    exact .vl (upd_same ..) (s.off hq) (ra.ext (Ext.new hq))
  | cons x xs ih =>
    intro vs ws acc av H s r1 r2 ra hl hQ
    cases r1 with
    | @cons _ v _ vs rx r1 =>
      cases r2 with
      | nil =>
        intro q hq
        refine hQ _ _ (Ext.new hq) (s.new hq) ?_
        rw [List.zip_nil_right, List.map_nil, List.append_nil]
        exact .vl (upd_same ..) (s.off hq) (ra.ext (Ext.new hq))
      | @cons y w ys ws ry r2 =>
        intro q hq
        have e := Ext.new (φ := φ) (o := .tup [v, w]) hq
        refine ih (acc ++ [.tup [x, y]]) _ _ (s.new hq) (r1.ext e) (r2.ext e) ((ra.ext e).append (.cons (.tup (upd_same ..) (s.off hq) (.cons (rx.ext e) (.cons (ry.ext e) .nil))) .nil)) (by simp only [List.length_append, List.length_cons, List.length_nil] at hl ⊢; omega) fun H' v e' s' r' => ?_
        refine hQ _ _ (e.trans e') s' ?_
        rw [List.zip_cons_cons, List.map_cons]
        rw [List.append_assoc] at r'
        exact r'
theorem ok_lzp {a b} (ha : SndE a) (hb : SndE b) : SndE (.lzp a b) := by
  intro W G lv P WX X C e h
  obtain ⟨x, p, y, p2, a', b', q, pos, rfl, k⟩ := lzp_inv h
  simp only [Bool.and_eq_true, decide_eq_true_eq, Bool.not_eq_true'] at k
  obtain ⟨⟨⟨⟨⟨⟨⟨⟨h0, rfl⟩, h1⟩, rfl⟩, h2⟩, h3⟩, h4⟩, h5⟩, h6⟩ := k
  have pr : PE X (.Call (.Name (Str.ofString "list") p) [.Call (.Name (Str.ofString "zip") p2) [a', b'] [] q] [] pos) (Ter W (rV W) WX (wpE G (.lzp a b))) := by
    refine pe_imp (VdZp.pe_listZip (C.calm h0) (C.gl' h1) C.bn3.2.2.2.1 (C.gl' h2) C.bn2.2.1 (ha C a' h5).1 (hb C b' h6).1 (star_cons h3) (star_cons h4) (star_any (es := [b']) (by simp [h4])) rfl) fun σ H Q hq => ?_
    obtain ⟨φ, hd, σd, Qd, Xd, A, w, q, x⟩ := hq
    refine Ter.go A x w fun φ1 h1 H1 d v e1 A1 r1 w1 => Ter.go A1 (x.ext e1) w1 fun φ2 h2 H2 d2 v2 e2 A2 r2 w2 => ?_
    obtain ⟨xs, ys, g1, g2, g3, w2⟩ := w2
    obtain ⟨p, vs, rfl, hq1, rs1⟩ := rdL_ok A2.sim (r1.ext e2) g1
    obtain ⟨p', ws, rfl, hq2, rs2⟩ := rdL_ok A2.sim r2 g2
    refine ⟨p, p', vs, ws, rfl, rfl, by rw [C.K]; exact hq1, by rw [C.K]; exact hq2, by rw [← rs1.len]; exact g3, ?_⟩
    refine zipT_ok (xs := xs) (ys := ys) [] [] _ A2.sim rs1 rs2 .nil (by rw [sizeLine_eq]; simp only [List.length_nil]; omega) fun H' v e' s' r' => ?_
    exact q _ _ _ _ _ ((e1.trans e2).trans e') s' r' w2
  exact ⟨pr, fun _ => tst_of pr rfl⟩
theorem lset_inv {a : E} {e : Expr} (h : chkE P (.lset a) e = true) : ∃ x p y p2 a' q pos, e = .Call (.Name x p) [.Call (.Name y p2) [a'] [] q] [] pos ∧
    (P.cm && decide (x = Str.ofString "len") && glB P.sc x && decide (y = Str.ofString "set") && glB P.sc y && !starB a' && chkE P a a') = true := by
  unfold chkE at h
  split at h <;> first | (rename_i q; cases q; done) | (injections; subst_vars; exact ⟨_, _, _, _, _, _, _, rfl, h⟩) | cases h
theorem ok_lset {a} (ha : SndE a) : SndE (.lset a) := by
  intro W G lv P WX X C e h
  obtain ⟨x, p, y, p2, a', q, pos, rfl, k⟩ := lset_inv h
  simp only [Bool.and_eq_true, decide_eq_true_eq, Bool.not_eq_true'] at k
  obtain ⟨⟨⟨⟨⟨⟨h0, rfl⟩, h1⟩, rfl⟩, h2⟩, h3⟩, h4⟩ := k
  have pr : PE X (.Call (.Name (Str.ofString "len") p) [.Call (.Name (Str.ofString "set") p2) [a'] [] q] [] pos) (Ter W (rV W) WX (wpE G (.lset a))) := by
    refine pe_imp (VdSt.pe_lenSetG (C.calm h0) (C.gl' h1) (C.bn "len" _ rfl) (C.gl' h2) (C.bn "set" _ rfl) (ha C a' h4).1 (star_cons h3)) fun σ H Q hq => ?_
    obtain ⟨φ, hd, σd, Qd, Xd, A, w, q, x⟩ := hq
    refine Ter.go A x w fun φ1 h1 H1 d v e1 A1 r1 w1 => ?_
    rcases w1 with ⟨xs, ns, e, e2, l, w1⟩ | ⟨xs, ns, e, e2, l, w1⟩
    · obtain ⟨p, vs, rfl, hq, rs⟩ := rdL_ok A1.sim r1 e
      exact .inl ⟨p, ns, rfl, by rw [C.K, ← strs_rep rs e2]; exact hq, l, q φ1 h1 H1 _ _ e1 A1.sim (.int _) w1⟩
    · obtain ⟨p, vs, rfl, hq, rs⟩ := rdL_ok A1.sim r1 e
      exact .inr ⟨p, ns, rfl, by rw [C.K, ← ints_rep rs e2]; exact hq, l, q φ1 h1 H1 _ _ e1 A1.sim (.int _) w1⟩
  exact ⟨pr, fun _ => tst_of pr rfl⟩
theorem srs_inv {m : Bool} {a : E} {e : Expr} (h : chkE P (.srs m a) e = true) : ∃ x p y p2 a' q pos, e = .Call (.Name x p) [.Call (.Name y p2) [a'] [] q] [] pos ∧
    (P.cm && decide (x = Str.ofString "sorted") && glB P.sc x && decide (y = Str.ofString "set") && glB P.sc y && !starB a' && chkE P a a') = true := by
  unfold chkE at h
  split at h <;> first | (rename_i q; cases q; done) | (injections; subst_vars; exact ⟨_, _, _, _, _, _, _, rfl, h⟩) | cases h
theorem ints_reps {W : Wd} {φ : List Addr} {H : Hp} : ∀ ns : List Int, Reps W φ H (ns.map D.int) (ns.map V.int)
  | [] => .nil
  | _ :: ns => .cons (.int _) (ints_reps ns)
theorem ok_srs {m a} (ha : SndE a) : SndE (.srs m a) := by
  intro W G lv P WX X C e h
  obtain ⟨x, p, y, p2, a', q, pos, rfl, k⟩ := srs_inv h
  simp only [Bool.and_eq_true, decide_eq_true_eq, Bool.not_eq_true'] at k
  obtain ⟨⟨⟨⟨⟨⟨h0, rfl⟩, h1⟩, rfl⟩, h2⟩, h3⟩, h4⟩ := k
  have pr : PE X (.Call (.Name (Str.ofString "sorted") p) [.Call (.Name (Str.ofString "set") p2) [a'] [] q] [] pos) (Ter W (rV W) WX (wpE G (.srs m a))) := by
    refine pe_imp (VdSt.pe_sortSet (C.calm h0) (C.gl' h1) (C.bn "sorted" _ rfl) (C.gl' h2) (C.bn "set" _ rfl) (ha C a' h4).1 (star_cons h3)) fun σ H Q hq => ?_
    obtain ⟨φ, hd, σd, Qd, Xd, A, w, q, x⟩ := hq
    refine Ter.go A x w fun φ1 h1 H1 d v e1 A1 r1 w1 => ?_
    obtain ⟨xs, ns, e, e2, l, l2, w1⟩ := w1
    obtain ⟨p, vs, rfl, hq, rs⟩ := rdL_ok A1.sim r1 e
    exact ⟨p, ns, rfl, by rw [C.K, ← ints_rep rs e2]; exact hq, l, l2, fun os s1 s2 => (mkL_ok A1.sim (ints_reps os) (q.ext e1) (w1 os s1 s2)).2⟩
  exact ⟨pr, fun _ => tst_of pr rfl⟩
theorem lrev_inv {m : Bool} {a : E} {e : Expr} (h : chkE P (.lrev m a) e = true) : ∃ x p y p2 a' q pos, e = .Call (.Name x p) [.Call (.Name y p2) [a'] [] q] [] pos ∧
    (P.cm && decide (x = Str.ofString "list") && glB P.sc x && decide (y = Str.ofString "reversed") && glB P.sc y && !starB a' && chkE P a a') = true := by
  unfold chkE at h
  split at h <;> first | (rename_i q; cases q; done) | (injections; subst_vars; exact ⟨_, _, _, _, _, _, _, rfl, h⟩) | cases h
theorem ok_lrev {m a} (ha : SndE a) : SndE (.lrev m a) := by
  intro W G lv P WX X C e h
  obtain ⟨x, p, y, p2, a', q, pos, rfl, k⟩ := lrev_inv h
  simp only [Bool.and_eq_true, decide_eq_true_eq, Bool.not_eq_true'] at k
  obtain ⟨⟨⟨⟨⟨⟨h0, rfl⟩, h1⟩, rfl⟩, h2⟩, h3⟩, h4⟩ := k
  have pr : PE X (.Call (.Name (Str.ofString "list") p) [.Call (.Name (Str.ofString "reversed") p2) [a'] [] q] [] pos) (Ter W (rV W) WX (wpE G (.lrev m a))) := by
    refine pe_imp (VdRv.pe_listRev (C.calm h0) (C.gl' h1) C.bn3.2.2.2.1 (C.gl' h2) C.bn2.2.2.2.1 (ha C a' h4).1 (star_cons h3)) fun σ H Q hq => ?_
    obtain ⟨φ, hd, σd, Qd, Xd, A, w, q, x⟩ := hq
    refine Ter.go A x w fun φ1 h1 H1 d v e1 A1 r1 w1 => ?_
    obtain ⟨xs, e, w1⟩ := w1
    obtain ⟨p, vs, rfl, hq, rs⟩ := rdL_ok A1.sim r1 e
    exact ⟨p, vs, rfl, by rw [C.K]; exact hq, (mkL_ok A1.sim rs.reverse (q.ext e1) w1).2⟩
  exact ⟨pr, fun _ => tst_of pr rfl⟩
theorem pairs_py : ∀ {xs ps}, pairsD xs = some ps → xs.all (pl 2) = true ∧ pys xs = ps.map VdMp.pyP
  | [], _, h => by cases h; exact ⟨rfl, rfl⟩
  | x :: xs, _, h => by
    unfold pairsD at h
    split at h
    · rename_i q; cases q
    · rename_i i j r q
      cases q
      simp only [Option.map_eq_some_iff] at h
      obtain ⟨ms, h1, rfl⟩ := h
      obtain ⟨k1, k2⟩ := pairs_py h1
      refine ⟨?_, ?_⟩
      · rw [List.all_cons, k1]; rfl
      · rw [pys, k2]; rfl
    · cases h
theorem pairsD_get : ∀ {xs : List D} {ps : List (Int × Int)} {i : Nat} {k : Int × Int}, pairsD xs = some ps → ps[i]? = some k → xs[i]? = some (pairD k)
  | [], _, i, k, h, hk => by cases h; simp at hk
  | x :: xs, _, i, k, h, hk => by
    unfold pairsD at h
    split at h
    · rename_i q; cases q
    · rename_i a b r q
      cases q
      simp only [Option.map_eq_some_iff] at h
      obtain ⟨ms, h1, rfl⟩ := h
      cases i with
      | zero => simp at hk; subst hk; rfl
      | succ i =>
        rw [List.getElem?_cons_succ] at hk ⊢
        exact pairsD_get h1 hk
    · cases h
theorem mpr_inv {mx : Bool} {a : E} {e : Expr} (h : chkE P (.mpr mx a) e = true) : ∃ x p v pos, e = .Call (.Name x p) [v] [] pos ∧
    (P.cm && decide (x = Str.ofString (if mx = true then "max" else "min")) && glB P.sc x && okN x && !starB v && chkE P a v) = true := by
  unfold chkE at h
  split at h <;> first | (rename_i q; cases q; done) | (injections; subst_vars; exact ⟨_, _, _, _, rfl, h⟩) | cases h
theorem ok_mpr {mx a} (ha : SndE a) : SndE (.mpr mx a) := by
  intro W G lv P WX X C e h
  obtain ⟨x, p, v, pos, rfl, k⟩ := mpr_inv h
  simp only [Bool.and_eq_true, decide_eq_true_eq, Bool.not_eq_true'] at k
  obtain ⟨⟨⟨⟨⟨hc, rfl⟩, h2⟩, h3⟩, h4⟩, h5⟩ := k
  have hbv : biV (if mx = true then "max" else "min") = some (.builtin (if mx = true then "max" else "min")) := by cases mx <;> rfl
  have pr : PE X (.Call (.Name (Str.ofString (if mx = true then "max" else "min")) p) [v] [] pos) (Ter W (rV W) WX (wpE G (.mpr mx a))) := by
    refine pe_imp (pe_callB (VdMp.cr_mpr (C.calm hc) C.hu mx) (C.gl' h2) (C.bn _ _ hbv) (biV_boot hbv) (pa_cons (ha C v h5).1 pa_nil (star_cons h4)) (okN_inv h3).2.2 (okN_inv h3).1 (star_cons h4) rfl) fun σ H Q hq => ?_
    obtain ⟨φ, hd, σd, Qd, Xd, A, w, q, x⟩ := hq
    refine Ter.go A x w fun φ1 h1 H1 d v e1 A1 r1 w1 => ?_
    obtain ⟨xs, ps, e, e2, l, w1⟩ := w1
    obtain ⟨p, vs, rfl, hq, rs⟩ := rdL_ok A1.sim r1 e
    obtain ⟨k1, k2⟩ := pairs_py e2
    refine ⟨p, vs, ps, rfl, by rw [C.K]; exact hq, by rw [C.K, ← k2]; exact reps_dp 2 k1 rs, l, fun i k x hx hk hy => ?_⟩
    obtain ⟨d, hd', rd⟩ := rs.get' hx
    have ed : d = pairD k := by
      have := pairsD_get e2 hk
      rw [hd'] at this
      exact Option.some.inj this
    subst ed
    exact q φ1 h1 H1 _ _ e1 A1.sim rd (w1 k (List.mem_of_getElem? hk) hy)
  exact ⟨pr, fun _ => tst_of pr rfl⟩
end
end Vd

set_option Elab.async false
set_option linter.all false
set_option maxRecDepth 100000
set_option maxHeartbeats 2000000
/-! tables (dicts) -/
namespace Vd
open PySem PySem.Spec PyProof.Rows L2
section
variable {W : Wd} {φ φ' : List Addr} {H : Hp} {hd : Hd} {κ : Type} [DecidableEq κ]
theorem getA_cons {p : κ × D} {r : List (κ × D)} {k : κ} : getA (p :: r) k = if p.1 = k then some p.2 else getA r k := by
  unfold getA
  by_cases e : p.1 = k <;> simp [List.find?_cons, e]
theorem getA_any (k : κ) : ∀ kvs : List (κ × D), (kvs.any fun kv => decide (kv.1 = k)) = (getA kvs k).isSome
  | [] => rfl
  | p :: r => by
    rw [List.any_cons, getA_cons]
    by_cases e : p.1 = k
    · simp [e]
    · simp [e, getA_any k r]
theorem getA_rep (k : κ) : ∀ {kvs : List (κ × D)} {vs : List V}, Reps W φ H (kvs.map (·.2)) vs → match getA kvs k, L2.valV ((kvs.map (·.1)).zip vs) k with
    | some d, some v => Rep W φ H d v
    | none, none => True
    | _, _ => False
  | [], _, r => by cases r; exact True.intro
  | p :: r, vs, h => by
    rw [List.map_cons] at h
    cases h with
    | @cons x v xs vs a b =>
      rw [getA_cons, List.map_cons, List.zip_cons_cons]
      by_cases e : p.1 = k
      · rw [if_pos e, L2.valV_pos (p := (p.1, v)) e]; exact a
      · rw [if_neg e, L2.valV_neg (p := (p.1, v)) e]; exact getA_rep k b
theorem zipA_any (k : κ) : ∀ {kvs : List (κ × D)} {vs : List V}, Reps W φ H (kvs.map (·.2)) vs → (((kvs.map (·.1)).zip vs).any fun kv => decide (kv.1 = k)) = kvs.any fun kv => decide (kv.1 = k)
  | [], _, r => by cases r; rfl
  | p :: r, vs, h => by
    rw [List.map_cons] at h
    cases h with
    | @cons x v xs vs a b => rw [List.map_cons, List.zip_cons_cons, List.any_cons, List.any_cons, zipA_any k b]
theorem putA_rep (k : κ) {kvs : List (κ × D)} {vs : List V} {d : D} {v : V} (h : Reps W φ H (kvs.map (·.2)) vs) (hv : Rep W φ H d v) :
    ∃ vs', L2.putK ((kvs.map (·.1)).zip vs) k v = ((putA kvs k d).map (·.1)).zip vs' ∧ Reps W φ H ((putA kvs k d).map (·.2)) vs' := by
  unfold L2.putK putA
  rw [zipA_any k h]
  by_cases e : (kvs.any fun kv => decide (kv.1 = k)) = true
  · rw [if_pos e, if_pos e]
    clear e
    induction kvs generalizing vs with
    | nil => cases h; exact ⟨[], rfl, .nil⟩
    | cons p r ih =>
      rw [List.map_cons] at h
      cases h with
      | @cons x w xs vs a b =>
        obtain ⟨vs', e1, r1⟩ := ih b
        by_cases e : p.1 = k
        · refine ⟨v :: vs', ?_, ?_⟩
          · simp only [List.map_cons, List.zip_cons_cons, if_pos e]
            rw [e1]
          · simp only [List.map_cons, if_pos e]
            exact .cons hv r1
        · refine ⟨w :: vs', ?_, ?_⟩
          · simp only [List.map_cons, List.zip_cons_cons, if_neg e]
            rw [e1]
          · simp only [List.map_cons, if_neg e]
            exact .cons a r1
  · rw [if_neg e, if_neg e]
    refine ⟨vs ++ [v], ?_, ?_⟩
    · rw [List.map_append, List.zip_append (by simpa using h.len)]; rfl
    · rw [List.map_append]; exact h.append (.cons hv .nil)
theorem putA_len (k : κ) (kvs : List (κ × D)) (d : D) : (putA kvs k d).length ≤ kvs.length + 1 := by
  unfold putA
  split
  · simp
  · simp
theorem getA_map (k j : κ) (y : D) : ∀ kvs : List (κ × D), getA (kvs.map fun kv => if kv.1 = k then (kv.1, y) else kv) j = (getA kvs j).map fun x => if j = k then y else x
  | [] => rfl
  | p :: r => by
    have ih := getA_map k j y r
    rw [List.map_cons, getA_cons, getA_cons, ih]
    by_cases h : p.1 = k
    · rw [if_pos h]
      by_cases e : p.1 = j
      · simp only [if_pos e]; rw [Option.map_some, if_pos (e.symm.trans h)]
      · simp only [if_neg e]
    · rw [if_neg h]
      by_cases e : p.1 = j
      · simp only [if_pos e]; rw [Option.map_some, if_neg (fun z => h (e.trans z))]
      · simp only [if_neg e]
theorem getA_app (k : κ) (as bs : List (κ × D)) : getA (as ++ bs) k = (getA as k).or (getA bs k) := by
  induction as with
  | nil => rfl
  | cons p r ih =>
    rw [List.cons_append, getA_cons, getA_cons, ih]
    by_cases e : p.1 = k
    · simp [e]
    · simp [e]
theorem getA_put (kvs : List (κ × D)) (k j : κ) (y : D) : getA (putA kvs k y) j = if j = k then some y else getA kvs j := by
  unfold putA
  by_cases a : (kvs.any fun kv => decide (kv.1 = k)) = true
  · rw [if_pos a, getA_map]
    rw [getA_any] at a
    obtain ⟨x, hx⟩ := Option.isSome_iff_exists.mp a
    by_cases e : j = k
    · subst e; simp [hx]
    · simp only [if_neg e]; cases getA kvs j <;> rfl
  · rw [if_neg a, getA_app]
    rw [getA_any] at a
    have hn : getA kvs k = none := by simpa using a
    rw [show getA [(k, y)] j = if k = j then some y else none from getA_cons]
    by_cases e : j = k
    · subst e; simp [hn]
    · rw [if_neg e, if_neg (fun z => e z.symm)]; simp
theorem putA_new {kvs : List (κ × D)} {k : κ} (y : D) (h : getA kvs k = none) : putA kvs k y = kvs ++ [(k, y)] := by
  unfold putA
  rw [getA_any, h]
  exact if_neg (by decide)
theorem keyD_rep {y : D} {v : V} {k : L2.Key} (r : Rep W φ H y v) (e : keyD y = some k) : v = kV k := by
  cases r with
  | int i => cases e; rfl
  | str x => cases e; rfl
  | _ => cases e
theorem keysD_rep : ∀ {ys : List D} {vs : List V} {k : List L2.Key}, Reps W φ H ys vs → keysD ys = some k → vs = k.map kV
  | [], _, _, r, e => by cases r; cases e; rfl
  | y :: ys, vs, k, r, e => by
    cases r with
    | @cons x v xs vs a b =>
      unfold keysD at e
      split at e
      · rename_i k1 ks e1 e2
        cases e
        rw [List.map_cons, keyD_rep a e1, keysD_rep b e2]
      · cases e
theorem zipA_len {kvs : List (κ × D)} {vs : List V} (h : Reps W φ H (kvs.map (·.2)) vs) : ((kvs.map (·.1)).zip vs).length = kvs.length := by
  have := h.len
  simp at this
  simp; omega
theorem dget_ok {x y : D} {v u : V} {Q : Option D → Prop} (S : Sim W φ hd H) (rx : Rep W φ H x v) (ry : Rep W φ H y u) (w : dgetW x y hd Q) :
    ∃ a o' o, v = .ref a ∧ DGet H a u o' ∧ Q o ∧ match o, o' with
    | some d, some v => Rep W φ H d v
    | none, none => True
    | _, _ => False := by
  unfold dgetW at w
  split at w
  · rename_i r ys
    obtain ⟨z, kvs, k, e, ek, w⟩ := w
    obtain ⟨b, hb, vs, h1, h2⟩ := S.obj _ _ e
    cases rx with
    | ref hp =>
      rw [hp] at hb; cases hb
      cases ry with
      | tup t1 t2 t3 =>
        have ev := keysD_rep t3 ek
        subst ev
        exact ⟨_, _, _, rfl, .inr ⟨_, _, _, h1.rd, rfl, t1, rfl⟩, w, getA_rep k h2⟩
  · rename_i r y' hy
    obtain ⟨z, kvs, k, e, ek, w⟩ := w
    obtain ⟨b, hb, vs, h1, h2⟩ := S.obj _ _ e
    cases rx with
    | ref hp =>
      rw [hp] at hb; cases hb
      exact ⟨_, _, _, rfl, .inl ⟨_, _, h1.rd, keyD_rep ry ek, rfl⟩, w, getA_rep k h2⟩
  · exact w.elim
end
theorem dput_cases {x y v : D} {h : Hd} {Q : Hd → Prop} (w : dputW x y v h Q) : ∃ r, x = .ref r ∧ ((∃ ys kvs k, y = .tup ys ∧ h[r]? = some (.dt false kvs) ∧ keysD ys = some k ∧ kvs.length < sizeLine ∧ Q (h.set r (.dt false (putA kvs k v)))) ∨
    ∃ kvs k, h[r]? = some (.dk false kvs) ∧ keyD y = some k ∧ kvs.length < sizeLine ∧ Q (h.set r (.dk false (putA kvs k v)))) := by
  unfold dputW at w
  split at w
  · obtain ⟨kvs, k, e, ek, hl, w3⟩ := w
    exact ⟨_, rfl, .inl ⟨_, kvs, k, rfl, e, ek, hl, w3⟩⟩
  · obtain ⟨kvs, k, e, ek, hl, w3⟩ := w
    exact ⟨_, rfl, .inr ⟨kvs, k, e, ek, hl, w3⟩⟩
  · exact w.elim
theorem nosl {i : Expr} (h : sliceB i = false) : NoSl i := by
  intro ov iv
  cases i <;> first | rfl | (simp [sliceB] at h)
theorem dnew_inv {P : Pl} {t : Bool} {e : Expr} (h : chkE P (.dnew t) e = true) : ∃ pos, e = .Dict [] [] pos := by
  unfold chkE at h
  split at h <;> first | (rename_i q; cases q; done) | (injections; subst_vars; exact ⟨_, rfl⟩) | cases h
theorem ok_dnew {t} : SndE (.dnew t) := by
  intro W G lv P WX X C e h
  obtain ⟨pos, rfl⟩ := dnew_inv h
  have p : PE X (.Dict [] [] pos) (Ter W (rV W) WX (wpE G (.dnew t))) := by
    cases t with
    | false =>
      refine pe_imp pe_dnewK fun σ H Q hq => ?_
      obtain ⟨φ, hd, σd, Qd, Xd, A, w, q, x⟩ := hq
      exact fun p hp => q (φ ++ [p]) _ _ _ _ (Ext.alloc hp) (A.sim.alloc hp (show RepO W (φ ++ [p]) _ p (.dk false []) from ⟨[], upd_same, .nil⟩)) (.ref (by rw [← A.sim.len]; simp)) w
    | true =>
      refine pe_imp pe_dnewT fun σ H Q hq => ?_
      obtain ⟨φ, hd, σd, Qd, Xd, A, w, q, x⟩ := hq
      exact fun p hp => q (φ ++ [p]) _ _ _ _ (Ext.alloc hp) (A.sim.alloc hp (show RepO W (φ ++ [p]) _ p (.dt false []) from ⟨[], upd_same, .nil⟩)) (.ref (by rw [← A.sim.len]; simp)) w
  exact ⟨p, fun _ => tst_of p rfl⟩
theorem dget_inv {P : Pl} {o i : E} {e : Expr} (h : chkE P (.dget o i) e = true) : ∃ o' i' pos, e = .Subscript o' i' pos ∧ (!sliceB i' && chkE P o o' && chkE P i i') = true := by
  unfold chkE at h
  split at h <;> first | (rename_i q; cases q; done) | (injections; subst_vars; exact ⟨_, _, _, rfl, h⟩) | cases h
theorem ok_dget {o i} (ho : SndE o) (hi : SndE i) : SndE (.dget o i) := by
  intro W G lv P WX X C e h
  obtain ⟨o', i', pos, rfl, k⟩ := dget_inv h
  simp only [Bool.and_eq_true, Bool.not_eq_true'] at k
  obtain ⟨⟨h1, h2⟩, h3⟩ := k
  have p : PE X (.Subscript o' i' pos) (Ter W (rV W) WX (wpE G (.dget o i))) := pe_imp (pe_dget (by have := C.hu; omega) (ho C o' h2).1 (hi C i' h3).1 (nosl h1)) fun σ H Q hq => by
    obtain ⟨φ, hd, σd, Qd, Xd, A, w, q, x⟩ := hq
    refine Ter.go A x w fun φ1 h1 H1 d v e1 A1 r1 w1 => Ter.go A1 (x.ext e1) w1 fun φ2 h2 H2 d2 v2 e2 A2 r2 w2 => ?_
    obtain ⟨a, o', o, ev, g, ⟨d3, rfl, w3⟩, m⟩ := dget_ok A2.sim (r1.ext e2) r2 w2
    cases o' with
    | none => exact m.elim
    | some v3 => exact ⟨a, v3, ev, g, q φ2 h2 H2 _ _ (e1.trans e2) A2.sim m w3⟩
  exact ⟨p, fun _ => tst_of p rfl⟩
theorem din_inv {P : Pl} {n : Bool} {i o : E} {e : Expr} (h : chkE P (.din n i o) e = true) : ∃ i' op o' pos, e = .Compare i' [op] [o'] pos ∧ ((if n = true then cmB .nin op else cmB .isin op) && chkE P i i' && chkE P o o' && !setB o') = true := by
  unfold chkE at h
  split at h <;> first | (rename_i q; cases q; done) | (injections; subst_vars; exact ⟨_, _, _, _, rfl, h⟩) | cases h
theorem ok_din {n i o} (hi : SndE i) (ho : SndE o) : SndE (.din n i o) := by
  intro W G lv P WX X C e h
  obtain ⟨i', op, o', pos, rfl, k⟩ := din_inv h
  simp only [Bool.and_eq_true, Bool.not_eq_true'] at k
  obtain ⟨⟨⟨h1, h2⟩, h3⟩, h4⟩ := k
  have hu : X.A.units + 1 < cLine := by have := C.hu; omega
  have bit : ∀ {W : Wd} {φ : List Addr} {H : Hp} {o : Option D} {o' : Option V}, (match o, o' with
    | some d, some v => Rep W φ H d v
    | none, none => True
    | _, _ => False) → o'.isSome = o.isSome := fun {W φ H o o'} m => by
    cases o <;> cases o' <;> first | rfl | exact m.elim
  cases n with
  | false =>
    have eo := cmB_eq (a := .isin) h1
    subst eo
    have pc := pc_din hu (hi C i' h2).1 (ho C o' h3).1
    refine ⟨pe_imp (pe_cmp (op := .In) pc (mark_plain h4)) fun σ H Q hq => ?_, fun _ => pt_imp (pt_cmp (op := .In) pc (mark_plain h4)) fun σ H Q hq => ?_⟩
    · obtain ⟨φ, hd, σd, Qd, Xd, A, w, q, x⟩ := hq
      refine Ter.go A x w fun φ1 h1 H1 d v e1 A1 r1 w1 => Ter.go A1 (x.ext e1) w1 fun φ2 h2 H2 d2 v2 e2 A2 r2 w2 => ?_
      obtain ⟨a, o', o, ev, g, w3, m⟩ := dget_ok A2.sim r2 (r1.ext e2) w2
      exact ⟨a, o', ev, g, by rw [bit m]; exact q φ2 h2 H2 _ _ (e1.trans e2) A2.sim (.bl _) w3⟩
    · obtain ⟨φ, hd, σd, Qd, Xd, A, w, q, x⟩ := hq
      refine Ter.go A x w fun φ1 h1 H1 d v e1 A1 r1 w1 => Ter.go A1 (x.ext e1) w1 fun φ2 h2 H2 d2 v2 e2 A2 r2 w2 => ?_
      obtain ⟨a, o', o, ev, g, ⟨b, eb, w3⟩, m⟩ := dget_ok A2.sim r2 (r1.ext e2) w2
      cases eb
      exact ⟨a, o', ev, g, _, rfl, by rw [bit m]; exact q φ2 h2 H2 _ _ (e1.trans e2) A2.sim rfl w3⟩
  | true =>
    have eo := cmB_eq (a := .nin) h1
    subst eo
    have pc := pc_dnotin hu (hi C i' h2).1 (ho C o' h3).1
    refine ⟨pe_imp (pe_cmp (op := .NotIn) pc (mark_plain h4)) fun σ H Q hq => ?_, fun _ => pt_imp (pt_cmp (op := .NotIn) pc (mark_plain h4)) fun σ H Q hq => ?_⟩
    · obtain ⟨φ, hd, σd, Qd, Xd, A, w, q, x⟩ := hq
      refine Ter.go A x w fun φ1 h1 H1 d v e1 A1 r1 w1 => Ter.go A1 (x.ext e1) w1 fun φ2 h2 H2 d2 v2 e2 A2 r2 w2 => ?_
      obtain ⟨a, o', o, ev, g, w3, m⟩ := dget_ok A2.sim r2 (r1.ext e2) w2
      exact ⟨a, o', ev, g, by rw [bit m]; exact q φ2 h2 H2 _ _ (e1.trans e2) A2.sim (.bl _) w3⟩
    · obtain ⟨φ, hd, σd, Qd, Xd, A, w, q, x⟩ := hq
      refine Ter.go A x w fun φ1 h1 H1 d v e1 A1 r1 w1 => Ter.go A1 (x.ext e1) w1 fun φ2 h2 H2 d2 v2 e2 A2 r2 w2 => ?_
      obtain ⟨a, o', o, ev, g, ⟨b, eb, w3⟩, m⟩ := dget_ok A2.sim r2 (r1.ext e2) w2
      cases eb
      exact ⟨a, o', ev, g, _, rfl, by rw [bit m]; exact q φ2 h2 H2 _ _ (e1.trans e2) A2.sim rfl w3⟩
end Vd

set_option Elab.async false
set_option linter.all false
set_option maxRecDepth 100000
set_option maxHeartbeats 2000000
/-! a table's display of one entry with a tuple for its key -/
namespace Vd
open PySem PySem.Spec PyProof.Rows L2
noncomputable def tDisp1 (tk tv : TE) : TE := fun σ H Q => ∀ p, H p = none → tk σ (upd H p (.dT [])) fun x H1 => tv σ H1 fun y H2 => ∃ b k, x = .ref b ∧ H2 b = some (.tup (k.map kV)) ∧ H2 p = some (.dT []) ∧ Q (.ref p) (upd H2 p (.dT (L2.putK [] k y)))
noncomputable def dspQ (p : Addr) (Q : VK) : List (V × V) → Hp → Prop
  | [(x, y)], H2 => ∃ b k, x = .ref b ∧ H2 b = some (.tup (k.map kV)) ∧ H2 p = some (.dT []) ∧ Q (.ref p) (upd H2 p (.dT (L2.putK [] k y)))
  | _, _ => False
theorem pe_disp1 {X : Cx} {pos : Pos} {k v : Expr} {tk tv : TE} (hu : X.A.units < cLine) (hk : PE X k tk) (hv : PE X v tv) : PE X (.Dict [some k] [v] pos) (tDisp1 tk tv) := by
  refine ⟨fun pins s σ H Q I q => ?_⟩
  have hn := I.hok.fresh (Nat.le_refl s.heap.objs.size)
  have I1 := I.laid (a := s.heap.objs.size) (o := .dT []) (h' := s.heap.push { cls := .type "dict", data := .dict #[] }) (t' := s.toks) (fun _ _ q => Heap.get?_push_of_some _ q) (Nat.le_refl _) (dt_empty s.heap I.big)
  have hl := pairTrees_length [some k] [v] X.env pos rfl rfl
  have hl1 : (pairTrees [some k] [v] X.env pos).length = 1 := hl
  rw [arm_eval_Dict, zip_pairTrees [some k] [v] X.env pos rfl rfl, dictDisplay_pairs (pairTrees [some k] [v] X.env pos) (fun e => by rw [e] at hl1; cases hl1) (by rw [hl1]; decide)]
  refine wpAny_bind (wpAny_standAt (wpAny_bind (wpAny_subDictH (knd := tupleKind (mixKind X.prog X.w)) (Q := fun d s' => wpAny (model X.prog X.w) X.A (pure (Value.ref d)) (fun u s' => ∃ d, ∃ H', Inv X pins σ H' s' ∧ RelV d u ∧ Q d H') X.xe s') hu (by rw [hl1]; decide) ?_)))
  have q0 : tPairs [(tk, tv)] σ (upd H s.heap.objs.size (.dT [])) (dspQ s.heap.objs.size Q) := q _ hn
  refine thn ((pps_cons hk hv pps_nil).run pins _ σ _ _ I1 q0) fun ws s2 ⟨ps, H2, I2, rel, q2⟩ => ?_
  match ps, q2, rel with
  | [(x, y)], q2, rel =>
    obtain ⟨b, kk, ex, eb, e, q3⟩ := q2
    rcases rel with _ | @⟨_, ⟨u, w2⟩, _, _, ⟨rx, ry⟩, _ | _⟩
    replace rx : RelV x u := rx
    subst ex
    cases (show u = Value.ref b from rx)
    obtain ⟨z, hd, xs, r0, dd⟩ := dt_of I2.hok e
    have ex : xs = [] := by cases r0; rfl
    subst ex
    refine ⟨[(kk, b, w2)], ⟨rfl, rfl, key_of I2.hok eb, trivial⟩, dd, fun h' tk dd' hs => wpAny_pure ⟨.ref s.heap.objs.size, _, ?_, rfl, q3⟩⟩
    have dd2 : h'.DictOfH (tupleKind (mixKind X.prog X.w)) s.heap.objs.size (storedH [] kk b w2) := dd'
    obtain ⟨q, es, ep, hq, h2, h3, h4, _, h5⟩ := dd2
    have hl : (L2.putK [] kk y).length ≤ sizeLine := by have := length_putK ([] : List (List L2.Key × V)) kk y; rw [sizeLine_eq]; simp at this; omega
    refine d_write I2 (by rw [e]; exact True.intro) hs ⟨q, hq⟩ ⟨hl, hd, _, (r0.put kk eb ry).keeps fun c ys ec => ?_, q, es, ep, hq, h2, h3, h4, h5⟩
    rw [upd_ne (ne_of ec e (fun z => nomatch z))]
    exact ec
theorem ddsp_inv {P : Pl} {k v : E} {e : Expr} (h : chkE P (.ddsp k v) e = true) : ∃ k' v' pos, e = .Dict [some k'] [v'] pos ∧ (chkE P k k' && chkE P v v') = true := by
  unfold chkE at h
  split at h <;> first | (rename_i q; cases q; done) | (injections; subst_vars; exact ⟨_, _, _, rfl, h⟩) | cases h
theorem ok_ddsp {k v} (hk : SndE k) (hv : SndE v) : SndE (.ddsp k v) := by
  intro W G lv P WX X C e h
  obtain ⟨k', v', pos, rfl, kk⟩ := ddsp_inv h
  simp only [Bool.and_eq_true] at kk
  obtain ⟨h2, h3⟩ := kk
  have p : PE X (.Dict [some k'] [v'] pos) (Ter W (rV W) WX (wpE G (.ddsp k v))) := pe_imp (pe_disp1 (by have := C.hu; omega) (hk C k' h2).1 (hv C v' h3).1) fun σ H Q hq => by
    obtain ⟨φ, hd, σd, Qd, Xd, A, w, q, x⟩ := hq
    intro p hp
    have e0 : Ext φ (φ ++ [p]) H (upd H p (.dT [])) := Ext.alloc hp
    have A0 : At W (φ ++ [p]) (hd ++ [.dt false []]) (upd H p (.dT [])) σd σ := ⟨A.sim.alloc hp (show RepO W (φ ++ [p]) _ p (.dt false []) from ⟨[], upd_same, .nil⟩), A.st.ext e0⟩
    have r0 : Rep W (φ ++ [p]) (upd H p (.dT [])) (.ref hd.length) (.ref p) := .ref (by rw [← A.sim.len]; simp)
    refine Ter.go A0 (x.ext e0) w fun φ1 h1 H1 d v e1 A1 r1 w1 => Ter.go A1 (x.ext (e0.trans e1)) w1 fun φ2 h2 H2 d2 v2 e2 A2 r2 w2 => ?_
    have r1 := r1.ext e2
    have r0 := r0.ext (e1.trans e2)
    obtain ⟨ys, ks, rfl, ek, eh, w3⟩ := w2
    obtain ⟨b, hb, vs, q1, q2⟩ := A2.sim.obj _ _ eh
    cases r0 with
    | ref hp2 =>
      rw [hp2] at hb; cases hb
      cases r1 with
      | tup t1 t2 t3 =>
        have ev := keysD_rep t3 ek
        subst ev
        obtain ⟨vs', p1, p2⟩ := putA_rep ks q2 r2
        have q3 : H2 p = some (.dT []) := q1
        refine ⟨_, ks, rfl, t1, q3, ?_⟩
        have E := Ext.write (φ := φ2) (H := H2) (o := .dT (L2.putK [] ks v2)) (List.mem_of_getElem? hp2) (nofrz q3 (fun _ _ z => nomatch z))
        exact q φ2 _ _ _ _ (e0.trans (e1.trans (e2.trans E))) (A2.sim.write hp2 (nofrz q3 (fun _ _ z => nomatch z)) (show RepO W φ2 _ _ (.dt false (putA [] ks d2)) from ⟨vs', by rw [← p1]; exact upd_same, p2.ext E⟩)) (.ref hp2) w3
  exact ⟨p, fun _ => tst_of p rfl⟩
/-! ### len of a table; its keys walked (it is locked from there on) -/
theorem dln_inv {P : Pl} {a : E} {e : Expr} (h : chkE P (.dln a) e = true) : ∃ x p a' pos, e = .Call (.Name x p) [a'] [] pos ∧ (P.cm && decide (x = Str.ofString "len") && glB P.sc x && okN x && !starB a' && chkE P a a') = true := by
  unfold chkE at h
  split at h <;> first | (rename_i q; cases q; done) | (injections; subst_vars; exact ⟨_, _, _, _, rfl, h⟩) | cases h
theorem cr_dlen {X : Cx} : CallR X (.builtin "len") (fun xs H Q => ∃ a kvs, xs = [V.ref a] ∧ Rd H a (.dK kvs) ∧ Q (.int kvs.length) H) := by
  intro pins s σ H xs us Q I r h
  obtain ⟨a, kvs, rfl, ha, q⟩ := h
  cases r with
  | cons ru rr =>
    cases rr
    cases ru
    exact d_len I ha fun t s' I' => ⟨.int kvs.length, H, I', ⟨t, rfl⟩, q⟩
theorem ok_dln {a} (ha : SndE a) : SndE (.dln a) := by
  intro W G lv P WX X C e h
  obtain ⟨x, p, a', pos, rfl, k⟩ := dln_inv h
  simp only [Bool.and_eq_true, decide_eq_true_eq, Bool.not_eq_true'] at k
  obtain ⟨⟨⟨⟨⟨hc, rfl⟩, h2⟩, h3⟩, h4⟩, h5⟩ := k
  have pr : PE X (.Call (.Name (Str.ofString "len") p) [a'] [] pos) (Ter W (rV W) WX (wpE G (.dln a))) :=
    pe_imp (pe_callV (.inl ⟨"len", rfl⟩) cr_dlen (C.gl' h2) (C.bn "len" _ rfl) (biV_boot (f := "len") rfl) (pa_cons (ha C a' h5).1 pa_nil (star_cons h4)) (okN_inv h3).2.2 (okN_inv h3).1 (star_cons h4) (star_any (es := []) rfl)) fun σ H Q hq => by
      obtain ⟨φ, hd, σd, Qd, Xd, A, w, q, x⟩ := hq
      refine Ter.go A x w fun φ1 h1 H1 d v e1 A1 r1 w1 => ?_
      obtain ⟨r, z, kvs, rfl, er, w1⟩ := w1
      obtain ⟨b, hb, vs, q1, q2⟩ := A1.sim.obj _ _ er
      cases r1 with
      | ref hp =>
        rw [hp] at hb; cases hb
        refine ⟨_, _, rfl, q1.rd, ?_⟩
        rw [zipA_len q2]
        exact q φ1 h1 H1 _ _ e1 A1.sim (.int _) w1
  exact ⟨pr, fun _ => tst_of pr rfl⟩
noncomputable def iKysL (td : TE) : TI := fun σ H R => td σ H fun x H1 => ∃ d kvs, x = .ref d ∧ H1 d = some (.dK kvs) ∧ ∀ od, R (Itk d od kvs) (upd H1 d (.frz od (.dK kvs)))
theorem pi_kysL {X : Cx} {tg e : Expr} {td : TE} (he : PE X e td) : PI X tg e (iKysL td) := by
  refine ⟨fun pins s σ H R I h => ?_⟩
  refine thn (he.run pins s σ H _ I h) fun u s1 ⟨x, H1, I1, rx, d, kvs, ex, hd, q⟩ => ?_
  subst ex
  obtain rfl : u = Value.ref d := rx
  obtain ⟨od, I2⟩ := I1.lock hd (show Mut (some (HO.dK kvs)) from True.intro)
  obtain ⟨hs, hgd, hx, es, ep, vs, hdt, hsz, kv, hm⟩ := I2.frzK upd_same
  refine iter_keys hs hgd hx hdt (pi_one (tk := s1.toks) I2 _ (turn_keys _ hdt) ⟨_, Heap.get?_push_size _ rfl, rfl, ?_⟩ (q od))
  rw [hsz] <;> rfl
end Vd

set_option Elab.async false
set_option linter.all false
set_option maxRecDepth 100000
set_option maxHeartbeats 4000000
/-! classes called, methods, isinstance of the exception at hand -/
namespace Vd
open PySem PySem.Spec PyProof.Rows L2
section
variable {X : Cx} {CT : CXT} {k : Nat} {g Cc : Addr} {gd : FuncData} {ps : List Str} {sp : Sp} {EE : L2.St → L2.XK} {nm m : Str} {p1 p2 p3 : Pos} {a1 o1 : Expr} {as : List Expr} {tr : TE} {tas : TA}
/-- a def's promise, run at the slots σ -/
theorem go_fn {pn : List (Addr × Obj)} {σ : L2.St} {H : Hp} {s : Shared} {Q : VK} {us : List Value} {vs : List V} (F : FnOk X.prog X.w X.K X.mg X.base CT k g gd ps sp) (hr : Room k X.A) (hb : Binds X.K gd ps []) (hx : PassesAt CT X σ (EE σ)) (I : Inv X pn σ H s) (rv : Vals vs us) (hq : sp vs H Q (EE σ)) :
    wpAny (model X.prog X.w) X.A (call (.ref g) us) (EP X pn σ Q) X.xe s := run_fnS F hr hb hx I rv hq
/-- what the class at Cc promises of its method m -/
noncomputable def MAt (X : Cx) (m : Str) (Cc : Addr) (sp : Sp) : Prop := Cls X.K Cc ∧ ∃ (g : Addr) (gd : FuncData) (ps : List Str) (k : Nat), Meth X.K Cc m g ∧ FnOk X.prog X.w X.K X.mg X.base (CX X.prog X.w) k g gd ps sp ∧ Room k X.A ∧ Binds X.K gd ps []
/-- o.m(a, ..), that may raise; the class is the one that o is of -/
theorem pe_methR {pl : Sem Bool} (he : PE X o1 tr) (hx : ∀ σ, PassesAt (CX X.prog X.w) X σ (EE σ)) (ha : PA X (a1 :: as) tas)
    (hst : starEach (a1 :: as) X.env = (false, eval a1 X.env) :: starEach as X.env) (hpl : (backTo p3 (starEach as X.env)).any (·.1) = false)
    (hev : eval (.Call (.Attribute o1 m p2) (a1 :: as) [] p3) X.env = (do
      let w ← eval o1 X.env
      standAt p2.atName
      let (ff, fst) ← holding [w] (getMethod w m pl)
      callWith p3 ff fst (backTo p3 (starEach (a1 :: as) X.env)) (backToKw p3 (keywordEach [] X.env)))) :
    PE X (.Call (.Attribute o1 m p2) (a1 :: as) [] p3) (fun σ H Q => tr σ H fun x H1 => ∃ a Cc dx fs sp, x = .ref a ∧ H1 a = some (.ins Cc dx fs) ∧ MAt X m Cc sp ∧ fs.lookup m = none ∧ tas σ H1 fun vs H2 => sp (x :: vs) H2 Q (EE σ)) := by
  constructor
  intro pn s σ H Q I h
  refine PySem.W.methodCall_KW (pl := pl) (thn (he.run pn s σ H _ I h) fun u s1 hh => ?_) hev
  obtain ⟨x, H1, I1, rx, a, Cc, dx, fs, sp, ex, ea, ⟨hc, g, gd, ps, k, hm, F, hr, hb⟩, l, q⟩ := hh
  subst ex
  cases (show u = Value.ref a from rx)
  refine getmeth_ok I1 ea hc hm l ?_
  refine PySem.W.callWith_K (first := [.ref a]) (h₀ := X.base) I.ok.mod.kin hm.kp (thn (ha.run p3 pn s1 σ H1 _ I1 q) fun us s2 hh => ?_) hst hpl
  obtain ⟨vs, H2, I2, r, q2⟩ := hh
  exact ⟨I2.kIn, go_fn (us := .ref a :: us) (vs := .ref a :: vs) F hr hb (hx σ) I2 (.cons rfl r) q2⟩
/-- o.m(), that may raise -/
theorem pe_methR0 {pl : Sem Bool} (he : PE X o1 tr) (hx : ∀ σ, PassesAt (CX X.prog X.w) X σ (EE σ))
    (hev : eval (.Call (.Attribute o1 m p2) [] [] p3) X.env = (do
      let w ← eval o1 X.env
      standAt p2.atName
      let (ff, fst) ← holding [w] (getMethod w m pl)
      callWith p3 ff fst (backTo p3 (starEach [] X.env)) (backToKw p3 (keywordEach [] X.env)))) :
    PE X (.Call (.Attribute o1 m p2) [] [] p3) (fun σ H Q => tr σ H fun x H1 => ∃ a Cc dx fs sp, x = .ref a ∧ H1 a = some (.ins Cc dx fs) ∧ MAt X m Cc sp ∧ fs.lookup m = none ∧ sp [x] H1 Q (EE σ)) := by
  constructor
  intro pn s σ H Q I h
  refine PySem.W.methodCall_KW (pl := pl) (thn (he.run pn s σ H _ I h) fun u s1 hh => ?_) hev
  obtain ⟨x, H1, I1, rx, a, Cc, dx, fs, sp, ex, ea, ⟨hc, g, gd, ps, k, hm, F, hr, hb⟩, l, q⟩ := hh
  subst ex
  cases (show u = Value.ref a from rx)
  refine getmeth_ok I1 ea hc hm l ?_
  exact PySem.W.callWith_K0 (first := [.ref a]) I1.kIn hm.kp (go_fn (us := [.ref a]) (vs := [.ref a]) F hr hb (hx σ) I1 (.cons rfl .nil) q)
/-- C(a, ..), that may raise -/
theorem go_make {pn : List (Addr × Obj)} {σ : L2.St} {H : Hp} {s : Shared} {Q : VK} {us : List Value} {vs : List V} (M : Mk X.K Cc g) (F : FnOk X.prog X.w X.K X.mg X.base CT k g gd ps sp) (hr : Room (k + 1) X.A) (hb : Binds X.K gd ps []) (hx : PassesAt CT X σ (EE σ)) (I : Inv X pn σ H s) (rv : Vals vs us)
    (hq : ∀ x dx, H x = none → H dx = none → dx ≠ x → sp (.ref x :: vs) (upd (upd H dx (.own x)) x (.ins Cc dx [])) (fun v H2 => v = .non ∧ Q (.ref x) H2) (EE σ)) :
    wpAny (model X.prog X.w) X.A (call (.ref Cc) us) (EP X pn σ Q) X.xe s := by
  have go := hq (s.heap.objs.size + 1) s.heap.objs.size (I.hok.fresh (Nat.le_succ _)) (I.hok.fresh (Nat.le_refl _)) (Nat.ne_of_lt (Nat.lt_succ_self _))
  have J := Inv.made (C := Cc) I
  have rv2 : Vals (V.ref (s.heap.objs.size + 1) :: vs) (Value.ref (s.heap.objs.size + 1) :: us) := .cons rfl rv
  have hlen : (Value.ref (s.heap.objs.size + 1) :: us).length = ps.length := by
    rw [← rv2.length]
    exact F.len _ _ _ _ go
  have bb := hb _ (Value.ref (s.heap.objs.size + 1) :: us) J.kIn (by rw [List.append_nil]; exact hlen)
  rw [List.append_nil] at bb
  have run := F.run _ X.stack _ _ ⟨Value.ref (s.heap.objs.size + 1) :: us, []⟩ (Value.ref (s.heap.objs.size + 1) :: us) _ _ (EE σ) (hr.make Cc us []) (J.env0.make Cc us []) bb rv2 go
  refine wpAny_call (make_map (f := g) I.kIn M.makes M.init (beq_iff_eq.mp M.fn) (codeAny_mono run fun r s' hw => ?_))
  match r, hw with
  | .error e, hw => exact hx pn _ _ e s' J hw
  | .ok (.ret u), hw =>
    obtain ⟨v, H', I3, r3, ev, q3⟩ := J.after hw
    subst ev
    exact ⟨r3, V.ref (s.heap.objs.size + 1), H', I3, rfl, q3⟩
  | .ok .next, hw => exact False.elim hw
  | .ok .brk, hw => exact False.elim hw
  | .ok .cont, hw => exact False.elim hw
theorem pe_makeR (M : Mk X.K Cc g) (F : FnOk X.prog X.w X.K X.mg X.base CT k g gd ps sp) (hr : Room (k + 1) X.A) (hg : Gl X nm) (hmg : X.mg nm = some (.ref Cc)) (hb : Binds X.K gd ps []) (hx : ∀ σ, PassesAt CT X σ (EE σ)) (ha : PA X (a1 :: as) tas)
    (hdb : (nm == ("__debug__" : Str)) = false) (hst : starEach (a1 :: as) X.env = (false, eval a1 X.env) :: starEach as X.env) (hpl : (backTo p3 (starEach as X.env)).any (·.1) = false) :
    PE X (.Call (.Name nm p1) (a1 :: as) [] p3) (fun σ H Q => tas σ H fun vs H1 => ∀ x dx, H1 x = none → H1 dx = none → dx ≠ x → sp (.ref x :: vs) (upd (upd H1 dx (.own x)) x (.ins Cc dx [])) (fun v H2 => v = .non ∧ Q (.ref x) H2) (EE σ)) := by
  constructor
  intro pn s σ H Q I h
  refine wpAny_Call_Name_kw (ld_glob I hg hmg ?_ hdb)
  refine PySem.W.callWith_K (h₀ := X.base) I.ok.mod.kin M.kp (thn (ha.run p3 pn s σ H _ I h) fun us s1 hh => ?_) hst hpl
  obtain ⟨vs, H1, I1, r, q⟩ := hh
  exact ⟨I1.kIn, go_make M F hr hb (hx σ) I1 r q⟩
end
section
variable {W : Wd} {G : Gam} {lv : Nat} {P : Pl} {WX : L2.WX} {X : Cx}
theorem make_inv {c : String} {es : Es} {e : Expr} (h : chkE P (.make c es) e = true) : ∃ x p v vs pos, e = .Call (.Name x p) (v :: vs) [] pos ∧ (P.cm && decide (x = Str.ofString c) && glB P.sc x && okN x && (v :: vs).all (fun e => !starB e) && chkEs P es (v :: vs)) = true := by
  unfold chkE at h
  split at h <;> first | (rename_i q; cases q; done) | (injections; subst_vars; exact ⟨_, _, _, _, _, rfl, h⟩) | cases h
theorem ok_make {c es} (hs : SndEs es) : SndE (.make c es) := by
  intro W G lv P WX X C e h
  obtain ⟨x, p, v, vs, pos, rfl, k⟩ := make_inv h
  simp only [Bool.and_eq_true, decide_eq_true_eq] at k
  obtain ⟨⟨⟨⟨⟨hc, rfl⟩, h2⟩, h3⟩, h4⟩, h5⟩ := k
  have pr : PE X (.Call (.Name (Str.ofString c) p) (v :: vs) [] pos) (Ter W (rV W) WX (wpE G (.make c es))) := by
    cases ef : G.isMk c with
    | false =>
      refine ⟨fun pins s σ H Q I hq => ?_⟩
      obtain ⟨φ, hd, σd, Qd, Xd, A, ⟨w, _⟩, q, x⟩ := hq
      rw [ef] at w; cases w
    | true =>
      obtain ⟨Ca, fa, fd, ps, kk, me, hlv, hm, M, hb, F, hG⟩ := C.mks hc c ef
      have h4' : starB v = false ∧ vs.all (fun e => !starB e) = true := by
        rw [List.all_cons, Bool.and_eq_true] at h4
        exact ⟨by simpa using h4.1, h4.2⟩
      have hcl : clOf W.mg c = some Ca := by
        unfold clOf
        rw [← C.mg, hm]
      refine pe_imp (pe_makeR M F (by rw [← hlv]; exact C.room hc) (C.gl' h2) hm hb (fun σ => passAt C.tk σ) ((hs C (v :: vs) h5).1 h4) (okN_inv h3).1 (star_cons h4'.1) (star_any h4'.2)) fun σ H Q hq => ?_
      obtain ⟨φ, hd, σd, Qd, Xd, A, ⟨_, w⟩, q, x⟩ := hq
      refine Ter.go A x w fun φ1 h1 H1 d vv e1 A1 r1 w1 => ?_
      intro xa dx nx ndx nex
      rw [hG] at w1
      have s1 : Sim W φ1 h1 (upd H1 dx (.own xa)) := A1.sim.new ndx
      have e2 : Ext φ1 φ1 H1 (upd H1 dx (.own xa)) := Ext.new ndx
      have nx2 : (upd H1 dx (.own xa)) xa = none := by rw [upd_ne (Ne.symm nex)]; exact nx
      have e3 : Ext φ1 (φ1 ++ [xa]) (upd H1 dx (.own xa)) (upd (upd H1 dx (.own xa)) xa (.ins Ca dx [])) := Ext.alloc nx2
      have s2 : Sim W (φ1 ++ [xa]) (h1 ++ [.ins c [] []]) (upd (upd H1 dx (.own xa)) xa (.ins Ca dx [])) := s1.alloc nx2 ⟨Ca, dx, [], upd_same, hcl, .nil, rfl⟩
      have e4 := e2.trans e3
      unfold mkW at w1
      refine ⟨W.fb, φ1 ++ [xa], h1 ++ [.ins c [] []], .ref h1.length :: d, _, _, s2, .cons (.ref (by rw [← A1.sim.len]; simp)) (r1.ext e4), w1, ?_, ?_⟩
      · intro φ' hd' H' dv vv' e5 s5 r5 w5
        obtain ⟨rfl, w5⟩ := w5
        cases r5
        refine ⟨rfl, ?_⟩
        have e6 := e4.trans e5
        have hx : φ'[h1.length]? = some xa := by
          obtain ⟨l, el, _⟩ := e5.pre
          rw [el, List.getElem?_append_left (by simp [A1.sim.len]), ← A1.sim.len]
          simp
        exact Exit.ok (W := W) A1.sim e6 s5 (.ref hx) w5 (q.ext e1)
      · intro φ' hd' H' cc CC e5 s5 hk w5
        have e6 := e4.trans e5
        rcases w5 with w5 | ⟨pp, w5⟩
        · exact x φ' hd' H' cc CC (e1.trans e6) s5 hk w5
        · obtain ⟨l, el, hl⟩ := e6.pre
          have ht : φ'.take h1.length = φ1 := by rw [el, ← A1.sim.len]; simp
          have pre : hd'.take h1.length = h1 := by
            obtain ⟨t, et⟩ := pp
            rw [← et]; simp
          have S2 := s5.take (n := h1.length) (by rw [pre]; exact A1.sim.bdo) pp.length_le
          rw [ht, pre] at S2
          have e7 : Ext φ1 φ1 H1 H' := ⟨⟨[], by simp, by simp⟩, e6.keep, e6.there, e6.frz⟩
          exact x φ1 h1 H' cc CC (e1.trans e7) S2 hk w5
  exact ⟨pr, fun _ => tst_of pr rfl⟩
theorem meth_inv {o : E} {f : String} {es : Es} {e : Expr} (h : chkE P (.meth o f es) e = true) : ∃ o' g ap vs cp, e = .Call (.Attribute o' g ap) vs [] cp ∧ (P.cm && decide (g = Str.ofString f) && (ap.endLine == cp.line) && decide (vs.length < 20) && baseB o' && chkE P o o' && vs.all (fun e => !starB e) && chkEs P es vs) = true := by
  unfold chkE at h
  split at h <;> first | (rename_i q; cases q; done) | (injections; subst_vars; exact ⟨_, _, _, _, _, rfl, h⟩) | cases h
theorem flook_none {ns : List String} {vs : List D} {ws : List V} {f : String} (h : flook ns vs f = none) (l1 : ns.length = ws.length) (l2 : vs.length = ws.length) : ((ns.map Str.ofString).zip ws).lookup (Str.ofString f) = none := by
  induction ns generalizing vs ws with
  | nil => rfl
  | cons n ns ih =>
    cases ws with
    | nil => cases l1
    | cons w ws =>
      cases vs with
      | nil => cases l2
      | cons v vs =>
        simp only [flook] at h
        show List.lookup (Str.ofString f) ((Str.ofString n, w) :: (ns.map Str.ofString).zip ws) = none
        by_cases e : n = f
        · rw [if_pos e] at h
          cases h
        · rw [if_neg e] at h
          have ne : (Str.ofString f == Str.ofString n) = false := by
            rw [beq_eq_false_iff_ne]
            exact fun z => e (ofString_inj z).symm
          rw [List.lookup_cons, ne]
          exact ih h (by simpa using l1) (by simpa using l2)
theorem meth_ev {o : Expr} {name : Str} {ap pos : Pos} {es : List Expr} {env : Env} (hbase : attributeBase o name env (eval o env) = eval o env) (hn : es.length < 20) (hs : es.all (fun e => !starB e) = true) (hline : (ap.endLine == pos.line) = true) :
    eval (.Call (.Attribute o name ap) es [] pos) env = (do
      let w ← eval o env
      standAt ap.atName
      let (ff, fst) ← holding [w] (getMethod w name (do return (← importBound o env).getD true))
      callWith pos ff fst (backTo pos (starEach es env)) (backToKw pos (keywordEach [] env))) := by
  have hform : methodCallForm (es.length + ([] : List Keyword).length) (backTo pos (starEach es env)) (backToKw pos (keywordEach [] env)) = true := bm_plain hn hs
  have hpos : methodCallPos true o env ap pos = pure pos := by unfold methodCallPos; simp [hline]
  rw [arm_eval_Call, hbase]
  unfold methodCall
  rw [hform]
  unfold calleeOf
  rw [hpos]
  rfl
theorem ok_meth {o f es} (ho : SndE o) (hs : SndEs es) : SndE (.meth o f es) := by
  intro W G lv P WX X C e h
  obtain ⟨o', g, ap, vs, cp, rfl, k⟩ := meth_inv h
  simp only [Bool.and_eq_true, decide_eq_true_eq] at k
  obtain ⟨⟨⟨⟨⟨⟨⟨hc, rfl⟩, hl⟩, hn⟩, h1⟩, h2⟩, h3⟩, h4⟩ := k
  have pr : PE X (.Call (.Attribute o' (Str.ofString f) ap) vs [] cp) (Ter W (rV W) WX (wpE G (.meth o f es))) := by
    have cls : ∀ {φ1 h1 H1 d v c ns vs0 σ σd}, At W φ1 h1 H1 σd σ → Rep W φ1 H1 d v → rdI h1 d = some (c, ns, vs0) → G.isMe c f = true → flook ns vs0 f = none →
        ∃ a Cc dx fs, v = .ref a ∧ H1 a = some (.ins Cc dx fs) ∧ MAt X (Str.ofString f) Cc (SPd W (G.me c f)) ∧ fs.lookup (Str.ofString f) = none := by
      intro φ1 h1 H1 d v c ns vs0 σ σd A1 r1 ec hme hl'
      obtain ⟨Cm, fa, fd, ps, m1, m2, m3, m4, m5⟩ := C.mes hc c f hme
      have fin : ∀ {C' dx ws} {p : Addr}, H1 p = some (.ins C' dx ((ns.map Str.ofString).zip ws)) → clOf W.mg c = some C' → Reps W φ1 H1 vs0 ws → ns.length = ws.length → v = .ref p →
          ∃ a Cc dx fs, v = .ref a ∧ H1 a = some (.ins Cc dx fs) ∧ MAt X (Str.ofString f) Cc (SPd W (G.me c f)) ∧ fs.lookup (Str.ofString f) = none := by
        intro C' dx ws p e2 hcc rs ll ev
        rw [m1] at hcc
        cases hcc
        exact ⟨p, Cm, dx, _, ev, e2, ⟨m2, fa, fd, ps, lv, m3, m5, C.room hc, m4⟩, flook_none hl' ll rs.len⟩
      cases r1 with
      | vi e2 n hcc ef rs ll =>
        cases ec
        subst ef
        exact fin e2 hcc rs ll rfl
      | @ref n p hp =>
        have e : (match h1[n]? with
          | some (.ins c ns vs) => some (c, ns, vs)
          | _ => none) = some (c, ns, vs0) := ec
        cases eo : h1[n]? with
        | none => rw [eo] at e; cases e
        | some ob =>
          rw [eo] at e
          cases ob with
          | lst => cases e
          | dk => cases e
          | dt => cases e
          | ins c2 ns2 vs2 =>
            cases e
            obtain ⟨b, hb, C', dx, ws, q1, q2, q3, q4⟩ := A1.sim.obj n _ eo
            rw [hp] at hb; cases hb
            exact fin q1 q2 q3 q4 rfl
      | _ => cases ec
    cases vs with
    | nil =>
      refine pe_imp (pe_methR0 (ho C o' h2).1 (fun σ => passAt C.tk σ) (meth_ev (base_plain h1) hn h3 hl)) fun σ H Q hq => ?_
      obtain ⟨φ, hd, σd, Qd, Xd, A, w, q, x⟩ := hq
      refine Ter.go A x w fun φ1 h1 H1 d v e1 A1 r1 w1 => ?_
      obtain ⟨c, ns, vs0, ec, hme, hl', w1⟩ := w1
      obtain ⟨a, Cc, dx, fs, ev, ea, ma, lk⟩ := cls A1 r1 ec hme hl'
      refine ⟨a, Cc, dx, fs, _, ev, ea, ma, lk, ?_⟩
      cases es with
      | nil => exact ⟨W.fb, φ1, h1, [d], Qd, Xd, A1.sim, .cons r1 .nil, w1, q.ext e1, x.ext e1⟩
      | cons => simp [chkEs] at h4
    | cons v vs =>
      have h4' : starB v = false ∧ vs.all (fun e => !starB e) = true := by
        rw [List.all_cons, Bool.and_eq_true] at h3
        exact ⟨by simpa using h3.1, h3.2⟩
      refine pe_imp (pe_methR (ho C o' h2).1 (fun σ => passAt C.tk σ) ((hs C (v :: vs) h4).1 h3) (star_cons h4'.1) (star_any h4'.2) (meth_ev (base_plain h1) hn h3 hl)) fun σ H Q hq => ?_
      obtain ⟨φ, hd, σd, Qd, Xd, A, w, q, x⟩ := hq
      refine Ter.go A x w fun φ1 h1 H1 d v e1 A1 r1 w1 => ?_
      obtain ⟨c, ns, vs0, ec, hme, hl', w1⟩ := w1
      obtain ⟨a, Cc, dx, fs, ev, ea, ma, lk⟩ := cls A1 r1 ec hme hl'
      refine ⟨a, Cc, dx, fs, _, ev, ea, ma, lk, ?_⟩
      exact Ter.go A1 (x.ext e1) w1 fun φ2 h2 H2 d2 v2 e2 A2 r2 w2 => ⟨W.fb, φ2, h2, d :: d2, Qd, Xd, A2.sim, .cons (r1.ext e2) r2, w2, q.ext (e1.trans e2), x.ext (e1.trans e2)⟩
  exact ⟨pr, fun _ => tst_of pr rfl⟩
/-! ### isinstance of the exception -/
theorem ise_inv {i : Nat} {t : String} {e : Expr} (h : chkE P (.ise i t) e = true) : ∃ x p y py t' p' pos, e = .Call (.Name x p) [.Name y py, .Name t' p'] [] pos ∧
    (P.ex && decide (x = Str.ofString "isinstance") && glB P.sc x && decide (P.N[i]? = some y) && visB P.sc y && okN y && decide (t' = Str.ofString t) && glB P.sc t' && okN t') = true := by
  unfold chkE at h
  split at h <;> first | (rename_i q; cases q; done) | (injections; subst_vars; exact ⟨_, _, _, _, _, _, _, rfl, h⟩) | cases h
theorem ok_ise {i t} : SndE (.ise i t) := by
  intro W G lv P WX X C e h
  obtain ⟨x, p, y, py, t', p', pos, rfl, k⟩ := ise_inv h
  simp only [Bool.and_eq_true, decide_eq_true_eq] at k
  obtain ⟨⟨⟨⟨⟨⟨⟨⟨hx, rfl⟩, h1⟩, h2⟩, h3⟩, h4⟩, rfl⟩, h5⟩, h6⟩ := k
  have pv : PE X (.Name y py) _ := pe_var (i := i) (by rw [C.N]; exact h2) (C.vis h3) (okN_inv h4).1 (okN_inv h4).2.1
  have pr : PE X (.Call (.Name (Str.ofString "isinstance") p) [.Name y py, .Name (Str.ofString t) p'] [] pos) (Ter W (rV W) WX (wpE G (.ise i t))) := by
    refine ⟨fun pins s σ H Q I hq => ?_⟩
    obtain ⟨φ, hd, σd, Qd, Xd, A, ⟨c, b, w1, w2, w3, w4⟩, q, xx⟩ := hq
    obtain ⟨a, Ca, z1, z2, z3⟩ := C.xe hx i c w2
    have hσ : σ[i]? = some (some (.ref a)) := A.st.xs _ z1 w1
    have fin : Q (.bl b) H := q φ hd H _ _ .refl A.sim (.bl b) w4
    rcases C.sub c t b w3 Ca z2 with ⟨T, t1, t2⟩ | ⟨rfl, t1, t2⟩
    · have pt : PE X (.Name (Str.ofString t) p') _ := pe_glob (v := .ref T) (C.gl' h5) t1 rfl (okN_inv h6).1
      have pa : PA X [.Name y py, .Name (Str.ofString t) p'] _ := pa_cons pv (pa_cons pt pa_nil)
      exact (pe_callB z3 (C.gl' h1) C.isn boot_isinstance pa (by decide) (by decide)).run pins s σ H Q I ⟨_, hσ, .ref T, .ref T, b, rfl, fun u r => r, t2, fin⟩
    · have pt : PE X (.Name (Str.ofString "ValueError") p') (tC (.ty "ValueError")) := pe_bltn (C.gl' h5) t1 (by decide +kernel) rfl (okN_inv h6).2.2 (okN_inv h6).1
      have pa : PA X [.Name y py, .Name (Str.ofString "ValueError") p'] _ := pa_cons pv (pa_cons pt pa_nil)
      exact (pe_callB z3 (C.gl' h1) C.isn boot_isinstance pa (by decide) (by decide)).run pins s σ H Q I ⟨_, hσ, .ty "ValueError", .type "ValueError", b, rfl, fun u r => r, t2, fin⟩
  exact ⟨pr, fun _ => tst_of pr rfl⟩
end
end Vd

set_option Elab.async false
set_option linter.all false
set_option maxRecDepth 100000
set_option maxHeartbeats 2000000
namespace Vd
open PySem PySem.Spec PyProof.Rows L2
theorem starE {P : Pl} {c : E} {e : Expr} (h : chkE P c e = true) : starB e = false := by
  cases e <;> first | rfl | (cases c <;> simp [chkE] at h)
theorem ok_nil : SndEs .nil := by
  intro W G lv P WX X C vs h
  cases vs with
  | nil =>
    refine ⟨fun _ => pa_imp pa_nil fun σ H Q hq => ?_, fun h => absurd rfl h⟩
    obtain ⟨φ, hd, σd, Qd, Xd, A, w, q, x⟩ := hq
    exact q φ hd H [] [] .refl A.sim .nil w
  | cons => simp [chkEs] at h
theorem ok_cons {c r} (hc : SndE c) (hr : SndEs r) : SndEs (.cons c r) := by
  intro W G lv P WX X C vs h
  cases vs with
  | nil => simp [chkEs] at h
  | cons v vs =>
    simp only [chkEs, Bool.and_eq_true] at h
    obtain ⟨h1, h2⟩ := h
    obtain ⟨pv, pt⟩ := hc C v h1
    obtain ⟨ra, rb⟩ := hr C vs h2
    refine ⟨fun hs => ?_, fun _ pos => ?_⟩
    · rw [List.all_cons, Bool.and_eq_true] at hs
      refine pa_imp (pa_cons pv (ra hs.2) (star_cons (by simpa using hs.1))) fun σ H Q hq => ?_
      obtain ⟨φ, hd, σd, Qd, Xd, A, w, q, x⟩ := hq
      exact Ter.go A x w fun φ1 h1 H1 d v e1 A1 r1 w1 => Ter.go A1 (x.ext e1) w1 fun φ2 h2 H2 d2 v2 e2 A2 r2 w2 => q φ2 h2 H2 _ _ (e1.trans e2) A2.sim (.cons (r1.ext e2) r2) w2
    · cases vs with
      | nil =>
        cases r with
        | cons => simp [chkEs] at h2
        | nil =>
          refine ⟨pe_imp (pe_one pv) fun _ _ _ h => h, pe_imp (pe_one pv) fun _ _ _ h => h, fun ht => ?_⟩
          have ht' : tstB c = true := by simp only [tstsB, Bool.and_eq_true] at ht; exact ht.1
          exact ⟨pw_imp (pw_and1 (pt ht')) fun _ _ _ h => h, pw_imp (pw_or1 (pt ht')) fun _ _ _ h => h⟩
      | cons u us =>
        obtain ⟨i1, i2, i3⟩ := rb (by simp) pos
        cases r with
        | nil => simp [chkEs] at h2
        | cons c2 r2 =>
          refine ⟨pe_imp (pe_and pv i1) fun σ H Q hq => ?_, pe_imp (pe_or pv i2) fun σ H Q hq => ?_, fun ht => ?_⟩
          · obtain ⟨φ, hd, σd, Qd, Xd, A, w, q, x⟩ := hq
            refine Ter.go A x w fun φ1 h1 H1 d v e1 A1 r1 w1 => ?_
            obtain ⟨b, rfl, w1⟩ := w1
            cases r1
            refine ⟨b, rfl, ?_⟩
            cases b with
            | true =>
              rw [if_pos rfl] at w1 ⊢
              exact Ter.go A1 (x.ext e1) w1 fun φ2 h2 H2 d2 v2 e2 A2 r2 w2 => q φ2 h2 H2 _ _ (e1.trans e2) A2.sim r2 w2
            | false =>
              rw [if_neg Bool.false_ne_true] at w1 ⊢
              exact q φ1 h1 H1 _ _ e1 A1.sim (.bl _) w1
          · obtain ⟨φ, hd, σd, Qd, Xd, A, w, q, x⟩ := hq
            refine Ter.go A x w fun φ1 h1 H1 d v e1 A1 r1 w1 => ?_
            obtain ⟨b, rfl, w1⟩ := w1
            cases r1
            refine ⟨b, rfl, ?_⟩
            cases b with
            | true =>
              rw [if_pos rfl] at w1 ⊢
              exact q φ1 h1 H1 _ _ e1 A1.sim (.bl _) w1
            | false =>
              rw [if_neg Bool.false_ne_true] at w1 ⊢
              exact Ter.go A1 (x.ext e1) w1 fun φ2 h2 H2 d2 v2 e2 A2 r2 w2 => q φ2 h2 H2 _ _ (e1.trans e2) A2.sim r2 w2
          · have ht' : tstB c = true ∧ tstsB (.cons c2 r2) = true := by
              have ht2 : (tstB c && tstsB (.cons c2 r2)) = true := ht
              rw [Bool.and_eq_true] at ht2
              exact ht2
            obtain ⟨j1, j2⟩ := i3 ht'.2
            refine ⟨pw_imp (pw_and (pt ht'.1) j1) fun σ H Q hq => ?_, pw_imp (pw_or (pt ht'.1) j2) fun σ H Q hq => ?_⟩
            · obtain ⟨φ, hd, σd, Qd, Xd, A, w, q, x⟩ := hq
              refine Ter.go (wa := wpT G c) (Qd1 := fun b h1 => if b = true then wpAnd G (.cons c2 r2) σd h1 (fun x h1 => ∃ b, x = .bl b ∧ Qd b h1) Xd else ∃ b, D.bl false = .bl b ∧ Qd b h1) A x w fun φ1 h1 H1 d v e1 A1 r1 w1 => ?_
              cases r1
              cases d with
              | true =>
                rw [if_pos rfl] at w1 ⊢
                exact ⟨φ1, h1, σd, Qd, Xd, A1, w1, q.ext e1, x.ext e1⟩
              | false =>
                rw [if_neg Bool.false_ne_true] at w1 ⊢
                obtain ⟨b, e, w1⟩ := w1
                cases e
                exact q φ1 h1 H1 _ _ e1 A1.sim rfl w1
            · obtain ⟨φ, hd, σd, Qd, Xd, A, w, q, x⟩ := hq
              refine Ter.go (wa := wpT G c) (Qd1 := fun b h1 => if b = true then (∃ b, D.bl true = .bl b ∧ Qd b h1) else wpOr G (.cons c2 r2) σd h1 (fun x h1 => ∃ b, x = .bl b ∧ Qd b h1) Xd) A x w fun φ1 h1 H1 d v e1 A1 r1 w1 => ?_
              cases r1
              cases d with
              | true =>
                rw [if_pos rfl] at w1 ⊢
                obtain ⟨b, e, w1⟩ := w1
                cases e
                exact q φ1 h1 H1 _ _ e1 A1.sim rfl w1
              | false =>
                rw [if_neg Bool.false_ne_true] at w1 ⊢
                exact ⟨φ1, h1, σd, Qd, Xd, A1, w1, q.ext e1, x.ext e1⟩
section
variable {W : Wd} {G : Gam} {lv : Nat} {P : Pl} {WX : L2.WX} {X : Cx}
theorem chkEs_ne {es : Es} {vs : List Expr} (h : chkEs P es vs = true) (hn : es ≠ .nil) : vs ≠ [] := fun e => by
  subst e
  cases es with
  | nil => exact hn rfl
  | cons => simp [chkEs] at h
theorem and_inv {es : Es} {e : Expr} (h : chkE P (.and es) e = true) : ∃ vs pos, e = .BoolOp .And vs pos ∧ chkEs P es vs = true := by
  unfold chkE at h
  split at h <;> first | (rename_i q; cases q; done) | (injections; subst_vars; exact ⟨_, _, rfl, h⟩) | cases h
theorem or_inv {es : Es} {e : Expr} (h : chkE P (.or es) e = true) : ∃ vs pos, e = .BoolOp .Or vs pos ∧ chkEs P es vs = true := by
  unfold chkE at h
  split at h <;> first | (rename_i q; cases q; done) | (injections; subst_vars; exact ⟨_, _, rfl, h⟩) | cases h
theorem pe_no {e : Expr} {t : TE} (h : ∀ σ H Q, ¬ t σ H Q) : PE X e t := ⟨fun _ _ _ _ _ _ q => (h _ _ _ q).elim⟩
theorem pt_no {e : Expr} {t : TT} (h : ∀ σ H Q, ¬ t σ H Q) : PT X e t := ⟨fun _ _ _ _ _ _ q => (h _ _ _ q).elim⟩
theorem ok_and {es} (hs : SndEs es) : SndE (.and es) := by
  intro W G lv P WX X C e h
  obtain ⟨vs, pos, rfl, k⟩ := and_inv h
  cases es with
  | nil => exact ⟨pe_no fun _ _ _ ⟨_, _, _, _, _, _, w, _⟩ => w, fun _ => pt_no fun _ _ _ ⟨_, _, _, _, _, _, w, _⟩ => w⟩
  | cons c r =>
    obtain ⟨i1, i2, i3⟩ := (hs C vs k).2 (chkEs_ne k (by simp)) pos
    exact ⟨i1, fun ht => pt_imp (i3 ht).1.pt fun _ _ _ h => h⟩
theorem ok_or {es} (hs : SndEs es) : SndE (.or es) := by
  intro W G lv P WX X C e h
  obtain ⟨vs, pos, rfl, k⟩ := or_inv h
  cases es with
  | nil => exact ⟨pe_no fun _ _ _ ⟨_, _, _, _, _, _, w, _⟩ => w, fun _ => pt_no fun _ _ _ ⟨_, _, _, _, _, _, w, _⟩ => w⟩
  | cons c r =>
    obtain ⟨i1, i2, i3⟩ := (hs C vs k).2 (chkEs_ne k (by simp)) pos
    exact ⟨i2, fun ht => pt_imp (i3 ht).2.pt fun _ _ _ h => h⟩
theorem ok_onone : SndO .none := by
  intro W G lv P WX X C
  refine ⟨fun e h => ?_, fun e h => ?_⟩
  · cases e with
    | none =>
        refine po_imp po_none fun σ H Q hq => ?_
        obtain ⟨φ, hd, σd, Qd, Xd, A, w, q, x⟩ := hq
        exact q φ hd H _ _ .refl A.sim rfl w
    | some => simp [chkO] at h
  · cases e with
    | nil =>
        refine pts_imp pts_nil fun σ H Q hq => ?_
        obtain ⟨φ, hd, σd, Qd, Xd, A, w, q, x⟩ := hq
        exact q φ hd H _ _ .refl A.sim rfl w
    | cons => simp [chkC] at h
theorem ok_osome {c} (hc : SndE c) : SndO (.some c) := by
  intro W G lv P WX X C
  refine ⟨fun e h => ?_, fun e h => ?_⟩
  · cases e with
    | none => simp [chkO] at h
    | some v =>
        refine po_imp (po_some (hc C v h).1) fun σ H Q hq => ?_
        obtain ⟨φ, hd, σd, Qd, Xd, A, w, q, x⟩ := hq
        refine Ter.go A x w fun φ1 h1 H1 d v e1 A1 r1 w1 => ?_
        obtain ⟨i, rfl, w1⟩ := w1
        cases r1
        exact ⟨i, rfl, q φ1 h1 H1 _ _ e1 A1.sim rfl w1⟩
  · match e, h with
    | [], h => simp [chkC] at h
    | [v], h =>
      simp only [chkC, Bool.and_eq_true] at h
      exact pts_imp (pts_one ((hc C v h.1).2 h.2)) fun σ H Q hq => hq
    | _ :: _ :: _, h => simp [chkC] at h

/-! ### targets -/
noncomputable def TgOk (W : Wd) (X : Cx) (t : Tg) (e : Expr) : Prop := PG X e (fun v σ H Q => ∃ (φ : List Addr) (hd : Hd) (d : D) (σd : DSt) (K : DSt → Prop), Sim W φ hd H ∧ RepSt W φ H σd σ ∧ Rep W φ H d v ∧ tgW t d σd hd K ∧ ∀ σd' σ', RepSt W φ H σd' σ' → K σd' → Q σ' H)
theorem ok_tgs (C : Cok W G lv P WX X) : ∀ (is : List Nat) (es : List Expr), is.length = es.length → ((is.zip es).all fun p => match p.2 with
    | .Name x _ => nmB P p.1 x
    | _ => false) = true → PGs X es (fun vs σ H Q => ∃ (φ : List Addr) (hd : Hd) (ds : List D) (σd : DSt) (K : DSt → Prop), Sim W φ hd H ∧ RepSt W φ H σd σ ∧ Reps W φ H ds vs ∧ ds.length = is.length ∧ K ((is.zip ds).foldl (fun s p => s.set p.1 (some p.2)) σd) ∧ ∀ σd' σ', RepSt W φ H σd' σ' → K σd' → Q σ' H)
  | [], [], _, _ => pgs_imp pgs_nil fun vs σ H Q h => by
      obtain ⟨φ, hd, ds, σd, K, S, rs, r, l, w, k⟩ := h
      cases ds with
      | nil => cases r; exact ⟨rfl, k σd σ rs w⟩
      | cons => simp at l
  | i :: is, e :: es, hl, h => by
      rw [List.zip_cons_cons, List.all_cons, Bool.and_eq_true] at h
      obtain ⟨h1, h2⟩ := h
      cases e with
      | Name x pos =>
        obtain ⟨n1, n2, n3, n4⟩ := C.nm h1
        refine pgs_imp (pgs_cons (pg_name (i := i) n1 n2 n3 n4) (ok_tgs C is es (by simpa using hl) h2)) fun vs σ H Q h => ?_
        obtain ⟨φ, hd, ds, σd, K, S, rs, r, l, w, k⟩ := h
        cases r with
        | nil => simp at l
        | @cons d v ds vs a b => exact ⟨v, vs, rfl, φ, hd, ds, σd.set i (some d), K, S, rs.set i a, b, by simpa using l, w, k⟩
      | _ => cases h1
  | [], _ :: _, h, _ => by simp at h
  | _ :: _, [], h, _ => by simp at h
theorem pg_or {X : Cx} {e : Expr} {g1 g2 : TG} (h1 : PG X e g1) (h2 : PG X e g2) : PG X e (fun v σ H Q => g1 v σ H Q ∨ g2 v σ H Q) :=
  ⟨fun pins s σ H v u Q I r hw => hw.elim (h1.run pins s σ H v u Q I r) (h2.run pins s σ H v u Q I r)⟩
theorem ok_tg (C : Cok W G lv P WX X) {t : Tg} {e : Expr} (h : tgC P t e = true) : TgOk W X t e := by
  cases t with
  | nm i =>
    cases e with
    | Name x pos =>
      obtain ⟨n1, n2, n3, n4⟩ := C.nm (show nmB P i x = true from h)
      refine pg_imp (pg_name (i := i) n1 n2 n3 n4) fun v σ H Q h => ?_
      obtain ⟨φ, hd, d, σd, K, S, rs, r, w, k⟩ := h
      exact k _ _ (rs.set i r) w
    | _ => simp [tgC] at h
  | tp is =>
    cases e with
    | Tuple es k pos =>
      simp only [tgC, Bool.and_eq_true, decide_eq_true_eq] at h
      obtain ⟨⟨hc, h1⟩, h2⟩ := h
      have hst : (assignEach es X.env).findIdx? (·.1) = none ∧ (assignEach es X.env).length = es.length := by
        have all : ∀ (is : List Nat) (es : List Expr), is.length = es.length → ((is.zip es).all fun p => match p.2 with
            | .Name x _ => nmB P p.1 x
            | _ => false) = true → (assignEach es X.env).findIdx? (·.1) = none ∧ (assignEach es X.env).length = es.length := by
          intro is es
          induction es generalizing is with
          | nil => intro _ _; exact ⟨rfl, rfl⟩
          | cons e es ih =>
            intro hl h
            cases is with
            | nil => simp at hl
            | cons i is =>
              rw [List.zip_cons_cons, List.all_cons, Bool.and_eq_true] at h
              obtain ⟨i1, i2⟩ := ih is (by simpa using hl) h.2
              cases e with
              | Name x pos =>
                have e1 : assignEach (.Name x pos :: es) X.env = (false, assign (.Name x pos) X.env) :: assignEach es X.env := rfl
                rw [e1]
                refine ⟨?_, by simp [i2]⟩
                rw [List.findIdx?_cons]
                simp [i1]
              | _ => cases h.1
        exact all is es h1 h2
      refine pg_imp (pg_or (pg_tup (C.calm hc) (ok_tgs C is es h1 h2) hst.2 hst.1) (pg_unl (C.calm hc) (ok_tgs C is es h1 h2) hst.2 hst.1)) fun v σ H Q h => ?_
      obtain ⟨φ, hd, d, σd, K, S, rs, r, w, k⟩ := h
      obtain ⟨xs, e, l, w⟩ := w
      obtain ⟨a, us, rfl, hq, ra⟩ := rdS_ok S r e
      rcases hq with hq | hq
      · exact .inr ⟨a, us, rfl, by rw [C.K]; exact hq, by rw [← ra.len, l, h1], φ, hd, xs, σd, K, S, rs, ra, l, w, k⟩
      · exact .inl ⟨a, us, rfl, by rw [C.K]; exact hq, by rw [← ra.len, l, h1], φ, hd, xs, σd, K, S, rs, ra, l, w, k⟩
    | _ => simp [tgC] at h
end
end Vd

set_option Elab.async false
set_option linter.all false
set_option maxRecDepth 100000
set_option maxHeartbeats 2000000
namespace Vd
open PySem PySem.Spec PyProof.Rows L2
section
variable {W : Wd} {φ : List Addr} {H : Hp}
theorem Off.fbs {fb : List Addr} {a : Addr} {o : HO} (hf : ∀ p ∈ fb, p ∈ W.fb ∨ H p = none) (h : H a = some o) (n : Off W φ a) : Off { W with fb := fb } φ a :=
  ⟨n.1, fun hm => by
    rcases hf a hm with z | z
    · exact n.2 z
    · rw [h] at z; cases z⟩
mutual
theorem Rep.fbs {fb : List Addr} (hf : ∀ p ∈ fb, p ∈ W.fb ∨ H p = none) : ∀ {d v}, Rep W φ H d v → Rep { W with fb := fb } φ H d v
  | _, _, .non => .non
  | _, _, .bl b => .bl b
  | _, _, .int i => .int i
  | _, _, .str x => .str x
  | _, _, .tup h n r => .tup h (Off.fbs hf h n) (Reps.fbs hf r)
  | _, _, .vl h n r => .vl h (Off.fbs hf h n) (Reps.fbs hf r)
  | _, _, .sv h r => .sv (by
      rcases h with ⟨h, n⟩ | h
      · refine .inl ⟨h, ?_⟩
        rcases h with h | ⟨o, h⟩
        · exact Off.fbs hf h n
        · exact Off.fbs hf h n
      · exact .inr h) (Reps.fbs hf r)
  | _, _, .vi h n c m r l => .vi h (Off.fbs hf h n) c m (Reps.fbs hf r) l
  | _, _, .ref h => .ref h
theorem Reps.fbs {fb : List Addr} (hf : ∀ p ∈ fb, p ∈ W.fb ∨ H p = none) : ∀ {ds vs}, Reps W φ H ds vs → Reps { W with fb := fb } φ H ds vs
  | _, _, .nil => .nil
  | _, _, .cons a b => .cons (Rep.fbs hf a) (Reps.fbs hf b)
end
end

/-- an iterator that walks the items -/
noncomputable def ItW (W : Wd) (φ0 : List Addr) (H0 : Hp) (J : Itm) (Jv : L2.It) : Prop := ∀ fb, (∀ p ∈ fb, p ∈ W.fb ∨ H0 p = none) → ∀ φ hd H i, Ext φ0 φ H0 H → Sim { W with fb := fb } φ hd H → J.stay hd →
  (i < J.xs.length → Jv.go i H ∧ ∀ x H', Jv.yld i H x H' → ∃ d, J.xs[i]? = some d ∧ Ext φ φ H H' ∧ Sim { W with fb := fb } φ hd H' ∧ Rep { W with fb := fb } φ H' d x) ∧ (i = J.xs.length → Jv.stop i H)
noncomputable abbrev rI (W : Wd) : GR Itm L2.It := fun φ H J Jv => ItW W φ H J Jv
noncomputable def SndI (c : It) : Prop := ∀ {W : Wd} {G : Gam} {lv : Nat} {P : Pl} {WX : L2.WX} {X : Cx}, Cok W G lv P WX X → ∀ e tg, chkI P c e tg = true → PI X tg e (Ter W (rI W) WX (wpI G c))

section
variable {X : Cx} {tg : Expr}
noncomputable def iSeq (K : PySem.W.Frag) (tl : TE) : TI := fun σ H R => tl σ H fun x H1 => ∃ a, x = .ref a ∧ (((∃ xs, SqL K H1 a xs) ∧ R (Itl K a) H1) ∨ ((∃ xs, SqT K H1 a xs) ∧ R (Itt K a) H1))
theorem pi_seq {l : Expr} {tl : TE} (hl : PE X l tl) : PI X tg l (iSeq X.K tl) := by
  refine ⟨fun pins s σ H R I h => ?_⟩
  refine thn (hl.run pins s σ H _ I h) fun v s1 ⟨x, H1, I1, r1, q1⟩ => ?_
  obtain ⟨a, e, q⟩ := q1
  subst e
  cases r1
  rcases q with ⟨⟨xs, hq⟩, q⟩ | ⟨⟨xs, hq⟩, q⟩
  · obtain ⟨its, rv, p, hz⟩ := I1.list hq
    refine wpAny_pyIter_list p.isList ?_
    refine ⟨s1.heap.objs.size, [s1.heap.objs.size], _, _, H1, rfl, I1.kept (t' := s1.toks) fun b o e => Heap.get?_push_of_some _ e, turn_list a _, ⟨_, Heap.get?_push_size _ rfl, rfl, rfl⟩, fun b hb => ?_, q⟩
    have e : b = s1.heap.objs.size := by simpa using hb
    subst e
    exact I1.fpOk (Nat.le_refl _) (I1.hok.fresh (Nat.le_refl _))
  · obtain ⟨its, rv, p, hz⟩ := I1.tuple hq
    refine wpAny_pyIter_tuple (show s1.heap.IsTuple a its.toArray from p) ?_
    refine ⟨s1.heap.objs.size, [s1.heap.objs.size], _, _, H1, rfl, I1.kept (t' := s1.toks) fun b o e => Heap.get?_push_of_some _ e, turn_tuple a _, ⟨_, Heap.get?_push_size _ rfl, rfl, rfl⟩, fun b hb => ?_, q⟩
    have e : b = s1.heap.objs.size := by simpa using hb
    subst e
    exact I1.fpOk (Nat.le_refl _) (I1.hok.fresh (Nat.le_refl _))
end
section
variable {W : Wd} {φ : List Addr} {hd : Hd} {H : Hp}
theorem itw_list {d : D} {v : V} {a : Addr} {xs : List D} (r : Rep W φ H d v) (ev : v = .ref a) : ItW W φ H ⟨xs, fun h' => rdL h' d = some xs⟩ (Itl W.K a) := by
  intro fb hf φ2 h2 H2 i E S st
  have r2 := (Rep.fbs hf r).ext (W := { W with fb := fb }) E
  obtain ⟨a', vs, e, hq, rs⟩ := rdL_ok S r2 st
  rw [ev] at e; cases e
  refine ⟨fun hi => ?_, fun hi => ⟨vs, hq, by rw [← rs.len]; exact Nat.le_of_eq hi.symm⟩⟩
  obtain ⟨x, hx, _⟩ := rs.get (List.getElem?_eq_getElem hi)
  refine ⟨⟨vs, x, hq, hx⟩, fun x' H' y => ?_⟩
  obtain ⟨e, y⟩ := y
  subst e
  obtain ⟨d', h1, h2⟩ := rs.get' (y vs hq)
  exact ⟨d', h1, .refl, S, h2⟩
theorem itw_tup {v : V} {a : Addr} {xs : List D} (r : Rep W φ H (.tup xs) v) (ev : v = .ref a) (st : Hd → Prop) : ItW W φ H ⟨xs, st⟩ (Itt W.K a) := by
  intro fb hf φ2 h2 H2 i E S _
  have r2 := (Rep.fbs hf r).ext (W := { W with fb := fb }) E
  subst ev
  cases r2 with
  | @tup a vs xs hq n rs =>
    have hq' : SqT W.K H2 _ vs := .of hq
    refine ⟨fun hi => ?_, fun hi => ⟨vs, hq', by rw [← rs.len]; exact Nat.le_of_eq hi.symm⟩⟩
    obtain ⟨x, hx, _⟩ := rs.get (List.getElem?_eq_getElem hi)
    refine ⟨⟨vs, x, hq', hx⟩, fun x' H' y => ?_⟩
    obtain ⟨e, y⟩ := y
    subst e
    obtain ⟨d', h1, h2⟩ := rs.get' (y vs hq')
    exact ⟨d', h1, .refl, S, h2⟩
theorem rdS_cases {h : Hd} {d : D} {xs : List D} (e : rdS h d = some xs) : (d = .tup xs) ∨ (rdL h d = some xs ∧ ∀ h', rdS h' d = rdL h' d) := by
  cases d with
  | tup ys => cases e; exact .inl rfl
  | _ => first | exact .inr ⟨e, fun _ => rfl⟩
theorem itw_stay {J J' : Itm} {Jv : L2.It} (h : ItW W φ H J Jv) (e : J.xs = J'.xs) (s : ∀ h, J'.stay h → J.stay h) : ItW W φ H J' Jv := by
  intro fb hf φ2 h2 H2 i E S st
  have q := h fb hf φ2 h2 H2 i E S (s _ st)
  rw [e] at q
  exact q
theorem seq_it {d : D} {v : V} {xs : List D} (S : Sim W φ hd H) (r : Rep W φ H d v) (e : rdS hd d = some xs) {R : L2.It → Hp → Prop} (k : ∀ Jv, ItW W φ H ⟨xs, fun h' => rdS h' d = some xs⟩ Jv → R Jv H) :
    ∃ a, v = .ref a ∧ (((∃ xs, SqL W.K H a xs) ∧ R (Itl W.K a) H) ∨ ((∃ xs, SqT W.K H a xs) ∧ R (Itt W.K a) H)) := by
  rcases rdS_cases e with rfl | ⟨e', hs⟩
  · cases r with
    | tup ha na ra => exact ⟨_, rfl, .inr ⟨⟨_, .of ha⟩, k _ (itw_tup (.tup ha na ra) rfl _)⟩⟩
  · obtain ⟨a, vs, ev, hq, rs⟩ := rdL_ok S r e'
    exact ⟨a, ev, .inl ⟨⟨vs, hq⟩, k _ (itw_stay (itw_list r ev) rfl fun h st => (show rdL h d = some xs by rw [← hs]; exact st))⟩⟩
theorem itw_range (lo : Int) (n : Nat) (xs : List D) (hx : xs = (List.range n).map fun (k : Nat) => D.int (lo + (k : Int))) : ItW W φ H ⟨xs, fun _ => True⟩ (Itr lo n) := by
  subst hx
  intro fb hf φ2 h2 H2 i E S _
  have hl : ((List.range n).map fun (k : Nat) => D.int (lo + (k : Int))).length = n := by simp
  refine ⟨fun hi => ?_, fun hi => ?_⟩
  · have hi' : i < n := by rw [hl] at hi; exact hi
    refine ⟨hi', fun x H' y => ?_⟩
    obtain ⟨e, y⟩ := y
    subst e y
    exact ⟨.int (lo + i), by simp [hi'], .refl, S, .int _⟩
  · have : i = n := by rw [hl] at hi; exact hi
    exact Nat.le_of_eq this.symm
theorem itw_rangeC (lo c : Int) (n : Nat) : ItW W φ H ⟨rngC lo c n, fun _ => True⟩ (Itc lo c n) := by
  intro fb hf φ2 h2 H2 i E S _
  have hl : (rngC lo c n).length = n := by unfold rngC; simp
  refine ⟨fun hi => ?_, fun hi => ?_⟩
  · have hi' : i < n := by rw [hl] at hi; exact hi
    refine ⟨hi', fun x H' y => ?_⟩
    obtain ⟨e, y⟩ := y
    subst e y
    exact ⟨.int (lo + i * c), by simp [hi', rngC], .refl, S, .int _⟩
  · have : i = n := by rw [hl] at hi; exact hi
    exact Nat.le_of_eq this.symm
theorem itw_rev {d : D} {v : V} {a : Addr} {xs : List D} (r : Rep W φ H d v) (ev : v = .ref a) : ItW W φ H ⟨xs.reverse, fun h' => rdL h' d = some xs⟩ (Itv W.K a xs.length) := by
  intro fb hf φ2 h2 H2 i E S st
  have r2 := (Rep.fbs hf r).ext (W := { W with fb := fb }) E
  obtain ⟨a', vs, e, hq, rs⟩ := rdL_ok S r2 st
  rw [ev] at e; cases e
  have hl : (xs.reverse).length = xs.length := List.length_reverse
  refine ⟨fun hi => ?_, fun hi => ?_⟩
  · have hi' : i < xs.length := by rw [hl] at hi; exact hi
    have hj : xs.length - 1 - i < xs.length := by omega
    obtain ⟨x, hx, _⟩ := rs.get (List.getElem?_eq_getElem hj)
    refine ⟨⟨hi', vs, x, hq, hx⟩, fun x' H' y => ?_⟩
    obtain ⟨e, y⟩ := y
    subst e
    obtain ⟨d', h1, h2⟩ := rs.get' (y vs hq)
    exact ⟨d', by rw [List.getElem?_reverse hi']; exact h1, .refl, S, h2⟩
  · have : i = xs.length := by rw [hl] at hi; exact hi
    exact Nat.le_of_eq this.symm
theorem itw_revT {v : V} {a : Addr} {xs : List D} (r : Rep W φ H (.tup xs) v) (ev : v = .ref a) (st : Hd → Prop) : ItW W φ H ⟨xs.reverse, st⟩ (RT.ItvT W.K a xs.length) := by
  intro fb hf φ2 h2 H2 i E S _
  have r2 := (Rep.fbs hf r).ext (W := { W with fb := fb }) E
  subst ev
  cases r2 with
  | @tup a vs xs hq n rs =>
    have hq' : SqT W.K H2 _ vs := .of hq
    have hl : (xs.reverse).length = xs.length := List.length_reverse
    refine ⟨fun hi => ?_, fun hi => ?_⟩
    · have hi' : i < xs.length := by rw [hl] at hi; exact hi
      have hj : xs.length - 1 - i < xs.length := by omega
      obtain ⟨x, hx, _⟩ := rs.get (List.getElem?_eq_getElem hj)
      refine ⟨⟨hi', vs, x, hq', hx⟩, fun x' H' y => ?_⟩
      obtain ⟨e, y⟩ := y
      subst e
      obtain ⟨d', h1, h2⟩ := rs.get' (y vs hq')
      exact ⟨d', by rw [List.getElem?_reverse hi']; exact h1, .refl, S, h2⟩
    · have : i = xs.length := by rw [hl] at hi; exact hi
      exact Nat.le_of_eq this.symm
theorem pair_new {i x : D} {T : Addr} {xi xv : V} (S : Sim W φ hd H) (hT : H T = none) (ri : Rep W φ H i xi) (rx : Rep W φ H x xv) : Ext φ φ H (upd H T (.tup [xi, xv])) ∧ Sim W φ hd (upd H T (.tup [xi, xv])) ∧ Rep W φ (upd H T (.tup [xi, xv])) (.tup [i, x]) (.ref T) :=
  ⟨Ext.new hT, S.new hT, .tup upd_same (S.off hT) (.cons (ri.ext (Ext.new hT)) (.cons (rx.ext (Ext.new hT)) .nil))⟩
theorem itw_enum {d : D} {v : V} {a : Addr} {xs : List D} (r : Rep W φ H d v) (ev : v = .ref a) : ItW W φ H ⟨xs.zipIdx.map fun p => .tup [.int p.2, p.1], fun h' => rdL h' d = some xs⟩ (Ite W.K a) := by
  intro fb hf φ2 h2 H2 i E S st
  have r2 := (Rep.fbs hf r).ext (W := { W with fb := fb }) E
  obtain ⟨a', vs, e, hq, rs⟩ := rdL_ok S r2 st
  rw [ev] at e; cases e
  have hl : (xs.zipIdx.map fun p => D.tup [.int p.2, p.1]).length = xs.length := by simp
  refine ⟨fun hi => ?_, fun hi => ?_⟩
  · have hi' : i < xs.length := by rw [hl] at hi; exact hi
    obtain ⟨x, hx, _⟩ := rs.get (List.getElem?_eq_getElem hi')
    refine ⟨⟨vs, x, hq, hx⟩, fun x' H' y => ?_⟩
    obtain ⟨T, x2, rfl, hT, rfl, y⟩ := y
    obtain ⟨d', h1, h2⟩ := rs.get' (y vs hq)
    obtain ⟨p1, p2, p3⟩ := pair_new S hT (.int (i : Nat)) h2
    refine ⟨_, ?_, p1, p2, p3⟩
    have e : xs[i] = d' := by
      rw [List.getElem?_eq_getElem hi'] at h1
      exact Option.some.inj h1
    simp [hi', e]
  · have : i = xs.length := by rw [hl] at hi; exact hi
    exact ⟨vs, hq, by rw [← rs.len]; exact Nat.le_of_eq this.symm⟩
theorem itw_enumT {v : V} {a : Addr} {xs : List D} (r : Rep W φ H (.tup xs) v) (ev : v = .ref a) (st : Hd → Prop) : ItW W φ H ⟨xs.zipIdx.map fun p => .tup [.int p.2, p.1], st⟩ (VdEn.IteT W.K a) := by
  intro fb hf φ2 h2 H2 i E S _
  have r2 := (Rep.fbs hf r).ext (W := { W with fb := fb }) E
  subst ev
  cases r2 with
  | @tup a vs xs hq0 n rs =>
  have hq : SqT W.K H2 _ vs := .of hq0
  have hl : (xs.zipIdx.map fun p => D.tup [.int p.2, p.1]).length = xs.length := by simp
  refine ⟨fun hi => ?_, fun hi => ?_⟩
  · have hi' : i < xs.length := by rw [hl] at hi; exact hi
    obtain ⟨x, hx, _⟩ := rs.get (List.getElem?_eq_getElem hi')
    refine ⟨⟨vs, x, hq, hx⟩, fun x' H' y => ?_⟩
    obtain ⟨T, x2, rfl, hT, rfl, y⟩ := y
    obtain ⟨d', h1, h2⟩ := rs.get' (y vs hq)
    obtain ⟨p1, p2, p3⟩ := pair_new S hT (.int (i : Nat)) h2
    refine ⟨_, ?_, p1, p2, p3⟩
    have e : xs[i] = d' := by
      rw [List.getElem?_eq_getElem hi'] at h1
      exact Option.some.inj h1
    simp [hi', e]
  · have : i = xs.length := by rw [hl] at hi; exact hi
    exact ⟨vs, hq, by rw [← rs.len]; exact Nat.le_of_eq this.symm⟩
theorem itw_zip {d e : D} {v u : V} {a b : Addr} {xs ys : List D} (r : Rep W φ H d v) (r' : Rep W φ H e u) (ev : v = .ref a) (eu : u = .ref b) : ItW W φ H ⟨(xs.zip ys).map fun p => .tup [p.1, p.2], fun h' => rdL h' d = some xs ∧ rdL h' e = some ys⟩ (Itz W.K a b) := by
  intro fb hf φ2 h2 H2 i E S st
  have r2 := (Rep.fbs hf r).ext (W := { W with fb := fb }) E
  have r3 := (Rep.fbs hf r').ext (W := { W with fb := fb }) E
  obtain ⟨a', vs, e1, hq, rs⟩ := rdL_ok S r2 st.1
  obtain ⟨b', us, e2, hp, ps⟩ := rdL_ok S r3 st.2
  rw [ev] at e1; cases e1
  rw [eu] at e2; cases e2
  have hl : ((xs.zip ys).map fun p => D.tup [p.1, p.2]).length = min xs.length ys.length := by simp
  refine ⟨fun hi => ?_, fun hi => ?_⟩
  · have hi1 : i < xs.length := by rw [hl] at hi; omega
    have hi2 : i < ys.length := by rw [hl] at hi; omega
    obtain ⟨x, hx, _⟩ := rs.get (List.getElem?_eq_getElem hi1)
    obtain ⟨y, hy, _⟩ := ps.get (List.getElem?_eq_getElem hi2)
    refine ⟨⟨vs, us, x, y, hq, hp, hx, hy⟩, fun x' H' z => ?_⟩
    obtain ⟨T, x2, y2, rfl, hT, rfl, z1, z2⟩ := z
    obtain ⟨d', h1, h2⟩ := rs.get' (z1 vs hq)
    obtain ⟨d2, h3, h4⟩ := ps.get' (z2 us hp)
    obtain ⟨p1, p2, p3⟩ := pair_new S hT h2 h4
    refine ⟨_, ?_, p1, p2, p3⟩
    have e1 : xs[i] = d' := by
      rw [List.getElem?_eq_getElem hi1] at h1
      exact Option.some.inj h1
    have e2 : ys[i] = d2 := by
      rw [List.getElem?_eq_getElem hi2] at h3
      exact Option.some.inj h3
    have hz : i < (xs.zip ys).length := by simp; omega
    rw [List.getElem?_map, List.getElem?_eq_getElem hz]
    simp [e1, e2]
  · have : i = min xs.length ys.length := by rw [hl] at hi; exact hi
    refine ⟨vs, us, hq, hp, ?_⟩
    rw [← rs.len, ← ps.len]
    omega
theorem itw_zipT {v u : V} {a b : Addr} {xs ys : List D} (r : Rep W φ H (.tup xs) v) (r' : Rep W φ H (.tup ys) u) (ev : v = .ref a) (eu : u = .ref b) (st : Hd → Prop) : ItW W φ H ⟨(xs.zip ys).map fun p => .tup [p.1, p.2], st⟩ (RZ.ItzT W.K a b) := by
  intro fb hf φ2 h2 H2 i E S _
  have r2 := (Rep.fbs hf r).ext (W := { W with fb := fb }) E
  have r3 := (Rep.fbs hf r').ext (W := { W with fb := fb }) E
  subst ev
  subst eu
  cases r2 with
  | @tup a vs xs hq0 n rs =>
  cases r3 with
  | @tup b us ys hp0 n' ps =>
  have hq : SqT W.K H2 _ vs := .of hq0
  have hp : SqT W.K H2 _ us := .of hp0
  have hl : ((xs.zip ys).map fun p => D.tup [p.1, p.2]).length = min xs.length ys.length := by simp
  refine ⟨fun hi => ?_, fun hi => ?_⟩
  · have hi1 : i < xs.length := by rw [hl] at hi; omega
    have hi2 : i < ys.length := by rw [hl] at hi; omega
    obtain ⟨x, hx, _⟩ := rs.get (List.getElem?_eq_getElem hi1)
    obtain ⟨y, hy, _⟩ := ps.get (List.getElem?_eq_getElem hi2)
    refine ⟨⟨vs, us, x, y, hq, hp, hx, hy⟩, fun x' H' z => ?_⟩
    obtain ⟨T, x2, y2, rfl, hT, rfl, z1, z2⟩ := z
    obtain ⟨d', h1, h2⟩ := rs.get' (z1 vs hq)
    obtain ⟨d2, h3, h4⟩ := ps.get' (z2 us hp)
    obtain ⟨p1, p2, p3⟩ := pair_new S hT h2 h4
    refine ⟨_, ?_, p1, p2, p3⟩
    have e1 : xs[i] = d' := by
      rw [List.getElem?_eq_getElem hi1] at h1
      exact Option.some.inj h1
    have e2 : ys[i] = d2 := by
      rw [List.getElem?_eq_getElem hi2] at h3
      exact Option.some.inj h3
    have hz : i < (xs.zip ys).length := by simp; omega
    rw [List.getElem?_map, List.getElem?_eq_getElem hz]
    simp [e1, e2]
  · have : i = min xs.length ys.length := by rw [hl] at hi; exact hi
    refine ⟨vs, us, hq, hp, ?_⟩
    rw [← rs.len, ← ps.len]
    omega
end
section
variable {W : Wd} {G : Gam} {lv : Nat} {P : Pl} {WX : L2.WX} {X : Cx}
theorem ok_ival {c} (hc : SndE c) : SndI (.val c) := by
  intro W G lv P WX X C e tg h
  have h' : chkE P c e = true ∧ setB e = false := by
    have h2 : (chkE P c e && !setB e) = true := h
    simpa using h2
  refine pi_imp (pi_seq (hc C e h'.1).1) fun σ H R hq => ?_
  obtain ⟨φ, hd, σd, Qd, Xd, A, w, q, x⟩ := hq
  refine Ter.go A x w fun φ1 h1 H1 d v e1 A1 r1 w1 => ?_
  obtain ⟨xs, e, w1⟩ := w1
  have := seq_it (R := R) A1.sim r1 e fun Jv hJ => q φ1 h1 H1 _ Jv e1 A1.sim hJ w1
  rw [C.K]
  exact this
theorem itw_chs (z : Str) : ItW W φ H ⟨chsD z, fun _ => True⟩ (Its z) := by
  intro fb hf φ2 h2 H2 i E S _
  have hl : (chsD z).length = z.cps.size := by unfold chsD; simp
  refine ⟨fun hi => ?_, fun hi => ?_⟩
  · have hi' : i < z.cps.size := by rw [hl] at hi; exact hi
    refine ⟨hi', fun x H' y => ?_⟩
    obtain ⟨e, c, hc, rfl⟩ := y
    subst e
    refine ⟨.str ⟨#[c]⟩, ?_, .refl, S, .str _⟩
    show (z.cps.toList.map fun c => D.str ⟨#[c]⟩)[i]? = _
    rw [List.getElem?_map, Array.getElem?_toList, hc]; rfl
  · have : i = z.cps.size := by rw [hl] at hi; exact hi
    exact Nat.le_of_eq this.symm
theorem ok_ichs {c} (hc : SndE c) : SndI (.chs c) := by
  intro W G lv P WX X C e tg h
  have h' : chkE P c e = true ∧ setB e = false := by
    have h2 : (chkE P c e && !setB e) = true := h
    simpa using h2
  refine pi_imp (pi_str (hc C e h'.1).1) fun σ H R hq => ?_
  obtain ⟨φ, hd, σd, Qd, Xd, A, w, q, x⟩ := hq
  refine Ter.go A x w fun φ1 h1 H1 d v e1 A1 r1 w1 => ?_
  obtain ⟨z, rfl, w1⟩ := w1
  cases r1
  exact ⟨z, rfl, q φ1 h1 H1 _ _ e1 A1.sim (itw_chs z) w1⟩
theorem rng1_inv {a : E} {e tg : Expr} (h : chkI P (.rng1 a) e tg = true) : ∃ x p a' pos, e = .Call (.Name x p) [a'] [] pos ∧ (decide (x = Str.ofString "range") && glB P.sc x && !starB a' && chkE P a a') = true := by
  unfold chkI at h
  split at h <;> first | (rename_i q; cases q; done) | (injections; subst_vars; exact ⟨_, _, _, _, rfl, h⟩) | cases h
theorem rng2_inv {a b : E} {e tg : Expr} (h : chkI P (.rng2 a b) e tg = true) : ∃ x p a' b' pos, e = .Call (.Name x p) [a', b'] [] pos ∧ (decide (x = Str.ofString "range") && glB P.sc x && !starB a' && !starB b' && chkE P a a' && chkE P b b') = true := by
  unfold chkI at h
  split at h <;> first | (rename_i q; cases q; done) | (injections; subst_vars; exact ⟨_, _, _, _, _, rfl, h⟩) | cases h
theorem rngb_inv {a b : E} {e tg : Expr} (h : chkI P (.rngb a b) e tg = true) : ∃ x p a' b' pos, e = .Call (.Name x p) [a', b'] [] pos ∧ (decide (x = Str.ofString "range") && glB P.sc x && !starB a' && !starB b' && chkE P a a' && chkE P b b') = true := by
  unfold chkI at h
  split at h <;> first | (rename_i q; cases q; done) | (injections; subst_vars; exact ⟨_, _, _, _, _, rfl, h⟩) | cases h
theorem rng3_inv {a b c : E} {e tg : Expr} (h : chkI P (.rng3 a b c) e tg = true) : ∃ x p a' b' c' pos, e = .Call (.Name x p) [a', b', c'] [] pos ∧ (decide (x = Str.ofString "range") && glB P.sc x && !starB a' && !starB b' && !starB c' && chkE P a a' && chkE P b b' && chkE P c c') = true := by
  unfold chkI at h
  split at h <;> first | (rename_i q; cases q; done) | (injections; subst_vars; exact ⟨_, _, _, _, _, _, rfl, h⟩) | cases h
theorem zip_inv {a b : E} {e tg : Expr} (h : chkI P (.zip a b) e tg = true) : ∃ x p a' b' pos es k tp, e = .Call (.Name x p) [a', b'] [] pos ∧ tg = .Tuple es k tp ∧ (decide (x = Str.ofString "zip") && glB P.sc x && !starB a' && !starB b' && chkE P a a' && chkE P b b') = true := by
  unfold chkI at h
  split at h <;> first | (rename_i q; cases q; done) | (injections; subst_vars; exact ⟨_, _, _, _, _, _, _, _, rfl, rfl, h⟩) | cases h
theorem enum_inv {a : E} {e tg : Expr} (h : chkI P (.enum a) e tg = true) : ∃ x p a' pos es k tp, e = .Call (.Name x p) [a'] [] pos ∧ tg = .Tuple es k tp ∧ (decide (x = Str.ofString "enumerate") && glB P.sc x && !starB a' && chkE P a a') = true := by
  unfold chkI at h
  split at h <;> first | (rename_i q; cases q; done) | (injections; subst_vars; exact ⟨_, _, _, _, _, _, _, rfl, rfl, h⟩) | cases h
theorem rev_inv {a : E} {e tg : Expr} (h : chkI P (.rev a) e tg = true) : ∃ x p a' pos, e = .Call (.Name x p) [a'] [] pos ∧ (decide (x = Str.ofString "reversed") && glB P.sc x && !starB a' && chkE P a a') = true := by
  unfold chkI at h
  split at h <;> first | (rename_i q; cases q; done) | (injections; subst_vars; exact ⟨_, _, _, _, rfl, h⟩) | cases h
theorem ok_irng1 {a} (ha : SndE a) : SndI (.rng1 a) := by
  intro W G lv P WX X C e tg h
  obtain ⟨x, p, a', pos, rfl, k⟩ := rng1_inv h
  simp only [Bool.and_eq_true, decide_eq_true_eq, Bool.not_eq_true'] at k
  obtain ⟨⟨⟨rfl, h1⟩, h2⟩, h3⟩ := k
  refine pi_imp (pi_range1 (C.gl' h1) C.bn2.1 (pa_cons (ha C a' h3).1 pa_nil (star_cons h2)) (star_cons h2)) fun σ H R hq => ?_
  obtain ⟨φ, hd, σd, Qd, Xd, A, w, q, x⟩ := hq
  refine Ter.go A x w fun φ1 h1 H1 d v e1 A1 r1 w1 => ?_
  obtain ⟨j, rfl, b1, w1⟩ := w1
  cases r1
  exact ⟨j, rfl, b1.1, b1.2, q φ1 h1 H1 _ (Itr 0 j.toNat) e1 A1.sim (itw_range 0 j.toNat _ (by unfold rngN; rw [Int.sub_zero])) w1⟩
theorem ok_irng2 {a b} (ha : SndE a) (hb : SndE b) : SndI (.rng2 a b) := by
  intro W G lv P WX X C e tg h
  obtain ⟨x, p, a', b', pos, rfl, k⟩ := rng2_inv h
  simp only [Bool.and_eq_true, decide_eq_true_eq, Bool.not_eq_true'] at k
  obtain ⟨⟨⟨⟨⟨rfl, h1⟩, h2⟩, h2'⟩, h3⟩, h4⟩ := k
  refine pi_imp (pi_range2 (C.gl' h1) C.bn2.1 (pa_cons (ha C a' h3).1 (pa_cons (hb C b' h4).1 pa_nil (star_cons h2')) (star_cons h2)) (by rw [star_cons h2, star_cons h2']; rfl) (by rw [star_cons h2']; rfl)) fun σ H R hq => ?_
  obtain ⟨φ, hd, σd, Qd, Xd, A, w, q, x⟩ := hq
  refine Ter.go A x w fun φ1 h1 H1 d v e1 A1 r1 w1 => Ter.go A1 (x.ext e1) w1 fun φ2 h2 H2 d2 v2 e2 A2 r2 w2 => ?_
  obtain ⟨i, j, rfl, rfl, b1, b2, w2⟩ := w2
  cases r1
  cases r2
  exact ⟨i, j, rfl, ⟨b1.1, b1.2, b2.1, b2.2⟩, q φ2 h2 H2 _ (Itr i (j - i).toNat) (e1.trans e2) A2.sim (itw_range i _ _ rfl) w2⟩
theorem ok_irngb {a b} (ha : SndE a) (hb : SndE b) : SndI (.rngb a b) := by
  intro W G lv P WX X C e tg h
  obtain ⟨x, p, a', b', pos, rfl, k⟩ := rngb_inv h
  simp only [Bool.and_eq_true, decide_eq_true_eq, Bool.not_eq_true'] at k
  obtain ⟨⟨⟨⟨⟨rfl, h1⟩, h2⟩, h2'⟩, h3⟩, h4⟩ := k
  refine pi_imp (VdRg.pi_rangeA (C.gl' h1) C.bn2.1 (pa_cons (ha C a' h3).1 (pa_cons (hb C b' h4).1 pa_nil (star_cons h2')) (star_cons h2)) (by rw [star_cons h2, star_cons h2']; rfl) (by rw [star_cons h2']; rfl)) fun σ H R hq => ?_
  obtain ⟨φ, hd, σd, Qd, Xd, A, w, q, x⟩ := hq
  refine Ter.go A x w fun φ1 h1 H1 d v e1 A1 r1 w1 => Ter.go A1 (x.ext e1) w1 fun φ2 h2 H2 d2 v2 e2 A2 r2 w2 => ?_
  obtain ⟨i, j, rfl, rfl, w2⟩ := w2
  cases r1
  cases r2
  exact ⟨i, j, rfl, q φ2 h2 H2 _ (Itr i (j - i).toNat) (e1.trans e2) A2.sim (itw_range i _ _ rfl) w2⟩
theorem ok_irng3 {a b c} (ha : SndE a) (hb : SndE b) (hc : SndE c) : SndI (.rng3 a b c) := by
  intro W G lv P WX X C e tg h
  obtain ⟨x, p, a', b', c', pos, rfl, k⟩ := rng3_inv h
  simp only [Bool.and_eq_true, decide_eq_true_eq, Bool.not_eq_true'] at k
  obtain ⟨⟨⟨⟨⟨⟨⟨rfl, h1⟩, h2⟩, h2'⟩, h2''⟩, h3⟩, h4⟩, h5⟩ := k
  refine pi_imp (VdRg.pi_rangeB (C.gl' h1) C.bn2.1 (pa_cons (ha C a' h3).1 (pa_cons (hb C b' h4).1 (pa_cons (hc C c' h5).1 pa_nil (star_cons h2'')) (star_cons h2')) (star_cons h2)) (by rw [star_cons h2]) (by rw [star_cons h2', star_cons h2'']; rfl)) fun σ H R hq => ?_
  obtain ⟨φ, hd, σd, Qd, Xd, A, w, q, x⟩ := hq
  refine Ter.go A x w fun φ1 h1 H1 d v e1 A1 r1 w1 => Ter.go A1 (x.ext e1) w1 fun φ2 h2 H2 d2 v2 e2 A2 r2 w2 => Ter.go A2 (x.ext (e1.trans e2)) w2 fun φ3 h3 H3 d3 v3 e3 A3 r3 w3 => ?_
  obtain ⟨i, j, k, n, rfl, rfl, rfl, b1, w3⟩ := w3
  cases r1
  cases r2
  cases r3
  exact ⟨i, j, k, n, rfl, b1, q φ3 h3 H3 _ (Itc i k n) ((e1.trans e2).trans e3) A3.sim (itw_rangeC i k n) w3⟩
theorem ok_ienum {a} (ha : SndE a) : SndI (.enum a) := by
  intro W G lv P WX X C e tg h
  obtain ⟨x, p, a', pos, es, kk, tp, rfl, rfl, k⟩ := enum_inv h
  simp only [Bool.and_eq_true, decide_eq_true_eq, Bool.not_eq_true'] at k
  obtain ⟨⟨⟨rfl, h1⟩, h2⟩, h3⟩ := k
  refine pi_imp (VdEn.pi_enumA (C.gl' h1) C.bn2.2.2.1 (pa_cons (ha C a' h3).1 pa_nil (star_cons h2)) (star_cons h2)) fun σ H R hq => ?_
  obtain ⟨φ, hd, σd, Qd, Xd, A, w, q, x⟩ := hq
  refine Ter.go A x w fun φ1 h1 H1 d v e1 A1 r1 w1 => ?_
  obtain ⟨xs, e, w1⟩ := w1
  rcases rdS_cases e with rfl | ⟨e', hs⟩
  · have r1' := r1
    cases r1 with
    | @tup a vs _ ha na ra =>
      refine ⟨_, vs, rfl, .inr ⟨.of ha, ?_⟩⟩
      rw [C.K]
      exact q φ1 h1 H1 _ _ e1 A1.sim (itw_enumT r1' rfl _) w1
  · obtain ⟨p, vs, ev, hq, rs⟩ := rdL_ok A1.sim r1 e'
    refine ⟨p, vs, by rw [ev], .inl ⟨by rw [C.K]; exact hq, ?_⟩⟩
    rw [C.K]
    simp only [hs] at w1
    exact q φ1 h1 H1 _ _ e1 A1.sim (itw_enum r1 ev) w1
theorem ok_irev {a} (ha : SndE a) : SndI (.rev a) := by
  intro W G lv P WX X C e tg h
  obtain ⟨x, p, a', pos, rfl, k⟩ := rev_inv h
  simp only [Bool.and_eq_true, decide_eq_true_eq, Bool.not_eq_true'] at k
  obtain ⟨⟨⟨rfl, h1⟩, h2⟩, h3⟩ := k
  refine pi_imp (RT.pi_revA (C.gl' h1) C.bn2.2.2.2.1 (ha C a' h3).1 (star_cons h2)) fun σ H R hq => ?_
  obtain ⟨φ, hd, σd, Qd, Xd, A, w, q, x⟩ := hq
  refine Ter.go A x w fun φ1 h1 H1 d v e1 A1 r1 w1 => ?_
  obtain ⟨xs, e, w1⟩ := w1
  rcases rdS_cases e with rfl | ⟨e', hs⟩
  · have r1' := r1
    cases r1 with
    | @tup a vs _ ha na ra =>
      refine ⟨_, vs, rfl, .inr ⟨.of ha, ?_⟩⟩
      rw [C.K, ← ra.len]
      exact q φ1 h1 H1 _ _ e1 A1.sim (itw_revT r1' rfl _) w1
  · obtain ⟨p, vs, ev, hq, rs⟩ := rdL_ok A1.sim r1 e'
    refine ⟨p, vs, ev, .inl ⟨by rw [C.K]; exact hq, ?_⟩⟩
    rw [C.K, ← rs.len]
    exact q φ1 h1 H1 _ _ e1 A1.sim (itw_stay (J' := ⟨xs.reverse, fun h' => rdS h' d = some xs⟩) (itw_rev r1 ev) rfl fun h st => (show rdL h d = some xs by rw [← hs]; exact st)) w1
theorem ok_izip {a b} (ha : SndE a) (hb : SndE b) : SndI (.zip a b) := by
  intro W G lv P WX X C e tg h
  obtain ⟨x, p, a', b', pos, es, kk, tp, rfl, rfl, k⟩ := zip_inv h
  simp only [Bool.and_eq_true, decide_eq_true_eq, Bool.not_eq_true'] at k
  obtain ⟨⟨⟨⟨⟨rfl, h1⟩, h2⟩, h2'⟩, h3⟩, h4⟩ := k
  refine pi_imp (RZ.pi_zipA (C.gl' h1) C.bn2.2.1 (pa_cons (ha C a' h3).1 (pa_cons (hb C b' h4).1 pa_nil (star_cons h2')) (star_cons h2)) (star_cons h2) (star_any (by simpa using h2'))) fun σ H R hq => ?_
  obtain ⟨φ, hd, σd, Qd, Xd, A, w, q, x⟩ := hq
  refine Ter.go A x w fun φ1 h1 H1 d v e1 A1 r1 w1 => Ter.go A1 (x.ext e1) w1 fun φ2 h2 H2 d2 v2 e2 A2 r2 w2 => ?_
  obtain ⟨xs, ys, e, w2⟩ := w2
  have r1' := r1.ext e2
  rcases rd2_inv e with ⟨ea, eb⟩ | ⟨rfl, rfl⟩
  · obtain ⟨p, vs, ev, hq, rs⟩ := rdL_ok A2.sim r1' ea
    obtain ⟨p', us, eu, hp, ps⟩ := rdL_ok A2.sim r2 eb
    refine ⟨p, p', vs, us, by rw [ev, eu], .inl ⟨by rw [C.K]; exact hq, by rw [C.K]; exact hp, ?_⟩⟩
    rw [C.K]
    refine q φ2 h2 H2 _ _ (e1.trans e2) A2.sim (itw_stay (J' := ⟨(xs.zip ys).map fun p => .tup [p.1, p.2], fun h' => rd2 h' d d2 = some (xs, ys)⟩) (itw_zip r1' r2 ev eu) rfl fun h st => ?_) w2
    rcases rd2_inv st with z | ⟨rfl, rfl⟩
    · exact z
    · cases ea
  · have r1c := r1'
    have r2c := r2
    cases r1' with
    | @tup a vs _ ha na ra =>
    cases r2 with
    | @tup b us _ hb nb rb =>
      refine ⟨_, _, vs, us, rfl, .inr ⟨.of ha, .of hb, ?_⟩⟩
      rw [C.K]
      exact q φ2 h2 H2 _ _ (e1.trans e2) A2.sim (itw_zipT r1c r2c rfl rfl _) w2
end
theorem itw_keys {W : Wd} {φ : List Addr} {H : Hp} {d : Addr} {od : Obj} {kvs : List (L2.Key × D)} {vs : List V} (hl : kvs.length = vs.length) (hd : H d = some (.frz od (.dK ((kvs.map (·.1)).zip vs)))) (st : Hd → Prop) : ItW W φ H ⟨kvs.map fun kv => keyV kv.1, st⟩ (Itk d od ((kvs.map (·.1)).zip vs)) := by
  intro fb hf φ2 h2 H2 i E S _
  have hd2 := E.frz _ _ _ hd
  have hn : ((kvs.map (·.1)).zip vs).length = kvs.length := by simp; omega
  have hm : (kvs.map fun kv => keyV kv.1).length = kvs.length := List.length_map _
  refine ⟨fun hi => ?_, fun hi => ⟨hd2, ?_⟩⟩
  rotate_left
  · replace hi : i = (kvs.map fun kv => keyV kv.1).length := hi
    rw [hn, ← hm, hi]
    exact Nat.le_refl _
  replace hi : i < (kvs.map fun kv => keyV kv.1).length := hi
  have hi' : i < kvs.length := by rw [hm] at hi; exact hi
  refine ⟨⟨hd2, by rw [hn]; exact hi'⟩, fun x H' y => ?_⟩
  obtain ⟨rfl, k, v, hk, rfl⟩ := y
  have e1 : kvs[i]?.map (·.1) = some k := by
    rw [List.getElem?_zip_eq_some] at hk
    have := hk.1
    rw [List.getElem?_map] at this
    exact this
  obtain ⟨p, hp, rfl⟩ := Option.map_eq_some_iff.mp e1
  refine ⟨keyV p.1, by rw [List.getElem?_map, hp]; rfl, .refl, S, ?_⟩
  cases p.1 with
  | inl i => exact .int i
  | inr x => exact .str x
theorem ok_ikys {c} (hc : SndE c) : SndI (.kys c) := by
  intro W G lv P WX X C e tg h
  have h' : chkE P c e = true ∧ setB e = false := by
    have h2 : (chkE P c e && !setB e) = true := h
    simpa using h2
  refine pi_imp (pi_kysL (hc C e h'.1).1) fun σ H R hq => ?_
  obtain ⟨φ, hd, σd, Qd, Xd, A, w, q, x⟩ := hq
  refine Ter.go A x w fun φ1 h1 H1 d v e1 A1 r1 w1 => ?_
  obtain ⟨r, kvs, rfl, er, w1⟩ := w1
  obtain ⟨b, hb, vs, q1, q2⟩ := A1.sim.obj _ _ er
  cases r1 with
  | ref hp =>
    rw [hp] at hb; cases hb
    refine ⟨_, _, rfl, q1, fun od => ?_⟩
    have E := Ext.write (φ := φ1) (H := H1) (o := .frz od (.dK ((kvs.map (·.1)).zip vs))) (List.mem_of_getElem? hp) (nofrz q1 (fun _ _ z => nomatch z))
    have hl : kvs.length = vs.length := by have := q2.len; simpa using this
    exact q φ1 _ _ _ _ (e1.trans E) (A1.sim.write hp (nofrz q1 (fun _ _ z => nomatch z)) (show RepO W φ1 _ _ (.dk true kvs) from ⟨vs, ⟨od, upd_same⟩, q2.ext E⟩)) (itw_keys hl upd_same _) w1
end Vd

set_option Elab.async false
set_option linter.all false
set_option maxRecDepth 100000
set_option maxHeartbeats 4000000
/-! comprehensions; all expressions -/
namespace Vd
open PySem PySem.Spec PyProof.Rows L2
theorem filterMap_snd (N : List Str) : ∀ vs : List Nat, vs.all (fun i => (N[i]?).isSome) = true → (vs.filterMap fun i => (N[i]?).map fun x => (x, i)).map (·.2) = vs
  | [], _ => rfl
  | v :: vs, h => by
    rw [List.all_cons, Bool.and_eq_true] at h
    obtain ⟨x, hx⟩ := Option.isSome_iff_exists.mp h.1
    rw [List.filterMap_cons, hx]
    show v :: _ = _
    rw [filterMap_snd N vs h.2]
section
variable {W : Wd} {G : Gam} {lv : Nat} {P : Pl} {WX : L2.WX} {X : Cx}
theorem Cok.blk (C : Cok W G lv P WX X) (s : Shared) (H : Hp) (scope : Scope) (Cc : Addr) (cl : List (Str × Addr)) (fp : List Addr) (W' : Wd) (hK : W'.K = W.K) (hm : W'.mg = W.mg) (fb : W = { W' with fb := W.fb }) :
    Cok W' G lv (P.blk scope) (fun _ _ _ _ => False) (X.blk s H scope (compEnvC scope cl Cc X.env) fp) where
  K := by rw [hK]; exact C.K
  mg := by rw [hm]; exact C.mg
  N := C.N
  nd := C.nd
  sc := by
    show relS scope X.env.scope = relS scope P.sc
    rw [C.sc]
  calm := C.calm
  room := C.room
  hu := C.hu
  fn := fun x h => by
    show (scope.names.lookup x == some .cell) = true
    rw [show scope.names.lookup x = some .cell from h]; rfl
  bn := C.bn
  bn2 := C.bn2
  bn3 := C.bn3
  tk := takes0
  fns := fun hc f hf => by
    obtain ⟨fa, fd, ps, h1, h2, h3, F⟩ := C.fns hc f hf
    refine ⟨fa, fd, ps, h1, h2, h3, ?_⟩
    have e : ∀ s, SPd W s = SPd W' s := fun s => by rw [fb]; rfl
    rw [← e]
    exact F
  gl := C.gl
  fld := fun c f h Ca hC => by
    rw [hm] at hC
    exact C.fld c f h Ca hC
  mes := fun hc c m h => by
    obtain ⟨Ca, fa, fd, ps, h1, h2, h3, h4, F⟩ := C.mes hc c m h
    refine ⟨Ca, fa, fd, ps, by rw [hm]; exact h1, h2, h3, h4, ?_⟩
    have e : ∀ s, SPd W s = SPd W' s := fun s => by rw [fb]; rfl
    rw [← e]
    exact F
  mks := fun hc c h => by
    obtain ⟨Ca, fa, fd, ps, k, me, h1, h2, h3, h4, F, h5⟩ := C.mks hc c h
    refine ⟨Ca, fa, fd, ps, k, me, h1, h2, h3, h4, ?_, h5⟩
    have e : ∀ s, SPd W s = SPd W' s := fun s => by rw [fb]; rfl
    rw [← e]
    exact F
  xn := fun hc => by
    have := C.xn hc
    rw [fb] at this
    exact this
  exs := C.exs
  exm := fun c t b h Ca hC => by
    rw [hm] at hC
    exact C.exm c t b h Ca hC
  sub := fun c t b h Ca hC => by
    rw [hm] at hC
    exact C.sub c t b h Ca hC
  xe := fun h => nomatch h
  isn := C.isn
  trs := C.trs
theorem comp_inv {m elt tg it cond vs} {e : Expr} (h : chkE P (.comp m elt tg it cond vs) e = true) : ∃ elt' tg' it' ifs scope pos, e = .ListComp elt' [⟨tg', it', ifs, 0⟩] scope pos ∧
    (P.cm && blkB P scope vs && chkI P it it' tg' && tgC (P.blk scope) tg tg' && chkC (P.blk scope) cond ifs && chkE (P.blk scope) elt elt' && tgIn tg vs) = true := by
  unfold chkE at h
  split at h <;> first | (rename_i q; cases q; done) | (injections; subst_vars; exact ⟨_, _, _, _, _, _, rfl, h⟩) | cases h
theorem chkI_set {c : It} {e tg : Expr} (h : chkI P c e tg = true) : setB e = false := by
  cases e with
  | Set => cases c <;> simp [chkI, setB] at h
  | _ => rfl
theorem wipe_set {σ : L2.St} {i : Nat} {o : Option V} : ∀ {vs : List Nat}, i ∈ vs → L2.wipe (σ.set i o) vs = L2.wipe σ vs
  | v :: vs, h => by
    show (L2.wipe (σ.set i o) vs).set v none = (L2.wipe σ vs).set v none
    by_cases e : v = i
    · subst e
      by_cases h2 : v ∈ vs
      · rw [wipe_set h2]
      · have key : ∀ (ws : List Nat), v ∉ ws → L2.wipe (σ.set v o) ws = (L2.wipe σ ws).set v o := by
          intro ws
          induction ws with
          | nil => intro _; rfl
          | cons w ws ih =>
            intro hw
            simp only [List.mem_cons, not_or] at hw
            show (L2.wipe (σ.set v o) ws).set w none = ((L2.wipe σ ws).set w none).set v o
            rw [ih hw.2, List.set_comm _ _ (fun q => hw.1 q)]
        rw [key vs h2, List.set_set]
    · have h2 : i ∈ vs := by
        rcases List.mem_cons.mp h with z | z
        · exact absurd z.symm e
        · exact z
      rw [wipe_set h2]
  | [], h => by simp at h
theorem wipe_idem {σ : L2.St} : ∀ {vs ws : List Nat}, (∀ v ∈ vs, v ∈ ws) → L2.wipe (L2.wipe σ vs) ws = L2.wipe σ ws
  | [], _, _ => rfl
  | v :: vs, ws, h => by
    show L2.wipe ((L2.wipe σ vs).set v none) ws = _
    rw [wipe_set (h v List.mem_cons_self), wipe_idem fun x hx => h x (List.mem_cons_of_mem _ hx)]
/-- a target changes its own slots alone -/
theorem ok_tgw {W : Wd} {X : Cx} {P : Pl} {WX : L2.WX} (C : Cok W G lv P WX X) {t : Tg} {e : Expr} (h : tgC P t e = true) (vs : List Nat) (hin : tgIn t vs = true) :
    PG X e (fun v σ H Q => ∃ (φ : List Addr) (hd : Hd) (d : D) (σd : DSt) (K : DSt → Prop), Sim W φ hd H ∧ RepSt W φ H σd σ ∧ Rep W φ H d v ∧ tgW t d σd hd K ∧ ∀ σd' σ', L2.wipe σ' vs = L2.wipe σ vs → RepSt W φ H σd' σ' → K σd' → Q σ' H) := by
  cases t with
  | nm i =>
    cases e with
    | Name x pos =>
      obtain ⟨n1, n2, n3, n4⟩ := C.nm (show nmB P i x = true from h)
      refine pg_imp (pg_name (i := i) n1 n2 n3 n4) fun v σ H Q h => ?_
      obtain ⟨φ, hd, d, σd, K, S, rs, r, w, k⟩ := h
      have hi : i ∈ vs := by simpa [tgIn] using hin
      exact k _ _ (wipe_set hi) (rs.set i r) w
    | _ => simp [tgC] at h
  | tp is =>
    cases e with
    | Tuple es k pos =>
      have hin' : ∀ i ∈ is, i ∈ vs := by
        have : is.all (fun i => vs.contains i) = true := hin
        intro i hi
        simpa using List.all_eq_true.mp this i hi
      simp only [tgC, Bool.and_eq_true, decide_eq_true_eq] at h
      obtain ⟨⟨hc, h1⟩, h2⟩ := h
      have tgs : ∀ (is : List Nat) (es : List Expr), (∀ i ∈ is, i ∈ vs) → is.length = es.length → ((is.zip es).all fun p => match p.2 with
          | .Name x _ => nmB P p.1 x
          | _ => false) = true → ((assignEach es X.env).findIdx? (·.1) = none ∧ (assignEach es X.env).length = es.length) ∧
          PGs X es (fun us σ H Q => ∃ (φ : List Addr) (hd : Hd) (ds : List D) (σd : DSt) (K : DSt → Prop), Sim W φ hd H ∧ RepSt W φ H σd σ ∧ Reps W φ H ds us ∧ ds.length = is.length ∧ K ((is.zip ds).foldl (fun s p => s.set p.1 (some p.2)) σd) ∧ ∀ σd' σ', L2.wipe σ' vs = L2.wipe σ vs → RepSt W φ H σd' σ' → K σd' → Q σ' H) := by
        intro is es
        induction es generalizing is with
        | nil =>
          intro _ hl _
          cases is with
          | cons => simp at hl
          | nil =>
            refine ⟨⟨rfl, rfl⟩, pgs_imp pgs_nil fun us σ H Q h => ?_⟩
            obtain ⟨φ, hd, ds, σd, K, S, rs, r, l, w, k⟩ := h
            cases ds with
            | nil => cases r; exact ⟨rfl, k σd σ rfl rs w⟩
            | cons => simp at l
        | cons e es ih =>
          intro hv hl h
          cases is with
          | nil => simp at hl
          | cons i is =>
            rw [List.zip_cons_cons, List.all_cons, Bool.and_eq_true] at h
            obtain ⟨⟨i1, i2⟩, i3⟩ := ih is (fun j hj => hv j (List.mem_cons_of_mem _ hj)) (by simpa using hl) h.2
            cases e with
            | Name x pos =>
              have e1 : assignEach (.Name x pos :: es) X.env = (false, assign (.Name x pos) X.env) :: assignEach es X.env := rfl
              obtain ⟨n1, n2, n3, n4⟩ := C.nm h.1
              refine ⟨⟨by rw [e1, List.findIdx?_cons]; simp [i1], by rw [e1]; simp [i2]⟩, pgs_imp (pgs_cons (pg_name (i := i) n1 n2 n3 n4) i3) fun us σ H Q h => ?_⟩
              obtain ⟨φ, hd, ds, σd, K, S, rs, r, l, w, k⟩ := h
              cases r with
              | nil => simp at l
              | @cons d v ds us a b =>
                refine ⟨v, us, rfl, φ, hd, ds, σd.set i (some d), K, S, rs.set i a, b, by simpa using l, w, fun σd' σ' hw => k σd' σ' ?_⟩
                rw [hw, wipe_set (hv i List.mem_cons_self)]
            | _ => cases h.1
      obtain ⟨hst, pgs⟩ := tgs is es hin' h1 h2
      refine pg_imp (pg_or (pg_tup (C.calm hc) pgs hst.2 hst.1) (pg_unl (C.calm hc) pgs hst.2 hst.1)) fun v σ H Q h => ?_
      obtain ⟨φ, hd, d, σd, K, S, rs, r, w, k⟩ := h
      obtain ⟨xs, e, l, w⟩ := w
      obtain ⟨a, us, rfl, hq, ra⟩ := rdS_ok S r e
      rcases hq with hq | hq
      · exact .inr ⟨a, us, rfl, by rw [C.K]; exact hq, by rw [← ra.len, l, h1], φ, hd, xs, σd, K, S, rs, ra, l, w, k⟩
      · exact .inl ⟨a, us, rfl, by rw [C.K]; exact hq, by rw [← ra.len, l, h1], φ, hd, xs, σd, K, S, rs, ra, l, w, k⟩
    | _ => simp [tgC] at h

theorem pg_ex {ι : Type} {X : Cx} {e : Expr} {g : ι → TG} (h : ∀ D, PG X e (g D)) : PG X e (fun v σ H Q => ∃ D, g D v σ H Q) := ⟨fun pins s σ H v u Q I r ⟨D, q⟩ => (h D).run pins s σ H v u Q I r q⟩
theorem pe_ex {ι : Type} {X : Cx} {e : Expr} {g : ι → TE} (h : ∀ D, PE X e (g D)) : PE X e (fun σ H Q => ∃ D, g D σ H Q) := ⟨fun pins s σ H Q I ⟨D, q⟩ => (h D).run pins s σ H Q I q⟩
theorem pts_ex {ι : Type} {X : Cx} {e : List Expr} {g : ι → TT} (h : ∀ D, PTs X e (g D)) : PTs X e (fun σ H Q => ∃ D, g D σ H Q) := ⟨fun pins s σ H Q I ⟨D, q⟩ => (h D).run pins s σ H Q I q⟩
theorem Ext.poke {φ φ' : List Addr} {H H' : Hp} {p : Addr} {o : HO} (e : Ext φ φ' H H') (hp : H p = none) : Ext φ φ' H (upd H' p o) :=
  ⟨e.pre, fun a u n h => by rw [upd_ne (ne_of_none h hp)]; exact e.keep a u n h, fun a h => by
    by_cases z : a = p
    · subst z; rw [upd_same]; simp
    · rw [upd_ne z]; exact e.there a h, fun a u v h => by rw [upd_ne (ne_of_none h hp)]; exact e.frz a u v h⟩
section
variable {W : Wd} {φ : List Addr} {H : Hp}
mutual
theorem Rep.enroll {p : Addr} : ∀ {d v}, Rep (W.more p) φ H d v → Rep W (φ ++ [p]) H d v
  | _, _, .non => .non
  | _, _, .bl b => .bl b
  | _, _, .int i => .int i
  | _, _, .str x => .str x
  | _, _, .tup h n r => .tup h (en n) (Reps.enroll r)
  | _, _, .vl h n r => .vl h (en n) (Reps.enroll r)
  | _, _, .sv h r => .sv (by
      rcases h with ⟨h, n⟩ | h
      · exact .inl ⟨h, en n⟩
      · exact .inr h) (Reps.enroll r)
  | _, _, .vi h n c m r l => .vi h (en n) c m (Reps.enroll r) l
  | _, _, .ref h => .ref (by rw [List.getElem?_append_left (List.getElem?_eq_some_iff.mp h).1]; exact h)
theorem Reps.enroll {p : Addr} : ∀ {ds vs}, Reps (W.more p) φ H ds vs → Reps W (φ ++ [p]) H ds vs
  | _, _, .nil => .nil
  | _, _, .cons a b => .cons (Rep.enroll a) (Reps.enroll b)
theorem en {p a : Addr} (n : Off (W.more p) φ a) : Off W (φ ++ [p]) a := by
  obtain ⟨n1, n2⟩ := n
  simp only [List.mem_cons, not_or] at n2
  exact ⟨by simp only [List.mem_append, List.mem_singleton, not_or]; exact ⟨n1, n2.1⟩, n2.2⟩
end
theorem Sim.enroll {hd : Hd} {p : Addr} {acc : List D} {vs : List V} (s : Sim (W.more p) φ hd H) (hn : p ∉ φ) (hf : p ∉ W.fb) (hp : H p = some (.lst vs)) (r : Reps (W.more p) φ H acc vs) : Sim W (φ ++ [p]) (hd ++ [.lst acc]) H := by
  refine ⟨by simp [s.len], ?_, fun a h => s.fbt a (List.mem_cons_of_mem _ h), fun a h z => ?_, fun n u h => ?_⟩
  rotate_left
  · rcases List.mem_append.mp z with z | z
    · exact s.fbn a (List.mem_cons_of_mem _ h) z
    · have : a = p := by simpa using z
      exact hf (by rw [← this]; exact h)
  rotate_left
  · rw [List.nodup_append]
    refine ⟨s.nd, by simp, fun a ha b hb e => ?_⟩
    have : b = p := by simpa using hb
    subst this
    exact hn (e ▸ ha)
  · by_cases hl : n < hd.length
    · rw [List.getElem?_append_left hl] at h
      obtain ⟨a, ha, q⟩ := s.obj n u h
      refine ⟨a, by rw [List.getElem?_append_left (by rw [s.len]; exact hl)]; exact ha, ?_⟩
      cases u with
      | lst xs => obtain ⟨vs, q1, q2⟩ := q; exact ⟨vs, q1, q2.enroll⟩
      | ins c ns xs => obtain ⟨C, dx, vs, q1, q2, q3, q4⟩ := q; exact ⟨C, dx, vs, q1, q2, q3.enroll, q4⟩
      | dk z kvs => obtain ⟨vs, q1, q2⟩ := q; exact ⟨vs, q1, q2.enroll⟩
      | dt z kvs => obtain ⟨vs, q1, q2⟩ := q; exact ⟨vs, q1, q2.enroll⟩
    · have e : n = hd.length := by
        have := (List.getElem?_eq_some_iff.mp h).1
        simp at this; omega
      subst e
      simp at h
      subst h
      exact ⟨p, by rw [← s.len]; simp, vs, hp, r.enroll⟩
end
/-- what a comprehension is made of -/
noncomputable def CompParts (X : Cx) (elt' tg' it' : Expr) (ifs : List Expr) (scope : Scope) (T : TE) : Prop := ∃ (wi : TI) (g : TG) (tt : TT) (te : TE) (own : List (Str × Nat)), PI X tg' it' wi ∧ BlkOk X.N X.env.scope scope own ∧
  (∀ (s : Shared) (H : Hp) (C' : Addr) (cl : List (Str × Addr)) (fp : List Addr), PG (X.blk s H scope (compEnvC scope cl C' X.env) fp) tg' g) ∧ (∀ (s : Shared) (H : Hp) (C' : Addr) (cl : List (Str × Addr)) (fp : List Addr), PTs (X.blk s H scope (compEnvC scope cl C' X.env) fp) ifs tt) ∧
  (∀ (s : Shared) (H : Hp) (C' : Addr) (cl : List (Str × Addr)) (fp : List Addr), PE (X.blk s H scope (compEnvC scope cl C' X.env) fp) elt' te) ∧ (∀ x, foldedSetIterable it' X.env x = pure x) ∧ ∀ σ H Q, T σ H Q → tLc wi g tt te (own.map (·.2)) σ H Q
theorem comp_parts {m elt tg it cond vs} (hi : SndI it) (hc : SndO cond) (he : SndE elt) (C : Cok W G lv P WX X) {elt' tg' it' : Expr} {ifs : List Expr} {scope : Scope}
    (k : (P.cm && blkB P scope vs && chkI P it it' tg' && tgC (P.blk scope) tg tg' && chkC (P.blk scope) cond ifs && chkE (P.blk scope) elt elt' && tgIn tg vs) = true) :
    CompParts X elt' tg' it' ifs scope (Ter W (rV W) WX (wpE G (.comp m elt tg it cond vs))) := by
  simp only [Bool.and_eq_true] at k
  obtain ⟨⟨⟨⟨⟨⟨hcm, hb⟩, h1⟩, h2⟩, h3⟩, h4⟩, h5⟩ := k
  unfold blkB at hb
  rw [Bool.and_eq_true] at hb
  have ok := blkOk_by hb.1
  have evs := filterMap_snd P.N vs hb.2
  have hiW := hi C it' tg' h1
  have nd : X.N.Nodup := by rw [C.N]; exact C.nd
  have CB : ∀ (D : Addr) (s : Shared) (H : Hp) (C' : Addr) (cl : List (Str × Addr)) (fp : List Addr), Cok (W.more D) G lv (P.blk scope) (fun _ _ _ _ => False) (X.blk s H scope (compEnvC scope cl C' X.env) fp) :=
    fun D s H C' cl fp => C.blk s H scope C' cl fp (W.more D) rfl rfl rfl
  have hcm0 : P.cm = true := hcm
  have hs : ∀ x, foldedSetIterable it' X.env x = pure x := set_plain (chkI_set h1)
  refine ⟨_, _, _, _, _, hiW, by rw [C.N, C.sc]; exact ok, fun s H C' cl fp => pg_ex fun D => ok_tgw (CB D s H C' cl fp) h2 vs h5, fun s H C' cl fp => pts_ex fun D => (hc (CB D s H C' cl fp)).2 ifs h3,
    fun s H C' cl fp => pe_ex fun D => (he (CB D s H C' cl fp) elt' h4).1, hs, ?_⟩
  rw [evs]
  intro σ H Q hq
  obtain ⟨φ, hd, σd, Qd, Xd, A, w, q, x⟩ := hq
  refine Ter.go A x w fun φ1 h1 H1 J Jv e1 A1 hJ w1 => ?_
  intro dA hD
  have hDφ : dA ∉ φ1 := A1.sim.notin hD
  have hDf : dA ∉ W.fb := fun z => A1.sim.fbt dA z hD
  let turn : D → Hd → (Option D → Hd → Prop) → Prop := fun x h2 K => tgW tg x (Vd.wipe σd vs) h2 fun σ2 =>
    wpC G cond σ2 h2 (fun b h3 => if b = true then wpE G elt σ2 h3 (fun y h4 => K (some y) h4) (fun _ _ => False) else K none h3) (fun _ _ => False)
  let Inv5 : Nat → Hp → Prop := fun i H => ∃ (φ : List Addr) (hd : Hd) (acc : List D) (va : List V), Ext φ1 φ H1 H ∧ dA ∉ φ ∧ Sim (W.more dA) φ hd H ∧ RepSt (W.more dA) φ H σd σ ∧ H dA = some (.lst va) ∧ Reps (W.more dA) φ H acc va ∧
    compL J.stay turn (J.xs.drop i) acc hd (fun acc h5 => mkL m acc h5 Qd)
  refine ⟨fun i n H => i + n = J.xs.length ∧ Inv5 i H, ⟨J.xs.length, by simp, φ1, h1, [], [], (Ext.refl).poke hD, hDφ, A1.sim.more hD, A1.st.imp fun d v r => (Rep.more hD r).ext (W := W.more dA) (Ext.new hD), upd_same, .nil, w1⟩, ?_⟩
  rintro i n H2 ⟨hin, φ2, h2, acc, va, e2, hn2, S2, R2, hD2, ra, w2⟩
  have hfb : ∀ p ∈ (W.more dA).fb, p ∈ W.fb ∨ H1 p = none := fun p hp => by
    rcases List.mem_cons.mp hp with rfl | hp
    · exact .inr hD
    · exact .inl hp
  by_cases hlt : i < J.xs.length
  · right
    have hdrop : J.xs.drop i = J.xs[i] :: J.xs.drop (i + 1) := List.drop_eq_getElem_cons hlt
    rw [hdrop] at w2
    obtain ⟨st, w2⟩ := w2
    obtain ⟨go, yld⟩ := (hJ _ hfb φ2 h2 H2 i e2 S2 st).1 hlt
    refine ⟨go, Inv5 (i + 1), fun H' h' => ⟨n - 1, by omega, by omega, h'⟩, fun x' H3 y => ?_⟩
    obtain ⟨d, hd', e3, S3, r3⟩ := yld x' H3 y
    have ed : J.xs[i] = d := by
      rw [List.getElem?_eq_getElem hlt] at hd'
      exact Option.some.inj hd'
    rw [ed] at w2
    refine ⟨dA, φ2, h2, d, Vd.wipe σd vs, _, S3, RepSt.wipe (W := W.more dA) (C.xn hcm0) (R2.ext e3) vs, r3, w2, fun σ4d σ4 hw rs4 w4 => ⟨by rw [hw, wipe_idem fun _ z => z], ?_⟩⟩
    have A4 : At (W.more dA) φ2 h2 H3 σ4d σ4 := ⟨S3, rs4⟩
    have x4 : XOk (W.more dA) (fun _ _ _ _ => False) φ2 H3 σ4 (fun _ _ => False) := fun _ _ _ _ _ _ _ _ z => z
    have hD3 : H3 dA = some (.lst va) := e3.keep dA _ hn2 hD2
    refine ⟨dA, Ter.go A4 x4 w4 fun φ5 h5 H5 b bv e5 A5 rb w5 => ?_⟩
    cases rb
    have hD5 : H5 dA = some (.lst va) := e5.keep dA _ hn2 hD3
    have hn5 : dA ∉ φ5 := e5.out hn2 hD3
    cases b with
    | false =>
      rw [if_neg Bool.false_ne_true] at w5 ⊢
      exact ⟨φ5, h5, acc, va, e2.trans (e3.trans e5), hn5, A5.sim, (R2.ext e3).ext e5, hD5, (ra.ext e3).ext e5, w5⟩
    | true =>
      rw [if_pos rfl] at w5 ⊢
      refine ⟨dA, Ter.go A5 (x4.ext e5) w5 fun φ6 h6 H6 y yv e6 A6 ry w6 => ?_⟩
      have hD6 : H6 dA = some (.lst va) := e6.keep dA _ hn5 hD5
      have hn6 : dA ∉ φ6 := e6.out hn5 hD5
      have eT := e2.trans (e3.trans (e5.trans e6))
      have hmem : dA ∈ (W.more dA).fb := List.mem_cons_self
      have ra6 : Reps (W.more dA) φ6 H6 acc va := ((ra.ext e3).ext e5).ext e6
      exact ⟨va, hD6, by rw [← ra.len]; exact w6.1, φ6, h6, acc ++ [y], va ++ [yv], eT.poke hD, hn6, A6.sim.poke hmem hn6, (((R2.ext e3).ext e5).ext e6).imp fun d v r => r.poke hmem, upd_same, (ra6.append (.single ry)).poke hmem, w6.2⟩
  · left
    have hi : i = J.xs.length := by omega
    have hdrop : J.xs.drop i = [] := List.drop_eq_nil_of_le (by omega)
    rw [hdrop] at w2
    obtain ⟨st, w2⟩ := w2
    refine ⟨(hJ _ hfb φ2 h2 H2 i e2 S2 st).2 hi, ?_⟩
    cases m with
    | false => exact q φ2 h2 H2 _ _ (e1.trans e2) S2.less (.vl hD2 ⟨hn2, hDf⟩ ra.less) w2.2
    | true =>
      have e3 : Ext φ1 (φ2 ++ [dA]) H1 H2 := by
        obtain ⟨l, el, hl⟩ := e2.pre
        refine ⟨⟨l ++ [dA], by rw [el, List.append_assoc], fun p hp => ?_⟩, e2.keep, e2.there, e2.frz⟩
        rcases List.mem_append.mp hp with z | z
        · exact hl p z
        · have : p = dA := by simpa using z
          rw [this]; exact hD
      refine q (φ2 ++ [dA]) (h2 ++ [.lst acc]) H2 _ _ (e1.trans e3) (S2.enroll hn2 hDf hD2 ra) (.ref ?_) w2.2
      rw [← S2.len]; simp
theorem ok_comp {m elt tg it cond vs} (hi : SndI it) (hc : SndO cond) (he : SndE elt) : SndE (.comp m elt tg it cond vs) := by
  intro W G lv P WX X C e h
  obtain ⟨elt', tg', it', ifs, scope, pos, rfl, k⟩ := comp_inv h
  have hcm : P.cm = true := by
    simp only [Bool.and_eq_true] at k
    exact k.1.1.1.1.1.1
  obtain ⟨wi, g, tt, te, own, p1, p2, p3, p4, p5, p6, p7⟩ := comp_parts (m := m) hi hc he C k
  have p : PE X (.ListComp elt' [⟨tg', it', ifs, 0⟩] scope pos) (Ter W (rV W) WX (wpE G (.comp m elt tg it cond vs))) := pe_imp (pe_lc (C.calm hcm) (by rw [C.N]; exact C.nd) p1 p2 p3 p4 p5 p6) p7
  exact ⟨p, fun _ => tst_of p rfl⟩
end

mutual
theorem sndE : ∀ c : E, SndE c
  | .var i => ok_var i
  | .int i => ok_int i
  | .str i => ok_str i
  | .bl i => ok_bl i
  | .non => ok_non
  | .glob x => ok_glob x
  | .bin _ _ a b => ok_bin (sndE a) (sndE b)
  | .neg a => ok_neg (sndE a)
  | .not a => ok_not (sndE a)
  | .cmp _ a b => ok_cmp (sndE a) (sndE b)
  | .chain _ _ a b c => ok_chain (sndE a) (sndE b) (sndE c)
  | .and es => ok_and (sndEs es)
  | .or es => ok_or (sndEs es)
  | .ife c a b => ok_ife (sndE c) (sndE a) (sndE b)
  | .tup es => ok_tup (sndEs es)
  | .lst _ es => ok_lst (sndEs es)
  | .idx a i => ok_idx (sndE a) (sndE i)
  | .slc _ a lo hi => ok_slc (sndE a) (sndO lo) (sndO hi)
  | .stp a _ _ => ok_stp (sndE a)
  | .mdef _ a => ok_mdef (sndE a)
  | .lset a => ok_lset (sndE a)
  | .lrev _ a => ok_lrev (sndE a)
  | .srs _ a => ok_srs (sndE a)
  | .mpr _ a => ok_mpr (sndE a)
  | .dnew _ => ok_dnew
  | .ddsp k v => ok_ddsp (sndE k) (sndE v)
  | .dln a => ok_dln (sndE a)
  | .dget o i => ok_dget (sndE o) (sndE i)
  | .din _ i o => ok_din (sndE i) (sndE o)
  | .lrg _ a b => ok_lrg (sndE a) (sndE b)
  | .lrb _ a b => ok_lrb (sndE a) (sndE b)
  | .lzp a b => ok_lzp (sndE a) (sndE b)
  | .fld a _ => ok_fld (sndE a)
  | .isi a _ => ok_isi (sndE a)
  | .call _ es => ok_call (sndEs es)
  | .make _ es => ok_make (sndEs es)
  | .meth o _ es => ok_meth (sndE o) (sndEs es)
  | .ise _ _ => ok_ise
  | .bi _ _ es => ok_bi (sndEs es)
  | .bm _ o es => ok_bm (sndE o) (sndEs es)
  | .comp _ elt _ it cond _ => ok_comp (sndI it) (sndO cond) (sndE elt)
theorem sndEs : ∀ c : Es, SndEs c
  | .nil => ok_nil
  | .cons e r => ok_cons (sndE e) (sndEs r)
theorem sndO : ∀ c : Oe, SndO c
  | .none => ok_onone
  | .some e => ok_osome (sndE e)
theorem sndI : ∀ c : It, SndI c
  | .val e => ok_ival (sndE e)
  | .chs e => ok_ichs (sndE e)
  | .rng1 a => ok_irng1 (sndE a)
  | .rng2 a b => ok_irng2 (sndE a) (sndE b)
  | .rngb a b => ok_irngb (sndE a) (sndE b)
  | .rng3 a b c => ok_irng3 (sndE a) (sndE b) (sndE c)
  | .zip a b => ok_izip (sndE a) (sndE b)
  | .enum a => ok_ienum (sndE a)
  | .rev a => ok_irev (sndE a)
  | .kys a => ok_ikys (sndE a)
end
end Vd

set_option Elab.async false
set_option linter.all false
set_option maxRecDepth 100000
set_option maxHeartbeats 4000000
/-! statements -/
namespace Vd
open PySem PySem.Spec PyProof.Rows L2
noncomputable def parB (sc : Scope) (x : Str) (px : Pos) (y : Str) (py : Pos) (a b : Expr) : Bool :=
  !(x == y) && (px.line == py.line) && (sc.names.lookup x == some .local) && (sc.names.lookup y == some .local) && !starB a && !starB b && !(foldedForSure 8 a && foldedForSure 8 b) && !(constantsAlone 8 a && constantsAlone 8 b)
theorem star_any2 {e : Expr} (h : starB e = false) : (match e with | .Starred .. => true | _ => false) = false := by cases e <;> first | rfl | simp [starB] at h
theorem par_ok {env : Env} {sc : Scope} {x y : Str} {px py pt p2 : Pos} {a b : Expr} {k k2 : Nat} (hk : env.scope.kind = .function) (hs : env.scope = sc) (h : parB sc x px y py a b = true) :
    swappedStores [.Tuple [.Name x px, .Name y py] k pt] (.Tuple [a, b] k2 p2) env = pure (some [x, y]) := by
  subst hs
  unfold parB at h
  simp only [Bool.and_eq_true, Bool.not_eq_true'] at h
  obtain ⟨⟨⟨⟨⟨⟨⟨h1, h2⟩, h3⟩, h4⟩, h5⟩, h6⟩, h7⟩, h8⟩ := h
  have hb : env.blockKind = .function := by unfold Env.blockKind; rw [hk]; rfl
  have kx : (env.kindOf x == some .local) = true := h3
  have ky : (env.kindOf y == some .local) = true := h4
  have e1 : (px.line == px.line) = true := by simp
  have e2 : (py.line == px.line) = true := by
    have : px.line = py.line := by simpa using h2
    rw [this]; simp
  have hne : (y == x) = false := by
    rw [beq_eq_false_iff_ne] at h1 ⊢
    exact fun e => h1 e.symm
  have ed : List.eraseDups [x, y] = [x, y] := by
    simp [List.eraseDups, List.eraseDupsBy, List.eraseDupsBy.loop, hne]
  unfold swappedStores
  simp only [List.length_cons, List.length_nil, hb, List.any_cons, List.any_nil, star_any2 h5, star_any2 h6, List.head?_cons, Option.map_some, Option.getD_some, List.filterMap_cons, List.filterMap_nil, kx, ky, e1, e2, Expr.pos, Bool.and_self, if_true, ed, List.all_cons, List.all_nil, Bool.and_true, h7, h8]
  refine (if_neg (by decide)).trans ((if_neg ?_).trans rfl)
  intro hh
  simp only [Bool.or_eq_true] at hh
  rcases hh with hh | hh | hh
  · cases a with
    | Starred v p => exact absurd (show true = false from h5) (by decide)
    | _ => cases hh
  · cases b with
    | Starred v p => exact absurd (show true = false from h6) (by decide)
    | _ => cases hh
  · cases hh
theorem swc_ok {elt : Expr} {gs : List Comprehension} {scope : Scope} {vp pos : Pos} {t : Str} {l : Nat} {env : Env} (hk : env.scope.kind = .function) :
    swapsWith (.ListComp elt gs scope vp) (some (.Name t pos)) l env = pure ((env.scope.names.lookup t == some .local) && pos.line == vp.line && !(scope.names.any fun (n, k) => n == t && (k == .local || k == .cell))) := by
  have hb : env.blockKind = .function := by unfold Env.blockKind; rw [hk]; rfl
  unfold swapsWith
  simp only [hb, Expr.pos, Env.kindOf]
  rfl
theorem comp_plain2 {e t : Expr} {l : Nat} {env : Env} (h : compB e = false) : swapsWithSole [t] e l env = pure false := by
  have e1 : swapsWithSole [t] e l env = swapsWith e (some t) l env := by
    unfold swapsWithSole; rfl
  rw [e1]; exact comp_plain h
theorem sole_sub {a b : Expr} {p : Pos} {e : Expr} {l : Nat} {env : Env} : swapsWithSole [.Subscript a b p] e l env = pure false := by
  have e1 : swapsWithSole [.Subscript a b p] e l env = swapsWith e (some (.Subscript a b p)) l env := by
    unfold swapsWithSole; rfl
  rw [e1]
  unfold swapsWith
  cases e <;> rfl
noncomputable def isComp : Expr → Bool | .ListComp .. => true | _ => false
noncomputable def augB : Op2 → Bool | .add => true | .sub => true | _ => false
noncomputable def tupB : Expr → Bool | .Tuple .. => true | .List .. => true | _ => false
mutual
noncomputable def chkS (P : Pl) : S → Stmt → Bool
  | .set (.nm i) e, e0 => match e0 with
    | .Assign [.Name x px] v pos => nmB P i x && chkE P e v && (!compB v || (match v with
        | .ListComp _ _ scope vp => !(P.sc.names.lookup x == some .local) || ((P.sc.names.lookup x == some .local) && px.line == vp.line && !(scope.names.any fun (n, k) => n == x && (k == .local || k == .cell)))
        | _ => false))
    | _ => false
  | .set (.tp is) e, e0 => match e0 with
    | .Assign [.Tuple ts k p] v pos => tgC P (.tp is) (.Tuple ts k p) && chkE P e v && !tupB v
    | _ => false
  | .par i j a b, e0 => match e0 with
    | .Assign [.Tuple [.Name x px, .Name y py] _ _] (.Tuple [a', b'] _ _) pos => P.cm && nmB P i x && nmB P j y && parB P.sc x px y py a' b' && chkE P a a' && chkE P b b'
    | _ => false
  | .sub o i e, e0 => match e0 with
    | .Assign [.Subscript o' i' _] v pos => chkE P e v && chkE P o o' && chkE P i i' && !sliceB i'
    | _ => false
  | .dput o i e, e0 => match e0 with
    | .Assign [.Subscript o' i' _] v pos => chkE P e v && chkE P o o' && chkE P i i'
    | _ => false
  | .aug i o e, e0 => match e0 with
    | .AugAssign (.Name x _) op v _ => nmB P i x && opB o op && chkE P e v && augB o
    | _ => false
  | .ex e, e0 => match e0 with
    | .Expr v _ => chkE P e v && !compB v
    | _ => false
  | .ret e, e0 => match e0 with
    | .Return (some v) _ => chkE P e v
    | _ => false
  | .retN, e0 => match e0 with
    | .Return none _ => true
    | _ => false
  | .ite c a b, e0 => match e0 with
    | .If c' a' b' _ => chkE P c c' && tstB c && chkSs P a a' && chkSs P b b'
    | _ => false
  | .whl c b, e0 => match e0 with
    | .While c' b' [] _ => P.cm && chkE P c c' && tstB c && chkSs P b b'
    | _ => false
  | .fr t it b, e0 => match e0 with
    | .For tg it' b' [] _ => P.cm && chkI P it it' tg && tgC P t tg && chkSs P b b'
    | _ => false
  | .fset o f e, e0 => match e0 with
    | .Assign [.Attribute o' g _] v pos => chkE P e v && chkE P o o' && decide (g = Str.ofString f) && !compB v
    | _ => false
  | .raise c, e0 => match e0 with
    | .Raise (some (.Call (.Name x _) [.Constant (.str _) _ _] [] _)) none _ => P.cm && decide (x = Str.ofString c) && glB P.sc x && okN x
    | _ => false
  | .try b c none hh, e0 => match e0 with
    | .Try body [.ExceptHandler (some (.Name x _)) none (b0 :: suite) _] [] [] _ => P.cm && !P.ex && decide (x = Str.ofString c) && glB P.sc x && okN x && chkSs P b body && chkSs { P with cm := false, ex := false } hh (b0 :: suite)
    | _ => false
  | .try b c (some i) hh, e0 => match e0 with
    | .Try body [.ExceptHandler (some (.Name x _)) (some n) (b0 :: suite) _] [] [] _ => P.cm && !P.ex && decide (x = Str.ofString c) && glB P.sc x && okN x && decide (P.N[i]? = some n) && (P.sc.names.lookup n == some .local) && chkSs P b body && chkSs { P with cm := false, ex := true } hh (b0 :: suite)
    | _ => false
  | .pass, e0 => match e0 with
    | .Pass _ => true
    | _ => false
  | .brk, e0 => match e0 with
    | .Break _ => true
    | _ => false
  | .cont, e0 => match e0 with
    | .Continue _ => true
    | _ => false
noncomputable def chkSs (P : Pl) : Ss → List Stmt → Bool
  | .nil, [] => true
  | .cons s r, t :: ts => chkS P s t && chkSs P r ts
  | _, _ => false
end
/-- where a def's body stands -/
structure Sok (W : Wd) (G : Gam) (lv : Nat) (P : Pl) (WX : L2.WX) (X : Cx) : Prop where
  c : Cok W G lv P WX X
  kind : X.env.scope.kind = .function
  po : P.cm = true → PassesOwn (model X.prog X.w) X.A X.env X.xe
  stk : X.stack = X.env :: X.outer
  frm : X.env.frame = some X.env.locals
noncomputable def XSOk (W : Wd) (WX : L2.WX) (φ : List Addr) (H : Hp) (Xd : XS) : Prop := ∀ φ' hd' H' σd' σ' c C, Ext φ φ' H H' → Sim W φ' hd' H' → RepSt W φ' H' σd' σ' → clOf W.mg c = some C → Xd c σd' hd' → WX (.ref C) none σ' H'
structure EndOk (W : Wd) (φ : List Addr) (H : Hp) (Kd : Vd.Ends) (K : L2.Ends) : Prop where
  nx : ∀ φ' hd' H' σd' σ', Ext φ φ' H H' → Sim W φ' hd' H' → RepSt W φ' H' σd' σ' → Kd.nx σd' hd' → K.nx σ' H'
  rt : ∀ φ' hd' H' d v, Ext φ φ' H H' → Sim W φ' hd' H' → Rep W φ' H' d v → Kd.rt d hd' → K.rt v H'
  bk : ∀ φ' hd' H' σd' σ', Ext φ φ' H H' → Sim W φ' hd' H' → RepSt W φ' H' σd' σ' → Kd.bk σd' hd' → K.bk σ' H'
  ct : ∀ φ' hd' H' σd' σ', Ext φ φ' H H' → Sim W φ' hd' H' → RepSt W φ' H' σd' σ' → Kd.ct σd' hd' → K.ct σ' H'
noncomputable def Tes (W : Wd) (WX : L2.WX) (w : DSt → Hd → Vd.Ends → XS → Prop) : TS := fun K σ H => ∃ φ hd σd Kd Xd, At W φ hd H σd σ ∧ w σd hd Kd Xd ∧ EndOk W φ H Kd K ∧ XSOk W WX φ H Xd
section
variable {W : Wd} {WX : L2.WX} {φ φ' : List Addr} {hd : Hd} {H H' : Hp} {σd : DSt} {σ : L2.St} {Kd : Vd.Ends} {K : L2.Ends} {Xd : XS}
theorem XSOk.ext (q : XSOk W WX φ H Xd) (e : Ext φ φ' H H') : XSOk W WX φ' H' Xd := fun φ2 h2 H2 s2 t2 c C e2 s r k w => q φ2 h2 H2 s2 t2 c C (e.trans e2) s r k w
theorem EndOk.ext (q : EndOk W φ H Kd K) (e : Ext φ φ' H H') : EndOk W φ' H' Kd K :=
  ⟨fun _ _ _ _ _ e2 => q.nx _ _ _ _ _ (e.trans e2), fun _ _ _ _ _ e2 => q.rt _ _ _ _ _ (e.trans e2), fun _ _ _ _ _ e2 => q.bk _ _ _ _ _ (e.trans e2), fun _ _ _ _ _ e2 => q.ct _ _ _ _ _ (e.trans e2)⟩
/-- an exception out of an expression -/
theorem XSOk.x (q : XSOk W WX φ H Xd) (r : RepSt W φ H σd σ) : XOk W WX φ H σ (fun c h => Xd c σd h) := fun φ' hd' H' c C e s k w => q φ' hd' H' σd σ c C e s (r.ext e) k w
end
theorem ps_imp {X : Cx} {s : Stmt} {t t' : TS} (h : PS X s t) (i : ∀ K σ H, t' K σ H → t K σ H) : PS X s t' := ⟨fun pins s σ H D I q => h.run pins s σ H D I (i _ _ _ q)⟩
theorem pss_imp {X : Cx} {s : List Stmt} {t t' : TS} (h : PSs X s t) (i : ∀ K σ H, t' K σ H → t K σ H) : PSs X s t' := ⟨fun pins s σ H D I q => h.run pins s σ H D I (i _ _ _ q)⟩
noncomputable def SndS (c : S) : Prop := ∀ {W : Wd} {G : Gam} {lv : Nat} {P : Pl} {WX : L2.WX} {X : Cx}, Sok W G lv P WX X → ∀ s, chkS P c s = true → PS X s (Tes W WX (wpS G c))
noncomputable def SndSs (c : Ss) : Prop := ∀ {W : Wd} {G : Gam} {lv : Nat} {P : Pl} {WX : L2.WX} {X : Cx}, Sok W G lv P WX X → ∀ s, chkSs P c s = true → PSs X s (Tes W WX (wpSs G c))
section
variable {W : Wd} {G : Gam} {lv : Nat} {P : Pl} {WX : L2.WX} {X : Cx}
theorem set1_inv {i : Nat} {e : E} {s : Stmt} (h : chkS P (.set (.nm i) e) s = true) : ∃ x px v pos, s = .Assign [.Name x px] v pos ∧ (nmB P i x && chkE P e v && (!compB v || (match v with
    | .ListComp _ _ scope vp => !(P.sc.names.lookup x == some .local) || ((P.sc.names.lookup x == some .local) && px.line == vp.line && !(scope.names.any fun (n, k) => n == x && (k == .local || k == .cell)))
    | _ => false))) = true := by
  unfold chkS at h
  split at h <;> first | (rename_i q; cases q; done) | (injections; subst_vars; exact ⟨_, _, _, _, rfl, h⟩) | cases h
theorem nm_wp {i : Nat} {e : E} {t : TE} (hE : ∀ σ H Q, Ter W (rV W) WX (wpE G e) σ H Q → t σ H Q) : ∀ K σ H, Tes W WX (wpS G (.set (.nm i) e)) K σ H → tAsg t (gName i) K σ H := by
  intro K σ H hq
  obtain ⟨φ, hd, σd, Kd, Xd, A, w, q, x⟩ := hq
  refine hE _ _ _ (Ter.go A (x.x A.st) w fun φ1 h1 H1 d v e1 A1 r1 w1 => ?_)
  exact q.nx φ1 h1 H1 _ _ e1 A1.sim (A1.st.set i r1) w1
theorem ok_set1 {i e} : SndS (.set (.nm i) e) := by
  intro W G lv P WX X C s h
  obtain ⟨x, px, v, pos, rfl, k⟩ := set1_inv h
  simp only [Bool.and_eq_true, Bool.or_eq_true, Bool.not_eq_true'] at k
  obtain ⟨⟨k1, k2⟩, k3⟩ := k
  obtain ⟨n1, n2, n3, n4⟩ := C.c.nm k1
  by_cases hc : compB v = false
  · exact ps_imp (ps_set (i := i) n1 n2 n3 (sndE e C.c v k2).1 (comp_plain hc) n4) (nm_wp fun _ _ _ h => h)
  · rcases k3 with k3 | k3
    · exact absurd k3 hc
    · cases v with
      | ListComp elt gs scope vp =>
        cases e with
        | comp m elt1 tg it cond vs =>
          obtain ⟨elt', tg', it', ifs, scope', pos', e', kk⟩ := comp_inv k2
          cases e'
          have hcm : P.cm = true := by
            simp only [Bool.and_eq_true] at kk
            exact kk.1.1.1.1.1.1
          obtain ⟨wi, g, tt, te, own, p1, p2, p3, p4, p5, p6, p7⟩ := comp_parts (m := m) (sndI it) (sndO cond) (sndE elt1) C.c kk
          by_cases hl : (P.sc.names.lookup x == some .local) = true
          case neg =>
            refine ps_imp (ps_set (i := i) n1 n2 n3 (sndE _ C.c _ k2).1 ?_ n4) (nm_wp fun _ _ _ h => h)
            rw [swc_ok C.kind, C.c.sc, Bool.eq_false_iff.mpr hl]; rfl
          have k3 : (!(P.sc.names.lookup x == some .local) || ((P.sc.names.lookup x == some .local) && px.line == vp.line && !(scope.names.any fun (n, k) => n == x && (k == .local || k == .cell)))) = true := k3
          rw [Bool.or_eq_true, Bool.and_eq_true, Bool.and_eq_true] at k3
          have k3 := k3.resolve_left (by rw [hl]; decide)
          have hloc : X.env.scope.names.lookup x = some .local := by
            rw [C.c.sc]
            have := k3.1.1
            cases e : P.sc.names.lookup x with
            | none => rw [e] at this; cases this
            | some kk => rw [e] at this; cases kk <;> first | rfl | cases this
          refine ps_imp (ps_setLc (i := i) (C.c.calm hcm) n1 n2 hloc ?_ p1 p2 p3 p4 p5 p6) (nm_wp p7)
          rw [swc_ok C.kind, C.c.sc, k3.1.1, k3.1.2, k3.2]; rfl
        | _ => simp [chkE] at k2
      | _ => cases k3
theorem set2_inv {is : List Nat} {e : E} {s : Stmt} (h : chkS P (.set (.tp is) e) s = true) : ∃ ts k p v pos, s = .Assign [.Tuple ts k p] v pos ∧ (tgC P (.tp is) (.Tuple ts k p) && chkE P e v && !tupB v) = true := by
  unfold chkS at h
  split at h <;> first | (rename_i q; cases q; done) | (injections; subst_vars; exact ⟨_, _, _, _, _, rfl, h⟩) | cases h
theorem ok_set2 {is e} : SndS (.set (.tp is) e) := by
  intro W G lv P WX X C s h
  obtain ⟨ts, k, p, v, pos, rfl, kk⟩ := set2_inv h
  simp only [Bool.and_eq_true, Bool.not_eq_true'] at kk
  obtain ⟨⟨k1, k2⟩, k3⟩ := kk
  have hsw : swappedStores [.Tuple ts k p] v X.env = pure none := by
    cases v <;> first | rfl | (simp [tupB] at k3)
  have hsw2 : swapsWithSole [.Tuple ts k p] v pos.line X.env = pure false := by
    unfold swapsWithSole swapsWith
    cases v <;> rfl
  refine ps_imp (ps_asg (sndE e C.c v k2).1 (ok_tg C.c k1) hsw2 hsw) fun K σ H hq => ?_
  obtain ⟨φ, hd, σd, Kd, Xd, A, w, q, x⟩ := hq
  refine Ter.go A (x.x A.st) w fun φ1 h1 H1 d v e1 A1 r1 w1 => ?_
  exact ⟨φ1, h1, d, σd, _, A1.sim, A1.st, r1, w1, fun σd' σ' rs w' => q.nx φ1 h1 H1 _ _ e1 A1.sim rs w'⟩
theorem par_inv {i j : Nat} {a b : E} {s : Stmt} (h : chkS P (.par i j a b) s = true) : ∃ x px y py k p a' b' k2 p2 pos, s = .Assign [.Tuple [.Name x px, .Name y py] k p] (.Tuple [a', b'] k2 p2) pos ∧
    (P.cm && nmB P i x && nmB P j y && parB P.sc x px y py a' b' && chkE P a a' && chkE P b b') = true := by
  unfold chkS at h
  split at h <;> first | (rename_i q; cases q; done) | (injections; subst_vars; exact ⟨_, _, _, _, _, _, _, _, _, _, _, rfl, h⟩) | cases h
theorem ok_par {i j a b} : SndS (.par i j a b) := by
  intro W G lv P WX X C s h
  obtain ⟨x, px, y, py, kt, pt, a', b', k2, p2, pos, rfl, kk⟩ := par_inv h
  simp only [Bool.and_eq_true] at kk
  obtain ⟨⟨⟨⟨⟨c0, c1⟩, c2⟩, c3⟩, c4⟩, c5⟩ := kk
  obtain ⟨n1, n2, n3, n4⟩ := C.c.nm c1
  obtain ⟨m1, m2, m3, m4⟩ := C.c.nm c2
  have hp := par_ok (k := kt) (pt := pt) (k2 := k2) (p2 := p2) C.kind C.c.sc c3
  have pb := c3
  unfold parB at pb
  simp only [Bool.and_eq_true, Bool.not_eq_true'] at pb
  obtain ⟨⟨⟨⟨⟨⟨⟨b1, b2⟩, b3⟩, b4⟩, b5⟩, b6⟩, b7⟩, b8⟩ := pb
  have loc : ∀ z, (P.sc.names.lookup z == some NameKind.local) = true → X.env.scope.names.lookup z = some .local := fun z hz => by
    rw [C.c.sc]
    cases e : P.sc.names.lookup z with
    | none => rw [e] at hz; cases hz
    | some kk => rw [e] at hz; cases kk <;> first | rfl | cases hz
  have hij : i ≠ j := fun e => by
    subst e
    rw [n2] at m2
    cases m2
    simp at b1
  refine ps_imp (ps_par (C.c.calm c0) n1 n2 m2 hij (loc x b3) (loc y b4) (pa_cons (sndE a C.c a' c4).1 (pa_cons (sndE b C.c b' c5).1 pa_nil (star_cons b6)) (star_cons b5)) hp) fun K σ H hq => ?_
  obtain ⟨φ, hd, σd, Kd, Xd, A, w, q, x⟩ := hq
  refine Ter.go A (x.x A.st) w fun φ1 h1 H1 d v e1 A1 r1 w1 => Ter.go A1 ((x.ext e1).x A1.st) w1 fun φ2 h2 H2 d2 v2 e2 A2 r2 w2 => ?_
  exact ⟨v, v2, rfl, q.nx φ2 h2 H2 _ _ (e1.trans e2) A2.sim ((A2.st.set i (r1.ext e2)).set j r2) w2⟩
theorem sub_inv {o i e : E} {s : Stmt} (h : chkS P (.sub o i e) s = true) : ∃ o' i' p v pos, s = .Assign [.Subscript o' i' p] v pos ∧ (chkE P e v && chkE P o o' && chkE P i i' && !sliceB i') = true := by
  unfold chkS at h
  split at h <;> first | (rename_i q; cases q; done) | (injections; subst_vars; exact ⟨_, _, _, _, _, rfl, h⟩) | cases h
theorem ok_sub {o i e} : SndS (.sub o i e) := by
  intro W G lv P WX X C s h
  obtain ⟨o', i', p, v, pos, rfl, kk⟩ := sub_inv h
  simp only [Bool.and_eq_true, Bool.not_eq_true'] at kk
  obtain ⟨⟨⟨k1, k2⟩, k3⟩, k4⟩ := kk
  have ha : ∀ w, assign (.Subscript o' i' p) X.env w = (do
      let ov ← holding [w] (eval o' X.env)
      let iv ← holding [w, ov] (eval i' X.env)
      standAt p
      holding [w, ov, iv] (setItem ov iv w)
      release [w, ov, iv] []) := by
    intro w
    cases i' <;> first | rfl | (simp [sliceB] at k4)
  refine ps_imp (ps_asg (sndE e C.c v k1).1 (pg_sub (sndE o C.c o' k2).1 (sndE i C.c i' k3).1 set_list ha) sole_sub rfl rfl) fun K σ H hq => ?_
  obtain ⟨φ, hd, σd, Kd, Xd, A, w, q, x⟩ := hq
  refine Ter.go A (x.x A.st) w fun φ1 h1 H1 d v e1 A1 r1 w1 => Ter.go A1 ((x.ext e1).x A1.st) w1 fun φ2 h2 H2 d2 v2 e2 A2 r2 w2 => Ter.go A2 ((x.ext (e1.trans e2)).x A2.st) w2 fun φ3 h3 H3 d3 v3 e3 A3 r3 w3 => ?_
  obtain ⟨r, k, xs, j, rfl, rfl, e, hj, w3⟩ := w3
  obtain ⟨pa, vs, rfl, hp, h1, rs⟩ := ref_lst A3.sim (r2.ext e3) e
  cases r3
  refine ⟨pa, vs, k, j, rfl, rfl, h1, by rw [← rs.len]; exact hj, ?_⟩
  have E := Ext.write (φ := φ3) (H := H3) (o := .lst (vs.set j v)) (List.mem_of_getElem? hp) (nofrz h1 (fun _ _ z => nomatch z))
  exact q.nx φ3 _ _ _ _ (e1.trans (e2.trans (e3.trans E))) (A3.sim.write hp (nofrz h1 (fun _ _ z => nomatch z)) (show RepO W φ3 _ pa (.lst (xs.set j d)) from ⟨_, upd_same, (rs.set ((r1.ext e2).ext e3) j).ext E⟩)) (A3.st.ext E) w3
theorem dput_inv {o i e : E} {s : Stmt} (h : chkS P (.dput o i e) s = true) : ∃ o' i' p v pos, s = .Assign [.Subscript o' i' p] v pos ∧ (chkE P e v && chkE P o o' && chkE P i i') = true := by
  unfold chkS at h
  split at h <;> first | (rename_i q; cases q; done) | (injections; subst_vars; exact ⟨_, _, _, _, _, rfl, h⟩) | cases h
theorem ok_dput {o i e} : SndS (.dput o i e) := by
  intro W G lv P WX X C s h
  obtain ⟨o', i', p, v, pos, rfl, kk⟩ := dput_inv h
  simp only [Bool.and_eq_true] at kk
  obtain ⟨⟨k1, k2⟩, k3⟩ := kk
  refine ps_imp (ps_dput (by have := C.c.hu; omega) (sndE o C.c o' k2).1 (sndE i C.c i' k3).1 (sndE e C.c v k1).1 (by unfold swapsWith; cases v <;> rfl)) fun K σ H hq => ?_
  obtain ⟨φ, hd, σd, Kd, Xd, A, w, q, x⟩ := hq
  refine Ter.go A (x.x A.st) w fun φ1 h1 H1 d v e1 A1 r1 w1 => Ter.go A1 ((x.ext e1).x A1.st) w1 fun φ2 h2 H2 d2 v2 e2 A2 r2 w2 => Ter.go A2 ((x.ext (e1.trans e2)).x A2.st) w2 fun φ3 h3 H3 d3 v3 e3 A3 r3 w3 => ?_
  have r1 := (r1.ext e2).ext e3
  have r2 := r2.ext e3
  have w4 := dput_cases w3
  clear w3
  obtain ⟨r, rfl, w4⟩ := w4
  rcases w4 with ⟨ys, kvs, k, rfl, e, ek, hl, w3⟩ | ⟨kvs, k, e, ek, hl, w3⟩
  · obtain ⟨b, hb, vs, q1, q2⟩ := A3.sim.obj _ _ e
    cases r2 with
    | ref hp =>
      rw [hp] at hb; cases hb
      cases r3 with
      | tup t1 t2 t3 =>
        have ev := keysD_rep t3 ek
        subst ev
        obtain ⟨vs', p1, p2⟩ := putA_rep k q2 r1
        refine ⟨_, _, rfl, .inr ⟨_, _, _, q1, rfl, t1, by rw [zipA_len q2]; exact hl, rfl⟩, ?_⟩
        have E := Ext.write (φ := φ3) (H := H3) (o := .dT (L2.putK ((kvs.map (·.1)).zip vs) k v)) (List.mem_of_getElem? hp) (nofrz q1 (fun _ _ z => nomatch z))
        exact q.nx φ3 _ _ _ _ (e1.trans (e2.trans (e3.trans E))) (A3.sim.write hp (nofrz q1 (fun _ _ z => nomatch z)) (show RepO W φ3 _ _ (.dt false (putA kvs k d)) from ⟨vs', by rw [p1]; exact upd_same, p2.ext E⟩)) (A3.st.ext E) w3
  · obtain ⟨b, hb, vs, q1, q2⟩ := A3.sim.obj _ _ e
    cases r2 with
    | ref hp =>
      rw [hp] at hb; cases hb
      obtain ⟨vs', p1, p2⟩ := putA_rep k q2 r1
      refine ⟨_, _, rfl, .inl ⟨_, k, q1, keyD_rep r3 ek, by rw [zipA_len q2]; exact hl, rfl⟩, ?_⟩
      have E := Ext.write (φ := φ3) (H := H3) (o := .dK (L2.putK ((kvs.map (·.1)).zip vs) k v)) (List.mem_of_getElem? hp) (nofrz q1 (fun _ _ z => nomatch z))
      exact q.nx φ3 _ _ _ _ (e1.trans (e2.trans (e3.trans E))) (A3.sim.write hp (nofrz q1 (fun _ _ z => nomatch z)) (show RepO W φ3 _ _ (.dk false (putA kvs k d)) from ⟨vs', by rw [p1]; exact upd_same, p2.ext E⟩)) (A3.st.ext E) w3
theorem aug_inv {i : Nat} {o : Op2} {e : E} {s : Stmt} (h : chkS P (.aug i o e) s = true) : ∃ x px op v pos, s = .AugAssign (.Name x px) op v pos ∧ (nmB P i x && opB o op && chkE P e v && augB o) = true := by
  unfold chkS at h
  split at h <;> first | (rename_i q; cases q; done) | (injections; subst_vars; exact ⟨_, _, _, _, _, rfl, h⟩) | cases h
theorem ok_aug {i o e} : SndS (.aug i o e) := by
  intro W G lv P WX X C s h
  obtain ⟨x, px, op, v, pos, rfl, kk⟩ := aug_inv h
  simp only [Bool.and_eq_true] at kk
  obtain ⟨⟨⟨k1, k2⟩, k3⟩, k4⟩ := kk
  obtain ⟨n1, n2, n3, n4⟩ := C.c.nm k1
  have eo := opB_eq k2
  subst eo
  have go : ∀ (f : Int → Int → Int), PIp X (opOf o) (ipI f) → (∀ (a b : Int) (σd : DSt) (h : Hd) (Kd : DSt → Hd → Prop), ((o = .add ∧ Kd (σd.set i (some (.int (a + b)))) h) ∨ (o = .sub ∧ Kd (σd.set i (some (.int (a - b)))) h)) → Kd (σd.set i (some (.int (f a b)))) h) →
      PS X (.AugAssign (.Name x px) (opOf o) v pos) (Tes W WX (wpS G (.aug i o e))) := fun f ip hf => by
    refine ps_imp (ps_aug (i := i) n1 n2 n3 (sndE e C.c v k3).1 ip n4) fun K σ H hq => ?_
    obtain ⟨φ, hd, σd, Kd, Xd, A, ⟨d, hd', w⟩, q, x⟩ := hq
    obtain ⟨u, hu, ru⟩ := A.st.get i d hd'
    refine ⟨u, hu, Ter.go A (x.x A.st) w fun φ1 h1 H1 d2 v2 e1 A1 r1 w1 => ?_⟩
    obtain ⟨a, b, rfl, rfl, w1⟩ := w1
    cases r1
    cases ru
    exact ⟨a, b, rfl, rfl, q.nx φ1 h1 H1 _ _ e1 A1.sim (A1.st.set i (.int _)) (hf a b σd h1 Kd.nx w1)⟩
  cases o with
  | add => exact go _ ip_add fun a b σd h Kd w => (by
      rcases w with ⟨_, w⟩ | ⟨z, _⟩
      · exact w
      · cases z)
  | sub => exact go _ ip_sub fun a b σd h Kd w => (by
      rcases w with ⟨z, _⟩ | ⟨_, w⟩
      · cases z
      · exact w)
  | _ => cases k4
theorem ok_ex {e} : SndS (.ex e) := by
  intro W G lv P WX X C s h
  cases s with
  | Expr v pos =>
    have h' : chkE P e v = true ∧ compB v = false := by
      have h2 : (chkE P e v && !compB v) = true := h
      simpa using h2
    refine ps_imp (ps_expr (sndE e C.c v h'.1).1 (comp_plain h'.2)) fun K σ H hq => ?_
    obtain ⟨φ, hd, σd, Kd, Xd, A, w, q, x⟩ := hq
    exact Ter.go A (x.x A.st) w fun φ1 h1 H1 d v e1 A1 r1 w1 => q.nx φ1 h1 H1 _ _ e1 A1.sim A1.st w1
  | _ => simp [chkS] at h
theorem ok_ret {e} : SndS (.ret e) := by
  intro W G lv P WX X C s h
  cases s with
  | Return o pos =>
    cases o with
    | none => simp [chkS] at h
    | some v =>
      have h' : chkE P e v = true := h
      refine ps_imp (ps_ret (sndE e C.c v h').1) fun K σ H hq => ?_
      obtain ⟨φ, hd, σd, Kd, Xd, A, w, q, x⟩ := hq
      exact Ter.go A (x.x A.st) w fun φ1 h1 H1 d v e1 A1 r1 w1 => q.rt φ1 h1 H1 _ _ e1 A1.sim r1 w1
  | _ => simp [chkS] at h
theorem ok_retN : SndS .retN := by
  intro W G lv P WX X C s h
  cases s with
  | Return o pos =>
    cases o with
    | some v => simp [chkS] at h
    | none =>
      refine ps_imp ps_retN fun K σ H hq => ?_
      obtain ⟨φ, hd, σd, Kd, Xd, A, w, q, x⟩ := hq
      exact q.rt φ hd H _ _ .refl A.sim .non w
  | _ => simp [chkS] at h
theorem ok_ite {c a b} (ha : SndSs a) (hb : SndSs b) : SndS (.ite c a b) := by
  intro W G lv P WX X C s h
  cases s with
  | If c' a' b' pos =>
    simp only [chkS, Bool.and_eq_true] at h
    obtain ⟨⟨⟨h1, h2⟩, h3⟩, h4⟩ := h
    refine ps_imp (ps_if ((sndE c C.c c' h1).2 h2) (ha C a' h3) (hb C b' h4)) fun K σ H hq => ?_
    obtain ⟨φ, hd, σd, Kd, Xd, A, w, q, x⟩ := hq
    refine Ter.go (wa := wpT G c) (Qd1 := fun k h1 => if k = true then wpSs G a σd h1 Kd Xd else wpSs G b σd h1 Kd Xd) A (x.x A.st) w fun φ1 h1 H1 d v e1 A1 r1 w1 => ?_
    cases r1
    cases d with
    | true =>
      rw [if_pos rfl] at w1 ⊢
      exact ⟨φ1, h1, σd, Kd, Xd, A1, w1, q.ext e1, x.ext e1⟩
    | false =>
      rw [if_neg Bool.false_ne_true] at w1 ⊢
      exact ⟨φ1, h1, σd, Kd, Xd, A1, w1, q.ext e1, x.ext e1⟩
  | _ => simp [chkS] at h
theorem whl_inv {c : E} {b : Ss} {s : Stmt} (h : chkS P (.whl c b) s = true) : ∃ c' b' pos, s = .While c' b' [] pos ∧ (P.cm && chkE P c c' && tstB c && chkSs P b b') = true := by
  unfold chkS at h
  split at h <;> first | (rename_i q; cases q; done) | (injections; subst_vars; exact ⟨_, _, _, rfl, h⟩) | cases h
theorem ok_whl {c b} (hb : SndSs b) : SndS (.whl c b) := by
  intro W G lv P WX X C s h
  obtain ⟨c', b', pos, rfl, k⟩ := whl_inv h
  simp only [Bool.and_eq_true] at k
  obtain ⟨⟨⟨k0, k1⟩, k2⟩, k3⟩ := k
  refine ps_imp (ps_while (C.po k0) ((sndE c C.c c' k1).2 k2) (hb C b' k3)) fun K σ H hq => ?_
  obtain ⟨φ, hd, σd, Kd, Xd, A, ⟨n, w⟩, q, x⟩ := hq
  let cc : DSt → Hd → (Bool → Hd → Prop) → Prop := fun σ h Q => wpT G c σ h Q (fun c h' => Xd c σ h')
  let bb : DSt → Hd → Vd.Ends → Prop := fun σ h K => wpSs G b σ h K Xd
  have w : whlL cc bb n σd hd Kd := w
  refine ⟨fun m σ2 H2 => ∃ φ2 h2 σd2, Ext φ φ2 H H2 ∧ At W φ2 h2 H2 σd2 σ2 ∧ whlL cc bb m σd2 h2 Kd, ⟨n, φ, hd, σd, .refl, A, w⟩, ?_⟩
  rintro m σ2 H2 ⟨φ2, h2, σd2, e2, A2, w2⟩
  cases m with
  | zero => exact w2.elim
  | succ m =>
    refine Ter.go (wa := wpT G c) (Qd1 := fun b h1 => if b = true then bb σd2 h1 { Kd with nx := fun σ' h' => whlL cc bb m σ' h' Kd, ct := fun σ' h' => whlL cc bb m σ' h' Kd, bk := Kd.nx } else Kd.nx σd2 h1) A2 ((x.ext e2).x A2.st) w2 fun φ3 h3 H3 d v e3 A3 r3 w3 => ?_
    cases r3
    cases d with
    | false =>
      rw [if_neg Bool.false_ne_true] at w3 ⊢
      exact q.nx φ3 h3 H3 _ _ (e2.trans e3) A3.sim A3.st w3
    | true =>
      rw [if_pos rfl] at w3 ⊢
      refine ⟨fun σ' H' => ∃ φ2 h2 σd2, Ext φ φ2 H H' ∧ At W φ2 h2 H' σd2 σ' ∧ whlL cc bb m σd2 h2 Kd, fun σ' H' h' => ⟨m, Nat.lt_succ_self m, h'⟩, ?_⟩
      refine ⟨φ3, h3, σd2, _, Xd, A3, w3, ⟨?_, ?_, ?_, ?_⟩, x.ext (e2.trans e3)⟩
      · exact fun φ' hd' H' σd' σ' e s r w => ⟨φ', hd', σd', e2.trans (e3.trans e), ⟨s, r⟩, w⟩
      · exact fun φ' hd' H' d v e s r w => q.rt φ' hd' H' d v (e2.trans (e3.trans e)) s r w
      · exact fun φ' hd' H' σd' σ' e s r w => q.nx φ' hd' H' σd' σ' (e2.trans (e3.trans e)) s r w
      · exact fun φ' hd' H' σd' σ' e s r w => ⟨φ', hd', σd', e2.trans (e3.trans e), ⟨s, r⟩, w⟩
theorem fr_inv {t : Tg} {it : It} {b : Ss} {s : Stmt} (h : chkS P (.fr t it b) s = true) : ∃ tg it' b' pos, s = .For tg it' b' [] pos ∧ (P.cm && chkI P it it' tg && tgC P t tg && chkSs P b b') = true := by
  unfold chkS at h
  split at h <;> first | (rename_i q; cases q; done) | (injections; subst_vars; exact ⟨_, _, _, _, rfl, h⟩) | cases h
theorem ok_fr {t it b} (hb : SndSs b) : SndS (.fr t it b) := by
  intro W G lv P WX X C s h
  obtain ⟨tg, it', b', pos, rfl, k⟩ := fr_inv h
  simp only [Bool.and_eq_true] at k
  obtain ⟨⟨⟨k0, k1⟩, k2⟩, k3⟩ := k
  refine ps_imp (ps_for (C.po k0) (C.c.calm k0) (sndI it C.c it' tg k1) (ok_tg C.c k2) (hb C b' k3) (set_plain (chkI_set k1))) fun K σ H hq => ?_
  obtain ⟨φ, hd, σd, Kd, Xd, A, w, q, x⟩ := hq
  refine Ter.go A (x.x A.st) w fun φ1 h1 H1 J Jv e1 A1 hJ w1 => ?_
  let bb : D → DSt → Hd → Vd.Ends → Prop := fun x σ h K => tgW t x σ h fun σ' => wpSs G b σ' h K Xd
  have w1 : forL J.stay bb J.xs σd h1 Kd := w1
  have hfb : ∀ p ∈ W.fb, p ∈ W.fb ∨ H1 p = none := fun p hp => .inl hp
  refine ⟨fun i n σ2 H2 => i + n = J.xs.length ∧ ∃ φ2 h2 σd2, Ext φ1 φ2 H1 H2 ∧ At W φ2 h2 H2 σd2 σ2 ∧ forL J.stay bb (J.xs.drop i) σd2 h2 Kd, ⟨J.xs.length, by simp, φ1, h1, σd, .refl, A1, w1⟩, ?_⟩
  rintro i n σ2 H2 ⟨hin, φ2, h2, σd2, e2, A2, w2⟩
  by_cases hlt : i < J.xs.length
  · right
    have hdrop : J.xs.drop i = J.xs[i] :: J.xs.drop (i + 1) := List.drop_eq_getElem_cons hlt
    rw [hdrop] at w2
    obtain ⟨st, w2⟩ := w2
    obtain ⟨go, yld⟩ := (hJ _ hfb φ2 h2 H2 i e2 A2.sim st).1 hlt
    refine ⟨go, fun σ' H' => ∃ φ2 h2 σd2, Ext φ1 φ2 H1 H' ∧ At W φ2 h2 H' σd2 σ' ∧ forL J.stay bb (J.xs.drop (i + 1)) σd2 h2 Kd, fun σ' H' h' => ⟨n - 1, by omega, by omega, h'⟩, fun x' H3 y => ?_⟩
    obtain ⟨d, hd', e3, S3, r3⟩ := yld x' H3 y
    have ed : J.xs[i] = d := by
      rw [List.getElem?_eq_getElem hlt] at hd'
      exact Option.some.inj hd'
    rw [ed] at w2
    refine ⟨φ2, h2, d, σd2, _, S3, A2.st.ext e3, r3, w2, fun σ4d σ4 rs4 w4 => ?_⟩
    refine ⟨φ2, h2, σ4d, _, Xd, ⟨S3, rs4⟩, w4, ⟨?_, ?_, ?_, ?_⟩, x.ext (e1.trans (e2.trans e3))⟩
    · exact fun φ' hd' H' σd' σ' e s r w => ⟨φ', hd', σd', e2.trans (e3.trans e), ⟨s, r⟩, w⟩
    · exact fun φ' hd' H' d v e s r w => q.rt φ' hd' H' d v (e1.trans (e2.trans (e3.trans e))) s r w
    · exact fun φ' hd' H' σd' σ' e s r w => q.nx φ' hd' H' σd' σ' (e1.trans (e2.trans (e3.trans e))) s r w
    · exact fun φ' hd' H' σd' σ' e s r w => ⟨φ', hd', σd', e2.trans (e3.trans e), ⟨s, r⟩, w⟩
  · left
    have hi : i = J.xs.length := by omega
    have hdrop : J.xs.drop i = [] := List.drop_eq_nil_of_le (by omega)
    rw [hdrop] at w2
    exact ⟨(hJ _ hfb φ2 h2 H2 i e2 A2.sim w2.1).2 hi, q.nx φ2 h2 H2 _ _ (e1.trans e2) A2.sim A2.st w2.2⟩
theorem fset_inv {o : E} {f : String} {e : E} {s : Stmt} (h : chkS P (.fset o f e) s = true) : ∃ o' g p v pos, s = .Assign [.Attribute o' g p] v pos ∧ (chkE P e v && chkE P o o' && decide (g = Str.ofString f) && !compB v) = true := by
  unfold chkS at h
  split at h <;> first | (rename_i q; cases q; done) | (injections; subst_vars; exact ⟨_, _, _, _, _, rfl, h⟩) | cases h
theorem fput_len : ∀ {ns : List String} {vs : List D} {f : String} {d : D}, ns.length = vs.length → (fput ns vs f d).1.length = (fput ns vs f d).2.length
  | [], [], _, _, _ => rfl
  | [], _ :: _, _, _, h => by cases h
  | _ :: _, [], _, _, h => by cases h
  | n :: ns, v :: vs, f, d, h => by
    simp only [fput]
    split
    · simpa using h
    · simpa using fput_len (by simpa using h)
theorem fput_rep {ns : List String} {vs : List D} {ws : List V} {f : String} {d : D} {v : V} (rd : Rep W φ H d v) (r : Reps W φ H vs ws) (l : ns.length = ws.length) :
    ∃ us, Reps W φ H (fput ns vs f d).2 us ∧ (fput ns vs f d).1.length = us.length ∧ putF (Str.ofString f) v ((ns.map Str.ofString).zip ws) = ((fput ns vs f d).1.map Str.ofString).zip us := by
  induction ns generalizing vs ws with
  | nil =>
    cases r with
    | cons => cases l
    | nil => exact ⟨[v], .single rd, rfl, rfl⟩
  | cons n ns ih =>
    cases r with
    | nil => cases l
    | @cons x w xs ws a b =>
      simp only [fput]
      by_cases e : n = f
      · subst e
        rw [if_pos rfl]
        refine ⟨v :: ws, .cons rd b, l, ?_⟩
        show (if Str.ofString n = Str.ofString n then _ else _) = _
        rw [if_pos rfl]
        rfl
      · rw [if_neg e]
        obtain ⟨us, i1, i2, i3⟩ := ih b (by simpa using l)
        refine ⟨w :: us, .cons a i1, by simpa using i2, ?_⟩
        show (if Str.ofString n = Str.ofString f then _ else _) = _
        rw [if_neg fun z => e (ofString_inj z)]
        exact congrArg (fun l => (Str.ofString n, w) :: l) i3
theorem ok_fset {o f e} : SndS (.fset o f e) := by
  intro W G lv P WX X C s h
  obtain ⟨o', g, p, v, pos, rfl, kk⟩ := fset_inv h
  simp only [Bool.and_eq_true, decide_eq_true_eq, Bool.not_eq_true'] at kk
  obtain ⟨⟨⟨k1, k2⟩, rfl⟩, k3⟩ := kk
  refine ps_imp (ps_fld (sndE o C.c o' k2).1 (sndE e C.c v k1).1 (comp_plain k3)) fun K σ H hq => ?_
  obtain ⟨φ, hd, σd, Kd, Xd, A, w, q, x⟩ := hq
  refine Ter.go A (x.x A.st) w fun φ1 h1 H1 d v e1 A1 r1 w1 => Ter.go A1 ((x.ext e1).x A1.st) w1 fun φ2 h2 H2 d2 v2 e2 A2 r2 w2 => ?_
  obtain ⟨r, c, ns, vs, rfl, eo, hf, hl, w2⟩ := w2
  cases r2 with
  | @ref _ pa hp =>
  obtain ⟨b, hb, C', dx, ws, q1, q2, q3, q4⟩ := A2.sim.obj r _ eo
  rw [hp] at hb; cases hb
  obtain ⟨f1, f2⟩ := C.c.fld c f hf C' q2
  refine ⟨pa, C', dx, _, rfl, q1, f1, f2, by rw [List.length_zip, List.length_map, ← q4]; omega, ?_⟩
  have E := Ext.write (φ := φ2) (H := H2) (o := .ins C' dx (putF (Str.ofString f) v ((ns.map Str.ofString).zip ws))) (List.mem_of_getElem? hp) (nofrz q1 (fun _ _ z => nomatch z))
  obtain ⟨us, u1, u2, u3⟩ := fput_rep (f := f) (r1.ext e2) q3 q4
  refine q.nx φ2 _ _ _ _ (e1.trans (e2.trans E)) (A2.sim.write hp (nofrz q1 (fun _ _ z => nomatch z)) (show RepO W φ2 _ pa (.ins c (fput ns vs f d).1 (fput ns vs f d).2) from ⟨C', dx, us, by rw [upd_same, u3], q2, u1.ext E, u2⟩)) (A2.st.ext E) w2
theorem raise_inv {c : String} {s : Stmt} (h : chkS P (.raise c) s = true) : ∃ x p m j p2 pos pos2, s = .Raise (some (.Call (.Name x p) [.Constant (.str m) j p2] [] pos)) none pos2 ∧ (P.cm && decide (x = Str.ofString c) && glB P.sc x && okN x) = true := by
  unfold chkS at h
  split at h <;> first | (rename_i q; cases q; done) | (injections; subst_vars; exact ⟨_, _, _, _, _, _, _, rfl, h⟩) | cases h
theorem ok_raise {c} : SndS (.raise c) := by
  intro W G lv P WX X C s h
  obtain ⟨xn, p, m, j, p2, pos, pos2, rfl, k⟩ := raise_inv h
  simp only [Bool.and_eq_true, decide_eq_true_eq] at k
  obtain ⟨⟨⟨hc, rfl⟩, h2⟩, h3⟩ := k
  cases ef : G.isEx c with
  | false =>
    refine ⟨fun pins s σ H D I hq => ?_⟩
    obtain ⟨φ, hd, σd, Kd, Xd, A, ⟨w, _⟩, q, x⟩ := hq
    rw [ef] at w; cases w
  | true =>
    obtain ⟨T, t1, t2, t3, t4, t5⟩ := C.c.exs c ef
    refine ps_imp (ps_raise (C.c.calm hc) C.c.tk (pmk_own PySem.F.excBase_ValueError t3 t1 t4 (raises_own t2.hs t5) (C.c.gl' h2) (okN_inv h3).1)) fun K σ H hq => ?_
    obtain ⟨φ, hd, σd, Kd, Xd, A, ⟨_, w⟩, q, x⟩ := hq
    have hcl : clOf W.mg c = some T := by
      unfold clOf
      rw [← C.c.mg, t1]
    exact x φ hd H σd σ c T .refl A.sim A.st hcl w
/-! ### try -/
mutual
theorem Rep.xsw (z : Option (Nat × Addr × String)) : ∀ {d v}, Rep W φ H d v → Rep { W with xs := z } φ H d v
  | _, _, .non => .non
  | _, _, .bl b => .bl b
  | _, _, .int i => .int i
  | _, _, .str x => .str x
  | _, _, .tup h n r => .tup h n (Reps.xsw z r)
  | _, _, .vl h n r => .vl h n (Reps.xsw z r)
  | _, _, .sv h r => .sv h (Reps.xsw z r)
  | _, _, .vi h n c m r l => .vi h n c m (Reps.xsw z r) l
  | _, _, .ref h => .ref h
theorem Reps.xsw (z : Option (Nat × Addr × String)) : ∀ {ds vs}, Reps W φ H ds vs → Reps { W with xs := z } φ H ds vs
  | _, _, .nil => .nil
  | _, _, .cons a b => .cons (Rep.xsw z a) (Reps.xsw z b)
end
theorem Sim.xsw (z : Option (Nat × Addr × String)) (s : Sim W φ hd H) : Sim { W with xs := z } φ hd H :=
  ⟨s.len, s.nd, s.fbt, s.fbn, fun n o h => by
    obtain ⟨a, ha, r⟩ := s.obj n o h
    exact ⟨a, ha, RepO.imp (W := W) (W' := { W with xs := z }) (φ := φ) (H := H) (H' := H) rfl rfl (fun _ _ q => Reps.xsw z q) r⟩⟩
theorem Cok.trW {G : Gam} {lv : Nat} {P : Pl} {WX W2 : L2.WX} {X : Cx} (C : Cok W G lv P WX X) (hex : P.ex = false) (pn : List (Addr × Obj)) (xe : Value → Shared → Prop) (tk : Takes (X.tr pn xe) W2) : Cok W G lv P W2 (X.tr pn xe) :=
  { K := C.K, mg := C.mg, N := C.N, nd := C.nd, sc := C.sc, calm := C.calm, room := C.room, hu := C.hu, fn := C.fn, bn := C.bn, bn2 := C.bn2, bn3 := C.bn3, tk := tk, fns := C.fns, gl := C.gl, fld := C.fld, mes := C.mes, mks := C.mks, xn := C.xn, exs := C.exs, exm := C.exm, sub := C.sub,
    xe := (fun h => by rw [hex] at h; cases h), isn := C.isn, trs := C.trs }
theorem Sok.trW {G : Gam} {lv : Nat} {P : Pl} {WX W2 : L2.WX} {X : Cx} (C : Sok W G lv P WX X) (hex : P.ex = false) (pn : List (Addr × Obj)) (xe : Value → Shared → Prop) (tk : Takes (X.tr pn xe) W2) (po : PassesOwn (model X.prog X.w) X.A X.env xe) : Sok W G lv P W2 (X.tr pn xe) :=
  ⟨C.c.trW hex pn xe tk, C.kind, fun _ => po, C.stk, C.frm⟩
/-- the suite of except X: -/
theorem Sok.su0 {G : Gam} {lv : Nat} {P : Pl} {WX : L2.WX} {X : Cx} (C : Sok W G lv P WX X) (a : Addr) (pn : List (Addr × Obj)) : Sok W G lv { P with cm := false, ex := false } (fun _ _ _ _ => False) (X.suite a pn) :=
  ⟨{ K := C.c.K, mg := C.c.mg, N := C.c.N, nd := C.c.nd, sc := C.c.sc, calm := (fun h => nomatch h), room := (fun h => nomatch h), hu := C.c.hu, fn := C.c.fn, bn := C.c.bn, bn2 := C.c.bn2, bn3 := C.c.bn3, tk := takes0, fns := (fun h => nomatch h), gl := C.c.gl, fld := C.c.fld, mes := (fun h => nomatch h), mks := (fun h => nomatch h), xn := (fun h => nomatch h), exs := C.c.exs, exm := C.c.exm, sub := C.c.sub, xe := (fun h => nomatch h), isn := C.c.isn, trs := C.c.trs }, C.kind, (fun h => nomatch h), C.stk, C.frm⟩
/-- the suite of except X as n: -/
theorem Sok.su1 {G : Gam} {lv : Nat} {P : Pl} {WX : L2.WX} {X : Cx} (C : Sok W G lv P WX X) (i : Nat) (c : String) (Ca a : Addr) (oe : Obj) (pn : List (Addr × Obj)) (hcl : clOf W.mg c = some Ca) (he : ExcC X.K Ca) (hz : Zc (.ref Ca) none oe) (hf : ∃ vs, oe.data = .fields vs) :
    Sok { W with xs := some (i, a, c) } (G.inx i c) lv { P with cm := false, ex := true } (fun _ _ _ _ => False) (X.suite a ((a, oe) :: pn)) :=
  ⟨{ K := C.c.K, mg := C.c.mg, N := C.c.N, nd := C.c.nd, sc := C.c.sc, calm := (fun h => nomatch h), room := (fun h => nomatch h), hu := C.c.hu, fn := C.c.fn, bn := C.c.bn, bn2 := C.c.bn2, bn3 := C.c.bn3, tk := takes0, fns := (fun h => nomatch h), gl := C.c.gl, fld := C.c.fld, mes := (fun h => nomatch h), mks := (fun h => nomatch h), xn := (fun h => nomatch h), exs := C.c.exs, exm := C.c.exm, sub := C.c.sub, xe := (fun _ j d hx => by
      cases hx
      exact ⟨a, Ca, rfl, hcl, call_isE he hz hf⟩), isn := C.c.isn, trs := C.c.trs }, C.kind, (fun h => nomatch h), C.stk, C.frm⟩
theorem try0_inv {b hh : Ss} {c : String} {s : Stmt} (h : chkS P (.try b c none hh) s = true) : ∃ body x p b0 suite pos pos2, s = .Try body [.ExceptHandler (some (.Name x p)) none (b0 :: suite) pos] [] [] pos2 ∧
    (P.cm && !P.ex && decide (x = Str.ofString c) && glB P.sc x && okN x && chkSs P b body && chkSs { P with cm := false, ex := false } hh (b0 :: suite)) = true := by
  unfold chkS at h
  split at h <;> first | (rename_i q; cases q; done) | (injections; subst_vars; exact ⟨_, _, _, _, _, _, _, rfl, h⟩) | cases h
theorem try1_inv {b hh : Ss} {c : String} {i : Nat} {s : Stmt} (h : chkS P (.try b c (some i) hh) s = true) : ∃ body x p n b0 suite pos pos2, s = .Try body [.ExceptHandler (some (.Name x p)) (some n) (b0 :: suite) pos] [] [] pos2 ∧
    (P.cm && !P.ex && decide (x = Str.ofString c) && glB P.sc x && okN x && decide (P.N[i]? = some n) && (P.sc.names.lookup n == some .local) && chkSs P b body && chkSs { P with cm := false, ex := true } hh (b0 :: suite)) = true := by
  unfold chkS at h
  split at h <;> first | (rename_i q; cases q; done) | (injections; subst_vars; exact ⟨_, _, _, _, _, _, _, _, rfl, h⟩) | cases h
theorem ok_try0 {b hh : Ss} {c : String} (hb : SndSs b) (hs : SndSs hh) : SndS (.try b c none hh) := by
  intro W G lv P WX X C s h
  obtain ⟨body, xn, p, b0, suite, pos, pos2, rfl, k⟩ := try0_inv h
  simp only [Bool.and_eq_true, decide_eq_true_eq, Bool.not_eq_true'] at k
  obtain ⟨⟨⟨⟨⟨⟨hc, hex⟩, rfl⟩, h2⟩, h3⟩, h4⟩, h5⟩ := k
  cases ef : G.isTr c with
  | false =>
    refine ⟨fun pins s σ H D I hq => ?_⟩
    obtain ⟨φ, hd, σd, Kd, Xd, A, ⟨w, _⟩, q, x⟩ := hq
    rw [ef] at w; cases w
  | true =>
    obtain ⟨T, t1⟩ := C.c.trs c ef
    refine ps_imp (ps_try_only (c := .ref T) (tb := fun W2 => Tes W W2 (wpSs G b)) (ts := fun a cls d K σ H => ∃ c' Ca, cls = .ref Ca ∧ d = none ∧ clOf W.mg c' = some Ca ∧ Tes W (fun _ _ _ _ => False) (wpSs G hh) K σ H)
      C.stk C.frm ⟨C.c.gl' h2, (okN_inv h3).1, .inl t1⟩ C.c.tk (fun W2 pn xe tk po => hb (C.trW hex pn xe tk po) body h4) (fun a oe cls d pn hz hf => ⟨fun pins s σ H D I q => ?_⟩)) fun K σ H hq => ?_
    · obtain ⟨c', Ca, rfl, rfl, hcl, q⟩ := q
      exact (hs (C.su0 a ((a, oe) :: pn)) (b0 :: suite) h5).run pins s σ H D I q
    · obtain ⟨φ, hd, σd, Kd, Xd, A, ⟨_, w⟩, q, x⟩ := hq
      refine ⟨φ, hd, σd, Kd, _, A, w, q, fun φ' hd' H' σd' σ' c' Ca e s r hk w' => ?_⟩
      dsimp only at w'
      cases ex : G.exm c' c with
      | none =>
        rw [ex] at w'
        exact w'.elim
      | some bb =>
        rw [ex] at w'
        obtain ⟨hE, T', t2, t3⟩ := C.c.exm c' c bb ex Ca (by rw [← C.c.mg] at hk ⊢; exact hk)
        rw [t1] at t2
        cases t2
        refine ⟨bb, t3, fun hb' a ha => ?_, fun hb' => ?_⟩
        · subst hb'
          exact ⟨c', Ca, rfl, rfl, hk, φ', hd', σd', Kd, _, ⟨s, r⟩, w', q.ext e, fun _ _ _ _ _ _ _ _ _ _ _ z => z⟩
        · subst hb'
          exact x φ' hd' H' σd' σ' c' Ca e s r hk w'
theorem ok_try1 {b hh : Ss} {c : String} {i : Nat} (hb : SndSs b) (hs : SndSs hh) : SndS (.try b c (some i) hh) := by
  intro W G lv P WX X C s h
  obtain ⟨body, xn, p, n, b0, suite, pos, pos2, rfl, k⟩ := try1_inv h
  simp only [Bool.and_eq_true, decide_eq_true_eq, Bool.not_eq_true'] at k
  obtain ⟨⟨⟨⟨⟨⟨⟨⟨hc, hex⟩, rfl⟩, h2⟩, h3⟩, h6⟩, h7⟩, h4⟩, h5⟩ := k
  cases ef : G.isTr c with
  | false =>
    refine ⟨fun pins s σ H D I hq => ?_⟩
    obtain ⟨φ, hd, σd, Kd, Xd, A, ⟨w, _⟩, q, x⟩ := hq
    rw [ef] at w; cases w
  | true =>
    obtain ⟨T, t1⟩ := C.c.trs c ef
    have hloc : X.env.kindOf n = some .local := by
      show X.env.scope.names.lookup n = some .local
      rw [C.c.sc]
      cases e : P.sc.names.lookup n with
      | none => rw [e] at h7; cases h7
      | some kk => rw [e] at h7; cases kk <;> first | rfl | cases h7
    refine ps_imp (ps_try_as (i := i) (c := .ref T) (tb := fun W2 => Tes W W2 (wpSs G b)) (ts := fun a cls d K σ H => ∃ c' Ca, cls = .ref Ca ∧ d = none ∧ clOf W.mg c' = some Ca ∧ ExcC X.K Ca ∧ Tes { W with xs := some (i, a, c') } (fun _ _ _ _ => False) (wpSs (G.inx i c') hh) K σ H)
      C.stk C.frm (by rw [C.c.N]; exact C.c.nd) (by rw [C.c.N]; exact h6) hloc ⟨C.c.gl' h2, (okN_inv h3).1, .inl t1⟩ C.c.tk (fun W2 pn xe tk po => hb (C.trW hex pn xe tk po) body h4) (fun a oe cls d pn hz hf => ⟨fun pins s σ H D I q => ?_⟩)) fun K σ H hq => ?_
    · obtain ⟨c', Ca, rfl, rfl, hcl, hE, q⟩ := q
      exact (hs (C.su1 i c' Ca a oe pn hcl hE hz hf) (b0 :: suite) h5).run pins s σ H D I q
    · obtain ⟨φ, hd, σd, Kd, Xd, A, ⟨_, w⟩, q, x⟩ := hq
      have hW : W.xs = none := C.c.xn hc
      refine ⟨φ, hd, σd, Kd, _, A, w, q, fun φ' hd' H' σd' σ' c' Ca e s r hk w' => ?_⟩
      dsimp only at w'
      cases ex : G.exm c' c with
      | none =>
        rw [ex] at w'
        exact w'.elim
      | some bb =>
        rw [ex] at w'
        obtain ⟨hE, T', t2, t3⟩ := C.c.exm c' c bb ex Ca (by rw [← C.c.mg] at hk ⊢; exact hk)
        rw [t1] at t2
        cases t2
        refine ⟨bb, t3, fun hb' a ha => ?_, fun hb' => ?_⟩
        · subst hb'
          have back : ∀ {φ2 H2 σd2 σ2}, RepSt { W with xs := some (i, a, c') } φ2 H2 σd2 σ2 → RepSt W φ2 H2 (σd2.set i none) (σ2.set i none) := fun {φ2 H2 σd2 σ2} r2 =>
            RepSt.wipe1 hW ⟨r2.len, fun j d hj => by
              obtain ⟨v, h1, h2⟩ := r2.get j d hj
              exact ⟨v, h1, Rep.xsw (W := { W with xs := some (i, a, c') }) W.xs h2⟩, fun p hp => by rw [hW] at hp; cases hp⟩ i none
          have sb : ∀ {φ2 hd2 H2}, Sim { W with xs := some (i, a, c') } φ2 hd2 H2 → Sim W φ2 hd2 H2 := fun s2 => Sim.xsw (W := { W with xs := some (i, a, c') }) W.xs s2
          refine ⟨c', Ca, rfl, rfl, hk, hE, φ', hd', σd'.set i none, _, _, ⟨s.xsw _, ?_⟩, w', ⟨?_, ?_, ?_, ?_⟩, fun _ _ _ _ _ _ _ _ _ _ _ z => z⟩
          · refine ⟨by simp [r.len], fun j d hj => ?_, fun p hp hj => ?_⟩
            · by_cases e : i = j
              · subst e
                have hl : i < σd'.length := by
                  have := (List.getElem?_eq_some_iff.mp hj).1
                  simpa using this
                rw [List.getElem?_set_self hl] at hj
                cases hj
              · rw [List.getElem?_set_ne e] at hj ⊢
                obtain ⟨v, h1, h2⟩ := r.get j d hj
                exact ⟨v, h1, h2.xsw _⟩
            · cases hp
              have hl : i < σd'.length := by
                have := (List.getElem?_eq_some_iff.mp hj).1
                simpa using this
              rw [List.getElem?_set_self (by rw [← r.len]; exact hl)]
          · exact fun φ2 hd2 H2 σd2 σ2 e2 s2 r2 w2 => q.nx φ2 hd2 H2 _ _ (e.trans e2) (sb s2) (back r2) w2
          · exact fun φ2 hd2 H2 d v e2 s2 r2 w2 => q.rt φ2 hd2 H2 d v (e.trans e2) (sb s2) (Rep.xsw (W := { W with xs := some (i, a, c') }) W.xs r2) w2
          · exact fun φ2 hd2 H2 σd2 σ2 e2 s2 r2 w2 => q.bk φ2 hd2 H2 _ _ (e.trans e2) (sb s2) (back r2) w2
          · exact fun φ2 hd2 H2 σd2 σ2 e2 s2 r2 w2 => q.ct φ2 hd2 H2 _ _ (e.trans e2) (sb s2) (back r2) w2
        · subst hb'
          exact x φ' hd' H' σd' σ' c' Ca e s r hk w'
theorem ok_pass : SndS .pass := by
  intro W G lv P WX X C s h
  cases s with
  | Pass pos => exact ps_imp ps_pass fun K σ H ⟨φ, hd, σd, Kd, Xd, A, w, q, x⟩ => q.nx φ hd H _ _ .refl A.sim A.st w
  | _ => simp [chkS] at h
theorem ok_brk : SndS .brk := by
  intro W G lv P WX X C s h
  cases s with
  | Break pos => exact ps_imp ps_break fun K σ H ⟨φ, hd, σd, Kd, Xd, A, w, q, x⟩ => q.bk φ hd H _ _ .refl A.sim A.st w
  | _ => simp [chkS] at h
theorem ok_cont : SndS .cont := by
  intro W G lv P WX X C s h
  cases s with
  | Continue pos => exact ps_imp ps_continue fun K σ H ⟨φ, hd, σd, Kd, Xd, A, w, q, x⟩ => q.ct φ hd H _ _ .refl A.sim A.st w
  | _ => simp [chkS] at h
theorem ok_ssnil : SndSs .nil := by
  intro W G lv P WX X C s h
  cases s with
  | nil => exact pss_imp pss_nil fun K σ H ⟨φ, hd, σd, Kd, Xd, A, w, q, x⟩ => q.nx φ hd H _ _ .refl A.sim A.st w
  | cons => simp [chkSs] at h
theorem ok_sscons {c r} (hc : SndS c) (hr : SndSs r) : SndSs (.cons c r) := by
  intro W G lv P WX X C s h
  cases s with
  | nil => simp [chkSs] at h
  | cons t ts =>
    simp only [chkSs, Bool.and_eq_true] at h
    refine pss_imp (pss_cons (hc C t h.1) (hr C ts h.2)) fun K σ H ⟨φ, hd, σd, Kd, Xd, A, w, q, x⟩ => ?_
    exact ⟨φ, hd, σd, _, Xd, A, w, ⟨fun φ' hd' H' σd' σ' e s r w' => ⟨φ', hd', σd', Kd, Xd, ⟨s, r⟩, w', q.ext e, x.ext e⟩, q.rt, q.bk, q.ct⟩, x⟩
end
mutual
theorem sndS : ∀ c : S, SndS c
  | .set (.nm i) e => ok_set1
  | .set (.tp is) e => ok_set2
  | .par i j a b => ok_par
  | .sub o i e => ok_sub
  | .dput o i e => ok_dput
  | .fset _ _ _ => ok_fset
  | .aug _ _ _ => ok_aug
  | .ex _ => ok_ex
  | .ret _ => ok_ret
  | .retN => ok_retN
  | .ite c a b => ok_ite (sndSs a) (sndSs b)
  | .whl c b => ok_whl (sndSs b)
  | .fr t it b => ok_fr (sndSs b)
  | .raise _ => ok_raise
  | .try b c none hh => ok_try0 (sndSs b) (sndSs hh)
  | .try b c (some i) hh => ok_try1 (sndSs b) (sndSs hh)
  | .pass => ok_pass
  | .brk => ok_brk
  | .cont => ok_cont
theorem sndSs : ∀ c : Ss, SndSs c
  | .nil => ok_ssnil
  | .cons s r => ok_sscons (sndS s) (sndSs r)
end
end Vd

set_option Elab.async false
set_option linter.all false
set_option maxRecDepth 100000
set_option maxHeartbeats 4000000
/-! defs, programs, the law's end -/
namespace Vd
open PySem PySem.Spec PyProof.Rows L2

/-! ### defs and programs -/
structure Fn where
  n : Nat
  ps : List String
  body : Ss
structure Prog where
  fns : String → Option Fn
  gl : String → Option D
  fldOk : String → String → Bool
  sub : String → String → Option Bool
  mes : String → String → Option Fn := fun _ _ => none
  isEx : String → Bool := fun _ => false
  exm : String → String → Option Bool := fun _ _ => none
  isTr : String → Bool := fun _ => false
noncomputable def wpFn (G : Gam) (c : Fn) (args : List D) (h : Hd) (Q : DK) (X : EK) : Prop :=
  args.length = c.ps.length ∧ wpSs G c.body (args.map some ++ List.replicate (c.n - args.length) none) h { nx := fun _ h' => Exit h .non h' Q, rt := fun v h' => Exit h v h' Q } (fun e _ h' => X e h' ∨ (h <+: h' ∧ X e h))
noncomputable def Gn (P : Prog) : Nat → Gam
  | 0 => { fn := fun _ _ _ _ _ => False, isFn := fun _ => false, gl := P.gl, fldOk := P.fldOk, sub := P.sub, me := fun _ _ _ _ _ _ => False, isMe := fun _ _ => false, mkc := fun _ _ _ _ _ => False, isMk := fun _ => false, isEx := P.isEx, exm := P.exm, isTr := P.isTr, xs := none }
  | n + 1 => { fn := fun f args h Q X => ∃ c, P.fns f = some c ∧ wpFn (Gn P n) c args h Q X, isFn := fun f => (P.fns f).isSome, gl := P.gl, fldOk := P.fldOk, sub := P.sub, me := fun c m args h Q X => ∃ cd, P.mes c m = some cd ∧ wpFn (Gn P n) cd args h Q X, isMe := fun c m => (P.mes c m).isSome, mkc := mkW (Gn P n).me, isMk := fun c => (P.mes c "__init__").isSome && decide (0 < n), isEx := P.isEx, exm := P.exm, isTr := P.isTr, xs := none }
/-- a def as it stands behind the top -/
noncomputable def chkFn (c : Fn) (N : List Str) (st : Stmt) : Bool := chkSs { cm := true, N := N, sc := defScope st, os := defScope st } c.body (defBody st) && decide (N.length = c.n)
structure FnFact (K : PySem.W.Frag) (mg : Str → Option Value) (f : String) (c : Fn) : Prop where
  ex : ∃ (fa : Addr) (fd : FuncData) (N : List Str) (st : Stmt) (qual : Str), mg (Str.ofString f) = some (.ref fa) ∧ Fun K (Str.ofString f) qual st fa fd ∧ Binds K fd (c.ps.map Str.ofString) [] ∧ FnScope N (c.ps.map Str.ofString) (defScope st) ∧ chkFn c N st = true
/-- a method -/
structure MeFact (K : PySem.W.Frag) (mg : Str → Option Value) (cl m : String) (c : Fn) : Prop where
  ex : ∃ (C fa : Addr) (fd : FuncData) (N : List Str) (st : Stmt) (qual : Str), clOf mg cl = some C ∧ Cls K C ∧ Meth K C (Str.ofString m) fa ∧ Fun K (Str.ofString m) qual st fa fd ∧ Binds K fd (c.ps.map Str.ofString) [] ∧ FnScope N (c.ps.map Str.ofString) (defScope st) ∧ chkFn c N st = true
/-- what the top's names hold -/
structure TopFact (P : Prog) (K : PySem.W.Frag) (mg : Str → Option Value) : Prop where
  fns : ∀ f c, P.fns f = some c → FnFact K mg f c
  bn : ∀ f v, biV f = some v → mg (Str.ofString f) = none
  bn2 : mg (Str.ofString "range") = none ∧ mg (Str.ofString "zip") = none ∧ mg (Str.ofString "enumerate") = none ∧ mg (Str.ofString "reversed") = none ∧ mg (Str.ofString "isinstance") = none
  bn3 : mg (Str.ofString "int") = none ∧ mg (Str.ofString "bool") = none ∧ mg (Str.ofString "str") = none ∧ mg (Str.ofString "list") = none ∧ mg (Str.ofString "tuple") = none
  gl : ∀ x d, P.gl x = some d → ∃ u v, mg (Str.ofString x) = some u ∧ RelV v u ∧ ∀ (W' : Wd) φ H, Rep W' φ H d v
  fld : ∀ c f, P.fldOk c f = true → ∀ C, clOf mg c = some C → Cls K C ∧ NoAttr K C (Str.ofString f)
  mes : ∀ cl m c, P.mes cl m = some c → MeFact K mg cl m c
  mks : ∀ cl c, P.mes cl "__init__" = some c → ∃ C, mg (Str.ofString cl) = some (.ref C) ∧ PySem.W.makesIn K C = true ∧ PySem.W.keepIn K (.ref C) = true
  exs : ∀ c, P.isEx c = true → ∃ C, mg (Str.ofString c) = some (.ref C) ∧ ExcC K C ∧ PySem.W.excIn K C [.type "ValueError", .type "Exception", .type "BaseException", .type "object"] "ValueError.__new__" = true ∧ PySem.W.keepIn K (.ref C) = true ∧ PySem.W.typeIn K (.ref C) = some (.type "type")
  exm : ∀ c t b, P.exm c t = some b → ∀ C, clOf mg c = some C → ExcC K C ∧ ∃ T, mg (Str.ofString t) = some (.ref T) ∧ PySem.W.exmOne K (.ref C) (.ref T) = some b
  sub : ∀ c t b, P.sub c t = some b → ∀ C, clOf mg c = some C → (∃ T, mg (Str.ofString t) = some (.ref T) ∧ PySem.W.kitOne K (.ref C) (.ref T) = some b) ∨ (t = "ValueError" ∧ mg (Str.ofString t) = none ∧ PySem.W.kitOne K (.ref C) (.type "ValueError") = some b)
  trs : ∀ c, P.isTr c = true → ∃ T, mg (Str.ofString c) = some (.ref T)
theorem Gn_gl {P : Prog} : ∀ n, (Gn P n).gl = P.gl ∧ (Gn P n).fldOk = P.fldOk ∧ (Gn P n).sub = P.sub ∧ (Gn P n).isEx = P.isEx ∧ (Gn P n).exm = P.exm ∧ (Gn P n).isTr = P.isTr ∧ (Gn P n).xs = none
  | 0 => ⟨rfl, rfl, rfl, rfl, rfl, rfl, rfl⟩
  | _ + 1 => ⟨rfl, rfl, rfl, rfl, rfl, rfl, rfl⟩
section
variable {Pr : Program} {w : World} {K : PySem.W.Frag} {mg : Str → Option Value} {base : Heap} {P : Prog}
noncomputable def FnsAt (Pr : Program) (w : World) (K : PySem.W.Frag) (mg : Str → Option Value) (base : Heap) (P : Prog) (n : Nat) : Prop := ∀ f c, P.fns f = some c → 0 < n → ∃ (fa : Addr) (fd : FuncData), mg (Str.ofString f) = some (.ref fa) ∧ PySem.W.keepIn K (.ref fa) = true ∧ Binds K fd (c.ps.map Str.ofString) [] ∧
    (∃ oc od osl, K.lookup fa = some ⟨oc, od, .func fd, osl⟩) ∧ FnOk Pr w K mg base (CX Pr w) n fa fd (c.ps.map Str.ofString) (SPd ⟨K, mg, none, []⟩ ((Gn P n).fn f))
noncomputable def MesAt (Pr : Program) (w : World) (K : PySem.W.Frag) (mg : Str → Option Value) (base : Heap) (P : Prog) (n : Nat) : Prop := ∀ cl m c, P.mes cl m = some c → 0 < n → ∃ (C fa : Addr) (fd : FuncData), clOf mg cl = some C ∧ Cls K C ∧ Meth K C (Str.ofString m) fa ∧ Binds K fd (c.ps.map Str.ofString) [] ∧
    FnOk Pr w K mg base (CX Pr w) n fa fd (c.ps.map Str.ofString) (SPd ⟨K, mg, none, []⟩ ((Gn P n).me cl m))
theorem cok_at (T : TopFact P K mg) {n : Nat} (IF : FnsAt Pr w K mg base P n) (IM : MesAt Pr w K mg base P n) (IM1 : ∀ m, n = m + 1 → MesAt Pr w K mg base P m) {fb : List Addr} {N : List Str} {sc : Scope} {WX : L2.WX} {X : Cx} (hp : X.prog = Pr) (hw : X.w = w) (hK : X.K = K) (hm : X.mg = mg) (hb : X.base = base) (hN : X.N = N) (nd : N.Nodup) (hsc : X.env.scope = sc) (hc : X.calm = true)
    (hr : Room n X.A) (hu : X.A.units + 65 < cLine) (hfn : ∀ x, sc.names.lookup x = some .cell → X.fn x = true) (tk : Takes X WX) : Cok ⟨K, mg, none, fb⟩ (Gn P n) n { cm := true, N := N, sc := sc, os := sc } WX X := by
  subst hp hw hK hm hb hN hsc
  obtain ⟨g1, g2, g3, g4, g5, g6, g7⟩ := Gn_gl (P := P) n
  refine { K := rfl, mg := rfl, N := rfl, nd := nd, sc := rfl, calm := fun _ => hc, room := fun _ => hr, hu := hu, fn := hfn, bn := T.bn, bn2 := T.bn2, bn3 := T.bn3, tk := tk, fns := ?fns, gl := ?gl, fld := ?fld, mes := ?mes, mks := ?mks, xn := fun _ => rfl, exs := ?exs, exm := ?exm, sub := ?sub, xe := (fun h => nomatch h), isn := T.bn2.2.2.2.2, trs := ?trs }
  case fns =>
    intro _ g hg
    cases n with
    | zero => cases hg
    | succ n =>
      obtain ⟨c2, hc2⟩ := Option.isSome_iff_exists.mp (show (P.fns g).isSome = true from hg)
      obtain ⟨fa2, fd2, h1, h2, h3, _, h4⟩ := IF g c2 hc2 (Nat.succ_pos n)
      exact ⟨fa2, fd2, _, h1, h2, h3, h4⟩
  case gl => rw [g1]; exact T.gl
  case fld => rw [g2]; exact T.fld
  case mes =>
    intro _ cl m hg
    cases n with
    | zero => cases hg
    | succ n =>
      obtain ⟨c2, hc2⟩ := Option.isSome_iff_exists.mp (show (P.mes cl m).isSome = true from hg)
      obtain ⟨C, fa2, fd2, h1, h2, h3, h4, h5⟩ := IM cl m c2 hc2 (Nat.succ_pos n)
      exact ⟨C, fa2, fd2, _, h1, h2, h3, h4, h5⟩
  case mks =>
    intro _ cl hg
    cases n with
    | zero => cases hg
    | succ n =>
      have hg : ((P.mes cl "__init__").isSome && decide (0 < n)) = true := hg
      rw [Bool.and_eq_true, decide_eq_true_eq] at hg
      obtain ⟨c2, hc2⟩ := Option.isSome_iff_exists.mp hg.1
      obtain ⟨C, fa2, fd2, h1, h2, h3, h4, h5⟩ := IM1 n rfl cl "__init__" c2 hc2 hg.2
      obtain ⟨C', k1, k2, k3⟩ := T.mks cl c2 hc2
      have : C' = C := by
        unfold clOf at h1
        rw [k1] at h1
        exact Option.some.inj h1
      subst this
      exact ⟨C', fa2, fd2, _, n, (Gn P n).me, rfl, k1, ⟨k2, h3.at_, h3.fn, k3⟩, h4, h5, rfl⟩
  case exs => rw [g4]; exact T.exs
  case exm => rw [g5]; exact T.exm
  case sub => rw [g3]; exact T.sub
  case trs => rw [g6]; exact T.trs
/-- a def's body does what its text asks -/
theorem body_ok (T : TopFact P K mg) {n : Nat} (IF : FnsAt Pr w K mg base P n) (IM : MesAt Pr w K mg base P n) (IM1 : ∀ m, n = m + 1 → MesAt Pr w K mg base P m) {fa : Addr} {fd : FuncData} {N : List Str} {st : Stmt} {nm qual : Str} {c : Fn} (F : Fun K nm qual st fa fd) (S : FnScope N (c.ps.map Str.ofString) (defScope st)) (hk : chkFn c N st = true) :
    FnOk Pr w K mg base (CX Pr w) (n + 1) fa fd (c.ps.map Str.ofString) (SPd ⟨K, mg, none, []⟩ (fun args h Q X => wpFn (Gn P n) c args h Q X)) := by
  unfold chkFn at hk
  simp only [Bool.and_eq_true, decide_eq_true_eq] at hk
  obtain ⟨k1, k2⟩ := hk
  refine F.okX S (fun vs H Q E hsp => ?_) (fun cdv A outer s H vs Q E hr hsp => ?_)
  · obtain ⟨fb, φ, hd, ds, Qd, Xd, S', rs, ⟨wl, _⟩, _⟩ := hsp
    rw [← rs.len, wl, List.length_map]
  · obtain ⟨fb, φ, hd, ds, Qd, Xd, S', rs, ⟨wl, wb⟩, q, x⟩ := hsp
    let W : Wd := ⟨K, mg, none, fb⟩
    have ck : Cok W (Gn P n) n { cm := true, N := N, sc := defScope st, os := defScope st } (fun cls d _ H => E cls d H) (cxOf (CX Pr w) Pr w K mg base N qual (defScope st) fa cdv A outer s H E) :=
      cok_at T IF IM IM1 rfl rfl rfl rfl rfl rfl S.nd rfl rfl hr (by have := hr.un; show (A.deeper _).units + 65 < cLine; omega) (fun _ _ => rfl) (takes_of rfl rfl rfl rfl)
    have sk : Sok W (Gn P n) n { cm := true, N := N, sc := defScope st, os := defScope st } (fun cls d _ H => E cls d H) (cxOf (CX Pr w) Pr w K mg base N qual (defScope st) fa cdv A outer s H E) := ⟨ck, S.kind, fun _ => passes_of rfl, rfl, rfl⟩
    refine ⟨_, sndSs c.body sk (defBody st) k1, φ, hd, _, _, _, ⟨S', ?_⟩, wb, ⟨?_, ?_, ?_, ?_⟩, ?_⟩
    · refine ⟨?_, fun i d hd' => ?_, fun p hp => nomatch hp⟩
      · unfold L2.start
        simp only [List.length_append, List.length_map, List.length_replicate]
        rw [k2, rs.len]
      · unfold L2.start
        by_cases hi : i < ds.length
        · rw [List.getElem?_append_left (by simpa using hi), List.getElem?_map] at hd'
          cases e : ds[i]? with
          | none => rw [e] at hd'; cases hd'
          | some d' =>
            rw [e] at hd'
            cases hd'
            obtain ⟨v, hv, rv⟩ := rs.get e
            exact ⟨v, by rw [List.getElem?_append_left (by rw [List.length_map, ← rs.len]; exact hi), List.getElem?_map, hv]; rfl, rv⟩
        · rw [List.getElem?_append_right (by simpa using hi), List.getElem?_replicate] at hd'
          split at hd' <;> cases hd'
    · exact fun φ' hd' H' σd' σ' e s' r w' => Exit.ok (W := W) S' e s' .non w' q
    · exact fun φ' hd' H' d v e s' r w' => Exit.ok (W := W) S' e s' r w' q
    · exact fun _ _ _ _ _ _ _ _ w' => w'.elim
    · exact fun _ _ _ _ _ _ _ _ w' => w'.elim
    · intro φ' hd' H' σd' σ' e C ex s' r k w'
      rcases w' with w' | ⟨p, w'⟩
      · exact x φ' hd' H' e C ex s' k w'
      · obtain ⟨l, el, hl⟩ := ex.pre
        have ht : φ'.take hd.length = φ := by rw [el, ← S'.len]; simp
        have pre : hd'.take hd.length = hd := by
          obtain ⟨t, et⟩ := p
          rw [← et]; simp
        have S2 := s'.take (n := hd.length) (by rw [pre]; exact S'.bdo) p.length_le
        rw [ht, pre] at S2
        exact x φ hd H' e C ⟨⟨[], by simp, by simp⟩, ex.keep, ex.there, ex.frz⟩ S2 k w'
theorem SPd.imp {W : Wd} {s t : List D → Hd → DK → EK → Prop} (h : ∀ a b c d, s a b c d → t a b c d) : ∀ vs H Q E, SPd W s vs H Q E → SPd W t vs H Q E := fun vs H Q E ⟨fb, φ, hd, ds, Qd, Xd, S', rs, w, q⟩ => ⟨fb, φ, hd, ds, Qd, Xd, S', rs, h _ _ _ _ w, q⟩
theorem prog_all (T : TopFact P K mg) : ∀ n, (FnsAt Pr w K mg base P n ∧ MesAt Pr w K mg base P n) ∧ ∀ m, n = m + 1 → MesAt Pr w K mg base P m
  | 0 => ⟨⟨fun f c _ h => absurd h (by decide), fun cl m c _ h => absurd h (by decide)⟩, fun m h => by cases h⟩
  | n + 1 => by
    obtain ⟨⟨IF, IM⟩, IM1⟩ := prog_all T n
    refine ⟨⟨fun f c hc _ => ?_, fun cl m c hc _ => ?_⟩, fun m h => by cases h; exact IM⟩
    · obtain ⟨fa, fd, N, st, qual, hm, F, hb, S, hk⟩ := (T.fns f c hc).ex
      refine ⟨fa, fd, hm, F.kp, hb, ?_, (body_ok T IF IM IM1 F S hk).imp (SPd.imp fun a b c' d ⟨cc, e, z⟩ => by rw [hc] at e; cases e; exact z)⟩
      obtain ⟨oc, od, kV, doc, pm, an, cdv, ct, osl, e1, e2, e3⟩ := F.ex
      exact ⟨oc, od, osl, e2⟩
    · obtain ⟨C, fa, fd, N, st, qual, hm, hcl, hme, F, hb, S, hk⟩ := (T.mes cl m c hc).ex
      exact ⟨C, fa, fd, hm, hcl, hme, hb, (body_ok T IF IM IM1 F S hk).imp (SPd.imp fun a b c' d ⟨cc, e, z⟩ => by rw [hc] at e; cases e; exact z)⟩
theorem prog_ok (T : TopFact P K mg) (n : Nat) : FnsAt Pr w K mg base P n := (prog_all T n).1.1
end
/-- the law's end -/
noncomputable def LawOk (P : Prog) (n : Nat) : Prop := ∀ ns : List Int, ns.length ≤ 63 → (Gn P n).fn "law" [.sv (ns.map .int)] [] (fun d _ => d = .bl true) (fun _ _ => False)
theorem reps_ints {W : Wd} {φ : List Addr} {H : Hp} : ∀ ns : List Int, Reps W φ H (ns.map D.int) (ns.map V.int)
  | [] => .nil
  | n :: ns => .cons (.int n) (reps_ints ns)
noncomputable def spLaw (K : PySem.W.Frag) : Sp := fun vs H Q _ => ∃ (a : Addr) (ns : List Int), vs = [.ref a] ∧ SqL K H a (ns.map V.int) ∧ ns.length ≤ 63 ∧ ∀ H', Q (.bl true) H'
theorem law_sp {P : Prog} {n : Nat} (L : LawOk P n) (K : PySem.W.Frag) (mg : Str → Option Value) (vs : List V) (H : Hp) (Q : VK) (E : L2.XK) (h : spLaw K vs H Q E) : SPd ⟨K, mg, none, []⟩ ((Gn P n).fn "law") vs H Q E := by
  obtain ⟨a, ns, rfl, hS, hl, hq⟩ := h
  refine ⟨[], [], [], [.sv (ns.map .int)], _, _, ⟨rfl, List.nodup_nil, fun a h => by simp at h, fun a h => by simp at h, fun n o h => by simp at h⟩, .cons (.sv ?_ (reps_ints ns)) .nil, L ns hl, fun φ' hd' H' d v e s r w => ?_, fun _ _ _ _ _ _ _ _ w => w.elim⟩
  · rcases hS with h | h
    · exact .inl ⟨h, by simp, by simp⟩
    · exact .inr h
  · have w' : d = .bl true := w
    subst w'
    cases r
    exact hq H'
theorem law_end {Pr : Program} {w : World} {K : PySem.W.Frag} {mg : Str → Option Value} {base : Heap} {P : Prog} {n : Nat} {c : Fn} {fa : Addr} {fd : FuncData} {oc : Value} {od : Option Addr} {osl : Array (Option Value)} (T : TopFact P K mg) (L : LawOk P n) (hn : 0 < n) (hc : P.fns "law" = some c) (hp : c.ps = ["script"])
    (hm : mg (Str.ofString "law") = some (.ref fa)) (hl : K.lookup fa = some ⟨oc, od, .func fd, osl⟩) : FnOk Pr w K mg base (CX Pr w) n fa fd [Str.ofString "script"] (spLaw K) := by
  obtain ⟨fa', fd', h1, _, _, ⟨oc', od', osl', h3⟩, F⟩ := prog_ok (Pr := Pr) (w := w) (base := base) (P := P) T n "law" c hc hn
  rw [hm] at h1; cases h1
  rw [hl] at h3; cases h3
  rw [hp] at F
  exact F.imp (law_sp L K mg)
/-- a script's numbers are of so many bits at most -/
noncomputable def BitOk (z : Int) : Prop := Builtin.Int.intBits z ≤ 1048576
noncomputable def LawOkB (P : Prog) (n : Nat) : Prop := ∀ ns : List Int, ns.length ≤ 63 → (∀ z ∈ ns, BitOk z) → (Gn P n).fn "law" [.sv (ns.map .int)] [] (fun d _ => d = .bl true) (fun _ _ => False)
noncomputable def spLawB (K : PySem.W.Frag) : Sp := fun vs H Q _ => ∃ (a : Addr) (ns : List Int), vs = [.ref a] ∧ SqL K H a (ns.map V.int) ∧ ns.length ≤ 63 ∧ (∀ z ∈ ns, Builtin.Int.intBits z ≤ 1048576) ∧ ∀ H', Q (.bl true) H'
theorem law_spB {P : Prog} {n : Nat} (L : LawOkB P n) (K : PySem.W.Frag) (mg : Str → Option Value) (vs : List V) (H : Hp) (Q : VK) (E : L2.XK) (h : spLawB K vs H Q E) : SPd ⟨K, mg, none, []⟩ ((Gn P n).fn "law") vs H Q E := by
  obtain ⟨a, ns, rfl, hS, hl, hb, hq⟩ := h
  refine ⟨[], [], [], [.sv (ns.map .int)], _, _, ⟨rfl, List.nodup_nil, fun a h => by simp at h, fun a h => by simp at h, fun n o h => by simp at h⟩, .cons (.sv ?_ (reps_ints ns)) .nil, L ns hl hb, fun φ' hd' H' d v e s r w => ?_, fun _ _ _ _ _ _ _ _ w => w.elim⟩
  · rcases hS with h | h
    · exact .inl ⟨h, by simp, by simp⟩
    · exact .inr h
  · have w' : d = .bl true := w
    subst w'
    cases r
    exact hq H'
theorem law_endB {Pr : Program} {w : World} {K : PySem.W.Frag} {mg : Str → Option Value} {base : Heap} {P : Prog} {n : Nat} {c : Fn} {fa : Addr} {fd : FuncData} {oc : Value} {od : Option Addr} {osl : Array (Option Value)} (T : TopFact P K mg) (L : LawOkB P n) (hn : 0 < n) (hc : P.fns "law" = some c) (hp : c.ps = ["script"])
    (hm : mg (Str.ofString "law") = some (.ref fa)) (hl : K.lookup fa = some ⟨oc, od, .func fd, osl⟩) : FnOk Pr w K mg base (CX Pr w) n fa fd [Str.ofString "script"] (spLawB K) := by
  obtain ⟨fa', fd', h1, _, _, ⟨oc', od', osl', h3⟩, F⟩ := prog_ok (Pr := Pr) (w := w) (base := base) (P := P) T n "law" c hc hn
  rw [hm] at h1; cases h1
  rw [hl] at h3; cases h3
  rw [hp] at F
  exact F.imp (law_spB L K mg)
theorem law_cx {P : Program} {w : World} (H : Hp) (s : Shared) (e : Value) (s' : Shared) : CX P w [] H s (fun _ _ _ => False) e s' → False := fun h => by
  obtain ⟨_, _, _, _, _, _, _, _, _, _, _, _, z⟩ := h
  exact z
/-- a def's fact from what the top has written -/
theorem fact_mk {K : PySem.W.Frag} {h : Heap} {mg : Str → Option Value} (X : K.In h) (G : h.Ns mainGlobals mg) {f : String} {c : Fn} {st : Stmt} {fa : Addr} {oc : Value} {od an : Option Addr} {osl : Array (Option Value)} {kV doc pm cdv ct : Value} (N : List Str)
    (a : PySem.W.nsIn K mainGlobals (Str.ofString f) = some (some (.ref fa))) (l : K.lookup fa = some ⟨oc, od, .func (PySem.W.fnOf (Str.ofString f) (Str.ofString f) (defArgs st) (defBody st) (defScope st) .none kV doc pm an cdv ct), osl⟩)
    (cd : PySem.W.codeIn K cdv (Str.ofString f) = true) (k : PySem.W.keepIn K (.ref fa) = true) (S : FnScope N (c.ps.map Str.ofString) (defScope st))
    (b : ∀ (us : List Value), us.length = (c.ps.map Str.ofString).length → bindArgs (PySem.W.fnOf (Str.ofString f) (Str.ofString f) (defArgs st) (defBody st) (defScope st) .none kV doc pm an cdv ct) ⟨us, []⟩ = pure ((c.ps.map Str.ofString).zip us))
    (hk : chkFn c N st = true) : FnFact K mg f c :=
  ⟨fa, _, N, st, Str.ofString f, PySem.W.mg_of X G a, fun_mk l cd k, .all b, S, hk⟩
/-- a method's fact from what the top has written -/
theorem me_mk {K : PySem.W.Frag} {h : Heap} {mg : Str → Option Value} (X : K.In h) (G : h.Ns mainGlobals mg) {cl m : String} {qual : Str} {c : Fn} {st : Stmt} {C fa : Addr} {oc : Value} {od an : Option Addr} {osl : Array (Option Value)} {kV doc pm cdv ct : Value} (N : List Str)
    (aC : PySem.W.nsIn K mainGlobals (Str.ofString cl) = some (some (.ref C))) (hc : Cls K C) (a : PySem.W.findIn K (.ref C) (Str.ofString m) = some (some (.ref fa))) (i : PySem.W.isFn K (.ref fa) = true)
    (l : K.lookup fa = some ⟨oc, od, .func (PySem.W.fnOf (Str.ofString m) qual (defArgs st) (defBody st) (defScope st) .none kV doc pm an cdv ct), osl⟩)
    (cd : PySem.W.codeIn K cdv qual = true) (k : PySem.W.keepIn K (.ref fa) = true) (S : FnScope N (c.ps.map Str.ofString) (defScope st))
    (b : ∀ (us : List Value), us.length = (c.ps.map Str.ofString).length → bindArgs (PySem.W.fnOf (Str.ofString m) qual (defArgs st) (defBody st) (defScope st) .none kV doc pm an cdv ct) ⟨us, []⟩ = pure ((c.ps.map Str.ofString).zip us))
    (hk : chkFn c N st = true) : MeFact K mg cl m c :=
  ⟨C, fa, _, N, st, qual, by unfold clOf; rw [PySem.W.mg_of X G aC], hc, ⟨a, i, k⟩, fun_mk l cd k, .all b, S, hk⟩
end Vd

set_option Elab.async false
set_option linter.all false
set_option maxRecDepth 100000
/-! facts of exception classes at a claim's end -/
namespace Vd
open PySem PySem.Spec PyProof.Rows L2
theorem kit_own {K : PySem.W.Frag} {R T : Addr} {b : Bool} (hd : PySem.W.hasDictIn K T = true) (ht : PySem.W.typeIn K (.ref T) = some (.type "type")) (hs : PySem.W.subIn K (.ref R) (.ref T) = some b) (hr : PySem.W.subIn K (.ref R) (.ref R) = some true) : PySem.W.kitOne K (.ref R) (.ref T) = some b := by
  unfold PySem.W.kitOne
  by_cases e : (Value.ref R == Value.ref T) = true
  · rw [if_pos e]
    have e' : R = T := by
      have := eq_of_beq e
      cases this
      rfl
    subst e'
    rw [hr] at hs
    exact hs
  · rw [if_neg e]
    have hc : (PySem.W.clsIn K T).isSome = true := by
      unfold PySem.W.hasDictIn at hd
      cases h : PySem.W.clsIn K T with
      | none => rw [h] at hd; cases hd
      | some c => rfl
    have : ((PySem.W.clsIn K T).isSome && PySem.W.typeIn K (.ref T) == some (.type "type")) = true := by
      rw [hc, ht]
      rfl
    show (if ((PySem.W.clsIn K T).isSome && PySem.W.typeIn K (.ref T) == some (.type "type")) = true then PySem.W.subIn K (.ref R) (.ref T) else none) = some b
    rw [if_pos this]
    exact hs
theorem kit_val {K : PySem.W.Frag} {R : Addr} (h : PySem.W.subIn K (.ref R) (.type "ValueError") = some true) : PySem.W.kitOne K (.ref R) (.type "ValueError") = some true := by
  unfold PySem.W.kitOne
  rw [if_neg (show ¬ (Value.ref R == Value.type "ValueError") = true from fun z => nomatch (eq_of_beq z))]
  show (if PySem.W.kitMeta "ValueError" = true then _ else none) = _
  rw [if_pos (by decide +kernel)]
  exact h
end Vd

set_option Elab.async false
set_option linter.all false
set_option maxRecDepth 100000
/-! reckoning on plain data -/
namespace Vd
open PySem
noncomputable def asB (x : D) (K : Bool → Prop) : Prop := match x with | .bl b => K b | _ => False
noncomputable def asI (x : D) (K : Int → Prop) : Prop := match x with | .int b => K b | _ => False
@[simp] theorem asB_bl (b : Bool) (K : Bool → Prop) : asB (.bl b) K = K b := rfl
@[simp] theorem asI_int (b : Int) (K : Int → Prop) : asI (.int b) K = K b := rfl
theorem asB_eq (x : D) (K : Bool → Prop) : (∃ b, x = .bl b ∧ K b) = asB x K := by
  cases x <;> simp [asB]
theorem asI_eq (x : D) (K : Int → Prop) : (∃ b, x = .int b ∧ K b) = asI x K := by
  cases x <;> simp [asI]
section
variable {G : Gam} {σ : DSt} {h : Hd} {Q : DK} {X : EK}
@[simp] theorem wE_var (i : Nat) : wpE G (.var i) σ h Q X = ∃ d, σ[i]? = some (some d) ∧ Q d h := rfl
@[simp] theorem wE_int (i : Int) : wpE G (.int i) σ h Q X = Q (.int i) h := rfl
@[simp] theorem wE_str (i : String) : wpE G (.str i) σ h Q X = Q (.str (Str.ofString i)) h := rfl
@[simp] theorem wE_bl (i : Bool) : wpE G (.bl i) σ h Q X = Q (.bl i) h := rfl
@[simp] theorem wE_non : wpE G .non σ h Q X = Q .non h := rfl
@[simp] theorem wE_glob (x : String) : wpE G (.glob x) σ h Q X = ∃ d, G.gl x = some d ∧ Q d h := rfl
@[simp] theorem wE_bin (m o a b) : wpE G (.bin m o a b) σ h Q X = wpE G a σ h (fun x h1 => wpE G b σ h1 (fun y h2 => bopW m o x y h2 Q) X) X := rfl
@[simp] theorem wE_neg (a) : wpE G (.neg a) σ h Q X = wpE G a σ h (fun x h1 => asI x fun i => Q (.int (-i)) h1) X := by simp only [← asI_eq]; rfl
@[simp] theorem wE_not (a) : wpE G (.not a) σ h Q X = wpE G a σ h (fun x h1 => asB x fun b => Q (.bl (!b)) h1) X := by simp only [← asB_eq]; rfl
@[simp] theorem wE_cmp (o a b) : wpE G (.cmp o a b) σ h Q X = wpE G a σ h (fun x h1 => wpE G b σ h1 (fun y h2 => cmpW o x y h2 fun c => Q (.bl c) h2) X) X := rfl
@[simp] theorem wE_chain (o o' a b c) : wpE G (.chain o o' a b c) σ h Q X = wpE G a σ h (fun x h1 => wpE G b σ h1 (fun y h2 => cmpW o x y h2 fun k =>
      if k = true then wpE G c σ h2 (fun z h3 => cmpW o' y z h3 fun k' => Q (.bl k') h3) X else Q (.bl false) h2) X) X := rfl
@[simp] theorem wE_and1 (a) : wpE G (.and (.cons a .nil)) σ h Q X = wpE G a σ h Q X := rfl
@[simp] theorem wE_or1 (a) : wpE G (.or (.cons a .nil)) σ h Q X = wpE G a σ h Q X := rfl
@[simp] theorem wE_and (a b r) : wpE G (.and (.cons a (.cons b r))) σ h Q X = wpE G a σ h (fun x h1 => asB x fun k => if k = true then wpE G (.and (.cons b r)) σ h1 Q X else Q (.bl false) h1) X := by simp only [← asB_eq]; rfl
@[simp] theorem wE_or (a b r) : wpE G (.or (.cons a (.cons b r))) σ h Q X = wpE G a σ h (fun x h1 => asB x fun k => if k = true then Q (.bl true) h1 else wpE G (.or (.cons b r)) σ h1 Q X) X := by simp only [← asB_eq]; rfl
@[simp] theorem wE_ife (c a b) : wpE G (.ife c a b) σ h Q X = wpE G c σ h (fun x h1 => asB x fun k => if k = true then wpE G a σ h1 Q X else wpE G b σ h1 Q X) X := by simp only [← asB_eq]; rfl
@[simp] theorem wE_tup (es) : wpE G (.tup es) σ h Q X = wpEs G es σ h (fun xs h1 => xs.length ≤ sizeLine ∧ Q (.tup xs) h1) X := rfl
@[simp] theorem wE_lst (m es) : wpE G (.lst m es) σ h Q X = wpEs G es σ h (fun xs h1 => mkL m xs h1 Q) X := rfl
@[simp] theorem wE_idx (a i) : wpE G (.idx a i) σ h Q X = wpE G a σ h (fun x h1 => wpE G i σ h1 (fun y h2 => idxW x y h2 Q) X) X := rfl
@[simp] theorem wE_stp (a lo c) : wpE G (.stp a lo c) σ h Q X = wpE G a σ h (fun x h1 => ∃ xs, rdL h1 x = some xs ∧ mkL false (stpL xs lo c) h1 Q) X := rfl
@[simp] theorem wE_lrg (m a b) : wpE G (.lrg m a b) σ h Q X = wpE G a σ h (fun x h1 => wpE G b σ h1 (fun y h2 => ∃ i j, x = .int i ∧ y = .int j ∧ R62 i ∧ R62 j ∧ (j - i).toNat ≤ 16777216 ∧ mkL m (rngN i j) h2 Q) X) X := rfl
@[simp] theorem wE_lrb (m a b) : wpE G (.lrb m a b) σ h Q X = wpE G a σ h (fun x h1 => wpE G b σ h1 (fun y h2 => ∃ i j, x = .int i ∧ y = .int j ∧ (j - i).toNat ≤ 16777216 ∧ mkL m (rngN i j) h2 Q) X) X := rfl
@[simp] theorem wE_lzp (a b) : wpE G (.lzp a b) σ h Q X = wpE G a σ h (fun x h1 => wpE G b σ h1 (fun y h2 => ∃ xs ys, rdL h2 x = some xs ∧ rdL h2 y = some ys ∧ xs.length ≤ 4000 ∧ Q (.vl ((xs.zip ys).map fun p => .tup [p.1, p.2])) h2) X) X := rfl
@[simp] theorem wE_srs (m a) : wpE G (.srs m a) σ h Q X = wpE G a σ h (fun x h1 => srsW m x h1 Q) X := rfl
@[simp] theorem wE_lset (a) : wpE G (.lset a) σ h Q X = wpE G a σ h (fun x h1 => lsetW x h1 Q) X := rfl
@[simp] theorem wE_lrev (m a) : wpE G (.lrev m a) σ h Q X = wpE G a σ h (fun x h1 => ∃ xs, rdL h1 x = some xs ∧ mkL m xs.reverse h1 Q) X := rfl
@[simp] theorem wE_dnewK : wpE G (.dnew false) σ h Q X = Q (.ref h.length) (h ++ [.dk false []]) := rfl
@[simp] theorem wE_dnewT : wpE G (.dnew true) σ h Q X = Q (.ref h.length) (h ++ [.dt false []]) := rfl
@[simp] theorem wE_dln (a) : wpE G (.dln a) σ h Q X = wpE G a σ h (fun x h1 => ∃ r z kvs, x = .ref r ∧ h1[r]? = some (.dk z kvs) ∧ Q (.int kvs.length) h1) X := rfl
@[simp] theorem wE_ddsp (k v) : wpE G (.ddsp k v) σ h Q X = wpE G k σ (h ++ [.dt false []]) (fun x h1 => wpE G v σ h1 (fun y h2 => ∃ ys ks, x = .tup ys ∧ keysD ys = some ks ∧ h2[h.length]? = some (.dt false []) ∧ Q (.ref h.length) (h2.set h.length (.dt false (putA [] ks y)))) X) X := rfl
@[simp] theorem wE_dget (o i) : wpE G (.dget o i) σ h Q X = wpE G o σ h (fun x h1 => wpE G i σ h1 (fun y h2 => dgetW x y h2 fun o => ∃ d, o = some d ∧ Q d h2) X) X := rfl
@[simp] theorem wE_din (i o) : wpE G (.din false i o) σ h Q X = wpE G i σ h (fun y h1 => wpE G o σ h1 (fun x h2 => dgetW x y h2 fun o => Q (.bl o.isSome) h2) X) X := rfl
@[simp] theorem wE_dnin (i o) : wpE G (.din true i o) σ h Q X = wpE G i σ h (fun y h1 => wpE G o σ h1 (fun x h2 => dgetW x y h2 fun o => Q (.bl (!o.isSome)) h2) X) X := rfl
@[simp] theorem dget_str {r : Nat} {s : Str} {R : Option D → Prop} : dgetW (.ref r) (.str s) h R = ∃ z kvs, h[r]? = some (.dk z kvs) ∧ R (getA kvs (.inr s)) := by
  show (∃ z kvs k, h[r]? = some (.dk z kvs) ∧ some (Sum.inr s) = some k ∧ _) = _
  simp
@[simp] theorem dget_int {r : Nat} {s : Int} {R : Option D → Prop} : dgetW (.ref r) (.int s) h R = ∃ z kvs, h[r]? = some (.dk z kvs) ∧ R (getA kvs (.inl s)) := by
  show (∃ z kvs k, h[r]? = some (.dk z kvs) ∧ some (Sum.inl s) = some k ∧ _) = _
  simp
@[simp] theorem dget_tup {r : Nat} {ys : List D} {R : Option D → Prop} : dgetW (.ref r) (.tup ys) h R = ∃ z kvs k, h[r]? = some (.dt z kvs) ∧ keysD ys = some k ∧ R (getA kvs k) := rfl
@[simp] theorem dput_str {r : Nat} {s : Str} {v : D} {R : Hd → Prop} : dputW (.ref r) (.str s) v h R = ∃ kvs, h[r]? = some (.dk false kvs) ∧ kvs.length < sizeLine ∧ R (h.set r (.dk false (putA kvs (.inr s) v))) := by
  show (∃ kvs k, h[r]? = some (.dk false kvs) ∧ some (Sum.inr s) = some k ∧ _) = _
  simp
@[simp] theorem dput_tup {r : Nat} {ys : List D} {v : D} {R : Hd → Prop} : dputW (.ref r) (.tup ys) v h R = ∃ kvs k, h[r]? = some (.dt false kvs) ∧ keysD ys = some k ∧ kvs.length < sizeLine ∧ R (h.set r (.dt false (putA kvs k v))) := rfl
@[simp] theorem wE_mpr (mx a) : wpE G (.mpr mx a) σ h Q X = wpE G a σ h (fun x h1 => mprW mx x h1 Q) X := rfl
@[simp] theorem wE_mdef (mx a) : wpE G (.mdef mx a) σ h Q X = wpE G a σ h (fun x h1 => mdW mx x h1 Q) X := rfl
@[simp] theorem wE_slc (m a lo hi) : wpE G (.slc m a lo hi) σ h Q X = wpE G a σ h (fun x h1 => wpO G lo σ h1 (fun l h2 => wpO G hi σ h2 (fun u h3 => slcW m x l u h3 Q) X) X) X := rfl
@[simp] theorem wE_fld (a f) : wpE G (.fld a f) σ h Q X = wpE G a σ h (fun x h1 => ∃ c ns vs d, rdI h1 x = some (c, ns, vs) ∧ G.fldOk c f = true ∧ flook ns vs f = some d ∧ Q d h1) X := rfl
@[simp] theorem wE_isi (a t) : wpE G (.isi a t) σ h Q X = wpE G a σ h (fun x h1 => ∃ b, isiB (seen h1 x) t = some b ∧ Q (.bl b) h1) X := rfl
@[simp] theorem wE_call (f es) : wpE G (.call f es) σ h Q X = (G.isFn f = true ∧ wpEs G es σ h (fun xs h1 => G.fn f xs h1 Q X) X) := rfl
@[simp] theorem wE_make (c es) : wpE G (.make c es) σ h Q X = (G.isMk c = true ∧ wpEs G es σ h (fun xs h1 => G.mkc c xs h1 Q X) X) := rfl
@[simp] theorem wE_meth (o f es) : wpE G (.meth o f es) σ h Q X = wpE G o σ h (fun x h1 => ∃ c ns vs, rdI h1 x = some (c, ns, vs) ∧ G.isMe c f = true ∧ flook ns vs f = none ∧ wpEs G es σ h1 (fun xs h2 => G.me c f (x :: xs) h2 Q X) X) X := rfl
@[simp] theorem wE_ise (i t) : wpE G (.ise i t) σ h Q X = ∃ c b, σ[i]? = some none ∧ G.xs = some (i, c) ∧ G.sub c t = some b ∧ Q (.bl b) h := rfl
@[simp] theorem wE_bi (f m es) : wpE G (.bi f m es) σ h Q X = wpEs G es σ h (fun xs h1 => biW m f xs h1 Q) X := rfl
@[simp] theorem wE_bm (f o es) : wpE G (.bm f o es) σ h Q X = wpE G o σ h (fun x h1 => recOk f x h1 ∧ wpEs G es σ h1 (fun xs h2 => bmW f x xs h2 Q) X) X := rfl
/-- a comprehension's turns -/
noncomputable def CL (G : Gam) (elt : E) (tg : Tg) (cond : Oe) (vs : List Nat) (σ : DSt) (stay : Hd → Prop) (xs acc : List D) (h : Hd) (Q : List D → Hd → Prop) : Prop :=
  compL stay (fun x h2 K => tgW tg x (Vd.wipe σ vs) h2 fun σ2 => wpC G cond σ2 h2 (fun b h3 => if b = true then wpE G elt σ2 h3 (fun y h4 => K (some y) h4) (fun _ _ => False) else K none h3) (fun _ _ => False)) xs acc h Q
@[simp] theorem wE_comp (m elt tg it cond vs) : wpE G (.comp m elt tg it cond vs) σ h Q X = wpI G it σ h (fun J h1 => CL G elt tg cond vs σ J.stay J.xs [] h1 (fun acc h5 => mkL m acc h5 Q)) X := rfl
theorem CL_nil {elt tg cond vs stay acc} {Q' : List D → Hd → Prop} : CL G elt tg cond vs σ stay [] acc h Q' = (stay h ∧ Q' acc h) := rfl
theorem CL_cons {elt tg cond vs stay x xs acc} {Q' : List D → Hd → Prop} : CL G elt tg cond vs σ stay (x :: xs) acc h Q' = (stay h ∧ tgW tg x (Vd.wipe σ vs) h fun σ2 => wpC G cond σ2 h (fun b h3 => if b = true then wpE G elt σ2 h3 (fun y h4 => acc.length < sizeLine ∧ CL G elt tg cond vs σ stay xs (acc ++ [y]) h4 Q') (fun _ _ => False) else CL G elt tg cond vs σ stay xs acc h3 Q') (fun _ _ => False)) := rfl
@[simp] theorem wEs_nil {Q' : List D → Hd → Prop} : wpEs G .nil σ h Q' X = Q' [] h := rfl
@[simp] theorem wEs_cons (e r) {Q' : List D → Hd → Prop} : wpEs G (.cons e r) σ h Q' X = wpE G e σ h (fun x h1 => wpEs G r σ h1 (fun xs h2 => Q' (x :: xs) h2) X) X := rfl
@[simp] theorem wO_none {Q' : Option Int → Hd → Prop} : wpO G .none σ h Q' X = Q' none h := rfl
@[simp] theorem wO_some (e) {Q' : Option Int → Hd → Prop} : wpO G (.some e) σ h Q' X = wpE G e σ h (fun x h1 => asI x fun i => Q' (some i) h1) X := by simp only [← asI_eq]; rfl
@[simp] theorem wC_none {Q' : Bool → Hd → Prop} : wpC G .none σ h Q' X = Q' true h := rfl
@[simp] theorem wC_some (e) {Q' : Bool → Hd → Prop} : wpC G (.some e) σ h Q' X = wpE G e σ h (fun x h1 => asB x fun b => Q' b h1) X := by simp only [← asB_eq]; rfl
@[simp] theorem wT_eq (e) {Q' : Bool → Hd → Prop} : wpT G e σ h Q' X = wpE G e σ h (fun x h1 => asB x fun b => Q' b h1) X := by simp only [← asB_eq]; rfl
variable {R : Itm → Hd → Prop}
@[simp] theorem wI_val (e) : wpI G (.val e) σ h R X = wpE G e σ h (fun x h1 => ∃ xs, rdS h1 x = some xs ∧ R ⟨xs, fun h' => rdS h' x = some xs⟩ h1) X := rfl
@[simp] theorem wI_chs (e) : wpI G (.chs e) σ h R X = wpE G e σ h (fun x h1 => ∃ z, x = .str z ∧ R ⟨chsD z, fun _ => True⟩ h1) X := rfl
@[simp] theorem wI_rng1 (a) : wpI G (.rng1 a) σ h R X = wpE G a σ h (fun x h1 => asI x fun j => R62 j ∧ R ⟨rngN 0 j, fun _ => True⟩ h1) X := by simp only [← asI_eq]; rfl
@[simp] theorem wI_rng3 (a b c) : wpI G (.rng3 a b c) σ h R X = wpE G a σ h (fun x h1 => wpE G b σ h1 (fun y h2 => wpE G c σ h2 (fun z h3 => ∃ i j k n, x = .int i ∧ y = .int j ∧ z = .int k ∧ Rg3 i j k n ∧ R ⟨rngC i k n, fun _ => True⟩ h3) X) X) X := rfl
@[simp] theorem wI_rng2 (a b) : wpI G (.rng2 a b) σ h R X = wpE G a σ h (fun x h1 => wpE G b σ h1 (fun y h2 => asI x fun i => asI y fun j => R62 i ∧ R62 j ∧ R ⟨rngN i j, fun _ => True⟩ h2) X) X := by
  have e : ∀ (x y : D) (K : Int → Int → Prop), (asI x fun i => asI y fun j => K i j) = ∃ i j, x = .int i ∧ y = .int j ∧ K i j := fun x y K => by cases x <;> cases y <;> simp [asI]
  simp only [e]; rfl
@[simp] theorem wI_rngb (a b) : wpI G (.rngb a b) σ h R X = wpE G a σ h (fun x h1 => wpE G b σ h1 (fun y h2 => asI x fun i => asI y fun j => R ⟨rngN i j, fun _ => True⟩ h2) X) X := by
  have e : ∀ (x y : D) (K : Int → Int → Prop), (asI x fun i => asI y fun j => K i j) = ∃ i j, x = .int i ∧ y = .int j ∧ K i j := fun x y K => by cases x <;> cases y <;> simp [asI]
  simp only [e]; rfl
@[simp] theorem wI_zip (a b) : wpI G (.zip a b) σ h R X = wpE G a σ h (fun x h1 => wpE G b σ h1 (fun y h2 => ∃ xs ys, rd2 h2 x y = some (xs, ys) ∧
      R ⟨(xs.zip ys).map fun p => .tup [p.1, p.2], fun h' => rd2 h' x y = some (xs, ys)⟩ h2) X) X := rfl
@[simp] theorem wI_enum (a) : wpI G (.enum a) σ h R X = wpE G a σ h (fun x h1 => ∃ xs, rdS h1 x = some xs ∧ R ⟨xs.zipIdx.map fun p => .tup [.int p.2, p.1], fun h' => rdS h' x = some xs⟩ h1) X := rfl
@[simp] theorem wI_kys (a) : wpI G (.kys a) σ h R X = wpE G a σ h (fun x h1 => ∃ r kvs, x = .ref r ∧ h1[r]? = some (.dk false kvs) ∧ R ⟨kvs.map fun kv => keyV kv.1, fun h' => h'[r]? = some (.dk true kvs)⟩ (h1.set r (.dk true kvs))) X := rfl
@[simp] theorem wI_rev (a) : wpI G (.rev a) σ h R X = wpE G a σ h (fun x h1 => ∃ xs, rdS h1 x = some xs ∧ R ⟨xs.reverse, fun h' => rdS h' x = some xs⟩ h1) X := rfl
end
section
variable {G : Gam} {σ : DSt} {h : Hd} {K : Vd.Ends} {X : XS}
/-- the turns of a for, of a while -/
noncomputable def FL (G : Gam) (t : Tg) (b : Ss) (X : XS) (stay : Hd → Prop) (xs : List D) (σ : DSt) (h : Hd) (K : Vd.Ends) : Prop := forL stay (fun x σ h K => tgW t x σ h fun σ' => wpSs G b σ' h K X) xs σ h K
noncomputable def WL (G : Gam) (c : E) (b : Ss) (X : XS) (n : Nat) (σ : DSt) (h : Hd) (K : Vd.Ends) : Prop := whlL (fun σ h Q => wpT G c σ h Q (fun c h' => X c σ h')) (fun σ h K => wpSs G b σ h K X) n σ h K
theorem FL_nil {t b stay} : FL G t b X stay [] σ h K = (stay h ∧ K.nx σ h) := rfl
theorem FL_cons {t b stay x xs} : FL G t b X stay (x :: xs) σ h K = (stay h ∧ tgW t x σ h fun σ' => wpSs G b σ' h { K with nx := fun σ' h' => FL G t b X stay xs σ' h' K, ct := fun σ' h' => FL G t b X stay xs σ' h' K, bk := K.nx } X) := rfl
theorem WL_succ {c b n} : WL G c b X (n + 1) σ h K = wpT G c σ h (fun k h1 => if k = true then wpSs G b σ h1 { K with nx := fun σ' h' => WL G c b X n σ' h' K, ct := fun σ' h' => WL G c b X n σ' h' K, bk := K.nx } X else K.nx σ h1) (fun c h' => X c σ h') := rfl
@[simp] theorem wS_set (t e) : wpS G (.set t e) σ h K X = wpE G e σ h (fun x h1 => tgW t x σ h1 fun σ' => K.nx σ' h1) (fun c h' => X c σ h') := rfl
@[simp] theorem wS_par (i j a b) : wpS G (.par i j a b) σ h K X = wpE G a σ h (fun x h1 => wpE G b σ h1 (fun y h2 => K.nx ((σ.set i (some x)).set j (some y)) h2) (fun c h' => X c σ h')) (fun c h' => X c σ h') := rfl
@[simp] theorem wS_sub (o i e) : wpS G (.sub o i e) σ h K X = wpE G e σ h (fun v h1 => wpE G o σ h1 (fun x h2 => wpE G i σ h2 (fun y h3 => ∃ r k xs j, x = .ref r ∧ y = .int k ∧ h3[r]? = some (.lst xs) ∧ L2.ixN xs.length k = some j ∧
      K.nx σ (h3.set r (.lst (xs.set j v)))) (fun c h' => X c σ h')) (fun c h' => X c σ h')) (fun c h' => X c σ h') := rfl
@[simp] theorem wS_dput (o i e) : wpS G (.dput o i e) σ h K X = wpE G e σ h (fun v h1 => wpE G o σ h1 (fun x h2 => wpE G i σ h2 (fun y h3 => dputW x y v h3 fun h4 => K.nx σ h4) (fun c h' => X c σ h')) (fun c h' => X c σ h')) (fun c h' => X c σ h') := rfl
@[simp] theorem wS_augA (i e) : wpS G (.aug i .add e) σ h K X = ∃ x, σ[i]? = some (some x) ∧ wpE G e σ h (fun y h1 => asI x fun a => asI y fun b => K.nx (σ.set i (some (.int (a + b)))) h1) (fun c h' => X c σ h') := by
  have e : ∀ (x y : D) (K : Int → Int → Prop), (asI x fun i => asI y fun j => K i j) = ∃ i j, x = .int i ∧ y = .int j ∧ K i j := fun x y K => by cases x <;> cases y <;> simp [asI]
  simp only [e]
  show (∃ x, _ ∧ wpE _ _ _ _ _ _) = _
  simp
@[simp] theorem wS_ex (e) : wpS G (.ex e) σ h K X = wpE G e σ h (fun _ h1 => K.nx σ h1) (fun c h' => X c σ h') := rfl
@[simp] theorem wS_ret (e) : wpS G (.ret e) σ h K X = wpE G e σ h K.rt (fun c h' => X c σ h') := rfl
@[simp] theorem wS_retN : wpS G .retN σ h K X = K.rt .non h := rfl
@[simp] theorem wS_ite (c a b) : wpS G (.ite c a b) σ h K X = wpE G c σ h (fun x h1 => asB x fun k => if k = true then wpSs G a σ h1 K X else wpSs G b σ h1 K X) (fun c h' => X c σ h') := by simp only [← asB_eq]; rfl
@[simp] theorem wS_whl (c b) : wpS G (.whl c b) σ h K X = ∃ n, WL G c b X n σ h K := rfl
@[simp] theorem wS_fr (t it b) : wpS G (.fr t it b) σ h K X = wpI G it σ h (fun J h1 => FL G t b X J.stay J.xs σ h1 K) (fun c h' => X c σ h') := rfl
@[simp] theorem wS_fset (o f e) : wpS G (.fset o f e) σ h K X = wpE G e σ h (fun v h1 => wpE G o σ h1 (fun x h2 => ∃ r c ns vs, x = .ref r ∧ h2[r]? = some (.ins c ns vs) ∧ G.fldOk c f = true ∧ ns.length < 1000 ∧
      K.nx σ (h2.set r (.ins c (fput ns vs f v).1 (fput ns vs f v).2))) (fun c h' => X c σ h')) (fun c h' => X c σ h') := rfl
@[simp] theorem wS_raise (c) : wpS G (.raise c) σ h K X = (G.isEx c = true ∧ X c σ h) := rfl
/-- what a try makes of an exception of its body -/
noncomputable def tryX0 (G : Gam) (c : String) (hh : Ss) (K : Vd.Ends) (X : XS) : XS := fun c' σ' h' => match G.exm c' c with
  | some true => wpSs G hh σ' h' K (fun _ _ _ => False)
  | some false => X c' σ' h'
  | none => False
noncomputable def tryX1 (G : Gam) (c : String) (i : Nat) (hh : Ss) (K : Vd.Ends) (X : XS) : XS := fun c' σ' h' => match G.exm c' c with
  | some true => wpSs (G.inx i c') hh (σ'.set i none) h' { nx := fun s => K.nx (s.set i none), rt := K.rt, bk := fun s => K.bk (s.set i none), ct := fun s => K.ct (s.set i none) } (fun _ _ _ => False)
  | some false => X c' σ' h'
  | none => False
@[simp] theorem wS_try0 (b c hh) : wpS G (.try b c none hh) σ h K X = (G.isTr c = true ∧ wpSs G b σ h K (tryX0 G c hh K X)) := by
  have e : (fun c' (σ' : DSt) (h' : Hd) => match G.exm c' c, (none : Option Nat) with
    | some true, some i => wpSs (G.inx i c') hh (σ'.set i none) h' { nx := fun s => K.nx (s.set i none), rt := K.rt, bk := fun s => K.bk (s.set i none), ct := fun s => K.ct (s.set i none) } (fun _ _ _ => False)
    | some true, none => wpSs G hh σ' h' K (fun _ _ _ => False)
    | some false, _ => X c' σ' h'
    | none, _ => False) = tryX0 G c hh K X := by
    funext c' σ' h'
    unfold tryX0
    cases G.exm c' c with
    | none => rfl
    | some b => cases b <;> rfl
  rw [← e]; rfl
@[simp] theorem wS_try1 (b c i hh) : wpS G (.try b c (some i) hh) σ h K X = (G.isTr c = true ∧ wpSs G b σ h K (tryX1 G c i hh K X)) := by
  have e : (fun c' (σ' : DSt) (h' : Hd) => match G.exm c' c, (some i : Option Nat) with
    | some true, some i => wpSs (G.inx i c') hh (σ'.set i none) h' { nx := fun s => K.nx (s.set i none), rt := K.rt, bk := fun s => K.bk (s.set i none), ct := fun s => K.ct (s.set i none) } (fun _ _ _ => False)
    | some true, none => wpSs G hh σ' h' K (fun _ _ _ => False)
    | some false, _ => X c' σ' h'
    | none, _ => False) = tryX1 G c i hh K X := by
    funext c' σ' h'
    unfold tryX1
    cases G.exm c' c with
    | none => rfl
    | some b => cases b <;> rfl
  rw [← e]; rfl
theorem tryX1_t {c' c : String} {i : Nat} {hh : Ss} {σ' : DSt} {h' : Hd} (e : G.exm c' c = some true) : tryX1 G c i hh K X c' σ' h' = wpSs (G.inx i c') hh (σ'.set i none) h' { nx := fun s => K.nx (s.set i none), rt := K.rt, bk := fun s => K.bk (s.set i none), ct := fun s => K.ct (s.set i none) } (fun _ _ _ => False) := by
  unfold tryX1; rw [e]
theorem tryX0_t {c' c : String} {hh : Ss} {σ' : DSt} {h' : Hd} (e : G.exm c' c = some true) : tryX0 G c hh K X c' σ' h' = wpSs G hh σ' h' K (fun _ _ _ => False) := by
  unfold tryX0; rw [e]
theorem tryX0_f {c' c : String} {hh : Ss} {σ' : DSt} {h' : Hd} (e : G.exm c' c = some false) : tryX0 G c hh K X c' σ' h' = X c' σ' h' := by
  unfold tryX0; rw [e]
@[simp] theorem wS_pass : wpS G .pass σ h K X = K.nx σ h := rfl
@[simp] theorem wS_brk : wpS G .brk σ h K X = K.bk σ h := rfl
@[simp] theorem wS_cont : wpS G .cont σ h K X = K.ct σ h := rfl
@[simp] theorem wSs_nil : wpSs G .nil σ h K X = K.nx σ h := rfl
@[simp] theorem wSs_cons (s r) : wpSs G (.cons s r) σ h K X = wpS G s σ h { K with nx := fun σ' h' => wpSs G r σ' h' K X } X := rfl
@[simp] theorem tg_nm (i d) {Kt : DSt → Prop} : tgW (.nm i) d σ h Kt = Kt (σ.set i (some d)) := rfl
theorem tg_tp (is d) {Kt : DSt → Prop} : tgW (.tp is) d σ h Kt = ∃ xs, rdS h d = some xs ∧ xs.length = is.length ∧ Kt ((is.zip xs).foldl (fun s p => s.set p.1 (some p.2)) σ) := rfl
@[simp] theorem tg_tp_tup (is xs) {Kt : DSt → Prop} : tgW (.tp is) (.tup xs) σ h Kt = (xs.length = is.length ∧ Kt ((is.zip xs).foldl (fun s p => s.set p.1 (some p.2)) σ)) := by
  rw [tg_tp]
  exact propext ⟨fun ⟨_, e, l, k⟩ => by cases e; exact ⟨l, k⟩, fun ⟨l, k⟩ => ⟨xs, rfl, l, k⟩⟩
@[simp] theorem tg_tp_vl (is xs) {Kt : DSt → Prop} : tgW (.tp is) (.vl xs) σ h Kt = (xs.length = is.length ∧ Kt ((is.zip xs).foldl (fun s p => s.set p.1 (some p.2)) σ)) := by
  rw [tg_tp]
  exact propext ⟨fun ⟨_, e, l, k⟩ => by cases e; exact ⟨l, k⟩, fun ⟨l, k⟩ => ⟨xs, rfl, l, k⟩⟩
end
/-! ### operators on whole numbers -/
section
variable {m : Bool} {i j : Int} {h : Hd} {Q : DK} {R : Bool → Prop}
@[simp] theorem b_add : bopW m .add (.int i) (.int j) h Q = Q (.int (i + j)) h := rfl
@[simp] theorem b_sub : bopW m .sub (.int i) (.int j) h Q = Q (.int (i - j)) h := rfl
@[simp] theorem b_mul : bopW m .mul (.int i) (.int j) h Q = (MulOk i j ∧ Q (.int (i * j)) h) := rfl
@[simp] theorem b_fdiv : bopW m .fdiv (.int i) (.int j) h Q = (DivOk j ∧ Q (.int (i.fdiv j)) h) := rfl
@[simp] theorem b_mod : bopW m .mod (.int i) (.int j) h Q = (j ≠ 0 ∧ Q (.int (i.fmod j)) h) := rfl
@[simp] theorem b_pow : bopW m .pow (.int i) (.int j) h Q = (PowOk i j ∧ Q (.int (i ^ j.toNat)) h) := rfl
@[simp] theorem c_lt : cmpW .lt (.int i) (.int j) h R = R (decide (i < j)) := rfl
@[simp] theorem c_le : cmpW .le (.int i) (.int j) h R = R (decide (i ≤ j)) := rfl
@[simp] theorem c_gt : cmpW .gt (.int i) (.int j) h R = R (decide (j < i)) := rfl
@[simp] theorem c_ge : cmpW .ge (.int i) (.int j) h R = R (decide (j ≤ i)) := rfl
@[simp] theorem c_eq : cmpW .eq (.int i) (.int j) h R = R (decide (i = j)) := rfl
@[simp] theorem c_ne : cmpW .ne (.int i) (.int j) h R = R (!decide (i = j)) := rfl
@[simp] theorem c_eqb {a b : Bool} : cmpW .eq (.bl a) (.bl b) h R = R (a == b) := by
  show (_ ∧ _ ∧ R _) = _
  simp [seen, pl, deq]
@[simp] theorem c_neb {a b : Bool} : cmpW .ne (.bl a) (.bl b) h R = R (!(a == b)) := by
  show (_ ∧ _ ∧ R _) = _
  simp [seen, pl, deq]
@[simp] theorem c_is_bl {a b : Bool} : cmpW .is (.bl a) (.bl b) h R = R (decide (a = b)) := rfl
@[simp] theorem c_isn_bl {a b : Bool} : cmpW .isn (.bl a) (.bl b) h R = R (!decide (a = b)) := rfl
@[simp] theorem c_isn_int : cmpW .isn (.int i) .non h R = R true := rfl
@[simp] theorem c_isn_tup {xs} : cmpW .isn (.tup xs) .non h R = R true := rfl
@[simp] theorem c_isn_non : cmpW .isn .non .non h R = R false := rfl
@[simp] theorem c_is_int : cmpW .is (.int i) .non h R = R false := rfl
@[simp] theorem c_is_tup {xs} : cmpW .is (.tup xs) .non h R = R false := rfl
@[simp] theorem c_is_non : cmpW .is .non .non h R = R true := rfl
/-! ### items -/
@[simp] theorem ix_tup (xs : List D) : idxW (.tup xs) (.int i) h Q = ∃ v, L2.atI xs i = some v ∧ Q v h := by
  show (∃ ys v, rdS h (.tup xs) = some ys ∧ _) = _
  simp [rdS]
@[simp] theorem ix_vl (xs : List D) : idxW (.vl xs) (.int i) h Q = ∃ v, L2.atI xs i = some v ∧ Q v h := by
  show (∃ ys v, rdS h (.vl xs) = some ys ∧ _) = _
  simp [rdS, rdL]
@[simp] theorem ix_sv (xs : List D) : idxW (.sv xs) (.int i) h Q = ∃ v, L2.atI xs i = some v ∧ Q v h := by
  show (∃ ys v, rdS h (.sv xs) = some ys ∧ _) = _
  simp [rdS, rdL]
end
theorem atI_ge {α : Type} {xs : List α} {i : Int} (h0 : 0 ≤ i) : L2.atI xs i = xs[i.toNat]? := by
  unfold L2.atI L2.ixN
  rw [if_pos h0]
  by_cases h : i < xs.length
  · rw [if_pos h]; rfl
  · rw [if_neg h]
    show none = _
    symm
    rw [List.getElem?_eq_none_iff]
    omega
@[simp] theorem atI_0 {α : Type} (a : α) (xs : List α) : L2.atI (a :: xs) 0 = some a := by rw [atI_ge (by decide)]; rfl
@[simp] theorem atI_1 {α : Type} (a b : α) (xs : List α) : L2.atI (a :: b :: xs) 1 = some b := by rw [atI_ge (by decide)]; rfl
@[simp] theorem atI_2 {α : Type} (a b c : α) (xs : List α) : L2.atI (a :: b :: c :: xs) 2 = some c := by rw [atI_ge (by decide)]; rfl
@[simp] theorem atI_3 {α : Type} (a b c d : α) (xs : List α) : L2.atI (a :: b :: c :: d :: xs) 3 = some d := by rw [atI_ge (by decide)]; rfl
/-! ### size -/
/-- a whole number of fewer than k bits -/
class Sm (x : Int) (k : outParam Nat) : Prop where
  lt : x.natAbs < 2 ^ k
theorem sm_le {x : Int} {j k : Nat} (h : x.natAbs < 2 ^ j) (hk : j ≤ k) : x.natAbs < 2 ^ k := Nat.lt_of_lt_of_le h (Nat.pow_le_pow_right (by decide) hk)
noncomputable instance smAdd {x y : Int} {a b : Nat} [hx : Sm x a] [hy : Sm y b] : Sm (x + y) (max a b + 1) := ⟨by
  have h1 := sm_le hx.lt (show a ≤ max a b by omega)
  have h2 := sm_le hy.lt (show b ≤ max a b by omega)
  have := Int.natAbs_add_le x y
  rw [Nat.pow_succ]; omega⟩
noncomputable instance smSub {x y : Int} {a b : Nat} [hx : Sm x a] [hy : Sm y b] : Sm (x - y) (max a b + 1) := ⟨by
  have h1 := sm_le hx.lt (show a ≤ max a b by omega)
  have h2 := sm_le hy.lt (show b ≤ max a b by omega)
  have : (x - y).natAbs ≤ x.natAbs + y.natAbs := by omega
  rw [Nat.pow_succ]; omega⟩
noncomputable instance smMul {x y : Int} {a b : Nat} [hx : Sm x a] [hy : Sm y b] : Sm (x * y) (a + b) := ⟨by
  rw [Int.natAbs_mul, Nat.pow_add]
  exact Nat.mul_lt_mul'' hx.lt hy.lt⟩
noncomputable instance smNeg {x : Int} {a : Nat} [hx : Sm x a] : Sm (-x) a := ⟨by rw [Int.natAbs_neg]; exact hx.lt⟩
/-- above nought -/
class PosI (y : Int) : Prop where
  pos : 0 < y
noncomputable instance (priority := low) posLit {n : Nat} : PosI (no_index (OfNat.ofNat (n + 1)) : Int) := ⟨Int.natCast_pos.mpr (Nat.succ_pos n)⟩
noncomputable instance posMul {x y : Int} [hx : PosI x] [hy : PosI y] : PosI (x * y) := ⟨Int.mul_pos hx.pos hy.pos⟩
noncomputable instance (priority := low) smLit {n : Nat} : Sm (no_index (OfNat.ofNat n) : Int) (n.log2 + 1) := ⟨by
  show n < 2 ^ (n.log2 + 1)
  exact Nat.lt_log2_self⟩
noncomputable instance smEmod {x y : Int} {b : Nat} [hy : Sm y b] [hp : PosI y] : Sm (x % y) b := ⟨by
  have h1 := hy.lt
  have a1 := Int.emod_nonneg x (Int.ne_of_gt hp.pos)
  have a2 := Int.emod_lt_of_pos x hp.pos
  omega⟩
noncomputable instance smFmod {x y : Int} {b : Nat} [hy : Sm y b] [hp : PosI y] : Sm (x.fmod y) b := ⟨by
  rw [Int.fmod_eq_emod_of_nonneg _ (Int.le_of_lt hp.pos)]
  exact (smEmod (x := x) (y := y)).lt⟩
theorem natAbs_ediv (x y : Int) (h : 0 < y) : (x / y).natAbs ≤ x.natAbs := by
  have h1 := Int.mul_ediv_add_emod x y
  have h2 := Int.emod_nonneg x (Int.ne_of_gt h)
  have h3 := Int.emod_lt_of_pos x h
  by_cases hx : 0 ≤ x
  · have := Int.ediv_le_self y hx
    have := Int.ediv_nonneg hx (Int.le_of_lt h)
    omega
  · have h4 : x / y < 0 := Int.ediv_neg_of_neg_of_pos (by omega) h
    have h5 : x ≤ x / y := by
      have e : (y - 1) * 1 ≤ (y - 1) * (-(x / y)) := Int.mul_le_mul_of_nonneg_left (by omega) (by omega)
      rw [Int.sub_mul y 1 (-(x / y)), Int.mul_neg, Int.mul_neg] at e
      omega
    omega
noncomputable instance smEdiv {x y : Int} {a : Nat} [hx : Sm x a] [hp : PosI y] : Sm (x / y) a := ⟨Nat.lt_of_le_of_lt (natAbs_ediv x y hp.pos) hx.lt⟩
@[simp] theorem fmod_lit (x : Int) (n : Nat) : x.fmod (no_index (OfNat.ofNat n)) = x % (OfNat.ofNat n : Int) := Int.fmod_eq_emod_of_nonneg _ (Int.natCast_nonneg n)
@[simp] theorem fdiv_lit (x : Int) (n : Nat) : x.fdiv (no_index (OfNat.ofNat n)) = x / (OfNat.ofNat n : Int) := Int.fdiv_eq_ediv_of_nonneg _ (Int.natCast_nonneg n)
theorem mul_ok {x y : Int} {a b : Nat} [hx : Sm x a] [hy : Sm y b] (h : a + b ≤ 999990) : MulOk x y := by
  right
  left
  refine L2.wide_mul (a := a + 1) (b := b + 1) (sm_le hx.lt (by omega)) (sm_le hy.lt (by omega)) (by omega) (by omega) (by omega)
theorem mul_okL {x y : Int} (h1 : -(2 ^ 64) < x) (h2 : x < 2 ^ 64) : MulOk x y := .inl (.inl ⟨h1, h2⟩)
theorem mul_okR {x y : Int} (h1 : -(2 ^ 64) < y) (h2 : y < 2 ^ 64) : MulOk x y := .inl (.inr ⟨h1, h2⟩)
theorem bits_lt {y : Int} {b : Nat} (h : y.natAbs < 2 ^ b) : Builtin.Int.intBits y ≤ b := by
  unfold Builtin.Int.intBits
  split
  · omega
  · rename_i c
    have h0 : y.natAbs ≠ 0 := by
      intro z
      apply c
      have : y = 0 := by omega
      rw [this]; rfl
    have := (Nat.log2_lt h0).mpr h
    omega
theorem mul_okB {x y : Int} {b : Nat} (hx : BitOk x) [hy : Sm y b] (h : b ≤ 100000) : MulOk x y := by
  right
  right
  have := bits_lt hy.lt
  unfold BitOk at hx
  show (Builtin.Int.intBits x : Int) + (Builtin.Int.intBits y : Int) ≤ 134217728
  omega
theorem div_ok {y : Int} {b : Nat} [hy : Sm y b] (h0 : y ≠ 0) (h : b ≤ 8990) : DivOk y := ⟨h0, by
  have := PySem.Flt.log2_lt_of (k := b + 1) (n := y.natAbs) (by omega) (sm_le hy.lt (by omega))
  omega⟩
end Vd
namespace Vd
open PySem
@[simp] theorem Gn_isFn (P : Prog) (n : Nat) (f : String) : (Gn P (n + 1)).isFn f = (P.fns f).isSome := rfl
@[simp] theorem Gn_glE (P : Prog) (n : Nat) : (Gn P n).gl = P.gl := (Gn_gl n).1
@[simp] theorem Gn_fldE (P : Prog) (n : Nat) : (Gn P n).fldOk = P.fldOk := (Gn_gl n).2.1
@[simp] theorem Gn_subE (P : Prog) (n : Nat) : (Gn P n).sub = P.sub := (Gn_gl n).2.2.1
@[simp] theorem Gn_isExE (P : Prog) (n : Nat) : (Gn P n).isEx = P.isEx := (Gn_gl n).2.2.2.1
@[simp] theorem Gn_exmE (P : Prog) (n : Nat) : (Gn P n).exm = P.exm := (Gn_gl n).2.2.2.2.1
@[simp] theorem Gn_isTrE (P : Prog) (n : Nat) : (Gn P n).isTr = P.isTr := (Gn_gl n).2.2.2.2.2.1
@[simp] theorem Gn_isMe (P : Prog) (n : Nat) (c m : String) : (Gn P (n + 1)).isMe c m = (P.mes c m).isSome := rfl
@[simp] theorem Gn_isMk (P : Prog) (n : Nat) (c : String) : (Gn P (n + 2)).isMk c = (P.mes c "__init__").isSome := by
  show ((P.mes c "__init__").isSome && decide (0 < n + 1)) = _
  rw [decide_eq_true (Nat.succ_pos n), Bool.and_true]
theorem Gn_mkc (P : Prog) (n : Nat) (c : String) (xs : List D) (h : Hd) (Q : DK) (X : EK) : (Gn P (n + 1)).mkc c xs h Q X = (Gn P n).me c "__init__" (.ref h.length :: xs) (h ++ [.ins c [] []]) (fun v h2 => v = .non ∧ Exit h (.ref h.length) h2 Q) (fun e h2 => X e h2 ∨ (h <+: h2 ∧ X e h)) := rfl
theorem line_eq : sizeLine = 16777216 := sizeLine_eq
@[simp] theorem mkL_f (xs : List D) (h : Hd) (Q : DK) : mkL false xs h Q = (xs.length ≤ 16777216 ∧ Q (.vl xs) h) := by rw [← line_eq]; rfl
@[simp] theorem mkL_t (xs : List D) (h : Hd) (Q : DK) : mkL true xs h Q = (xs.length ≤ 16777216 ∧ Q (.ref h.length) (h ++ [.lst xs])) := by rw [← line_eq]; rfl
@[simp] theorem line_ge {n : Nat} : (n ≤ sizeLine) = (n ≤ 16777216) := by rw [line_eq]
@[simp] theorem line_gt {n : Nat} : (n < sizeLine) = (n < 16777216) := by rw [line_eq]
section
variable {m : Bool} {h : Hd} {Q : DK} {xs ys : List D}
@[simp] theorem b_cat : bopW m .add (.vl xs) (.vl ys) h Q = (xs.length + ys.length ≤ 16777216 ∧ mkL m (xs ++ ys) h Q) := by
  rw [← line_eq]
  show (∃ as bs, rdL h (.vl xs) = some as ∧ rdL h (.vl ys) = some bs ∧ _) = _
  simp [rdL]
@[simp] theorem b_catS : bopW m .add (.sv xs) (.vl ys) h Q = (xs.length + ys.length ≤ 16777216 ∧ mkL m (xs ++ ys) h Q) := by
  rw [← line_eq]
  show (∃ as bs, rdL h (.sv xs) = some as ∧ rdL h (.vl ys) = some bs ∧ _) = _
  simp [rdL]
@[simp] theorem b_catR : bopW m .add (.vl xs) (.sv ys) h Q = (xs.length + ys.length ≤ 16777216 ∧ mkL m (xs ++ ys) h Q) := by
  rw [← line_eq]
  show (∃ as bs, rdL h (.vl xs) = some as ∧ rdL h (.sv ys) = some bs ∧ _) = _
  simp [rdL]
@[simp] theorem bi_list_sv : biW m "list" [.sv xs] h Q = mkL m xs h Q := by
  show (∃ as, rdS h (.sv xs) = some as ∧ _) = _
  simp [rdS, rdL]
@[simp] theorem bi_list_vl : biW m "list" [.vl xs] h Q = mkL m xs h Q := by
  show (∃ as, rdS h (.vl xs) = some as ∧ _) = _
  simp [rdS, rdL]
@[simp] theorem bi_list_tup : biW m "list" [.tup xs] h Q = mkL m xs h Q := by
  show (∃ as, rdS h (.tup xs) = some as ∧ _) = _
  simp [rdS]
@[simp] theorem bi_len_vl : biW m "len" [.vl xs] h Q = Q (.int xs.length) h := by
  show (∃ as, rdS h (.vl xs) = some as ∧ _) = _
  simp [rdS, rdL]
@[simp] theorem bi_len_sv : biW m "len" [.sv xs] h Q = Q (.int xs.length) h := by
  show (∃ as, rdS h (.sv xs) = some as ∧ _) = _
  simp [rdS, rdL]
@[simp] theorem bi_len_tup : biW m "len" [.tup xs] h Q = Q (.int xs.length) h := by
  show (∃ as, rdS h (.tup xs) = some as ∧ _) = _
  simp [rdS]
@[simp] theorem bi_abs {i : Int} : biW m "abs" [.int i] h Q = Q (.int (if i < 0 then -i else i)) h := rfl
@[simp] theorem bi_int {i : Int} : biW m "int" [.int i] h Q = Q (.int i) h := rfl
@[simp] theorem bi_intb {i : Bool} : biW m "int" [.bl i] h Q = Q (.int (if i = true then 1 else 0)) h := rfl
@[simp] theorem bi_max {i j : Int} : biW m "max" [.int i, .int j] h Q = Q (.int (if j > i then j else i)) h := rfl
@[simp] theorem bi_min {i j : Int} : biW m "min" [.int i, .int j] h Q = Q (.int (if j < i then j else i)) h := rfl
@[simp] theorem isi_int {i : Int} {t : String} : isiB (seen h (.int i)) t = isiS "int" t := rfl
@[simp] theorem isi_bl {i : Bool} {t : String} : isiB (seen h (.bl i)) t = isiS "bool" t := rfl
@[simp] theorem isi_tup {t : String} : isiB (seen h (.tup xs)) t = isiS "tuple" t := rfl
@[simp] theorem isi_vl {t : String} : isiB (seen h (.vl xs)) t = isiS "list" t := rfl
@[simp] theorem isi_non {t : String} : isiB (seen h .non) t = isiS "NoneType" t := rfl
@[simp] theorem isi_str {x : Str} {t : String} : isiB (seen h (.str x)) t = isiS "str" t := rfl
end
@[simp] theorem isS1 : isiS "int" "int" = some true := rfl
@[simp] theorem isS2 : isiS "int" "bool" = some false := rfl
@[simp] theorem isS3 : isiS "tuple" "tuple" = some true := rfl
@[simp] theorem isS4 : isiS "bool" "bool" = some true := rfl
@[simp] theorem isS5 : isiS "int" "tuple" = some false := rfl
@[simp] theorem isS6 : isiS "list" "list" = some true := rfl
@[simp] theorem isS7 : isiS "NoneType" "tuple" = some false := rfl
@[simp] theorem isS8 : isiS "bool" "int" = some true := rfl
/-- a list of whole numbers at a place -/
@[simp] theorem pow_lit (a b : Nat) : PowOk (no_index (OfNat.ofNat a)) (no_index (OfNat.ofNat b)) = (b ≤ 1000000 ∧ a < 2 ^ 64) := by
  show (0 ≤ (OfNat.ofNat b : Int) ∧ (OfNat.ofNat b : Int) ≤ 1000000 ∧ (OfNat.ofNat a : Int).natAbs < 2 ^ 64) = _
  have e1 : (OfNat.ofNat b : Int) = ((b : Nat) : Int) := rfl
  have e2 : (OfNat.ofNat a : Int).natAbs = a := rfl
  rw [e1, e2]
  exact propext ⟨fun ⟨_, h, k⟩ => ⟨by omega, k⟩, fun ⟨h, k⟩ => ⟨by omega, by omega, k⟩⟩
theorem div_lit (n : Nat) (h : n + 1 < 2 ^ 8900) : DivOk (OfNat.ofNat (n + 1)) := ⟨by show ((n + 1 : Nat) : Int) ≠ 0; omega, by
  have := PySem.Flt.log2_lt_of (k := 8900) (n := n + 1) (by omega) h
  show (n + 1).log2 < 9000
  omega⟩
end Vd
namespace Vd
open PySem
section
variable {G : Gam} {t : Tg} {b : Ss} {X : XS} {K : Vd.Ends} {stay : Hd → Prop}
/-- a for, by what holds ahead of each turn -/
theorem FL_list (I : Nat → DSt → Hd → Prop) {xs : List D} {σ : DSt} {h : Hd} (h0 : I 0 σ h) (hst : ∀ k σ h, k ≤ xs.length → I k σ h → stay h)
    (step : ∀ k x σ h, xs[k]? = some x → k < xs.length → I k σ h → ∀ Kn : DSt → Hd → Prop, (∀ σ' h', I (k + 1) σ' h' → Kn σ' h') → tgW t x σ h fun σ' => wpSs G b σ' h { K with nx := Kn, ct := Kn, bk := K.nx } X)
    (fin : ∀ σ h, I xs.length σ h → K.nx σ h) : FL G t b X stay xs σ h K := by
  have key : ∀ (m k : Nat) (σ : DSt) (h : Hd), k + m = xs.length → I k σ h → FL G t b X stay (xs.drop k) σ h K := by
    intro m
    induction m with
    | zero =>
      intro k σ h hk hI
      have hk : k = xs.length := by omega
      subst hk
      rw [List.drop_length, FL_nil]
      exact ⟨hst _ _ _ (Nat.le_refl _) hI, fin σ h hI⟩
    | succ m ih =>
      intro k σ h hk hI
      have hlt : k < xs.length := by omega
      rw [List.drop_eq_getElem_cons hlt, FL_cons]
      exact ⟨hst _ _ _ (by omega) hI, step k _ σ h (List.getElem?_eq_getElem hlt) hlt hI _ fun σ' h' hI' => ih (k + 1) σ' h' (by omega) hI'⟩
  have := key xs.length 0 σ h (by omega) h0
  rwa [List.drop_zero] at this
theorem FL_rng (I : Nat → DSt → Hd → Prop) {lo hi : Int} {σ : DSt} {h : Hd} (h0 : I 0 σ h) (hst : ∀ h, stay h)
    (step : ∀ k σ h, k < (hi - lo).toNat → I k σ h → ∀ Kn : DSt → Hd → Prop, (∀ σ' h', I (k + 1) σ' h' → Kn σ' h') → tgW t (.int (lo + (k : Int))) σ h fun σ' => wpSs G b σ' h { K with nx := Kn, ct := Kn, bk := K.nx } X)
    (fin : ∀ σ h, I (hi - lo).toNat σ h → K.nx σ h) : FL G t b X stay (rngN lo hi) σ h K := by
  have hl : (rngN lo hi).length = (hi - lo).toNat := by unfold rngN; simp
  refine FL_list I h0 (fun _ _ h _ _ => hst h) (fun k x σ h hx hk hI Kn hKn => ?_) (by rw [hl]; exact fin)
  rw [hl] at hk
  have ex : x = .int (lo + (k : Int)) := by
    unfold rngN at hx
    simp [hk] at hx
    exact hx.symm
  subst ex
  exact step k σ h hk hI Kn hKn
/-- a while, by what holds ahead of each turn, and a number that falls -/
theorem WL_ind {c : E} (I : DSt → Hd → Prop) (μ : DSt → Hd → Nat) (step : ∀ σ h, I σ h → ∀ Kn : DSt → Hd → Prop, (∀ σ' h', I σ' h' → μ σ' h' < μ σ h → Kn σ' h') →
      wpT G c σ h (fun k h1 => if k = true then wpSs G b σ h1 { K with nx := Kn, ct := Kn, bk := K.nx } X else K.nx σ h1) (fun c h' => X c σ h')) {σ : DSt} {h : Hd} (h0 : I σ h) : ∃ n, WL G c b X n σ h K := by
  have key : ∀ (n : Nat) (σ : DSt) (h : Hd), I σ h → μ σ h < n → WL G c b X n σ h K := by
    intro n
    induction n with
    | zero => intro σ h _ hm; omega
    | succ n ih =>
      intro σ h hI hm
      rw [WL_succ]
      exact step σ h hI _ fun σ' h' hI' hlt => ih σ' h' hI' (by omega)
  exact ⟨_, key _ σ h h0 (Nat.lt_succ_self _)⟩
end
end Vd
namespace Vd
open PySem
section
variable {h : Hd} {R : Bool → Prop} {xs ys : List D}
@[simp] theorem c_eq_tup : cmpW .eq (.tup xs) (.tup ys) h R = (pl 16 (.tup xs) = true ∧ pl 16 (.tup ys) = true ∧ R (deqs xs ys)) := by
  show (pl 16 (.tup xs) = true ∧ pl 16 (.tup ys) = true ∧ R (deq (.tup xs) (.tup ys))) = _
  rw [deq]
@[simp] theorem c_ne_tup : cmpW .ne (.tup xs) (.tup ys) h R = (pl 16 (.tup xs) = true ∧ pl 16 (.tup ys) = true ∧ R (!deqs xs ys)) := by
  show (pl 16 (.tup xs) = true ∧ pl 16 (.tup ys) = true ∧ R (!deq (.tup xs) (.tup ys))) = _
  rw [deq]
@[simp] theorem c_eq_vl : cmpW .eq (.vl xs) (.vl ys) h R = (pl 16 (.vl xs) = true ∧ pl 16 (.vl ys) = true ∧ R (deqs xs ys)) := by
  show (pl 16 (.vl xs) = true ∧ pl 16 (.vl ys) = true ∧ R (deq (.vl xs) (.vl ys))) = _
  rw [deq]
@[simp] theorem c_ne_vl : cmpW .ne (.vl xs) (.vl ys) h R = (pl 16 (.vl xs) = true ∧ pl 16 (.vl ys) = true ∧ R (!deqs xs ys)) := by
  show (pl 16 (.vl xs) = true ∧ pl 16 (.vl ys) = true ∧ R (!deq (.vl xs) (.vl ys))) = _
  rw [deq]
@[simp] theorem c_ne_nn : cmpW .ne .non .non h R = R false := by
  show (pl 16 .non = true ∧ pl 16 .non = true ∧ R (!deq .non .non)) = _
  simp [pl, deq]
@[simp] theorem c_eq_nn : cmpW .eq .non .non h R = R true := by
  show (pl 16 .non = true ∧ pl 16 .non = true ∧ R (deq .non .non)) = _
  simp [pl, deq]
end
@[simp] theorem deqs_nil : deqs [] [] = true := by rw [deqs]
@[simp] theorem deqs_cons (a b : D) (as bs : List D) : deqs (a :: as) (b :: bs) = (deq a b && deqs as bs) := by rw [deqs]
@[simp] theorem deqs_nilc (b : D) (bs : List D) : deqs [] (b :: bs) = false := by rw [deqs] <;> simp
@[simp] theorem deqs_cnil (b : D) (bs : List D) : deqs (b :: bs) [] = false := by rw [deqs] <;> simp
@[simp] theorem deq_int (a b : Int) : deq (.int a) (.int b) = decide (a = b) := by rw [deq]; by_cases h : a = b <;> simp [h]
@[simp] theorem deq_bl (a b : Bool) : deq (.bl a) (.bl b) = (a == b) := by rw [deq]
@[simp] theorem deq_tup (xs ys : List D) : deq (.tup xs) (.tup ys) = deqs xs ys := by rw [deq]
@[simp] theorem deq_vl (xs ys : List D) : deq (.vl xs) (.vl ys) = deqs xs ys := by rw [deq]
@[simp] theorem deq_nn : deq .non .non = true := by rw [deq]
@[simp] theorem pl_int (k : Nat) (i : Int) : pl k (.int i) = true := by cases k <;> rfl
@[simp] theorem pl_bl (k : Nat) (i : Bool) : pl k (.bl i) = true := by cases k <;> rfl
@[simp] theorem pl_non (k : Nat) : pl k .non = true := by cases k <;> rfl
@[simp] theorem pl_16 (xs : List D) : pl 16 (.tup xs) = xs.all (pl 15) := rfl
@[simp] theorem pl_15 (xs : List D) : pl 15 (.tup xs) = xs.all (pl 14) := rfl
@[simp] theorem pl_14 (xs : List D) : pl 14 (.tup xs) = xs.all (pl 13) := rfl
@[simp] theorem pl_16v (xs : List D) : pl 16 (.vl xs) = xs.all (pl 15) := rfl
@[simp] theorem pl_15v (xs : List D) : pl 15 (.vl xs) = xs.all (pl 14) := rfl
@[simp] theorem pl_14v (xs : List D) : pl 14 (.vl xs) = xs.all (pl 13) := rfl
@[simp] theorem rngN_lit3 : rngN 0 3 = [.int 0, .int 1, .int 2] := rfl
@[simp] theorem rngN_lit4 : rngN 0 4 = [.int 0, .int 1, .int 2, .int 3] := rfl
@[simp] theorem rngN_lit6 : rngN 0 6 = [.int 0, .int 1, .int 2, .int 3, .int 4, .int 5] := rfl
@[simp] theorem rngN_lit8 : rngN 0 8 = [.int 0, .int 1, .int 2, .int 3, .int 4, .int 5, .int 6, .int 7] := rfl
theorem rg3_big {i j c : Int} (hc : 0 < c ∧ c < 1073741824) : Rg3 i j c (Builtin.Range.rangeSize i j c).toNat := by
  have hn : 0 ≤ Builtin.Range.rangeSize i j c := by
    unfold Builtin.Range.rangeSize
    rw [if_pos hc.1]
    split
    · have h1 := Int.ediv_nonneg (show 0 ≤ j - i - 1 by omega) (show 0 ≤ c by omega)
      omega
    · omega
  exact ⟨by omega, by omega, by omega⟩
theorem rg3_pos {i j c : Int} (hi : -1152921504606846976 < i ∧ i < 1152921504606846976) (hj : -1152921504606846976 < j ∧ j < 1152921504606846976) (hc : 0 < c ∧ c < 1073741824) : Rg3 i j c (Builtin.Range.rangeSize i j c).toNat := rg3_big hc
theorem rgSize_lt {i j c : Int} (hc : 0 < c) {k : Nat} (h : k < (Builtin.Range.rangeSize i j c).toNat) : i + k * c < j := by
  unfold Builtin.Range.rangeSize at h
  rw [if_pos hc] at h
  split at h
  · have h1 : (k : Int) ≤ (j - i - 1) / c := by omega
    have h2 := Int.mul_le_mul_of_nonneg_right h1 (show 0 ≤ c by omega)
    have h3 := Int.ediv_mul_le (j - i - 1) (show c ≠ 0 by omega)
    omega
  · omega
section
variable {G : Gam} {t : Tg} {b : Ss} {X : XS} {K : Vd.Ends} {stay : Hd → Prop}
theorem FL_rngC (I : Nat → DSt → Hd → Prop) {lo hi c : Int} (hc : 0 < c) {σ : DSt} {h : Hd} (h0 : I 0 σ h) (hst : ∀ h, stay h)
    (step : ∀ (k : Nat) σ h, lo + (k : Int) * c < hi → I k σ h → ∀ Kn : DSt → Hd → Prop, (∀ σ' h', I (k + 1) σ' h' → Kn σ' h') → tgW t (.int (lo + (k : Int) * c)) σ h fun σ' => wpSs G b σ' h { K with nx := Kn, ct := Kn, bk := K.nx } X)
    (fin : ∀ σ h, I (Builtin.Range.rangeSize lo hi c).toNat σ h → K.nx σ h) : FL G t b X stay (rngC lo c (Builtin.Range.rangeSize lo hi c).toNat) σ h K := by
  have hl : ∀ n, (rngC lo c n).length = n := by intro n; unfold rngC; simp
  refine FL_list I h0 (fun _ _ h _ _ => hst h) (fun k x σ h hx hk hI Kn hKn => ?_) (by rw [hl]; exact fin)
  rw [hl] at hk
  have ex : x = .int (lo + (k : Int) * c) := by
    unfold rngC at hx
    simp [hk] at hx
    exact hx.symm
  subst ex
  exact step k σ h (rgSize_lt hc hk) hI Kn hKn
end
end Vd
namespace Vd
open PySem
section
variable {G : Gam} {elt : E} {tg : Tg} {cond : Oe} {vs : List Nat} {σ : DSt} {stay : Hd → Prop} {h : Hd} {Q : List D → Hd → Prop}
/-- a comprehension, by what holds of what is gathered -/
theorem CL_ind (I : Nat → List D → Prop) {xs : List D} (h0 : I 0 []) (hst : stay h) (hl : xs.length ≤ 16777216)
    (step : ∀ k x acc, xs[k]? = some x → k < xs.length → I k acc → ∀ (Ka : D → Hd → Prop) (Ks : Hd → Prop), (∀ y, I (k + 1) (acc ++ [y]) → Ka y h) → (I (k + 1) acc → Ks h) →
      tgW tg x (Vd.wipe σ vs) h fun σ2 => wpC G cond σ2 h (fun b h3 => if b = true then wpE G elt σ2 h3 Ka (fun _ _ => False) else Ks h3) (fun _ _ => False))
    (fin : ∀ acc, I xs.length acc → acc.length ≤ xs.length → Q acc h) : CL G elt tg cond vs σ stay xs [] h Q := by
  have key : ∀ (m k : Nat) (acc : List D), k + m = xs.length → acc.length ≤ k → I k acc → CL G elt tg cond vs σ stay (xs.drop k) acc h Q := by
    intro m
    induction m with
    | zero =>
      intro k acc hk hc hI
      have hk : k = xs.length := by omega
      subst hk
      rw [List.drop_length, CL_nil]
      exact ⟨hst, fin acc hI hc⟩
    | succ m ih =>
      intro k acc hk hc hI
      have hlt : k < xs.length := by omega
      rw [List.drop_eq_getElem_cons hlt, CL_cons]
      refine ⟨hst, step k _ acc (List.getElem?_eq_getElem hlt) hlt hI (fun y h4 => acc.length < sizeLine ∧ CL G elt tg cond vs σ stay (xs.drop (k + 1)) (acc ++ [y]) h4 Q) (fun h3 => CL G elt tg cond vs σ stay (xs.drop (k + 1)) acc h3 Q) (fun y hy => ⟨?_, ih (k + 1) _ (by omega) (by simp; omega) hy⟩) fun hy => ih (k + 1) _ (by omega) (by omega) hy⟩
      rw [line_eq]; omega
  have := key xs.length 0 [] (by omega) (by simp) h0
  rwa [List.drop_zero] at this
/-- the same where every thing gives just one -/
theorem CL_each (f : D → D → Prop) {xs : List D} (hst : stay h) (hl : xs.length ≤ 16777216)
    (step : ∀ k x, xs[k]? = some x → k < xs.length → ∀ (Ka : D → Hd → Prop), (∀ y, f x y → Ka y h) →
      tgW tg x (Vd.wipe σ vs) h fun σ2 => wpE G elt σ2 h Ka (fun _ _ => False))
    (fin : ∀ ys : List D, ys.length = xs.length → (∀ (k : Nat) (x y : D), xs[k]? = some x → ys[k]? = some y → f x y) → Q ys h) : CL G elt tg .none vs σ stay xs [] h Q := by
  refine CL_ind (fun k acc => acc.length = k ∧ ∀ (j : Nat) (x y : D), xs[j]? = some x → acc[j]? = some y → f x y) ⟨rfl, fun j x y _ e => by simp at e⟩ hst hl (fun k x acc hx hk hI Ka Ks ha hs => ?_) fun acc hI _ => fin acc hI.1 hI.2
  refine step k x hx hk Ka fun y hy => ha y ⟨by simp [hI.1], fun j x' y' e1 e2 => ?_⟩
  rw [List.getElem?_append] at e2
  split at e2
  · exact hI.2 j x' y' e1 e2
  · rename_i hj
    have hj2 : j = k := by
      have := hI.1
      have h3 : j - acc.length < 1 := by
        have := (List.getElem?_eq_some_iff.mp e2).1
        simpa using this
      omega
    subst hj2
    rw [hI.1] at e2
    simp at e2
    subst e2
    rw [hx] at e1
    cases e1
    exact hy
end
end Vd
namespace Vd
@[simp] theorem rd2_vl (h : Hd) (a b : List D) : rd2 h (.vl a) (.vl b) = some (a, b) := by simp [rd2, rdL]
end Vd
namespace Vd
open PySem
@[simp] theorem intsD_nil : intsD [] = some [] := rfl
@[simp] theorem intsD_cons (i : Int) (r : List D) : intsD (.int i :: r) = (intsD r).map (i :: ·) := rfl
@[simp] theorem blsD_nil : blsD [] = some [] := rfl
@[simp] theorem blsD_cons (i : Bool) (r : List D) : blsD (.bl i :: r) = (blsD r).map (i :: ·) := rfl
theorem intsD_map (ns : List Int) : intsD (ns.map D.int) = some ns := by
  induction ns with
  | nil => rfl
  | cons n ns ih => rw [List.map_cons, intsD_cons, ih]; rfl
theorem blsD_map (ns : List Bool) : blsD (ns.map D.bl) = some ns := by
  induction ns with
  | nil => rfl
  | cons n ns ih => rw [List.map_cons, blsD_cons, ih]; rfl
section
variable {m : Bool} {xs : List D} {h : Hd} {Q : DK}
@[simp] theorem bi_sum : biW m "sum" [.vl xs] h Q = ∃ ns, intsD xs = some ns ∧ Q (.int ns.sum) h := by
  show (∃ ys ns, rdL h (.vl xs) = some ys ∧ intsD ys = some ns ∧ _) = _
  simp
@[simp] theorem bi_any : biW m "any" [.vl xs] h Q = ∃ bs, blsD xs = some bs ∧ Q (.bl (bs.any id)) h := by
  show (∃ ys ns, rdL h (.vl xs) = some ys ∧ blsD ys = some ns ∧ _) = _
  simp
@[simp] theorem bi_all : biW m "all" [.vl xs] h Q = ∃ bs, blsD xs = some bs ∧ Q (.bl (bs.all id)) h := by
  show (∃ ys ns, rdL h (.vl xs) = some ys ∧ blsD ys = some ns ∧ _) = _
  simp
end
end Vd

set_option Elab.async false
set_option linter.all false
set_option maxRecDepth 100000
namespace Vd
open PySem
/-! down: slots 0 one -/
/-! up: slots 0 one -/
/-! _law_far: slots 0 cell -/
/-! _law_common: slots 0 one 1 other 2 rest -/
/-! _law_fraction: slots 0 cell 1 other 2 top 3 bottom 4 part -/
/-! _law_whole: slots 0 found -/
/-! fraction: slots 0 top 1 bottom 2 one 3 other -/
/-! _law_is_fraction: slots 0 found 1 number -/
/-! ### the greatest common divisor -/
/-- a fraction in its least form -/
noncomputable def frD (a b : Int) : D := .tup [.int a, .int b]
@[simp] theorem frD_eq (a b : Int) : frD a b = .tup [.int a, .int b] := rfl
/-- a fraction's two numbers -/
structure Fr (a b : Int) (k : Nat) : Prop where
  pos : 0 < b
  gcd : Int.gcd a b = 1
  sa : Sm a k
  sb : Sm b k
end Vd

set_option Elab.async false
set_option linter.all false
set_option maxRecDepth 100000
namespace Vd
open PySem
/-! law: slots 0 script 1 cells 2 k 3 one 4 lower 5 upper -/
end Vd

set_option Elab.async false
set_option linter.all false
set_option maxRecDepth 100000
namespace Vd
open PySem
/-! law: slots 0 script 1 cells 2 k 3 top 4 bottom 5 found 6 more -/
end Vd

set_option Elab.async false
set_option linter.all false
set_option maxRecDepth 100000
namespace Vd
open PySem
/-! less: slots 0 one 1 other -/
/-! plus: slots 0 one 1 other -/
/-! minus: slots 0 one 1 other -/
/-! times: slots 0 one 1 other -/
/-! _law_right: slots 0 one 1 other 2 bottom 3 dues 4 made 5 found 6 due -/
/-! side_of: slots 0 one 1 other 2 spot 3 gap -/
/-! _law_spot: slots 0 cell 1 other -/
/-! _law_two: slots 0 some 1 one 2 other -/
/-! _law_third: slots 0 one 1 other 2 some 3 turns 4 wide 5 rise -/
/-! _law_side: slots 0 one 1 other 2 spot 3 wide 4 high 5 gap -/
/-! height_on: slots 0 one 1 other 2 place 3 wide 4 rise -/
/-! crossing: slots 0 one 1 other 2 three 3 four 4 wide 5 rise 6 width 7 gain 8 bottom 9 top -/
/-! _law_second: slots 0 one 1 other 2 some 3 turns 4 moved_on 5 three -/
/-! _law_high: slots 0 one 1 other 2 place 3 wide 4 rise -/
/-! _law_sums: slots 0 a 1 b 2 c -/
/-! _law_order: slots 0 a 1 b 2 c 3 ways 4 way -/
/-! _law_cell: slots 0 script 1 k -/
/-! _law_thing: slots 0 cell 1 top 2 bottom -/
/-! _law_deed: slots 0 way 1 one 2 other -/
/-! _law_plain: slots 0 way 1 one 2 other 3 sign -/
end Vd

set_option Elab.async false
set_option linter.all false
set_option maxRecDepth 100000
namespace Vd
open PySem
/-! law: slots 0 script 1 cells 2 k 3 some 4 one 5 other 6 j -/
end Vd

set_option Elab.async false
set_option linter.all false
set_option maxRecDepth 100000
namespace Vd
open PySem
@[simp] theorem atI_4 {α : Type} (a b c d e : α) (xs : List α) : L2.atI (a :: b :: c :: d :: e :: xs) 4 = some e := by rw [atI_ge (by decide)]; rfl
@[simp] theorem atI_5 {α : Type} (a b c d e f : α) (xs : List α) : L2.atI (a :: b :: c :: d :: e :: f :: xs) 5 = some f := by rw [atI_ge (by decide)]; rfl
@[simp] theorem atI_6 {α : Type} (a b c d e f g : α) (xs : List α) : L2.atI (a :: b :: c :: d :: e :: f :: g :: xs) 6 = some g := by rw [atI_ge (by decide)]; rfl
@[simp] theorem atI_7 {α : Type} (a b c d e f g i : α) (xs : List α) : L2.atI (a :: b :: c :: d :: e :: f :: g :: i :: xs) 7 = some i := by rw [atI_ge (by decide)]; rfl
@[simp] theorem sl_sv {m : Bool} {xs : List D} {lo hi : Option Int} {h : Hd} {Q : DK} : slcW m (.sv xs) lo hi h Q = mkL m (cut xs lo hi) h Q := by
  show (∃ ys, rdL h (.sv xs) = some ys ∧ mkL m (cut ys lo hi) h Q) = _
  simp only [rdL_sv, Option.some.injEq, exists_eq_left']
@[simp] theorem sl_vl {m : Bool} {xs : List D} {lo hi : Option Int} {h : Hd} {Q : DK} : slcW m (.vl xs) lo hi h Q = mkL m (cut xs lo hi) h Q := by
  show (∃ ys, rdL h (.vl xs) = some ys ∧ mkL m (cut ys lo hi) h Q) = _
  simp only [rdL_vl, Option.some.injEq, exists_eq_left']
@[simp] theorem sl_tup {m : Bool} {xs : List D} {lo hi : Option Int} {h : Hd} {Q : DK} : slcW m (.tup xs) lo hi h Q = Q (.tup (cut xs lo hi)) h := rfl
end Vd

set_option Elab.async false
set_option linter.all false
set_option maxRecDepth 100000
namespace Vd
open PySem
/-! holds: slots 0 spans 1 hour 2 low 3 high -/
noncomputable def c_holds : Fn := ⟨4, ["spans", "hour"], (
  .cons (.ret (.bi "any" false (.cons (.comp false (.chain .le .le (.var 2) (.var 1) (.var 3)) (.tp [2, 3]) (.val (.var 0)) .none [2, 3]) .nil))) <| .nil)⟩
/-! many: slots 0 spans 1 low 2 high -/
noncomputable def c_many : Fn := ⟨3, ["spans"], (
  .cons (.ret (.bi "sum" false (.cons (.comp false (.bin false .add (.bin false .sub (.var 2) (.var 1)) (.int 1)) (.tp [1, 2]) (.val (.var 0)) .none [1, 2]) .nil))) <| .nil)⟩
/-! _law_at: slots 0 script 1 k -/
noncomputable def c__law_at : Fn := ⟨2, ["script", "k"], (
  .cons (.ite (.cmp .lt (.var 1) (.bi "len" false (.cons (.var 0) .nil))) (
    .cons (.ret (.idx (.var 0) (.var 1))) <| .nil) .nil) <| 
  .cons (.ret (.int 0)) <| .nil)⟩
/-! _law_mix: slots 0 cell 1 k 2 size 3 prime 4 base 5 mixed -/
noncomputable def c__law_mix : Fn := ⟨6, ["cell", "k", "size"], (
  .cons (.set (.nm 3) (.int 618970019642690137449562111)) <| 
  .cons (.set (.nm 4) (.bin false .mul (.bin false .add (.bin false .add (.bin false .mod (.var 0) (.bin false .pow (.int 10) (.int 60))) (.bin false .mul (.int 7907) (.var 1))) (.int 1)) (.int 271828182845904523536028747135266249775))) <| 
  .cons (.set (.nm 5) (.bin false .mod (.bin false .mul (.var 4) (.var 4)) (.var 3))) <| 
  .cons (.set (.nm 5) (.bin false .mod (.bin false .mul (.bin false .add (.var 5) (.bin false .mul (.int 104729) (.bin false .add (.var 1) (.int 1)))) (.var 5)) (.var 3))) <| 
  .cons (.ret (.bin false .mod (.bin false .fdiv (.var 5) (.int 8)) (.var 2))) <| .nil)⟩
/-! _law_folded: slots 0 script 1 first 2 most 3 numbers 4 k 5 kept -/
noncomputable def l1__law_folded : Ss := (
  .cons (.ite (.cmp .lt (.bi "len" false (.cons (.var 3) .nil)) (.var 2)) (
    .cons (.ex (.bm "append" (.var 3) (.cons (.bin false .mod (.idx (.var 0) (.var 4)) (.bin false .pow (.int 10) (.int 60))) .nil))) <| .nil) (
    .cons (.set (.nm 5) (.bin false .add (.bin false .mul (.idx (.var 3) (.bin false .mod (.var 4) (.var 2))) (.int 10007)) (.bin false .mod (.idx (.var 0) (.var 4)) (.bin false .pow (.int 10) (.int 60))))) <| 
    .cons (.sub (.var 3) (.bin false .mod (.var 4) (.var 2)) (.bin false .mod (.var 5) (.bin false .pow (.int 10) (.int 60)))) <| .nil)) <| .nil)
noncomputable def c__law_folded : Fn := ⟨6, ["script", "first", "most"], (
  .cons (.set (.nm 3) (.lst true .nil)) <| 
  .cons (.fr (.nm 4) (.rng2 (.var 1) (.bi "len" false (.cons (.var 0) .nil))) l1__law_folded) <| 
  .cons (.ret (.var 3)) <| .nil)⟩
/-! _law_scale: slots 0 script -/
/-! _law_spans: slots 0 numbers 1 scale 2 told 3 low 4 cell 5 high -/
/-! _law_in: slots 0 spans 1 hour 2 low 3 high -/
/-! _law_shape: slots 0 found 1 k 2 number -/
/-! _law_edges: slots 0 some 1 told 2 low 3 high -/
/-! law: slots 0 script 1 scale 2 spans 3 hour 4 found 5 due 6 cell 7 pair -/
section
variable {m : Bool} {h t : Hd} {xs : List D} {Q : DK} {a : Ob} {d : D}
@[simp] theorem hn_get : (h ++ a :: t)[h.length]? = some a := by simp
@[simp] theorem hn_set {b : Ob} : (h ++ a :: t).set h.length b = h ++ b :: t := by simp
theorem hn_rdL : rdL (h ++ .lst xs :: t) (.ref h.length) = some xs := by simp [rdL]
theorem hn_rdS : rdS (h ++ .lst xs :: t) (.ref h.length) = some xs := by simp [rdS, rdL]
@[simp] theorem hn_len : biW m "len" [.ref h.length] (h ++ .lst xs :: t) Q = Q (.int xs.length) (h ++ .lst xs :: t) := by
  show (∃ ys, rdS (h ++ .lst xs :: t) (.ref h.length) = some ys ∧ _) = _
  rw [hn_rdS]; simp
@[simp] theorem hn_tuple : biW m "tuple" [.ref h.length] (h ++ .lst xs :: t) Q = Q (.tup xs) (h ++ .lst xs :: t) := by
  show (∃ ys, rdL (h ++ .lst xs :: t) (.ref h.length) = some ys ∧ _) = _
  rw [hn_rdL]; simp
@[simp] theorem hn_idx {i : Int} : idxW (.ref h.length) (.int i) (h ++ .lst xs :: t) Q = ∃ v, L2.atI xs i = some v ∧ Q v (h ++ .lst xs :: t) := by
  show (∃ ys d, rdS (h ++ .lst xs :: t) (.ref h.length) = some ys ∧ L2.atI ys i = some d ∧ _) = _
  rw [hn_rdS]; simp
@[simp] theorem hn_append : bmW "append" (.ref h.length) [d] (h ++ .lst xs :: t) Q = (xs.length < 16777216 ∧ Q .non (h ++ .lst (xs ++ [d]) :: t)) := by
  show (∃ ys, (h ++ .lst xs :: t)[h.length]? = some (.lst ys) ∧ ys.length < sizeLine ∧ Q .non _) = _
  rw [hn_get, line_eq]
  simp
@[simp] theorem hn_extend {ys : List D} : bmW "extend" (.ref h.length) [.vl ys] (h ++ .lst xs :: t) Q = (xs.length + ys.length ≤ 16777216 ∧ Q .non (h ++ .lst (xs ++ ys) :: t)) := by
  show (∃ zs ws, (h ++ .lst xs :: t)[h.length]? = some (.lst zs) ∧ rdE _ (.vl ys) = some ws ∧ zs.length + ws.length ≤ sizeLine ∧ Q .non _) = _
  rw [hn_get, line_eq]
  simp
@[simp] theorem hn_recA : recOk "append" (.ref h.length) (h ++ .lst xs :: t) = True := by
  show (∃ ys, rdL (h ++ .lst xs :: t) (.ref h.length) = some ys) = _
  rw [hn_rdL]; simp
@[simp] theorem hn_recE : recOk "extend" (.ref h.length) (h ++ .lst xs :: t) = True := by
  show (∃ ys, rdL (h ++ .lst xs :: t) (.ref h.length) = some ys) = _
  rw [hn_rdL]; simp
end
theorem fzs_ints {n : Nat} {h : Hd} : ∀ ns : List Int, Fzs n h (ns.map D.int) (ns.map D.int)
  | [] => .nil
  | x :: ns => .cons (.int x) (fzs_ints ns)
theorem fzs_pairs {n : Nat} {h : Hd} : ∀ ns : List (Int × Int), Fzs n h (ns.map pairD) (ns.map pairD)
  | [] => .nil
  | x :: ns => .cons (.tup (.cons (.int _) (.cons (.int _) .nil))) (fzs_pairs ns)
theorem fz_new {h : Hd} {xs ys : List D} (f : Fzs h.length (h ++ [.lst xs]) xs ys) : Fz h.length (h ++ [.lst xs]) (.ref h.length) (.vl ys) := .lst (Nat.le_refl _) hn_get f
theorem at_ok {P n} (hf : P.fns "_law_at" = some c__law_at) (ns : List Int) (k : Nat) {h Q X} (q : ∀ x : Int, Q (.int x) h) : (Gn P (n+1)).fn "_law_at" [.sv (ns.map .int), .int (k : Int)] h Q X := by
  refine ⟨_, hf, rfl, ?_⟩
  simp [c__law_at]
  split
  · rename_i hk
    refine ⟨.int ns[k], ?_, .raw (q _)⟩
    rw [atI_ge (by omega), List.getElem?_map, show ((k : Int)).toNat = k by omega, List.getElem?_eq_getElem hk]
    rfl
  · exact .raw (q _)
theorem mix_ok {P n} (hf : P.fns "_law_mix" = some c__law_mix) (c k s : Int) (hk : 0 ≤ k ∧ k ≤ 100) (hs : 0 < s ∧ s ≤ 100) {h Q X} (q : ∀ x : Int, 0 ≤ x → x < s → Q (.int x) h) : (Gn P (n+1)).fn "_law_mix" [.int c, .int k, .int s] h Q X := by
  refine ⟨_, hf, rfl, ?_⟩
  have sk : Sm k 8 := ⟨by omega⟩
  simp [c__law_mix]
  have s1 : Sm (c % 1000000000000000000000000000000000000000000000000000000000000) 220 := ⟨by omega⟩
  refine ⟨mul_okL (by decide) (by decide), mul_ok (by decide), mul_ok (by decide), mul_okL (by decide) (by decide), mul_ok (by decide), ⟨by decide, by decide⟩, by omega, .raw ?_⟩
  rw [Int.fmod_eq_emod_of_nonneg _ (by omega)]
  exact q _ (Int.emod_nonneg _ (by omega)) (Int.emod_lt_of_pos _ hs.1)
theorem folded_ok {P n} (hf : P.fns "_law_folded" = some c__law_folded) (ns : List Int) (first most : Nat) (hn : ns.length ≤ 63) (hm : 0 < most ∧ most ≤ 1000) (h1 : first ≤ 63) {h Q X} (q : ∀ ms : List Int, ms.length ≤ most → (∀ x ∈ ms, 0 ≤ x ∧ x < 10 ^ 60) → Q (.vl (ms.map .int)) h) : (Gn P (n+1)).fn "_law_folded" [.sv (ns.map .int), .int (first : Int), .int (most : Int)] h Q X := by
  refine ⟨_, hf, rfl, ?_⟩
  simp [c__law_folded]
  refine ⟨⟨by omega, by omega⟩, ⟨by omega, by omega⟩, ?_⟩
  refine FL_rng (fun k σ h' => ∃ (ms : List Int) (a b : Option D), h' = h ++ [.lst (ms.map .int)] ∧ ms.length ≤ most ∧ (∀ x ∈ ms, 0 ≤ x ∧ x < 10 ^ 60) ∧ σ = [some (.sv (ns.map .int)), some (.int first), some (.int most), some (.ref h.length), a, b]) ⟨[], _, _, rfl, by simp, by simp, rfl⟩ (fun h => trivial) ?_ ?_
  · rintro k σ h' hk ⟨ms, a, b, rfl, hms, hall, rfl⟩ Kn hKn
    have hx : ∃ c : Int, L2.atI (ns.map D.int) ((first : Int) + k) = some (.int c) := by
      have hlt : first + k < ns.length := by omega
      refine ⟨ns[first + k], ?_⟩
      rw [atI_ge (by omega), List.getElem?_map, show ((first : Int) + k).toNat = first + k by omega, List.getElem?_eq_getElem hlt]
      rfl
    obtain ⟨c, hc⟩ := hx
    simp [l1__law_folded, hc]
    have hcm : 0 ≤ c % 1000000000000000000000000000000000000000000000000000000000000 ∧ c % 1000000000000000000000000000000000000000000000000000000000000 < 10 ^ 60 := by omega
    split
    · refine ⟨by omega, hKn _ _ ⟨ms ++ [c % 1000000000000000000000000000000000000000000000000000000000000], _, _, by simp, by simp; omega, fun x hx => ?_, rfl⟩⟩
      rcases List.mem_append.mp hx with h | h
      · exact hall x h
      · rw [List.mem_singleton.mp h]; exact hcm
    · have hme : ms.length = most := by omega
      have hm0 : (most : Int) ≠ 0 := by omega
      rw [Int.fmod_eq_emod_of_nonneg _ (by omega)]
      have r1 := Int.emod_nonneg ((first : Int) + k) hm0
      have r2 := Int.emod_lt_of_pos ((first : Int) + k) (show 0 < (most : Int) by omega)
      generalize ((first : Int) + k) % most = r at *
      have hlt : r.toNat < ms.length := by omega
      refine ⟨by omega, .int ms[r.toNat], ?_, ?_⟩
      · rw [atI_ge r1, List.getElem?_map, List.getElem?_eq_getElem hlt]; rfl
      have hmr := hall _ (List.getElem_mem hlt)
      have sm1 : Sm ms[r.toNat] 220 := ⟨by omega⟩
      simp
      refine ⟨mul_okR (by decide) (by decide), by omega, r.toNat, ?_, ?_⟩
      · unfold L2.ixN
        rw [if_pos r1, if_pos (by omega)]
      · refine hKn _ _ ⟨ms.set r.toNat ((ms[r.toNat] * 10007 + c) % 1000000000000000000000000000000000000000000000000000000000000), _, _, by rw [List.map_set], by rw [List.length_set]; omega, fun x hx => ?_, rfl⟩
        rcases List.mem_or_eq_of_mem_set hx with h | h
        · exact hall x h
        · rw [h]; omega
  · rintro σ h' ⟨ms, a, b, rfl, hms, hall, rfl⟩
    simp
    exact .pure (fz_new (fzs_ints ms)) (List.prefix_append _ _) (q ms hms hall)
/-- spans with gaps between them -/
noncomputable def Good (ps : List (Int × Int)) : Prop := ps.Pairwise (fun a b => a.2 + 2 ≤ b.1) ∧ ∀ p ∈ ps, p.1 ≤ p.2
end Vd

set_option Elab.async false
set_option linter.all false
set_option maxRecDepth 100000
namespace Vd
open PySem
theorem CL_fun {α : Type} {G : Gam} {elt : E} {tg : Tg} {vs : List Nat} {σ : DSt} {stay : Hd → Prop} {h : Hd} {Q : List D → Hd → Prop} (zs : List α) (g f : α → D) (hst : stay h) (hl : zs.length ≤ 16777216)
    (step : ∀ z, z ∈ zs → ∀ (Ka : D → Hd → Prop), Ka (f z) h → tgW tg (g z) (Vd.wipe σ vs) h fun σ2 => wpE G elt σ2 h Ka (fun _ _ => False))
    (fin : Q (zs.map f) h) : CL G elt tg .none vs σ stay (zs.map g) [] h Q := by
  refine CL_ind (fun k acc => acc = (zs.take k).map f) (by simp) hst (by rw [List.length_map]; exact hl) (fun k x acc hx hk hI Ka Ks ha hs => ?_) fun acc hI _ => ?_
  · rw [List.length_map] at hk
    rw [List.getElem?_map, List.getElem?_eq_getElem hk] at hx
    cases hx
    refine step _ (List.getElem_mem hk) Ka (ha _ ?_)
    rw [hI, List.take_succ, List.map_append, List.getElem?_eq_getElem hk]; rfl
  · rw [List.length_map, List.take_length] at hI
    rw [hI]; exact fin
noncomputable def inB (ps : List (Int × Int)) (x : Int) : Bool := ps.any fun p => decide (p.1 ≤ x) && decide (x ≤ p.2)
theorem holds_ok {P n} (hf : P.fns "holds" = some c_holds) (ps : List (Int × Int)) (x : Int) (hl : ps.length ≤ 16777216) {h Q X} (q : Q (.bl (inB ps x)) h) : (Gn P (n+1)).fn "holds" [.tup (ps.map pairD), .int x] h Q X := by
  refine ⟨_, hf, rfl, ?_⟩
  simp [c_holds]
  refine CL_fun ps pairD (fun p => .bl (decide (p.1 ≤ x) && decide (x ≤ p.2))) trivial hl (fun p hp Ka hKa => ?_) ?_
  · simp [pairD, Vd.wipe]
    by_cases h1 : p.1 ≤ x
    · rw [if_pos h1]; rw [decide_eq_true h1, Bool.true_and] at hKa; exact hKa
    · rw [if_neg h1]; rw [decide_eq_false h1, Bool.false_and] at hKa; exact hKa
  · simp
    refine ⟨hl, ps.map fun p => (decide (p.1 ≤ x) && decide (x ≤ p.2)), ?_, .raw ?_⟩
    · rw [← blsD_map (ps.map fun p => (decide (p.1 ≤ x) && decide (x ≤ p.2))), List.map_map]; rfl
    · unfold inB at q
      rw [List.any_map]
      exact q
noncomputable def manyN (ps : List (Int × Int)) : Int := (ps.map fun p => p.2 - p.1 + 1).sum
theorem many_ok {P n} (hf : P.fns "many" = some c_many) (ps : List (Int × Int)) (hl : ps.length ≤ 16777216) {h Q X} (q : Q (.int (manyN ps)) h) : (Gn P (n+1)).fn "many" [.tup (ps.map pairD)] h Q X := by
  refine ⟨_, hf, rfl, ?_⟩
  simp [c_many]
  refine CL_fun ps pairD (fun p => .int (p.2 - p.1 + 1)) trivial hl (fun p hp Ka hKa => ?_) ?_
  · simp [pairD, Vd.wipe]
    exact hKa
  · simp
    refine ⟨hl, ps.map (fun p : Int × Int => p.2 - p.1 + 1), ?_, .raw q⟩
    rw [← intsD_map (ps.map fun p : Int × Int => p.2 - p.1 + 1), List.map_map]; rfl
end Vd

set_option Elab.async false
set_option linter.all false
set_option maxRecDepth 100000
namespace Vd
open PySem
/-! tidy: slots 0 pairs 1 told 2 low 3 high 4 pair -/
noncomputable def l1_tidy : Ss := (
  .cons (.ite (.and (.cons (.cmp .gt (.bi "len" false (.cons (.var 1) .nil)) (.int 0)) (.cons (.cmp .le (.var 2) (.bin false .add (.idx (.idx (.var 1) (.neg (.int 1))) (.int 1)) (.int 1))) .nil))) (
    .cons (.sub (.var 1) (.neg (.int 1)) (.tup (.cons (.idx (.idx (.var 1) (.neg (.int 1))) (.int 0)) (.cons (.bi "max" false (.cons (.idx (.idx (.var 1) (.neg (.int 1))) (.int 1)) (.cons (.var 3) .nil))) .nil)))) <| .nil) (
    .cons (.ex (.bm "append" (.var 1) (.cons (.tup (.cons (.var 2) (.cons (.var 3) .nil))) .nil))) <| .nil)) <| .nil)
noncomputable def c_tidy : Fn := ⟨5, ["pairs"], (
  .cons (.set (.nm 1) (.lst true .nil)) <| 
  .cons (.fr (.tp [2, 3]) (.val (.bi "sorted" false (.cons (.comp false (.var 4) (.nm 4) (.val (.var 0)) (.some (.cmp .le (.idx (.var 4) (.int 0)) (.idx (.var 4) (.int 1)))) [4]) .nil))) l1_tidy) <| 
  .cons (.ret (.bi "tuple" false (.cons (.var 1) .nil))) <| .nil)⟩
/-! _law_pairs: slots 0 numbers 1 scale 2 told 3 cell 4 low 5 high -/
/-! law: slots 0 script 1 pairs 2 handed 3 found 4 hour -/
theorem ixN_last (n : Nat) : L2.ixN (n + 1) (-1) = some n := by
  unfold L2.ixN
  rw [if_neg (by decide), if_pos (by omega)]
  congr 1
  omega
theorem atI_last5 {α : Type} (xs : List α) (x : α) : L2.atI (xs ++ [x]) (-1) = some x := by
  unfold L2.atI
  rw [List.length_append, List.length_singleton, ixN_last]
  simp
theorem CL_sel {α : Type} {G : Gam} {elt : E} {tg : Tg} {cond : Oe} {vs : List Nat} {σ : DSt} {stay : Hd → Prop} {h : Hd} {Q : List D → Hd → Prop} (zs : List α) (g f : α → D) (keep : α → Bool) (hst : stay h) (hl : zs.length ≤ 16777216)
    (step : ∀ z, z ∈ zs → ∀ (Ka : D → Hd → Prop) (Ks : Hd → Prop), (keep z = true → Ka (f z) h) → (keep z = false → Ks h) →
      tgW tg (g z) (Vd.wipe σ vs) h fun σ2 => wpC G cond σ2 h (fun b h3 => if b = true then wpE G elt σ2 h3 Ka (fun _ _ => False) else Ks h3) (fun _ _ => False))
    (fin : Q ((zs.filter keep).map f) h) : CL G elt tg cond vs σ stay (zs.map g) [] h Q := by
  refine CL_ind (fun k acc => acc = ((zs.take k).filter keep).map f) (by simp) hst (by rw [List.length_map]; exact hl) (fun k x acc hx hk hI Ka Ks ha hs => ?_) fun acc hI _ => ?_
  · rw [List.length_map] at hk
    rw [List.getElem?_map, List.getElem?_eq_getElem hk] at hx
    cases hx
    have e : zs.take (k + 1) = zs.take k ++ [zs[k]] := by rw [List.take_succ, List.getElem?_eq_getElem hk]; rfl
    refine step _ (List.getElem_mem hk) Ka Ks (fun hz => ha _ ?_) (fun hz => hs ?_)
    · rw [e, List.filter_append, List.map_append, hI]; simp [hz]
    · rw [e, List.filter_append, List.map_append, hI]; simp [hz]
  · rw [List.length_map, List.take_length] at hI
    rw [hI]; exact fin
theorem inB_app (ps qs : List (Int × Int)) (x : Int) : inB (ps ++ qs) x = (inB ps x || inB qs x) := by unfold inB; rw [List.any_append]
theorem inB_one (p : Int × Int) (x : Int) : inB [p] x = (decide (p.1 ≤ x) && decide (x ≤ p.2)) := by unfold inB; simp
/-- what has been put together so far -/
structure Tid (qs ts : List (Int × Int)) (k : Nat) : Prop where
  good : Good ts
  same : ∀ x, inB ts x = inB (qs.take k) x
  low : ∀ t ∈ ts, ∀ q ∈ qs.drop k, t.1 ≤ q.1
  len : ts.length ≤ k
theorem take_s {α : Type} {qs : List α} {k : Nat} (hk : k < qs.length) : qs.take (k + 1) = qs.take k ++ [qs[k]] := by rw [List.take_succ, List.getElem?_eq_getElem hk]; rfl
theorem tid_new {qs ts : List (Int × Int)} {k : Nat} (hs : qs.Pairwise lexLe) (hk : k < qs.length) (hle : qs[k].1 ≤ qs[k].2) (T : Tid qs ts k) (hgap : ∀ t ∈ ts, t.2 + 2 ≤ qs[k].1) : Tid qs (ts ++ [qs[k]]) (k + 1) := by
  have hdrop : qs.drop k = qs[k] :: qs.drop (k + 1) := List.drop_eq_getElem_cons hk
  refine ⟨⟨List.pairwise_append.mpr ⟨T.good.1, by simp, fun p hp q hq => ?_⟩, fun p hp => ?_⟩, fun x => ?_, fun t ht q hq => ?_, by have := T.len; simp; omega⟩
  · rw [List.mem_singleton.mp hq]; exact hgap p hp
  · rcases List.mem_append.mp hp with h | h
    · exact T.good.2 p h
    · rw [List.mem_singleton.mp h]; exact hle
  · rw [take_s hk, inB_app, inB_app, T.same]
  · rcases List.mem_append.mp ht with h | h
    · exact T.low t h q (by rw [hdrop]; exact List.mem_cons_of_mem _ hq)
    · rw [List.mem_singleton.mp h]
      have hp : (qs.drop k).Pairwise lexLe := hs.sublist (List.drop_sublist _ _)
      rw [hdrop] at hp
      have := (List.pairwise_cons.mp hp).1 q hq
      unfold lexLe at this
      omega
theorem tid_old {qs us : List (Int × Int)} {a b : Int} {k : Nat} (hk : k < qs.length) (hle : qs[k].1 ≤ qs[k].2) (T : Tid qs (us ++ [(a, b)]) k) (hin : qs[k].1 ≤ b + 1) (c : Int) (hc : c = if qs[k].2 > b then qs[k].2 else b) : Tid qs (us ++ [(a, c)]) (k + 1) := by
  have hdrop : qs.drop k = qs[k] :: qs.drop (k + 1) := List.drop_eq_getElem_cons hk
  have hab : a ≤ b := T.good.2 (a, b) (by simp)
  have haq : a ≤ qs[k].1 := T.low (a, b) (by simp) _ (by rw [hdrop]; exact .head _)
  have hbc : b ≤ c ∧ qs[k].2 ≤ c ∧ (c = b ∨ c = qs[k].2) := by rw [hc]; split <;> omega
  have hp := List.pairwise_append.mp T.good.1
  refine ⟨⟨List.pairwise_append.mpr ⟨hp.1, by simp, fun p hp1 q hq => ?_⟩, fun p hp1 => ?_⟩, fun x => ?_, fun t ht q hq => ?_, by have := T.len; simp at this ⊢; omega⟩
  · rw [List.mem_singleton.mp hq]
    exact hp.2.2 p hp1 (a, b) (by simp)
  · rcases List.mem_append.mp hp1 with h | h
    · exact T.good.2 p (by simp [h])
    · rw [List.mem_singleton.mp h]; show a ≤ c; omega
  · rw [take_s hk, inB_app (qs.take k), ← T.same, inB_app, inB_app, inB_one, inB_one, inB_one, Bool.or_assoc]
    congr 1
    rw [Bool.eq_iff_iff]
    simp only [Bool.and_eq_true, Bool.or_eq_true, decide_eq_true_eq]
    omega
  · have hq' : q ∈ qs.drop k := by rw [hdrop]; exact List.mem_cons_of_mem _ hq
    rcases List.mem_append.mp ht with h | h
    · exact T.low t (by simp [h]) q hq'
    · rw [List.mem_singleton.mp h]
      exact T.low (a, b) (by simp) q hq'
theorem inB_iff {ps : List (Int × Int)} {x : Int} : inB ps x = true ↔ ∃ p ∈ ps, p.1 ≤ x ∧ x ≤ p.2 := by
  unfold inB
  rw [List.any_eq_true]
  simp only [Bool.and_eq_true, decide_eq_true_eq]
theorem pairsD_map : ∀ ps : List (Int × Int), pairsD (ps.map pairD) = some ps
  | [] => rfl
  | p :: ps => by
    show (pairsD (ps.map pairD)).map ((p.1, p.2) :: ·) = _
    rw [pairsD_map ps]; rfl
theorem tidy_ok {P n} (hf : P.fns "tidy" = some c_tidy) (ps : List (Int × Int)) (hl : ps.length ≤ 100000) {h Q X} (q : ∀ ts : List (Int × Int), Good ts → (∀ x, inB ts x = inB ps x) → ts.length ≤ ps.length → Q (.tup (ts.map pairD)) h) : (Gn P (n+1)).fn "tidy" [.vl (ps.map pairD)] h Q X := by
  refine ⟨_, hf, rfl, ?_⟩
  simp [c_tidy]
  refine CL_sel ps pairD pairD (fun p => decide (p.1 ≤ p.2)) trivial (by omega) (fun p hp Ka Ks ha hs => ?_) ?_
  · simp [pairD, Vd.wipe]
    by_cases hc : p.1 ≤ p.2
    · rw [if_pos hc]; exact ha (decide_eq_true hc)
    · rw [if_neg hc]; exact hs (decide_eq_false hc)
  have hfl : (ps.filter fun p => decide (p.1 ≤ p.2)).length ≤ ps.length := List.length_filter_le _ _
  refine ⟨by rw [List.length_map]; omega, .inr ⟨_, _, rdL_vl _ _, pairsD_map _, fun qs hperm hsort => ?_⟩⟩
  have hql : qs.length ≤ ps.length := by rw [hperm.length_eq]; exact hfl
  have hmem : ∀ p, p ∈ qs ↔ p ∈ ps ∧ p.1 ≤ p.2 := fun p => by rw [hperm.mem_iff, List.mem_filter, decide_eq_true_eq]
  have hinB : ∀ x, inB qs x = inB ps x := fun x => by
    rw [Bool.eq_iff_iff, inB_iff, inB_iff]
    constructor
    · rintro ⟨p, h1, h2⟩; exact ⟨p, ((hmem p).mp h1).1, h2⟩
    · rintro ⟨p, h1, h2⟩; exact ⟨p, (hmem p).mpr ⟨h1, by omega⟩, h2⟩
  rw [mkL_f, List.length_map]
  refine ⟨by omega, _, rdS_vl _ _, ?_⟩
  refine FL_list (fun k σ h' => ∃ (ts : List (Int × Int)) (a b : Option D), h' = h ++ [.lst (ts.map pairD)] ∧ Tid qs ts k ∧ σ = [some (.vl (ps.map pairD)), some (.ref h.length), a, b, none]) ⟨[], _, _, rfl, ⟨⟨.nil, by simp⟩, fun x => rfl, by simp, by simp⟩, rfl⟩ (fun _ _ _ _ _ => rdS_vl _ _) ?_ ?_
  · rintro k x σ h' hx hk ⟨ts, a, b, rfl, T, rfl⟩ Kn hKn
    rw [List.length_map] at hk
    rw [List.getElem?_map, List.getElem?_eq_getElem hk] at hx
    cases hx
    have hle : qs[k].1 ≤ qs[k].2 := ((hmem _).mp (List.getElem_mem hk)).2
    have hlt := T.len
    rcases List.eq_nil_or_concat ts with e | ⟨us, ⟨a', b'⟩, e⟩
    · subst e
      simp [l1_tidy, pairD]
      exact hKn _ _ ⟨[] ++ [qs[k]], _, _, rfl, tid_new hsort hk hle T (by simp), rfl⟩
    · rw [List.concat_eq_append] at e
      subst e
      have hul : us.length + 1 ≤ k := by simpa using hlt
      simp [l1_tidy, pairD, atI_last5]
      have hp := List.pairwise_append.mp T.good.1
      have hab : a' ≤ b' := T.good.2 (a', b') (by simp)
      split
      · rename_i hc
        refine ⟨us.length, ixN_last _, ?_⟩
        refine hKn _ _ ⟨us ++ [(a', if qs[k].2 > b' then qs[k].2 else b')], _, _, ?_, tid_old hk hle T hc _ rfl, rfl⟩
        rw [List.map_append, List.set_append_right _ _ (by simp)]
        simp [pairD]
      · refine ⟨by omega, hKn _ _ ⟨us ++ [(a', b')] ++ [qs[k]], _, _, by simp [pairD], tid_new hsort hk hle T (fun t ht => ?_), rfl⟩⟩
        rcases List.mem_append.mp ht with h | h
        · have h3 : t.2 + 2 ≤ a' := hp.2.2 t h (a', b') (by simp)
          omega
        · rw [List.mem_singleton.mp h]; show b' + 2 ≤ qs[k].1; omega
  · rintro σ h' ⟨ts, a, b, rfl, T, rfl⟩
    rw [List.length_map] at T
    simp
    have hs := T.same
    rw [List.take_length] at hs
    exact .pure (.tup (fzs_pairs ts)) (List.prefix_append _ _) (q ts T.good (fun x => by rw [hs, hinB]) (by have := T.len; omega))
theorem pl_pairs (k : Nat) (ps : List (Int × Int)) : (ps.map pairD).all (pl (k + 1)) = true := by
  rw [List.all_eq_true]
  intro x hx
  obtain ⟨p, _, rfl⟩ := List.mem_map.mp hx
  show [D.int p.1, D.int p.2].all (pl k) = true
  simp
theorem deqs_pairs : ∀ ps : List (Int × Int), deqs (ps.map pairD) (ps.map pairD) = true
  | [] => by simp
  | p :: ps => by
    rw [List.map_cons, deqs_cons, deqs_pairs ps]
    simp [pairD]
end Vd

set_option Elab.async false
set_option linter.all false
set_option maxRecDepth 100000
/-! k28: first_from, last_to -/
namespace Vd
open PySem
/-! first_from: slots 0 spans 1 hour 2 low 3 high -/
noncomputable def l1_first_from : Ss := (
  .cons (.ite (.cmp .le (.var 1) (.var 3)) (
    .cons (.ret (.bi "max" false (.cons (.var 2) (.cons (.var 1) .nil)))) <| .nil) .nil) <| .nil)
noncomputable def c_first_from : Fn := ⟨4, ["spans", "hour"], (
  .cons (.fr (.tp [2, 3]) (.val (.var 0)) l1_first_from) <| 
  .cons (.ret (.non)) <| .nil)⟩
/-! last_to: slots 0 spans 1 hour 2 low 3 high -/
noncomputable def l1_last_to : Ss := (
  .cons (.ite (.cmp .le (.var 2) (.var 1)) (
    .cons (.ret (.bi "min" false (.cons (.var 3) (.cons (.var 1) .nil)))) <| .nil) .nil) <| .nil)
noncomputable def c_last_to : Fn := ⟨4, ["spans", "hour"], (
  .cons (.fr (.tp [2, 3]) (.rev (.var 0)) l1_last_to) <| 
  .cons (.ret (.non)) <| .nil)⟩
/-! _law_is: slots 0 found 1 due -/
/-! law: slots 0 script 1 scale 2 spans 3 hour 4 later 5 sooner 6 cell 7 low 8 high -/
noncomputable def firstF : List (Int × Int) → Int → Option Int
  | [], _ => none
  | p :: r, x => if x ≤ p.2 then some (max p.1 x) else firstF r x
theorem max_ifS (i j : Int) : (if i < j then j else i) = max i j := by rw [Int.max_def]; split <;> split <;> omega
theorem min_ifS (i j : Int) : (if j < i then j else i) = min i j := by rw [Int.min_def]; split <;> split <;> omega
noncomputable def optS : Option Int → D
  | none => .non
  | some i => .int i
theorem first_from_ok {P n} (hf : P.fns "first_from" = some c_first_from) (ps : List (Int × Int)) (x : Int) {h Q X} (q : Q (optS (firstF ps x)) h) : (Gn P (n+1)).fn "first_from" [.tup (ps.map pairD), .int x] h Q X := by
  refine ⟨_, hf, rfl, ?_⟩
  simp [c_first_from]
  refine FL_list (fun k σ h' => firstF ps x = firstF (ps.drop k) x ∧ h' = h ∧ ∃ a b, σ = [some (.tup (ps.map pairD)), some (.int x), a, b]) ⟨rfl, rfl, _, _, rfl⟩ (fun _ _ _ _ _ => trivial) ?_ ?_
  · rintro k y σ h' hx hk ⟨e, rfl, a, b, rfl⟩ Kn hKn
    rw [List.length_map] at hk
    rw [List.getElem?_map, List.getElem?_eq_getElem hk] at hx
    cases hx
    rw [List.drop_eq_getElem_cons hk, firstF] at e
    simp [l1_first_from, pairD, max_ifS]
    by_cases c : x ≤ ps[k].2
    · rw [if_pos c] at e ⊢
      rw [e] at q
      exact .raw q
    · rw [if_neg c] at e ⊢
      exact hKn _ _ ⟨e, rfl, _, _, rfl⟩
  · rintro σ h' ⟨e, rfl, a, b, rfl⟩
    rw [List.length_map, List.drop_length] at e
    rw [e] at q
    exact .raw q
noncomputable def lastF : List (Int × Int) → Int → Option Int
  | [], _ => none
  | p :: r, x => if p.1 ≤ x then some (min p.2 x) else lastF r x
theorem last_to_ok {P n} (hf : P.fns "last_to" = some c_last_to) (ps : List (Int × Int)) (x : Int) {h Q X} (q : Q (optS (lastF ps.reverse x)) h) : (Gn P (n+1)).fn "last_to" [.tup (ps.map pairD), .int x] h Q X := by
  refine ⟨_, hf, rfl, ?_⟩
  simp [c_last_to]
  rw [← List.map_reverse]
  generalize ps.reverse = rs at q
  refine FL_list (fun k σ h' => lastF rs x = lastF (rs.drop k) x ∧ h' = h ∧ ∃ a b, σ = [some (.tup (ps.map pairD)), some (.int x), a, b]) ⟨rfl, rfl, _, _, rfl⟩ (fun _ _ _ _ _ => trivial) ?_ ?_
  · rintro k y σ h' hx hk ⟨e, rfl, a, b, rfl⟩ Kn hKn
    rw [List.length_map] at hk
    rw [List.getElem?_map, List.getElem?_eq_getElem hk] at hx
    cases hx
    rw [List.drop_eq_getElem_cons hk, lastF] at e
    simp [l1_last_to, pairD, min_ifS]
    by_cases c : rs[k].1 ≤ x
    · rw [if_pos c] at e ⊢
      rw [e] at q
      exact .raw q
    · rw [if_neg c] at e ⊢
      exact hKn _ _ ⟨e, rfl, _, _, rfl⟩
  · rintro σ h' ⟨e, rfl, a, b, rfl⟩
    rw [List.length_map, List.drop_length] at e
    rw [e] at q
    exact .raw q
theorem firstF_min : ∀ {ps : List (Int × Int)} {x : Int}, Good ps → (firstF ps x = none → ∀ p ∈ ps, ¬ x ≤ p.2) ∧ ∀ v, firstF ps x = some v → (∃ p ∈ ps, x ≤ p.2 ∧ v = max p.1 x) ∧ ∀ p ∈ ps, x ≤ p.2 → v ≤ max p.1 x
  | [], x, _ => ⟨fun _ p hp => (nomatch hp), fun v h => (nomatch h)⟩
  | p :: r, x, hg => by
    have hr : Good r := ⟨List.Pairwise.of_cons hg.1, fun q hq => hg.2 q (List.mem_cons_of_mem _ hq)⟩
    obtain ⟨i1, i2⟩ := firstF_min (x := x) hr
    rw [firstF]
    by_cases c : x ≤ p.2
    · rw [if_pos c]
      refine ⟨fun h => (nomatch h), fun v h => ?_⟩
      cases h
      refine ⟨⟨p, by simp, c, rfl⟩, fun q hq hq2 => ?_⟩
      rcases List.mem_cons.mp hq with rfl | hq
      · exact Int.le_refl _
      · have := List.rel_of_pairwise_cons hg.1 hq
        have := hg.2 p (by simp)
        omega
    · rw [if_neg c]
      refine ⟨fun h q hq => ?_, fun v h => ?_⟩
      · rcases List.mem_cons.mp hq with rfl | hq
        · exact c
        · exact i1 h q hq
      · obtain ⟨⟨q, hq, j1, j2⟩, j3⟩ := i2 v h
        refine ⟨⟨q, List.mem_cons_of_mem _ hq, j1, j2⟩, fun y hy hy2 => ?_⟩
        rcases List.mem_cons.mp hy with rfl | hy
        · exact absurd hy2 c
        · exact j3 y hy hy2
theorem lastF_max : ∀ {ps : List (Int × Int)} {x : Int}, ps.Pairwise (fun a b => b.2 + 2 ≤ a.1) → (∀ p ∈ ps, p.1 ≤ p.2) → (lastF ps x = none → ∀ p ∈ ps, ¬ p.1 ≤ x) ∧ ∀ v, lastF ps x = some v → (∃ p ∈ ps, p.1 ≤ x ∧ v = min p.2 x) ∧ ∀ p ∈ ps, p.1 ≤ x → min p.2 x ≤ v
  | [], x, _, _ => ⟨fun _ p hp => (nomatch hp), fun v h => (nomatch h)⟩
  | p :: r, x, hg, hw => by
    obtain ⟨i1, i2⟩ := lastF_max (x := x) (List.Pairwise.of_cons hg) fun q hq => hw q (List.mem_cons_of_mem _ hq)
    rw [lastF]
    by_cases c : p.1 ≤ x
    · rw [if_pos c]
      refine ⟨fun h => (nomatch h), fun v h => ?_⟩
      cases h
      refine ⟨⟨p, by simp, c, rfl⟩, fun q hq hq2 => ?_⟩
      rcases List.mem_cons.mp hq with rfl | hq
      · exact Int.le_refl _
      · have := List.rel_of_pairwise_cons hg hq
        have := hw p (by simp)
        omega
    · rw [if_neg c]
      refine ⟨fun h q hq => ?_, fun v h => ?_⟩
      · rcases List.mem_cons.mp hq with rfl | hq
        · exact c
        · exact i1 h q hq
      · obtain ⟨⟨q, hq, j1, j2⟩, j3⟩ := i2 v h
        refine ⟨⟨q, List.mem_cons_of_mem _ hq, j1, j2⟩, fun y hy hy2 => ?_⟩
        rcases List.mem_cons.mp hy with rfl | hy
        · exact absurd hy2 c
        · exact j3 y hy hy2
/-- what min or max with default=None gives is the one that is wanted -/
theorem md_is {mx : Bool} {ns : List Int} {o : Option Int} {h : Hd} {Q : DK} (h0 : o = none → ns = []) (h1 : ∀ v, o = some v → v ∈ ns ∧ ∀ y, y ∈ ns → if mx = true then y ≤ v else v ≤ y) (q : Q (optS o) h) : mdW mx (.vl (ns.map D.int)) h Q := by
  refine ⟨_, ns, rdL_vl _ _, intsD_map ns, fun e => ?_, fun k hk hb => ?_⟩
  · cases o with
    | none => exact q
    | some v =>
      rw [e] at h1
      exact absurd (h1 v rfl).1 (by simp)
  · cases o with
    | none =>
      rw [h0 rfl] at hk
      cases hk
    | some v =>
      obtain ⟨g1, g2⟩ := h1 v rfl
      have a := g2 k hk
      have b := hb v g1
      have : k = v := by
        cases mx with
        | true =>
          rw [if_pos rfl] at a b
          omega
        | false =>
          rw [if_neg (by decide)] at a b
          omega
      rw [this]
      exact q
end Vd

set_option Elab.async false
set_option linter.all false
set_option maxRecDepth 100000
namespace Vd
open PySem
/-! both: slots 0 one 1 other 2 told 3 at 4 to 5 low 6 high -/
noncomputable def l1_both : Ss := (
  .cons (.set (.nm 5) (.bi "max" false (.cons (.idx (.idx (.var 0) (.var 3)) (.int 0)) (.cons (.idx (.idx (.var 1) (.var 4)) (.int 0)) .nil)))) <| 
  .cons (.set (.nm 6) (.bi "min" false (.cons (.idx (.idx (.var 0) (.var 3)) (.int 1)) (.cons (.idx (.idx (.var 1) (.var 4)) (.int 1)) .nil)))) <| 
  .cons (.ite (.cmp .le (.var 5) (.var 6)) (
    .cons (.ex (.bm "append" (.var 2) (.cons (.tup (.cons (.var 5) (.cons (.var 6) .nil))) .nil))) <| .nil) .nil) <| 
  .cons (.ite (.cmp .lt (.idx (.idx (.var 0) (.var 3)) (.int 1)) (.idx (.idx (.var 1) (.var 4)) (.int 1))) (
    .cons (.aug 3 .add (.int 1)) <| .nil) (
    .cons (.aug 4 .add (.int 1)) <| .nil)) <| .nil)
noncomputable def c_both : Fn := ⟨7, ["one", "other"], (
  .cons (.set (.nm 2) (.lst true .nil)) <| 
  .cons (.set (.nm 3) (.int 0)) <| 
  .cons (.set (.nm 4) (.int 0)) <| 
  .cons (.whl (.and (.cons (.cmp .lt (.var 3) (.bi "len" false (.cons (.var 0) .nil))) (.cons (.cmp .lt (.var 4) (.bi "len" false (.cons (.var 1) .nil))) .nil))) l1_both) <| 
  .cons (.ret (.bi "tuple" false (.cons (.var 2) .nil))) <| .nil)⟩
/-! either: slots 0 one 1 other -/
noncomputable def c_either : Fn := ⟨2, ["one", "other"], (
  .cons (.ret (.call "tidy" (.cons (.bin false .add (.bi "list" false (.cons (.var 0) .nil)) (.bi "list" false (.cons (.var 1) .nil))) .nil))) <| .nil)⟩
/-! without: slots 0 one 1 other 2 told 3 low 4 high 5 begin 6 gone_low 7 gone_high -/
noncomputable def l1_without : Ss := (
  .cons (.ite (.and (.cons (.cmp .le (.var 6) (.var 4)) (.cons (.cmp .ge (.var 7) (.var 5)) .nil))) (
    .cons (.ite (.cmp .gt (.var 6) (.var 5)) (
      .cons (.ex (.bm "append" (.var 2) (.cons (.tup (.cons (.var 5) (.cons (.bin false .sub (.var 6) (.int 1)) .nil))) .nil))) <| .nil) .nil) <| 
    .cons (.set (.nm 5) (.bin false .add (.var 7) (.int 1))) <| .nil) .nil) <| .nil)
noncomputable def l2_without : Ss := (
  .cons (.set (.nm 5) (.var 3)) <| 
  .cons (.fr (.tp [6, 7]) (.val (.var 1)) l1_without) <| 
  .cons (.ite (.cmp .le (.var 5) (.var 4)) (
    .cons (.ex (.bm "append" (.var 2) (.cons (.tup (.cons (.var 5) (.cons (.var 4) .nil))) .nil))) <| .nil) .nil) <| .nil)
noncomputable def c_without : Fn := ⟨8, ["one", "other"], (
  .cons (.set (.nm 2) (.lst true .nil)) <| 
  .cons (.fr (.tp [3, 4]) (.val (.var 0)) l2_without) <| 
  .cons (.ret (.bi "tuple" false (.cons (.var 2) .nil))) <| .nil)⟩
/-! law: slots 0 script 1 numbers 2 scale 3 one 4 other 5 told 6 hour 7 mine 8 yours 9 k 10 found -/
theorem atP {ps : List (Int × Int)} {k : Nat} (hk : k < ps.length) : L2.atI (ps.map pairD) (k : Int) = some (.tup [.int ps[k].1, .int ps[k].2]) := by
  rw [atI_ge (by omega), List.getElem?_map, show ((k : Int)).toNat = k by omega, List.getElem?_eq_getElem hk]; rfl
theorem good_drop {os : List (Int × Int)} (h : Good os) {k : Nat} (hk : k < os.length) : ∀ o ∈ os.drop (k + 1), os[k].2 + 2 ≤ o.1 := by
  have hp : (os.drop k).Pairwise _ := h.1.sublist (List.drop_sublist _ _)
  rw [List.drop_eq_getElem_cons hk] at hp
  exact (List.pairwise_cons.mp hp).1
theorem inB_cons (p : Int × Int) (ps : List (Int × Int)) (x : Int) : inB (p :: ps) x = (decide (p.1 ≤ x) && decide (x ≤ p.2) || inB ps x) := by unfold inB; rw [List.any_cons]
theorem inB_far {ps : List (Int × Int)} {x b : Int} (h : ∀ p ∈ ps, b ≤ p.1) (hx : x < b) : inB ps x = false := by
  cases e : inB ps x with
  | false => rfl
  | true =>
    obtain ⟨p, hp, h1, h2⟩ := inB_iff.mp e
    have := h p hp
    omega
theorem good_app {rs : List (Int × Int)} {lo hi : Int} (h : Good rs) (hle : lo ≤ hi) (hg : ∀ r ∈ rs, r.2 + 2 ≤ lo) : Good (rs ++ [(lo, hi)]) := by
  refine ⟨List.pairwise_append.mpr ⟨h.1, by simp, fun p hp q hq => ?_⟩, fun p hp => ?_⟩
  · rw [List.mem_singleton.mp hq]; exact hg p hp
  · rcases List.mem_append.mp hp with h' | h'
    · exact h.2 p h'
    · rw [List.mem_singleton.mp h']; exact hle
structure Bth (os ts rs : List (Int × Int)) (a b : Nat) : Prop where
  la : a ≤ os.length
  lb : b ≤ ts.length
  good : Good rs
  same : ∀ x, (inB os x && inB ts x) = (inB rs x || (inB (os.drop a) x && inB (ts.drop b) x))
  gap : ∀ r ∈ rs, ∀ o ∈ os.drop a, ∀ t ∈ ts.drop b, r.2 + 2 ≤ o.1 ∨ r.2 + 2 ≤ t.1
  len : rs.length ≤ a + b
theorem bth_step {os ts rs : List (Int × Int)} {a b : Nat} (ho : Good os) (ht : Good ts) (T : Bth os ts rs a b) (ha : a < os.length) (hb : b < ts.length) (lo hi : Int) (hlo : lo = if ts[b].1 > os[a].1 then ts[b].1 else os[a].1) (hhi : hi = if ts[b].2 < os[a].2 then ts[b].2 else os[a].2)
    (rs' : List (Int × Int)) (hrs : rs' = if lo ≤ hi then rs ++ [(lo, hi)] else rs) : (os[a].2 < ts[b].2 → Bth os ts rs' (a + 1) b) ∧ (¬ os[a].2 < ts[b].2 → Bth os ts rs' a (b + 1)) := by
  have da : os.drop a = os[a] :: os.drop (a + 1) := List.drop_eq_getElem_cons ha
  have db : ts.drop b = ts[b] :: ts.drop (b + 1) := List.drop_eq_getElem_cons hb
  have ga := good_drop ho ha
  have gb := good_drop ht hb
  have la := ho.2 _ (List.getElem_mem ha)
  have lb := ht.2 _ (List.getElem_mem hb)
  have hgap : ∀ r ∈ rs, r.2 + 2 ≤ lo := fun r hr => by
    have := T.gap r hr os[a] (by rw [da]; exact .head _) ts[b] (by rw [db]; exact .head _)
    rw [hlo]; split <;> omega
  have hlo' : os[a].1 ≤ lo ∧ ts[b].1 ≤ lo ∧ (lo = os[a].1 ∨ lo = ts[b].1) := by rw [hlo]; split <;> omega
  have hhi' : hi ≤ os[a].2 ∧ hi ≤ ts[b].2 ∧ (hi = os[a].2 ∨ hi = ts[b].2) := by rw [hhi]; split <;> omega
  have hgood : Good rs' := by
    rw [hrs]; split
    · rename_i h; exact good_app T.good h hgap
    · exact T.good
  have hlen : rs'.length ≤ a + b + 1 := by
    rw [hrs]; have := T.len; split
    · rw [List.length_append]; simp; omega
    · omega
  have hmem : ∀ r ∈ rs', r ∈ rs ∨ (r = (lo, hi)) := by
    intro r hr
    rw [hrs] at hr; split at hr
    · rcases List.mem_append.mp hr with h | h
      · exact .inl h
      · exact .inr (List.mem_singleton.mp h)
    · exact .inl hr
  have hin : ∀ x, inB rs' x = (inB rs x || (decide (os[a].1 ≤ x) && decide (x ≤ os[a].2) && (decide (ts[b].1 ≤ x) && decide (x ≤ ts[b].2)))) := by
    intro x
    rw [hrs]; split
    · rw [inB_app, inB_one]
      congr 1
      rw [Bool.eq_iff_iff]
      simp only [Bool.and_eq_true, decide_eq_true_eq]
      omega
    · rw [Bool.eq_iff_iff]
      simp only [Bool.and_eq_true, Bool.or_eq_true, decide_eq_true_eq]
      constructor
      · exact .inl
      · rintro (h | h)
        · exact h
        · omega
  constructor
  · intro hlt
    refine ⟨by omega, T.lb, hgood, fun x => ?_, fun r hr o hoo t htt => ?_, by omega⟩
    · rw [T.same, hin, da, db, inB_cons, inB_cons, Bool.or_assoc]
      congr 1
      by_cases hx : x ≤ os[a].2
      · rw [inB_far gb (show x < ts[b].2 + 2 by omega), inB_far ga (show x < os[a].2 + 2 by omega)]
        simp
      · simp [hx]
    · rcases hmem r hr with h | h
      · exact T.gap r h o (by rw [da]; exact List.mem_cons_of_mem _ hoo) t htt
      · have := ga o hoo
        left; rw [h]; show hi + 2 ≤ o.1; omega
  · intro hlt
    refine ⟨T.la, by omega, hgood, fun x => ?_, fun r hr o hoo t htt => ?_, by omega⟩
    · rw [T.same, hin, da, db, inB_cons, inB_cons, Bool.or_assoc]
      congr 1
      by_cases hx : x ≤ ts[b].2
      · rw [inB_far gb (show x < ts[b].2 + 2 by omega), inB_far ga (show x < os[a].2 + 2 by omega)]
        simp
      · simp [hx]
    · rcases hmem r hr with h | h
      · exact T.gap r h o hoo t (by rw [db]; exact List.mem_cons_of_mem _ htt)
      · have := gb t htt
        right; rw [h]; show hi + 2 ≤ t.1; omega
theorem both_ok {P n} (hf : P.fns "both" = some c_both) (os ts : List (Int × Int)) (ho : Good os) (ht : Good ts) (hl : os.length ≤ 100000) (hl2 : ts.length ≤ 100000) {h Q X} (q : ∀ rs : List (Int × Int), Good rs → (∀ x, inB rs x = (inB os x && inB ts x)) → rs.length ≤ os.length + ts.length → Q (.tup (rs.map pairD)) h) : (Gn P (n+1)).fn "both" [.tup (os.map pairD), .tup (ts.map pairD)] h Q X := by
  refine ⟨_, hf, rfl, ?_⟩
  simp [c_both]
  refine WL_ind (fun σ h' => ∃ (rs : List (Int × Int)) (a b : Nat) (u v : Option D), h' = h ++ [.lst (rs.map pairD)] ∧ Bth os ts rs a b ∧ σ = [some (.tup (os.map pairD)), some (.tup (ts.map pairD)), some (.ref h.length), some (.int a), some (.int b), u, v])
    (fun σ _ => match σ with | [_, _, _, some (.int a), some (.int b), _, _] => (os.length + ts.length - (a + b).toNat) | _ => 0) ?_ ⟨[], 0, 0, _, _, rfl, ⟨by omega, by omega, ⟨.nil, by simp⟩, fun x => by simp [inB], by simp, by simp⟩, rfl⟩
  rintro σ h' ⟨rs, a, b, u, v, rfl, T, rfl⟩ Kn hKn
  have hal := T.la
  have hbl := T.lb
  have hrl := T.len
  simp
  have stop : (∀ x, (inB (os.drop a) x && inB (ts.drop b) x) = false) → Exit h (D.tup (List.map pairD rs)) (h ++ [Ob.lst (List.map pairD rs)]) Q := fun hz =>
    .pure (.tup (fzs_pairs rs)) (List.prefix_append _ _) (q rs T.good (fun x => by rw [T.same, hz, Bool.or_false]) (by omega))
  split
  · rename_i ha
    split
    · rename_i hb
      have e1 := atP ha
      have e2 := atP hb
      simp [l1_both, e1, e2]
      have key : ∀ (rs' : List (Int × Int)) (u v : Option D), (os[a].2 < ts[b].2 → Bth os ts rs' (a + 1) b) → (¬ os[a].2 < ts[b].2 → Bth os ts rs' a (b + 1)) →
          if os[a].2 < ts[b].2 then Kn [some (.tup (os.map pairD)), some (.tup (ts.map pairD)), some (.ref h.length), some (.int ((a : Int) + 1)), some (.int b), u, v] (h ++ [.lst (rs'.map pairD)])
          else Kn [some (.tup (os.map pairD)), some (.tup (ts.map pairD)), some (.ref h.length), some (.int a), some (.int ((b : Int) + 1)), u, v] (h ++ [.lst (rs'.map pairD)]) := by
        intro rs' u v t1 t2
        split
        · rename_i hc
          refine hKn _ _ ⟨rs', a + 1, b, u, v, rfl, t1 hc, rfl⟩ ?_
          show os.length + ts.length - ((a : Int) + 1 + b).toNat < os.length + ts.length - ((a : Int) + b).toNat
          omega
        · rename_i hc
          refine hKn _ _ ⟨rs', a, b + 1, u, v, rfl, t2 hc, rfl⟩ ?_
          show os.length + ts.length - ((a : Int) + ((b : Int) + 1)).toNat < os.length + ts.length - ((a : Int) + b).toNat
          omega
      generalize hlo : (if os[a].fst < ts[b].fst then ts[b].fst else os[a].fst) = lo
      generalize hhi : (if ts[b].snd < os[a].snd then ts[b].snd else os[a].snd) = hi
      split
      · rename_i hc
        have hb' := bth_step ho ht T ha hb lo hi hlo.symm hhi.symm (rs ++ [(lo, hi)]) (by rw [if_pos hc])
        have k := key (rs ++ [(lo, hi)]) (some (.int lo)) (some (.int hi)) hb'.1 hb'.2
        rw [List.map_append] at k
        exact ⟨by omega, k⟩
      · rename_i hc
        have hb' := bth_step ho ht T ha hb lo hi hlo.symm hhi.symm rs (by rw [if_neg hc])
        exact key rs (some (.int lo)) (some (.int hi)) hb'.1 hb'.2
    · exact stop fun x => by rw [List.drop_eq_nil_of_le (show ts.length ≤ b by omega)]; simp [inB]
  · exact stop fun x => by rw [List.drop_eq_nil_of_le (show os.length ≤ a by omega)]; simp [inB]
theorem either_ok {P n} (hf : P.fns "either" = some c_either) (h1 : P.fns "tidy" = some c_tidy) (os ts : List (Int × Int)) (ho : Good os) (ht : Good ts) (hl : os.length ≤ 10000) (hl2 : ts.length ≤ 10000) {h Q X} (q : ∀ rs : List (Int × Int), Good rs → (∀ x, inB rs x = (inB os x || inB ts x)) → rs.length ≤ os.length + ts.length → Q (.tup (rs.map pairD)) h) : (Gn P (n+2)).fn "either" [.tup (os.map pairD), .tup (ts.map pairD)] h Q X := by
  refine ⟨_, hf, rfl, ?_⟩
  simp [c_either, h1]
  repeat refine And.intro (by omega) ?_
  rw [← List.map_append]
  refine tidy_ok h1 (os ++ ts) (by rw [List.length_append]; omega) fun rs hg hs hlen => .raw (q rs hg (fun x => by rw [hs, inB_app]) (by rw [List.length_append] at hlen; omega))
structure Wto (os ts rs : List (Int × Int)) (k : Nat) : Prop where
  good : Good rs
  same : ∀ x, inB rs x = (inB (os.take k) x && !inB ts x)
  gap : ∀ r ∈ rs, ∀ o ∈ os.drop k, r.2 + 2 ≤ o.1
  len : rs.length ≤ k * (ts.length + 1)
structure Wti (os ts rs : List (Int × Int)) (k : Nat) (lo hi b : Int) (j : Nat) : Prop where
  good : Good rs
  same : ∀ x, inB rs x = (inB (os.take k) x && !inB ts x || (decide (lo ≤ x) && decide (x ≤ hi) && decide (x < b) && !inB ts x))
  gap : ∀ r ∈ rs, ∀ o ∈ os.drop (k + 1), r.2 + 2 ≤ o.1
  beg : ∀ r ∈ rs, r.2 + 2 ≤ b
  lob : lo ≤ b
  past : ∀ t ∈ ts.take j, t.2 < b ∨ hi < t.1
  len : rs.length ≤ k * (ts.length + 1) + j
theorem wti_step {os ts rs : List (Int × Int)} {k : Nat} {lo hi b : Int} {j : Nat} (ht : Good ts) (hgo : ∀ o ∈ os.drop (k + 1), hi + 2 ≤ o.1) (Z : Wti os ts rs k lo hi b j) (hj : j < ts.length) : (ts[j].1 ≤ hi ∧ b ≤ ts[j].2 → Wti os ts (if ts[j].1 > b then rs ++ [(b, ts[j].1 - 1)] else rs) k lo hi (ts[j].2 + 1) (j + 1)) ∧ (¬ (ts[j].1 ≤ hi ∧ b ≤ ts[j].2) → Wti os ts rs k lo hi b (j + 1)) := by
  have lj := ht.2 _ (List.getElem_mem hj)
  have tk : ts.take (j + 1) = ts.take j ++ [ts[j]] := take_s hj
  have gj := good_drop ht hj
  constructor
  · rintro ⟨c1, c2⟩
    have hsplit : ∀ x, inB ts x = (inB (ts.take j) x || ((decide (ts[j].1 ≤ x) && decide (x ≤ ts[j].2)) || inB (ts.drop (j + 1)) x)) := fun x => by
      conv => lhs; rw [← List.take_append_drop j ts]
      rw [inB_app, List.drop_eq_getElem_cons hj, inB_cons]
    have htake : ∀ x, b ≤ x → x ≤ hi → inB (ts.take j) x = false := fun x h1 h2 => by
      cases e : inB (ts.take j) x with
      | false => rfl
      | true =>
        obtain ⟨p, hp, h3, h4⟩ := inB_iff.mp e
        have := Z.past p hp
        omega
    have hrest : ∀ x, x < ts[j].2 + 2 → inB (ts.drop (j + 1)) x = false := fun x hx => inB_far gj hx
    have hmem : ∀ r ∈ (if ts[j].1 > b then rs ++ [(b, ts[j].1 - 1)] else rs), r ∈ rs ∨ (ts[j].1 > b ∧ r = (b, ts[j].1 - 1)) := fun r hr => by
      split at hr
      · rename_i h
        rcases List.mem_append.mp hr with h' | h'
        · exact .inl h'
        · exact .inr ⟨h, List.mem_singleton.mp h'⟩
      · exact .inl hr
    refine ⟨?_, fun x => ?_, fun r hr o ho => ?_, fun r hr => ?_, by have := Z.lob; omega, fun t htt => ?_, ?_⟩
    · split
      · rename_i h; exact good_app Z.good (by omega) Z.beg
      · exact Z.good
    · have hlo := Z.lob
      have e1 : inB (if ts[j].1 > b then rs ++ [(b, ts[j].1 - 1)] else rs) x = (inB rs x || (decide (b ≤ x) && decide (x < ts[j].1))) := by
        split
        · rw [inB_app, inB_one]
          congr 2
          rw [decide_eq_decide]
          show x ≤ ts[j].1 - 1 ↔ _
          omega
        · rw [Bool.eq_iff_iff]
          simp only [Bool.or_eq_true, Bool.and_eq_true, decide_eq_true_eq]
          constructor
          · exact .inl
          · rintro (h | h)
            · exact h
            · omega
      rw [e1, Z.same, Bool.or_assoc]
      congr 1
      by_cases h1 : lo ≤ x ∧ x ≤ hi ∧ b ≤ x
      · by_cases h2 : x ≤ ts[j].2
        · have e2 : inB ts x = decide (ts[j].1 ≤ x) := by
            rw [hsplit, htake x h1.2.2 h1.2.1, hrest x (by omega)]
            simp [h2]
          rw [e2, Bool.eq_iff_iff]
          simp only [Bool.or_eq_true, Bool.and_eq_true, decide_eq_true_eq, Bool.not_eq_true', decide_eq_false_iff_not]
          omega
        · rw [decide_eq_false (show ¬ x < b by omega), decide_eq_false (show ¬ x < ts[j].1 by omega), decide_eq_false (show ¬ x < ts[j].2 + 1 by omega)]
          simp
      · rw [Bool.eq_iff_iff]
        simp only [Bool.or_eq_true, Bool.and_eq_true, decide_eq_true_eq, Bool.not_eq_true']
        constructor
        · rintro (⟨⟨⟨h2, h3⟩, h4⟩, h5⟩ | ⟨h2, h3⟩)
          · exact ⟨⟨⟨h2, h3⟩, by omega⟩, h5⟩
          · omega
        · rintro ⟨⟨⟨h2, h3⟩, h4⟩, h5⟩
          exact .inl ⟨⟨⟨h2, h3⟩, by omega⟩, h5⟩
    · rcases hmem r hr with h | ⟨h, e⟩
      · exact Z.gap r h o ho
      · have := hgo o ho
        rw [e]; show ts[j].1 - 1 + 2 ≤ o.1; omega
    · rcases hmem r hr with h | ⟨h, e⟩
      · have := Z.beg r h; omega
      · rw [e]; show ts[j].1 - 1 + 2 ≤ ts[j].2 + 1; omega
    · rw [tk] at htt
      rcases List.mem_append.mp htt with h | h
      · have := Z.past t h; omega
      · rw [List.mem_singleton.mp h]; omega
    · have := Z.len
      split
      · rw [List.length_append]; simp; omega
      · omega
  · intro hc
    refine ⟨Z.good, Z.same, Z.gap, Z.beg, Z.lob, fun t htt => ?_, by have := Z.len; omega⟩
    rw [tk] at htt
    rcases List.mem_append.mp htt with h | h
    · exact Z.past t h
    · rw [List.mem_singleton.mp h]; omega
theorem without_ok {P n} (hf : P.fns "without" = some c_without) (os ts : List (Int × Int)) (ho : Good os) (ht : Good ts) (hl : os.length ≤ 1000) (hl2 : ts.length ≤ 1000) {h Q X} (q : ∀ rs : List (Int × Int), Good rs → (∀ x, inB rs x = (inB os x && !inB ts x)) → rs.length ≤ os.length * (ts.length + 1) → Q (.tup (rs.map pairD)) h) : (Gn P (n+1)).fn "without" [.tup (os.map pairD), .tup (ts.map pairD)] h Q X := by
  refine ⟨_, hf, rfl, ?_⟩
  simp [c_without]
  refine FL_list (fun k σ h' => ∃ (rs : List (Int × Int)) (a b c d e : Option D), h' = h ++ [.lst (rs.map pairD)] ∧ Wto os ts rs k ∧ σ = [some (.tup (os.map pairD)), some (.tup (ts.map pairD)), some (.ref h.length), a, b, c, d, e])
    ⟨[], _, _, _, _, _, rfl, ⟨⟨.nil, by simp⟩, fun x => by simp [inB], by simp, by simp⟩, rfl⟩ (fun _ _ _ _ _ => trivial) ?_ ?_
  · rintro k x σ h' hx hk ⟨rs, a, b, c, d, e, rfl, T, rfl⟩ Kn hKn
    rw [List.length_map] at hk
    rw [List.getElem?_map, List.getElem?_eq_getElem hk] at hx
    cases hx
    have gk := good_drop ho hk
    have lk := ho.2 _ (List.getElem_mem hk)
    have hkt : k * (ts.length + 1) + (ts.length + 1) ≤ 1000 * 1001 := by
      have h1 : (k + 1) * (ts.length + 1) ≤ 1000 * 1001 := Nat.mul_le_mul (by omega) (by omega)
      rw [Nat.succ_mul] at h1; exact h1
    have hadd : (k + 1) * (ts.length + 1) = k * (ts.length + 1) + (ts.length + 1) := Nat.succ_mul _ _
    simp [l2_without, pairD]
    refine FL_list (fun j σ h' => ∃ (rs : List (Int × Int)) (b : Int) (d e : Option D), h' = h ++ [.lst (rs.map pairD)] ∧ Wti os ts rs k os[k].1 os[k].2 b j ∧ σ = [some (.tup (os.map pairD)), some (.tup (ts.map pairD)), some (.ref h.length), some (.int os[k].1), some (.int os[k].2), some (.int b), d, e])
      ⟨rs, os[k].1, _, _, rfl, ⟨T.good, fun x => ?_, fun r hr o hoo => T.gap r hr o (by rw [List.drop_eq_getElem_cons hk]; exact List.mem_cons_of_mem _ hoo), fun r hr => T.gap r hr _ (by rw [List.drop_eq_getElem_cons hk]; exact .head _), Int.le_refl _, by simp, by have := T.len; omega⟩, rfl⟩ (fun _ _ _ _ _ => trivial) ?_ ?_
    · rw [T.same, Bool.eq_iff_iff]
      simp only [Bool.or_eq_true, Bool.and_eq_true, decide_eq_true_eq, Bool.not_eq_true']
      constructor
      · exact .inl
      · rintro (h | h)
        · exact h
        · omega
    · rintro j x σ h' hx hj ⟨rs, b, d, e, rfl, Z, rfl⟩ Kn2 hKn2
      rw [List.length_map] at hj
      rw [List.getElem?_map, List.getElem?_eq_getElem hj] at hx
      cases hx
      obtain ⟨s1, s2⟩ := wti_step ht gk Z hj
      have hzl := Z.len
      simp [l1_without, pairD]
      split
      · rename_i c1
        split
        · rename_i c2
          have S := s1 ⟨c1, c2⟩
          split
          · rename_i c3
            rw [if_pos (show ts[j].1 > b from c3)] at S
            exact ⟨by omega, hKn2 _ _ ⟨rs ++ [(b, ts[j].1 - 1)], _, _, _, by rw [List.map_append]; rfl, S, rfl⟩⟩
          · rename_i c3
            rw [if_neg (show ¬ ts[j].1 > b from c3)] at S
            exact hKn2 _ _ ⟨rs, _, _, _, rfl, S, rfl⟩
        · rename_i c2
          exact hKn2 _ _ ⟨rs, _, _, _, rfl, s2 (fun x => c2 x.2), rfl⟩
      · rename_i c1
        exact hKn2 _ _ ⟨rs, _, _, _, rfl, s2 (fun x => c1 x.1), rfl⟩
    · rintro σ h' ⟨rs, b, d, e, rfl, Z, rfl⟩
      rw [List.length_map] at Z
      have hzl := Z.len
      have hpast := Z.past
      rw [List.take_length] at hpast
      have noT : ∀ x, b ≤ x → x ≤ os[k].2 → inB ts x = false := fun x h1 h2 => by
        cases e : inB ts x with
        | false => rfl
        | true =>
          obtain ⟨p, hp, h3, h4⟩ := inB_iff.mp e
          have := hpast p hp
          omega
      have hlb := Z.lob
      simp
      split
      · rename_i c1
        refine ⟨by omega, hKn _ _ ⟨rs ++ [(b, os[k].2)], _, _, _, _, _, by rw [List.map_append]; rfl, ⟨good_app Z.good c1 Z.beg, fun x => ?_, fun r hr o hoo => ?_, by rw [List.length_append]; simp; omega⟩, rfl⟩⟩
        · rw [take_s hk, inB_app, inB_app, inB_one, inB_one, Z.same]
          have hT := noT x
          generalize inB (os.take k) x = A at *
          generalize inB ts x = B at *
          show (A && !B || (decide (os[k].1 ≤ x) && decide (x ≤ os[k].2) && decide (x < b) && !B) || (decide (b ≤ x) && decide (x ≤ os[k].2))) = _
          grind
        · rcases List.mem_append.mp hr with h | h
          · exact Z.gap r h o hoo
          · have := gk o hoo
            rw [List.mem_singleton.mp h]; exact this
      · rename_i c1
        refine hKn _ _ ⟨rs, _, _, _, _, _, rfl, ⟨Z.good, fun x => ?_, Z.gap, by omega⟩, rfl⟩
        rw [take_s hk, inB_app, inB_one, Z.same]
        generalize inB (os.take k) x = A at *
        generalize inB ts x = B at *
        grind
  · rintro σ h' ⟨rs, a, b, c, d, e, rfl, T, rfl⟩
    rw [List.length_map] at T
    have hs := T.same
    rw [List.take_length] at hs
    simp
    exact .pure (.tup (fzs_pairs rs)) (List.prefix_append _ _) (q rs T.good hs T.len)
end Vd

set_option Elab.async false
set_option linter.all false
set_option maxRecDepth 100000
/-! k30 -/
namespace Vd
open PySem
/-! law: slots 0 script 1 numbers 2 scale 3 one 4 two 5 three 6 turn 7 k -/
theorem good_tail {p : Int × Int} {ps : List (Int × Int)} (h : Good (p :: ps)) : Good ps ∧ p.1 ≤ p.2 ∧ ∀ q ∈ ps, p.2 + 2 ≤ q.1 :=
  ⟨⟨(List.pairwise_cons.mp h.1).2, fun q hq => h.2 q (List.mem_cons_of_mem _ hq)⟩, h.2 p (by simp), (List.pairwise_cons.mp h.1).1⟩
theorem good_eq : ∀ {ps qs : List (Int × Int)}, Good ps → Good qs → (∀ x, inB ps x = inB qs x) → ps = qs
  | [], [], _, _, _ => rfl
  | [], q :: qs, _, hq, h => by
    have := h q.1
    rw [inB_cons] at this
    have := (good_tail hq).2.1
    simp [inB] at *
    omega
  | p :: ps, [], hp, _, h => by
    have := h p.1
    rw [inB_cons] at this
    have := (good_tail hp).2.1
    simp [inB] at *
    omega
  | p :: ps, q :: qs, hp, hq, h => by
    obtain ⟨p1, p2, p3⟩ := good_tail hp
    obtain ⟨q1, q2, q3⟩ := good_tail hq
    have farp : ∀ x, x ≤ p.2 + 1 → inB ps x = false := fun x hx => inB_far p3 (by omega)
    have farq : ∀ x, x ≤ q.2 + 1 → inB qs x = false := fun x hx => inB_far q3 (by omega)
    have hx : ∀ x, x ≤ p.2 + 1 → x ≤ q.2 + 1 → ((p.1 ≤ x ∧ x ≤ p.2) ↔ (q.1 ≤ x ∧ x ≤ q.2)) := fun x h1 h2 => by
      have := h x
      rw [inB_cons, inB_cons, farp x h1, farq x h2, Bool.or_false, Bool.or_false, Bool.eq_iff_iff] at this
      simpa using this
    have e1 : p.1 = q.1 := by
      rcases Int.lt_trichotomy p.1 q.1 with z | z | z
      · have := (hx p.1 (by omega) (by omega)).mp ⟨Int.le_refl _, p2⟩
        omega
      · exact z
      · have := (hx q.1 (by omega) (by omega)).mpr ⟨Int.le_refl _, q2⟩
        omega
    have e2 : p.2 = q.2 := by
      rcases Int.lt_trichotomy p.2 q.2 with z | z | z
      · have := (hx (p.2 + 1) (by omega) (by omega)).mpr ⟨by omega, by omega⟩
        omega
      · exact z
      · have := (hx (q.2 + 1) (by omega) (by omega)).mp ⟨by omega, by omega⟩
        omega
    have e : p = q := Prod.ext e1 e2
    subst e
    rw [good_eq p1 q1 fun x => ?_]
    have := h x
    rw [inB_cons, inB_cons] at this
    by_cases hx : x ≤ p.2 + 1
    · rw [farp x hx, farq x hx]
    · rw [show (decide (p.1 ≤ x) && decide (x ≤ p.2)) = false by simp; omega, Bool.false_or, Bool.false_or] at this
      exact this
/-- how many of N numbers from A on -/
noncomputable def cntF (f : Int → Bool) (A : Int) : Nat → Int
  | 0 => 0
  | n + 1 => cntF f A n + if f (A + n) then 1 else 0
theorem cntF_none {f : Int → Bool} {A : Int} : ∀ {n : Nat}, (∀ x, A ≤ x → x < A + n → f x = false) → cntF f A n = 0
  | 0, _ => rfl
  | n + 1, h => by
    rw [cntF, cntF_none fun x h1 h2 => h x h1 (by omega), h (A + n) (by omega) (by omega)]
    rfl
theorem cntF_int {A a b : Int} (hA : A ≤ a) (hab : a ≤ b) : ∀ {n : Nat}, cntF (fun x => decide (a ≤ x) && decide (x ≤ b)) A n = if A + n ≤ a then 0 else if A + n ≤ b + 1 then A + n - a else b - a + 1
  | 0 => by
    rw [if_pos (by omega)]; rfl
  | n + 1 => by
    rw [cntF, cntF_int hA hab]
    by_cases c1 : a ≤ A + n <;> by_cases c2 : A + n ≤ b <;> simp [c1, c2] <;> repeat' split <;> omega
theorem cntF_or {f g : Int → Bool} {A : Int} : ∀ {n : Nat}, (∀ x, f x = true → g x = false) → cntF (fun x => f x || g x) A n = cntF f A n + cntF g A n
  | 0, _ => rfl
  | n + 1, h => by
    rw [cntF, cntF, cntF, cntF_or h]
    have := h (A + n)
    cases e1 : f (A + n) <;> cases e2 : g (A + n) <;> simp [e1, e2] at this ⊢ <;> omega
theorem manyN_cons (p : Int × Int) (ps : List (Int × Int)) : manyN (p :: ps) = p.2 - p.1 + 1 + manyN ps := by
  unfold manyN; rw [List.map_cons, List.sum_cons]
theorem many_cnt {A : Int} {n : Nat} : ∀ {ps : List (Int × Int)}, Good ps → (∀ p ∈ ps, A ≤ p.1 ∧ p.2 < A + n) → manyN ps = cntF (inB ps) A n
  | [], _, _ => (cntF_none fun x _ _ => rfl).symm
  | p :: ps, hg, hb => by
    obtain ⟨g1, g2, g3⟩ := good_tail hg
    have hp := hb p (by simp)
    rw [manyN_cons, many_cnt g1 fun q hq => hb q (List.mem_cons_of_mem _ hq)]
    have e : inB (p :: ps) = fun x => (decide (p.1 ≤ x) && decide (x ≤ p.2)) || inB ps x := by
      funext x
      exact inB_cons p ps x
    rw [e, cntF_or fun x hx => inB_far g3 (by simp at hx; omega), cntF_int (by omega) g2, if_neg (by omega)]
    show p.2 - p.1 + 1 + cntF (inB ps) A n = (if A + (n : Int) ≤ p.2 + 1 then A + n - p.1 else p.2 - p.1 + 1) + cntF (inB ps) A n
    split <;> omega
theorem c_ne_same {ps qs : List (Int × Int)} (e : ps = qs) {h : Hd} {R : Bool → Prop} (q : R false) : cmpW .ne (.tup (ps.map pairD)) (.tup (qs.map pairD)) h R := by
  subst e
  rw [c_ne_tup]
  refine ⟨pl_pairs 14 ps, pl_pairs 14 ps, ?_⟩
  rw [deqs_pairs]
  exact q
end Vd

set_option Elab.async false
set_option linter.all false
set_option maxRecDepth 100000
namespace Vd
open PySem
/-! _law_runs: slots 0 marks 1 first 2 told 3 k -/
noncomputable def l1__law_runs : Ss := (
  .cons (.ite (.idx (.var 0) (.var 3)) (
    .cons (.ite (.and (.cons (.cmp .gt (.var 3) (.int 0)) (.cons (.idx (.var 0) (.bin false .sub (.var 3) (.int 1))) .nil))) (
      .cons (.sub (.var 2) (.neg (.int 1)) (.tup (.cons (.idx (.idx (.var 2) (.neg (.int 1))) (.int 0)) (.cons (.bin false .add (.var 1) (.var 3)) .nil)))) <| .nil) (
      .cons (.ex (.bm "append" (.var 2) (.cons (.tup (.cons (.bin false .add (.var 1) (.var 3)) (.cons (.bin false .add (.var 1) (.var 3)) .nil))) .nil))) <| .nil)) <| .nil) .nil) <| .nil)
noncomputable def c__law_runs : Fn := ⟨4, ["marks", "first"], (
  .cons (.set (.nm 2) (.lst true .nil)) <| 
  .cons (.fr (.nm 3) (.rng1 (.bi "len" false (.cons (.var 0) .nil))) l1__law_runs) <| 
  .cons (.ret (.bi "tuple" false (.cons (.var 2) .nil))) <| .nil)⟩
/-! _law_marks: slots 0 numbers 1 k 2 cell 3 j -/
noncomputable def c__law_marks : Fn := ⟨4, ["numbers", "k"], (
  .cons (.ret (.comp false (.cmp .eq (.call "_law_mix" (.cons (.var 2) (.cons (.var 1) (.cons (.int 2) .nil)))) (.int 1)) (.nm 2) (.val (.bin false .add (.var 0) (.comp false (.var 1) (.nm 3) (.rng1 (.bin false .sub (.int 40) (.bi "len" false (.cons (.var 0) .nil)))) .none [3]))) .none [2])) <| .nil)⟩
/-! _law_ways_good: slots 0 spans 1 marks 2 first 3 k 4 held 5 later 6 sooner 7 j 8 mark -/
noncomputable def l1__law_ways_good : Ss := (
  .cons (.set (.nm 4) (.and (.cons (.cmp .le (.int 0) (.var 3)) (.cons (.cmp .lt (.var 3) (.int 40)) (.cons (.idx (.var 1) (.var 3)) .nil))))) <| 
  .cons (.ite (.cmp .ne (.call "holds" (.cons (.var 0) (.cons (.bin false .add (.var 2) (.var 3)) .nil))) (.var 4)) (
    .cons (.ret (.bl false)) <| .nil) .nil) <| 
  .cons (.set (.nm 5) (.comp false (.bin false .add (.var 2) (.var 7)) (.nm 7) (.rng2 (.bi "max" false (.cons (.int 0) (.cons (.var 3) .nil))) (.int 40)) (.some (.idx (.var 1) (.var 7))) [7])) <| 
  .cons (.set (.nm 6) (.comp false (.bin false .add (.var 2) (.var 7)) (.nm 7) (.rng2 (.int 0) (.bi "min" false (.cons (.int 40) (.cons (.bin false .add (.var 3) (.int 1)) .nil)))) (.some (.idx (.var 1) (.var 7))) [7])) <| 
  .cons (.ite (.cmp .ne (.call "first_from" (.cons (.var 0) (.cons (.bin false .add (.var 2) (.var 3)) .nil))) (.mdef false (.var 5))) (
    .cons (.ret (.bl false)) <| .nil) .nil) <| 
  .cons (.ite (.cmp .ne (.call "last_to" (.cons (.var 0) (.cons (.bin false .add (.var 2) (.var 3)) .nil))) (.mdef true (.var 6))) (
    .cons (.ret (.bl false)) <| .nil) .nil) <| .nil)
noncomputable def c__law_ways_good : Fn := ⟨9, ["spans", "marks", "first"], (
  .cons (.fr (.nm 3) (.rng2 (.neg (.int 1)) (.int 41)) l1__law_ways_good) <| 
  .cons (.ret (.cmp .eq (.call "many" (.cons (.var 0) .nil)) (.bi "len" false (.cons (.comp false (.var 8) (.nm 8) (.val (.var 1)) (.some (.var 8)) [8]) .nil)))) <| .nil)⟩
/-! law: slots 0 script 1 first 2 numbers 3 one 4 other 5 mine 6 yours 7 pairs 8 k 9 left 10 right -/
noncomputable def c_law_k29 : Fn := ⟨11, ["script"], (
  .cons (.set (.nm 1) (.idx (.lst false (.cons (.int 0) (.cons (.bin false .sub (.bin false .mod (.call "_law_at" (.cons (.var 0) (.cons (.int 0) .nil))) (.bin false .pow (.int 10) (.int 50))) (.bin false .mul (.int 5) (.bin false .pow (.int 10) (.int 49)))) .nil))) (.call "_law_mix" (.cons (.call "_law_at" (.cons (.var 0) (.cons (.int 0) .nil))) (.cons (.int 0) (.cons (.int 2) .nil)))))) <| 
  .cons (.set (.nm 2) (.call "_law_folded" (.cons (.var 0) (.cons (.int 1) (.cons (.int 40) .nil))))) <| 
  .cons (.set (.nm 3) (.call "_law_marks" (.cons (.var 2) (.cons (.int 1) .nil)))) <| 
  .cons (.set (.nm 4) (.call "_law_marks" (.cons (.var 2) (.cons (.int 2) .nil)))) <| 
  .cons (.set (.nm 5) (.call "tidy" (.cons (.comp false (.tup (.cons (.bin false .add (.var 1) (.var 8)) (.cons (.bin false .add (.var 1) (.var 8)) .nil))) (.nm 8) (.rng1 (.int 40)) (.some (.idx (.var 3) (.var 8))) [8]) .nil))) <| 
  .cons (.set (.nm 6) (.call "tidy" (.cons (.comp false (.tup (.cons (.bin false .sub (.bin false .add (.var 1) (.int 39)) (.var 8)) (.cons (.bin false .sub (.bin false .add (.var 1) (.int 39)) (.var 8)) .nil))) (.nm 8) (.rng1 (.int 40)) (.some (.idx (.var 4) (.bin false .sub (.int 39) (.var 8)))) [8]) .nil))) <| 
  .cons (.ite (.or (.cons (.cmp .ne (.var 5) (.call "_law_runs" (.cons (.var 3) (.cons (.var 1) .nil)))) (.cons (.cmp .ne (.var 6) (.call "_law_runs" (.cons (.var 4) (.cons (.var 1) .nil)))) .nil))) (
    .cons (.ret (.bl false)) <| .nil) .nil) <| 
  .cons (.set (.nm 7) (.lzp (.var 3) (.var 4))) <| 
  .cons (.ite (.cmp .ne (.call "both" (.cons (.var 5) (.cons (.var 6) .nil))) (.call "_law_runs" (.cons (.comp false (.and (.cons (.var 9) (.cons (.var 10) .nil))) (.tp [9, 10]) (.val (.var 7)) .none [9, 10]) (.cons (.var 1) .nil)))) (
    .cons (.ret (.bl false)) <| .nil) .nil) <| 
  .cons (.ite (.cmp .ne (.call "either" (.cons (.var 5) (.cons (.var 6) .nil))) (.call "_law_runs" (.cons (.comp false (.or (.cons (.var 9) (.cons (.var 10) .nil))) (.tp [9, 10]) (.val (.var 7)) .none [9, 10]) (.cons (.var 1) .nil)))) (
    .cons (.ret (.bl false)) <| .nil) .nil) <| 
  .cons (.ite (.cmp .ne (.call "without" (.cons (.var 5) (.cons (.var 6) .nil))) (.call "_law_runs" (.cons (.comp false (.and (.cons (.var 9) (.cons (.not (.var 10)) .nil))) (.tp [9, 10]) (.val (.var 7)) .none [9, 10]) (.cons (.var 1) .nil)))) (
    .cons (.ret (.bl false)) <| .nil) .nil) <| 
  .cons (.ret (.and (.cons (.call "_law_ways_good" (.cons (.var 5) (.cons (.var 3) (.cons (.var 1) .nil)))) (.cons (.call "_law_ways_good" (.cons (.var 6) (.cons (.var 4) (.cons (.var 1) .nil)))) .nil)))) <| .nil)⟩
/-- what marks hold, the first of them at A -/
noncomputable def heldM (bs : List Bool) (A x : Int) : Bool := decide (A ≤ x) && bs[(x - A).toNat]?.getD false
theorem heldM_take {bs : List Bool} {A x : Int} {k : Nat} (hk : k < bs.length) : heldM (bs.take (k + 1)) A x = (heldM (bs.take k) A x || (decide (x = A + k) && bs[k])) := by
  unfold heldM
  by_cases h : A ≤ x
  · simp only [decide_eq_true h, Bool.true_and]
    rw [List.getElem?_take, List.getElem?_take]
    by_cases e : x = A + k
    · subst e
      rw [show (A + (k : Int) - A).toNat = k by omega, if_pos (by omega), if_neg (by omega), List.getElem?_eq_getElem hk]
      simp
    · rw [decide_eq_false e]
      by_cases l : (x - A).toNat < k
      · rw [if_pos (by omega), if_pos l]; simp
      · rw [if_neg (by omega), if_neg l]; simp
  · rw [decide_eq_false h, decide_eq_false (show ¬ x = A + (k : Int) by omega)]
    simp
theorem heldM_iff {bs : List Bool} {A x : Int} : heldM bs A x = true ↔ ∃ k : Nat, x = A + k ∧ ∃ h : k < bs.length, bs[k] = true := by
  unfold heldM
  rw [Bool.and_eq_true, decide_eq_true_eq]
  constructor
  · rintro ⟨h1, h2⟩
    by_cases l : (x - A).toNat < bs.length
    · rw [List.getElem?_eq_getElem l] at h2
      exact ⟨_, by omega, l, h2⟩
    · rw [List.getElem?_eq_none (by omega)] at h2
      cases h2
  · rintro ⟨k, rfl, h, e⟩
    refine ⟨by omega, ?_⟩
    rw [show (A + (k : Int) - A).toNat = k by omega, List.getElem?_eq_getElem h]
    exact e
/-- runs of marks so far -/
structure RunI (bs : List Bool) (A : Int) (rs : List (Int × Int)) (k : Nat) : Prop where
  good : Good rs
  same : ∀ x, inB rs x = heldM (bs.take k) A x
  len : rs.length ≤ k
  high : ∀ r ∈ rs, r.2 < A + k
  on : ∀ j, j + 1 = k → bs[j]? = some true → ∃ us a, rs = us ++ [(a, A + j)]
  off : (∀ j, j + 1 = k → bs[j]? ≠ some true) → ∀ r ∈ rs, r.2 + 2 ≤ A + k
theorem runI_skip {bs : List Bool} {A : Int} {rs : List (Int × Int)} {k : Nat} (hk : k < bs.length) (hb : bs[k] = false) (T : RunI bs A rs k) : RunI bs A rs (k + 1) := by
  refine ⟨T.good, fun x => by rw [heldM_take hk, hb, Bool.and_false, Bool.or_false]; exact T.same x, Nat.le_succ_of_le T.len, fun r hr => ?_, fun j hj h => ?_, fun _ r hr => ?_⟩
  · have := T.high r hr; omega
  · have : j = k := by omega
    subst this
    rw [List.getElem?_eq_getElem hk, hb] at h
    cases h
  · have := T.high r hr; omega
theorem runI_more {bs : List Bool} {A : Int} {us : List (Int × Int)} {a : Int} {k : Nat} (hk : k < bs.length) (hb : bs[k] = true) (h0 : 0 < k) (T : RunI bs A (us ++ [(a, A + ((k - 1 : Nat) : Int))]) k) : RunI bs A (us ++ [(a, A + k)]) (k + 1) := by
  have hp := List.pairwise_append.mp T.good.1
  have hle : a ≤ A + ((k - 1 : Nat) : Int) := T.good.2 (a, A + ((k - 1 : Nat) : Int)) (by simp)
  refine ⟨⟨?_, ?_⟩, fun x => ?_, by have := T.len; simp at this ⊢; omega, fun r hr => ?_, fun j hj h => ?_, fun h => ?_⟩
  · refine List.pairwise_append.mpr ⟨hp.1, by simp, fun x hx y hy => ?_⟩
    rw [List.mem_singleton.mp hy]
    exact hp.2.2 x hx (a, A + ((k - 1 : Nat) : Int)) (List.mem_singleton_self _)
  · intro p hp
    rcases List.mem_append.mp hp with h | h
    · exact T.good.2 p (by simp [h])
    · rw [List.mem_singleton.mp h]
      show a ≤ A + k
      omega
  · have s := T.same x
    rw [inB_app, inB_one] at s
    rw [inB_app, inB_one, heldM_take hk, ← s, hb, Bool.eq_iff_iff]
    simp only [Bool.and_eq_true, Bool.or_eq_true, decide_eq_true_eq]
    constructor
    · rintro (h | ⟨h1, h2⟩)
      · exact .inl (.inl h)
      · by_cases e : x = A + k
        · exact .inr ⟨e, trivial⟩
        · exact .inl (.inr ⟨h1, by omega⟩)
    · rintro ((h | ⟨h1, h2⟩) | ⟨h, _⟩)
      · exact .inl h
      · exact .inr ⟨h1, by omega⟩
      · exact .inr ⟨by omega, by omega⟩
  · rcases List.mem_append.mp hr with h | h
    · have := T.high r (by simp [h]); omega
    · rw [List.mem_singleton.mp h]; show A + (k : Int) < A + ((k + 1 : Nat) : Int); omega
  · have : j = k := by omega
    subst this
    exact ⟨us, a, rfl⟩
  · exact absurd (show bs[k]? = some true by rw [List.getElem?_eq_getElem hk, hb]) (h k rfl)
theorem runI_new {bs : List Bool} {A : Int} {rs : List (Int × Int)} {k : Nat} (hk : k < bs.length) (hb : bs[k] = true) (hp : ∀ j, j + 1 = k → bs[j]? ≠ some true) (T : RunI bs A rs k) : RunI bs A (rs ++ [(A + (k : Int), A + (k : Int))]) (k + 1) := by
  have ho := T.off hp
  refine ⟨good_app T.good (Int.le_refl _) ho, fun x => ?_, by have := T.len; simp; omega, fun r hr => ?_, fun j hj h => ?_, fun h => ?_⟩
  · rw [inB_app, inB_one, heldM_take hk, T.same, hb, Bool.eq_iff_iff]
    simp only [Bool.and_eq_true, Bool.or_eq_true, decide_eq_true_eq]
    constructor
    · rintro (h | ⟨h1, h2⟩)
      · exact .inl h
      · exact .inr ⟨by omega, trivial⟩
    · rintro (h | ⟨h, _⟩)
      · exact .inl h
      · exact .inr ⟨by omega, by omega⟩
  · rcases List.mem_append.mp hr with h | h
    · have := T.high r h; omega
    · rw [List.mem_singleton.mp h]; show A + (k : Int) < A + ((k + 1 : Nat) : Int); omega
  · have : j = k := by omega
    subst this
    exact ⟨rs, A + j, rfl⟩
  · exact absurd (show bs[k]? = some true by rw [List.getElem?_eq_getElem hk, hb]) (h k rfl)
theorem atBl {bs : List Bool} {k : Nat} (hk : k < bs.length) : L2.atI (bs.map D.bl) (k : Int) = some (.bl bs[k]) := by
  rw [atI_ge (by omega), List.getElem?_map, show ((k : Int)).toNat = k by omega, List.getElem?_eq_getElem hk]; rfl
theorem runs_ok {P n} (hf : P.fns "_law_runs" = some c__law_runs) (bs : List Bool) (A : Int) (hl : bs.length ≤ 1000) {h Q X} (q : ∀ rs : List (Int × Int), Good rs → (∀ x, inB rs x = heldM bs A x) → rs.length ≤ bs.length → Q (.tup (rs.map pairD)) h) : (Gn P (n+1)).fn "_law_runs" [.vl (bs.map .bl), .int A] h Q X := by
  refine ⟨_, hf, rfl, ?_⟩
  simp [c__law_runs]
  refine ⟨⟨by omega, by omega⟩, ?_⟩
  refine FL_rng (fun k σ h' => ∃ (rs : List (Int × Int)) (a : Option D), h' = h ++ [.lst (rs.map pairD)] ∧ RunI bs A rs k ∧ σ = [some (.vl (bs.map .bl)), some (.int A), some (.ref h.length), a]) ⟨[], _, rfl, ⟨⟨.nil, by simp⟩, fun x => ?_, by simp, by simp, fun j hj => by omega, by simp⟩, rfl⟩ (fun _ => trivial) ?_ ?_
  · unfold heldM inB; simp
  · rintro k σ h' hk ⟨rs, a, rfl, T, rfl⟩ Kn hKn
    have hk : k < bs.length := by omega
    simp [l1__law_runs]
    refine ⟨_, atBl hk, ?_⟩
    cases hb : bs[k] with
    | false =>
      simp
      exact hKn _ _ ⟨rs, _, rfl, runI_skip hk hb T, rfl⟩
    | true =>
      simp
      by_cases h0 : 0 < k
      · rw [if_pos h0]
        refine ⟨.bl bs[k - 1], ?_, ?_⟩
        · have := atBl (bs := bs) (k := k - 1) (by omega)
          rw [show ((k : Int) - 1) = ((k - 1 : Nat) : Int) by omega]
          exact this
        · simp
          cases hp : bs[k - 1] with
          | true =>
            obtain ⟨us, a, e⟩ := T.on (k - 1) (by omega) (by rw [List.getElem?_eq_getElem (by omega), hp])
            subst e
            have l := T.len
            simp at l
            simp [pairD, atI_last5]
            refine ⟨us.length, ixN_last _, ?_⟩
            refine hKn _ _ ⟨us ++ [(a, A + k)], _, ?_, runI_more hk hb h0 T, rfl⟩
            rw [List.set_append_right _ _ (by simp)]
            simp [pairD]
          | false =>
            simp
            refine ⟨by have := T.len; omega, hKn _ _ ⟨_, _, by rw [List.map_append]; rfl, runI_new hk hb (fun j hj h => ?_) T, rfl⟩⟩
            have : j = k - 1 := by omega
            subst this
            rw [List.getElem?_eq_getElem (by omega), hp] at h
            cases h
      · rw [if_neg h0]
        refine ⟨by have := T.len; omega, hKn _ _ ⟨_, _, by rw [List.map_append]; rfl, runI_new hk hb (fun j hj h => by omega) T, rfl⟩⟩
  · rintro σ h' ⟨rs, a, rfl, T, rfl⟩
    simp
    have ek : ((bs.length : Int) - 0).toNat = bs.length := by omega
    rw [ek] at T
    have s := T.same
    rw [List.take_length] at s
    exact .pure (.tup (fzs_pairs rs)) (List.prefix_append _ _) (q rs T.good s T.len)
theorem all_bls : ∀ ys : List D, (∀ y ∈ ys, ∃ b, y = .bl b) → ∃ bs : List Bool, ys = bs.map .bl
  | [], _ => ⟨[], rfl⟩
  | y :: ys, h => by
    obtain ⟨b, rfl⟩ := h y (by simp)
    obtain ⟨bs, rfl⟩ := all_bls ys fun z hz => h z (List.mem_cons_of_mem _ hz)
    exact ⟨b :: bs, rfl⟩
theorem fzs_bls {n : Nat} {h : Hd} : ∀ ns : List Bool, Fzs n h (ns.map D.bl) (ns.map D.bl)
  | [] => .nil
  | x :: ns => .cons (.bl x) (fzs_bls ns)
theorem marks_ok {P n} (hf : P.fns "_law_marks" = some c__law_marks) (h1 : P.fns "_law_mix" = some c__law_mix) (ms : List Int) (k : Int) (hk : 0 ≤ k ∧ k ≤ 100) (hl : ms.length ≤ 40) {h Q X} (q : ∀ bs : List Bool, bs.length = 40 → Q (.vl (bs.map .bl)) h) : (Gn P (n+2)).fn "_law_marks" [.vl (ms.map .int), .int k] h Q X := by
  refine ⟨_, hf, rfl, ?_⟩
  simp [c__law_marks, h1]
  refine ⟨⟨by omega, by omega⟩, ?_⟩
  refine CL_fun (List.range (40 - (ms.length : Int) - 0).toNat) _ (fun _ => D.int k) trivial (by rw [List.length_range]; omega) (fun z hz Ka hKa => ?_) ?_
  · simp [Vd.wipe]
    exact hKa
  have e : List.map D.int ms ++ List.map (fun x => D.int k) (List.range (40 - (ms.length : Int) - 0).toNat) = (ms ++ List.replicate (40 - ms.length) k).map D.int := by
    rw [List.map_append, List.map_replicate]
    congr 1
    rw [show (40 - (ms.length : Int) - 0).toNat = 40 - ms.length by omega]
    induction (40 - ms.length) with
    | zero => rfl
    | succ n ih => rw [List.range_succ, List.map_append, ih, List.replicate_succ']; rfl
  refine ⟨by rw [List.length_map, List.length_range]; omega, by rw [List.length_map, List.length_range]; omega, ?_⟩
  rw [e]
  have l : (ms ++ List.replicate (40 - ms.length) k).length = 40 := by rw [List.length_append, List.length_replicate]; omega
  generalize ms ++ List.replicate (40 - ms.length) k = cs at l
  refine CL_each (fun _ y => ∃ b, y = .bl b) trivial (by rw [List.length_map]; omega) (fun j x hx hj Ka hKa => ?_) fun ys hys hall => ?_
  · rw [List.length_map] at hj
    rw [List.getElem?_map, List.getElem?_eq_getElem hj] at hx
    cases hx
    simp [Vd.wipe, h1]
    refine mix_ok h1 _ k 2 hk (by omega) fun x _ _ => ?_
    simp
    exact hKa _ ⟨_, rfl⟩
  · rw [List.length_map] at hys
    obtain ⟨bs, rfl⟩ := all_bls ys fun y hy => by
      obtain ⟨j, hj, rfl⟩ := List.getElem_of_mem hy
      exact hall j _ _ (List.getElem?_eq_getElem (by rw [List.length_map]; omega)) (List.getElem?_eq_getElem hj)
    rw [List.length_map] at hys
    exact ⟨by rw [List.length_map]; omega, .pure (.vl (fzs_bls bs)) (List.prefix_refl _) (q bs (by omega))⟩
theorem ne_opt (o : Option Int) {h : Hd} {R : Bool → Prop} (q : R false) : cmpW .ne (optS o) (optS o) h R := by
  cases o with
  | none => rw [optS, c_ne_nn]; exact q
  | some i => rw [optS]; show R (!decide (i = i)); simpa using q
theorem cnt_held {bs : List Bool} {A : Int} : ∀ n : Nat, n ≤ bs.length → cntF (heldM bs A) A n = (((bs.take n).filter id).length : Int)
  | 0, _ => rfl
  | n + 1, h => by
    rw [cntF, cnt_held n (by omega), List.take_succ, List.getElem?_eq_getElem (by omega)]
    have e : heldM bs A (A + n) = bs[n] := by
      unfold heldM
      rw [decide_eq_true (by omega), Bool.true_and, show (A + (n : Int) - A).toNat = n by omega, List.getElem?_eq_getElem (by omega)]
      rfl
    rw [e]
    cases bs[n] <;> simp
noncomputable def r1_ways : Ss := match l1__law_ways_good with | .cons _ r => r | .nil => .nil
theorem l1w_eq : l1__law_ways_good = .cons (.set (.nm 4) (.and (.cons (.cmp .le (.int 0) (.var 3)) (.cons (.cmp .lt (.var 3) (.int 40)) (.cons (.idx (.var 1) (.var 3)) .nil))))) r1_ways := rfl
theorem rest_ok {P n} (h1 : P.fns "holds" = some c_holds) (h2 : P.fns "first_from" = some c_first_from) (h3 : P.fns "last_to" = some c_last_to) (ps : List (Int × Int)) (bs : List Bool) (A : Int) (hg : Good ps) (hl : ps.length ≤ 1000) (hb : bs.length = 40) (hs : ∀ x, inB ps x = heldM bs A x) {j : Int} (j0 : -1 ≤ j) (j1 : j < 41)
    {c d e f : Option D} {h : Hd} {K : Vd.Ends} {X : XS} (q : ∀ σ', (∃ a b c d e f, σ' = [some (.tup (ps.map pairD)), some (.vl (bs.map .bl)), some (.int A), a, b, c, d, e, f]) → K.nx σ' h) : wpSs (Gn P (n+1)) r1_ways [some (.tup (ps.map pairD)), some (.vl (bs.map .bl)), some (.int A), some (.int j), some (.bl (heldM bs A (A + j))), c, d, e, f] h K X := by
  simp [r1_ways, l1__law_ways_good, h1, h2, h3]
  refine holds_ok h1 ps _ (by omega) ?_
  rw [hs]
  simp
  refine ⟨⟨by split <;> omega, by split <;> omega⟩, ⟨by decide, by decide⟩, ?_⟩
  have mem : ∀ {lo hi : Int} {x3 x4 x5 x6 x7 x8 : Option D} {Q' : List D → Hd → Prop}, 0 ≤ lo → hi ≤ 40 →
      (∀ ns : List Int, ns.length ≤ 40 → (∀ y, y ∈ ns ↔ heldM bs A y = true ∧ A + lo ≤ y ∧ y < A + hi) → Q' (ns.map .int) h) →
      CL (Gn P (n + 1)) (.bin false .add (.var 2) (.var 7)) (.nm 7) (.some (.idx (.var 1) (.var 7))) [7] [some (.tup (ps.map pairD)), some (.vl (bs.map .bl)), some (.int A), x3, x4, x5, x6, x7, x8] (fun _ => True) (rngN lo hi) [] h Q' := by
    intro lo hi x3 x4 x5 x6 x7 x8 Q' hlo hhi q'
    unfold rngN
    have at' : ∀ k : Nat, k < (hi - lo).toNat → heldM bs A (A + (lo + k)) = bs[(lo + k).toNat]?.getD false := fun k hk => by
      unfold heldM
      rw [decide_eq_true (by omega), Bool.true_and, show (A + (lo + (k : Int)) - A).toNat = (lo + (k : Int)).toNat by omega]
    refine CL_sel (List.range (hi - lo).toNat) _ (fun k => .int (A + (lo + (k : Int)))) (fun k => heldM bs A (A + (lo + (k : Int)))) trivial (by rw [List.length_range]; omega) (fun k hk Ka Ks hKa hKs => ?_) ?_
    · have hk := List.mem_range.mp hk
      have hx : (lo + (k : Int)).toNat < bs.length := by omega
      have e := atBl (bs := bs) hx
      rw [show (((lo + (k : Int)).toNat : Nat) : Int) = lo + k by omega] at e
      have e2 := at' k hk
      rw [List.getElem?_eq_getElem hx, Option.getD_some] at e2
      simp [Vd.wipe]
      refine ⟨_, e, ?_⟩
      rw [e2] at hKa hKs
      cases hb : bs[(lo + (k : Int)).toNat] with
      | true => exact hKa hb
      | false => exact hKs hb
    · have e : List.map (fun k : Nat => D.int (A + (lo + (k : Int)))) ((List.range (hi - lo).toNat).filter fun k : Nat => heldM bs A (A + (lo + (k : Int)))) = (((List.range (hi - lo).toNat).filter fun k : Nat => heldM bs A (A + (lo + (k : Int)))).map fun k : Nat => A + (lo + (k : Int))).map D.int := by rw [List.map_map]; rfl
      rw [e]
      refine q' _ ?_ fun y => ?_
      · have := List.length_filter_le (fun k : Nat => heldM bs A (A + (lo + (k : Int)))) (List.range (hi - lo).toNat)
        rw [List.length_range] at this
        rw [List.length_map]
        omega
      · rw [List.mem_map]
        constructor
        · rintro ⟨k, hk, rfl⟩
          obtain ⟨g1, g2⟩ := List.mem_filter.mp hk
          have := List.mem_range.mp g1
          exact ⟨g2, by omega, by omega⟩
        · rintro ⟨g1, g2, g3⟩
          refine ⟨(y - A - lo).toNat, List.mem_filter.mpr ⟨List.mem_range.mpr (by omega), ?_⟩, by omega⟩
          rw [show A + (lo + ((y - A - lo).toNat : Int)) = y by omega]
          exact g1
  have rng : ∀ {y : Int}, inB ps y = true → A ≤ y ∧ y < A + 40 := fun {y} hy => by
    rw [hs, heldM_iff] at hy
    obtain ⟨k, rfl, g, _⟩ := hy
    omega
  have io : ∀ {p : Int × Int} {y : Int}, p ∈ ps → p.1 ≤ y → y ≤ p.2 → heldM bs A y = true := fun {p y} hp a b => by rw [← hs]; exact inB_iff.mpr ⟨p, hp, a, b⟩
  refine mem (by split <;> omega) (Int.le_refl _) fun ns hn hm => ?_
  refine ⟨by rw [List.length_map]; omega, ⟨by decide, by decide⟩, ⟨by split <;> omega, by split <;> omega⟩, ?_⟩
  refine mem (Int.le_refl _) (by split <;> omega) fun ms hn2 hm2 => ?_
  refine ⟨by rw [List.length_map]; omega, ?_⟩
  refine first_from_ok h2 ps _ ?_
  obtain ⟨f1, f2⟩ := firstF_min (x := A + j) hg
  refine md_is (o := firstF ps (A + j)) (fun e => ?_) (fun v e => ?_) (ne_opt _ ?_)
  · refine List.eq_nil_iff_forall_not_mem.mpr fun y hy => ?_
    obtain ⟨g1, g2, g3⟩ := (hm y).mp hy
    rw [← hs, inB_iff] at g1
    obtain ⟨p, hp, a, b⟩ := g1
    refine f1 e p hp ?_
    split at g2 <;> omega
  · obtain ⟨⟨p, hp, g1, g2⟩, g3⟩ := f2 v e
    have pp := hg.2 p hp
    refine ⟨(hm v).mpr ⟨io hp (by omega) (by omega), ?_⟩, fun y hy => ?_⟩
    · have := rng (inB_iff.mpr ⟨p, hp, show p.1 ≤ v by omega, by omega⟩)
      split <;> omega
    · rw [if_neg (by decide)]
      obtain ⟨g4, g5, g6⟩ := (hm y).mp hy
      rw [← hs, inB_iff] at g4
      obtain ⟨r, hr, a, b⟩ := g4
      have g5' : A + j ≤ y := by split at g5 <;> omega
      have := g3 r hr (by omega)
      omega
  simp
  refine last_to_ok h3 ps _ ?_
  have hrev : ps.reverse.Pairwise (fun a b => b.2 + 2 ≤ a.1) := List.pairwise_reverse.mpr hg.1
  obtain ⟨f1, f2⟩ := lastF_max (x := A + j) hrev fun p hp => hg.2 p (List.mem_reverse.mp hp)
  refine md_is (o := lastF ps.reverse (A + j)) (fun e => ?_) (fun v e => ?_) (ne_opt _ ?_)
  · refine List.eq_nil_iff_forall_not_mem.mpr fun y hy => ?_
    obtain ⟨g1, g2, g3⟩ := (hm2 y).mp hy
    rw [← hs, inB_iff] at g1
    obtain ⟨p, hp, a, b⟩ := g1
    refine f1 e p (List.mem_reverse.mpr hp) ?_
    split at g3 <;> omega
  · obtain ⟨⟨p, hp, g1, g2⟩, g3⟩ := f2 v e
    have hp := List.mem_reverse.mp hp
    have pp := hg.2 p hp
    refine ⟨(hm2 v).mpr ⟨io hp (by omega) (by omega), ?_⟩, fun y hy => ?_⟩
    · have := rng (inB_iff.mpr ⟨p, hp, show p.1 ≤ v by omega, by omega⟩)
      split <;> omega
    · rw [if_pos rfl]
      obtain ⟨g4, g5, g6⟩ := (hm2 y).mp hy
      rw [← hs, inB_iff] at g4
      obtain ⟨r, hr, a, b⟩ := g4
      have g5' : y ≤ A + j := by split at g6 <;> omega
      have := g3 r (List.mem_reverse.mpr hr) (by omega)
      omega
  simp
  exact q _ ⟨_, _, _, _, _, _, rfl⟩
theorem ways_ok {P n} (hf : P.fns "_law_ways_good" = some c__law_ways_good) (h1 : P.fns "holds" = some c_holds) (h2 : P.fns "first_from" = some c_first_from) (h3 : P.fns "last_to" = some c_last_to) (h4 : P.fns "many" = some c_many) (ps : List (Int × Int)) (bs : List Bool) (A : Int) (hg : Good ps) (hl : ps.length ≤ 1000) (hb : bs.length = 40) (hs : ∀ x, inB ps x = heldM bs A x) {h Q X} (q : Q (.bl true) h) : (Gn P (n+2)).fn "_law_ways_good" [.tup (ps.map pairD), .vl (bs.map .bl), .int A] h Q X := by
  refine ⟨_, hf, rfl, ?_⟩
  simp [c__law_ways_good, h4]
  refine ⟨⟨by decide, by decide⟩, ⟨by decide, by decide⟩, ?_⟩
  refine FL_rng (fun k σ h' => h' = h ∧ ∃ a b c d e f, σ = [some (.tup (ps.map pairD)), some (.vl (bs.map .bl)), some (.int A), a, b, c, d, e, f]) ⟨rfl, _, _, _, _, _, _, rfl⟩ (fun _ => trivial) ?_ ?_
  · rintro k σ h' hk ⟨rfl, a, b, c, d, e, f, rfl⟩ Kn hKn
    generalize hj : (-1 + (k : Int)) = j
    have j0 : -1 ≤ j := by omega
    have j1 : j < 41 := by omega
    have R := fun K X => rest_ok (n := n) h1 h2 h3 ps bs A hg hl hb hs j0 j1 (c := c) (d := d) (e := e) (f := f) (h := h') (K := K) (X := X)
    rw [l1w_eq]
    simp
    split
    · split
      · refine ⟨.bl bs[j.toNat], ?_, ?_⟩
        · have := atBl (bs := bs) (k := j.toNat) (by omega)
          rw [show ((j.toNat : Nat) : Int) = j by omega] at this
          exact this
        · have e : heldM bs A (A + j) = bs[j.toNat] := by
            unfold heldM
            rw [decide_eq_true (by omega), Bool.true_and, show (A + j - A).toNat = j.toNat by omega, List.getElem?_eq_getElem (by omega)]
            rfl
          rw [← e]
          exact R _ _ fun σ' hσ => hKn _ _ ⟨rfl, hσ⟩
      · have e : heldM bs A (A + j) = false := by
          unfold heldM
          rw [List.getElem?_eq_none (by omega), Option.getD_none, Bool.and_false]
        rw [← e]
        exact R _ _ fun σ' hσ => hKn _ _ ⟨rfl, hσ⟩
    · have e : heldM bs A (A + j) = false := by
        unfold heldM
        rw [decide_eq_false (by omega), Bool.false_and]
      rw [← e]
      exact R _ _ fun σ' hσ => hKn _ _ ⟨rfl, hσ⟩
  · rintro σ h' ⟨rfl, a, b, c, d, e, f, rfl⟩
    simp [h4]
    refine many_ok h4 ps (by omega) ?_
    refine CL_sel bs D.bl D.bl id trivial (by omega) (fun b hb Ka Ks hKa hKs => ?_) ?_
    · simp [Vd.wipe]
      cases b with
      | true => exact hKa rfl
      | false => exact hKs rfl
    have l1 : (bs.filter id).length ≤ bs.length := List.length_filter_le _ _
    have m : manyN ps = ((bs.filter id).length : Int) := by
      have t : bs.take 40 = bs := by rw [← hb]; exact List.take_length
      rw [many_cnt (A := A) (n := 40) hg fun p hp => ?_, show inB ps = heldM bs A from funext hs, cnt_held 40 (by omega), t]
      have h1 : inB ps p.1 = true := inB_iff.mpr ⟨p, hp, Int.le_refl _, hg.2 p hp⟩
      have h2 : inB ps p.2 = true := inB_iff.mpr ⟨p, hp, hg.2 p hp, Int.le_refl _⟩
      rw [hs, heldM_iff] at h1 h2
      obtain ⟨k1, e1, g1, _⟩ := h1
      obtain ⟨k2, e2, g2, _⟩ := h2
      omega
    refine ⟨by rw [List.length_map]; omega, ?_⟩
    simp [m]
    exact .raw q
theorem singles_inB {bs : List Bool} {A : Int} {ks : List Int} (hk : ∀ y, y ∈ ks ↔ heldM bs A y = true) (x : Int) : inB (ks.map fun y => (y, y)) x = heldM bs A x := by
  rw [Bool.eq_iff_iff, inB_iff, ← hk]
  constructor
  · rintro ⟨p, hp, a, b⟩
    obtain ⟨y, hy, rfl⟩ := List.mem_map.mp hp
    have : x = y := by
      have a : y ≤ x := a
      have b : x ≤ y := b
      omega
    rw [this]; exact hy
  · intro h
    exact ⟨(x, x), List.mem_map.mpr ⟨x, h, rfl⟩, Int.le_refl _, Int.le_refl _⟩
theorem heldM_zip (f : Bool → Bool → Bool) (hf : f false false = false) {bs cs : List Bool} (hl : bs.length = cs.length) (A x : Int) : heldM ((bs.zip cs).map fun p => f p.1 p.2) A x = f (heldM bs A x) (heldM cs A x) := by
  unfold heldM
  by_cases h : A ≤ x
  · rw [decide_eq_true h, Bool.true_and, Bool.true_and, Bool.true_and]
    by_cases l : (x - A).toNat < bs.length
    · rw [List.getElem?_map, List.getElem?_eq_getElem (by rw [List.length_zip]; omega), List.getElem_zip, List.getElem?_eq_getElem l, List.getElem?_eq_getElem (by omega)]
      rfl
    · rw [List.getElem?_eq_none (by rw [List.length_map, List.length_zip]; omega), List.getElem?_eq_none (by omega), List.getElem?_eq_none (by omega)]
      exact hf.symm
  · rw [decide_eq_false h, Bool.false_and, Bool.false_and, Bool.false_and]
    exact hf.symm
theorem zip_bls (bs cs : List Bool) : ((bs.map D.bl).zip (cs.map D.bl)).map (fun p => D.tup [p.1, p.2]) = (bs.zip cs).map fun p => D.tup [.bl p.1, .bl p.2] := by
  rw [List.zip_map, List.map_map]; rfl
theorem map_bl (f : Bool × Bool → Bool) (l : List (Bool × Bool)) : (l.map fun p => D.bl (f p)) = (l.map f).map D.bl := by rw [List.map_map]; rfl
theorem law_k29_ok {P : Prog} (h0 : P.fns "law" = some c_law_k29) (h1 : P.fns "tidy" = some c_tidy) (h2 : P.fns "both" = some c_both) (h21 : P.fns "either" = some c_either) (h22 : P.fns "without" = some c_without) (h23 : P.fns "many" = some c_many) (h24 : P.fns "holds" = some c_holds) (h25 : P.fns "first_from" = some c_first_from) (h26 : P.fns "last_to" = some c_last_to) (h3 : P.fns "_law_at" = some c__law_at) (h4 : P.fns "_law_mix" = some c__law_mix) (h5 : P.fns "_law_folded" = some c__law_folded) (h6 : P.fns "_law_runs" = some c__law_runs) (h7 : P.fns "_law_marks" = some c__law_marks) (h8 : P.fns "_law_ways_good" = some c__law_ways_good) : LawOk P 5 := by
  intro ns hl
  refine ⟨_, h0, rfl, ?_⟩
  simp [c_law_k29, h1, h2, h21, h22, h3, h4, h5, h6, h7, h8]
  refine at_ok h3 ns 0 fun x => ?_
  simp [h3, h4]
  refine ⟨mul_okL (by decide) (by decide), ?_⟩
  refine at_ok h3 ns 0 fun x' => ?_
  refine mix_ok h4 _ 0 2 (by omega) (by omega) fun y y0 y1 => ?_
  generalize (x % 100000000000000000000000000000000000000000000000000 - 50000000000000000000000000000000000000000000000000) = B
  have hA : ∃ A : Int, L2.atI [D.int 0, D.int B] y = some (.int A) := by
    have : y = 0 ∨ y = 1 := by omega
    rcases this with rfl | rfl
    · exact ⟨0, rfl⟩
    · exact ⟨B, rfl⟩
  obtain ⟨A, hA⟩ := hA
  rw [ix_vl]
  refine ⟨_, hA, ?_⟩
  refine folded_ok h5 ns 1 40 hl (by omega) (by omega) fun ms hm1 hm2 => ?_
  refine marks_ok h7 h4 ms 1 (by omega) hm1 fun bs hb => ?_
  refine marks_ok h7 h4 ms 2 (by omega) hm1 fun cs hc => ?_
  refine ⟨⟨by decide, by decide⟩, ?_⟩
  have er : rngN 0 40 = (List.range 40).map fun k : Nat => D.int (k : Int) := by
    unfold rngN
    refine List.map_congr_left fun k _ => ?_
    rw [Int.zero_add]
  rw [er]
  refine CL_sel (List.range 40) _ (fun k : Nat => pairD (A + (k : Int), A + (k : Int))) (fun k : Nat => bs[k]?.getD false) trivial (by rw [List.length_range]; omega) (fun k hk Ka Ks hKa hKs => ?_) ?_
  · have hk := List.mem_range.mp hk
    rw [List.getElem?_eq_getElem (by omega), Option.getD_some] at hKa hKs
    simp [Vd.wipe]
    refine ⟨_, atBl (by omega), ?_⟩
    cases hb : bs[k] with
    | true => exact hKa hb
    | false => exact hKs hb
  refine ⟨by rw [List.length_map]; exact Nat.le_trans (List.length_filter_le _ _) (by rw [List.length_range]; omega), ?_⟩
  have f1 : ((List.range 40).filter fun k : Nat => bs[k]?.getD false).length ≤ 40 := Nat.le_trans (List.length_filter_le _ _) (by rw [List.length_range]; omega)
  have s1 : List.map (fun k : Nat => pairD (A + (k : Int), A + (k : Int))) ((List.range 40).filter fun k : Nat => bs[k]?.getD false) = ((((List.range 40).filter fun k : Nat => bs[k]?.getD false).map fun k : Nat => A + (k : Int)).map fun y => (y, y)).map pairD := by rw [List.map_map, List.map_map]; rfl
  have m1 : ∀ y, y ∈ (((List.range 40).filter fun k : Nat => bs[k]?.getD false).map fun k : Nat => A + (k : Int)) ↔ heldM bs A y = true := fun y => by
    rw [List.mem_map, heldM_iff]
    constructor
    · rintro ⟨k, hk, rfl⟩
      obtain ⟨g1, g2⟩ := List.mem_filter.mp hk
      have g1 := List.mem_range.mp g1
      rw [List.getElem?_eq_getElem (by omega), Option.getD_some] at g2
      exact ⟨k, rfl, by omega, g2⟩
    · rintro ⟨k, rfl, hk, g⟩
      exact ⟨k, List.mem_filter.mpr ⟨List.mem_range.mpr (by omega), by rw [List.getElem?_eq_getElem hk]; exact g⟩, rfl⟩
  rw [s1]
  refine tidy_ok h1 _ (by rw [List.length_map, List.length_map]; omega) fun ts tg tS tl => ?_
  rw [List.length_map, List.length_map] at tl
  have tS : ∀ x, inB ts x = heldM bs A x := fun x => (tS x).trans (singles_inB m1 x)
  refine ⟨⟨by decide, by decide⟩, ?_⟩
  refine CL_sel (List.range 40) _ (fun k : Nat => pairD (A + 39 - (k : Int), A + 39 - (k : Int))) (fun k : Nat => cs[39 - k]?.getD false) trivial (by rw [List.length_range]; omega) (fun k hk Ka Ks hKa hKs => ?_) ?_
  · have hk := List.mem_range.mp hk
    rw [List.getElem?_eq_getElem (by omega), Option.getD_some] at hKa hKs
    simp [Vd.wipe]
    have e := atBl (bs := cs) (k := 39 - k) (by omega)
    rw [show ((39 - k : Nat) : Int) = 39 - (k : Int) by omega] at e
    refine ⟨_, e, ?_⟩
    cases hb : cs[39 - k] with
    | true => exact hKa hb
    | false => exact hKs hb
  refine ⟨by rw [List.length_map]; exact Nat.le_trans (List.length_filter_le _ _) (by rw [List.length_range]; omega), ?_⟩
  have f2 : ((List.range 40).filter fun k : Nat => cs[39 - k]?.getD false).length ≤ 40 := Nat.le_trans (List.length_filter_le _ _) (by rw [List.length_range]; omega)
  have s2 : List.map (fun k : Nat => pairD (A + 39 - (k : Int), A + 39 - (k : Int))) ((List.range 40).filter fun k : Nat => cs[39 - k]?.getD false) = ((((List.range 40).filter fun k : Nat => cs[39 - k]?.getD false).map fun k : Nat => A + 39 - (k : Int)).map fun y => (y, y)).map pairD := by rw [List.map_map, List.map_map]; rfl
  have m2 : ∀ y, y ∈ (((List.range 40).filter fun k : Nat => cs[39 - k]?.getD false).map fun k : Nat => A + 39 - (k : Int)) ↔ heldM cs A y = true := fun y => by
    rw [List.mem_map, heldM_iff]
    constructor
    · rintro ⟨k, hk, rfl⟩
      obtain ⟨g1, g2⟩ := List.mem_filter.mp hk
      have g1 := List.mem_range.mp g1
      rw [List.getElem?_eq_getElem (by omega), Option.getD_some] at g2
      exact ⟨39 - k, by omega, by omega, g2⟩
    · rintro ⟨k, rfl, hk, g⟩
      refine ⟨39 - k, List.mem_filter.mpr ⟨List.mem_range.mpr (by omega), ?_⟩, by omega⟩
      have : 39 - (39 - k) = k := by omega
      rw [this, List.getElem?_eq_getElem hk]; exact g
  rw [s2]
  refine tidy_ok h1 _ (by rw [List.length_map, List.length_map]; omega) fun us ug uS ul => ?_
  rw [List.length_map, List.length_map] at ul
  have uS : ∀ x, inB us x = heldM cs A x := fun x => (uS x).trans (singles_inB m2 x)
  refine runs_ok h6 bs A (by omega) fun r1 g1 e1 l1 => c_ne_same (good_eq tg g1 fun x => by rw [tS, e1]) ?_
  rw [if_neg (by decide)]
  refine runs_ok h6 cs A (by omega) fun r2 g2 e2 l2 => c_ne_same (good_eq ug g2 fun x => by rw [uS, e2]) ?_
  rw [if_neg (by decide)]
  refine ⟨_, rdL_vl _ _, _, rdL_vl _ _, by rw [List.length_map]; omega, ?_⟩
  rw [zip_bls]
  have zl : (bs.zip cs).length = 40 := by rw [List.length_zip]; omega
  have wz : ∀ f : Bool × Bool → Bool, ((bs.zip cs).map f).length = 40 := fun f => by rw [List.length_map, zl]
  refine both_ok h2 ts us tg ug (by omega) (by omega) fun bo bg bS bl => ?_
  refine CL_fun (bs.zip cs) _ (fun p => D.bl (p.1 && p.2)) trivial (by omega) (fun p hp Ka hKa => ?_) ?_
  · simp [Vd.wipe]
    cases h : p.1 <;> simp [h] at hKa ⊢ <;> exact hKa
  rw [map_bl fun p => p.1 && p.2]
  refine ⟨by rw [List.length_map, wz]; omega, ?_⟩
  refine runs_ok h6 _ A (by rw [wz]; omega) fun r3 g3 e3 l3 => c_ne_same (good_eq bg g3 fun x => by rw [bS, e3, tS, uS, heldM_zip (fun a b => a && b) rfl (by omega)]) ?_
  rw [if_neg (by decide)]
  refine either_ok h21 h1 ts us tg ug (by omega) (by omega) fun eo eg eS el => ?_
  refine CL_fun (bs.zip cs) _ (fun p => D.bl (p.1 || p.2)) trivial (by omega) (fun p hp Ka hKa => ?_) ?_
  · simp [Vd.wipe]
    cases h : p.1 <;> simp [h] at hKa ⊢ <;> exact hKa
  rw [map_bl fun p => p.1 || p.2]
  refine ⟨by rw [List.length_map, wz]; omega, ?_⟩
  refine runs_ok h6 _ A (by rw [wz]; omega) fun r4 g4 e4 l4 => c_ne_same (good_eq eg g4 fun x => by rw [eS, e4, tS, uS, heldM_zip (fun a b => a || b) rfl (by omega)]) ?_
  rw [if_neg (by decide)]
  refine without_ok h22 ts us tg ug (by omega) (by omega) fun wo wg wS wl => ?_
  refine CL_fun (bs.zip cs) _ (fun p => D.bl (p.1 && !p.2)) trivial (by omega) (fun p hp Ka hKa => ?_) ?_
  · simp [Vd.wipe]
    cases h : p.1 <;> simp [h] at hKa ⊢ <;> exact hKa
  rw [map_bl fun p => p.1 && !p.2]
  refine ⟨by rw [List.length_map, wz]; omega, ?_⟩
  refine runs_ok h6 _ A (by rw [wz]; omega) fun r5 g5 e5 l5 => c_ne_same (good_eq wg g5 fun x => by rw [wS, e5, tS, uS, heldM_zip (fun a b => a && !b) rfl (by omega)]) ?_
  rw [if_neg (by decide)]
  refine ways_ok h8 h24 h25 h26 h23 ts bs A tg (by omega) hb tS ?_
  simp only [asB, if_true]
  refine ways_ok h8 h24 h25 h26 h23 us cs A ug (by omega) hc uS ?_
  exact .raw rfl
end Vd

set_option maxHeartbeats 4000000
namespace Vd
open PySem PySem.Spec PyProof.Rows L2
noncomputable def topS (i : Nat) : Stmt := PySem.Challenge.pw_beaconvale_k29_whole_hours_gone_through.main.body.getD i (.Pass ⟨0, 0, 0, 0⟩)
noncomputable abbrev s_tidy : Stmt := topS 1
noncomputable abbrev s_both : Stmt := topS 2
noncomputable abbrev s_either : Stmt := topS 3
noncomputable abbrev s_without : Stmt := topS 4
noncomputable abbrev s_holds : Stmt := topS 5
noncomputable abbrev s_many : Stmt := topS 6
noncomputable abbrev s_first_from : Stmt := topS 7
noncomputable abbrev s_last_to : Stmt := topS 8
noncomputable abbrev s__law_at : Stmt := topS 10
noncomputable abbrev s__law_mix : Stmt := topS 11
noncomputable abbrev s__law_folded : Stmt := topS 12
noncomputable abbrev s__law_runs : Stmt := topS 13
noncomputable abbrev s__law_marks : Stmt := topS 14
noncomputable abbrev s__law_ways_good : Stmt := topS 15
noncomputable abbrev s_law : Stmt := topS 16
theorem ifc {p : Prop} [Decidable p] {α : Sort _} {a b c : α} (h : (if p then a else b) = c) : (p ∧ a = c) ∨ (b = c) := by
  by_cases q : p
  · rw [if_pos q] at h; exact .inl ⟨q, h⟩
  · rw [if_neg q] at h; exact .inr h
theorem bm0 {n : Nat} {P : List Value → Prop} (e : n = 0) (h : P []) : ∀ us : List Value, us.length = n → P us := fun us hl => match us, hl.trans e with | [], _ => h
theorem bm1 {n : Nat} {P : List Value → Prop} (e : n = 1) (h : ∀ a0 : Value, P [a0]) : ∀ us : List Value, us.length = n → P us := fun us hl => match us, hl.trans e with | [a0], _ => h a0
theorem bm2 {n : Nat} {P : List Value → Prop} (e : n = 2) (h : ∀ a0 a1 : Value, P [a0, a1]) : ∀ us : List Value, us.length = n → P us := fun us hl => match us, hl.trans e with | [a0, a1], _ => h a0 a1
theorem bm3 {n : Nat} {P : List Value → Prop} (e : n = 3) (h : ∀ a0 a1 a2 : Value, P [a0, a1, a2]) : ∀ us : List Value, us.length = n → P us := fun us hl => match us, hl.trans e with | [a0, a1, a2], _ => h a0 a1 a2
theorem bm4 {n : Nat} {P : List Value → Prop} (e : n = 4) (h : ∀ a0 a1 a2 a3 : Value, P [a0, a1, a2, a3]) : ∀ us : List Value, us.length = n → P us := fun us hl => match us, hl.trans e with | [a0, a1, a2, a3], _ => h a0 a1 a2 a3
theorem bm5 {n : Nat} {P : List Value → Prop} (e : n = 5) (h : ∀ a0 a1 a2 a3 a4 : Value, P [a0, a1, a2, a3, a4]) : ∀ us : List Value, us.length = n → P us := fun us hl => match us, hl.trans e with | [a0, a1, a2, a3, a4], _ => h a0 a1 a2 a3 a4
theorem bm6 {n : Nat} {P : List Value → Prop} (e : n = 6) (h : ∀ a0 a1 a2 a3 a4 a5 : Value, P [a0, a1, a2, a3, a4, a5]) : ∀ us : List Value, us.length = n → P us := fun us hl => match us, hl.trans e with | [a0, a1, a2, a3, a4, a5], _ => h a0 a1 a2 a3 a4 a5
theorem bm7 {n : Nat} {P : List Value → Prop} (e : n = 7) (h : ∀ a0 a1 a2 a3 a4 a5 a6 : Value, P [a0, a1, a2, a3, a4, a5, a6]) : ∀ us : List Value, us.length = n → P us := fun us hl => match us, hl.trans e with | [a0, a1, a2, a3, a4, a5, a6], _ => h a0 a1 a2 a3 a4 a5 a6
theorem bm8 {n : Nat} {P : List Value → Prop} (e : n = 8) (h : ∀ a0 a1 a2 a3 a4 a5 a6 a7 : Value, P [a0, a1, a2, a3, a4, a5, a6, a7]) : ∀ us : List Value, us.length = n → P us := fun us hl => match us, hl.trans e with | [a0, a1, a2, a3, a4, a5, a6, a7], _ => h a0 a1 a2 a3 a4 a5 a6 a7
theorem bm9 {n : Nat} {P : List Value → Prop} (e : n = 9) (h : ∀ a0 a1 a2 a3 a4 a5 a6 a7 a8 : Value, P [a0, a1, a2, a3, a4, a5, a6, a7, a8]) : ∀ us : List Value, us.length = n → P us := fun us hl => match us, hl.trans e with | [a0, a1, a2, a3, a4, a5, a6, a7, a8], _ => h a0 a1 a2 a3 a4 a5 a6 a7 a8
noncomputable def theFns (a : String) : Option Fn :=
  if a = "tidy" then some c_tidy else
  if a = "both" then some c_both else
  if a = "either" then some c_either else
  if a = "without" then some c_without else
  if a = "holds" then some c_holds else
  if a = "many" then some c_many else
  if a = "first_from" then some c_first_from else
  if a = "last_to" then some c_last_to else
  if a = "_law_at" then some c__law_at else
  if a = "_law_mix" then some c__law_mix else
  if a = "_law_folded" then some c__law_folded else
  if a = "_law_runs" then some c__law_runs else
  if a = "_law_marks" then some c__law_marks else
  if a = "_law_ways_good" then some c__law_ways_good else
  if a = "law" then some c_law_k29 else
  none
noncomputable def theGl (a : String) : Option D :=
  none
noncomputable def theMes (_a _b : String) : Option Fn :=
  none
noncomputable def theFld (_a _b : String) : Bool :=
  false
noncomputable def theEx (a : String) : Bool :=
  false
noncomputable def theTr (a : String) : Bool :=
  false
noncomputable def theExm (_a _b : String) : Option Bool :=
  none
noncomputable def theSub (_a _b : String) : Option Bool :=
  none
noncomputable def theProg : Prog := { fns := theFns, gl := theGl, fldOk := theFld, sub := theSub, mes := theMes, isEx := theEx, exm := theExm, isTr := theTr }
theorem sc_tidy : FnScope ["pairs", "told", "low", "high", "pair"] (c_tidy.ps.map Str.ofString) (defScope s_tidy) := ⟨rfl, rfl, rfl, by decide +kernel, by decide +kernel, by decide +kernel, by decide +kernel⟩
theorem ck_tidy : chkFn c_tidy ["pairs", "told", "low", "high", "pair"] s_tidy = true := by decide +kernel
theorem sc_both : FnScope ["one", "other", "told", "at", "to", "low", "high"] (c_both.ps.map Str.ofString) (defScope s_both) := ⟨rfl, rfl, rfl, by decide +kernel, by decide +kernel, by decide +kernel, by decide +kernel⟩
theorem ck_both : chkFn c_both ["one", "other", "told", "at", "to", "low", "high"] s_both = true := by decide +kernel
theorem sc_either : FnScope ["one", "other"] (c_either.ps.map Str.ofString) (defScope s_either) := ⟨rfl, rfl, rfl, by decide +kernel, by decide +kernel, by decide +kernel, by decide +kernel⟩
theorem ck_either : chkFn c_either ["one", "other"] s_either = true := by decide +kernel
theorem sc_without : FnScope ["one", "other", "told", "low", "high", "begin", "gone_low", "gone_high"] (c_without.ps.map Str.ofString) (defScope s_without) := ⟨rfl, rfl, rfl, by decide +kernel, by decide +kernel, by decide +kernel, by decide +kernel⟩
theorem ck_without : chkFn c_without ["one", "other", "told", "low", "high", "begin", "gone_low", "gone_high"] s_without = true := by decide +kernel
theorem sc_holds : FnScope ["spans", "hour", "low", "high"] (c_holds.ps.map Str.ofString) (defScope s_holds) := ⟨rfl, rfl, rfl, by decide +kernel, by decide +kernel, by decide +kernel, by decide +kernel⟩
theorem ck_holds : chkFn c_holds ["spans", "hour", "low", "high"] s_holds = true := by decide +kernel
theorem sc_many : FnScope ["spans", "low", "high"] (c_many.ps.map Str.ofString) (defScope s_many) := ⟨rfl, rfl, rfl, by decide +kernel, by decide +kernel, by decide +kernel, by decide +kernel⟩
theorem ck_many : chkFn c_many ["spans", "low", "high"] s_many = true := by decide +kernel
theorem sc_first_from : FnScope ["spans", "hour", "low", "high"] (c_first_from.ps.map Str.ofString) (defScope s_first_from) := ⟨rfl, rfl, rfl, by decide +kernel, by decide +kernel, by decide +kernel, by decide +kernel⟩
theorem ck_first_from : chkFn c_first_from ["spans", "hour", "low", "high"] s_first_from = true := by decide +kernel
theorem sc_last_to : FnScope ["spans", "hour", "low", "high"] (c_last_to.ps.map Str.ofString) (defScope s_last_to) := ⟨rfl, rfl, rfl, by decide +kernel, by decide +kernel, by decide +kernel, by decide +kernel⟩
theorem ck_last_to : chkFn c_last_to ["spans", "hour", "low", "high"] s_last_to = true := by decide +kernel
theorem sc__law_at : FnScope ["script", "k"] (c__law_at.ps.map Str.ofString) (defScope s__law_at) := ⟨rfl, rfl, rfl, by decide +kernel, by decide +kernel, by decide +kernel, by decide +kernel⟩
theorem ck__law_at : chkFn c__law_at ["script", "k"] s__law_at = true := by decide +kernel
theorem sc__law_mix : FnScope ["cell", "k", "size", "prime", "base", "mixed"] (c__law_mix.ps.map Str.ofString) (defScope s__law_mix) := ⟨rfl, rfl, rfl, by decide +kernel, by decide +kernel, by decide +kernel, by decide +kernel⟩
theorem ck__law_mix : chkFn c__law_mix ["cell", "k", "size", "prime", "base", "mixed"] s__law_mix = true := by decide +kernel
theorem sc__law_folded : FnScope ["script", "first", "most", "numbers", "k", "kept"] (c__law_folded.ps.map Str.ofString) (defScope s__law_folded) := ⟨rfl, rfl, rfl, by decide +kernel, by decide +kernel, by decide +kernel, by decide +kernel⟩
theorem ck__law_folded : chkFn c__law_folded ["script", "first", "most", "numbers", "k", "kept"] s__law_folded = true := by decide +kernel
theorem sc__law_runs : FnScope ["marks", "first", "told", "k"] (c__law_runs.ps.map Str.ofString) (defScope s__law_runs) := ⟨rfl, rfl, rfl, by decide +kernel, by decide +kernel, by decide +kernel, by decide +kernel⟩
theorem ck__law_runs : chkFn c__law_runs ["marks", "first", "told", "k"] s__law_runs = true := by decide +kernel
theorem sc__law_marks : FnScope ["numbers", "k", "cell", "j"] (c__law_marks.ps.map Str.ofString) (defScope s__law_marks) := ⟨rfl, rfl, rfl, by decide +kernel, by decide +kernel, by decide +kernel, by decide +kernel⟩
theorem ck__law_marks : chkFn c__law_marks ["numbers", "k", "cell", "j"] s__law_marks = true := by decide +kernel
theorem sc__law_ways_good : FnScope ["spans", "marks", "first", "k", "held", "later", "sooner", "j", "mark"] (c__law_ways_good.ps.map Str.ofString) (defScope s__law_ways_good) := ⟨rfl, rfl, rfl, by decide +kernel, by decide +kernel, by decide +kernel, by decide +kernel⟩
theorem ck__law_ways_good : chkFn c__law_ways_good ["spans", "marks", "first", "k", "held", "later", "sooner", "j", "mark"] s__law_ways_good = true := by decide +kernel
theorem sc_law : FnScope ["script", "first", "numbers", "one", "other", "mine", "yours", "pairs", "k", "left", "right"] (c_law_k29.ps.map Str.ofString) (defScope s_law) := ⟨rfl, rfl, rfl, by decide +kernel, by decide +kernel, by decide +kernel, by decide +kernel⟩
theorem ck_law : chkFn c_law_k29 ["script", "first", "numbers", "one", "other", "mine", "yours", "pairs", "k", "left", "right"] s_law = true := by decide +kernel
theorem all_mk {l : PySem.W.OpenLaw} {w : World} {K : PySem.W.Frag} {h : Heap} {mg : Str → Option Value} (LK : LawOk theProg 5) {fa f1 f2 f3 f4 f5 f6 f7 f8 f9 f10 f11 f12 f13 f14 f15 : Addr} {od1 an1 od2 an2 od3 an3 od4 an4 od5 an5 od6 an6 od7 an7 od8 an8 od9 an9 od10 an10 od11 an11 od12 an12 od13 an13 od14 an14 od15 an15 : Option Addr} {sl1 sl2 sl3 sl4 sl5 sl6 sl7 sl8 sl9 sl10 sl11 sl12 sl13 sl14 sl15 : Array (Option Value)} {oc1 kV1 dc1 pm1 cd1 ct1 oc2 kV2 dc2 pm2 cd2 ct2 oc3 kV3 dc3 pm3 cd3 ct3 oc4 kV4 dc4 pm4 cd4 ct4 oc5 kV5 dc5 pm5 cd5 ct5 oc6 kV6 dc6 pm6 cd6 ct6 oc7 kV7 dc7 pm7 cd7 ct7 oc8 kV8 dc8 pm8 cd8 ct8 oc9 kV9 dc9 pm9 cd9 ct9 oc10 kV10 dc10 pm10 cd10 ct10 oc11 kV11 dc11 pm11 cd11 ct11 oc12 kV12 dc12 pm12 cd12 ct12 oc13 kV13 dc13 pm13 cd13 ct13 oc14 kV14 dc14 pm14 cd14 ct14 oc15 kV15 dc15 pm15 cd15 ct15 : Value} (X : K.In h) (G : h.Ns mainGlobals mg) (hfa : mg "law" = some (.ref fa))
    (a1 : PySem.W.nsIn K mainGlobals "tidy" = some (some (.ref f1)))
    (l1 : K.lookup f1 = some ⟨oc1, od1, .func (PySem.W.fnOf "tidy" "tidy" (defArgs s_tidy) (defBody s_tidy) (defScope s_tidy) .none kV1 dc1 pm1 an1 cd1 ct1), sl1⟩)
    (c1 : PySem.W.codeIn K cd1 "tidy" = true)
    (k1 : PySem.W.keepIn K (.ref f1) = true)
    (a2 : PySem.W.nsIn K mainGlobals "both" = some (some (.ref f2)))
    (l2 : K.lookup f2 = some ⟨oc2, od2, .func (PySem.W.fnOf "both" "both" (defArgs s_both) (defBody s_both) (defScope s_both) .none kV2 dc2 pm2 an2 cd2 ct2), sl2⟩)
    (c2 : PySem.W.codeIn K cd2 "both" = true)
    (k2 : PySem.W.keepIn K (.ref f2) = true)
    (a3 : PySem.W.nsIn K mainGlobals "either" = some (some (.ref f3)))
    (l3 : K.lookup f3 = some ⟨oc3, od3, .func (PySem.W.fnOf "either" "either" (defArgs s_either) (defBody s_either) (defScope s_either) .none kV3 dc3 pm3 an3 cd3 ct3), sl3⟩)
    (c3 : PySem.W.codeIn K cd3 "either" = true)
    (k3 : PySem.W.keepIn K (.ref f3) = true)
    (a4 : PySem.W.nsIn K mainGlobals "without" = some (some (.ref f4)))
    (l4 : K.lookup f4 = some ⟨oc4, od4, .func (PySem.W.fnOf "without" "without" (defArgs s_without) (defBody s_without) (defScope s_without) .none kV4 dc4 pm4 an4 cd4 ct4), sl4⟩)
    (c4 : PySem.W.codeIn K cd4 "without" = true)
    (k4 : PySem.W.keepIn K (.ref f4) = true)
    (a5 : PySem.W.nsIn K mainGlobals "holds" = some (some (.ref f5)))
    (l5 : K.lookup f5 = some ⟨oc5, od5, .func (PySem.W.fnOf "holds" "holds" (defArgs s_holds) (defBody s_holds) (defScope s_holds) .none kV5 dc5 pm5 an5 cd5 ct5), sl5⟩)
    (c5 : PySem.W.codeIn K cd5 "holds" = true)
    (k5 : PySem.W.keepIn K (.ref f5) = true)
    (a6 : PySem.W.nsIn K mainGlobals "many" = some (some (.ref f6)))
    (l6 : K.lookup f6 = some ⟨oc6, od6, .func (PySem.W.fnOf "many" "many" (defArgs s_many) (defBody s_many) (defScope s_many) .none kV6 dc6 pm6 an6 cd6 ct6), sl6⟩)
    (c6 : PySem.W.codeIn K cd6 "many" = true)
    (k6 : PySem.W.keepIn K (.ref f6) = true)
    (a7 : PySem.W.nsIn K mainGlobals "first_from" = some (some (.ref f7)))
    (l7 : K.lookup f7 = some ⟨oc7, od7, .func (PySem.W.fnOf "first_from" "first_from" (defArgs s_first_from) (defBody s_first_from) (defScope s_first_from) .none kV7 dc7 pm7 an7 cd7 ct7), sl7⟩)
    (c7 : PySem.W.codeIn K cd7 "first_from" = true)
    (k7 : PySem.W.keepIn K (.ref f7) = true)
    (a8 : PySem.W.nsIn K mainGlobals "last_to" = some (some (.ref f8)))
    (l8 : K.lookup f8 = some ⟨oc8, od8, .func (PySem.W.fnOf "last_to" "last_to" (defArgs s_last_to) (defBody s_last_to) (defScope s_last_to) .none kV8 dc8 pm8 an8 cd8 ct8), sl8⟩)
    (c8 : PySem.W.codeIn K cd8 "last_to" = true)
    (k8 : PySem.W.keepIn K (.ref f8) = true)
    (a9 : PySem.W.nsIn K mainGlobals "_law_at" = some (some (.ref f9)))
    (l9 : K.lookup f9 = some ⟨oc9, od9, .func (PySem.W.fnOf "_law_at" "_law_at" (defArgs s__law_at) (defBody s__law_at) (defScope s__law_at) .none kV9 dc9 pm9 an9 cd9 ct9), sl9⟩)
    (c9 : PySem.W.codeIn K cd9 "_law_at" = true)
    (k9 : PySem.W.keepIn K (.ref f9) = true)
    (a10 : PySem.W.nsIn K mainGlobals "_law_mix" = some (some (.ref f10)))
    (l10 : K.lookup f10 = some ⟨oc10, od10, .func (PySem.W.fnOf "_law_mix" "_law_mix" (defArgs s__law_mix) (defBody s__law_mix) (defScope s__law_mix) .none kV10 dc10 pm10 an10 cd10 ct10), sl10⟩)
    (c10 : PySem.W.codeIn K cd10 "_law_mix" = true)
    (k10 : PySem.W.keepIn K (.ref f10) = true)
    (a11 : PySem.W.nsIn K mainGlobals "_law_folded" = some (some (.ref f11)))
    (l11 : K.lookup f11 = some ⟨oc11, od11, .func (PySem.W.fnOf "_law_folded" "_law_folded" (defArgs s__law_folded) (defBody s__law_folded) (defScope s__law_folded) .none kV11 dc11 pm11 an11 cd11 ct11), sl11⟩)
    (c11 : PySem.W.codeIn K cd11 "_law_folded" = true)
    (k11 : PySem.W.keepIn K (.ref f11) = true)
    (a12 : PySem.W.nsIn K mainGlobals "_law_runs" = some (some (.ref f12)))
    (l12 : K.lookup f12 = some ⟨oc12, od12, .func (PySem.W.fnOf "_law_runs" "_law_runs" (defArgs s__law_runs) (defBody s__law_runs) (defScope s__law_runs) .none kV12 dc12 pm12 an12 cd12 ct12), sl12⟩)
    (c12 : PySem.W.codeIn K cd12 "_law_runs" = true)
    (k12 : PySem.W.keepIn K (.ref f12) = true)
    (a13 : PySem.W.nsIn K mainGlobals "_law_marks" = some (some (.ref f13)))
    (l13 : K.lookup f13 = some ⟨oc13, od13, .func (PySem.W.fnOf "_law_marks" "_law_marks" (defArgs s__law_marks) (defBody s__law_marks) (defScope s__law_marks) .none kV13 dc13 pm13 an13 cd13 ct13), sl13⟩)
    (c13 : PySem.W.codeIn K cd13 "_law_marks" = true)
    (k13 : PySem.W.keepIn K (.ref f13) = true)
    (a14 : PySem.W.nsIn K mainGlobals "_law_ways_good" = some (some (.ref f14)))
    (l14 : K.lookup f14 = some ⟨oc14, od14, .func (PySem.W.fnOf "_law_ways_good" "_law_ways_good" (defArgs s__law_ways_good) (defBody s__law_ways_good) (defScope s__law_ways_good) .none kV14 dc14 pm14 an14 cd14 ct14), sl14⟩)
    (c14 : PySem.W.codeIn K cd14 "_law_ways_good" = true)
    (k14 : PySem.W.keepIn K (.ref f14) = true)
    (a15 : PySem.W.nsIn K mainGlobals "law" = some (some (.ref f15)))
    (l15 : K.lookup f15 = some ⟨oc15, od15, .func (PySem.W.fnOf "law" "law" (defArgs s_law) (defBody s_law) (defScope s_law) .none kV15 dc15 pm15 an15 cd15 ct15), sl15⟩)
    (c15 : PySem.W.codeIn K cd15 "law" = true)
    (k15 : PySem.W.keepIn K (.ref f15) = true)
    (z1 : PySem.W.nsIn K mainGlobals "abs" = some none)
    (z2 : PySem.W.nsIn K mainGlobals "all" = some none)
    (z3 : PySem.W.nsIn K mainGlobals "any" = some none)
    (z4 : PySem.W.nsIn K mainGlobals "bool" = some none)
    (z5 : PySem.W.nsIn K mainGlobals "enumerate" = some none)
    (z6 : PySem.W.nsIn K mainGlobals "int" = some none)
    (z7 : PySem.W.nsIn K mainGlobals "isinstance" = some none)
    (z8 : PySem.W.nsIn K mainGlobals "len" = some none)
    (z9 : PySem.W.nsIn K mainGlobals "list" = some none)
    (z10 : PySem.W.nsIn K mainGlobals "max" = some none)
    (z11 : PySem.W.nsIn K mainGlobals "min" = some none)
    (z12 : PySem.W.nsIn K mainGlobals "range" = some none)
    (z13 : PySem.W.nsIn K mainGlobals "reversed" = some none)
    (z14 : PySem.W.nsIn K mainGlobals "set" = some none)
    (z15 : PySem.W.nsIn K mainGlobals "sorted" = some none)
    (z16 : PySem.W.nsIn K mainGlobals "str" = some none)
    (z17 : PySem.W.nsIn K mainGlobals "sum" = some none)
    (z18 : PySem.W.nsIn K mainGlobals "tuple" = some none)
    (z19 : PySem.W.nsIn K mainGlobals "zip" = some none) :
    ∃ fd : FuncData, (∀ (s : Shared) (v : Value), BindsTo s fd ⟨[v], []⟩ [("script", v)]) ∧ ∀ base : Heap, K.In base → base.Ns mainGlobals mg → FnOk l.prog w K mg base (CX l.prog w) (5) fa fd ["script"] (Vd.spLaw K) := by
  have e := hfa.symm.trans (PySem.W.mg_of X G a15)
  cases e
  have F1 : FnFact K mg "tidy" c_tidy := fact_mk X G (c := c_tidy) (st := s_tidy) ["pairs", "told", "low", "high", "pair"] a1 l1 c1 k1 sc_tidy (bm1 rfl fun _ => rfl) ck_tidy
  have F2 : FnFact K mg "both" c_both := fact_mk X G (c := c_both) (st := s_both) ["one", "other", "told", "at", "to", "low", "high"] a2 l2 c2 k2 sc_both (bm2 rfl fun _ _ => rfl) ck_both
  have F3 : FnFact K mg "either" c_either := fact_mk X G (c := c_either) (st := s_either) ["one", "other"] a3 l3 c3 k3 sc_either (bm2 rfl fun _ _ => rfl) ck_either
  have F4 : FnFact K mg "without" c_without := fact_mk X G (c := c_without) (st := s_without) ["one", "other", "told", "low", "high", "begin", "gone_low", "gone_high"] a4 l4 c4 k4 sc_without (bm2 rfl fun _ _ => rfl) ck_without
  have F5 : FnFact K mg "holds" c_holds := fact_mk X G (c := c_holds) (st := s_holds) ["spans", "hour", "low", "high"] a5 l5 c5 k5 sc_holds (bm2 rfl fun _ _ => rfl) ck_holds
  have F6 : FnFact K mg "many" c_many := fact_mk X G (c := c_many) (st := s_many) ["spans", "low", "high"] a6 l6 c6 k6 sc_many (bm1 rfl fun _ => rfl) ck_many
  have F7 : FnFact K mg "first_from" c_first_from := fact_mk X G (c := c_first_from) (st := s_first_from) ["spans", "hour", "low", "high"] a7 l7 c7 k7 sc_first_from (bm2 rfl fun _ _ => rfl) ck_first_from
  have F8 : FnFact K mg "last_to" c_last_to := fact_mk X G (c := c_last_to) (st := s_last_to) ["spans", "hour", "low", "high"] a8 l8 c8 k8 sc_last_to (bm2 rfl fun _ _ => rfl) ck_last_to
  have F9 : FnFact K mg "_law_at" c__law_at := fact_mk X G (c := c__law_at) (st := s__law_at) ["script", "k"] a9 l9 c9 k9 sc__law_at (bm2 rfl fun _ _ => rfl) ck__law_at
  have F10 : FnFact K mg "_law_mix" c__law_mix := fact_mk X G (c := c__law_mix) (st := s__law_mix) ["cell", "k", "size", "prime", "base", "mixed"] a10 l10 c10 k10 sc__law_mix (bm3 rfl fun _ _ _ => rfl) ck__law_mix
  have F11 : FnFact K mg "_law_folded" c__law_folded := fact_mk X G (c := c__law_folded) (st := s__law_folded) ["script", "first", "most", "numbers", "k", "kept"] a11 l11 c11 k11 sc__law_folded (bm3 rfl fun _ _ _ => rfl) ck__law_folded
  have F12 : FnFact K mg "_law_runs" c__law_runs := fact_mk X G (c := c__law_runs) (st := s__law_runs) ["marks", "first", "told", "k"] a12 l12 c12 k12 sc__law_runs (bm2 rfl fun _ _ => rfl) ck__law_runs
  have F13 : FnFact K mg "_law_marks" c__law_marks := fact_mk X G (c := c__law_marks) (st := s__law_marks) ["numbers", "k", "cell", "j"] a13 l13 c13 k13 sc__law_marks (bm2 rfl fun _ _ => rfl) ck__law_marks
  have F14 : FnFact K mg "_law_ways_good" c__law_ways_good := fact_mk X G (c := c__law_ways_good) (st := s__law_ways_good) ["spans", "marks", "first", "k", "held", "later", "sooner", "j", "mark"] a14 l14 c14 k14 sc__law_ways_good (bm3 rfl fun _ _ _ => rfl) ck__law_ways_good
  have F15 : FnFact K mg "law" c_law_k29 := fact_mk X G (c := c_law_k29) (st := s_law) ["script", "first", "numbers", "one", "other", "mine", "yours", "pairs", "k", "left", "right"] a15 l15 c15 k15 sc_law (bm1 rfl fun _ => rfl) ck_law
  have T : TopFact theProg K mg := by
    refine ⟨fun f c h => ?_, fun f v h => ?_, ⟨PySem.W.mg_none_of X G z12, PySem.W.mg_none_of X G z19, PySem.W.mg_none_of X G z5, PySem.W.mg_none_of X G z13, PySem.W.mg_none_of X G z7⟩, ⟨PySem.W.mg_none_of X G z6, PySem.W.mg_none_of X G z4, PySem.W.mg_none_of X G z16, PySem.W.mg_none_of X G z9, PySem.W.mg_none_of X G z18⟩, fun x d h => ?_, fun c f h C hC => ?_, fun cl m c h => ?_, fun cl c h => ?_, fun c h => ?_, fun c t b h C hC => ?_, fun c t b h C hC => ?_, fun c h => ?_⟩
    · have h : theFns f = some c := h
      unfold theFns at h
      rcases ifc h with ⟨rfl, h⟩ | h
      · cases h; exact F1
      rcases ifc h with ⟨rfl, h⟩ | h
      · cases h; exact F2
      rcases ifc h with ⟨rfl, h⟩ | h
      · cases h; exact F3
      rcases ifc h with ⟨rfl, h⟩ | h
      · cases h; exact F4
      rcases ifc h with ⟨rfl, h⟩ | h
      · cases h; exact F5
      rcases ifc h with ⟨rfl, h⟩ | h
      · cases h; exact F6
      rcases ifc h with ⟨rfl, h⟩ | h
      · cases h; exact F7
      rcases ifc h with ⟨rfl, h⟩ | h
      · cases h; exact F8
      rcases ifc h with ⟨rfl, h⟩ | h
      · cases h; exact F9
      rcases ifc h with ⟨rfl, h⟩ | h
      · cases h; exact F10
      rcases ifc h with ⟨rfl, h⟩ | h
      · cases h; exact F11
      rcases ifc h with ⟨rfl, h⟩ | h
      · cases h; exact F12
      rcases ifc h with ⟨rfl, h⟩ | h
      · cases h; exact F13
      rcases ifc h with ⟨rfl, h⟩ | h
      · cases h; exact F14
      rcases ifc h with ⟨rfl, h⟩ | h
      · cases h; exact F15
      cases h
    · unfold biV at h
      split at h
      · exact PySem.W.mg_none_of X G z1
      · exact PySem.W.mg_none_of X G z10
      · exact PySem.W.mg_none_of X G z11
      · exact PySem.W.mg_none_of X G z8
      · exact PySem.W.mg_none_of X G z17
      · exact PySem.W.mg_none_of X G z3
      · exact PySem.W.mg_none_of X G z2
      · exact PySem.W.mg_none_of X G z6
      · exact PySem.W.mg_none_of X G z4
      · exact PySem.W.mg_none_of X G z9
      · exact PySem.W.mg_none_of X G z18
      · exact PySem.W.mg_none_of X G z15
      · exact PySem.W.mg_none_of X G z16
      · exact PySem.W.mg_none_of X G z14
      · cases h
    · have h : theGl x = some d := h
      unfold theGl at h
      cases h
    · have h : theFld c f = true := h
      unfold theFld at h
      cases h
    · have h : theMes cl m = some c := h
      unfold theMes at h
      cases h
    · have h : theMes cl "__init__" = some c := h
      unfold theMes at h
      cases h
    · have h : theEx c = true := h
      unfold theEx at h
      cases h
    · have h : theExm c t = some b := h
      unfold theExm at h
      cases h
    · have h : theSub c t = some b := h
      unfold theSub at h
      cases h
    · have h : theTr c = true := h
      unfold theTr at h
      cases h
  exact ⟨_, fun s v => .of_eq rfl, fun base _ _ => law_end T LK (by decide) (c := c_law_k29) rfl rfl (PySem.W.mg_of X G a15) l15⟩
theorem law_ok : LawOk theProg 5 := law_k29_ok rfl rfl rfl rfl rfl rfl rfl rfl rfl rfl rfl rfl rfl rfl rfl
end Vd
open PySem PySem.W PyProof.Rows
set_option maxHeartbeats 0 in
theorem PySem.Challenge.cw_beaconvale_k29_whole_hours_gone_through_holds : PySem.Challenge.rw_beaconvale_k29_whole_hours_gone_through.Holds := by
  w_on; o_law; k_head; (case hw => w_witness2)
  k_fill
  refine L2.walk_of (l := PySem.Challenge.rw_beaconvale_k29_whole_hours_gone_through) (n := 63) (k := 5) (x := "script") (CX := fun w => L2.CX PySem.Challenge.rw_beaconvale_k29_whole_hours_gone_through.prog w) (sp := fun w => Vd.spLaw _) rfl (by decide) rfl ⟨rfl, by decide, by decide⟩ (fun w h Y => PySem.W.kIn_of Y) ?F (fun _ _ a ns hl _ hS => ⟨a, ns, rfl, hS, hl, fun _ => rfl⟩) (fun _ H s e s' h => Vd.law_cx H s e s' h)
  case F =>
    intro w mg fa h KX G hmg
    refine' Vd.all_mk Vd.law_ok KX G hmg ?a1 ?l1 ?c1 ?k1 ?a2 ?l2 ?c2 ?k2 ?a3 ?l3 ?c3 ?k3 ?a4 ?l4 ?c4 ?k4 ?a5 ?l5 ?c5 ?k5 ?a6 ?l6 ?c6 ?k6 ?a7 ?l7 ?c7 ?k7 ?a8 ?l8 ?c8 ?k8 ?a9 ?l9 ?c9 ?k9 ?a10 ?l10 ?c10 ?k10 ?a11 ?l11 ?c11 ?k11 ?a12 ?l12 ?c12 ?k12 ?a13 ?l13 ?c13 ?k13 ?a14 ?l14 ?c14 ?k14 ?a15 ?l15 ?c15 ?k15 ?z1 ?z2 ?z3 ?z4 ?z5 ?z6 ?z7 ?z8 ?z9 ?z10 ?z11 ?z12 ?z13 ?z14 ?z15 ?z16 ?z17 ?z18 ?z19
    (case a1 => k_is); (case l1 => k_is); (case c1 => k_is); (case k1 => k_is); (case a2 => k_is); (case l2 => k_is); (case c2 => k_is); (case k2 => k_is); (case a3 => k_is); (case l3 => k_is); (case c3 => k_is); (case k3 => k_is); (case a4 => k_is); (case l4 => k_is); (case c4 => k_is); (case k4 => k_is); (case a5 => k_is); (case l5 => k_is); (case c5 => k_is); (case k5 => k_is); (case a6 => k_is); (case l6 => k_is); (case c6 => k_is); (case k6 => k_is); (case a7 => k_is); (case l7 => k_is); (case c7 => k_is); (case k7 => k_is); (case a8 => k_is); (case l8 => k_is); (case c8 => k_is); (case k8 => k_is); (case a9 => k_is); (case l9 => k_is); (case c9 => k_is); (case k9 => k_is); (case a10 => k_is); (case l10 => k_is); (case c10 => k_is); (case k10 => k_is); (case a11 => k_is); (case l11 => k_is); (case c11 => k_is); (case k11 => k_is); (case a12 => k_is); (case l12 => k_is); (case c12 => k_is); (case k12 => k_is); (case a13 => k_is); (case l13 => k_is); (case c13 => k_is); (case k13 => k_is); (case a14 => k_is); (case l14 => k_is); (case c14 => k_is); (case k14 => k_is); (case a15 => k_is); (case l15 => k_is); (case c15 => k_is); (case k15 => k_is); (case z1 => k_is); (case z2 => k_is); (case z3 => k_is); (case z4 => k_is); (case z5 => k_is); (case z6 => k_is); (case z7 => k_is); (case z8 => k_is); (case z9 => k_is); (case z10 => k_is); (case z11 => k_is); (case z12 => k_is); (case z13 => k_is); (case z14 => k_is); (case z15 => k_is); (case z16 => k_is); (case z17 => k_is); (case z18 => k_is); (case z19 => k_is)

