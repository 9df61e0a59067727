import PyProof.Rows.All
import Wide.All
import OpenK.AllK
import Wide.FinOn
import HandS.ForMost
import HandS.ForExc
import HandS.EndBits
import HandS.Wide
import HandS.Deep
import HandS.HeadHook1
import HandS.TupAny
import HandS.Style
import KE.DataCmp
import KE.DataMinMax
import HandS.SortInts
import HandS.IsInst
import HandS.Flow
import HandS.ExcOwn
import HandS.CallSlots
import HandS.Codes
import HandS.ExcIs
import HandS.ExcField
import HandS.ClsMeth
import KE.KExcIs
import HandS.Dict
import KE.KTryMore
import HandS.HeadHook2
import HandS.Head2
import PySem.Challenge.RW_bouncewise_k85_out_of_the_box
set_option Elab.async false
set_option linter.all false
set_option maxRecDepth 100000
set_option maxHeartbeats 4000000
/-! values with what never changes, a store of what does, a small syntax, its weakest conditions -/
namespace BW
open PySem PySem.Spec PyProof.Rows L2

/-! ### values, store -/
inductive Val where
  | non | bl (b : Bool) | int (i : Int) | str (x : Str) | tup (l : List Val) | ref (a : Addr) | sl (l : List Val) | ins (c : Nat) (fs : List (Nat × Val)) | exc (a : Addr) | clo (k : Nat) (l : List Val)
inductive Ob where
  | lst (l : List Val) | ins (c : Nat) (fs : List (Nat × Val)) | dK (kvs : List (L2.Key × Val)) | dT (kvs : List (List L2.Key × Val))
abbrev Store := Addr → Option Ob
def put (S : Store) (a : Addr) (o : Ob) : Store := fun b => if b = a then some o else S b
def del (S : Store) (a : Addr) : Store := fun b => if b = a then none else S b
theorem del_put {S : Store} {a : Addr} {o : Ob} (h : S a = none) : del (put S a o) a = S := by
  funext b
  unfold del put
  by_cases q : b = a
  · rw [if_pos q, q, h]
  · rw [if_neg q, if_neg q]
theorem del_sub {S : Store} {a : Addr} : ∀ b o, del S a b = some o → b ≠ a ∧ S b = some o := fun b o h => by
  unfold del at h
  by_cases q : b = a
  · rw [if_pos q] at h; cases h
  · rw [if_neg q] at h; exact ⟨q, h⟩
theorem put_same {S : Store} {a : Addr} {o : Ob} : put S a o a = some o := if_pos rfl
theorem put_ne {S : Store} {a b : Addr} {o : Ob} (h : b ≠ a) : put S a o b = S b := if_neg h
theorem put_put {S : Store} {a : Addr} {o u : Ob} : put (put S a o) a u = put S a u := by
  funext b; unfold put; split <;> rfl
def Sub (S S' : Store) : Prop := ∀ a o, S a = some o → S' a = some o
theorem Sub.refl {S : Store} : Sub S S := fun _ _ h => h
theorem Sub.trans {S S' S'' : Store} (h : Sub S S') (k : Sub S' S'') : Sub S S'' := fun a o e => k a o (h a o e)
theorem Sub.put {S : Store} {p : Addr} {o : Ob} (h : S p = none) : Sub S (put S p o) := fun a u e => by
  by_cases q : a = p
  · rw [q, h] at e; cases e
  · rw [put_ne q]; exact e
theorem ne_new {S : Store} {a p : Addr} {o : Ob} (h : S a = some o) (k : S p = none) : a ≠ p := fun e => by rw [e, k] at h; cases h
theorem put_old {S : Store} {a p : Addr} {o u : Ob} (h : S a = some o) (k : S p = none) : put S p u a = some o := (put_ne (ne_new h k)).trans h

/-- a list's items: it stands in the store, or is one that never changes -/
def getL (S : Store) : Val → (List Val → Prop) → Prop
  | .ref a, P => (match S a with
    | some (.lst l) => P l
    | _ => False)
  | .sl l, P => P l
  | _, _ => False
def LstAt (S : Store) (v : Val) (l : List Val) : Prop := (∃ a, v = .ref a ∧ S a = some (.lst l)) ∨ v = .sl l
theorem getL_iff {S : Store} {v : Val} {P : List Val → Prop} : getL S v P ↔ ∃ l, LstAt S v l ∧ P l := by
  constructor
  · intro h
    unfold getL at h
    split at h
    · split at h
      · rename_i l e; exact ⟨l, .inl ⟨_, rfl, e⟩, h⟩
      · exact h.elim
    · exact ⟨_, .inr rfl, h⟩
    · exact h.elim
  · rintro ⟨l, ⟨a, rfl, e⟩ | rfl, h⟩
    · unfold getL; simp only [e]; exact h
    · exact h

/-- an instance: its class, its fields -/
def getI (S : Store) : Val → (Nat → List (Nat × Val) → Prop) → Prop
  | .ref a, P => (match S a with
    | some (.ins c fs) => P c fs
    | _ => False)
  | .ins c fs, P => P c fs
  | _, _ => False
def InsAt (S : Store) (v : Val) (c : Nat) (fs : List (Nat × Val)) : Prop := (∃ a, v = .ref a ∧ S a = some (.ins c fs)) ∨ v = .ins c fs
theorem getI_iff {S : Store} {v : Val} {P : Nat → List (Nat × Val) → Prop} : getI S v P ↔ ∃ c fs, InsAt S v c fs ∧ P c fs := by
  constructor
  · intro h
    unfold getI at h
    split at h
    · split at h
      · rename_i c fs e; exact ⟨c, fs, .inl ⟨_, rfl, e⟩, h⟩
      · exact h.elim
    · exact ⟨_, _, .inr rfl, h⟩
    · exact h.elim
  · rintro ⟨c, fs, ⟨a, rfl, e⟩ | rfl, h⟩
    · unfold getI; simp only [e]; exact h
    · exact h
/-- a dict asked -/
def valD {κ : Type} [DecidableEq κ] (kvs : List (κ × Val)) (k : κ) : Option Val := (kvs.find? fun kv => decide (kv.1 = k)).map (·.2)
def putD {κ : Type} [DecidableEq κ] (kvs : List (κ × Val)) (k : κ) (v : Val) : List (κ × Val) := if (kvs.any fun kv => decide (kv.1 = k)) = true then kvs.map fun kv => if kv.1 = k then (kv.1, v) else kv else kvs ++ [(k, v)]
def dropD {κ : Type} [DecidableEq κ] (kvs : List (κ × Val)) (k : κ) : List (κ × Val) := kvs.filter fun kv => decide (kv.1 ≠ k)
def keyV : Val → Option L2.Key
  | .int i => some (.inl i)
  | .str x => some (.inr x)
  | _ => none
def keysV : List Val → Option (List L2.Key)
  | [] => some []
  | v :: r => match keyV v, keysV r with
    | some k, some ks => some (k :: ks)
    | _, _ => none
def dGet (S : Store) : Val → Val → (Option Val → Prop) → Prop
  | .ref a, k, P => (match S a, k with
    | some (.dK kvs), k => ∃ q, keyV k = some q ∧ P (valD kvs q)
    | some (.dT kvs), .tup l => ∃ q, keysV l = some q ∧ P (valD kvs q)
    | _, _ => False)
  | _, _, _ => False
def dPut (S : Store) : Val → Val → Val → (Store → Prop) → Prop
  | .ref a, k, v, P => (match S a, k with
    | some (.dK kvs), k => ∃ q, keyV k = some q ∧ kvs.length < 16777216 ∧ P (put S a (.dK (putD kvs q v)))
    | some (.dT kvs), .tup l => ∃ q, keysV l = some q ∧ kvs.length < 16777216 ∧ P (put S a (.dT (putD kvs q v)))
    | _, _ => False)
  | _, _, _, _ => False
def isDic (S : Store) : Val → Prop
  | .ref a => (match S a with
    | some (.dK _) => True
    | some (.dT _) => True
    | _ => False)
  | _ => False

structure Exn where
  c : Nat
  fs : List (Nat × Val)
structure RSpec where
  pre : Prop
  ret : Val → Store → Prop
  exn : Exn → Store → Prop
abbrev Spec := List Val → Store → RSpec
/-- one of these classes -/
def isAny (f : Nat → Option Bool) : List Nat → Option Bool
  | [] => some false
  | c :: r => match f c with
    | some true => some true
    | some false => isAny f r
    | none => none
/-- what the text's names stand for: a function's contract, a class's method, its maker, its fields -/
structure Tb where
  fn : Nat → Spec
  mt : Nat → Nat → Option Nat
  mkr : Nat → Option Nat
  fl : Nat → Nat → Bool
  isc : Nat → Nat → Option Bool
  exm : Nat → Nat → Option Bool
  ex : Option (Addr × Nat × List (Nat × Val)) := none

/-! ### the syntax -/
inductive Bop where | add | sub | mul | fdiv | mod | pow | addM | mulM | bor | band | shl
  deriving DecidableEq
inductive Cop where | eq | ne | lt | le | gt | ge | is | isnot | in_ | notin
  deriving DecidableEq
inductive Bi where | abs | len | max2 | min2 | int | sorted | tuple | list | str | sum | max1 | min1 | any | all | divmod | listM | sortedM | listrev | listrevM | intS
  deriving DecidableEq
inductive Sm where | split | join | starts | part | repl | index | count | lower
  deriving DecidableEq
inductive Ty where | bool | int | tuple | list | str
  deriving DecidableEq
inductive Tg where | nm (i : Nat) | tp (is : List Nat)
inductive ItK where | seq | range | enum | zip | rev | revr
  deriving DecidableEq
inductive Ex where
  | var (i : Nat) | lit (v : Val)
  | bin (o : Bop) (a b : Ex) | neg (a : Ex) | nott (a : Ex)
  | cmp (o : Cop) (a b : Ex) | chain (o1 o2 : Cop) (a b c : Ex)
  | andd (a b : Ex) | orr (a b : Ex) | ife (t a b : Ex)
  | nil | cons (a as : Ex)
  | tup (as : Ex) | lst (m : Bool) (as : Ex)
  | idx (a i : Ex) | slc (m : Bool) (a lo hi : Ex)
  | fld (a : Ex) (f : Nat)
  | call (f : Nat) (as : Ex) (d : List Val)
  | meth (a : Ex) (m : Nat) (as : Ex)
  | new (c : Nat) (m : Bool) (as : Ex) (d : List Val)
  | sup (c m : Nat) (as : Ex)
  | blt (b : Bi) (as : Ex)
  | isty (a : Ex) (t : Ty)
  | iscl (a : Ex) (c : Nat)
  | exis (i : Nat) (cs : List Nat) | exfl (i f : Nat)
  | dnew (t : Bool) | dget (d k : Ex) | din (n : Bool) (k d : Ex) | dget2 (d k x : Ex) | dpop (d k : Ex)
  | sm (m : Sm) (a as : Ex)
  | clo (k : Nat) (as : Ex) | ccall (f as : Ex)
  | comp (m : Bool) (own : List Nat) (g : Tg) (k : ItK) (as : Ex) (hc : Bool) (cond elt : Ex)

/-! ### the operations -/
def LIM : Nat := 16777216
def MulOk (i j : Int) : Prop := i.natAbs.log2 + j.natAbs.log2 < 100000000
def DivOk (_ j : Int) : Prop := j ≠ 0 ∧ j.natAbs.log2 < 9000
abbrev QV := Val → Store → Prop
def opB : Bop → Val → Val → Store → QV → Prop
  | .add, .int i, .int j, S, Q => Q (.int (i + j)) S
  | .add, .str x, .str y, S, Q => x.length + y.length ≤ LIM ∧ Q (.str (x ++ y)) S
  | .add, .tup a, .tup b, S, Q => a.length + b.length ≤ LIM ∧ Q (.tup (a ++ b)) S
  | .add, x, y, S, Q => getL S x fun l => getL S y fun m => l.length + m.length ≤ LIM ∧ Q (.sl (l ++ m)) S
  | .addM, x, y, S, Q => getL S x fun l => getL S y fun m => l.length + m.length ≤ LIM ∧ ∀ p, S p = none → Q (.ref p) (put S p (.lst (l ++ m)))
  | .sub, .int i, .int j, S, Q => Q (.int (i - j)) S
  | .mul, .int i, .int j, S, Q => MulOk i j ∧ Q (.int (i * j)) S
  | .mul, x, .int j, S, Q => getL S x fun l => (j < 2 ^ 63 ∧ -(2 ^ 63) ≤ j ∧ l.length * j.toNat ≤ LIM) ∧ Q (.sl (List.replicate j.toNat l).flatten) S
  | .mulM, x, .int j, S, Q => getL S x fun l => (j < 2 ^ 63 ∧ -(2 ^ 63) ≤ j ∧ l.length * j.toNat ≤ LIM) ∧ ∀ p, S p = none → Q (.ref p) (put S p (.lst (List.replicate j.toNat l).flatten))
  | .fdiv, .int i, .int j, S, Q => DivOk i j ∧ Q (.int (i.fdiv j)) S
  | .mod, .int i, .int j, S, Q => j ≠ 0 ∧ Q (.int (i.fmod j)) S
  | .pow, .int i, .int j, S, Q => (0 ≤ j ∧ j ≤ 1000 ∧ i.natAbs < 2 ^ 64) ∧ Q (.int (i ^ j.toNat)) S
  | _, _, _, _, _ => False

mutual
inductive Dt (S : Store) : Val → PyData → Prop
  | non : Dt S .non .none
  | bl (b : Bool) : Dt S (.bl b) (.bool b)
  | int (i : Int) : Dt S (.int i) (.int i)
  | str (x : Str) : Dt S (.str x) (.str x)
  | tup {l : List Val} {ds : List PyData} : Dts S l ds → Dt S (.tup l) (.tuple ds)
  | lst {v : Val} {l : List Val} {ds : List PyData} : LstAt S v l → Dts S l ds → Dt S v (.list ds)
inductive Dts (S : Store) : List Val → List PyData → Prop
  | nil : Dts S [] []
  | cons {v : Val} {l : List Val} {d : PyData} {ds : List PyData} : Dt S v d → Dts S l ds → Dts S (v :: l) (d :: ds)
end

def Val.isNon : Val → Bool
  | .non => true
  | _ => false
def isTF : Val → Bool → (Bool → Prop) → Prop
  | .int _, _, P => P false
  | .non, _, P => P false
  | .tup _, _, P => P false
  | _, _, _ => False
def Val.ofInt : Val → Option Int
  | .int i => some i
  | _ => none
def ltI : Val → Val → (Bool → Prop) → (Int → Int → Bool) → (List Int → List Int → Bool) → Prop
  | .int i, .int j, P, f, _ => P (f i j)
  | .tup a, .tup b, P, _, g => ∃ ns ms : List Int, a = ns.map .int ∧ b = ms.map .int ∧ P (g ns ms)
  | _, _, _, _, _ => False
def tupLt : Val → Val → (Bool → Prop) → Prop
  | .tup a, .tup b, P => ∃ ns ms : List Int, a = ns.map .int ∧ b = ms.map .int ∧ P (HT.lexLt ns ms)
  | .int i, .int j, P => P (decide (i < j))
  | .str x, .str y, P => P (decide (x.cps.toList < y.cps.toList))
  | _, _, _ => False
def Val.eqF : Val → Val → Bool
  | .non, .non => true
  | .bl a, .bl b => a == b
  | .int a, .int b => a == b
  | .bl a, .int b => (if a then 1 else 0) == b
  | .int a, .bl b => a == (if b then 1 else 0)
  | .str a, .str b => a == b
  | _, _ => false
/-- the items of a list or tuple -/
def seqOf (S : Store) : Val → (List Val → Prop) → Prop
  | .tup l, P => P l
  | x, P => getL S x P
def inOp (S : Store) (x y : Val) (P : Bool → Prop) : Prop := match x, y with
  | .str c, .str z => P (!(Builtin.Str.occurrences z c 0 z.length 1).isEmpty)
  | x, y => seqOf S y fun l => ∃ d ds, Dt S x d ∧ Dts S l ds ∧ SeqAt.shaped d = true ∧ SeqAt.shaped (.list ds) = true ∧ P (ds.any fun e => PyData.eqv e d)
def opC : Cop → Val → Val → Store → (Bool → Prop) → Prop
  | .eq, x, y, S, P => ∃ d e, Dt S x d ∧ Dt S y e ∧ SeqAt.shaped d = true ∧ SeqAt.shaped e = true ∧ P (PyData.eqv d e)
  | .ne, x, y, S, P => ∃ d e, Dt S x d ∧ Dt S y e ∧ SeqAt.shaped d = true ∧ SeqAt.shaped e = true ∧ P (!PyData.eqv d e)
  | .lt, x, y, _, P => tupLt x y P
  | .le, x, y, _, P => ltI x y P (fun i j => decide (i ≤ j)) fun a b => !HT.lexLt b a
  | .gt, x, y, _, P => ltI x y P (fun i j => decide (j < i)) fun a b => HT.lexLt b a
  | .ge, x, y, _, P => ltI x y P (fun i j => decide (j ≤ i)) fun a b => !HT.lexLt a b
  | .is, .bl x, .bl y, _, P => P (decide (x = y))
  | .isnot, .bl x, .bl y, _, P => P (!decide (x = y))
  | .is, x, .bl y, _, P => isTF x y P
  | .isnot, x, .bl y, _, P => isTF x y fun b => P (!b)
  | .is, x, y, _, P => y.isNon = true ∧ P x.isNon
  | .isnot, x, y, _, P => y.isNon = true ∧ P (!x.isNon)
  | .in_, x, y, S, P => inOp S x y P
  | .notin, x, y, S, P => inOp S x y fun b => P (!b)
def tru : Val → Store → (Bool → Prop) → Prop
  | .non, _, P => P false
  | .bl b, _, P => P b
  | .int i, _, P => P (i != 0)
  | .str x, _, P => x.length ≤ LIM ∧ P ((x.length : Int) != 0)
  | .tup l, _, P => P (!l.isEmpty)
  | x, S, P => getL S x fun l => P (!l.isEmpty)
def opIx : Val → Val → Store → QV → Prop
  | .tup l, .int i, S, Q => ∃ v, atI l i = some v ∧ Q v S
  | .str z, .int i, S, Q => z.length ≤ LIM ∧ ∃ c, atI z.cps.toList i = some c ∧ Q (.str ⟨#[c]⟩) S
  | x, .int i, S, Q => getL S x fun l => ∃ v, atI l i = some v ∧ Q v S
  | _, _, _, _ => False
def cutG {α : Type} (xs : List α) (lo hi : Option Int) : List α := (xs.drop (HT.sIx xs.length 0 lo)).take (HT.sIx xs.length xs.length hi - HT.sIx xs.length 0 lo)
def cutT (z : Str) (lo hi : Option Int) : Str := cutS z lo hi
def opSl : Bool → Val → Option Int → Option Int → Store → QV → Prop
  | _, .tup l, lo, hi, S, Q => Q (.tup (cutG l lo hi)) S
  | _, .str z, lo, hi, S, Q => z.length ≤ LIM ∧ Q (.str (cutT z lo hi)) S
  | false, x, lo, hi, S, Q => getL S x fun l => Q (.sl (cutG l lo hi)) S
  | true, x, lo, hi, S, Q => getL S x fun l => ∀ p, S p = none → Q (.ref p) (put S p (.lst (cutG l lo hi)))
def intsOf : List Val → (List Int → Prop) → Prop := fun l P => ∃ ns : List Int, l = ns.map .int ∧ P ns
def lexLe (a b : Int × Int) : Bool := decide (a.1 < b.1) || (decide (a.1 = b.1) && decide (a.2 ≤ b.2))
def opBi : Bi → List Val → Store → QV → Prop
  | .abs, [.int i], S, Q => Q (.int (if i < 0 then -i else i)) S
  | .len, [.tup l], S, Q => Q (.int l.length) S
  | .len, [.str z], S, Q => z.length ≤ LIM ∧ Q (.int z.length) S
  | .len, [x], S, Q => getL S x fun l => Q (.int l.length) S
  | .max2, [.int i, .int j], S, Q => Q (.int (if j > i then j else i)) S
  | .min2, [.int i, .int j], S, Q => Q (.int (if j < i then j else i)) S
  | .max2, [.tup a, .tup b], S, Q => ∃ ns ms : List Int, a = ns.map .int ∧ b = ms.map .int ∧ Q (.tup (if HT.lexLt ns ms = true then b else a)) S
  | .min2, [.tup a, .tup b], S, Q => ∃ ns ms : List Int, a = ns.map .int ∧ b = ms.map .int ∧ Q (.tup (if HT.lexLt ms ns = true then b else a)) S
  | .int, [.int i], S, Q => Q (.int i) S
  | .int, [.bl k], S, Q => Q (.int (if k then 1 else 0)) S
  | .intS, [.str x], S, Q => ∃ n, PySem.intText? x = some n ∧ x.length ≤ 640 ∧ Q (.int n) S
  | .sorted, [x], S, Q => getL S x fun l => intsOf l fun ns => ∀ (ns' : List Int), ns'.Perm ns → ns'.Pairwise (· ≤ ·) → Q (.sl (ns'.map .int)) S
  | .sortedM, [x], S, Q => getL S x fun l => intsOf l fun ns => ∀ (ns' : List Int) (p : Addr), ns'.Perm ns → ns'.Pairwise (· ≤ ·) → S p = none → Q (.ref p) (put S p (.lst (ns'.map .int)))
  | .tuple, [.tup l], S, Q => Q (.tup l) S
  | .tuple, [x], S, Q => getL S x fun l => Q (.tup l) S
  | .list, [.tup l], S, Q => Q (.sl l) S
  | .list, [x], S, Q => getL S x fun l => Q (.sl l) S
  | .listM, [.tup l], S, Q => ∀ p, S p = none → Q (.ref p) (put S p (.lst l))
  | .listM, [x], S, Q => getL S x fun l => ∀ p, S p = none → Q (.ref p) (put S p (.lst l))
  | .str, [.int i], S, Q => i.natAbs.log2 < 1920 ∧ Q (.str (toString i)) S
  | .sum, [x], S, Q => getL S x fun l => intsOf l fun ns => Q (.int ns.sum) S
  | .any, [x], S, Q => getL S x fun l => ∃ bs : List Bool, l = bs.map .bl ∧ Q (.bl (bs.any id)) S
  | .all, [x], S, Q => getL S x fun l => ∃ bs : List Bool, l = bs.map .bl ∧ Q (.bl (bs.all id)) S
  | .max1, [.tup l], S, Q => intsOf l fun ns => 0 < ns.length ∧ ∀ m, m ∈ ns → (∀ k ∈ ns, k ≤ m) → Q (.int m) S
  | .min1, [.tup l], S, Q => intsOf l fun ns => 0 < ns.length ∧ ∀ m, m ∈ ns → (∀ k ∈ ns, m ≤ k) → Q (.int m) S
  | .max1, [x], S, Q => getL S x fun l => intsOf l fun ns => 0 < ns.length ∧ ∀ m, m ∈ ns → (∀ k ∈ ns, k ≤ m) → Q (.int m) S
  | .min1, [x], S, Q => getL S x fun l => intsOf l fun ns => 0 < ns.length ∧ ∀ m, m ∈ ns → (∀ k ∈ ns, m ≤ k) → Q (.int m) S
  | .divmod, [.int i, .int j], S, Q => DivOk i j ∧ Q (.tup [.int (i.fdiv j), .int (i.fmod j)]) S
  | _, _, _, _ => False
/-- the methods of a text -/
def opSm : Sm → Val → List Val → Store → QV → Prop
  | _, _, _, _, _ => False
def tyIs : Ty → Val → Store → (Bool → Prop) → Prop
  | t, .sl _, _, P => P (t == .list)
  | t, .non, _, P => P false
  | t, .bl _, _, P => P (t == .bool || t == .int)
  | t, .int _, _, P => P (t == .int)
  | t, .str _, _, P => P (t == .str)
  | t, .tup _, _, P => P (t == .tuple)
  | _, .exc _, _, _ => False
  | _, .clo _ _, _, _ => False
  | _, .ins _ _, _, _ => False
  | t, .ref a, S, P => match S a with
    | some (.lst _) => P (t == .list)
    | _ => False
def wCall (T : Tb) (f : Nat) (vs : List Val) (S : Store) (Q : QV) (E : Exn → Store → Prop) : Prop :=
  (T.fn f vs S).pre ∧ (∀ v S', (T.fn f vs S).ret v S' → Q v S') ∧ ∀ x S', (T.fn f vs S).exn x S' → E x S'

abbrev Ev := List (Option Val)
def tgt : Tg → Val → Ev → (Ev → Prop) → Prop
  | .nm i, v, env, Q => Q (env.set i (some v))
  | .tp is, .tup l, env, Q => l.length = is.length ∧ Q ((is.zip l).foldl (fun e p => e.set p.1 (some p.2)) env)
  | _, _, _, _ => False
def wipeE (env : Ev) : List Nat → Ev
  | [] => env
  | v :: vs => (wipeE env vs).set v none
/-- what a loop walks: the items, and what must stay of the store meanwhile -/
def itK : ItK → List Val → Store → ((Store → Prop) → List Val → Prop) → Prop
  | .seq, [.tup l], _, R => R (fun _ => True) l
  | .seq, [x], S, R => getL S x fun l => R (fun S' => LstAt S' x l) l
  | .range, [.int j], _, R => (-(2 ^ 62) ≤ j ∧ j < 2 ^ 62) ∧ R (fun _ => True) ((List.range j.toNat).map fun k => .int (k : Nat))
  | .range, [.int i, .int j], _, R => (-(2 ^ 62) ≤ i ∧ i < 2 ^ 62 ∧ -(2 ^ 62) ≤ j ∧ j < 2 ^ 62) ∧ R (fun _ => True) ((List.range (j - i).toNat).map fun k => .int (i + (k : Nat)))
  | .range, [.int i, .int j, .int c], _, R => (-(2 ^ 62) ≤ i ∧ i < 2 ^ 62 ∧ -(2 ^ 62) ≤ j ∧ j < 2 ^ 62 ∧ 0 < c ∧ c < 1073741824) ∧
      R (fun _ => True) ((List.range (Builtin.Range.rangeSize i j c).toNat).map fun k => .int (i + (k : Nat) * c))
  | .enum, [x], S, R => getL S x fun l => R (fun S' => LstAt S' x l) (l.zipIdx.map fun p => .tup [.int (p.2 : Nat), p.1])
  | .zip, [x, y], S, R => getL S x fun l => getL S y fun m => R (fun S' => LstAt S' x l ∧ LstAt S' y m) ((l.zip m).map fun p => .tup [p.1, p.2])
  | .rev, [x], S, R => getL S x fun l => R (fun S' => LstAt S' x l) l.reverse
  | .revr, [.int j], _, R => (0 ≤ j ∧ j < 2 ^ 62) ∧ R (fun _ => True) ((List.range j.toNat).map fun k => .int (j - 1 - (k : Nat)))
  | _, _, _, _ => False
/-- a comprehension's turns: D the list that is made -/
def wTurns (G : Store → Prop) (g : Val → (Ev → Prop) → Prop) (c : Ev → Store → (Bool → Store → Prop) → Prop) (e : Ev → Store → QV → Prop) (D : Addr) (Q : QV) : List Val → Store → Prop
  | [], S => G S ∧ Q (.ref D) S
  | x :: r, S => G S ∧ g x fun env => c env S fun b S1 => if b = true then e env S1 fun y S2 => ∃ acc, S2 D = some (.lst acc) ∧ acc.length < LIM ∧ wTurns G g c e D Q r (put S2 D (.lst (acc ++ [y]))) else wTurns G g c e D Q r S1
/-- the end of a list that is made: it is kept in the store, or never changes from here on -/
def endC (m : Bool) (D : Addr) (Q : QV) : QV := fun v S => match m with
  | true => Q v S
  | false => ∃ l, S D = some (.lst l) ∧ Q (.sl l) (del S D)
def optI : Val → (Option Int → Prop) → Prop
  | .int i, P => P (some i)
  | _, _ => False
mutual
def wE (T : Tb) : Ex → Ev → Store → QV → (Exn → Store → Prop) → Prop
  | .var i, env, S, Q, _ => ∃ v, env[i]? = some (some v) ∧ Q v S
  | .lit v, _, S, Q, _ => Q v S
  | .bin o a b, env, S, Q, E => wE T a env S (fun x S1 => wE T b env S1 (fun y S2 => opB o x y S2 Q) E) E
  | .neg a, env, S, Q, E => wE T a env S (fun x S1 => ∃ i, x = .int i ∧ Q (.int (-i)) S1) E
  | .nott a, env, S, Q, E => wT T a env S (fun b S1 => Q (.bl (!b)) S1) E
  | .cmp o a b, env, S, Q, E => wE T a env S (fun x S1 => wE T b env S1 (fun y S2 => opC o x y S2 fun t => Q (.bl t) S2) E) E
  | .chain o1 o2 a b c, env, S, Q, E => wE T a env S (fun x S1 => wE T b env S1 (fun y S2 => opC o1 x y S2 fun t => if t = true then wE T c env S2 (fun z S3 => opC o2 y z S3 fun t => Q (.bl t) S3) E else Q (.bl false) S2) E) E
  | .andd a b, env, S, Q, E => wE T a env S (fun x S1 => tru x S1 fun t => if t = true then wE T b env S1 Q E else Q x S1) E
  | .orr a b, env, S, Q, E => wE T a env S (fun x S1 => tru x S1 fun t => if t = true then Q x S1 else wE T b env S1 Q E) E
  | .ife t a b, env, S, Q, E => wT T t env S (fun c S1 => if c = true then wE T a env S1 Q E else wE T b env S1 Q E) E
  | .nil, _, _, _, _ => False
  | .cons _ _, _, _, _, _ => False
  | .tup as, env, S, Q, E => wA T as env S (fun vs S1 => Q (.tup vs) S1) E
  | .lst m as, env, S, Q, E => wA T as env S (fun vs S1 => if m = true then ∀ p, S1 p = none → Q (.ref p) (put S1 p (.lst vs)) else Q (.sl vs) S1) E
  | .idx a i, env, S, Q, E => wE T a env S (fun x S1 => wE T i env S1 (fun y S2 => opIx x y S2 Q) E) E
  | .slc m a lo hi, env, S, Q, E => wE T a env S (fun x S1 => wO T lo env S1 (fun l S2 => wO T hi env S2 (fun h S3 => opSl m x l h S3 Q) E) E) E
  | .fld a f, env, S, Q, E => wE T a env S (fun x S1 => getI S1 x fun c fs => (T.fl c f = true ∧ c < 9) ∧ ∃ v, fs.lookup f = some v ∧ Q v S1) E
  | .call f as d, env, S, Q, E => wA T as env S (fun vs S1 => wCall T f (vs ++ d) S1 Q E) E
  | .meth a m as, env, S, Q, E => wE T a env S (fun x S1 => getI S1 x fun c fs => fs.lookup m = none ∧ ∃ g, T.mt c m = some g ∧ wA T as env S1 (fun vs S2 => wCall T g (x :: vs) S2 Q E) E) E
  | .new c m as d, env, S, Q, E => wA T as env S (fun vs S1 => ∃ g, T.mkr c = some g ∧ ∀ p, S1 p = none → wCall T g (.ref p :: (vs ++ d)) (put S1 p (.ins c [])) (fun v S2 => v = .non ∧ if m = true then Q (.ref p) S2 else ∃ fs, S2 p = some (.ins c fs) ∧ Q (.ins c fs) (del S2 p)) E) E
  | .sup c m as, env, S, Q, E => wA T as env S (fun vs S1 => ∃ g, T.mkr c = some g ∧ wCall T g vs S1 Q E) E
  | .blt b as, env, S, Q, E => wA T as env S (fun vs S1 => opBi b vs S1 Q) E
  | .isty a t, env, S, Q, E => wE T a env S (fun x S1 => tyIs t x S1 fun b => Q (.bl b) S1) E
  | .iscl a c, env, S, Q, E => wE T a env S (fun x S1 => getI S1 x fun d _ => ∃ b, (T.isc d c = some b ∧ d < 9) ∧ Q (.bl b) S1) E
  | .exis i cs, env, S, Q, _ => ∃ a d fs, env[i]? = some (some (.exc a)) ∧ (T.ex = some (a, d, fs) ∧ 9 ≤ d) ∧ ∃ b, isAny (T.isc d) cs = some b ∧ Q (.bl b) S
  | .exfl i f, env, S, Q, _ => ∃ a d fs v, env[i]? = some (some (.exc a)) ∧ (T.ex = some (a, d, fs) ∧ 9 ≤ d ∧ T.fl d f = true) ∧ fs.lookup f = some v ∧ Q v S
  | .dnew t, _, S, Q, _ => ∀ p, S p = none → Q (.ref p) (put S p (if t = true then .dT [] else .dK []))
  | .dget d k, env, S, Q, E => wE T d env S (fun x S1 => wE T k env S1 (fun y S2 => dGet S2 x y fun o => ∃ v, o = some v ∧ Q v S2) E) E
  | .din n k d, env, S, Q, E => wE T k env S (fun y S1 => wE T d env S1 (fun x S2 => dGet S2 x y fun o => Q (.bl (if n = true then !o.isSome else o.isSome)) S2) E) E
  | .dget2 d k z, env, S, Q, E => wE T d env S (fun x S1 => isDic S1 x ∧ wE T k env S1 (fun y S2 => wE T z env S2 (fun u S3 => dGet S3 x y fun o => Q (o.getD u) S3) E) E) E
  | .dpop _ _, _, _, _, _ => False
  | .sm m a as, env, S, Q, E => wE T a env S (fun x S1 => wA T as env S1 (fun vs S2 => opSm m x vs S2 Q) E) E
  | .clo _ _, _, _, _, _ => False
  | .ccall _ _, _, _, _, _ => False
  | .comp m own g k as hc cond elt, env, S, Q, E => wA T as env S (fun vs S1 => itK k vs S1 fun G items => ∀ D, S1 D = none →
      wTurns G (fun x P => tgt g x (wipeE env own) P) (fun e2 S2 P => if hc = true then wT T cond e2 S2 P fun _ _ => False else P true S2) (fun e2 S2 P => wE T elt e2 S2 P fun _ _ => False) D (endC m D Q) items (put S1 D (.lst []))) E
def wT (T : Tb) : Ex → Ev → Store → (Bool → Store → Prop) → (Exn → Store → Prop) → Prop
  | .cmp o a b, env, S, Q, E => wE T a env S (fun x S1 => wE T b env S1 (fun y S2 => opC o x y S2 fun t => Q t S2) E) E
  | .chain o1 o2 a b c, env, S, Q, E => wE T a env S (fun x S1 => wE T b env S1 (fun y S2 => opC o1 x y S2 fun t => if t = true then wE T c env S2 (fun z S3 => opC o2 y z S3 fun t => Q t S3) E else Q false S2) E) E
  | .nott a, env, S, Q, E => wT T a env S (fun b S1 => Q (!b) S1) E
  | .andd a b, env, S, Q, E => wT T a env S (fun t S1 => if t = true then wT T b env S1 Q E else Q false S1) E
  | .orr a b, env, S, Q, E => wT T a env S (fun t S1 => if t = true then Q true S1 else wT T b env S1 Q E) E
  | .ife _ _ _, _, _, _, _ => False
  | .var i, env, S, Q, _ => ∃ v, env[i]? = some (some v) ∧ tru v S fun t => Q t S
  | .lit v, _, S, Q, _ => tru v S fun t => Q t S
  | .idx a i, env, S, Q, E => wE T a env S (fun x S1 => wE T i env S1 (fun y S2 => opIx x y S2 fun v S3 => tru v S3 fun t => Q t S3) E) E
  | .bin o a b, env, S, Q, E => wE T a env S (fun x S1 => wE T b env S1 (fun y S2 => opB o x y S2 fun v S3 => tru v S3 fun t => Q t S3) E) E
  | .call f as d, env, S, Q, E => wA T as env S (fun vs S1 => wCall T f (vs ++ d) S1 (fun v S2 => tru v S2 fun t => Q t S2) E) E
  | .meth a m as, env, S, Q, E => wE T a env S (fun x S1 => getI S1 x fun c fs => fs.lookup m = none ∧ ∃ g, T.mt c m = some g ∧ wA T as env S1 (fun vs S2 => wCall T g (x :: vs) S2 (fun v S3 => tru v S3 fun t => Q t S3) E) E) E
  | .blt b as, env, S, Q, E => wA T as env S (fun vs S1 => opBi b vs S1 fun v S2 => tru v S2 fun t => Q t S2) E
  | .isty a t, env, S, Q, E => wE T a env S (fun x S1 => tyIs t x S1 fun b => Q b S1) E
  | .iscl a c, env, S, Q, E => wE T a env S (fun x S1 => getI S1 x fun d _ => ∃ b, (T.isc d c = some b ∧ d < 9) ∧ Q b S1) E
  | .exis i cs, env, S, Q, _ => ∃ a d fs, env[i]? = some (some (.exc a)) ∧ (T.ex = some (a, d, fs) ∧ 9 ≤ d) ∧ ∃ b, isAny (T.isc d) cs = some b ∧ Q b S
  | .exfl i f, env, S, Q, _ => ∃ a d fs v, env[i]? = some (some (.exc a)) ∧ (T.ex = some (a, d, fs) ∧ 9 ≤ d ∧ T.fl d f = true) ∧ fs.lookup f = some v ∧ tru v S fun t => Q t S
  | .fld a f, env, S, Q, E => wE T a env S (fun x S1 => getI S1 x fun c fs => (T.fl c f = true ∧ c < 9) ∧ ∃ v, fs.lookup f = some v ∧ tru v S1 fun t => Q t S1) E
  | .din n k d, env, S, Q, E => wE T k env S (fun y S1 => wE T d env S1 (fun x S2 => dGet S2 x y fun o => Q (if n = true then !o.isSome else o.isSome) S2) E) E
  | .dget d k, env, S, Q, E => wE T d env S (fun x S1 => wE T k env S1 (fun y S2 => dGet S2 x y fun o => ∃ v, o = some v ∧ tru v S2 fun t => Q t S2) E) E
  | .sm m a as, env, S, Q, E => wE T a env S (fun x S1 => wA T as env S1 (fun vs S2 => opSm m x vs S2 fun v S3 => tru v S3 fun t => Q t S3) E) E
  | _, _, _, _, _ => False
def wA (T : Tb) : Ex → Ev → Store → (List Val → Store → Prop) → (Exn → Store → Prop) → Prop
  | .nil, _, S, Q, _ => Q [] S
  | .cons a as, env, S, Q, E => wE T a env S (fun x S1 => wA T as env S1 (fun xs S2 => Q (x :: xs) S2) E) E
  | _, _, _, _, _ => False
def wO (T : Tb) : Ex → Ev → Store → (Option Int → Store → Prop) → (Exn → Store → Prop) → Prop
  | .nil, _, S, Q, _ => Q none S
  | .cons a .nil, env, S, Q, E => wE T a env S (fun x S1 => optI x fun o => Q o S1) E
  | _, _, _, _, _ => False
end
end BW
set_option Elab.async false
set_option linter.all false
set_option maxRecDepth 100000
set_option maxHeartbeats 4000000
namespace BW
open PySem PySem.Spec PyProof.Rows L2
/-! ### the equations -/
theorem wE_var {T : Tb} {i : Nat} {env : Ev} {S : Store} {Q : QV} {E : Exn → Store → Prop} : wE T (.var i) env S Q E = (∃ v, env[i]? = some (some v) ∧ Q v S) := rfl
theorem wE_lit {T : Tb} {v : Val} {env : Ev} {S : Store} {Q : QV} {E : Exn → Store → Prop} : wE T (.lit v) env S Q E = (Q v S) := rfl
theorem wE_bin {T : Tb} {o : Bop} {a : Ex} {b : Ex} {env : Ev} {S : Store} {Q : QV} {E : Exn → Store → Prop} : wE T (.bin o a b) env S Q E = (wE T a env S (fun x S1 => wE T b env S1 (fun y S2 => opB o x y S2 Q) E) E) := rfl
theorem wE_neg {T : Tb} {a : Ex} {env : Ev} {S : Store} {Q : QV} {E : Exn → Store → Prop} : wE T (.neg a) env S Q E = (wE T a env S (fun x S1 => ∃ i, x = .int i ∧ Q (.int (-i)) S1) E) := rfl
theorem wE_nott {T : Tb} {a : Ex} {env : Ev} {S : Store} {Q : QV} {E : Exn → Store → Prop} : wE T (.nott a) env S Q E = (wT T a env S (fun b S1 => Q (.bl (!b)) S1) E) := rfl
theorem wE_cmp {T : Tb} {o : Cop} {a : Ex} {b : Ex} {env : Ev} {S : Store} {Q : QV} {E : Exn → Store → Prop} : wE T (.cmp o a b) env S Q E = (wE T a env S (fun x S1 => wE T b env S1 (fun y S2 => opC o x y S2 fun t => Q (.bl t) S2) E) E) := rfl
theorem wE_chain {T : Tb} {o1 : Cop} {o2 : Cop} {a : Ex} {b : Ex} {c : Ex} {env : Ev} {S : Store} {Q : QV} {E : Exn → Store → Prop} : wE T (.chain o1 o2 a b c) env S Q E = (wE T a env S (fun x S1 => wE T b env S1 (fun y S2 => opC o1 x y S2 fun t => if t = true then wE T c env S2 (fun z S3 => opC o2 y z S3 fun t => Q (.bl t) S3) E else Q (.bl false) S2) E) E) := rfl
theorem wE_andd {T : Tb} {a : Ex} {b : Ex} {env : Ev} {S : Store} {Q : QV} {E : Exn → Store → Prop} : wE T (.andd a b) env S Q E = (wE T a env S (fun x S1 => tru x S1 fun t => if t = true then wE T b env S1 Q E else Q x S1) E) := rfl
theorem wE_orr {T : Tb} {a : Ex} {b : Ex} {env : Ev} {S : Store} {Q : QV} {E : Exn → Store → Prop} : wE T (.orr a b) env S Q E = (wE T a env S (fun x S1 => tru x S1 fun t => if t = true then Q x S1 else wE T b env S1 Q E) E) := rfl
theorem wE_ife {T : Tb} {t : Ex} {a : Ex} {b : Ex} {env : Ev} {S : Store} {Q : QV} {E : Exn → Store → Prop} : wE T (.ife t a b) env S Q E = (wT T t env S (fun c S1 => if c = true then wE T a env S1 Q E else wE T b env S1 Q E) E) := rfl
theorem wE_nil {T : Tb}  {env : Ev} {S : Store} {Q : QV} {E : Exn → Store → Prop} : wE T (.nil) env S Q E = (False) := rfl
theorem wE_cons {T : Tb} {x0 : Ex} {x1 : Ex} {env : Ev} {S : Store} {Q : QV} {E : Exn → Store → Prop} : wE T (.cons x0 x1) env S Q E = (False) := rfl
theorem wE_tup {T : Tb} {as : Ex} {env : Ev} {S : Store} {Q : QV} {E : Exn → Store → Prop} : wE T (.tup as) env S Q E = (wA T as env S (fun vs S1 => Q (.tup vs) S1) E) := rfl
theorem wE_lst {T : Tb} {m : Bool} {as : Ex} {env : Ev} {S : Store} {Q : QV} {E : Exn → Store → Prop} : wE T (.lst m as) env S Q E = (wA T as env S (fun vs S1 => if m = true then ∀ p, S1 p = none → Q (.ref p) (put S1 p (.lst vs)) else Q (.sl vs) S1) E) := rfl
theorem wE_idx {T : Tb} {a : Ex} {i : Ex} {env : Ev} {S : Store} {Q : QV} {E : Exn → Store → Prop} : wE T (.idx a i) env S Q E = (wE T a env S (fun x S1 => wE T i env S1 (fun y S2 => opIx x y S2 Q) E) E) := rfl
theorem wE_slc {T : Tb} {m : Bool} {a : Ex} {lo : Ex} {hi : Ex} {env : Ev} {S : Store} {Q : QV} {E : Exn → Store → Prop} : wE T (.slc m a lo hi) env S Q E = (wE T a env S (fun x S1 => wO T lo env S1 (fun l S2 => wO T hi env S2 (fun h S3 => opSl m x l h S3 Q) E) E) E) := rfl
theorem wE_fld {T : Tb} {a : Ex} {f : Nat} {env : Ev} {S : Store} {Q : QV} {E : Exn → Store → Prop} : wE T (.fld a f) env S Q E = (wE T a env S (fun x S1 => getI S1 x fun c fs => (T.fl c f = true ∧ c < 9) ∧ ∃ v, fs.lookup f = some v ∧ Q v S1) E) := rfl
theorem wE_call {T : Tb} {f : Nat} {as : Ex} {d : List Val} {env : Ev} {S : Store} {Q : QV} {E : Exn → Store → Prop} : wE T (.call f as d) env S Q E = (wA T as env S (fun vs S1 => wCall T f (vs ++ d) S1 Q E) E) := rfl
theorem wE_meth {T : Tb} {a : Ex} {m : Nat} {as : Ex} {env : Ev} {S : Store} {Q : QV} {E : Exn → Store → Prop} : wE T (.meth a m as) env S Q E = (wE T a env S (fun x S1 => getI S1 x fun c fs => fs.lookup m = none ∧ ∃ g, T.mt c m = some g ∧ wA T as env S1 (fun vs S2 => wCall T g (x :: vs) S2 Q E) E) E) := rfl
theorem wE_new {T : Tb} {c : Nat} {m : Bool} {as : Ex} {d : List Val} {env : Ev} {S : Store} {Q : QV} {E : Exn → Store → Prop} : wE T (.new c m as d) env S Q E = (wA T as env S (fun vs S1 => ∃ g, T.mkr c = some g ∧ ∀ p, S1 p = none → wCall T g (.ref p :: (vs ++ d)) (put S1 p (.ins c [])) (fun v S2 => v = .non ∧ if m = true then Q (.ref p) S2 else ∃ fs, S2 p = some (.ins c fs) ∧ Q (.ins c fs) (del S2 p)) E) E) := rfl
theorem wE_sup {T : Tb} {c : Nat} {m : Nat} {as : Ex} {env : Ev} {S : Store} {Q : QV} {E : Exn → Store → Prop} : wE T (.sup c m as) env S Q E = (wA T as env S (fun vs S1 => ∃ g, T.mkr c = some g ∧ wCall T g vs S1 Q E) E) := rfl
theorem wE_blt {T : Tb} {b : Bi} {as : Ex} {env : Ev} {S : Store} {Q : QV} {E : Exn → Store → Prop} : wE T (.blt b as) env S Q E = (wA T as env S (fun vs S1 => opBi b vs S1 Q) E) := rfl
theorem wE_isty {T : Tb} {a : Ex} {t : Ty} {env : Ev} {S : Store} {Q : QV} {E : Exn → Store → Prop} : wE T (.isty a t) env S Q E = (wE T a env S (fun x S1 => tyIs t x S1 fun b => Q (.bl b) S1) E) := rfl
theorem wE_iscl {T : Tb} {a : Ex} {c : Nat} {env : Ev} {S : Store} {Q : QV} {E : Exn → Store → Prop} : wE T (.iscl a c) env S Q E = (wE T a env S (fun x S1 => getI S1 x fun d _ => ∃ b, (T.isc d c = some b ∧ d < 9) ∧ Q (.bl b) S1) E) := rfl
theorem wE_exis {T : Tb} {i : Nat} {cs : List Nat} {env : Ev} {S : Store} {Q : QV} {E : Exn → Store → Prop} : wE T (.exis i cs) env S Q E = (∃ a d fs, env[i]? = some (some (.exc a)) ∧ (T.ex = some (a, d, fs) ∧ 9 ≤ d) ∧ ∃ b, isAny (T.isc d) cs = some b ∧ Q (.bl b) S) := rfl
theorem wE_exfl {T : Tb} {i : Nat} {f : Nat} {env : Ev} {S : Store} {Q : QV} {E : Exn → Store → Prop} : wE T (.exfl i f) env S Q E = (∃ a d fs v, env[i]? = some (some (.exc a)) ∧ (T.ex = some (a, d, fs) ∧ 9 ≤ d ∧ T.fl d f = true) ∧ fs.lookup f = some v ∧ Q v S) := rfl
theorem wE_dnew {T : Tb} {t : Bool} {env : Ev} {S : Store} {Q : QV} {E : Exn → Store → Prop} : wE T (.dnew t) env S Q E = (∀ p, S p = none → Q (.ref p) (put S p (if t = true then .dT [] else .dK []))) := rfl
theorem wE_dget {T : Tb} {d : Ex} {k : Ex} {env : Ev} {S : Store} {Q : QV} {E : Exn → Store → Prop} : wE T (.dget d k) env S Q E = (wE T d env S (fun x S1 => wE T k env S1 (fun y S2 => dGet S2 x y fun o => ∃ v, o = some v ∧ Q v S2) E) E) := rfl
theorem wE_din {T : Tb} {n : Bool} {k : Ex} {d : Ex} {env : Ev} {S : Store} {Q : QV} {E : Exn → Store → Prop} : wE T (.din n k d) env S Q E = (wE T k env S (fun y S1 => wE T d env S1 (fun x S2 => dGet S2 x y fun o => Q (.bl (if n = true then !o.isSome else o.isSome)) S2) E) E) := rfl
theorem wE_dget2 {T : Tb} {d : Ex} {k : Ex} {z : Ex} {env : Ev} {S : Store} {Q : QV} {E : Exn → Store → Prop} : wE T (.dget2 d k z) env S Q E = (wE T d env S (fun x S1 => isDic S1 x ∧ wE T k env S1 (fun y S2 => wE T z env S2 (fun u S3 => dGet S3 x y fun o => Q (o.getD u) S3) E) E) E) := rfl
theorem wE_dpop {T : Tb} {x0 : Ex} {x1 : Ex} {env : Ev} {S : Store} {Q : QV} {E : Exn → Store → Prop} : wE T (.dpop x0 x1) env S Q E = (False) := rfl
theorem wE_sm {T : Tb} {m : Sm} {a : Ex} {as : Ex} {env : Ev} {S : Store} {Q : QV} {E : Exn → Store → Prop} : wE T (.sm m a as) env S Q E = (wE T a env S (fun x S1 => wA T as env S1 (fun vs S2 => opSm m x vs S2 Q) E) E) := rfl
theorem wE_clo {T : Tb} {x0 : Nat} {x1 : Ex} {env : Ev} {S : Store} {Q : QV} {E : Exn → Store → Prop} : wE T (.clo x0 x1) env S Q E = (False) := rfl
theorem wE_ccall {T : Tb} {x0 : Ex} {x1 : Ex} {env : Ev} {S : Store} {Q : QV} {E : Exn → Store → Prop} : wE T (.ccall x0 x1) env S Q E = (False) := rfl
theorem wE_comp {T : Tb} {m : Bool} {own : List Nat} {g : Tg} {k : ItK} {as : Ex} {hc : Bool} {cond : Ex} {elt : Ex} {env : Ev} {S : Store} {Q : QV} {E : Exn → Store → Prop} : wE T (.comp m own g k as hc cond elt) env S Q E = (wA T as env S (fun vs S1 => itK k vs S1 fun G items => ∀ D, S1 D = none →
      wTurns G (fun x P => tgt g x (wipeE env own) P) (fun e2 S2 P => if hc = true then wT T cond e2 S2 P fun _ _ => False else P true S2) (fun e2 S2 P => wE T elt e2 S2 P fun _ _ => False) D (endC m D Q) items (put S1 D (.lst []))) E) := rfl
theorem wT_cmp {T : Tb} {o : Cop} {a : Ex} {b : Ex} {env : Ev} {S : Store} {Q : Bool → Store → Prop} {E : Exn → Store → Prop} : wT T (.cmp o a b) env S Q E = (wE T a env S (fun x S1 => wE T b env S1 (fun y S2 => opC o x y S2 fun t => Q t S2) E) E) := rfl
theorem wT_chain {T : Tb} {o1 : Cop} {o2 : Cop} {a : Ex} {b : Ex} {c : Ex} {env : Ev} {S : Store} {Q : Bool → Store → Prop} {E : Exn → Store → Prop} : wT T (.chain o1 o2 a b c) env S Q E = (wE T a env S (fun x S1 => wE T b env S1 (fun y S2 => opC o1 x y S2 fun t => if t = true then wE T c env S2 (fun z S3 => opC o2 y z S3 fun t => Q t S3) E else Q false S2) E) E) := rfl
theorem wT_nott {T : Tb} {a : Ex} {env : Ev} {S : Store} {Q : Bool → Store → Prop} {E : Exn → Store → Prop} : wT T (.nott a) env S Q E = (wT T a env S (fun b S1 => Q (!b) S1) E) := rfl
theorem wT_andd {T : Tb} {a : Ex} {b : Ex} {env : Ev} {S : Store} {Q : Bool → Store → Prop} {E : Exn → Store → Prop} : wT T (.andd a b) env S Q E = (wT T a env S (fun t S1 => if t = true then wT T b env S1 Q E else Q false S1) E) := rfl
theorem wT_orr {T : Tb} {a : Ex} {b : Ex} {env : Ev} {S : Store} {Q : Bool → Store → Prop} {E : Exn → Store → Prop} : wT T (.orr a b) env S Q E = (wT T a env S (fun t S1 => if t = true then Q true S1 else wT T b env S1 Q E) E) := rfl
theorem wT_ife {T : Tb} {x0 : Ex} {x1 : Ex} {x2 : Ex} {env : Ev} {S : Store} {Q : Bool → Store → Prop} {E : Exn → Store → Prop} : wT T (.ife x0 x1 x2) env S Q E = (False) := rfl
theorem wT_var {T : Tb} {i : Nat} {env : Ev} {S : Store} {Q : Bool → Store → Prop} {E : Exn → Store → Prop} : wT T (.var i) env S Q E = (∃ v, env[i]? = some (some v) ∧ tru v S fun t => Q t S) := rfl
theorem wT_lit {T : Tb} {v : Val} {env : Ev} {S : Store} {Q : Bool → Store → Prop} {E : Exn → Store → Prop} : wT T (.lit v) env S Q E = (tru v S fun t => Q t S) := rfl
theorem wT_idx {T : Tb} {a : Ex} {i : Ex} {env : Ev} {S : Store} {Q : Bool → Store → Prop} {E : Exn → Store → Prop} : wT T (.idx a i) env S Q E = (wE T a env S (fun x S1 => wE T i env S1 (fun y S2 => opIx x y S2 fun v S3 => tru v S3 fun t => Q t S3) E) E) := rfl
theorem wT_bin {T : Tb} {o : Bop} {a : Ex} {b : Ex} {env : Ev} {S : Store} {Q : Bool → Store → Prop} {E : Exn → Store → Prop} : wT T (.bin o a b) env S Q E = (wE T a env S (fun x S1 => wE T b env S1 (fun y S2 => opB o x y S2 fun v S3 => tru v S3 fun t => Q t S3) E) E) := rfl
theorem wT_call {T : Tb} {f : Nat} {as : Ex} {d : List Val} {env : Ev} {S : Store} {Q : Bool → Store → Prop} {E : Exn → Store → Prop} : wT T (.call f as d) env S Q E = (wA T as env S (fun vs S1 => wCall T f (vs ++ d) S1 (fun v S2 => tru v S2 fun t => Q t S2) E) E) := rfl
theorem wT_meth {T : Tb} {a : Ex} {m : Nat} {as : Ex} {env : Ev} {S : Store} {Q : Bool → Store → Prop} {E : Exn → Store → Prop} : wT T (.meth a m as) env S Q E = (wE T a env S (fun x S1 => getI S1 x fun c fs => fs.lookup m = none ∧ ∃ g, T.mt c m = some g ∧ wA T as env S1 (fun vs S2 => wCall T g (x :: vs) S2 (fun v S3 => tru v S3 fun t => Q t S3) E) E) E) := rfl
theorem wT_blt {T : Tb} {b : Bi} {as : Ex} {env : Ev} {S : Store} {Q : Bool → Store → Prop} {E : Exn → Store → Prop} : wT T (.blt b as) env S Q E = (wA T as env S (fun vs S1 => opBi b vs S1 fun v S2 => tru v S2 fun t => Q t S2) E) := rfl
theorem wT_isty {T : Tb} {a : Ex} {t : Ty} {env : Ev} {S : Store} {Q : Bool → Store → Prop} {E : Exn → Store → Prop} : wT T (.isty a t) env S Q E = (wE T a env S (fun x S1 => tyIs t x S1 fun b => Q b S1) E) := rfl
theorem wT_iscl {T : Tb} {a : Ex} {c : Nat} {env : Ev} {S : Store} {Q : Bool → Store → Prop} {E : Exn → Store → Prop} : wT T (.iscl a c) env S Q E = (wE T a env S (fun x S1 => getI S1 x fun d _ => ∃ b, (T.isc d c = some b ∧ d < 9) ∧ Q b S1) E) := rfl
theorem wT_exis {T : Tb} {i : Nat} {cs : List Nat} {env : Ev} {S : Store} {Q : Bool → Store → Prop} {E : Exn → Store → Prop} : wT T (.exis i cs) env S Q E = (∃ a d fs, env[i]? = some (some (.exc a)) ∧ (T.ex = some (a, d, fs) ∧ 9 ≤ d) ∧ ∃ b, isAny (T.isc d) cs = some b ∧ Q b S) := rfl
theorem wT_exfl {T : Tb} {i : Nat} {f : Nat} {env : Ev} {S : Store} {Q : Bool → Store → Prop} {E : Exn → Store → Prop} : wT T (.exfl i f) env S Q E = (∃ a d fs v, env[i]? = some (some (.exc a)) ∧ (T.ex = some (a, d, fs) ∧ 9 ≤ d ∧ T.fl d f = true) ∧ fs.lookup f = some v ∧ tru v S fun t => Q t S) := rfl
theorem wT_fld {T : Tb} {a : Ex} {f : Nat} {env : Ev} {S : Store} {Q : Bool → Store → Prop} {E : Exn → Store → Prop} : wT T (.fld a f) env S Q E = (wE T a env S (fun x S1 => getI S1 x fun c fs => (T.fl c f = true ∧ c < 9) ∧ ∃ v, fs.lookup f = some v ∧ tru v S1 fun t => Q t S1) E) := rfl
theorem wT_din {T : Tb} {n : Bool} {k : Ex} {d : Ex} {env : Ev} {S : Store} {Q : Bool → Store → Prop} {E : Exn → Store → Prop} : wT T (.din n k d) env S Q E = (wE T k env S (fun y S1 => wE T d env S1 (fun x S2 => dGet S2 x y fun o => Q (if n = true then !o.isSome else o.isSome) S2) E) E) := rfl
theorem wT_dget {T : Tb} {d : Ex} {k : Ex} {env : Ev} {S : Store} {Q : Bool → Store → Prop} {E : Exn → Store → Prop} : wT T (.dget d k) env S Q E = (wE T d env S (fun x S1 => wE T k env S1 (fun y S2 => dGet S2 x y fun o => ∃ v, o = some v ∧ tru v S2 fun t => Q t S2) E) E) := rfl
theorem wT_sm {T : Tb} {m : Sm} {a : Ex} {as : Ex} {env : Ev} {S : Store} {Q : Bool → Store → Prop} {E : Exn → Store → Prop} : wT T (.sm m a as) env S Q E = (wE T a env S (fun x S1 => wA T as env S1 (fun vs S2 => opSm m x vs S2 fun v S3 => tru v S3 fun t => Q t S3) E) E) := rfl
theorem wT_neg {T : Tb} {x0 : Ex} {env : Ev} {S : Store} {Q : Bool → Store → Prop} {E : Exn → Store → Prop} : wT T (.neg x0) env S Q E = False := rfl
theorem wT_nil {T : Tb}  {env : Ev} {S : Store} {Q : Bool → Store → Prop} {E : Exn → Store → Prop} : wT T (.nil) env S Q E = False := rfl
theorem wT_cons {T : Tb} {x0 : Ex} {x1 : Ex} {env : Ev} {S : Store} {Q : Bool → Store → Prop} {E : Exn → Store → Prop} : wT T (.cons x0 x1) env S Q E = False := rfl
theorem wT_tup {T : Tb} {x0 : Ex} {env : Ev} {S : Store} {Q : Bool → Store → Prop} {E : Exn → Store → Prop} : wT T (.tup x0) env S Q E = False := rfl
theorem wT_lst {T : Tb} {x0 : Bool} {x1 : Ex} {env : Ev} {S : Store} {Q : Bool → Store → Prop} {E : Exn → Store → Prop} : wT T (.lst x0 x1) env S Q E = False := rfl
theorem wT_slc {T : Tb} {x0 : Bool} {x1 : Ex} {x2 : Ex} {x3 : Ex} {env : Ev} {S : Store} {Q : Bool → Store → Prop} {E : Exn → Store → Prop} : wT T (.slc x0 x1 x2 x3) env S Q E = False := rfl
theorem wT_new {T : Tb} {x0 : Nat} {x1 : Bool} {x2 : Ex} {x3 : List Val} {env : Ev} {S : Store} {Q : Bool → Store → Prop} {E : Exn → Store → Prop} : wT T (.new x0 x1 x2 x3) env S Q E = False := rfl
theorem wT_comp {T : Tb} {x0 : Bool} {x1 : List Nat} {x2 : Tg} {x3 : ItK} {x4 : Ex} {x5 : Bool} {x6 : Ex} {x7 : Ex} {env : Ev} {S : Store} {Q : Bool → Store → Prop} {E : Exn → Store → Prop} : wT T (.comp x0 x1 x2 x3 x4 x5 x6 x7) env S Q E = False := rfl
theorem wT_sup {T : Tb} {x0 : Nat} {x1 : Nat} {x2 : Ex} {env : Ev} {S : Store} {Q : Bool → Store → Prop} {E : Exn → Store → Prop} : wT T (.sup x0 x1 x2) env S Q E = False := rfl
theorem wT_dnew {T : Tb} {x0 : Bool} {env : Ev} {S : Store} {Q : Bool → Store → Prop} {E : Exn → Store → Prop} : wT T (.dnew x0) env S Q E = False := rfl
theorem wT_dget2 {T : Tb} {x0 : Ex} {x1 : Ex} {x2 : Ex} {env : Ev} {S : Store} {Q : Bool → Store → Prop} {E : Exn → Store → Prop} : wT T (.dget2 x0 x1 x2) env S Q E = False := rfl
theorem wT_dpop {T : Tb} {x0 : Ex} {x1 : Ex} {env : Ev} {S : Store} {Q : Bool → Store → Prop} {E : Exn → Store → Prop} : wT T (.dpop x0 x1) env S Q E = False := rfl
theorem wT_clo {T : Tb} {x0 : Nat} {x1 : Ex} {env : Ev} {S : Store} {Q : Bool → Store → Prop} {E : Exn → Store → Prop} : wT T (.clo x0 x1) env S Q E = False := rfl
theorem wT_ccall {T : Tb} {x0 : Ex} {x1 : Ex} {env : Ev} {S : Store} {Q : Bool → Store → Prop} {E : Exn → Store → Prop} : wT T (.ccall x0 x1) env S Q E = False := rfl
theorem wA_nil {T : Tb}  {env : Ev} {S : Store} {Q : List Val → Store → Prop} {E : Exn → Store → Prop} : wA T (.nil) env S Q E = (Q [] S) := rfl
theorem wA_cons {T : Tb} {a : Ex} {as : Ex} {env : Ev} {S : Store} {Q : List Val → Store → Prop} {E : Exn → Store → Prop} : wA T (.cons a as) env S Q E = (wE T a env S (fun x S1 => wA T as env S1 (fun xs S2 => Q (x :: xs) S2) E) E) := rfl
theorem wA_var {T : Tb} {x0 : Nat} {env : Ev} {S : Store} {Q : List Val → Store → Prop} {E : Exn → Store → Prop} : wA T (.var x0) env S Q E = False := rfl
theorem wA_lit {T : Tb} {x0 : Val} {env : Ev} {S : Store} {Q : List Val → Store → Prop} {E : Exn → Store → Prop} : wA T (.lit x0) env S Q E = False := rfl
theorem wA_bin {T : Tb} {x0 : Bop} {x1 : Ex} {x2 : Ex} {env : Ev} {S : Store} {Q : List Val → Store → Prop} {E : Exn → Store → Prop} : wA T (.bin x0 x1 x2) env S Q E = False := rfl
theorem wA_neg {T : Tb} {x0 : Ex} {env : Ev} {S : Store} {Q : List Val → Store → Prop} {E : Exn → Store → Prop} : wA T (.neg x0) env S Q E = False := rfl
theorem wA_nott {T : Tb} {x0 : Ex} {env : Ev} {S : Store} {Q : List Val → Store → Prop} {E : Exn → Store → Prop} : wA T (.nott x0) env S Q E = False := rfl
theorem wA_cmp {T : Tb} {x0 : Cop} {x1 : Ex} {x2 : Ex} {env : Ev} {S : Store} {Q : List Val → Store → Prop} {E : Exn → Store → Prop} : wA T (.cmp x0 x1 x2) env S Q E = False := rfl
theorem wA_chain {T : Tb} {x0 : Cop} {x1 : Cop} {x2 : Ex} {x3 : Ex} {x4 : Ex} {env : Ev} {S : Store} {Q : List Val → Store → Prop} {E : Exn → Store → Prop} : wA T (.chain x0 x1 x2 x3 x4) env S Q E = False := rfl
theorem wA_andd {T : Tb} {x0 : Ex} {x1 : Ex} {env : Ev} {S : Store} {Q : List Val → Store → Prop} {E : Exn → Store → Prop} : wA T (.andd x0 x1) env S Q E = False := rfl
theorem wA_orr {T : Tb} {x0 : Ex} {x1 : Ex} {env : Ev} {S : Store} {Q : List Val → Store → Prop} {E : Exn → Store → Prop} : wA T (.orr x0 x1) env S Q E = False := rfl
theorem wA_ife {T : Tb} {x0 : Ex} {x1 : Ex} {x2 : Ex} {env : Ev} {S : Store} {Q : List Val → Store → Prop} {E : Exn → Store → Prop} : wA T (.ife x0 x1 x2) env S Q E = False := rfl
theorem wA_tup {T : Tb} {x0 : Ex} {env : Ev} {S : Store} {Q : List Val → Store → Prop} {E : Exn → Store → Prop} : wA T (.tup x0) env S Q E = False := rfl
theorem wA_lst {T : Tb} {x0 : Bool} {x1 : Ex} {env : Ev} {S : Store} {Q : List Val → Store → Prop} {E : Exn → Store → Prop} : wA T (.lst x0 x1) env S Q E = False := rfl
theorem wA_idx {T : Tb} {x0 : Ex} {x1 : Ex} {env : Ev} {S : Store} {Q : List Val → Store → Prop} {E : Exn → Store → Prop} : wA T (.idx x0 x1) env S Q E = False := rfl
theorem wA_slc {T : Tb} {x0 : Bool} {x1 : Ex} {x2 : Ex} {x3 : Ex} {env : Ev} {S : Store} {Q : List Val → Store → Prop} {E : Exn → Store → Prop} : wA T (.slc x0 x1 x2 x3) env S Q E = False := rfl
theorem wA_fld {T : Tb} {x0 : Ex} {x1 : Nat} {env : Ev} {S : Store} {Q : List Val → Store → Prop} {E : Exn → Store → Prop} : wA T (.fld x0 x1) env S Q E = False := rfl
theorem wA_call {T : Tb} {x0 : Nat} {x1 : Ex} {x2 : List Val} {env : Ev} {S : Store} {Q : List Val → Store → Prop} {E : Exn → Store → Prop} : wA T (.call x0 x1 x2) env S Q E = False := rfl
theorem wA_meth {T : Tb} {x0 : Ex} {x1 : Nat} {x2 : Ex} {env : Ev} {S : Store} {Q : List Val → Store → Prop} {E : Exn → Store → Prop} : wA T (.meth x0 x1 x2) env S Q E = False := rfl
theorem wA_new {T : Tb} {x0 : Nat} {x1 : Bool} {x2 : Ex} {x3 : List Val} {env : Ev} {S : Store} {Q : List Val → Store → Prop} {E : Exn → Store → Prop} : wA T (.new x0 x1 x2 x3) env S Q E = False := rfl
theorem wA_blt {T : Tb} {x0 : Bi} {x1 : Ex} {env : Ev} {S : Store} {Q : List Val → Store → Prop} {E : Exn → Store → Prop} : wA T (.blt x0 x1) env S Q E = False := rfl
theorem wA_isty {T : Tb} {x0 : Ex} {x1 : Ty} {env : Ev} {S : Store} {Q : List Val → Store → Prop} {E : Exn → Store → Prop} : wA T (.isty x0 x1) env S Q E = False := rfl
theorem wA_iscl {T : Tb} {x0 : Ex} {x1 : Nat} {env : Ev} {S : Store} {Q : List Val → Store → Prop} {E : Exn → Store → Prop} : wA T (.iscl x0 x1) env S Q E = False := rfl
theorem wA_exis {T : Tb} {x0 : Nat} {x1 : List Nat} {env : Ev} {S : Store} {Q : List Val → Store → Prop} {E : Exn → Store → Prop} : wA T (.exis x0 x1) env S Q E = False := rfl
theorem wA_exfl {T : Tb} {x0 : Nat} {x1 : Nat} {env : Ev} {S : Store} {Q : List Val → Store → Prop} {E : Exn → Store → Prop} : wA T (.exfl x0 x1) env S Q E = False := rfl
theorem wA_comp {T : Tb} {x0 : Bool} {x1 : List Nat} {x2 : Tg} {x3 : ItK} {x4 : Ex} {x5 : Bool} {x6 : Ex} {x7 : Ex} {env : Ev} {S : Store} {Q : List Val → Store → Prop} {E : Exn → Store → Prop} : wA T (.comp x0 x1 x2 x3 x4 x5 x6 x7) env S Q E = False := rfl
theorem wA_sup {T : Tb} {x0 : Nat} {x1 : Nat} {x2 : Ex} {env : Ev} {S : Store} {Q : List Val → Store → Prop} {E : Exn → Store → Prop} : wA T (.sup x0 x1 x2) env S Q E = False := rfl
theorem wA_dnew {T : Tb} {x0 : Bool} {env : Ev} {S : Store} {Q : List Val → Store → Prop} {E : Exn → Store → Prop} : wA T (.dnew x0) env S Q E = False := rfl
theorem wA_dget {T : Tb} {x0 : Ex} {x1 : Ex} {env : Ev} {S : Store} {Q : List Val → Store → Prop} {E : Exn → Store → Prop} : wA T (.dget x0 x1) env S Q E = False := rfl
theorem wA_din {T : Tb} {x0 : Bool} {x1 : Ex} {x2 : Ex} {env : Ev} {S : Store} {Q : List Val → Store → Prop} {E : Exn → Store → Prop} : wA T (.din x0 x1 x2) env S Q E = False := rfl
theorem wA_dget2 {T : Tb} {x0 : Ex} {x1 : Ex} {x2 : Ex} {env : Ev} {S : Store} {Q : List Val → Store → Prop} {E : Exn → Store → Prop} : wA T (.dget2 x0 x1 x2) env S Q E = False := rfl
theorem wA_dpop {T : Tb} {x0 : Ex} {x1 : Ex} {env : Ev} {S : Store} {Q : List Val → Store → Prop} {E : Exn → Store → Prop} : wA T (.dpop x0 x1) env S Q E = False := rfl
theorem wA_sm {T : Tb} {x0 : Sm} {x1 : Ex} {x2 : Ex} {env : Ev} {S : Store} {Q : List Val → Store → Prop} {E : Exn → Store → Prop} : wA T (.sm x0 x1 x2) env S Q E = False := rfl
theorem wA_clo {T : Tb} {x0 : Nat} {x1 : Ex} {env : Ev} {S : Store} {Q : List Val → Store → Prop} {E : Exn → Store → Prop} : wA T (.clo x0 x1) env S Q E = False := rfl
theorem wA_ccall {T : Tb} {x0 : Ex} {x1 : Ex} {env : Ev} {S : Store} {Q : List Val → Store → Prop} {E : Exn → Store → Prop} : wA T (.ccall x0 x1) env S Q E = False := rfl
theorem wO_nil {T : Tb}  {env : Ev} {S : Store} {Q : Option Int → Store → Prop} {E : Exn → Store → Prop} : wO T (.nil) env S Q E = (Q none S) := rfl
theorem wO_cons {T : Tb} {a : Ex} {env : Ev} {S : Store} {Q : Option Int → Store → Prop} {E : Exn → Store → Prop} : wO T (.cons a .nil) env S Q E = (wE T a env S (fun x S1 => optI x fun o => Q o S1) E) := rfl
theorem wO_var {T : Tb} {x0 : Nat} {env : Ev} {S : Store} {Q : Option Int → Store → Prop} {E : Exn → Store → Prop} : wO T (.var x0) env S Q E = False := rfl
theorem wO_lit {T : Tb} {x0 : Val} {env : Ev} {S : Store} {Q : Option Int → Store → Prop} {E : Exn → Store → Prop} : wO T (.lit x0) env S Q E = False := rfl
theorem wO_bin {T : Tb} {x0 : Bop} {x1 : Ex} {x2 : Ex} {env : Ev} {S : Store} {Q : Option Int → Store → Prop} {E : Exn → Store → Prop} : wO T (.bin x0 x1 x2) env S Q E = False := rfl
theorem wO_neg {T : Tb} {x0 : Ex} {env : Ev} {S : Store} {Q : Option Int → Store → Prop} {E : Exn → Store → Prop} : wO T (.neg x0) env S Q E = False := rfl
theorem wO_nott {T : Tb} {x0 : Ex} {env : Ev} {S : Store} {Q : Option Int → Store → Prop} {E : Exn → Store → Prop} : wO T (.nott x0) env S Q E = False := rfl
theorem wO_cmp {T : Tb} {x0 : Cop} {x1 : Ex} {x2 : Ex} {env : Ev} {S : Store} {Q : Option Int → Store → Prop} {E : Exn → Store → Prop} : wO T (.cmp x0 x1 x2) env S Q E = False := rfl
theorem wO_chain {T : Tb} {x0 : Cop} {x1 : Cop} {x2 : Ex} {x3 : Ex} {x4 : Ex} {env : Ev} {S : Store} {Q : Option Int → Store → Prop} {E : Exn → Store → Prop} : wO T (.chain x0 x1 x2 x3 x4) env S Q E = False := rfl
theorem wO_andd {T : Tb} {x0 : Ex} {x1 : Ex} {env : Ev} {S : Store} {Q : Option Int → Store → Prop} {E : Exn → Store → Prop} : wO T (.andd x0 x1) env S Q E = False := rfl
theorem wO_orr {T : Tb} {x0 : Ex} {x1 : Ex} {env : Ev} {S : Store} {Q : Option Int → Store → Prop} {E : Exn → Store → Prop} : wO T (.orr x0 x1) env S Q E = False := rfl
theorem wO_ife {T : Tb} {x0 : Ex} {x1 : Ex} {x2 : Ex} {env : Ev} {S : Store} {Q : Option Int → Store → Prop} {E : Exn → Store → Prop} : wO T (.ife x0 x1 x2) env S Q E = False := rfl
theorem wO_tup {T : Tb} {x0 : Ex} {env : Ev} {S : Store} {Q : Option Int → Store → Prop} {E : Exn → Store → Prop} : wO T (.tup x0) env S Q E = False := rfl
theorem wO_lst {T : Tb} {x0 : Bool} {x1 : Ex} {env : Ev} {S : Store} {Q : Option Int → Store → Prop} {E : Exn → Store → Prop} : wO T (.lst x0 x1) env S Q E = False := rfl
theorem wO_idx {T : Tb} {x0 : Ex} {x1 : Ex} {env : Ev} {S : Store} {Q : Option Int → Store → Prop} {E : Exn → Store → Prop} : wO T (.idx x0 x1) env S Q E = False := rfl
theorem wO_slc {T : Tb} {x0 : Bool} {x1 : Ex} {x2 : Ex} {x3 : Ex} {env : Ev} {S : Store} {Q : Option Int → Store → Prop} {E : Exn → Store → Prop} : wO T (.slc x0 x1 x2 x3) env S Q E = False := rfl
theorem wO_fld {T : Tb} {x0 : Ex} {x1 : Nat} {env : Ev} {S : Store} {Q : Option Int → Store → Prop} {E : Exn → Store → Prop} : wO T (.fld x0 x1) env S Q E = False := rfl
theorem wO_call {T : Tb} {x0 : Nat} {x1 : Ex} {x2 : List Val} {env : Ev} {S : Store} {Q : Option Int → Store → Prop} {E : Exn → Store → Prop} : wO T (.call x0 x1 x2) env S Q E = False := rfl
theorem wO_meth {T : Tb} {x0 : Ex} {x1 : Nat} {x2 : Ex} {env : Ev} {S : Store} {Q : Option Int → Store → Prop} {E : Exn → Store → Prop} : wO T (.meth x0 x1 x2) env S Q E = False := rfl
theorem wO_new {T : Tb} {x0 : Nat} {x1 : Bool} {x2 : Ex} {x3 : List Val} {env : Ev} {S : Store} {Q : Option Int → Store → Prop} {E : Exn → Store → Prop} : wO T (.new x0 x1 x2 x3) env S Q E = False := rfl
theorem wO_blt {T : Tb} {x0 : Bi} {x1 : Ex} {env : Ev} {S : Store} {Q : Option Int → Store → Prop} {E : Exn → Store → Prop} : wO T (.blt x0 x1) env S Q E = False := rfl
theorem wO_isty {T : Tb} {x0 : Ex} {x1 : Ty} {env : Ev} {S : Store} {Q : Option Int → Store → Prop} {E : Exn → Store → Prop} : wO T (.isty x0 x1) env S Q E = False := rfl
theorem wO_iscl {T : Tb} {x0 : Ex} {x1 : Nat} {env : Ev} {S : Store} {Q : Option Int → Store → Prop} {E : Exn → Store → Prop} : wO T (.iscl x0 x1) env S Q E = False := rfl
theorem wO_exis {T : Tb} {x0 : Nat} {x1 : List Nat} {env : Ev} {S : Store} {Q : Option Int → Store → Prop} {E : Exn → Store → Prop} : wO T (.exis x0 x1) env S Q E = False := rfl
theorem wO_exfl {T : Tb} {x0 : Nat} {x1 : Nat} {env : Ev} {S : Store} {Q : Option Int → Store → Prop} {E : Exn → Store → Prop} : wO T (.exfl x0 x1) env S Q E = False := rfl
theorem wO_comp {T : Tb} {x0 : Bool} {x1 : List Nat} {x2 : Tg} {x3 : ItK} {x4 : Ex} {x5 : Bool} {x6 : Ex} {x7 : Ex} {env : Ev} {S : Store} {Q : Option Int → Store → Prop} {E : Exn → Store → Prop} : wO T (.comp x0 x1 x2 x3 x4 x5 x6 x7) env S Q E = False := rfl
theorem wO_sup {T : Tb} {x0 : Nat} {x1 : Nat} {x2 : Ex} {env : Ev} {S : Store} {Q : Option Int → Store → Prop} {E : Exn → Store → Prop} : wO T (.sup x0 x1 x2) env S Q E = False := rfl
theorem wO_dnew {T : Tb} {x0 : Bool} {env : Ev} {S : Store} {Q : Option Int → Store → Prop} {E : Exn → Store → Prop} : wO T (.dnew x0) env S Q E = False := rfl
theorem wO_dget {T : Tb} {x0 : Ex} {x1 : Ex} {env : Ev} {S : Store} {Q : Option Int → Store → Prop} {E : Exn → Store → Prop} : wO T (.dget x0 x1) env S Q E = False := rfl
theorem wO_din {T : Tb} {x0 : Bool} {x1 : Ex} {x2 : Ex} {env : Ev} {S : Store} {Q : Option Int → Store → Prop} {E : Exn → Store → Prop} : wO T (.din x0 x1 x2) env S Q E = False := rfl
theorem wO_dget2 {T : Tb} {x0 : Ex} {x1 : Ex} {x2 : Ex} {env : Ev} {S : Store} {Q : Option Int → Store → Prop} {E : Exn → Store → Prop} : wO T (.dget2 x0 x1 x2) env S Q E = False := rfl
theorem wO_dpop {T : Tb} {x0 : Ex} {x1 : Ex} {env : Ev} {S : Store} {Q : Option Int → Store → Prop} {E : Exn → Store → Prop} : wO T (.dpop x0 x1) env S Q E = False := rfl
theorem wO_sm {T : Tb} {x0 : Sm} {x1 : Ex} {x2 : Ex} {env : Ev} {S : Store} {Q : Option Int → Store → Prop} {E : Exn → Store → Prop} : wO T (.sm x0 x1 x2) env S Q E = False := rfl
theorem wO_clo {T : Tb} {x0 : Nat} {x1 : Ex} {env : Ev} {S : Store} {Q : Option Int → Store → Prop} {E : Exn → Store → Prop} : wO T (.clo x0 x1) env S Q E = False := rfl
theorem wO_ccall {T : Tb} {x0 : Ex} {x1 : Ex} {env : Ev} {S : Store} {Q : Option Int → Store → Prop} {E : Exn → Store → Prop} : wO T (.ccall x0 x1) env S Q E = False := rfl
/-! ### monotony -/
theorem getL_mono {S : Store} {v : Val} {P P' : List Val → Prop} (k : ∀ l, P l → P' l) (h : getL S v P) : getL S v P' := by
  rw [getL_iff] at *
  obtain ⟨l, e, h⟩ := h
  exact ⟨l, e, k _ h⟩
theorem getI_mono {S : Store} {v : Val} {P P' : Nat → List (Nat × Val) → Prop} (k : ∀ c l, P c l → P' c l) (h : getI S v P) : getI S v P' := by
  rw [getI_iff] at *
  obtain ⟨c, l, e, h⟩ := h
  exact ⟨c, l, e, k _ _ h⟩
theorem dGet_mono {S : Store} {v y : Val} {P P' : Option Val → Prop} (k : ∀ o, P o → P' o) (h : dGet S v y P) : dGet S v y P' := by
  unfold dGet at *
  split at h
  · split at h
    · obtain ⟨q, e, h⟩ := h; exact ⟨q, e, k _ h⟩
    · obtain ⟨q, e, h⟩ := h; exact ⟨q, e, k _ h⟩
    · exact h.elim
  · exact h.elim
theorem dPut_mono {S : Store} {v y z : Val} {P P' : Store → Prop} (k : ∀ o, P o → P' o) (h : dPut S v y z P) : dPut S v y z P' := by
  unfold dPut at *
  split at h
  · split at h
    · obtain ⟨q, e, l, h⟩ := h; exact ⟨q, e, l, k _ h⟩
    · obtain ⟨q, e, l, h⟩ := h; exact ⟨q, e, l, k _ h⟩
    · exact h.elim
  · exact h.elim
theorem intsOf_mono {l : List Val} {P P' : List Int → Prop} (k : ∀ l, P l → P' l) (h : intsOf l P) : intsOf l P' := by
  obtain ⟨ns, e, h⟩ := h
  exact ⟨ns, e, k _ h⟩
theorem opB_mono {o : Bop} {x y : Val} {S : Store} {Q Q' : QV} (k : ∀ v S, Q v S → Q' v S) (h : opB o x y S Q) : opB o x y S Q' := by
  fun_cases opB o x y S Q <;> simp only [opB] at h ⊢ <;> first
    | exact k _ _ h
    | exact ⟨h.1, k _ _ h.2⟩
    | exact getL_mono (fun l h => getL_mono (fun m h => ⟨h.1, k _ _ h.2⟩) h) h
    | exact getL_mono (fun l h => getL_mono (fun m h => ⟨h.1, fun p hp => k _ _ (h.2 p hp)⟩) h) h
    | exact getL_mono (fun l h => ⟨h.1, k _ _ h.2⟩) h
    | exact getL_mono (fun l h => ⟨h.1, fun p hp => k _ _ (h.2 p hp)⟩) h
    | exact h.elim
theorem seqOf_mono {S : Store} {x : Val} {P P' : List Val → Prop} (k : ∀ l, P l → P' l) (h : seqOf S x P) : seqOf S x P' := by
  cases x <;> simp only [seqOf] at h ⊢ <;> first | exact k _ h | exact getL_mono k h | exact h.elim
theorem inOp_mono {S : Store} {x y : Val} {P P' : Bool → Prop} (k : ∀ b, P b → P' b) (h : inOp S x y P) : inOp S x y P' := by
  unfold inOp at *
  split at h
  · exact k _ h
  · exact seqOf_mono (fun l ⟨d, ds, h1, h2, h3, h4, h5⟩ => ⟨d, ds, h1, h2, h3, h4, k _ h5⟩) h
theorem ltI_mono {x y : Val} {P P' : Bool → Prop} {f : Int → Int → Bool} {g : List Int → List Int → Bool} (k : ∀ b, P b → P' b) (h : ltI x y P f g) : ltI x y P' f g := by
  unfold ltI at *
  split at h <;> first | exact k _ h | (obtain ⟨ns, ms, e1, e2, h⟩ := h; exact ⟨ns, ms, e1, e2, k _ h⟩) | exact h.elim
theorem tupLt_mono {x y : Val} {P P' : Bool → Prop} (k : ∀ b, P b → P' b) (h : tupLt x y P) : tupLt x y P' := by
  unfold tupLt at *
  split at h
  · obtain ⟨ns, ms, e1, e2, h⟩ := h
    exact ⟨ns, ms, e1, e2, k _ h⟩
  · exact k _ h
  · exact k _ h
  · exact h.elim
theorem isTF_mono {x : Val} {y : Bool} {P P' : Bool → Prop} (k : ∀ b, P b → P' b) (h : isTF x y P) : isTF x y P' := by
  unfold isTF at *
  split at h <;> first | exact k _ h | exact h.elim
theorem opC_mono {o : Cop} {x y : Val} {S : Store} {P P' : Bool → Prop} (k : ∀ b, P b → P' b) (h : opC o x y S P) : opC o x y S P' := by
  fun_cases opC o x y S P <;> simp only [opC] at h ⊢ <;> first
    | (obtain ⟨d, e, h1, h2, h3, h4, h⟩ := h; exact ⟨d, e, h1, h2, h3, h4, k _ h⟩)
    | exact tupLt_mono k h
    | exact ltI_mono k h
    | exact k _ h
    | exact isTF_mono k h
    | exact isTF_mono (fun b => k _) h
    | exact ⟨h.1, k _ h.2⟩
    | exact inOp_mono k h
    | exact inOp_mono (fun b => k _) h
theorem tru_mono {x : Val} {S : Store} {P P' : Bool → Prop} (k : ∀ b, P b → P' b) (h : tru x S P) : tru x S P' := by
  cases x <;> simp only [tru] at h ⊢ <;> first | exact k _ h | exact ⟨h.1, k _ h.2⟩ | exact getL_mono (fun l => k _) h
theorem opIx_mono {x y : Val} {S : Store} {Q Q' : QV} (k : ∀ v S, Q v S → Q' v S) (h : opIx x y S Q) : opIx x y S Q' := by
  fun_cases opIx x y S Q <;> simp only [opIx] at h ⊢ <;> first
    | (obtain ⟨v, e, h⟩ := h; exact ⟨v, e, k _ _ h⟩)
    | exact getL_mono (fun l ⟨v, e, h⟩ => ⟨v, e, k _ _ h⟩) h
    | (obtain ⟨z, c, e, h⟩ := h; exact ⟨z, c, e, k _ _ h⟩)
    | exact h.elim
theorem opSl_mono {m : Bool} {x : Val} {lo hi : Option Int} {S : Store} {Q Q' : QV} (k : ∀ v S, Q v S → Q' v S) (h : opSl m x lo hi S Q) : opSl m x lo hi S Q' := by
  fun_cases opSl m x lo hi S Q <;> simp only [opSl] at h ⊢ <;> first
    | exact k _ _ h
    | exact ⟨h.1, k _ _ h.2⟩
    | exact getL_mono (fun l h => k _ _ h) h
    | exact getL_mono (fun l h p hp => k _ _ (h p hp)) h
theorem opBi_mono {b : Bi} {vs : List Val} {S : Store} {Q Q' : QV} (k : ∀ v S, Q v S → Q' v S) (h : opBi b vs S Q) : opBi b vs S Q' := by
  fun_cases opBi b vs S Q <;> simp only [opBi] at h ⊢ <;> first
    | exact k _ _ h
    | exact getL_mono (fun l => k _ _) h
    | exact ⟨h.1, k _ _ h.2⟩
    | exact getL_mono (fun l h p hp => k _ _ (h p hp)) h
    | exact getL_mono (fun l h => intsOf_mono (fun ns h n h1 h2 => k _ _ (h n h1 h2)) h) h
    | exact getL_mono (fun l h => intsOf_mono (fun ns h n p h1 h2 h3 => k _ _ (h n p h1 h2 h3)) h) h
    | exact getL_mono (fun l h => intsOf_mono (fun ns h => k _ _ h) h) h
    | exact getL_mono (fun l h => intsOf_mono (fun ns h => ⟨h.1, fun m h1 h2 => k _ _ (h.2 m h1 h2)⟩) h) h
    | exact intsOf_mono (fun ns h => ⟨h.1, fun m h1 h2 => k _ _ (h.2 m h1 h2)⟩) h
    | exact getL_mono (fun l ⟨bs, e, h⟩ => ⟨bs, e, k _ _ h⟩) h
    | exact fun p hp => k _ _ (h p hp)
    | (obtain ⟨ns, ms, e1, e2, h⟩ := h; exact ⟨ns, ms, e1, e2, k _ _ h⟩)
    | (obtain ⟨n, e1, e2, h⟩ := h; exact ⟨n, e1, e2, k _ _ h⟩)
    | exact h.elim
theorem opSm_mono {b : Sm} {x : Val} {vs : List Val} {S : Store} {Q Q' : QV} (k : ∀ v S, Q v S → Q' v S) (h : opSm b x vs S Q) : opSm b x vs S Q' := h.elim
theorem tyIs_mono {t : Ty} {x : Val} {S : Store} {P P' : Bool → Prop} (k : ∀ b, P b → P' b) (h : tyIs t x S P) : tyIs t x S P' := by
  cases x <;> simp only [tyIs] at h ⊢ <;> first | exact k _ h | (split at h <;> first | exact k _ h | exact h.elim)
theorem wCall_mono {T : Tb} {f : Nat} {vs : List Val} {S : Store} {Q Q' : QV} {E E' : Exn → Store → Prop} (k : ∀ v S, Q v S → Q' v S) (l : ∀ x S, E x S → E' x S) (h : wCall T f vs S Q E) : wCall T f vs S Q' E' :=
  ⟨h.1, fun v S' r => k _ _ (h.2.1 v S' r), fun x S' r => l _ _ (h.2.2 x S' r)⟩
theorem tgt_mono {g : Tg} {v : Val} {env : Ev} {Q Q' : Ev → Prop} (k : ∀ e, Q e → Q' e) (h : tgt g v env Q) : tgt g v env Q' := by
  unfold tgt at *
  split at h <;> first | exact k _ h | exact ⟨h.1, k _ h.2⟩ | exact h.elim
theorem itK_mono {b : ItK} {vs : List Val} {S : Store} {R R' : (Store → Prop) → List Val → Prop} (k : ∀ G l, R G l → R' G l) (h : itK b vs S R) : itK b vs S R' := by
  fun_cases itK b vs S R <;> simp only [itK] at h ⊢ <;> first
    | exact k _ _ h
    | exact getL_mono (fun l => k _ _) h
    | exact ⟨h.1, k _ _ h.2⟩
    | exact getL_mono (fun l h => getL_mono (fun m => k _ _) h) h
    | exact h.elim
theorem wTurns_mono {G : Store → Prop} {g g' : Val → (Ev → Prop) → Prop} {c c' : Ev → Store → (Bool → Store → Prop) → Prop} {e e' : Ev → Store → QV → Prop} {D : Addr} {Q Q' : QV}
    (kg : ∀ x P P', (∀ e, P e → P' e) → g x P → g' x P') (kc : ∀ ev S P P', (∀ b S, P b S → P' b S) → c ev S P → c' ev S P') (ke : ∀ ev S P P', (∀ b S, P b S → P' b S) → e ev S P → e' ev S P') (k : ∀ v S, Q v S → Q' v S) :
    ∀ (l : List Val) (S : Store), wTurns G g c e D Q l S → wTurns G g' c' e' D Q' l S
  | [], S, h => ⟨h.1, k _ _ h.2⟩
  | x :: r, S, h => ⟨h.1, kg _ _ _ (fun ev h => kc _ _ _ _ (fun b S1 h => by
      cases b with
      | true => exact ke _ _ _ _ (fun y S2 ⟨acc, h1, h2, h3⟩ => ⟨acc, h1, h2, wTurns_mono kg kc ke k r _ h3⟩) h
      | false => exact wTurns_mono kg kc ke k r _ h) h) h.2⟩
theorem endC_mono {m : Bool} {D : Addr} {Q Q' : QV} (k : ∀ v S, Q v S → Q' v S) : ∀ v S, endC m D Q v S → endC m D Q' v S := fun v S h => by
  cases m with
  | true => exact k _ _ h
  | false => obtain ⟨l, e, h⟩ := h; exact ⟨l, e, k _ _ h⟩
theorem optI_mono {x : Val} {P P' : Option Int → Prop} (k : ∀ o, P o → P' o) (h : optI x P) : optI x P' := by
  cases x <;> first | exact k _ h | exact h.elim
section
variable {T : Tb}
mutual
theorem wE_mono : ∀ (e : Ex) {env : Ev} {S : Store} {Q Q' : QV} {E E' : Exn → Store → Prop}, (∀ v S, Q v S → Q' v S) → (∀ x S, E x S → E' x S) → wE T e env S Q E → wE T e env S Q' E'
  | .var i, _, _, _, _, _, _, k, l, h => by rw [wE_var] at h ⊢; obtain ⟨v, e, h⟩ := h; exact ⟨v, e, k _ _ h⟩
  | .lit v, _, _, _, _, _, _, k, l, h => by rw [wE_lit] at h ⊢; exact k _ _ h
  | .bin o a b, _, _, _, _, _, _, k, l, h => by rw [wE_bin] at h ⊢; exact wE_mono a (fun _ _ h => wE_mono b (fun _ _ h => opB_mono k h) l h) l h
  | .neg a, _, _, _, _, _, _, k, l, h => by rw [wE_neg] at h ⊢; exact wE_mono a (fun _ _ ⟨i, e, h⟩ => ⟨i, e, k _ _ h⟩) l h
  | .nott a, _, _, _, _, _, _, k, l, h => by rw [wE_nott] at h ⊢; exact wT_mono a (fun _ _ h => k _ _ h) l h
  | .cmp o a b, _, _, _, _, _, _, k, l, h => by rw [wE_cmp] at h ⊢; exact wE_mono a (fun _ _ h => wE_mono b (fun _ _ h => opC_mono (fun _ => k _ _) h) l h) l h
  | .chain o1 o2 a b c, _, _, _, _, _, _, k, l, h => by 
    rw [wE_chain] at h ⊢
    refine wE_mono a (fun _ _ h => wE_mono b (fun _ _ h => opC_mono (fun t h => ?_) h) l h) l h
    cases t with
    | true => exact wE_mono c (fun _ _ h => opC_mono (fun _ => k _ _) h) l h
    | false => exact k _ _ h
  | .andd a b, _, _, _, _, _, _, k, l, h => by 
    rw [wE_andd] at h ⊢
    refine wE_mono a (fun _ _ h => tru_mono (fun t h => ?_) h) l h
    cases t with
    | true => exact wE_mono b k l h
    | false => exact k _ _ h
  | .orr a b, _, _, _, _, _, _, k, l, h => by 
    rw [wE_orr] at h ⊢
    refine wE_mono a (fun _ _ h => tru_mono (fun t h => ?_) h) l h
    cases t with
    | true => exact k _ _ h
    | false => exact wE_mono b k l h
  | .ife t a b, _, _, _, _, _, _, k, l, h => by 
    rw [wE_ife] at h ⊢
    refine wT_mono t (fun c _ h => ?_) l h
    cases c with
    | true => exact wE_mono a k l h
    | false => exact wE_mono b k l h
  | .nil, _, _, _, _, _, _, k, l, h => by exact h.elim
  | .cons a as, _, _, _, _, _, _, k, l, h => by exact h.elim
  | .tup as, _, _, _, _, _, _, k, l, h => by rw [wE_tup] at h ⊢; exact wA_mono as (fun _ _ h => k _ _ h) l h
  | .lst m as, _, _, _, _, _, _, k, l, h => by 
    rw [wE_lst] at h ⊢
    refine wA_mono as (fun _ _ h => ?_) l h
    cases m with
    | true => exact fun p hp => k _ _ (h p hp)
    | false => exact k _ _ h
  | .idx a i, _, _, _, _, _, _, k, l, h => by rw [wE_idx] at h ⊢; exact wE_mono a (fun _ _ h => wE_mono i (fun _ _ h => opIx_mono k h) l h) l h
  | .slc m a lo hi, _, _, _, _, _, _, k, l, h => by rw [wE_slc] at h ⊢; exact wE_mono a (fun _ _ h => wO_mono lo (fun _ _ h => wO_mono hi (fun _ _ h => opSl_mono k h) l h) l h) l h
  | .fld a f, _, _, _, _, _, _, k, l, h => by rw [wE_fld] at h ⊢; exact wE_mono a (fun _ _ h => getI_mono (fun c fs ⟨h1, v, h2, h⟩ => ⟨h1, v, h2, k _ _ h⟩) h) l h
  | .call f as d, _, _, _, _, _, _, k, l, h => by rw [wE_call] at h ⊢; exact wA_mono as (fun _ _ h => wCall_mono k l h) l h
  | .meth a m as, _, _, _, _, _, _, k, l, h => by rw [wE_meth] at h ⊢; exact wE_mono a (fun _ _ h => getI_mono (fun c fs ⟨h1, g, h2, h⟩ => ⟨h1, g, h2, wA_mono as (fun _ _ h => wCall_mono k l h) l h⟩) h) l h
  | .new c m as d, _, _, _, _, _, _, k, l, h => by 
    rw [wE_new] at h ⊢
    refine wA_mono as (fun _ _ ⟨g, h1, h⟩ => ⟨g, h1, fun p hp => wCall_mono (fun _ _ h => ⟨h.1, ?_⟩) l (h p hp)⟩) l h
    cases m with
    | true => exact k _ _ h.2
    | false => obtain ⟨fs, h3, h4⟩ := h.2; exact ⟨fs, h3, k _ _ h4⟩
  | .blt b as, _, _, _, _, _, _, k, l, h => by rw [wE_blt] at h ⊢; exact wA_mono as (fun _ _ h => opBi_mono k h) l h
  | .isty a t, _, _, _, _, _, _, k, l, h => by rw [wE_isty] at h ⊢; exact wE_mono a (fun _ _ h => tyIs_mono (fun _ => k _ _) h) l h
  | .iscl a c, _, _, _, _, _, _, k, l, h => by rw [wE_iscl] at h ⊢; exact wE_mono a (fun _ _ h => getI_mono (fun _ _ ⟨b, e, h⟩ => ⟨b, e, k _ _ h⟩) h) l h
  | .exis i cs, _, _, _, _, _, _, k, l, h => by rw [wE_exis] at h ⊢; obtain ⟨a, d, fs, h1, h2, b, h3, h⟩ := h; exact ⟨a, d, fs, h1, h2, b, h3, k _ _ h⟩
  | .exfl i f, _, _, _, _, _, _, k, l, h => by rw [wE_exfl] at h ⊢; obtain ⟨a, d, fs, v, h1, h2, h3, h⟩ := h; exact ⟨a, d, fs, v, h1, h2, h3, k _ _ h⟩
  | .comp m own g kk as hc cond elt, _, _, _, _, _, _, k, l, h => by 
    rw [wE_comp] at h ⊢
    refine wA_mono as (fun vs S1 h => itK_mono (fun G items h D hD => wTurns_mono ?_ ?_ ?_ (endC_mono k) _ _ (h D hD)) h) l h
    · exact fun x P P' kp h => tgt_mono kp h
    · intro ev S2 P P' kp h
      cases hc with
      | false => exact kp _ _ h
      | true => exact wT_mono cond kp (fun _ _ z => z) h
    · exact fun ev S2 P P' kp h => wE_mono elt kp (fun _ _ z => z) h
  | .sup c m as, _, _, _, _, _, _, k, l, h => by rw [wE_sup] at h ⊢; exact wA_mono as (fun _ _ ⟨g, h1, h⟩ => ⟨g, h1, wCall_mono k l h⟩) l h
  | .dnew t, _, _, _, _, _, _, k, l, h => by rw [wE_dnew] at h ⊢; exact fun p hp => k _ _ (h p hp)
  | .dget d k', _, _, _, _, _, _, k, l, h => by rw [wE_dget] at h ⊢; exact wE_mono d (fun _ _ h => wE_mono k' (fun _ _ h => dGet_mono (fun _ ⟨v, e, h⟩ => ⟨v, e, k _ _ h⟩) h) l h) l h
  | .din n k' d, _, _, _, _, _, _, k, l, h => by rw [wE_din] at h ⊢; exact wE_mono k' (fun _ _ h => wE_mono d (fun _ _ h => dGet_mono (fun _ h => k _ _ h) h) l h) l h
  | .dget2 d k' x, _, _, _, _, _, _, k, l, h => by rw [wE_dget2] at h ⊢; exact wE_mono d (fun _ _ h => ⟨h.1, wE_mono k' (fun _ _ h => wE_mono x (fun _ _ h => dGet_mono (fun _ h => k _ _ h) h) l h) l h.2⟩) l h
  | .dpop d k', _, _, _, _, _, _, k, l, h => by exact h.elim
  | .sm m a as, _, _, _, _, _, _, k, l, h => by rw [wE_sm] at h ⊢; exact wE_mono a (fun _ _ h => wA_mono as (fun _ _ h => opSm_mono k h) l h) l h
  | .clo k' as, _, _, _, _, _, _, k, l, h => by exact h.elim
  | .ccall f as, _, _, _, _, _, _, k, l, h => by exact h.elim
theorem wT_mono : ∀ (e : Ex) {env : Ev} {S : Store} {Q Q' : Bool → Store → Prop} {E E' : Exn → Store → Prop}, (∀ v S, Q v S → Q' v S) → (∀ x S, E x S → E' x S) → wT T e env S Q E → wT T e env S Q' E'
  | .var i, _, _, _, _, _, _, k, l, h => by rw [wT_var] at h ⊢; obtain ⟨v, e, h⟩ := h; exact ⟨v, e, tru_mono (fun _ => k _ _) h⟩
  | .lit v, _, _, _, _, _, _, k, l, h => by rw [wT_lit] at h ⊢; exact tru_mono (fun _ => k _ _) h
  | .bin o a b, _, _, _, _, _, _, k, l, h => by rw [wT_bin] at h ⊢; exact wE_mono a (fun _ _ h => wE_mono b (fun _ _ h => opB_mono (fun _ _ h => tru_mono (fun _ => k _ _) h) h) l h) l h
  | .neg a, _, _, _, _, _, _, k, l, h => by exact h.elim
  | .nott a, _, _, _, _, _, _, k, l, h => by rw [wT_nott] at h ⊢; exact wT_mono a (fun _ _ h => k _ _ h) l h
  | .cmp o a b, _, _, _, _, _, _, k, l, h => by rw [wT_cmp] at h ⊢; exact wE_mono a (fun _ _ h => wE_mono b (fun _ _ h => opC_mono (fun _ => k _ _) h) l h) l h
  | .chain o1 o2 a b c, _, _, _, _, _, _, k, l, h => by 
    rw [wT_chain] at h ⊢
    refine wE_mono a (fun _ _ h => wE_mono b (fun _ _ h => opC_mono (fun t h => ?_) h) l h) l h
    cases t with
    | true => exact wE_mono c (fun _ _ h => opC_mono (fun _ => k _ _) h) l h
    | false => exact k _ _ h
  | .andd a b, _, _, _, _, _, _, k, l, h => by 
    rw [wT_andd] at h ⊢
    refine wT_mono a (fun t _ h => ?_) l h
    cases t with
    | true => exact wT_mono b k l h
    | false => exact k _ _ h
  | .orr a b, _, _, _, _, _, _, k, l, h => by 
    rw [wT_orr] at h ⊢
    refine wT_mono a (fun t _ h => ?_) l h
    cases t with
    | true => exact k _ _ h
    | false => exact wT_mono b k l h
  | .ife t a b, _, _, _, _, _, _, k, l, h => by exact h.elim
  | .nil, _, _, _, _, _, _, k, l, h => by exact h.elim
  | .cons a as, _, _, _, _, _, _, k, l, h => by exact h.elim
  | .tup as, _, _, _, _, _, _, k, l, h => by exact h.elim
  | .lst m as, _, _, _, _, _, _, k, l, h => by exact h.elim
  | .idx a i, _, _, _, _, _, _, k, l, h => by rw [wT_idx] at h ⊢; exact wE_mono a (fun _ _ h => wE_mono i (fun _ _ h => opIx_mono (fun _ _ h => tru_mono (fun _ => k _ _) h) h) l h) l h
  | .slc m a lo hi, _, _, _, _, _, _, k, l, h => by exact h.elim
  | .fld a f, _, _, _, _, _, _, k, l, h => by rw [wT_fld] at h ⊢; exact wE_mono a (fun _ _ h => getI_mono (fun c fs ⟨h1, v, h2, h⟩ => ⟨h1, v, h2, tru_mono (fun _ => k _ _) h⟩) h) l h
  | .call f as d, _, _, _, _, _, _, k, l, h => by rw [wT_call] at h ⊢; exact wA_mono as (fun _ _ h => wCall_mono (fun _ _ h => tru_mono (fun _ => k _ _) h) l h) l h
  | .meth a m as, _, _, _, _, _, _, k, l, h => by rw [wT_meth] at h ⊢; exact wE_mono a (fun _ _ h => getI_mono (fun c fs ⟨h1, g, h2, h⟩ => ⟨h1, g, h2, wA_mono as (fun _ _ h => wCall_mono (fun _ _ h => tru_mono (fun _ => k _ _) h) l h) l h⟩) h) l h
  | .new c m as d, _, _, _, _, _, _, k, l, h => by exact h.elim
  | .blt b as, _, _, _, _, _, _, k, l, h => by rw [wT_blt] at h ⊢; exact wA_mono as (fun _ _ h => opBi_mono (fun _ _ h => tru_mono (fun _ => k _ _) h) h) l h
  | .isty a t, _, _, _, _, _, _, k, l, h => by rw [wT_isty] at h ⊢; exact wE_mono a (fun _ _ h => tyIs_mono (fun _ => k _ _) h) l h
  | .iscl a c, _, _, _, _, _, _, k, l, h => by rw [wT_iscl] at h ⊢; exact wE_mono a (fun _ _ h => getI_mono (fun _ _ ⟨b, e, h⟩ => ⟨b, e, k _ _ h⟩) h) l h
  | .exis i cs, _, _, _, _, _, _, k, l, h => by rw [wT_exis] at h ⊢; obtain ⟨a, d, fs, h1, h2, b, h3, h⟩ := h; exact ⟨a, d, fs, h1, h2, b, h3, k _ _ h⟩
  | .exfl i f, _, _, _, _, _, _, k, l, h => by rw [wT_exfl] at h ⊢; obtain ⟨a, d, fs, v, h1, h2, h3, h⟩ := h; exact ⟨a, d, fs, v, h1, h2, h3, tru_mono (fun _ => k _ _) h⟩
  | .comp m own g kk as hc cond elt, _, _, _, _, _, _, k, l, h => by exact h.elim
  | .sup c m as, _, _, _, _, _, _, k, l, h => by exact h.elim
  | .dnew t, _, _, _, _, _, _, k, l, h => by exact h.elim
  | .dget d k', _, _, _, _, _, _, k, l, h => by rw [wT_dget] at h ⊢; exact wE_mono d (fun _ _ h => wE_mono k' (fun _ _ h => dGet_mono (fun _ ⟨v, e, h⟩ => ⟨v, e, tru_mono (fun _ => k _ _) h⟩) h) l h) l h
  | .din n k' d, _, _, _, _, _, _, k, l, h => by rw [wT_din] at h ⊢; exact wE_mono k' (fun _ _ h => wE_mono d (fun _ _ h => dGet_mono (fun _ h => k _ _ h) h) l h) l h
  | .dget2 d k' x, _, _, _, _, _, _, k, l, h => by exact h.elim
  | .dpop d k', _, _, _, _, _, _, k, l, h => by exact h.elim
  | .sm m a as, _, _, _, _, _, _, k, l, h => by rw [wT_sm] at h ⊢; exact wE_mono a (fun _ _ h => wA_mono as (fun _ _ h => opSm_mono (fun _ _ h => tru_mono (fun _ => k _ _) h) h) l h) l h
  | .clo k' as, _, _, _, _, _, _, k, l, h => by exact h.elim
  | .ccall f as, _, _, _, _, _, _, k, l, h => by exact h.elim
theorem wA_mono : ∀ (e : Ex) {env : Ev} {S : Store} {Q Q' : List Val → Store → Prop} {E E' : Exn → Store → Prop}, (∀ v S, Q v S → Q' v S) → (∀ x S, E x S → E' x S) → wA T e env S Q E → wA T e env S Q' E'
  | .var i, _, _, _, _, _, _, k, l, h => by exact h.elim
  | .lit v, _, _, _, _, _, _, k, l, h => by exact h.elim
  | .bin o a b, _, _, _, _, _, _, k, l, h => by exact h.elim
  | .neg a, _, _, _, _, _, _, k, l, h => by exact h.elim
  | .nott a, _, _, _, _, _, _, k, l, h => by exact h.elim
  | .cmp o a b, _, _, _, _, _, _, k, l, h => by exact h.elim
  | .chain o1 o2 a b c, _, _, _, _, _, _, k, l, h => by exact h.elim
  | .andd a b, _, _, _, _, _, _, k, l, h => by exact h.elim
  | .orr a b, _, _, _, _, _, _, k, l, h => by exact h.elim
  | .ife t a b, _, _, _, _, _, _, k, l, h => by exact h.elim
  | .nil, _, _, _, _, _, _, k, l, h => by rw [wA_nil] at h ⊢; exact k _ _ h
  | .cons a as, _, _, _, _, _, _, k, l, h => by rw [wA_cons] at h ⊢; exact wE_mono a (fun _ _ h => wA_mono as (fun _ _ h => k _ _ h) l h) l h
  | .tup as, _, _, _, _, _, _, k, l, h => by exact h.elim
  | .lst m as, _, _, _, _, _, _, k, l, h => by exact h.elim
  | .idx a i, _, _, _, _, _, _, k, l, h => by exact h.elim
  | .slc m a lo hi, _, _, _, _, _, _, k, l, h => by exact h.elim
  | .fld a f, _, _, _, _, _, _, k, l, h => by exact h.elim
  | .call f as d, _, _, _, _, _, _, k, l, h => by exact h.elim
  | .meth a m as, _, _, _, _, _, _, k, l, h => by exact h.elim
  | .new c m as d, _, _, _, _, _, _, k, l, h => by exact h.elim
  | .blt b as, _, _, _, _, _, _, k, l, h => by exact h.elim
  | .isty a t, _, _, _, _, _, _, k, l, h => by exact h.elim
  | .iscl a c, _, _, _, _, _, _, k, l, h => by exact h.elim
  | .exis i cs, _, _, _, _, _, _, k, l, h => by exact h.elim
  | .exfl i f, _, _, _, _, _, _, k, l, h => by exact h.elim
  | .comp m own g kk as hc cond elt, _, _, _, _, _, _, k, l, h => by exact h.elim
  | .sup c m as, _, _, _, _, _, _, k, l, h => by exact h.elim
  | .dnew t, _, _, _, _, _, _, k, l, h => by exact h.elim
  | .dget d k', _, _, _, _, _, _, k, l, h => by exact h.elim
  | .din n k' d, _, _, _, _, _, _, k, l, h => by exact h.elim
  | .dget2 d k' x, _, _, _, _, _, _, k, l, h => by exact h.elim
  | .dpop d k', _, _, _, _, _, _, k, l, h => by exact h.elim
  | .sm m a as, _, _, _, _, _, _, k, l, h => by exact h.elim
  | .clo k' as, _, _, _, _, _, _, k, l, h => by exact h.elim
  | .ccall f as, _, _, _, _, _, _, k, l, h => by exact h.elim
theorem wO_mono : ∀ (e : Ex) {env : Ev} {S : Store} {Q Q' : Option Int → Store → Prop} {E E' : Exn → Store → Prop}, (∀ v S, Q v S → Q' v S) → (∀ x S, E x S → E' x S) → wO T e env S Q E → wO T e env S Q' E'
  | .nil, _, _, _, _, _, _, k, l, h => by rw [wO_nil] at h ⊢; exact k _ _ h
  | .cons a .nil, _, _, _, _, _, _, k, l, h => by rw [wO_cons] at h ⊢; exact wE_mono a (fun _ _ h => optI_mono (fun _ => k _ _) h) l h
  | .cons _ (.var _), _, _, _, _, _, _, k, l, h => by exact h.elim
  | .cons _ (.lit _), _, _, _, _, _, _, k, l, h => by exact h.elim
  | .cons _ (.bin _ _ _), _, _, _, _, _, _, k, l, h => by exact h.elim
  | .cons _ (.neg _), _, _, _, _, _, _, k, l, h => by exact h.elim
  | .cons _ (.nott _), _, _, _, _, _, _, k, l, h => by exact h.elim
  | .cons _ (.cmp _ _ _), _, _, _, _, _, _, k, l, h => by exact h.elim
  | .cons _ (.chain _ _ _ _ _), _, _, _, _, _, _, k, l, h => by exact h.elim
  | .cons _ (.andd _ _), _, _, _, _, _, _, k, l, h => by exact h.elim
  | .cons _ (.orr _ _), _, _, _, _, _, _, k, l, h => by exact h.elim
  | .cons _ (.ife _ _ _), _, _, _, _, _, _, k, l, h => by exact h.elim
  | .cons _ (.cons _ _), _, _, _, _, _, _, k, l, h => by exact h.elim
  | .cons _ (.tup _), _, _, _, _, _, _, k, l, h => by exact h.elim
  | .cons _ (.lst _ _), _, _, _, _, _, _, k, l, h => by exact h.elim
  | .cons _ (.idx _ _), _, _, _, _, _, _, k, l, h => by exact h.elim
  | .cons _ (.slc _ _ _ _), _, _, _, _, _, _, k, l, h => by exact h.elim
  | .cons _ (.fld _ _), _, _, _, _, _, _, k, l, h => by exact h.elim
  | .cons _ (.call _ _ _), _, _, _, _, _, _, k, l, h => by exact h.elim
  | .cons _ (.meth _ _ _), _, _, _, _, _, _, k, l, h => by exact h.elim
  | .cons _ (.new _ _ _ _), _, _, _, _, _, _, k, l, h => by exact h.elim
  | .cons _ (.blt _ _), _, _, _, _, _, _, k, l, h => by exact h.elim
  | .cons _ (.isty _ _), _, _, _, _, _, _, k, l, h => by exact h.elim
  | .cons _ (.iscl _ _), _, _, _, _, _, _, k, l, h => by exact h.elim
  | .cons _ (.exis _ _), _, _, _, _, _, _, k, l, h => by exact h.elim
  | .cons _ (.exfl _ _), _, _, _, _, _, _, k, l, h => by exact h.elim
  | .cons _ (.comp _ _ _ _ _ _ _ _), _, _, _, _, _, _, k, l, h => by exact h.elim
  | .cons _ (.sup _ _ _), _, _, _, _, _, _, k, l, h => by exact h.elim
  | .cons _ (.dnew _), _, _, _, _, _, _, k, l, h => by exact h.elim
  | .cons _ (.dget _ _), _, _, _, _, _, _, k, l, h => by exact h.elim
  | .cons _ (.din _ _ _), _, _, _, _, _, _, k, l, h => by exact h.elim
  | .cons _ (.dget2 _ _ _), _, _, _, _, _, _, k, l, h => by exact h.elim
  | .cons _ (.dpop _ _), _, _, _, _, _, _, k, l, h => by exact h.elim
  | .cons _ (.sm _ _ _), _, _, _, _, _, _, k, l, h => by exact h.elim
  | .cons _ (.clo _ _), _, _, _, _, _, _, k, l, h => by exact h.elim
  | .cons _ (.ccall _ _), _, _, _, _, _, _, k, l, h => by exact h.elim
  | .var _, _, _, _, _, _, _, k, l, h => by exact h.elim
  | .lit _, _, _, _, _, _, _, k, l, h => by exact h.elim
  | .bin _ _ _, _, _, _, _, _, _, k, l, h => by exact h.elim
  | .neg _, _, _, _, _, _, _, k, l, h => by exact h.elim
  | .nott _, _, _, _, _, _, _, k, l, h => by exact h.elim
  | .cmp _ _ _, _, _, _, _, _, _, k, l, h => by exact h.elim
  | .chain _ _ _ _ _, _, _, _, _, _, _, k, l, h => by exact h.elim
  | .andd _ _, _, _, _, _, _, _, k, l, h => by exact h.elim
  | .orr _ _, _, _, _, _, _, _, k, l, h => by exact h.elim
  | .ife _ _ _, _, _, _, _, _, _, k, l, h => by exact h.elim
  | .tup _, _, _, _, _, _, _, k, l, h => by exact h.elim
  | .lst _ _, _, _, _, _, _, _, k, l, h => by exact h.elim
  | .idx _ _, _, _, _, _, _, _, k, l, h => by exact h.elim
  | .slc _ _ _ _, _, _, _, _, _, _, k, l, h => by exact h.elim
  | .fld _ _, _, _, _, _, _, _, k, l, h => by exact h.elim
  | .call _ _ _, _, _, _, _, _, _, k, l, h => by exact h.elim
  | .meth _ _ _, _, _, _, _, _, _, k, l, h => by exact h.elim
  | .new _ _ _ _, _, _, _, _, _, _, k, l, h => by exact h.elim
  | .blt _ _, _, _, _, _, _, _, k, l, h => by exact h.elim
  | .isty _ _, _, _, _, _, _, _, k, l, h => by exact h.elim
  | .iscl _ _, _, _, _, _, _, _, k, l, h => by exact h.elim
  | .exis _ _, _, _, _, _, _, _, k, l, h => by exact h.elim
  | .exfl _ _, _, _, _, _, _, _, k, l, h => by exact h.elim
  | .comp _ _ _ _ _ _ _ _, _, _, _, _, _, _, k, l, h => by exact h.elim
  | .sup _ _ _, _, _, _, _, _, _, k, l, h => by exact h.elim
  | .dnew _, _, _, _, _, _, _, k, l, h => by exact h.elim
  | .dget _ _, _, _, _, _, _, _, k, l, h => by exact h.elim
  | .din _ _ _, _, _, _, _, _, _, k, l, h => by exact h.elim
  | .dget2 _ _ _, _, _, _, _, _, _, k, l, h => by exact h.elim
  | .dpop _ _, _, _, _, _, _, _, k, l, h => by exact h.elim
  | .sm _ _ _, _, _, _, _, _, _, k, l, h => by exact h.elim
  | .clo _ _, _, _, _, _, _, _, k, l, h => by exact h.elim
  | .ccall _ _, _, _, _, _, _, _, k, l, h => by exact h.elim
end
end
end BW
set_option Elab.async false
set_option linter.all false
set_option maxRecDepth 100000
set_option maxHeartbeats 4000000
namespace BW
open PySem PySem.Spec PyProof.Rows L2

/-! ### statements -/
/-- one of these classes; each of them is one -/
def isAnyE (f : Nat → Option Bool) : List Nat → Option Bool
  | [] => some false
  | c :: r => match f c, isAnyE f r with
    | some b, some d => some (b || d)
    | _, _ => none
inductive Bm where | append | extend | clear | reverse
  deriving DecidableEq
inductive Sx where
  | skip | seq (a b : Sx)
  | asg (g : Tg) (e : Ex) | asgF (o : Ex) (f : Nat) (e : Ex) | asgI (o i e : Ex)
  | augN (i : Nat) (o : Bop) (e : Ex) | augI (o i : Ex) (op : Bop) (e : Ex)
  | par (i j : Nat) (a b : Ex)
  | expr (e : Ex) | bm (m : Bm) (a as : Ex)
  | ret (e : Ex) | retN
  | ite (c : Ex) (a b : Sx) | whl (c : Ex) (b : Sx) | for_ (g : Tg) (k : ItK) (as : Ex) (b : Sx)
  | brk | cnt
  | raise (c : Nat) (fl : List Nat) (as : Ex)
  | asgD (d k e : Ex)
  | tri (b h : Sx) | hnil | hcons (cs : List Nat) (i : Option Nat) (s r : Sx)
structure Post where
  nx : Ev → Store → Prop
  rt : Val → Store → Prop
  bk : Ev → Store → Prop
  ct : Ev → Store → Prop
  ex : Exn → Ev → Store → Prop
structure Post.Le (D D' : Post) : Prop where
  nx : ∀ e S, D.nx e S → D'.nx e S
  rt : ∀ v S, D.rt v S → D'.rt v S
  bk : ∀ e S, D.bk e S → D'.bk e S
  ct : ∀ e S, D.ct e S → D'.ct e S
  ex : ∀ x e S, D.ex x e S → D'.ex x e S
def setI : Val → Val → Val → Store → (Store → Prop) → Prop
  | .ref p, .int k, v, S, Q => ∃ l j, S p = some (.lst l) ∧ ixN l.length k = some j ∧ Q (put S p (.lst (l.set j v)))
  | _, _, _, _, _ => False
def opBm : Bm → Val → List Val → Store → (Store → Prop) → Prop
  | .append, .ref p, [x], S, Q => ∃ l, S p = some (.lst l) ∧ l.length < LIM ∧ Q (put S p (.lst (l ++ [x])))
  | .extend, .ref p, [x], S, Q => ∃ l, S p = some (.lst l) ∧ getL S x fun m => l.length + m.length ≤ LIM ∧ Q (put S p (.lst (l ++ m)))
  | .clear, .ref p, [], S, Q => ∃ l, S p = some (.lst l) ∧ Q (put S p (.lst []))
  | .reverse, .ref p, [], S, Q => ∃ l, S p = some (.lst l) ∧ Q (put S p (.lst l.reverse))
  | _, _, _, _, _ => False
def putN (f : Nat) (v : Val) : List (Nat × Val) → List (Nat × Val)
  | [] => [(f, v)]
  | (g, x) :: r => if g = f then (g, v) :: r else (g, x) :: putN f v r
/-- a field is stored -/
def setF (fl : Nat → Nat → Bool) (f : Nat) (v : Val) : Val → Store → (Store → Prop) → Prop
  | .ref p, S, Q => ∃ c fs, S p = some (.ins c fs) ∧ (fl c f = true ∧ c < 9) ∧ fs.length < 900 ∧ Q (put S p (.ins c (putN f v fs)))
  | _, _, _ => False
/-- a while: an invariant with its measure -/
def wWhl (c : Ev → Store → (Bool → Store → Prop) → (Exn → Store → Prop) → Prop) (b : Ev → Store → Post → Prop) (env : Ev) (S : Store) (D : Post) : Prop :=
  ∃ W : Nat → Ev → Store → Prop, (∃ m, W m env S) ∧ ∀ m env S, W m env S → c env S (fun t S1 => if t = true then
    b env S1 ⟨fun e' S' => ∃ m', m' < m ∧ W m' e' S', D.rt, D.nx, fun e' S' => ∃ m', m' < m ∧ W m' e' S', D.ex⟩ else D.nx env S1) fun x S' => D.ex x env S'
/-- a for, by the items that are left -/
def wFor (G : Store → Prop) (g : Val → Ev → (Ev → Prop) → Prop) (b : Ev → Store → Post → Prop) (D : Post) : List Val → Ev → Store → Prop
  | [], env, S => G S ∧ D.nx env S
  | x :: r, env, S => G S ∧ g x env fun e1 => b e1 S ⟨wFor G g b D r, D.rt, D.nx, wFor G g b D r, D.ex⟩
mutual
def wS : Tb → Sx → Ev → Store → Post → Prop
  | T, .skip, env, S, D => D.nx env S
  | T, .seq a b, env, S, D => wS T a env S ⟨fun e' S' => wS T b e' S' D, D.rt, D.bk, D.ct, D.ex⟩
  | T, .asg g e, env, S, D => wE T e env S (fun v S1 => tgt g v env fun e' => D.nx e' S1) fun x S' => D.ex x env S'
  | T, .asgF o f e, env, S, D => wE T e env S (fun v S1 => wE T o env S1 (fun x S2 => setF T.fl f v x S2 fun S3 => D.nx env S3) fun x S' => D.ex x env S') fun x S' => D.ex x env S'
  | T, .asgI o i e, env, S, D => wE T e env S (fun v S1 => wE T o env S1 (fun x S2 => wE T i env S2 (fun y S3 => setI x y v S3 fun S4 => D.nx env S4) fun x S' => D.ex x env S') fun x S' => D.ex x env S') fun x S' => D.ex x env S'
  | T, .augN i o e, env, S, D => ∃ a, env[i]? = some (some (.int a)) ∧ wE T e env S (fun y S1 => ∃ b, y = .int b ∧ opB o (.int a) (.int b) S1 fun z S2 => D.nx (env.set i (some z)) S2) fun x S' => D.ex x env S'
  | T, .augI o i op e, env, S, D => wE T o env S (fun x S1 => (∃ p, x = .ref p) ∧ wE T i env S1 (fun y S2 => opIx x y S2 fun v S3 => wE T e env S3 (fun z S4 => ∃ a b, v = .int a ∧ z = .int b ∧ opB op (.int a) (.int b) S4 fun u S5 => setI x y u S5 fun S6 => D.nx env S6) fun x S' => D.ex x env S') fun x S' => D.ex x env S') fun x S' => D.ex x env S'
  | T, .par i j a b, env, S, D => wE T a env S (fun x S1 => wE T b env S1 (fun y S2 => D.nx ((env.set i (some x)).set j (some y)) S2) fun x S' => D.ex x env S') fun x S' => D.ex x env S'
  | T, .expr e, env, S, D => wE T e env S (fun _ S1 => D.nx env S1) fun x S' => D.ex x env S'
  | T, .bm m a as, env, S, D => wE T a env S (fun x S1 => (∃ p l, x = .ref p ∧ S1 p = some (.lst l)) ∧ wA T as env S1 (fun vs S2 => opBm m x vs S2 fun S3 => D.nx env S3) fun x S' => D.ex x env S') fun x S' => D.ex x env S'
  | T, .ret e, env, S, D => wE T e env S D.rt fun x S' => D.ex x env S'
  | T, .retN, _, S, D => D.rt .non S
  | T, .ite c a b, env, S, D => wT T c env S (fun t S1 => if t = true then wS T a env S1 D else wS T b env S1 D) fun x S' => D.ex x env S'
  | T, .whl c b, env, S, D => wWhl (wT T c) (wS T b) env S D
  | T, .for_ g k as b, env, S, D => wA T as env S (fun vs S1 => itK k vs S1 fun G items => wFor G (tgt g) (wS T b) D items env S1) fun x S' => D.ex x env S'
  | T, .brk, env, S, D => D.bk env S
  | T, .cnt, env, S, D => D.ct env S
  | T, .raise c fl as, env, S, D => wA T as env S (fun vs S1 => fl.length = vs.length ∧ D.ex ⟨c, fl.zip vs⟩ env S1) fun x S' => D.ex x env S'
  | T, .asgD d k e, env, S, D => wE T e env S (fun v S1 => wE T d env S1 (fun x S2 => wE T k env S2 (fun y S3 => dPut S3 x y v fun S4 => D.nx env S4) fun x S' => D.ex x env S') fun x S' => D.ex x env S') fun x S' => D.ex x env S'
  | T, .tri b h, env, S, D => wS T b env S { D with ex := fun x e S' => wH T h x e S' D }
  | T, .hnil, _, _, _ => False
  | T, .hcons _ _ _ _, _, _, _ => False
/-- the clauses of a try, for a caught exception x -/
def wH : Tb → Sx → Exn → Ev → Store → Post → Prop
  | T, .hnil, x, env, S, D => D.ex x env S
  | T, .hcons cs none s r, x, env, S, D => isAnyE (T.exm x.c) cs = some true ∧ (∀ a, S a = none → wS { T with ex := some (a, x.c, x.fs) } s env S { D with ex := fun _ _ _ => False }) ∨ isAnyE (T.exm x.c) cs = some false ∧ wH T r x env S D
  | T, .hcons cs (some i) s r, x, env, S, D => isAnyE (T.exm x.c) cs = some true ∧ (∀ a, S a = none → wS { T with ex := some (a, x.c, x.fs) } s (env.set i (some (.exc a))) S
      ⟨fun e' S' => D.nx (e'.set i none) S', D.rt, fun e' S' => D.bk (e'.set i none) S', fun e' S' => D.ct (e'.set i none) S', fun _ _ _ => False⟩) ∨ isAnyE (T.exm x.c) cs = some false ∧ wH T r x env S D
  | _, _, _, _, _, _ => False
end
section
variable {T : Tb} {env : Ev} {S : Store} {D : Post}
theorem wS_skip : wS T .skip env S D = (D.nx env S) := rfl
theorem wS_seq {a b : Sx} : wS T (.seq a b) env S D = (wS T a env S ⟨fun e' S' => wS T b e' S' D, D.rt, D.bk, D.ct, D.ex⟩) := rfl
theorem wS_asg {g : Tg} {e : Ex} : wS T (.asg g e) env S D = (wE T e env S (fun v S1 => tgt g v env fun e' => D.nx e' S1) fun x S' => D.ex x env S') := rfl
theorem wS_asgF {o e : Ex} {f : Nat} : wS T (.asgF o f e) env S D = (wE T e env S (fun v S1 => wE T o env S1 (fun x S2 => setF T.fl f v x S2 fun S3 => D.nx env S3) fun x S' => D.ex x env S') fun x S' => D.ex x env S') := rfl
theorem wS_asgD {d k e : Ex} : wS T (.asgD d k e) env S D = (wE T e env S (fun v S1 => wE T d env S1 (fun x S2 => wE T k env S2 (fun y S3 => dPut S3 x y v fun S4 => D.nx env S4) fun x S' => D.ex x env S') fun x S' => D.ex x env S') fun x S' => D.ex x env S') := rfl
theorem wS_tri {b h : Sx} : wS T (.tri b h) env S D = wS T b env S { D with ex := fun x e S' => wH T h x e S' D } := rfl
theorem wS_asgI {o i e : Ex} : wS T (.asgI o i e) env S D = (wE T e env S (fun v S1 => wE T o env S1 (fun x S2 => wE T i env S2 (fun y S3 => setI x y v S3 fun S4 => D.nx env S4) fun x S' => D.ex x env S') fun x S' => D.ex x env S') fun x S' => D.ex x env S') := rfl
theorem wS_augN {i : Nat} {o : Bop} {e : Ex} : wS T (.augN i o e) env S D = (∃ a, env[i]? = some (some (.int a)) ∧ wE T e env S (fun y S1 => ∃ b, y = .int b ∧ opB o (.int a) (.int b) S1 fun z S2 => D.nx (env.set i (some z)) S2) fun x S' => D.ex x env S') := rfl
theorem wS_augI {o i e : Ex} {op : Bop} : wS T (.augI o i op e) env S D = (wE T o env S (fun x S1 => (∃ p, x = .ref p) ∧ wE T i env S1 (fun y S2 => opIx x y S2 fun v S3 => wE T e env S3 (fun z S4 => ∃ a b, v = .int a ∧ z = .int b ∧ opB op (.int a) (.int b) S4 fun u S5 => setI x y u S5 fun S6 => D.nx env S6) fun x S' => D.ex x env S') fun x S' => D.ex x env S') fun x S' => D.ex x env S') := rfl
theorem wS_par {i j : Nat} {a b : Ex} : wS T (.par i j a b) env S D = (wE T a env S (fun x S1 => wE T b env S1 (fun y S2 => D.nx ((env.set i (some x)).set j (some y)) S2) fun x S' => D.ex x env S') fun x S' => D.ex x env S') := rfl
theorem wS_expr {e : Ex} : wS T (.expr e) env S D = (wE T e env S (fun _ S1 => D.nx env S1) fun x S' => D.ex x env S') := rfl
theorem wS_bm {m : Bm} {a as : Ex} : wS T (.bm m a as) env S D = (wE T a env S (fun x S1 => (∃ p l, x = .ref p ∧ S1 p = some (.lst l)) ∧ wA T as env S1 (fun vs S2 => opBm m x vs S2 fun S3 => D.nx env S3) fun x S' => D.ex x env S') fun x S' => D.ex x env S') := rfl
theorem wS_ret {e : Ex} : wS T (.ret e) env S D = (wE T e env S D.rt fun x S' => D.ex x env S') := rfl
theorem wS_retN : wS T .retN env S D = (D.rt .non S) := rfl
theorem wS_ite {c : Ex} {a b : Sx} : wS T (.ite c a b) env S D = (wT T c env S (fun t S1 => if t = true then wS T a env S1 D else wS T b env S1 D) fun x S' => D.ex x env S') := rfl
theorem wS_whl {c : Ex} {b : Sx} : wS T (.whl c b) env S D = (wWhl (wT T c) (wS T b) env S D) := rfl
theorem wS_for {g : Tg} {k : ItK} {as : Ex} {b : Sx} : wS T (.for_ g k as b) env S D = (wA T as env S (fun vs S1 => itK k vs S1 fun G items => wFor G (tgt g) (wS T b) D items env S1) fun x S' => D.ex x env S') := rfl
theorem wS_brk : wS T .brk env S D = (D.bk env S) := rfl
theorem wS_cnt : wS T .cnt env S D = (D.ct env S) := rfl
theorem wS_raise {c : Nat} {fl : List Nat} {as : Ex} : wS T (.raise c fl as) env S D = (wA T as env S (fun vs S1 => fl.length = vs.length ∧ D.ex ⟨c, fl.zip vs⟩ env S1) fun x S' => D.ex x env S') := rfl
theorem wH_nil {x : Exn} : wH T .hnil x env S D = D.ex x env S := rfl
theorem wH_cons0 {x : Exn} {cs : List Nat} {s r : Sx} : wH T (.hcons cs none s r) x env S D = (isAnyE (T.exm x.c) cs = some true ∧ (∀ a, S a = none → wS { T with ex := some (a, x.c, x.fs) } s env S { D with ex := fun _ _ _ => False }) ∨ isAnyE (T.exm x.c) cs = some false ∧ wH T r x env S D) := rfl
theorem wH_cons1 {x : Exn} {cs : List Nat} {i : Nat} {s r : Sx} : wH T (.hcons cs (some i) s r) x env S D = (isAnyE (T.exm x.c) cs = some true ∧ (∀ a, S a = none → wS { T with ex := some (a, x.c, x.fs) } s (env.set i (some (.exc a))) S
      ⟨fun e' S' => D.nx (e'.set i none) S', D.rt, fun e' S' => D.bk (e'.set i none) S', fun e' S' => D.ct (e'.set i none) S', fun _ _ _ => False⟩) ∨ isAnyE (T.exm x.c) cs = some false ∧ wH T r x env S D) := rfl
end
theorem Post.Le.refl {D : Post} : Post.Le D D := ⟨fun _ _ h => h, fun _ _ h => h, fun _ _ h => h, fun _ _ h => h, fun _ _ _ h => h⟩
theorem setI_mono {o i v : Val} {S : Store} {Q Q' : Store → Prop} (k : ∀ S, Q S → Q' S) (h : setI o i v S Q) : setI o i v S Q' := by
  unfold setI at *
  split at h
  · obtain ⟨l, j, h1, h2, h⟩ := h
    exact ⟨l, j, h1, h2, k _ h⟩
  · exact h.elim
theorem opBm_mono {m : Bm} {x : Val} {vs : List Val} {S : Store} {Q Q' : Store → Prop} (k : ∀ S, Q S → Q' S) (h : opBm m x vs S Q) : opBm m x vs S Q' := by
  fun_cases opBm m x vs S Q <;> simp only [opBm] at h ⊢ <;> first
    | (obtain ⟨l, h1, h2, h⟩ := h; exact ⟨l, h1, h2, k _ h⟩)
    | (obtain ⟨l, h1, h⟩ := h; exact ⟨l, h1, k _ h⟩)
    | (obtain ⟨l, h1, h⟩ := h; exact ⟨l, h1, getL_mono (fun m h => ⟨h.1, k _ h.2⟩) h⟩)
    | exact h.elim
theorem setF_mono {fl : Nat → Nat → Bool} {f : Nat} {v x : Val} {S : Store} {Q Q' : Store → Prop} (k : ∀ S, Q S → Q' S) (h : setF fl f v x S Q) : setF fl f v x S Q' := by
  unfold setF at *
  split at h
  · obtain ⟨c, fs, h1, h2, h3, h⟩ := h; exact ⟨c, fs, h1, h2, h3, k _ h⟩
  · exact h.elim
theorem wWhl_mono {T : Tb} {c : Ex} {b : Ev → Store → Post → Prop} (kb : ∀ env S D D', Post.Le D D' → b env S D → b env S D') {env : Ev} {S : Store} {D D' : Post} (k : Post.Le D D') (h : wWhl (wT T c) b env S D) : wWhl (wT T c) b env S D' := by
  obtain ⟨W, h0, h⟩ := h
  refine ⟨W, h0, fun m env S hw => wT_mono c (fun t S1 q => ?_) (fun x S' q => k.ex x env S' q) (h m env S hw)⟩
  cases t with
  | true =>
    refine kb _ _ _ _ ?_ q
    exact ⟨fun _ _ z => z, k.rt, k.nx, fun _ _ z => z, k.ex⟩
  | false => exact k.nx _ _ q
theorem wFor_mono {G : Store → Prop} {g : Val → Ev → (Ev → Prop) → Prop} {b : Ev → Store → Post → Prop} (kg : ∀ x env P P', (∀ e, P e → P' e) → g x env P → g x env P') (kb : ∀ env S D D', Post.Le D D' → b env S D → b env S D') {D D' : Post} (k : Post.Le D D') :
    ∀ (l : List Val) (env : Ev) (S : Store), wFor G g b D l env S → wFor G g b D' l env S
  | [], env, S, h => ⟨h.1, k.nx _ _ h.2⟩
  | x :: r, env, S, h => ⟨h.1, by
    refine kg _ _ _ _ (fun e h => ?_) h.2
    refine kb _ _ _ _ ?_ h
    exact ⟨wFor_mono kg kb k r, k.rt, k.nx, wFor_mono kg kb k r, k.ex⟩⟩
mutual
theorem wS_mono : ∀ (s : Sx) {T : Tb} {env : Ev} {S : Store} {D D' : Post}, Post.Le D D' → wS T s env S D → wS T s env S D'
  | .skip, T, _, _, _, _, k, h => by rw [wS_skip] at h ⊢; exact k.nx _ _ h
  | .seq a b, T, _, _, _, _, k, h => by rw [wS_seq] at h ⊢; refine wS_mono a ?_ h; exact ⟨fun _ _ h => wS_mono b k h, k.rt, k.bk, k.ct, k.ex⟩
  | .asg g e, T, _, _, _, _, k, h => by rw [wS_asg] at h ⊢; exact wE_mono e (fun _ _ h => tgt_mono (fun _ => k.nx _ _) h) (fun _ _ => k.ex _ _ _) h
  | .asgF o f e, T, _, _, _, _, k, h => by
    rw [wS_asgF] at h ⊢
    exact wE_mono e (fun _ _ h => wE_mono o (fun _ _ h => setF_mono (fun _ => k.nx _ _) h) (fun _ _ => k.ex _ _ _) h) (fun _ _ => k.ex _ _ _) h
  | .asgI o i e, T, _, _, _, _, k, h => by
    rw [wS_asgI] at h ⊢
    exact wE_mono e (fun _ _ h => wE_mono o (fun _ _ h => wE_mono i (fun _ _ h => setI_mono (fun _ => k.nx _ _) h) (fun _ _ => k.ex _ _ _) h) (fun _ _ => k.ex _ _ _) h) (fun _ _ => k.ex _ _ _) h
  | .augN i o e, T, _, _, _, _, k, h => by
    rw [wS_augN] at h ⊢
    obtain ⟨v, e1, h⟩ := h
    exact ⟨v, e1, wE_mono e (fun _ _ ⟨b, e2, h⟩ => ⟨b, e2, opB_mono (fun _ _ => k.nx _ _) h⟩) (fun _ _ => k.ex _ _ _) h⟩
  | .augI o i op e, T, _, _, _, _, k, h => by
    rw [wS_augI] at h ⊢
    exact wE_mono o (fun _ _ h => ⟨h.1, wE_mono i (fun _ _ h => opIx_mono (fun _ _ h => wE_mono e (fun _ _ ⟨a, b, e1, e2, h⟩ => ⟨a, b, e1, e2, opB_mono (fun _ _ h => setI_mono (fun _ => k.nx _ _) h) h⟩) (fun _ _ => k.ex _ _ _) h) h) (fun _ _ => k.ex _ _ _) h.2⟩) (fun _ _ => k.ex _ _ _) h
  | .par i j a b, T, _, _, _, _, k, h => by
    rw [wS_par] at h ⊢
    exact wE_mono a (fun _ _ h => wE_mono b (fun _ _ => k.nx _ _) (fun _ _ => k.ex _ _ _) h) (fun _ _ => k.ex _ _ _) h
  | .expr e, T, _, _, _, _, k, h => by rw [wS_expr] at h ⊢; exact wE_mono e (fun _ _ => k.nx _ _) (fun _ _ => k.ex _ _ _) h
  | .bm m a as, T, _, _, _, _, k, h => by
    rw [wS_bm] at h ⊢
    exact wE_mono a (fun _ _ h => ⟨h.1, wA_mono as (fun _ _ h => opBm_mono (fun _ => k.nx _ _) h) (fun _ _ => k.ex _ _ _) h.2⟩) (fun _ _ => k.ex _ _ _) h
  | .ret e, T, _, _, _, _, k, h => by rw [wS_ret] at h ⊢; exact wE_mono e k.rt (fun _ _ => k.ex _ _ _) h
  | .retN, T, _, _, _, _, k, h => by rw [wS_retN] at h ⊢; exact k.rt _ _ h
  | .ite c a b, T, _, _, _, _, k, h => by
    rw [wS_ite] at h ⊢
    refine wT_mono c (fun t _ h => ?_) (fun _ _ => k.ex _ _ _) h
    cases t with
    | true => exact wS_mono a k h
    | false => exact wS_mono b k h
  | .whl c b, T, _, _, _, _, k, h => by rw [wS_whl] at h ⊢; exact wWhl_mono (b := wS T b) (fun _ _ _ _ k h => wS_mono b k h) k h
  | .for_ g kk as b, T, _, _, _, _, k, h => by
    rw [wS_for] at h ⊢
    exact wA_mono as (fun _ _ h => itK_mono (fun _ _ h => wFor_mono (g := tgt g) (b := wS T b) (fun _ _ _ _ k h => tgt_mono k h) (fun _ _ _ _ k h => wS_mono b k h) k _ _ _ h) h) (fun _ _ => k.ex _ _ _) h
  | .brk, T, _, _, _, _, k, h => by rw [wS_brk] at h ⊢; exact k.bk _ _ h
  | .cnt, T, _, _, _, _, k, h => by rw [wS_cnt] at h ⊢; exact k.ct _ _ h
  | .raise c fl as, T, _, _, _, _, k, h => by rw [wS_raise] at h ⊢; exact wA_mono as (fun _ _ h => ⟨h.1, k.ex _ _ _ h.2⟩) (fun _ _ => k.ex _ _ _) h
  | .asgD d kk e, T, _, _, _, _, k, h => by
    rw [wS_asgD] at h ⊢
    exact wE_mono e (fun _ _ h => wE_mono d (fun _ _ h => wE_mono kk (fun _ _ h => dPut_mono (fun _ => k.nx _ _) h) (fun _ _ => k.ex _ _ _) h) (fun _ _ => k.ex _ _ _) h) (fun _ _ => k.ex _ _ _) h
  | .tri b hs, T, _, _, _, _, k, h => by rw [wS_tri] at h ⊢; refine wS_mono b ?_ h; exact ⟨k.nx, k.rt, k.bk, k.ct, fun x e S h => wH_mono hs k h⟩
  | .hnil, _, _, _, _, _, _, h => h.elim
  | .hcons _ _ _ _, _, _, _, _, _, _, h => h.elim
theorem wH_mono : ∀ (s : Sx) {T : Tb} {x : Exn} {env : Ev} {S : Store} {D D' : Post}, Post.Le D D' → wH T s x env S D → wH T s x env S D'
  | .hnil, T, _, _, _, _, _, k, h => by rw [wH_nil] at h ⊢; exact k.ex _ _ _ h
  | .hcons cs none s r, T, x, _, _, _, _, k, h => by
    rw [wH_cons0] at h ⊢
    rcases h with ⟨c, h⟩ | ⟨c, h⟩
    · refine .inl ⟨c, fun a ha => ?_⟩
      refine wS_mono s ?_ (h a ha)
      exact ⟨k.nx, k.rt, k.bk, k.ct, fun _ _ _ z => z⟩
    · exact .inr ⟨c, wH_mono r k h⟩
  | .hcons cs (some i) s r, T, x, _, _, _, _, k, h => by
    rw [wH_cons1] at h ⊢
    rcases h with ⟨c, h⟩ | ⟨c, h⟩
    · refine .inl ⟨c, fun a ha => ?_⟩
      refine wS_mono s ?_ (h a ha)
      exact ⟨fun _ _ => k.nx _ _, k.rt, fun _ _ => k.bk _ _, fun _ _ => k.ct _ _, fun _ _ _ z => z⟩
    · exact .inr ⟨c, wH_mono r k h⟩
  | .skip, _, _, _, _, _, _, _, h | .seq _ _, _, _, _, _, _, _, _, h | .asg _ _, _, _, _, _, _, _, _, h | .asgF _ _ _, _, _, _, _, _, _, _, h | .asgI _ _ _, _, _, _, _, _, _, _, h | .augN _ _ _, _, _, _, _, _, _, _, h | .augI _ _ _ _, _, _, _, _, _, _, _, h
  | .par _ _ _ _, _, _, _, _, _, _, _, h | .expr _, _, _, _, _, _, _, _, h | .bm _ _ _, _, _, _, _, _, _, _, h | .ret _, _, _, _, _, _, _, _, h | .retN, _, _, _, _, _, _, _, h | .ite _ _ _, _, _, _, _, _, _, _, h | .whl _ _, _, _, _, _, _, _, _, h | .for_ _ _ _ _, _, _, _, _, _, _, _, h
  | .brk, _, _, _, _, _, _, _, h | .cnt, _, _, _, _, _, _, _, h | .raise _ _ _, _, _, _, _, _, _, _, h | .asgD _ _ _, _, _, _, _, _, _, _, h | .tri _ _, _, _, _, _, _, _, _, h => h.elim
end
end BW
set_option Elab.async false
set_option linter.all false
set_option maxRecDepth 100000
set_option maxHeartbeats 4000000
namespace BW
open PySem PySem.Spec PyProof.Rows L2

/-! ### the names of the fields, the methods, the classes -/
def nmT : List Str := (["one", "two", "cycle", "some", "room", "place", "way", "clock", "many", "ended", "flight", "left", "hits", "time", "heading", "kept", "other", "number", "row",
  "line", "holds", "ends_at", "image", "behind", "turns", "every", "word", "walls", "on", "is_corner", "box", "step", "hit_at", "outcome", "standing", "counts", "hit_ahead", "keeps", "stands_at", "room_of", "thing", "put", "say", "told"] : List String).map Str.ofString
def nm (i : Nat) : Str := if i < nmT.length then nmT.getD i "" else ⟨(List.replicate (i + 100) 0).toArray⟩
def cnT : List Str := (["Mirror", "Glass", "Hole", "Door", "Wall", "Room", "Flight", "Ray", "Desk", "RoomError", "NoPoint", "NoWay", "BadWall", "TooMany", "Overlap", "OnWall", "Over", "TooLong", "OutOfBox", "BadDrawing", "NoText", "NoName", "NoRow"] : List String).map Str.ofString
def cnm (i : Nat) : Str := cnT.getD i ""
theorem nm_small : ∀ i < nmT.length, ∀ j < nmT.length, nm i = nm j → i = j := by decide +kernel
theorem nm_len : ∀ i < nmT.length, (nm i).length < 100 := by decide +kernel
theorem nm_big {i : Nat} (h : ¬ i < nmT.length) : (nm i).length = i + 100 := by
  unfold nm
  rw [if_neg h]
  show (List.replicate (i + 100) 0).toArray.size = _
  simp
theorem nm_inj {i j : Nat} (h : nm i = nm j) : i = j := by
  by_cases hi : i < nmT.length
  · by_cases hj : j < nmT.length
    · exact nm_small i hi j hj h
    · have := nm_len i hi
      rw [h, nm_big hj] at this
      omega
  · by_cases hj : j < nmT.length
    · have := nm_len j hj
      rw [← h, nm_big hi] at this
      omega
    · have e := nm_big hi
      rw [h, nm_big hj] at e
      omega
def ca (K : PySem.W.Frag) (c : Nat) : Addr := He.ga K (cnm c)

/-! ### what the values, the store mean in the layer's heap; F: what never changes -/
def FS (F F' : Hp) : Prop := ∀ a o, F a = some o → F' a = some o
theorem FS.refl {F : Hp} : FS F F := fun _ _ h => h
theorem FS.trans {F F' F'' : Hp} (h : FS F F') (k : FS F' F'') : FS F F'' := fun a o e => k a o (h a o e)
theorem FS.new {F : Hp} {p : Addr} {o : HO} (h : F p = none) : FS F (upd F p o) := fun b u e => by rw [upd_ne (ne_of_none e h)]; exact e
def TupAt (F : Hp) (a : Addr) (xs : List V) : Prop := F a = some (.tup xs)
def SlAt (F : Hp) (a : Addr) (xs : List V) : Prop := Rd F a (.lst xs)
theorem TupAt.sq {K : PySem.W.Frag} {F H : Hp} {a : Addr} {xs : List V} (w : FS F H) (h : TupAt F a xs) : SqT K H a xs := .inl (.inl (w _ _ h))
theorem SlAt.rd {F H : Hp} {a : Addr} {xs : List V} (w : FS F H) (h : SlAt F a xs) : Rd H a (.lst xs) := h.elim (fun h => .inl (w _ _ h)) fun ⟨o, h⟩ => .inr ⟨o, w _ _ h⟩
theorem TupAt.mono {F F' : Hp} {a : Addr} {xs : List V} (t : FS F F') (h : TupAt F a xs) : TupAt F' a xs := t _ _ h
theorem SlAt.mono {F F' : Hp} {a : Addr} {xs : List V} (t : FS F F') (h : SlAt F a xs) : SlAt F' a xs := h.rd t
theorem rd_sq {K : PySem.W.Frag} {H : Hp} {a : Addr} {xs : List V} (h : Rd H a (.lst xs)) : SqL K H a xs := .inl h
abbrev St := L2.St
mutual
def RV (K : PySem.W.Frag) (F : Hp) : Val → V → Prop
  | .non, v => v = .non
  | .bl b, v => v = .bl b
  | .int i, v => v = .int i
  | .str x, v => v = .str x
  | .ref a, v => v = .ref a
  | .exc a, v => v = .ref a
  | .tup l, v => ∃ a vs, v = .ref a ∧ TupAt F a vs ∧ RVs K F l vs
  | .sl l, v => ∃ a vs, v = .ref a ∧ SlAt F a vs ∧ RVs K F l vs
  | .ins c fs, v => ∃ a dx gs, v = .ref a ∧ F a = some (.ins (ca K c) dx gs) ∧ RVf K F fs gs
  | .clo _ _, _ => False
def RVs (K : PySem.W.Frag) (F : Hp) : List Val → List V → Prop
  | [], vs => vs = []
  | x :: l, vs => ∃ v r, vs = v :: r ∧ RV K F x v ∧ RVs K F l r
def RVf (K : PySem.W.Frag) (F : Hp) : List (Nat × Val) → List (Str × V) → Prop
  | [], gs => gs = []
  | p :: l, gs => ∃ q r, gs = q :: r ∧ RVp K F p q ∧ RVf K F l r
def RVp (K : PySem.W.Frag) (F : Hp) : Nat × Val → Str × V → Prop
  | (i, x), q => q.1 = nm i ∧ RV K F x q.2
end
mutual
theorem RV.mono {K : PySem.W.Frag} {F F' : Hp} (t : FS F F') : ∀ {x : Val} {v : V}, RV K F x v → RV K F' x v
  | .non, _, h => h
  | .bl _, _, h => h
  | .int _, _, h => h
  | .str _, _, h => h
  | .ref _, _, h => h
  | .exc _, _, h => h
  | .tup l, _, h => by
    obtain ⟨a, vs, e, q, r⟩ := h
    exact ⟨a, vs, e, q.mono t, RVs.mono t r⟩
  | .sl l, _, h => by
    obtain ⟨a, vs, e, q, r⟩ := h
    exact ⟨a, vs, e, q.mono t, RVs.mono t r⟩
  | .ins c fs, _, h => by
    obtain ⟨a, dx, gs, e, q, r⟩ := h
    exact ⟨a, dx, gs, e, t _ _ q, RVf.mono t r⟩
  | .clo _ _, _, h => h.elim
theorem RVs.mono {K : PySem.W.Frag} {F F' : Hp} (t : FS F F') : ∀ {l : List Val} {vs : List V}, RVs K F l vs → RVs K F' l vs
  | [], _, h => h
  | x :: l, _, h => by
    obtain ⟨v, r, e, q, z⟩ := h
    exact ⟨v, r, e, RV.mono t q, RVs.mono t z⟩
theorem RVf.mono {K : PySem.W.Frag} {F F' : Hp} (t : FS F F') : ∀ {l : List (Nat × Val)} {vs : List (Str × V)}, RVf K F l vs → RVf K F' l vs
  | [], _, h => h
  | p :: l, _, h => by
    obtain ⟨v, r, e, q, z⟩ := h
    exact ⟨v, r, e, RVp.mono t q, RVf.mono t z⟩
theorem RVp.mono {K : PySem.W.Frag} {F F' : Hp} (t : FS F F') : ∀ {p : Nat × Val} {q : Str × V}, RVp K F p q → RVp K F' p q
  | (_, x), _, h => ⟨h.1, RV.mono t h.2⟩
end
section
variable {K : PySem.W.Frag} {F : Hp}
theorem RVs.length : ∀ {l : List Val} {vs : List V}, RVs K F l vs → l.length = vs.length
  | [], _, h => by cases h; rfl
  | x :: l, _, h => by
    obtain ⟨v, r, rfl, _, z⟩ := h
    rw [List.length_cons, List.length_cons, RVs.length z]
theorem RVs.get : ∀ {l : List Val} {vs : List V} {i : Nat} {x : Val}, RVs K F l vs → l[i]? = some x → ∃ v, vs[i]? = some v ∧ RV K F x v
  | [], _, _, _, _, e => by simp at e
  | x :: l, _, 0, y, h, e => by
    obtain ⟨v, r, rfl, q, z⟩ := h
    simp at e; subst e
    exact ⟨v, rfl, q⟩
  | x :: l, _, i + 1, y, h, e => by
    obtain ⟨v, r, rfl, q, z⟩ := h
    obtain ⟨u, e1, e2⟩ := RVs.get (i := i) z (by simpa using e)
    exact ⟨u, by simpa using e1, e2⟩
theorem RVs.append : ∀ {l m : List Val} {vs us : List V}, RVs K F l vs → RVs K F m us → RVs K F (l ++ m) (vs ++ us)
  | [], _, _, _, h, k => by cases h; exact k
  | x :: l, _, _, _, h, k => by
    obtain ⟨v, r, rfl, q, z⟩ := h
    exact ⟨v, r ++ _, rfl, q, RVs.append z k⟩
theorem RVs.set : ∀ {l : List Val} {vs : List V} {i : Nat} {x : Val} {v : V}, RVs K F l vs → RV K F x v → RVs K F (l.set i x) (vs.set i v)
  | [], _, _, _, _, h, _ => by cases h; exact rfl
  | x :: l, _, 0, _, _, h, k => by
    obtain ⟨v, r, rfl, q, z⟩ := h
    exact ⟨_, r, rfl, k, z⟩
  | x :: l, _, i + 1, _, _, h, k => by
    obtain ⟨v, r, rfl, q, z⟩ := h
    exact ⟨v, _, rfl, q, RVs.set z k⟩
theorem RVs.drop : ∀ {l : List Val} {vs : List V} (n : Nat), RVs K F l vs → RVs K F (l.drop n) (vs.drop n)
  | _, _, 0, h => h
  | [], _, n + 1, h => by cases h; exact rfl
  | x :: l, _, n + 1, h => by
    obtain ⟨v, r, rfl, q, z⟩ := h
    exact RVs.drop n z
theorem RVs.take : ∀ {l : List Val} {vs : List V} (n : Nat), RVs K F l vs → RVs K F (l.take n) (vs.take n)
  | _, _, 0, h => by simp [RVs]
  | [], _, n + 1, h => by cases h; exact rfl
  | x :: l, _, n + 1, h => by
    obtain ⟨v, r, rfl, q, z⟩ := h
    exact ⟨v, _, rfl, q, RVs.take n z⟩
theorem RVs.cut {l : List Val} {vs : List V} {lo hi : Option Int} (h : RVs K F l vs) : RVs K F (cutG l lo hi) (cutV vs lo hi) := by
  unfold cutG cutV
  rw [h.length]
  exact (h.drop _).take _
theorem RVs.reverse : ∀ {l : List Val} {vs : List V}, RVs K F l vs → RVs K F l.reverse vs.reverse
  | [], _, h => by cases h; exact rfl
  | x :: l, _, h => by
    obtain ⟨v, r, rfl, q, z⟩ := h
    rw [List.reverse_cons, List.reverse_cons]
    exact z.reverse.append ⟨v, [], rfl, q, rfl⟩
theorem RVs.rep {l : List Val} {vs : List V} (h : RVs K F l vs) : ∀ n, RVs K F (List.replicate n l).flatten (List.replicate n vs).flatten
  | 0 => rfl
  | n + 1 => by
    rw [List.replicate_succ, List.replicate_succ, List.flatten_cons, List.flatten_cons]
    exact h.append (RVs.rep h n)
theorem RVs.ints : ∀ {ns : List Int} {vs : List V}, RVs K F (ns.map .int) vs → vs = ns.map V.int
  | [], _, h => h
  | n :: ns, _, h => by
    obtain ⟨v, r, rfl, q, z⟩ := h
    have q' : v = .int n := q
    subst q'
    rw [RVs.ints z]; rfl
theorem RVs.bls : ∀ {ns : List Bool} {vs : List V}, RVs K F (ns.map .bl) vs → vs = ns.map V.bl
  | [], _, h => h
  | n :: ns, _, h => by
    obtain ⟨v, r, rfl, q, z⟩ := h
    have q' : v = .bl n := q
    subst q'
    rw [RVs.bls z]; rfl
theorem RVs.ofInts : ∀ {ns : List Int}, RVs K F (ns.map .int) (ns.map V.int)
  | [] => rfl
  | n :: ns => ⟨_, _, rfl, rfl, RVs.ofInts⟩
theorem RVs.atI {l : List Val} {vs : List V} {i : Int} {x : Val} (h : RVs K F l vs) (e : atI l i = some x) : ∃ v, atI vs i = some v ∧ RV K F x v := by
  unfold L2.atI at *
  rw [h.length] at e
  cases q : ixN vs.length i with
  | none => rw [q] at e; cases e
  | some j =>
    rw [q] at e
    exact h.get e
theorem RV.nonB {x : Val} {v : V} (h : RV K F x v) : x.isNon = decide (v = .non) := by
  cases x with
  | non => cases h; rfl
  | tup l => obtain ⟨a, vs, rfl, _⟩ := h; rfl
  | sl l => obtain ⟨a, vs, rfl, _⟩ := h; rfl
  | ins c l => obtain ⟨a, dx, vs, rfl, _⟩ := h; rfl
  | clo c l => exact h.elim
  | _ => cases h; rfl
/-! ### fields -/
theorem lk_cons {α β : Type} [BEq α] {a x : α} {b : β} {l : List (α × β)} : ((x, b) :: l).lookup a = if (a == x) = true then some b else l.lookup a := by
  rw [List.lookup_cons]
  cases a == x <;> rfl
theorem RVf.look : ∀ {fs : List (Nat × Val)} {gs : List (Str × V)} {f : Nat} {x : Val}, RVf K F fs gs → fs.lookup f = some x → ∃ v, gs.lookup (nm f) = some v ∧ RV K F x v
  | [], _, _, _, _, e => by cases e
  | (i, y) :: l, _, f, x, h, e => by
    obtain ⟨⟨qn, qv⟩, r, rfl, ⟨h1, h2⟩, z⟩ := h
    dsimp only at h1 h2
    subst h1
    rw [lk_cons] at e
    rw [lk_cons]
    by_cases q : f = i
    · subst q
      rw [if_pos (beq_self_eq_true _)] at e ⊢
      cases e
      exact ⟨_, rfl, h2⟩
    · rw [if_neg (fun z => q (eq_of_beq z))] at e
      rw [if_neg (fun z => q (nm_inj (eq_of_beq z)))]
      exact RVf.look z e
theorem RVf.lookN : ∀ {fs : List (Nat × Val)} {gs : List (Str × V)} {f : Nat}, RVf K F fs gs → fs.lookup f = none → gs.lookup (nm f) = none
  | [], _, _, h, _ => by cases h; rfl
  | (i, y) :: l, _, f, h, e => by
    obtain ⟨⟨qn, qv⟩, r, rfl, ⟨h1, h2⟩, z⟩ := h
    dsimp only at h1 h2
    subst h1
    rw [lk_cons] at e
    rw [lk_cons]
    by_cases q : f = i
    · subst q
      rw [if_pos (beq_self_eq_true _)] at e
      cases e
    · rw [if_neg (fun z => q (eq_of_beq z))] at e
      rw [if_neg (fun z => q (nm_inj (eq_of_beq z)))]
      exact RVf.lookN z e
theorem RVf.length : ∀ {fs : List (Nat × Val)} {gs : List (Str × V)}, RVf K F fs gs → fs.length = gs.length
  | [], _, h => by cases h; rfl
  | p :: l, _, h => by
    obtain ⟨v, r, rfl, _, z⟩ := h
    rw [List.length_cons, List.length_cons, RVf.length z]
theorem RVf.put : ∀ {fs : List (Nat × Val)} {gs : List (Str × V)} {f : Nat} {x : Val} {v : V}, RVf K F fs gs → RV K F x v → RVf K F (putN f x fs) (putF (nm f) v gs)
  | [], _, f, x, v, h, k => by
    cases h
    exact ⟨(nm f, v), [], rfl, ⟨rfl, k⟩, rfl⟩
  | (i, y) :: l, _, f, x, v, h, k => by
    obtain ⟨⟨qn, qv⟩, r, rfl, ⟨h1, h2⟩, z⟩ := h
    dsimp only at h1 h2
    subst h1
    unfold putN putF
    by_cases q : i = f
    · subst q
      rw [if_pos rfl, if_pos rfl]
      exact ⟨_, r, rfl, ⟨rfl, k⟩, z⟩
    · rw [if_neg q, if_neg (fun z => q (nm_inj z))]
      exact ⟨_, _, rfl, ⟨rfl, h2⟩, RVf.put z k⟩
theorem RVf.zip : ∀ {fl : List Nat} {l : List Val} {vs : List V}, RVs K F l vs → RVf K F (fl.zip l) ((fl.map nm).zip vs)
  | [], _, _, _ => rfl
  | _ :: _, [], _, h => by cases h; rfl
  | f :: fl, x :: l, _, h => by
    obtain ⟨v, r, rfl, q, z⟩ := h
    exact ⟨_, _, rfl, ⟨rfl, q⟩, RVf.zip z⟩
end
/-! ### dicts -/
def DR {κ : Type} (K : PySem.W.Frag) (F : Hp) : List (κ × Val) → List (κ × V) → Prop
  | [], vs => vs = []
  | p :: l, vs => ∃ q r, vs = q :: r ∧ q.1 = p.1 ∧ RV K F p.2 q.2 ∧ DR K F l r
section
variable {K : PySem.W.Frag} {F : Hp} {κ : Type}
theorem DR.mono {F' : Hp} (t : FS F F') : ∀ {l : List (κ × Val)} {vs : List (κ × V)}, DR K F l vs → DR K F' l vs
  | [], _, h => h
  | p :: l, _, h => by
    obtain ⟨q, r, e, e2, k, z⟩ := h
    exact ⟨q, r, e, e2, k.mono t, DR.mono t z⟩
theorem DR.length : ∀ {l : List (κ × Val)} {vs : List (κ × V)}, DR K F l vs → l.length = vs.length
  | [], _, h => by cases h; rfl
  | p :: l, _, h => by
    obtain ⟨q, r, rfl, _, _, z⟩ := h
    rw [List.length_cons, List.length_cons, DR.length z]
def ORV (K : PySem.W.Frag) (F : Hp) : Option Val → Option V → Prop
  | none, o => o = none
  | some x, o => ∃ v, o = some v ∧ RV K F x v
variable [DecidableEq κ]
theorem DR.val {k : κ} : ∀ {l : List (κ × Val)} {vs : List (κ × V)}, DR K F l vs → ORV K F (valD l k) (valV vs k)
  | [], _, h => by cases h; rfl
  | p :: l, _, h => by
    obtain ⟨q, r, rfl, e2, h2, z⟩ := h
    have e : valD (p :: l) k = if p.1 = k then some p.2 else valD l k := by
      by_cases c : p.1 = k <;> simp [valD, List.find?_cons, c]
    by_cases c : p.1 = k
    · rw [e, if_pos c, valV_pos (e2.trans c)]
      exact ⟨_, rfl, h2⟩
    · rw [e, if_neg c, valV_neg (by rw [e2]; exact c)]
      exact DR.val z
theorem DR.any {k : κ} : ∀ {l : List (κ × Val)} {vs : List (κ × V)}, DR K F l vs → (l.any fun kv => decide (kv.1 = k)) = (vs.any fun kv => decide (kv.1 = k))
  | [], _, h => by cases h; rfl
  | p :: l, _, h => by
    obtain ⟨q, r, rfl, e2, h2, z⟩ := h
    rw [List.any_cons, List.any_cons, DR.any z, e2]
theorem DR.repl {k : κ} {x : Val} {v : V} (kx : RV K F x v) : ∀ {l : List (κ × Val)} {vs : List (κ × V)}, DR K F l vs → DR K F (l.map fun kv => if kv.1 = k then (kv.1, x) else kv) (vs.map fun kv => if kv.1 = k then (kv.1, v) else kv)
  | [], _, h => by cases h; rfl
  | p :: l, _, h => by
    obtain ⟨q, r, rfl, e2, h2, z⟩ := h
    rw [List.map_cons, List.map_cons]
    refine ⟨_, _, rfl, ?_, ?_, DR.repl kx z⟩ <;> by_cases c : p.1 = k
    · rw [if_pos c, if_pos (e2.trans c)]; exact e2
    · rw [if_neg c, if_neg (by rw [e2]; exact c)]; exact e2
    · rw [if_pos c, if_pos (e2.trans c)]; exact kx
    · rw [if_neg c, if_neg (by rw [e2]; exact c)]; exact h2
theorem DR.append : ∀ {l m : List (κ × Val)} {vs us : List (κ × V)}, DR K F l vs → DR K F m us → DR K F (l ++ m) (vs ++ us)
  | [], _, _, _, h, k => by cases h; exact k
  | p :: l, _, _, _, h, k => by
    obtain ⟨q, r, rfl, e2, h2, z⟩ := h
    exact ⟨q, r ++ _, rfl, e2, h2, DR.append z k⟩
theorem DR.put {k : κ} {x : Val} {v : V} {l : List (κ × Val)} {vs : List (κ × V)} (h : DR K F l vs) (kx : RV K F x v) : DR K F (putD l k x) (putK vs k v) := by
  unfold putD putK
  rw [h.any (k := k)]
  split
  · exact h.repl kx
  · exact h.append ⟨(k, v), [], rfl, rfl, kx, rfl⟩
end
section
variable {K : PySem.W.Frag} {F H : Hp}
def RO (K : PySem.W.Frag) (F H : Hp) (a : Addr) : Ob → Prop
  | .lst l => ∃ vs, H a = some (.lst vs) ∧ RVs K F l vs
  | .ins c fs => ∃ dx gs, H a = some (.ins (ca K c) dx gs) ∧ RVf K F fs gs
  | .dK l => ∃ vs, H a = some (.dK vs) ∧ DR K F l vs
  | .dT l => ∃ vs, H a = some (.dT vs) ∧ DR K F l vs
structure RS (K : PySem.W.Frag) (F H : Hp) (S : Store) : Prop where
  fs : FS F H
  st : ∀ a o, S a = some o → F a = none ∧ RO K F H a o
def RE (K : PySem.W.Frag) (F : Hp) (env : Ev) (σ : St) : Prop := env.length = σ.length ∧ ∀ (i : Nat) x, env[i]? = some (some x) → ∃ v, σ[i]? = some (some v) ∧ RV K F x v
theorem RE.mono {F' : Hp} {env : Ev} {σ : St} (t : FS F F') (h : RE K F env σ) : RE K F' env σ := ⟨h.1, fun i x e => let ⟨v, e1, r⟩ := h.2 i x e; ⟨v, e1, r.mono t⟩⟩
theorem RE.set {env : Ev} {σ : St} {i : Nat} {x : Val} {v : V} (h : RE K F env σ) (r : RV K F x v) : RE K F (env.set i (some x)) (σ.set i (some v)) := by
  refine ⟨by simpa using h.1, fun j y e => ?_⟩
  by_cases q : i = j
  · subst q
    by_cases hl : i < env.length
    · rw [List.getElem?_set_self hl] at e
      cases e
      exact ⟨v, List.getElem?_set_self (by rw [← h.1]; exact hl), r⟩
    · rw [List.getElem?_eq_none (by simpa using hl)] at e; cases e
  · rw [List.getElem?_set_ne q] at e
    obtain ⟨u, e1, e2⟩ := h.2 j y e
    exact ⟨u, by rw [List.getElem?_set_ne q]; exact e1, e2⟩
theorem RE.drop {env : Ev} {σ : St} {i : Nat} (h : RE K F env σ) : RE K F (env.set i none) (σ.set i none) := by
  refine ⟨by simpa using h.1, fun j y e => ?_⟩
  by_cases q : i = j
  · subst q
    by_cases hl : i < env.length
    · rw [List.getElem?_set_self hl] at e; cases e
    · rw [List.getElem?_eq_none (by simpa using hl)] at e; cases e
  · rw [List.getElem?_set_ne q] at e
    obtain ⟨u, e1, e2⟩ := h.2 j y e
    exact ⟨u, by rw [List.getElem?_set_ne q]; exact e1, e2⟩
theorem RE.wipe {env : Ev} {σ : St} : ∀ {vs : List Nat}, RE K F env σ → RE K F (wipeE env vs) (wipe σ vs)
  | [], h => h
  | v :: vs, h => (RE.wipe (vs := vs) h).drop
theorem RO.here {a : Addr} {o : Ob} (h : RO K F H a o) : ∃ u, H a = some u := by
  cases o with
  | lst l => obtain ⟨vs, q, _⟩ := h; exact ⟨_, q⟩
  | ins c fs => obtain ⟨dx, gs, q, _⟩ := h; exact ⟨_, q⟩
  | dK l => obtain ⟨vs, q, _⟩ := h; exact ⟨_, q⟩
  | dT l => obtain ⟨vs, q, _⟩ := h; exact ⟨_, q⟩
theorem RS.free {p : Addr} {S : Store} (h : RS K F H S) (k : H p = none) : S p = none := by
  cases e : S p with
  | none => rfl
  | some o =>
    obtain ⟨u, q⟩ := (h.st p o e).2.here
    rw [k] at q; cases q
theorem RS.freeF {p : Addr} {S : Store} (h : RS K F H S) (k : H p = none) : F p = none := by
  cases e : F p with
  | none => rfl
  | some o =>
    have q := h.fs p o e
    rw [k] at q; cases q
theorem RS.sub {S S' : Store} (h : RS K F H S') (k : Sub S S') : RS K F H S := ⟨h.fs, fun a o e => h.st a o (k a o e)⟩
theorem RO.stay {F' H' : Hp} {a : Addr} {u : Ob} (h : RO K F H a u) (t : FS F F') (k : H' a = H a) : RO K F' H' a u := by
  cases u with
  | lst l => obtain ⟨vs, q, r⟩ := h; exact ⟨vs, k.trans q, r.mono t⟩
  | ins c fs => obtain ⟨dx, gs, q, r⟩ := h; exact ⟨dx, gs, k.trans q, r.mono t⟩
  | dK l => obtain ⟨vs, q, r⟩ := h; exact ⟨vs, k.trans q, r.mono t⟩
  | dT l => obtain ⟨vs, q, r⟩ := h; exact ⟨vs, k.trans q, r.mono t⟩
/-- a new thing that never changes -/
theorem RS.newF {p : Addr} {o : HO} {S : Store} (h : RS K F H S) (k : H p = none) : RS K (upd F p o) (upd H p o) S := by
  refine ⟨fun a u e => ?_, fun a u e => ?_⟩
  · by_cases q : a = p
    · subst q; rw [upd_same] at e ⊢; exact e
    · rw [upd_ne q] at e ⊢; exact h.fs a u e
  · have np : a ≠ p := fun z => by rw [z, h.free k] at e; cases e
    obtain ⟨h1, h2⟩ := h.st a u e
    exact ⟨by rw [upd_ne np]; exact h1, h2.stay (.new (h.freeF k)) (upd_ne np)⟩
theorem FS.upd {p : Addr} {o : HO} {F' H' : Hp} (h : FS F' H') (k : F' p = none) : FS F' (L2.upd H' p o) := fun a u e => by
  rw [upd_ne (ne_of_none e k)]; exact h a u e
/-- a new thing that nobody asks for -/
theorem RS.new {p : Addr} {o : HO} {S : Store} (h : RS K F H S) (k : H p = none) : RS K F (upd H p o) S := by
  refine ⟨h.fs.upd (h.freeF k), fun a u e => ?_⟩
  have np : a ≠ p := fun z => by rw [z, h.free k] at e; cases e
  obtain ⟨h1, h2⟩ := h.st a u e
  exact ⟨h1, h2.stay .refl (upd_ne np)⟩
theorem RS.alloc {p : Addr} {o : HO} {ob : Ob} {S : Store} (h : RS K F H S) (k : H p = none) (r : RO K F (upd H p o) p ob) : RS K F (upd H p o) (put S p ob) := by
  refine ⟨h.fs.upd (h.freeF k), fun a u e => ?_⟩
  by_cases q : a = p
  · subst q; rw [put_same] at e; cases e; exact ⟨h.freeF k, r⟩
  · rw [put_ne q] at e
    obtain ⟨h1, h2⟩ := h.st a u e
    exact ⟨h1, h2.stay .refl (upd_ne q)⟩
theorem RS.write {p : Addr} {o : HO} {ob ob' : Ob} {S : Store} (h : RS K F H S) (hp : S p = some ob') (r : RO K F (upd H p o) p ob) : RS K F (upd H p o) (put S p ob) := by
  have f := (h.st p _ hp).1
  refine ⟨h.fs.upd f, fun a u e => ?_⟩
  by_cases q : a = p
  · subst q; rw [put_same] at e; cases e; exact ⟨f, r⟩
  · rw [put_ne q] at e
    obtain ⟨h1, h2⟩ := h.st a u e
    exact ⟨h1, h2.stay .refl (upd_ne q)⟩
/-- from here on it never changes -/
theorem RS.freeze {p : Addr} {o : HO} {S : Store} (h : RS K F H S) (hp : H p = some o) (f : F p = none) : RS K (upd F p o) H (del S p) := by
  refine ⟨fun a u e => ?_, fun a u e => ?_⟩
  · by_cases q : a = p
    · subst q; rw [upd_same] at e; rw [hp]; exact e
    · rw [upd_ne q] at e; exact h.fs a u e
  · obtain ⟨np, e⟩ := del_sub a u e
    obtain ⟨h1, h2⟩ := h.st a u e
    exact ⟨by rw [upd_ne np]; exact h1, h2.stay (.new f) rfl⟩
/-- a list-like value -/
theorem RV.list {S : Store} {x : Val} {v : V} {l : List Val} (r : RV K F x v) (s : RS K F H S) (h : LstAt S x l) : ∃ a vs, v = .ref a ∧ Rd H a (.lst vs) ∧ RVs K F l vs := by
  rcases h with ⟨a, rfl, e⟩ | rfl
  · obtain ⟨vs, q, z⟩ := (s.st a _ e).2
    exact ⟨a, vs, r, .inl q, z⟩
  · obtain ⟨a, vs, e, q, z⟩ := r
    exact ⟨a, vs, e, q.rd s.fs, z⟩
theorem RV.inst {S : Store} {x : Val} {v : V} {c : Nat} {fs : List (Nat × Val)} (r : RV K F x v) (s : RS K F H S) (h : InsAt S x c fs) : ∃ a dx gs, v = .ref a ∧ H a = some (.ins (ca K c) dx gs) ∧ RVf K F fs gs := by
  rcases h with ⟨a, rfl, e⟩ | rfl
  · obtain ⟨dx, gs, q, z⟩ := (s.st a _ e).2
    exact ⟨a, dx, gs, r, q, z⟩
  · obtain ⟨a, dx, gs, e, q, z⟩ := r
    exact ⟨a, dx, gs, e, s.fs _ _ q, z⟩
end
end BW
set_option Elab.async false
set_option linter.all false
set_option maxRecDepth 100000
set_option maxHeartbeats 4000000
namespace BW
open PySem PySem.Spec PyProof.Rows L2

/-! ### the operations are the layer's -/
def up (K : PySem.W.Frag) (F : Hp) (Q : VK) : QV := fun v S' => ∀ z F' H', FS F F' → RS K F' H' S' → RV K F' v z → Q z H'
def upB (K : PySem.W.Frag) (F : Hp) (Q : Bool → Hp → Prop) : Bool → Store → Prop := fun v S' => ∀ F' H', FS F F' → RS K F' H' S' → Q v H'
def bopOf : Bop → Operator
  | .add => .Add | .sub => .Sub | .mul => .Mult | .fdiv => .FloorDiv | .mod => .Mod | .pow => .Pow | .addM => .Add | .mulM => .Mult | .bor => .BitOr | .band => .BitAnd | .shl => .LShift
def copOf : Cop → CmpOp
  | .eq => .Eq | .ne => .NotEq | .lt => .Lt | .le => .LtE | .gt => .Gt | .ge => .GtE | .is => .Is | .isnot => .IsNot | .in_ => .In | .notin => .NotIn
theorem LIM_eq : LIM = sizeLine := by rw [sizeLine_eq]; rfl
theorem MulOk.ok {i j : Int} (h : MulOk i j) : IntMulOk i j := by
  have b : ∀ x : Int, Builtin.Int.intBits x ≤ x.natAbs.log2 + 1 := fun x => by
    unfold Builtin.Int.intBits
    split <;> omega
  have h1 := b i
  have h2 := b j
  have h3 : i.natAbs.log2 + j.natAbs.log2 < 100000000 := h
  have e : bitsLine = 134217728 := by decide
  unfold IntMulOk
  intro z
  rw [Bool.and_eq_true] at z
  have z2 := z.2
  unfold Builtin.Int.intTooBig at z2
  have z3 := of_decide_eq_true z2
  rw [e] at z3
  omega
section
variable {X : Cx}
def lift2 (K : PySem.W.Frag) (f : Val → Val → Store → QV → Prop) : R2 := fun x y H Q => ∃ F a b S, RV K F a x ∧ RV K F b y ∧ RS K F H S ∧ f a b S (up K F Q)
theorem op_mulX : OpR X (binaryOp .Mult) (rI MulOk fun i j => .int (i * j)) := opI fun _ _ _ _ _ _ _ hc q => mul_int q hc.ok
theorem iop_mulX : OpR X (inplaceOp .Mult) (rI MulOk fun i j => .int (i * j)) := opI fun _ _ _ _ _ _ _ hc q => imul_int q hc.ok
theorem op_fdivX : OpR X (binaryOp .FloorDiv) (rI DivOk fun i j => .int (i.fdiv j)) := opI fun i j _ _ _ _ _ hc q => floordiv_int hc.1 q (.inl (PyProof.noPylong_of_log2 hc.2))
section
variable {K : PySem.W.Frag} {F H : Hp} {Q : VK} {v : Val} {z : V} {S : Store} {p : Addr}
theorem up_here (h : up K F Q v S) (s : RS K F H S) (r : RV K F v z) : Q z H := h z F H .refl s r
theorem up_new {o : HO} {ob : Ob} (h : up K F Q (.ref p) (put S p ob)) (s : RS K F H S) (k : H p = none) (r : RO K F (upd H p o) p ob) : Q (.ref p) (upd H p o) :=
  h _ _ _ .refl (s.alloc k r) rfl
theorem RO.lst {vs : List V} {l : List Val} (r : RVs K F l vs) : RO K F (upd H p (.lst vs)) p (.lst l) := ⟨vs, upd_same, r⟩
theorem up_sl {vs : List V} {l : List Val} (h : up K F Q (.sl l) S) (s : RS K F H S) (k : H p = none) (r : RVs K F l vs) : Q (.ref p) (upd H p (.lst vs)) :=
  h _ _ _ (.new (s.freeF k)) (s.newF k) ⟨p, vs, rfl, .inl upd_same, r.mono (.new (s.freeF k))⟩
theorem up_tup {vs : List V} {l : List Val} (h : up K F Q (.tup l) S) (s : RS K F H S) (k : H p = none) (r : RVs K F l vs) : Q (.ref p) (upd H p (.tup vs)) :=
  h _ _ _ (.new (s.freeF k)) (s.newF k) ⟨p, vs, rfl, upd_same, r.mono (.new (s.freeF k))⟩
theorem getL_ok {a : Val} {x : V} {P : List Val → Prop} (s : RS K F H S) (ra : RV K F a x) (h : getL S a P) : ∃ p l vs, x = .ref p ∧ Rd H p (.lst vs) ∧ RVs K F l vs ∧ P l := by
  rw [getL_iff] at h
  obtain ⟨l, hl, h⟩ := h
  obtain ⟨p, vs, e, t, q⟩ := ra.list s hl
  exact ⟨p, l, vs, e, t, q, h⟩
end
theorem rdl {pins : List (Addr × Obj)} {s : Shared} {σ : L2.St} {H : Hp} {a : Addr} {xs : List V} (I : Inv X pins σ H s) (h : Rd H a (.lst xs)) : xs.length ≤ sizeLine ∧ ∃ (its : List Value) (n : Nat), Vals xs its ∧ s.heap.get? a = some { cls := .type "list", data := .seq its.toArray n } := h.ok I.hok
/-- list + list, read only -/
theorem op_catX : OpR X (binaryOp .Add) (fun x y H Q => ∃ a b xs ys, x = .ref a ∧ y = .ref b ∧ Rd H a (.lst xs) ∧ Rd H b (.lst ys) ∧ xs.length + ys.length ≤ sizeLine ∧ ∀ p, H p = none → Q (.ref p) (upd H p (.lst (xs ++ ys)))) := by
  rintro pins s σ H x y v u Q I rx ry ⟨a, b, xs, ys, rfl, rfl, ha, hb, hl, q⟩
  obtain rfl : v = Value.ref a := rx
  obtain rfl : u = Value.ref b := ry
  obtain ⟨_, as, n, r, ea⟩ := rdl I ha
  obtain ⟨_, bs, m, r2, eb⟩ := rdl I hb
  have l1 := r.length
  have l2 := r2.length
  refine PySem.P.add_list ea eb ?_ (by rw [List.size_toArray, List.size_toArray]; omega)
  rw [List.append_toArray]
  exact ⟨.ref _, _, I.lnew (t' := s.toks) (r.append r2) (by rw [List.length_append]; exact hl), rfl, q _ I.fresh⟩
theorem fold_rep (l : List Value) : ∀ (m : Nat) (z : Array Value), List.foldl (fun c d => c ++ d) z (List.replicate m l.toArray) = z ++ (List.replicate m l).flatten.toArray
  | 0, z => by simp
  | m + 1, z => by
    rw [List.replicate_succ, List.foldl_cons, fold_rep l m, List.replicate_succ, List.flatten_cons]
    simp
theorem op_repX : OpR X (binaryOp .Mult) (fun x y H Q => ∃ a xs k, x = .ref a ∧ y = .int k ∧ Rd H a (.lst xs) ∧ -(2 ^ 63) ≤ k ∧ k < 2 ^ 63 ∧ xs.length * k.toNat ≤ sizeLine ∧ ∀ p, H p = none → Q (.ref p) (upd H p (.lst (List.replicate k.toNat xs).flatten))) := by
  rintro pins s σ H x y v u Q I rx ry ⟨a, xs, k, rfl, rfl, ha, b1, b2, hl, q⟩
  obtain rfl : v = Value.ref a := rx
  obtain ⟨tk, rfl⟩ := ry
  obtain ⟨_, as, n, r, ea⟩ := rdl I ha
  have ln := r.length
  have szl : as.toArray.size * k.toNat ≤ sizeLine := by rw [List.size_toArray, ← ln]; exact hl
  have fit := fitsIndex_both b1 b2
  have long := notLongL szl
  have cap : (sizeLine : Nat) ≤ (2 ^ 63 - 1) / 8 := by decide
  have res : List.foldl (fun c d => c ++ d) #[] (List.replicate (if as.toArray.isEmpty = true then 0 else k.toNat) as.toArray) = (List.replicate k.toNat as).flatten.toArray := by
    cases as with
    | nil =>
      have e : (List.replicate k.toNat ([] : List Value)).flatten = [] := by simp
      rw [e]; rfl
    | cons c d =>
      rw [if_neg (by simp), fold_rep]
      simp
  have tyI := typeIs_int s k tk
  have tyL : s.TypeIs (.ref a) "list" := ⟨_, ea, rfl⟩
  have inner := call_meets (prog := X.prog) (w := X.w) (A := X.A) F.slot_list_mul tyL F.entry_list_mul (F.args_list_mul_2 _ (.int k tk))
    (AutoListH.list___mul___list_int_3 a as.toArray n k tk (by rw [fit]; exact Bool.false_ne_true) (by omega) (by rw [long]; exact Bool.false_ne_true))
    (Q := EP X pins σ Q) (E := X.xe) ⟨ea, by
      rw [res]
      exact ⟨.ref _, _, I.lnew (t' := s.toks) (r.rep k.toNat) (by rw [PyProof.Rows.lm_len_rep_flat, Nat.mul_comm]; exact hl), rfl, q _ I.fresh⟩⟩
  refine wpAny_binaryOp_repeat_ref (T := "list") (U := "int") (by decide) tyL (fun s' => typeIs_int s' k tk)
    noFill_list_mul F.fills_int_mul F.slot_int_rmul repeat_list F.slot_int_index.lookup ?_
  exact call_meets F.slot_int_rmul tyI F.entry_int_rmul (F.args_int_rmul_2 _ _)
    (int___rmul___int_list k tk a as.toArray n) ⟨ea, rfl, tyL, inner⟩
theorem tup_cat {K : PySem.W.Frag} {F H : Hp} {Q : VK} {S : Store} {a b : Addr} {xs ys : List V} {l m : List Val} (s : RS K F H S) (ta : TupAt F a xs) (va : RVs K F l xs) (tb : TupAt F b ys) (vb : RVs K F m ys) (h : up K F Q (.tup (l ++ m)) S) :
    (xs = [] → Q (.ref b) H) ∧ (xs ≠ [] → ys = [] → Q (.ref a) H) ∧ (xs ≠ [] → ys ≠ [] → ∀ p, H p = none → Q (.ref p) (upd H p (.tup (xs ++ ys)))) := by
  refine ⟨fun e => ?_, fun _ e => ?_, fun _ _ p hp => up_tup h s hp (va.append vb)⟩
  · subst e
    exact up_here h s ⟨b, ys, rfl, tb, va.append vb⟩
  · subst e
    refine up_here h s ⟨a, xs, rfl, ta, ?_⟩
    have := va.append vb
    rw [List.append_nil] at this
    exact this
theorem lop (o : Bop) : OpR X (binaryOp (bopOf o)) (lift2 X.K (opB o)) := by
  rintro pins s σ H x y v u Q I rx ry ⟨F, a, b, S, ra, rb, rs, h⟩
  have cat : ∀ {x y : V} {v u : Value} {a b : Val} {Q' : QV}, RelV x v → RelV y u → RV X.K F a x → RV X.K F b y → (getL S a fun l => getL S b fun m => l.length + m.length ≤ LIM ∧ (up X.K F Q (.sl (l ++ m)) S ∨ ∀ p, S p = none → up X.K F Q (.ref p) (put S p (.lst (l ++ m))))) →
      wpAny (model X.prog X.w) X.A (binaryOp .Add v u) (EP X pins σ Q) X.xe s := fun rx ry ra rb h => by
    obtain ⟨p, l, vs, rfl, hp, zl, h⟩ := getL_ok rs ra h
    obtain ⟨p2, m, us, rfl, hp2, zm, hl, h⟩ := getL_ok rs rb h
    refine op_catX pins s σ H _ _ _ _ Q I rx ry ⟨p, p2, vs, us, rfl, rfl, hp, hp2, by rw [← LIM_eq, ← zl.length, ← zm.length]; exact hl, fun q hq => ?_⟩
    rcases h with h | h
    · exact up_sl h rs hq (zl.append zm)
    · exact up_new (h q (rs.free hq)) rs hq (.lst (zl.append zm))
  have rep : ∀ {x y : V} {v u : Value} {a : Val} {j : Int} {Q' : QV}, RelV x v → RelV y u → RV X.K F a x → y = .int j → (getL S a fun l => (j < 2 ^ 63 ∧ -(2 ^ 63) ≤ j ∧ l.length * j.toNat ≤ LIM) ∧ (up X.K F Q (.sl (List.replicate j.toNat l).flatten) S ∨ ∀ p, S p = none → up X.K F Q (.ref p) (put S p (.lst (List.replicate j.toNat l).flatten)))) →
      wpAny (model X.prog X.w) X.A (binaryOp .Mult v u) (EP X pins σ Q) X.xe s := fun rx ry ra ey h => by
    obtain ⟨p, l, vs, rfl, hp, zl, ⟨h1, h2, h3⟩, h⟩ := getL_ok rs ra h
    refine op_repX pins s σ H _ _ _ _ Q I rx ry ⟨p, vs, _, rfl, ey, hp, h2, h1, by rw [← LIM_eq, ← zl.length]; exact h3, fun q hq => ?_⟩
    rcases h with h | h
    · exact up_sl h rs hq (zl.rep _)
    · exact up_new (h q (rs.free hq)) rs hq (.lst (zl.rep _))
  fun_cases opB o a b S (up X.K F Q) <;> simp only [opB] at h
  · exact op_add pins s σ H x y v u Q I rx ry ⟨_, _, ra, rb, up_here h rs rfl⟩
  · exact op_add_str pins s σ H x y v u Q I rx ry ⟨_, _, ra, rb, by rw [← LIM_eq]; exact h.1, up_here h.2 rs rfl⟩
  · obtain ⟨h2, h⟩ := h
    obtain ⟨a1, xs, rfl, ta, va⟩ := ra
    obtain ⟨b1, ys, rfl, tb, vb⟩ := rb
    exact op_catA pins s σ H _ _ v u Q I rx ry ⟨a1, b1, xs, ys, rfl, rfl, ta.sq rs.fs, tb.sq rs.fs, by rw [← LIM_eq, ← va.length, ← vb.length]; exact h2, tup_cat rs ta va tb vb h⟩
  · exact cat (Q' := up X.K F Q) rx ry ra rb (getL_mono (fun l h => getL_mono (fun m h => ⟨h.1, .inl h.2⟩) h) h)
  · exact cat (Q' := up X.K F Q) rx ry ra rb (getL_mono (fun l h => getL_mono (fun m h => ⟨h.1, .inr h.2⟩) h) h)
  · exact op_sub pins s σ H x y v u Q I rx ry ⟨_, _, ra, rb, up_here h rs rfl⟩
  · exact op_mulX pins s σ H x y v u Q I rx ry ⟨_, _, ra, rb, h.1, up_here h.2 rs rfl⟩
  · exact rep (Q' := up X.K F Q) rx ry ra rb (getL_mono (fun l h => ⟨h.1, .inl h.2⟩) h)
  · exact rep (Q' := up X.K F Q) rx ry ra rb (getL_mono (fun l h => ⟨h.1, .inr h.2⟩) h)
  · exact op_fdivX pins s σ H x y v u Q I rx ry ⟨_, _, ra, rb, h.1, up_here h.2 rs rfl⟩
  · exact op_modN pins s σ H x y v u Q I rx ry ⟨_, _, ra, rb, h.1, up_here h.2 rs rfl⟩
  · exact op_pow pins s σ H x y v u Q I rx ry ⟨_, _, ra, rb, ⟨h.1.1, by have := h.1.2.1; omega, h.1.2.2⟩, up_here h.2 rs rfl⟩
mutual
theorem Dt.dp {K : PySem.W.Frag} {F H : Hp} {S : Store} (s : RS K F H S) : ∀ {x : Val} {d : PyData} {v : V}, Dt S x d → RV K F x v → Dp K H v d
  | _, _, _, .non, r => by cases r; exact .non
  | _, _, _, .bl b, r => by cases r; exact .bl b
  | _, _, _, .int i, r => by cases r; exact .int i
  | _, _, _, .str i, r => by cases r; exact .str i
  | _, _, _, .tup h, r => by
    obtain ⟨a, vs, rfl, t, z⟩ := r
    exact .tup (t.sq s.fs) (Dts.dp s h z)
  | _, _, _, .lst h k, r => by
    obtain ⟨a, vs, rfl, t, z⟩ := r.list s h
    exact .lst (rd_sq t) (Dts.dp s k z)
theorem Dts.dp {K : PySem.W.Frag} {F H : Hp} {S : Store} (s : RS K F H S) : ∀ {l : List Val} {ds : List PyData} {vs : List V}, Dts S l ds → RVs K F l vs → DpAll K H vs ds
  | _, _, _, .nil, r => by cases r; exact .nil
  | _, _, _, .cons h k, r => by
    obtain ⟨v, q, rfl, r1, r2⟩ := r
    exact .cons (Dt.dp s h r1) (Dts.dp s k r2)
end
theorem op_inT (hu : X.A.units + 65 < cLine) : OpR X (compareOp .In) (fun x y H Q => ∃ d ds, Dp X.K H x d ∧ Dp X.K H y (.tuple ds) ∧ SeqAt.shaped d = true ∧ SeqAt.shaped (.list ds) = true ∧ Q (.bl (ds.any fun z => PyData.eqv z d)) H) := by
  intro pins s σ H x y v u Q I rx ry h
  obtain ⟨d, ds, hd, he, sd, se, q⟩ := h
  obtain ⟨as, r1⟩ := Dp.reads I d x v hd rx
  obtain ⟨bs, r2⟩ := Dp.reads I (.tuple ds) y u he ry
  exact SeqAt.in_tuple_reads r2 r1 (SeqAt.canLay_of_shaped se) (SeqAt.canLay_of_shaped sd) (room_in_shaped sd hu) ⟨.bl _, H, I, rfl, q⟩
theorem op_notInT (hu : X.A.units + 65 < cLine) : OpR X (compareOp .NotIn) (fun x y H Q => ∃ d ds, Dp X.K H x d ∧ Dp X.K H y (.tuple ds) ∧ SeqAt.shaped d = true ∧ SeqAt.shaped (.list ds) = true ∧ Q (.bl (!ds.any fun z => PyData.eqv z d)) H) := by
  intro pins s σ H x y v u Q I rx ry h
  obtain ⟨d, ds, hd, he, sd, se, q⟩ := h
  obtain ⟨as, r1⟩ := Dp.reads I d x v hd rx
  obtain ⟨bs, r2⟩ := Dp.reads I (.tuple ds) y u he ry
  exact SeqAt.notIn_tuple_reads r2 r1 (SeqAt.canLay_of_shaped se) (SeqAt.canLay_of_shaped sd) (room_in_shaped sd hu) ⟨.bl _, H, I, rfl, q⟩
def lift2B (K : PySem.W.Frag) (f : Val → Val → Store → (Bool → Prop) → Prop) : R2 := fun x y H Q => ∃ F a b S, RV K F a x ∧ RV K F b y ∧ RS K F H S ∧ f a b S fun t => upB K F (fun t H' => Q (.bl t) H') t S
theorem upB_here {K : PySem.W.Frag} {F H : Hp} {Q : Bool → Hp → Prop} {t : Bool} {S : Store} (h : upB K F Q t S) (s : RS K F H S) : Q t H := h F H .refl s
theorem ltI_ok {K : PySem.W.Frag} {F : Hp} {a b : Val} {x y : V} {P : Bool → Prop} {f : Int → Int → Bool} {g : List Int → List Int → Bool} (ra : RV K F a x) (rb : RV K F b y) (h : ltI a b P f g) : (∃ i j, x = .int i ∧ y = .int j ∧ P (f i j)) ∨
    ∃ p q ns ms, x = .ref p ∧ y = .ref q ∧ TupAt F p (ns.map V.int) ∧ TupAt F q (ms.map V.int) ∧ P (g ns ms) := by
  unfold ltI at h
  split at h
  · exact .inl ⟨_, _, ra, rb, h⟩
  · obtain ⟨ns, ms, rfl, rfl, h⟩ := h
    obtain ⟨p, vs, rfl, t1, z1⟩ := ra
    obtain ⟨q, us, rfl, t2, z2⟩ := rb
    have e1 := z1.ints
    have e2 := z2.ints
    subst e1 e2
    exact .inr ⟨p, q, ns, ms, rfl, rfl, t1, t2, h⟩
  · exact h.elim
theorem dl_ints : ∀ ns ms : List Int, PyProof.Rows.lexLt PyProof.Rows.itemOrd (PySem.W.keyToksAll (ns.map .int)) (PySem.W.keyToksAll (ms.map .int)) = HT.lexLt ns ms
  | [], [] => by decide +kernel
  | [], m :: ms => by
    show PyProof.Rows.lexLt PyProof.Rows.itemOrd [.inl 0] (.inl 1 :: _) = true
    rw [PySem.W.lex_atom (by decide)]
    decide +kernel
  | n :: ns, [] => by
    show PyProof.Rows.lexLt PyProof.Rows.itemOrd (.inl 1 :: _) [.inl 0] = false
    rw [PySem.W.lex_atom (by decide)]
    decide +kernel
  | n :: ns, m :: ms => by
    rw [List.map_cons, List.map_cons, HT.lexLt_cons]
    by_cases e : n = m
    · subst e
      rw [if_pos rfl, PySem.W.dataLt_all_yes rfl (by simp [PyData.eqv]), dl_ints ns ms]
    · rw [if_neg e, PySem.W.dataLt_all_no rfl (by simp [PyData.eqv, e]), PySem.W.dataLt_int]
theorem dl_tup (ns ms : List Int) : PySem.W.dataLt (.tuple (ns.map .int)) (.tuple (ms.map .int)) = HT.lexLt ns ms := by rw [PySem.W.dataLt_tuple, dl_ints]
theorem al_ints : ∀ ns ms : List Int, PySem.W.alikeAll (ns.map .int) (ms.map .int) = true
  | [], _ => by simp [PySem.W.alikeAll]
  | _ :: _, [] => by simp [PySem.W.alikeAll]
  | n :: ns, m :: ms => by
    rw [List.map_cons, List.map_cons, PySem.W.alikeAll, al_ints ns ms]
    rfl
theorem al_tup (ns ms : List Int) : PySem.W.alike (.tuple (ns.map .int)) (.tuple (ms.map .int)) = true := by rw [PySem.W.alike, al_ints]
theorem dep_ints : ∀ ns : List Int, PyData.depthAll (ns.map .int) ≤ 1
  | [] => by decide
  | n :: ns => by
    rw [List.map_cons]
    show max (PyData.depth (.int n)) (PyData.depthAll (ns.map .int)) ≤ 1
    have := dep_ints ns
    have e : PyData.depth (.int n) ≤ 1 := by show _ ≤ 1; simp [PyData.depth]
    omega
theorem dep_tup (ns : List Int) : PyData.depth (.tuple (ns.map .int)) ≤ 2 := by
  have := dep_ints ns
  simp only [PyData.depth]
  omega
theorem dp_ints {K : PySem.W.Frag} {H : Hp} : ∀ ns : List Int, DpAll K H (ns.map V.int) (ns.map .int)
  | [] => .nil
  | n :: ns => .cons (.int n) (dp_ints ns)
theorem reads_ints {pins : List (Addr × Obj)} {s : Shared} {σ : L2.St} {H : Hp} {p : Addr} {ns : List Int} (I : Inv X pins σ H s) (h : SqT X.K H p (ns.map V.int)) : ∃ as, Reads s.heap (.ref p) (.tuple (ns.map .int)) as := Dp.reads I _ (.ref p) _ (.tup h (dp_ints ns)) rfl
theorem seqOf_ok {K : PySem.W.Frag} {F H : Hp} {S : Store} {a : Val} {x : V} {P : List Val → Prop} (s : RS K F H S) (ra : RV K F a x) (h : seqOf S a P) :
    ∃ p l vs, x = .ref p ∧ RVs K F l vs ∧ P l ∧ (SqL K H p vs ∨ SqT K H p vs) := by
  unfold seqOf at h
  split at h
  · obtain ⟨p, vs, e, t, z⟩ := ra
    exact ⟨p, _, vs, e, z, h, .inr (t.sq s.fs)⟩
  · obtain ⟨p, l, vs, e, hp, z, h⟩ := getL_ok s ra h
    exact ⟨p, l, vs, e, z, h, .inl (rd_sq hp)⟩
theorem lin (hu : X.A.units + 65 < cLine) (n : Bool) : OpR X (compareOp (if n then .NotIn else .In)) (lift2B X.K fun a b S P => inOp S a b fun t => P (if n then !t else t)) := by
  rintro pins s σ H x y v u Q I rx ry ⟨F, a, b, S, ra, rb, rs, h⟩
  unfold inOp at h
  split at h
  · cases n
    · exact op_in_str pins s σ H x y v u Q I rx ry ⟨_, _, ra, rb, upB_here h rs⟩
    · exact op_notin_str pins s σ H x y v u Q I rx ry ⟨_, _, ra, rb, upB_here h rs⟩
  · obtain ⟨p, l, vs, rfl, z, ⟨d, ds, h1, h2, h3, h4, h⟩, t⟩ := seqOf_ok rs rb h
    have e1 := h1.dp rs ra
    have e2 := h2.dp rs z
    rcases t with t | t
    · cases n
      · exact op_inD hu pins s σ H x _ v u Q I rx ry ⟨d, ds, e1, .lst t e2, h3, h4, upB_here h rs⟩
      · exact op_notInD hu pins s σ H x _ v u Q I rx ry ⟨d, ds, e1, .lst t e2, h3, h4, upB_here h rs⟩
    · cases n
      · exact op_inT hu pins s σ H x _ v u Q I rx ry ⟨d, ds, e1, .tup t e2, h3, h4, upB_here h rs⟩
      · exact op_notInT hu pins s σ H x _ v u Q I rx ry ⟨d, ds, e1, .tup t e2, h3, h4, upB_here h rs⟩
theorem isTF_ok {K : PySem.W.Frag} {F : Hp} {a : Val} {b : Bool} {x : V} {v : Value} {P : Bool → Prop} (ra : RV K F a x) (rx : RelV x v) (h : isTF a b P) : plainIs v (.bool b) = true ∧ v ≠ .bool b ∧ P false := by
  unfold isTF at h
  split at h
  · cases ra
    obtain ⟨t, rfl⟩ := rx
    exact ⟨rfl, (fun z => nomatch z), h⟩
  · cases ra
    obtain rfl : v = Value.none := rx
    exact ⟨rfl, (fun z => nomatch z), h⟩
  · obtain ⟨p, vs, rfl, _⟩ := ra
    obtain rfl : v = Value.ref p := rx
    exact ⟨rfl, (fun z => nomatch z), h⟩
  · exact h.elim
theorem is_cases {a b : Val} {S : Store} {P : Bool → Prop} (h : opC .is a b S P) : (∃ x y, a = .bl x ∧ b = .bl y ∧ P (decide (x = y))) ∨ (∃ y, b = .bl y ∧ isTF a y P) ∨ (b.isNon = true ∧ P a.isNon) := by
  cases b with
  | bl y => cases a <;> first | exact .inl ⟨_, _, rfl, rfl, h⟩ | exact .inr (.inl ⟨_, rfl, h⟩)
  | _ => cases a <;> exact .inr (.inr h)
theorem isnot_cases {a b : Val} {S : Store} {P : Bool → Prop} (h : opC .isnot a b S P) : (∃ x y, a = .bl x ∧ b = .bl y ∧ P (!decide (x = y))) ∨ (∃ y, b = .bl y ∧ isTF a y fun b => P (!b)) ∨ (b.isNon = true ∧ P (!a.isNon)) := by
  cases b with
  | bl y => cases a <;> first | exact .inl ⟨_, _, rfl, rfl, h⟩ | exact .inr (.inl ⟨_, rfl, h⟩)
  | _ => cases a <;> exact .inr (.inr h)
theorem lis : OpR X (compareOp .Is) (lift2B X.K fun a b S P => opC .is a b S P) := by
  rintro pins s σ H x y v u Q I rx ry ⟨F, a, b, S, ra, rb, rs, h⟩
  rcases is_cases h with ⟨c, d, rfl, rfl, k⟩ | ⟨d, rfl, k⟩ | ⟨h1, k⟩
  · exact op_isBl pins s σ H _ _ v u Q I rx ry ⟨_, _, ra, rb, upB_here k rs⟩
  · cases rb
    obtain rfl : u = Value.bool _ := ry
    obtain ⟨h1, h2, h3⟩ := isTF_ok ra rx k
    exact wpAny_is_other h1 h2 ⟨.bl false, H, I, rfl, upB_here h3 rs⟩
  · have hy : y = .non := by
      rw [rb.nonB] at h1
      exact of_decide_eq_true h1
    rw [ra.nonB] at k
    exact op_isN pins s σ H x y v u Q I rx ry ⟨hy, upB_here k rs⟩
theorem lisn : OpR X (compareOp .IsNot) (lift2B X.K fun a b S P => opC .isnot a b S P) := by
  rintro pins s σ H x y v u Q I rx ry ⟨F, a, b, S, ra, rb, rs, h⟩
  rcases isnot_cases h with ⟨c, d, rfl, rfl, k⟩ | ⟨d, rfl, k⟩ | ⟨h1, k⟩
  · exact op_notBl pins s σ H _ _ v u Q I rx ry ⟨_, _, ra, rb, upB_here k rs⟩
  · cases rb
    obtain rfl : u = Value.bool _ := ry
    obtain ⟨h1, h2, h3⟩ := isTF_ok ra rx k
    exact wpAny_isNot_other h1 h2 ⟨.bl true, H, I, rfl, upB_here h3 rs⟩
  · have hy : y = .non := by
      rw [rb.nonB] at h1
      exact of_decide_eq_true h1
    rw [ra.nonB] at k
    exact op_notN pins s σ H x y v u Q I rx ry ⟨hy, upB_here k rs⟩
theorem loc (hu : X.A.units + 65 < cLine) (o : Cop) : OpR X (compareOp (copOf o)) (lift2B X.K (opC o)) := by
  cases o with
  | in_ => exact lin hu false
  | notin => exact lin hu true
  | is => exact lis
  | isnot => exact lisn
  | _ =>
    rintro pins s σ H x y v u Q I rx ry ⟨F, a, b, S, ra, rb, rs, h⟩
    simp only [opC] at h
    first
      | (obtain ⟨d, e, h1, h2, h3, h4, h⟩ := h
         first
          | exact op_eqD (by omega) pins s σ H x y v u Q I rx ry ⟨d, e, h1.dp rs ra, h2.dp rs rb, h3, h4, upB_here h rs⟩
          | exact op_neD (by omega) pins s σ H x y v u Q I rx ry ⟨d, e, h1.dp rs ra, h2.dp rs rb, h3, h4, upB_here h rs⟩)
      | (rcases ltI_ok ra rb h with ⟨i, j, e1, e2, h⟩ | ⟨p, q, ns, ms, rfl, rfl, t1, t2, h⟩
         · first
            | exact op_le pins s σ H x y v u Q I rx ry ⟨i, j, e1, e2, upB_here h rs⟩
            | exact op_gt pins s σ H x y v u Q I rx ry ⟨i, j, e1, e2, upB_here h rs⟩
            | exact op_ge pins s σ H x y v u Q I rx ry ⟨i, j, e1, e2, upB_here h rs⟩
         · obtain rfl : v = Value.ref p := rx
           obtain rfl : u = Value.ref q := ry
           obtain ⟨as, r1⟩ := reads_ints I (t1.sq rs.fs)
           obtain ⟨bs, r2⟩ := reads_ints I (t2.sq rs.fs)
           have d1 := dep_tup ns
           have d2 := dep_tup ms
           have h3 := upB_here h rs
           first
            | exact PySem.W.rcLe_alike _ _ X.A s _ _ _ _ r1 r2 (al_tup ns ms) (fun z => nomatch z) (by omega) X.prog X.w _ _ ⟨.bl _, H, I, rfl, by rw [dl_tup]; exact h3⟩
            | exact PySem.W.rcGt_alike _ _ X.A s _ _ _ _ r1 r2 (al_tup ns ms) (fun z => nomatch z) (by omega) X.prog X.w _ _ ⟨.bl _, H, I, rfl, by rw [dl_tup]; exact h3⟩
            | exact PySem.W.rcGe_alike _ _ X.A s _ _ _ _ r1 r2 (al_tup ns ms) (fun z => nomatch z) (by omega) X.prog X.w _ _ ⟨.bl _, H, I, rfl, by rw [dl_tup]; exact h3⟩)
      | (unfold tupLt at h
         split at h
         · obtain ⟨ns, ms, rfl, rfl, h⟩ := h
           obtain ⟨p, vs, rfl, t1, z1⟩ := ra
           obtain ⟨q, us, rfl, t2, z2⟩ := rb
           have e1 := z1.ints
           have e2 := z2.ints
           subst e1 e2
           exact op_ltT (by omega) pins s σ H _ _ v u Q I rx ry ⟨p, q, ns, ms, rfl, rfl, t1.sq rs.fs, t2.sq rs.fs, upB_here h rs⟩
         · exact op_lt pins s σ H x y v u Q I rx ry ⟨_, _, ra, rb, upB_here h rs⟩
         · exact op_lt_str pins s σ H x y v u Q I rx ry ⟨_, _, ra, rb, upB_here h rs⟩
         · exact h.elim)
end
end BW
set_option Elab.async false
set_option linter.all false
set_option maxRecDepth 100000
set_option maxHeartbeats 4000000
namespace BW
open PySem PySem.Spec PyProof.Rows L2
/-! ### the lesser and the greater of two tuples, of a tuple's numbers -/
section
variable {X : Cx} {pins : List (Addr × Obj)} {s : Shared} {σ : L2.St} {H : Hp} {Q : VK}
theorem alike2 (a b : List Int) : PySem.W.AlikeAll [.tuple (a.map .int), .tuple (b.map .int)] := by
  have al : ∀ x ∈ [PyData.tuple (a.map .int), .tuple (b.map .int)], ∃ c : List Int, x = .tuple (c.map .int) := fun x hx => by
    rcases List.mem_cons.mp hx with rfl | hx
    · exact ⟨a, rfl⟩
    · rw [List.mem_singleton.mp hx]; exact ⟨b, rfl⟩
  refine ⟨fun x hx y hy => ?_, fun x hx => ?_⟩
  · obtain ⟨c, rfl⟩ := al x hx
    obtain ⟨d, rfl⟩ := al y hy
    exact al_tup c d
  · obtain ⟨c, rfl⟩ := al x hx
    exact fun z => nomatch z
theorem dep2 (a b : List Int) : PyData.depthAll [.tuple (a.map .int), .tuple (b.map .int)] ≤ 2 := by
  show max (PyData.depth (.tuple (a.map .int))) (max (PyData.depth (.tuple (b.map .int))) 0) ≤ 2
  have := dep_tup a
  have := dep_tup b
  omega
theorem reads2 {p q : Addr} {a b : List Int} (I : Inv X pins σ H s) (h1 : SqT X.K H p (a.map V.int)) (h2 : SqT X.K H q (b.map V.int)) : ∃ as, ReadsAll s.heap [.ref p, .ref q] [.tuple (a.map .int), .tuple (b.map .int)] as := by
  obtain ⟨as, r1⟩ := reads_ints I h1
  obtain ⟨bs, r2⟩ := reads_ints I h2
  exact ⟨_, .cons r1 (.cons r2 .nil)⟩
theorem two_tuple {a b : Value} : (s.heap.push { cls := .type "tuple", data := .seq #[a, b] }).IsTuple s.heap.objs.size #[a, b] := ⟨_, Heap.get?_push_size s.heap rfl, rfl, 0, rfl⟩
theorem min2_ok {p q : Addr} {a b : List Int} (hc : X.calm = true) (hu : X.A.units + 65 < cLine) (I : Inv X pins σ H s) (h1 : SqT X.K H p (a.map V.int)) (h2 : SqT X.K H q (b.map V.int)) (h : Q (.ref (if HT.lexLt b a = true then q else p)) H) :
    wpAny (model X.prog X.w) X.A (call (.builtin "min") [.ref p, .ref q]) (EP X pins σ Q) X.xe s := by
  obtain ⟨cs, rd⟩ := reads2 I h1 h2
  have nm' : (toString "min" ++ toString ".loop" : String) = "min.loop" := by decide
  refine call_function_tree F.kind_min F.plain_min F.entry_min (PySem.F.args_min2 _ _) ?_
  refine wpAny_bind (wpAny_of_eq (show Builtin.Builtins.bindParams "min" ["key", "default"] 0 ⟨[], []⟩ = pure [none, none] from rfl) ?_)
  show wpAny (model X.prog X.w) X.A.in1 (newTuple [.ref p, .ref q] >>= _) _ _ s
  refine wpAny_bind (wpAny_newObj_type ?_)
  refine wpAny_bind (PySem.W.iter_tupleW (A := X.A.in1) (I.ok.hd hc) two_tuple fun t et Wk st fp hw hk => ?_)
  have rd' : ReadsAll (s.heap.push { cls := .type "tuple", data := .seq #[.ref p, .ref q] }) (#[Value.ref p, .ref q] : Array Value).toList [.tuple (a.map .int), .tuple (b.map .int)] cs := ReadsAll.keeps (fun _ _ e => Heap.get?_push_of_some _ e) rd
  have dp := dep2 a b
  have cm := PySem.W.cmpIn_lt (s := { s with heap := s.heap.push { cls := .type "tuple", data := .seq #[.ref p, .ref q] } }) (vs := #[Value.ref p, .ref q]) (prog := X.prog) (w := X.w) (A := X.A.in1) rd' (alike2 a b) (by show X.A.units + 1 + _ < _; omega)
  refine wpAny_bind (wpAny_newObj_type ?_)
  have nf : t.heap.objs.size ∉ _ := fun hm => Nat.lt_irrefl _ (fp _ hm)
  rw [nm']
  refine wpAny_pure ⟨plainId_quiet F.plain_min_loop _, PySem.codeAny_min_loop_firstH Wk _ hw _ cm t.heap.objs.size nf (PySem.fresh_in hk) _ (Nat.zero_lt_succ 1) (fun c o e => Heap.get?_push_of_some _ (hk c o e))
    (Wk.frame 0 t _ t.toks st (Nat.le_refl _) fun c _ o e => Heap.get?_push_of_some _ e) (Heap.get?_push_size _ rfl) fun v s' hP hm => ?_⟩
  have hm2 := Moved.drop_new (tk := t.toks) hm (Nat.le_refl _)
  obtain ⟨h', tk, rfl, k⟩ := PySem.W.moved_old et rfl hm2
  have I2 : Inv X pins σ H { s with heap := h', toks := tk } := I.kept fun c o e => k c o (Heap.get?_push_of_some _ e)
  refine ⟨_, H, I2, ?_, h⟩
  have e1 : argBest (fun i j => PySem.W.dataLt (([.tuple (a.map .int), .tuple (b.map .int)] : List PyData).getD i .none) (([.tuple (a.map .int), .tuple (b.map .int)] : List PyData).getD j .none)) 1 = if HT.lexLt b a = true then 1 else 0 := by
    show (if PySem.W.dataLt (.tuple (b.map .int)) (.tuple (a.map .int)) = true then 1 else 0) = _
    rw [dl_tup]
  rw [show (#[Value.ref p, .ref q] : Array Value).size - 1 = 1 from rfl, e1] at hP
  by_cases c : HT.lexLt b a = true
  · rw [if_pos c] at hP ⊢
    exact (Option.some.inj hP).symm
  · rw [if_neg c] at hP ⊢
    exact (Option.some.inj hP).symm
theorem max2_ok {p q : Addr} {a b : List Int} (hc : X.calm = true) (hu : X.A.units + 65 < cLine) (I : Inv X pins σ H s) (h1 : SqT X.K H p (a.map V.int)) (h2 : SqT X.K H q (b.map V.int)) (h : Q (.ref (if HT.lexLt a b = true then q else p)) H) :
    wpAny (model X.prog X.w) X.A (call (.builtin "max") [.ref p, .ref q]) (EP X pins σ Q) X.xe s := by
  obtain ⟨cs, rd⟩ := reads2 I h1 h2
  have nm' : (toString "max" ++ toString ".loop" : String) = "max.loop" := by decide
  refine call_function_tree F.kind_max F.plain_max F.entry_max (PySem.F.args_max2 _ _) ?_
  refine wpAny_bind (wpAny_of_eq (show Builtin.Builtins.bindParams "max" ["key", "default"] 0 ⟨[], []⟩ = pure [none, none] from rfl) ?_)
  show wpAny (model X.prog X.w) X.A.in1 (newTuple [.ref p, .ref q] >>= _) _ _ s
  refine wpAny_bind (wpAny_newObj_type ?_)
  refine wpAny_bind (PySem.W.iter_tupleW (A := X.A.in1) (I.ok.hd hc) two_tuple fun t et Wk st fp hw hk => ?_)
  have rd' : ReadsAll (s.heap.push { cls := .type "tuple", data := .seq #[.ref p, .ref q] }) (#[Value.ref p, .ref q] : Array Value).toList [.tuple (a.map .int), .tuple (b.map .int)] cs := ReadsAll.keeps (fun _ _ e => Heap.get?_push_of_some _ e) rd
  have dp := dep2 a b
  have cm := PySem.W.cmpIn_gt (s := { s with heap := s.heap.push { cls := .type "tuple", data := .seq #[.ref p, .ref q] } }) (vs := #[Value.ref p, .ref q]) (prog := X.prog) (w := X.w) (A := X.A.in1) rd' (alike2 a b) (by show X.A.units + 1 + _ < _; omega)
  refine wpAny_bind (wpAny_newObj_type ?_)
  have nf : t.heap.objs.size ∉ _ := fun hm => Nat.lt_irrefl _ (fp _ hm)
  rw [nm']
  refine wpAny_pure ⟨plainId_quiet F.plain_max_loop _, PySem.codeAny_max_loop_firstH Wk _ hw _ cm t.heap.objs.size nf (PySem.fresh_in hk) _ (Nat.zero_lt_succ 1) (fun c o e => Heap.get?_push_of_some _ (hk c o e))
    (Wk.frame 0 t _ t.toks st (Nat.le_refl _) fun c _ o e => Heap.get?_push_of_some _ e) (Heap.get?_push_size _ rfl) fun v s' hP hm => ?_⟩
  have hm2 := Moved.drop_new (tk := t.toks) hm (Nat.le_refl _)
  obtain ⟨h', tk, rfl, k⟩ := PySem.W.moved_old et rfl hm2
  have I2 : Inv X pins σ H { s with heap := h', toks := tk } := I.kept fun c o e => k c o (Heap.get?_push_of_some _ e)
  refine ⟨_, H, I2, ?_, h⟩
  have e1 : argBest (fun i j => PySem.W.dataLt (([.tuple (a.map .int), .tuple (b.map .int)] : List PyData).getD j .none) (([.tuple (a.map .int), .tuple (b.map .int)] : List PyData).getD i .none)) 1 = if HT.lexLt a b = true then 1 else 0 := by
    show (if PySem.W.dataLt (.tuple (a.map .int)) (.tuple (b.map .int)) = true then 1 else 0) = _
    rw [dl_tup]
  rw [show (#[Value.ref p, .ref q] : Array Value).size - 1 = 1 from rfl, e1] at hP
  by_cases c : HT.lexLt a b = true
  · rw [if_pos c] at hP ⊢
    exact (Option.some.inj hP).symm
  · rw [if_neg c] at hP ⊢
    exact (Option.some.inj hP).symm
end
section
variable {X : Cx}
theorem emp_eq {α β : Type} {l : List α} {m : List β} (e : l.length = m.length) : (!m.isEmpty) = (!l.isEmpty) := by
  cases m <;> cases l <;> first | rfl | (simp at e)
theorem tru_of {K : PySem.W.Frag} {F H : Hp} {S : Store} {a : Val} {x : V} {P : Bool → Prop} (s : RS K F H S) (ra : RV K F a x) (h : tru a S P) : ∃ k, TruV K x H k ∧ P k := by
  unfold tru at h
  split at h
  · cases ra; exact ⟨_, rfl, h⟩
  · cases ra; exact ⟨_, rfl, h⟩
  · cases ra; exact ⟨_, rfl, h⟩
  · cases ra; exact ⟨_, ⟨by rw [← LIM_eq]; exact h.1, rfl⟩, h.2⟩
  · obtain ⟨p, vs, rfl, t, z⟩ := ra
    exact ⟨_, .inr (.inl ⟨vs, t.sq s.fs, rfl⟩), by rw [emp_eq z.length]; exact h⟩
  · obtain ⟨p, l, vs, rfl, t, z, h⟩ := getL_ok s ra h
    exact ⟨_, .inl ⟨vs, rd_sq t, rfl⟩, by rw [emp_eq z.length]; exact h⟩
theorem lix : IxR X (lift2 X.K opIx) := by
  rintro value slice pins s σ H x y v u Q I rx ry ⟨F, a, b, S, ra, rb, rs, h⟩ hs
  unfold opIx at h
  split at h
  · obtain ⟨w, e, h⟩ := h
    obtain ⟨p, vs, rfl, t, z⟩ := ra
    obtain ⟨z1, e1, r1⟩ := z.atI e
    exact ix_tup value slice pins s σ H _ _ v u Q I rx ry ⟨p, vs, _, z1, rfl, rb, t.sq rs.fs, e1, up_here h rs r1⟩ hs
  · obtain ⟨z, c, e, h⟩ := h
    exact ix_str value slice pins s σ H _ _ v u Q I rx ry ⟨_, _, c, ra, rb, by rw [← LIM_eq]; exact z, e, up_here h rs rfl⟩ hs
  · obtain ⟨p, l, vs, rfl, t, z, w, e, h⟩ := getL_ok rs ra h
    obtain ⟨z1, e1, r1⟩ := z.atI e
    exact ix_list value slice pins s σ H _ _ v u Q I rx ry ⟨p, vs, _, z1, rfl, rb, rd_sq t, e1, up_here h rs r1⟩ hs
  · exact h.elim
def liftSl (K : PySem.W.Frag) (m : Bool) : V → Option Int → Option Int → Hp → VK → Prop := fun x lo hi H Q => ∃ F a S, RV K F a x ∧ RS K F H S ∧ opSl m a lo hi S (up K F Q)
theorem cut_whole {α : Type} {l : List α} {lo hi : Option Int} (h : HT.sIx l.length 0 lo = 0 ∧ HT.sIx l.length l.length hi = l.length) : cutG l lo hi = l := by
  unfold cutG
  rw [h.1, h.2, List.drop_zero, Nat.sub_zero, List.take_length]
theorem lsl (m : Bool) : SlR X (liftSl X.K m) := by
  rintro pins s σ H x v vl vu lo hi sl Q I rx hs pl pu ⟨F, a, S, ra, rs, h⟩
  fun_cases opSl m a lo hi S (up X.K F Q) <;> simp only [opSl] at h
  · obtain ⟨p, vs, rfl, t, z⟩ := ra
    refine sl_tupA pins s σ H _ v vl vu lo hi sl Q I rx hs pl pu ⟨p, vs, rfl, t.sq rs.fs, fun w => ?_, fun _ q hq => up_tup h rs hq z.cut⟩
    refine up_here h rs ⟨p, vs, rfl, t, ?_⟩
    rw [← z.length] at w
    rw [cut_whole w]
    exact z
  · cases ra
    exact sl_str pins s σ H _ v vl vu lo hi sl Q I rx hs pl pu ⟨_, rfl, by rw [← LIM_eq]; exact h.1, up_here h.2 rs rfl⟩
  · obtain ⟨p, l, vs, rfl, t, z, h⟩ := getL_ok rs ra h
    exact sl_list pins s σ H _ v vl vu lo hi sl Q I rx hs pl pu ⟨p, vs, rfl, rd_sq t, fun q hq => up_sl h rs hq z.cut⟩
  · obtain ⟨p, l, vs, rfl, t, z, h⟩ := getL_ok rs ra h
    exact sl_list pins s σ H _ v vl vu lo hi sl Q I rx hs pl pu ⟨p, vs, rfl, rd_sq t, fun q hq => up_new (h q (rs.free hq)) rs hq (.lst z.cut)⟩
def Bi.val : Bi → Value
  | .abs => .builtin "abs" | .len => .builtin "len" | .max2 => .builtin "max" | .min2 => .builtin "min" | .int => .type "int" | .sorted => .builtin "sorted" | .tuple => .type "tuple" | .list => .type "list"
  | .str => .type "str" | .sum => .builtin "sum" | .max1 => .builtin "max" | .min1 => .builtin "min" | .any => .builtin "any" | .all => .builtin "all" | .divmod => .builtin "divmod"
  | .listM => .type "list" | .sortedM => .builtin "sorted" | .listrev => .type "list" | .listrevM => .type "list" | .intS => .type "int"
def Bi.nm : Bi → Str
  | .abs => "abs" | .len => "len" | .max2 => "max" | .min2 => "min" | .int => "int" | .sorted => "sorted" | .tuple => "tuple" | .list => "list"
  | .str => "str" | .sum => "sum" | .max1 => "max" | .min1 => "min" | .any => "any" | .all => "all" | .divmod => "divmod"
  | .listM => "list" | .sortedM => "sorted" | .listrev => "list" | .listrevM => "list" | .intS => "int"
def Bi.hot : Bi → Bool
  | .int => true | .abs => true | .len => true
  | _ => false
def liftA (K : PySem.W.Frag) (f : List Val → Store → QV → Prop) : List V → Hp → VK → Prop := fun vs H Q => ∃ F as S, RVs K F as vs ∧ RS K F H S ∧ f as S (up K F Q)
theorem RVs.one {K : PySem.W.Frag} {F : Hp} {a : Val} {vs : List V} (h : RVs K F [a] vs) : ∃ v, vs = [v] ∧ RV K F a v := by
  obtain ⟨v, r, rfl, q, z⟩ := h
  cases z
  exact ⟨v, rfl, q⟩
theorem RVs.two {K : PySem.W.Frag} {F : Hp} {a b : Val} {vs : List V} (h : RVs K F [a, b] vs) : ∃ v u, vs = [v, u] ∧ RV K F a v ∧ RV K F b u := by
  obtain ⟨v, r, rfl, q, z⟩ := h
  obtain ⟨u, rfl, q2⟩ := z.one
  exact ⟨v, u, rfl, q, q2⟩
theorem RVs.three {K : PySem.W.Frag} {F : Hp} {a b c : Val} {vs : List V} (h : RVs K F [a, b, c] vs) : ∃ v u w, vs = [v, u, w] ∧ RV K F a v ∧ RV K F b u ∧ RV K F c w := by
  obtain ⟨v, r, rfl, q, z⟩ := h
  obtain ⟨u, w, rfl, q2, q3⟩ := z.two
  exact ⟨v, u, w, rfl, q, q2, q3⟩
theorem call_divmodX : CallR X (.builtin "divmod") (fun xs H Q => ∃ i j, xs = [.int i, .int j] ∧ DivOk i j ∧ ∀ p, H p = none → Q (.ref p) (upd H p (.tup [.int (i.fdiv j), .int (i.fmod j)]))) := by
  intro pins s σ H xs us Q I r h
  obtain ⟨i, j, rfl, ⟨h1, h2⟩, q⟩ := h
  obtain ⟨u, w', rfl, ⟨t, rfl⟩, ⟨t', rfl⟩⟩ := vals2 r
  refine divmod_int (by omega) ?_ (.inl (PyProof.noPylong_of_log2 h2))
  have hn : H s.heap.objs.size = none := I.hok.fresh (Nat.le_refl _)
  refine ⟨.ref s.heap.objs.size, _, ?_, rfl, q _ hn⟩
  refine I.laid (fun b o e => Heap.get?_push_of_some _ e) (Nat.le_refl _) ⟨by simp only [List.length_cons, List.length_nil]; rw [sizeLine_eq]; decide, [.int (i.fdiv j) s.toks, .int (i.fmod j) (s.toks + 1)], .cons ⟨_, rfl⟩ (.cons ⟨_, rfl⟩ .nil), ?_⟩
  exact ⟨_, Heap.get?_push_size s.heap rfl, rfl, 0, rfl⟩
theorem ints_of {K : PySem.W.Frag} {F H : Hp} {S : Store} {a : Val} {x : V} {P : List Int → Prop} (s : RS K F H S) (ra : RV K F a x) (h : getL S a fun l => intsOf l P) : ∃ p ns, x = .ref p ∧ SqL K H p (ns.map V.int) ∧ P ns := by
  obtain ⟨p, l, vs, rfl, t, z, ns, rfl, h⟩ := getL_ok s ra h
  have e := z.ints
  subst e
  exact ⟨p, ns, rfl, rd_sq t, h⟩
/-- the greatest, the least of a tuple's numbers -/
theorem fold_max : ∀ (l : List Int) (n : Int), l.foldl max n ∈ n :: l ∧ ∀ k ∈ n :: l, k ≤ l.foldl max n
  | [], n => ⟨List.mem_cons_self, fun k hk => by rw [List.mem_singleton.mp hk]; exact Int.le_refl _⟩
  | m :: l, n => by
    obtain ⟨h1, h2⟩ := fold_max l (max n m)
    rw [List.foldl_cons]
    refine ⟨?_, fun k hk => ?_⟩
    · rcases List.mem_cons.mp h1 with e | h
      · rw [e]
        rcases Int.le_total n m with q | q
        · rw [Int.max_eq_right q]; simp
        · rw [Int.max_eq_left q]; simp
      · exact List.mem_cons_of_mem _ (List.mem_cons_of_mem _ h)
    · have h3 := h2 (max n m) List.mem_cons_self
      rcases List.mem_cons.mp hk with rfl | hk
      · omega
      · rcases List.mem_cons.mp hk with rfl | hk
        · omega
        · exact h2 k (List.mem_cons_of_mem _ hk)
theorem fold_min : ∀ (l : List Int) (n : Int), l.foldl min n ∈ n :: l ∧ ∀ k ∈ n :: l, l.foldl min n ≤ k
  | [], n => ⟨List.mem_cons_self, fun k hk => by rw [List.mem_singleton.mp hk]; exact Int.le_refl _⟩
  | m :: l, n => by
    obtain ⟨h1, h2⟩ := fold_min l (min n m)
    rw [List.foldl_cons]
    refine ⟨?_, fun k hk => ?_⟩
    · rcases List.mem_cons.mp h1 with e | h
      · rw [e]
        rcases Int.le_total n m with q | q
        · rw [Int.min_eq_left q]; simp
        · rw [Int.min_eq_right q]; simp
      · exact List.mem_cons_of_mem _ (List.mem_cons_of_mem _ h)
    · have h3 := h2 (min n m) List.mem_cons_self
      rcases List.mem_cons.mp hk with rfl | hk
      · omega
      · rcases List.mem_cons.mp hk with rfl | hk
        · omega
        · exact h2 k (List.mem_cons_of_mem _ hk)
theorem alikeN (l : List Int) : PySem.W.AlikeAll (l.map .int) := ⟨fun x hx y hy => by
    obtain ⟨a, _, rfl⟩ := List.mem_map.mp hx
    obtain ⟨b, _, rfl⟩ := List.mem_map.mp hy
    rfl, fun x hx => by
    obtain ⟨a, _, rfl⟩ := List.mem_map.mp hx
    exact fun z => nomatch z⟩
theorem maxT (hc : X.calm = true) (hu : X.A.units + 65 < cLine) : CallR X (.builtin "max") (fun xs H Q => ∃ (p : Addr) (ns : List Int), xs = [.ref p] ∧ SqT X.K H p (ns.map V.int) ∧ 0 < ns.length ∧ ∀ m, m ∈ ns → (∀ k ∈ ns, k ≤ m) → Q (.int m) H) := by
  rintro pins s σ H xs us Q I r ⟨p, ns, rfl, ht, h0, h⟩
  obtain ⟨u, rfl, ru⟩ := vals1 r
  obtain rfl : u = Value.ref p := ru
  obtain ⟨its, rv, pt, _⟩ := I.tuple ht
  match ns, h0 with
  | n :: ns, _ =>
    obtain ⟨as, rd⟩ := Dp.readsAll I _ _ _ (dp_ints (n :: ns)) rv
    have dp := dep_ints (n :: ns)
    refine PySem.W.max_tuple_data (vs := its.toArray) (x := .int n) (xs := ns.map .int) (I.ok.hd hc) pt rd (alikeN (n :: ns)) (by rw [List.map_cons] at dp; omega) fun i v h' tk bs _ rd2 k => ?_
    rw [PySem.W.maxD_ints] at rd2
    cases rd2 with
    | int m t =>
      obtain ⟨f1, f2⟩ := fold_max ns n
      exact ⟨.int _, H, I.kept k, ⟨t, rfl⟩, h _ f1 f2⟩
theorem minT (hc : X.calm = true) (hu : X.A.units + 65 < cLine) : CallR X (.builtin "min") (fun xs H Q => ∃ (p : Addr) (ns : List Int), xs = [.ref p] ∧ SqT X.K H p (ns.map V.int) ∧ 0 < ns.length ∧ ∀ m, m ∈ ns → (∀ k ∈ ns, m ≤ k) → Q (.int m) H) := by
  rintro pins s σ H xs us Q I r ⟨p, ns, rfl, ht, h0, h⟩
  obtain ⟨u, rfl, ru⟩ := vals1 r
  obtain rfl : u = Value.ref p := ru
  obtain ⟨its, rv, pt, _⟩ := I.tuple ht
  match ns, h0 with
  | n :: ns, _ =>
    obtain ⟨as, rd⟩ := Dp.readsAll I _ _ _ (dp_ints (n :: ns)) rv
    have dp := dep_ints (n :: ns)
    refine PySem.W.min_tuple_data (vs := its.toArray) (x := .int n) (xs := ns.map .int) (I.ok.hd hc) pt rd (alikeN (n :: ns)) (by rw [List.map_cons] at dp; omega) fun i v h' tk bs _ rd2 k => ?_
    rw [PySem.W.minD_ints] at rd2
    cases rd2 with
    | int m t =>
      obtain ⟨f1, f2⟩ := fold_min ns n
      exact ⟨.int _, H, I.kept k, ⟨t, rfl⟩, h _ f1 f2⟩
theorem lbi (hu : X.A.units + 65 < cLine) (b : Bi) (hc : b.hot = true ∨ X.calm = true) : CallR X b.val (liftA X.K (opBi b)) := by
  rintro pins s σ H xs us Q I r ⟨F, as, S, ra, rs, h⟩
  have hc' : b.hot = false → X.calm = true := fun e => hc.resolve_left (by rw [e]; exact Bool.false_ne_true)
  fun_cases opBi b as S (up X.K F Q) <;> simp only [opBi] at h
  -- abs
  · obtain ⟨x, rfl, r1⟩ := ra.one
    cases r1
    exact call_abs pins s σ H _ us Q I r ⟨_, rfl, up_here h rs rfl⟩
  -- len
  · obtain ⟨x, rfl, r1⟩ := ra.one
    obtain ⟨p, vs, rfl, t, z⟩ := r1
    exact call_len pins s σ H _ us Q I r ⟨_, _, rfl, .inr ⟨vs, t.sq rs.fs, rfl⟩, by rw [← z.length]; exact up_here h rs rfl⟩
  · obtain ⟨x, rfl, r1⟩ := ra.one
    cases r1
    exact call_len pins s σ H _ us Q I r ⟨_, _, rfl, ⟨by rw [← LIM_eq]; exact h.1, rfl⟩, up_here h.2 rs rfl⟩
  · obtain ⟨x, rfl, r1⟩ := ra.one
    obtain ⟨p, l, vs, rfl, t, z, h⟩ := getL_ok rs r1 h
    exact call_len pins s σ H _ us Q I r ⟨_, _, rfl, .inl ⟨vs, rd_sq t, rfl⟩, by rw [← z.length]; exact up_here h rs rfl⟩
  -- max2, min2
  · obtain ⟨x, y, rfl, r1, r2⟩ := ra.two
    cases r1; cases r2
    exact call_max2 (hc' rfl) pins s σ H _ us Q I r ⟨_, _, rfl, up_here h rs rfl⟩
  · obtain ⟨x, y, rfl, r1, r2⟩ := ra.two
    cases r1; cases r2
    exact call_min2 (hc' rfl) pins s σ H _ us Q I r ⟨_, _, rfl, up_here h rs rfl⟩
  · obtain ⟨x, y, rfl, r1, r2⟩ := ra.two
    obtain ⟨ns, ms, rfl, rfl, h⟩ := h
    have r1' := r1
    have r2' := r2
    obtain ⟨p, vs, rfl, t1, z1⟩ := r1
    obtain ⟨q, ws, rfl, t2, z2⟩ := r2
    have e1 := z1.ints
    have e2 := z2.ints
    subst e1 e2
    obtain ⟨u1, u2, rfl, ru1, ru2⟩ := vals2 r
    obtain rfl : u1 = Value.ref p := ru1
    obtain rfl : u2 = Value.ref q := ru2
    refine max2_ok (hc' rfl) hu I (t1.sq rs.fs) (t2.sq rs.fs) (up_here h rs ?_)
    split
    · exact r2'
    · exact r1'
  · obtain ⟨x, y, rfl, r1, r2⟩ := ra.two
    obtain ⟨ns, ms, rfl, rfl, h⟩ := h
    have r1' := r1
    have r2' := r2
    obtain ⟨p, vs, rfl, t1, z1⟩ := r1
    obtain ⟨q, ws, rfl, t2, z2⟩ := r2
    have e1 := z1.ints
    have e2 := z2.ints
    subst e1 e2
    obtain ⟨u1, u2, rfl, ru1, ru2⟩ := vals2 r
    obtain rfl : u1 = Value.ref p := ru1
    obtain rfl : u2 = Value.ref q := ru2
    refine min2_ok (hc' rfl) hu I (t1.sq rs.fs) (t2.sq rs.fs) (up_here h rs ?_)
    split
    · exact r2'
    · exact r1'
  -- int
  · obtain ⟨x, rfl, r1⟩ := ra.one
    cases r1
    exact call_int1 pins s σ H _ us Q I r (.inl ⟨_, rfl, up_here h rs rfl⟩)
  · obtain ⟨x, rfl, r1⟩ := ra.one
    cases r1
    exact call_int1 pins s σ H _ us Q I r (.inr ⟨_, rfl, up_here h rs rfl⟩)
  · obtain ⟨x, rfl, r1⟩ := ra.one
    cases r1
    obtain ⟨n, h1, h2, h⟩ := h
    exact call_int_str pins s σ H _ us Q I r ⟨_, n, rfl, h1, h2, up_here h rs rfl⟩
  -- sorted
  · obtain ⟨x, rfl, r1⟩ := ra.one
    obtain ⟨p, ns, rfl, t, h⟩ := ints_of rs r1 h
    exact cr_sortedI pins s σ H _ us Q I r ⟨p, ns, rfl, t, fun ns' q h1 h2 hq => up_sl (h ns' h1 h2) rs hq .ofInts⟩
  · obtain ⟨x, rfl, r1⟩ := ra.one
    obtain ⟨p, ns, rfl, t, h⟩ := ints_of rs r1 h
    exact cr_sortedI pins s σ H _ us Q I r ⟨p, ns, rfl, t, fun ns' q h1 h2 hq => up_new (h ns' q h1 h2 (rs.free hq)) rs hq (.lst .ofInts)⟩
  -- tuple
  · obtain ⟨x, rfl, r1⟩ := ra.one
    have r1' := r1
    obtain ⟨p, vs, rfl, t, z⟩ := r1
    exact call_tupleT pins s σ H _ us Q I r ⟨p, vs, rfl, t.sq rs.fs, up_here h rs r1'⟩
  · obtain ⟨x, rfl, r1⟩ := ra.one
    obtain ⟨p, l, vs, rfl, t, z, h⟩ := getL_ok rs r1 h
    exact call_tuple_of pins s σ H _ us Q I r ⟨p, vs, rfl, .inl ⟨rd_sq t, fun q hq => up_tup h rs hq z⟩⟩
  -- list
  · obtain ⟨x, rfl, r1⟩ := ra.one
    obtain ⟨p, vs, rfl, t, z⟩ := r1
    exact call_list_of pins s σ H _ us Q I r ⟨p, vs, rfl, .inr (t.sq rs.fs), fun q hq => up_sl h rs hq z⟩
  · obtain ⟨x, rfl, r1⟩ := ra.one
    obtain ⟨p, l, vs, rfl, t, z, h⟩ := getL_ok rs r1 h
    exact call_list_of pins s σ H _ us Q I r ⟨p, vs, rfl, .inl (rd_sq t), fun q hq => up_sl h rs hq z⟩
  · obtain ⟨x, rfl, r1⟩ := ra.one
    obtain ⟨p, vs, rfl, t, z⟩ := r1
    exact call_list_of pins s σ H _ us Q I r ⟨p, vs, rfl, .inr (t.sq rs.fs), fun q hq => up_new (h q (rs.free hq)) rs hq (.lst z)⟩
  · obtain ⟨x, rfl, r1⟩ := ra.one
    obtain ⟨p, l, vs, rfl, t, z, h⟩ := getL_ok rs r1 h
    exact call_list_of pins s σ H _ us Q I r ⟨p, vs, rfl, .inl (rd_sq t), fun q hq => up_new (h q (rs.free hq)) rs hq (.lst z)⟩
  -- str
  · obtain ⟨x, rfl, r1⟩ := ra.one
    cases r1
    exact call_str_int pins s σ H _ us Q I r ⟨_, rfl, h.1, up_here h.2 rs rfl⟩
  -- sum
  · obtain ⟨x, rfl, r1⟩ := ra.one
    obtain ⟨p, ns, rfl, t, h⟩ := ints_of rs r1 h
    exact cr_sum (hc' rfl) pins s σ H _ us Q I r ⟨p, ns, rfl, t, up_here h rs rfl⟩
  -- any, all
  · obtain ⟨x, rfl, r1⟩ := ra.one
    obtain ⟨p, l, vs, rfl, t, z, bs, rfl, h⟩ := getL_ok rs r1 h
    have e := z.bls
    subst e
    exact cr_any (hc' rfl) pins s σ H _ us Q I r ⟨p, bs, rfl, rd_sq t, up_here h rs rfl⟩
  · obtain ⟨x, rfl, r1⟩ := ra.one
    obtain ⟨p, l, vs, rfl, t, z, bs, rfl, h⟩ := getL_ok rs r1 h
    have e := z.bls
    subst e
    exact cr_all (hc' rfl) pins s σ H _ us Q I r ⟨p, bs, rfl, rd_sq t, up_here h rs rfl⟩
  -- max1, min1
  · obtain ⟨x, rfl, r1⟩ := ra.one
    obtain ⟨ns, rfl, h⟩ := h
    obtain ⟨p, vs, rfl, t, z⟩ := r1
    have e := z.ints
    subst e
    exact maxT (hc' rfl) hu pins s σ H _ us Q I r ⟨p, ns, rfl, t.sq rs.fs, h.1, fun m h1 h2 => up_here (h.2 m h1 h2) rs rfl⟩
  · obtain ⟨x, rfl, r1⟩ := ra.one
    obtain ⟨ns, rfl, h⟩ := h
    obtain ⟨p, vs, rfl, t, z⟩ := r1
    have e := z.ints
    subst e
    exact minT (hc' rfl) hu pins s σ H _ us Q I r ⟨p, ns, rfl, t.sq rs.fs, h.1, fun m h1 h2 => up_here (h.2 m h1 h2) rs rfl⟩
  · obtain ⟨x, rfl, r1⟩ := ra.one
    obtain ⟨p, ns, rfl, t, h⟩ := ints_of rs r1 h
    exact cr_max (hc' rfl) pins s σ H _ us Q I r ⟨p, ns, rfl, t, h.1, fun m h1 h2 => up_here (h.2 m h1 h2) rs rfl⟩
  · obtain ⟨x, rfl, r1⟩ := ra.one
    obtain ⟨p, ns, rfl, t, h⟩ := ints_of rs r1 h
    exact cr_min (hc' rfl) pins s σ H _ us Q I r ⟨p, ns, rfl, t, h.1, fun m h1 h2 => up_here (h.2 m h1 h2) rs rfl⟩
  -- divmod
  · obtain ⟨x, y, rfl, r1, r2⟩ := ra.two
    cases r1; cases r2
    exact call_divmodX pins s σ H _ us Q I r ⟨_, _, rfl, h.1, fun p hp => up_tup h.2 rs hp ⟨_, _, rfl, rfl, _, _, rfl, rfl, rfl⟩⟩
def Ty.ty : Ty → String
  | .bool => "bool" | .int => "int" | .tuple => "tuple" | .list => "list" | .str => "str"
theorem tyIs_of {K : PySem.W.Frag} {F H : Hp} {S : Store} {a : Val} {x : V} {P : Bool → Prop} {t : Ty} (s : RS K F H S) (ra : RV K F a x) (h : tyIs t a S P) : ∃ (n : Value) (b : Bool), TyX K H x n ∧ PySem.W.kitOne K n (.type t.ty) = some b ∧ P b := by
  have kt : ∀ (n : String) (b : Bool), kitB n t.ty = some b → PySem.W.kitOne K (.type n) (.type t.ty) = some b := fun n b e => kit_ty e
  cases a with
  | exc a => exact h.elim
  | clo a _ => exact h.elim
  | ins a _ => exact h.elim
  | non => simp only [tyIs] at h; cases ra; exact ⟨_, _, .base .non, kt _ false (by cases t <;> decide +kernel), h⟩
  | bl b => simp only [tyIs] at h; cases ra; exact ⟨_, _, .base (.bl _), kt _ (t == .bool || t == .int) (by cases t <;> decide +kernel), h⟩
  | int i => simp only [tyIs] at h; cases ra; exact ⟨_, _, .base (.int _), kt _ (t == .int) (by cases t <;> decide +kernel), h⟩
  | str i => simp only [tyIs] at h; cases ra; exact ⟨_, _, .base (.str _), kt _ (t == .str) (by cases t <;> decide +kernel), h⟩
  | tup l =>
    simp only [tyIs] at h
    obtain ⟨p, vs, rfl, z, _⟩ := ra
    exact ⟨_, _, .base (.tup (s.fs _ _ z)), kt _ (t == .tuple) (by cases t <;> decide +kernel), h⟩
  | sl l =>
    simp only [tyIs] at h
    obtain ⟨p, vs, rfl, z, _⟩ := ra
    rcases z.rd s.fs with z | ⟨o, z⟩
    · exact ⟨_, _, .base (.lst z), kt _ (t == .list) (by cases t <;> decide +kernel), h⟩
    · exact ⟨_, _, .base (.frz z), kt _ (t == .list) (by cases t <;> decide +kernel), h⟩
  | ref a =>
    simp only [tyIs] at h
    split at h
    · rename_i e
      obtain ⟨vs, z, _⟩ := (s.st _ _ e).2
      cases ra
      exact ⟨_, _, .base (.lst z), kt _ (t == .list) (by cases t <;> decide +kernel), h⟩
    · exact h.elim
end
end BW
set_option Elab.async false
set_option linter.all false
set_option maxRecDepth 100000
set_option maxHeartbeats 4000000
namespace BW
open PySem PySem.Spec PyProof.Rows L2
/-! ### what is walked -/
structure Wk (K : PySem.W.Frag) (Gd : Store → Prop) (items : List Val) (J : It) (F0 : Hp) : Prop where
  go : ∀ F H S (i : Nat), FS F0 F → RS K F H S → Gd S → i < items.length → J.go i H
  stop : ∀ F H S, FS F0 F → RS K F H S → Gd S → J.stop items.length H
  yld : ∀ F H S (i : Nat) x H' v, FS F0 F → RS K F H S → Gd S → J.yld i H x H' → items[i]? = some v → ∃ F', FS F F' ∧ RS K F' H' S ∧ RV K F' v x
theorem _root_.L2.PI.imp {X : Cx} {tg it : Expr} {wi wi' : TI} (h : PI X tg it wi) (k : ∀ σ H R, wi' σ H R → wi σ H R) : PI X tg it wi' := ⟨fun pins s σ H R I q => h.run pins s σ H R I (k _ _ _ q)⟩
theorem _root_.L2.PE.imp {X : Cx} {e : Expr} {t t' : TE} (h : PE X e t) (k : ∀ σ H Q, t' σ H Q → t σ H Q) : PE X e t' := ⟨fun pins s σ H Q I q => h.run pins s σ H Q I (k _ _ _ q)⟩
theorem _root_.L2.PT.imp {X : Cx} {e : Expr} {t t' : TT} (h : PT X e t) (k : ∀ σ H Q, t' σ H Q → t σ H Q) : PT X e t' := ⟨fun pins s σ H Q I q => h.run pins s σ H Q I (k _ _ _ q)⟩
theorem _root_.L2.PA.imp {X : Cx} {e : List Expr} {t t' : TA} (h : PA X e t) (k : ∀ σ H Q, t' σ H Q → t σ H Q) : PA X e t' := ⟨fun pos pins s σ H Q I q => h.run pos pins s σ H Q I (k _ _ _ q)⟩
theorem _root_.L2.PS.imp {X : Cx} {e : Stmt} {t t' : TS} (h : PS X e t) (k : ∀ D σ H, t' D σ H → t D σ H) : PS X e t' := ⟨fun pins s σ H D I q => h.run pins s σ H D I (k _ _ _ q)⟩
theorem _root_.L2.PSs.imp {X : Cx} {e : List Stmt} {t t' : TS} (h : PSs X e t) (k : ∀ D σ H, t' D σ H → t D σ H) : PSs X e t' := ⟨fun pins s σ H D I q => h.run pins s σ H D I (k _ _ _ q)⟩
section
variable {K : PySem.W.Frag} {F0 : Hp}
theorem lstAt_sq {S : Store} {F H : Hp} {x : Val} {v : V} {l : List Val} (r : RV K F0 x v) (t : FS F0 F) (s : RS K F H S) (h : LstAt S x l) : ∃ a vs, v = .ref a ∧ SqL K H a vs ∧ RVs K F l vs := by
  obtain ⟨a, vs, e, q, z⟩ := (r.mono t).list s h
  exact ⟨a, vs, e, rd_sq q, z⟩
theorem wk_list {x : Val} {a : Addr} {l : List Val} (r : RV K F0 x (.ref a)) : Wk K (fun S => LstAt S x l) l (Itl K a) F0 where
  go := fun F H S i t s g hi => by
    obtain ⟨b, vs, e, q, z⟩ := lstAt_sq r t s g
    cases e
    obtain ⟨u, h1, _⟩ := z.get (List.getElem?_eq_getElem hi)
    exact ⟨vs, u, q, h1⟩
  stop := fun F H S t s g => by
    obtain ⟨b, vs, e, q, z⟩ := lstAt_sq r t s g
    cases e
    exact ⟨vs, q, by rw [z.length]; exact Nat.le_refl _⟩
  yld := fun F H S i y H' v t s g h hv => by
    obtain ⟨b, vs, e, q, z⟩ := lstAt_sq r t s g
    cases e
    obtain ⟨rfl, h⟩ := h
    obtain ⟨u, h1, h2⟩ := z.get hv
    have e2 := h vs q
    rw [h1] at e2
    cases e2
    exact ⟨F, .refl, s, h2⟩
theorem wk_tup {l : List Val} {a : Addr} {vs : List V} (q0 : TupAt F0 a vs) (z0 : RVs K F0 l vs) : Wk K (fun _ => True) l (Itt K a) F0 where
  go := fun F H S i t s g hi => by
    obtain ⟨u, h1, _⟩ := (z0.mono t).get (List.getElem?_eq_getElem hi)
    exact ⟨vs, u, ((q0.mono t).sq s.fs), h1⟩
  stop := fun F H S t s g => ⟨vs, ((q0.mono t).sq s.fs), by rw [z0.length]; exact Nat.le_refl _⟩
  yld := fun F H S i y H' v t s g h hv => by
    obtain ⟨rfl, h⟩ := h
    obtain ⟨u, h1, h2⟩ := (z0.mono t).get hv
    have e2 := h vs ((q0.mono t).sq s.fs)
    rw [h1] at e2
    cases e2
    exact ⟨F, .refl, s, h2⟩
theorem wk_range {lo : Int} {n : Nat} : Wk K (fun _ => True) ((List.range n).map fun k => .int (lo + (k : Nat))) (Itr lo n) F0 where
  go := fun F H S i t s g hi => by
    have : i < n := by simpa using hi
    exact this
  stop := fun F H S t s g => by
    have : n ≤ ((List.range n).map fun k => Val.int (lo + (k : Nat))).length := by simp
    exact this
  yld := fun F H S i y H' v t s g h hv => by
    obtain ⟨rfl, rfl⟩ := h
    rw [List.getElem?_map] at hv
    cases e : (List.range n)[i]? with
    | none => rw [e] at hv; cases hv
    | some k =>
      rw [e] at hv
      obtain ⟨h1, h2⟩ := List.getElem?_eq_some_iff.mp e
      rw [List.getElem_range] at h2
      subst h2
      cases hv
      exact ⟨F, .refl, s, rfl⟩
theorem wk_rangeC {lo c : Int} {n : Nat} : Wk K (fun _ => True) ((List.range n).map fun k => .int (lo + (k : Nat) * c)) (Itc lo c n) F0 where
  go := fun F H S i t s g hi => by
    have : i < n := by simpa using hi
    exact this
  stop := fun F H S t s g => by
    have : n ≤ ((List.range n).map fun k => Val.int (lo + (k : Nat) * c)).length := by simp
    exact this
  yld := fun F H S i y H' v t s g h hv => by
    obtain ⟨rfl, rfl⟩ := h
    rw [List.getElem?_map] at hv
    cases e : (List.range n)[i]? with
    | none => rw [e] at hv; cases hv
    | some k =>
      rw [e] at hv
      obtain ⟨h1, h2⟩ := List.getElem?_eq_some_iff.mp e
      rw [List.getElem_range] at h2
      subst h2
      cases hv
      exact ⟨F, .refl, s, rfl⟩
theorem wk_enum {x : Val} {a : Addr} {l : List Val} (r : RV K F0 x (.ref a)) : Wk K (fun S => LstAt S x l) (l.zipIdx.map fun p => .tup [.int (p.2 : Nat), p.1]) (Ite K a) F0 where
  go := fun F H S i t s g hi => by
    obtain ⟨b, vs, e, q, z⟩ := lstAt_sq r t s g
    cases e
    have hi' : i < l.length := by simpa using hi
    obtain ⟨u, h1, _⟩ := z.get (List.getElem?_eq_getElem hi')
    exact ⟨vs, u, q, h1⟩
  stop := fun F H S t s g => by
    obtain ⟨b, vs, e, q, z⟩ := lstAt_sq r t s g
    cases e
    exact ⟨vs, q, by rw [← z.length]; simp⟩
  yld := fun F H S i y H' v t s g h hv => by
    obtain ⟨b, vs, e, q, z⟩ := lstAt_sq r t s g
    cases e
    obtain ⟨T, u, rfl, hT, rfl, h⟩ := h
    rw [List.getElem?_map, List.getElem?_zipIdx] at hv
    cases e : l[i]? with
    | none => rw [e] at hv; cases hv
    | some w =>
      rw [e] at hv
      have hv' : some (Val.tup [.int ((0 + i : Nat)), w]) = some v := hv
      cases hv'
      obtain ⟨u', h1, h2⟩ := z.get e
      have e2 := h vs q
      rw [h1] at e2
      cases e2
      refine ⟨_, .new (s.freeF hT), s.newF hT, ⟨T, _, rfl, upd_same, ⟨_, _, rfl, ?_, _, _, rfl, h2.mono (.new (s.freeF hT)), rfl⟩⟩⟩
      show V.int _ = V.int _
      rw [Nat.zero_add]
theorem wk_zip {x y : Val} {a b : Addr} {l m : List Val} (r : RV K F0 x (.ref a)) (r2 : RV K F0 y (.ref b)) : Wk K (fun S => LstAt S x l ∧ LstAt S y m) ((l.zip m).map fun p => .tup [p.1, p.2]) (Itz K a b) F0 where
  go := fun F H S i t s g hi => by
    obtain ⟨b, vs, e, q, z⟩ := lstAt_sq r t s g.1
    cases e
    obtain ⟨b, us, e, q2, z2⟩ := lstAt_sq r2 t s g.2
    cases e
    have hi' : i < l.length ∧ i < m.length := by
      rw [List.length_map, List.length_zip] at hi
      omega
    obtain ⟨u, h1, _⟩ := z.get (List.getElem?_eq_getElem hi'.1)
    obtain ⟨w, h2, _⟩ := z2.get (List.getElem?_eq_getElem hi'.2)
    exact ⟨vs, us, u, w, q, q2, h1, h2⟩
  stop := fun F H S t s g => by
    obtain ⟨b, vs, e, q, z⟩ := lstAt_sq r t s g.1
    cases e
    obtain ⟨b, us, e, q2, z2⟩ := lstAt_sq r2 t s g.2
    cases e
    refine ⟨vs, us, q, q2, ?_⟩
    rw [← z.length, ← z2.length, List.length_map, List.length_zip]
    omega
  yld := fun F H S i w H' v t s g h hv => by
    obtain ⟨b, vs, e, q, z⟩ := lstAt_sq r t s g.1
    cases e
    obtain ⟨b, us, e, q2, z2⟩ := lstAt_sq r2 t s g.2
    cases e
    obtain ⟨T, u, u2, rfl, hT, rfl, h, h'⟩ := h
    rw [List.getElem?_map] at hv
    cases e : (l.zip m)[i]? with
    | none => rw [e] at hv; cases hv
    | some p =>
      rw [e] at hv
      have hv' : some (Val.tup [p.1, p.2]) = some v := hv
      cases hv'
      rw [List.getElem?_zip_eq_some] at e
      obtain ⟨w1, h1, h2⟩ := z.get e.1
      obtain ⟨w2, h3, h4⟩ := z2.get e.2
      have e2 := h vs q
      rw [h1] at e2
      cases e2
      have e3 := h' us q2
      rw [h3] at e3
      cases e3
      exact ⟨_, .new (s.freeF hT), s.newF hT, ⟨T, _, rfl, upd_same, ⟨_, _, rfl, h2.mono (.new (s.freeF hT)), _, _, rfl, h4.mono (.new (s.freeF hT)), rfl⟩⟩⟩
theorem wk_rev {x : Val} {a : Addr} {l : List Val} (r : RV K F0 x (.ref a)) : Wk K (fun S => LstAt S x l) l.reverse (Itv K a l.length) F0 where
  go := fun F H S i t s g hi => by
    obtain ⟨b, vs, e, q, z⟩ := lstAt_sq r t s g
    cases e
    have hi' : i < l.length := by simpa using hi
    obtain ⟨u, h1, _⟩ := z.get (List.getElem?_eq_getElem (show l.length - 1 - i < l.length by omega))
    exact ⟨hi', vs, u, q, h1⟩
  stop := fun F H S t s g => by
    show l.length ≤ l.reverse.length
    simp
  yld := fun F H S i y H' v t s g h hv => by
    obtain ⟨b, vs, e, q, z⟩ := lstAt_sq r t s g
    cases e
    obtain ⟨rfl, h⟩ := h
    have hl : i < l.length := by
      have := (List.getElem?_eq_some_iff.mp hv).1
      simpa using this
    rw [List.getElem?_reverse hl] at hv
    obtain ⟨u, h1, h2⟩ := z.get hv
    have e2 := h vs q
    rw [h1] at e2
    cases e2
    exact ⟨F, .refl, s, h2⟩
end
section
variable {X : Cx} {tg : Expr}
/-- a list or a tuple, by its value -/
theorem pi_seq {l : Expr} {tl : TE} (hl : PE X l tl) : PI X tg l (fun σ H R => tl σ H fun x H1 => ∃ a, x = .ref a ∧ (((∃ xs, SqL X.K H1 a xs) ∧ R (Itl X.K a) H1) ∨ ((∃ xs, SqT X.K H1 a xs) ∧ R (Itt X.K a) H1))) := by
  refine ⟨fun pins s σ H R I h => ?_⟩
  refine thn (hl.run pins s σ H _ I h) fun v s1 ⟨x, H1, I1, r1, a, e, q⟩ => ?_
  subst e
  cases r1
  have kp : ∀ (ob : Obj) b o, s1.heap.get? b = some o → (s1.heap.push ob).get? b = some o := fun ob b o z => Heap.get?_push_of_some _ z
  have fr : ∀ b ∈ [s1.heap.objs.size], FpOk X pins H1 b := fun b hb => by
    rw [List.mem_singleton.mp hb]
    exact I1.fpOk (Nat.le_refl _) (I1.hok.fresh (Nat.le_refl _))
  rcases q with ⟨⟨xs, hq⟩, q⟩ | ⟨⟨xs, hq⟩, q⟩
  · obtain ⟨its, _, p, _⟩ := I1.list hq
    exact wpAny_pyIter_list p.isList ⟨_, [s1.heap.objs.size], _, _, H1, rfl, I1.kept (t' := s1.toks) (kp _), turn_list a _, ⟨_, Heap.get?_push_size _ rfl, rfl, rfl⟩, fr, q⟩
  · obtain ⟨its, _, p, _⟩ := I1.tuple hq
    exact wpAny_pyIter_tuple (show s1.heap.IsTuple a its.toArray from p) ⟨_, [s1.heap.objs.size], _, _, H1, rfl, I1.kept (t' := s1.toks) (kp _), turn_tuple a _, ⟨_, Heap.get?_push_size _ rfl, rfl, rfl⟩, fr, q⟩
end
end BW
set_option Elab.async false
set_option linter.all false
set_option maxRecDepth 100000
set_option maxHeartbeats 4000000
namespace BW
open PySem PySem.Spec PyProof.Rows L2
/-! ### from the text to the syntax -/
structure Cc where
  N : List Str
  sc : Scope
  fns : List ((Str × Nat) × (Nat × List Val))
  cst : List (Str × Val)
  st : List Str
  hot : Bool := false
  /-- the exceptions that are raised, by name -/
  exs : List (Str × Nat) := []
  /-- the exceptions with fields: their number, the fields -/
  exo : List ((Str × Nat) × (Nat × List Nat)) := []
  /-- the classes that are made: the name and how many arguments; the class, whether it changes later, the defaults -/
  mks : List ((Str × Nat) × (Nat × Bool × List Val)) := []
  /-- the classes of isinstance, of the clauses of a try -/
  cls : List (Str × Nat) := []
  /-- C.__init__(self, ..) -/
  sups : List (Str × Nat) := []
  /-- the names whose lists change -/
  mtb : List Str := []
  /-- the names that hold dicts -/
  dic : List Str := []
  dT : Bool := false
  /-- the name of the caught error -/
  exv : Option Str := none
def ixOf (x : Str) : List Str → Option Nat
  | [] => none
  | y :: r => if x = y then some 0 else (ixOf x r).map (· + 1)
theorem ixOf_ok {x : Str} : ∀ {l : List Str} {i : Nat}, ixOf x l = some i → l[i]? = some x
  | [], _, h => by cases h
  | y :: r, i, h => by
    unfold ixOf at h
    split at h
    · cases h; rename_i e; rw [e]; rfl
    · cases e : ixOf x r with
      | none => rw [e] at h; cases h
      | some j => rw [e] at h; cases h; exact (ixOf_ok (l := r) e)
def bopIn : Operator → Option Bop
  | .Add => some .add | .Sub => some .sub | .Mult => some .mul | .FloorDiv => some .fdiv | .Mod => some .mod | .Pow => some .pow
  | _ => none
theorem bopIn_ok {o : Operator} {b : Bop} (h : bopIn o = some b) : bopOf b = o := by
  cases o <;> first | (cases h; rfl) | cases h
def copIn : CmpOp → Cop
  | .Eq => .eq | .NotEq => .ne | .Lt => .lt | .LtE => .le | .Gt => .gt | .GtE => .ge | .Is => .is | .IsNot => .isnot | .In => .in_ | .NotIn => .notin
theorem copIn_ok (o : CmpOp) : copOf (copIn o) = o := by cases o <;> rfl
def constIn : Const → Option Val
  | .none => some .non
  | .bool b => some (.bl b)
  | .int i => some (.int i)
  | .str x => some (.str x)
  | _ => none
def biTab : List ((Str × Nat) × Bi) := [(("abs", 1), .abs), (("len", 1), .len), (("max", 2), .max2), (("min", 2), .min2), (("int", 1), .int), (("sorted", 1), .sorted), (("tuple", 1), .tuple), (("list", 1), .list), (("str", 1), .str), (("sum", 1), .sum), (("max", 1), .max1), (("min", 1), .min1), (("any", 1), .any), (("all", 1), .all), (("divmod", 2), .divmod)]
def tyTab : List (Str × Ty) := [("bool", .bool), ("int", .int), ("tuple", .tuple), ("list", .list), ("str", .str)]
def dbg : Str := "__debug__"
def okName (x : Str) : Bool := !(x == dbg) && !(x == ("__classdict__" : Str)) && !(x == ("__name__" : Str))
def isSlice : Expr → Bool
  | .Slice _ _ _ _ => true
  | _ => false
def cL (f : Expr → Option Ex) : List Expr → Option Ex
  | [] => some .nil
  | e :: es => match f e, cL f es with
    | some a, some as => some (.cons a as)
    | _, _ => none
def cO (f : Expr → Option Ex) : Option Expr → Option Ex
  | none => some .nil
  | some e => (f e).map fun a => .cons a .nil
def cB (f : Expr → Option Ex) (mk : Ex → Ex → Ex) : List Expr → Option Ex
  | [] => none
  | [e] => f e
  | e :: es => match f e, cB f mk es with
    | some a, some b => some (mk a b)
    | _, _ => none
def cName (C : Cc) (x : Str) : Option Ex := match okName x with
  | false => none
  | true => match C.sc.names.lookup x with
    | some .globalImplicit => (C.cst.lookup x).map .lit
    | some .local => (ixOf x C.N).map .var
    | some .cell => (ixOf x C.N).map .var
    | some .free => (ixOf x C.N).map .var
    | _ => none
def isGl (C : Cc) (x : Str) : Bool := okName x && decide (C.sc.names.lookup x = some .globalImplicit)
def fix (x : Str) : Nat := (ixOf x nmT).getD 99
/-- the class that a name stands for -/
def clsOf (C : Cc) (x : Str) : Option Nat := match isGl C x with
  | true => C.cls.lookup x
  | false => none
def clsesOf (C : Cc) : List Expr → Option (List Nat)
  | [] => some []
  | .Name x _ :: r => match clsOf C x, clsesOf C r with
    | some i, some is => some (i :: is)
    | _, _ => none
  | _ => none
/-- isinstance(a, T) -/
def cIs (C : Cc) (f : Expr → Option Ex) : List Expr → Option Ex
  | [.Name a p, .Name t p2] => match decide (C.exv = some a) with
    | true => match ixOf a C.N, clsOf C t, (C.sc.names.lookup a == some .local) && okName a with
      | some i, some c, true => some (.exis i [c])
      | _, _, _ => none
    | false => match C.cls.lookup t with
      | some c => match isGl C t, f (.Name a p) with
        | true, some x => some (.iscl x c)
        | _, _ => none
      | none => match isGl C t && decide (C.fns.lookup (t, 1) = none), tyTab.lookup t, f (.Name a p) with
        | true, some ty, some x => some (.isty x ty)
        | _, _, _ => none
  | [.Name a p, .Tuple es _ _] => match decide (C.exv = some a) && decide (es.length ≤ 1000) with
    | true => match ixOf a C.N, clsesOf C es, (C.sc.names.lookup a == some .local) && okName a with
      | some i, some (c :: cs), true => some (.exis i (c :: cs))
      | _, _, _ => none
    | false => none
  | [a, .Name t _] => match isGl C t && decide (C.fns.lookup (t, 1) = none), tyTab.lookup t, f a with
    | true, some ty, some x => some (.isty x ty)
    | _, _, _ => none
  | _ => none
def cCall (C : Cc) (f : Expr → Option Ex) (x : Str) (args : List Expr) : Option Ex := match isGl C x with
  | false => none
  | true => match x == ("isinstance" : Str) with
    | true => cIs C f args
    | false => match C.mks.lookup (x, args.length) with
      | some q => match C.hot, cL f args with
        | false, some as => some (.new q.1 q.2.1 as q.2.2)
        | _, _ => none
      | none => match C.fns.lookup (x, args.length) with
        | some q => match C.hot, cL f args with
          | false, some as => some (.call q.1 as q.2)
          | _, _ => none
        | none => match biTab.lookup (x, args.length), cL f args with
          | some b, some as => match b.hot || !C.hot with
            | true => some (.blt b as)
            | false => none
          | _, _ => none
/-- a call without arguments -/
def cCall0 (C : Cc) (x : Str) : Option Ex := match isGl C x, C.hot, C.fns.lookup (x, 0) with
  | true, false, some q => some (.call q.1 .nil q.2)
  | _, _, _ => none
def baseOk : Expr → Bool
  | .Call (.Name _ _) [] _ _ => false
  | _ => true
/-- the methods of own classes -/
def isMeth (m : Str) : Bool := decide (19 ≤ fix m ∧ fix m < nmT.length)
/-- is it a dict that is asked -/
def isDicE (C : Cc) : Expr → Bool
  | .Name x _ => C.dic.contains x
  | _ => false
/-- o.m(..) -/
def cMeth (C : Cc) (f : Expr → Option Ex) (o : Expr) (m : Str) (args : List Expr) (ln : Bool) : Option Ex := match ln && decide (args.length < 29) with
  | false => none
  | true => match o with
    | .Name x p => match isGl C x with
      | true => match m == ("__init__" : Str), C.hot, C.sups.lookup x, args, cL f args with
        | true, false, some c, _ :: _, some as => some (.sup c 0 as)
        | _, _, _, _, _ => none
      | false => match isMeth m, C.hot, f (.Name x p), cL f args with
        | true, false, some y, some as => some (.meth y (fix m) as)
        | _, _, _, _ => none
    | _ => match isMeth m && baseOk o, C.hot, f o, cL f args with
      | true, false, some y, some as => some (.meth y (fix m) as)
      | _, _, _, _ => none
/-- o.f -/
def cFld (C : Cc) (f : Expr → Option Ex) (o : Expr) (n : Str) : Option Ex := match decide (fix n < nmT.length) && baseOk o with
  | false => none
  | true => match o with
    | .Name x p => match decide (C.exv = some x) with
      | true => match ixOf x C.N, (C.sc.names.lookup x == some .local) && okName x with
        | some i, true => some (.exfl i (fix n))
        | _, _ => none
      | false => (f (.Name x p)).map fun y => .fld y (fix n)
    | _ => (f o).map fun y => .fld y (fix n)
def cTn (C : Cc) (x : Str) : Option Nat := match C.sc.names.lookup x with
  | some .local => ixOf x C.N
  | some .cell => if C.st.contains x then ixOf x C.N else none
  | _ => none
def cTns (C : Cc) : List Expr → Option (List Nat)
  | [] => some []
  | .Name x _ :: r => match cTn C x, cTns C r with
    | some i, some is => some (i :: is)
    | _, _ => none
  | _ => none
def cTg (C : Cc) : Expr → Option Tg
  | .Name x _ => (cTn C x).map .nm
  | .Tuple es _ _ => match C.hot with
    | false => (cTns C es).map .tp
    | true => none
  | _ => none
def Tg.slots : Tg → List Nat
  | .nm i => [i]
  | .tp is => is
def isTup : Expr → Bool
  | .Tuple _ _ _ => true
  | _ => false
def isSet : Expr → Bool
  | .Set _ _ _ => true
  | _ => false
/-- what a loop walks -/
def cIt (C : Cc) (f : Expr → Option Ex) (tup : Bool) (e : Expr) : Option (ItK × Ex) := match e with
  | .Call (.Name x _) [a] [] _ => match isGl C x && decide (C.fns.lookup (x, 1) = none), f a with
    | true, some y => match x == ("range" : Str), x == ("enumerate" : Str), x == ("reversed" : Str) with
      | true, _, _ => some (.range, .cons y .nil)
      | false, true, _ => match tup with
        | true => some (.enum, .cons y .nil)
        | false => none
      | false, false, true => some (.rev, .cons y .nil)
      | false, false, false => (f e).map fun z => (.seq, .cons z .nil)
    | _, _ => (f e).map fun z => (.seq, .cons z .nil)
  | .Call (.Name x _) [a, b] [] _ => match isGl C x && decide (C.fns.lookup (x, 2) = none), f a, f b with
    | true, some y, some z => match x == ("range" : Str), x == ("zip" : Str) with
      | true, _ => some (.range, .cons y (.cons z .nil))
      | false, true => match tup with
        | true => some (.zip, .cons y (.cons z .nil))
        | false => none
      | false, false => (f e).map fun z => (.seq, .cons z .nil)
    | _, _, _ => (f e).map fun z => (.seq, .cons z .nil)
  | .Call (.Name x _) [a, b, c] [] _ => match isGl C x && decide (C.fns.lookup (x, 3) = none), f a, f b, f c with
    | true, some y, some z, some u => match x == ("range" : Str) with
      | true => some (.range, .cons y (.cons z (.cons u .nil)))
      | false => (f e).map fun z => (.seq, .cons z .nil)
    | _, _, _, _ => (f e).map fun z => (.seq, .cons z .nil)
  | _ => match isSet e with
    | true => none
    | false => (f e).map fun z => (.seq, .cons z .nil)
def ownOf (C : Cc) (scope : Scope) : List (Str × Nat) := scope.names.filterMap fun q => match q.2 with
  | .local => (ixOf q.1 C.N).map fun i => (q.1, i)
  | .cell => (ixOf q.1 C.N).map fun i => (q.1, i)
  | _ => none
def blkCc (C : Cc) (scope : Scope) : Cc := { C with sc := relS scope C.sc, st := (scope.names.filter fun q => q.2 == .cell).map (·.1) }
/-! ### plain forms -/
def plainE : Expr → Bool
  | .Starred _ _ => false
  | .Slice _ _ _ _ => false
  | .Set _ _ _ => false
  | _ => true
/-- what is not known here stands for a place that is never come to -/
def orDead (e : Expr) : Option Ex → Option Ex
  | some x => some x
  | none => match plainE e with
    | true => some .nil
    | false => none
theorem orDead_some {e : Expr} {o : Option Ex} {x : Ex} (h : orDead e o = some x) : o = some x ∨ (x = .nil ∧ plainE e = true) := by
  unfold orDead at h
  split at h
  · exact .inl h
  · split at h
    · cases h; exact .inr ⟨rfl, ‹_›⟩
    · cases h
def cE : Nat → Cc → Expr → Option Ex
  | 0, _, _ => none
  | n + 1, C, e => orDead e (match e with
    | .Name x _ => cName C x
    | .Constant c _ _ => (constIn c).map .lit
    | .BinOp a op b _ => match bopIn op, cE n C a, cE n C b with
      | some o, some x, some y => some (.bin o x y)
      | _, _, _ => none
    | .UnaryOp .USub a _ => (cE n C a).map .neg
    | .UnaryOp .Not a _ => (cE n C a).map .nott
    | .BoolOp .And (a :: b :: r) _ => cB (cE n C) .andd (a :: b :: r)
    | .BoolOp .Or (a :: b :: r) _ => cB (cE n C) .orr (a :: b :: r)
    | .Compare a [op] [b] _ => match isDicE C b && (op == .In || op == .NotIn), cE n C a, cE n C b with
      | false, some x, some y => some (.cmp (copIn op) x y)
      | true, some x, some y => some (.din (op == .NotIn) x y)
      | _, _, _ => none
    | .Compare a [op, op'] [b, c] _ => match cE n C a, cE n C b, cE n C c with
      | some x, some y, some z => some (.chain (copIn op) (copIn op') x y z)
      | _, _, _ => none
    | .IfExp t a b _ => match cE n C t, cE n C a, cE n C b with
      | some x, some y, some z => some (.ife x y z)
      | _, _, _ => none
    | .Call (.Name x _) (a :: as) [] _ => cCall C (cE n C) x (a :: as)
    | .Call (.Name x _) [] [] _ => cCall0 C x
    | .Call (.Attribute o m apos) args [] cpos => cMeth C (cE n C) o m args (apos.endLine == cpos.line)
    | .Attribute o m _ => cFld C (cE n C) o m
    | .Dict [] [] _ => some (.dnew C.dT)
    | .Subscript a (.Slice lo hi none _) _ => match cE n C a, cO (cE n C) lo, cO (cE n C) hi with
      | some x, some l, some h => some (.slc false x l h)
      | _, _, _ => none
    | .Subscript a i _ => match isSlice i, isDicE C a, cE n C a, cE n C i with
      | false, false, some x, some y => some (.idx x y)
      | false, true, some x, some y => some (.dget x y)
      | _, _, _, _ => none
    | .List es _ => match decide (es.length ≤ 1000), cL (cE n C) es with
      | true, some as => some (.lst false as)
      | _, _ => none
    | .Tuple es _ _ => match decide (es.length ≤ 1000), cL (cE n C) es with
      | true, some as => some (.tup as)
      | _, _ => none
    | .ListComp elt [⟨tg, iter, ifs, 0⟩] scope _ => match C.hot || !blkC C.N C.sc scope (ownOf C scope) || isSet iter with
      | true => none
      | false => match cIt C (cE n C) (isTup tg) iter, cTg (blkCc C scope) tg, cE n (blkCc C scope) elt with
        | some (k, as), some g, some x => if (g.slots.all fun i => ((ownOf C scope).map (·.2)).contains i) = true then match ifs with
          | [] => some (.comp false ((ownOf C scope).map (·.2)) g k as false .nil x)
          | [c] => (cE n (blkCc C scope) c).map fun y => .comp false ((ownOf C scope).map (·.2)) g k as true y x
          | _ => none
          else none
        | _, _, _ => none
    | _ => none)
/-! ### the contracts in the layer's words -/
structure EE where
  F0 : Hp
  p : Exn → Ev → Store → Prop
section
variable (K : PySem.W.Frag) (T : Tb)
/-- what an exception carries -/
def RX (F : Hp) (cls : Value) (d : Option Addr) (x : Exn) : Prop := cls = .ref (ca K x.c) ∧ ((x.fs = [] ∧ d = none) ∨ ∃ dd gs, d = some dd ∧ F dd = some (.xd gs) ∧ RVf K F x.fs gs)
def spOf (c : Spec) : Sp := fun vs H Q E => ∃ F as S, RVs K F as vs ∧ RS K F H S ∧ (c as S).pre ∧ (∀ v S', (c as S).ret v S' → up K F Q v S') ∧ ∀ x S', (c as S).exn x S' → ∀ cls d F' H', FS F F' → RS K F' H' S' → RX K F' cls d x → E cls d H'
def WX (E : EE) : L2.WX := fun cls d σ H => ∃ x F env S, FS E.F0 F ∧ RX K F cls d x ∧ RE K F env σ ∧ RS K F H S ∧ E.p x env S
def TE (e : Ex) (E : EE) : L2.TE := fun σ H Q => ∃ F env S, FS E.F0 F ∧ RE K F env σ ∧ RS K F H S ∧ wE T e env S (up K F Q) fun x S' => E.p x env S'
def TT (e : Ex) (E : EE) : L2.TT := fun σ H Q => ∃ F env S, FS E.F0 F ∧ RE K F env σ ∧ RS K F H S ∧ wT T e env S (upB K F Q) fun x S' => E.p x env S'
def upA (F : Hp) (Q : List V → Hp → Prop) : List Val → Store → Prop := fun vs S' => ∀ zs F' H', FS F F' → RS K F' H' S' → RVs K F' vs zs → Q zs H'
def TA (e : Ex) (E : EE) : L2.TA := fun σ H Q => ∃ F env S, FS E.F0 F ∧ RE K F env σ ∧ RS K F H S ∧ wA T e env S (upA K F Q) fun x S' => E.p x env S'
def upO (F : Hp) (Q : Option Int → Hp → Prop) : Option Int → Store → Prop := fun o S' => ∀ F' H', FS F F' → RS K F' H' S' → Q o H'
def TO (e : Ex) (E : EE) : L2.TO := fun σ H Q => ∃ F env S, FS E.F0 F ∧ RE K F env σ ∧ RS K F H S ∧ wO T e env S (upO K F Q) fun x S' => E.p x env S'
end
/-- the def x, called with n values: it keeps its contract -/
def FnIn (P : Program) (w : World) (K : PySem.W.Frag) (mg : Str → Option Value) (base : Heap) (k : Nat) (x : Str) (c : Spec) (d : List Val) : Prop :=
  ∃ addr fd ps ds dV, FnOk P w K mg base (L2.CX P w) k addr fd ps (spOf K c) ∧ mg x = some (.ref addr) ∧ PySem.W.keepIn K (.ref addr) = true ∧ Binds K fd ps ds ∧ Vals dV ds ∧ ∀ F, RVs K F d dV
theorem FnIn.mono {P : Program} {w : World} {K : PySem.W.Frag} {mg : Str → Option Value} {base : Heap} {j k : Nat} {x : Str} {c : Spec} {d : List Val} (h : FnIn P w K mg base j x c d) (l : j ≤ k) : FnIn P w K mg base k x c d := by
  obtain ⟨addr, fd, ps, ds, dV, h1, h2⟩ := h
  exact ⟨addr, fd, ps, ds, dV, h1.mono l, h2⟩
/-- the method m of the class c -/
def MtIn (P : Program) (w : World) (K : PySem.W.Frag) (mg : Str → Option Value) (base : Heap) (k : Nat) (c m : Nat) (sp : Spec) : Prop :=
  ∃ addr fd ps, FnOk P w K mg base (L2.CX P w) k addr fd ps (spOf K sp) ∧ Cls K (ca K c) ∧ Meth K (ca K c) (nm m) addr ∧ Binds K fd ps []
theorem MtIn.mono {P : Program} {w : World} {K : PySem.W.Frag} {mg : Str → Option Value} {base : Heap} {j k : Nat} {c m : Nat} {sp : Spec} (h : MtIn P w K mg base j c m sp) (l : j ≤ k) : MtIn P w K mg base k c m sp := by
  obtain ⟨addr, fd, ps, h1, h2⟩ := h
  exact ⟨addr, fd, ps, h1.mono l, h2⟩
/-- the class c, made by its __init__ -/
def MkIn (P : Program) (w : World) (K : PySem.W.Frag) (mg : Str → Option Value) (base : Heap) (k : Nat) (x : Str) (c : Nat) (sp : Spec) (d : List Val) : Prop :=
  ∃ addr fd ps ds dV, FnOk P w K mg base (L2.CX P w) k addr fd ps (spOf K sp) ∧ mg x = some (.ref (ca K c)) ∧ Mk K (ca K c) addr ∧ Binds K fd ps ds ∧ Vals dV ds ∧ ∀ F, RVs K F d dV
theorem MkIn.mono {P : Program} {w : World} {K : PySem.W.Frag} {mg : Str → Option Value} {base : Heap} {j k : Nat} {x : Str} {c : Nat} {sp : Spec} {d : List Val} (h : MkIn P w K mg base j x c sp d) (l : j ≤ k) : MkIn P w K mg base k x c sp d := by
  obtain ⟨addr, fd, ps, ds, dV, h1, h2⟩ := h
  exact ⟨addr, fd, ps, ds, dV, h1.mono l, h2⟩
/-- C.__init__, read off the class -/
def SuIn (P : Program) (w : World) (K : PySem.W.Frag) (mg : Str → Option Value) (base : Heap) (k : Nat) (x : Str) (c : Nat) (sp : Spec) : Prop :=
  ∃ addr fd ps mc, FnOk P w K mg base (L2.CX P w) k addr fd ps (spOf K sp) ∧ mg x = some (.ref (ca K c)) ∧ ClX.CRead K (ca K c) mc ∧ PySem.W.findCls K (.ref (ca K c)) mc "__init__" = some (.val (.ref addr)) ∧ PySem.W.keepIn K (.ref addr) = true ∧ Binds K fd ps []
theorem SuIn.mono {P : Program} {w : World} {K : PySem.W.Frag} {mg : Str → Option Value} {base : Heap} {j k : Nat} {x : Str} {c : Nat} {sp : Spec} (h : SuIn P w K mg base j x c sp) (l : j ≤ k) : SuIn P w K mg base k x c sp := by
  obtain ⟨addr, fd, ps, mc, h1, h2⟩ := h
  exact ⟨addr, fd, ps, mc, h1.mono l, h2⟩
def bltNames : List Str := biTab.map (·.1.1) ++ tyTab.map (·.1) ++ (["isinstance", "range", "enumerate", "zip", "reversed", "ValueError"] : List Str)
/-- the value of the class c: 99 is ValueError -/
def cvl (K : PySem.W.Frag) (c : Nat) : Value := if c = 99 then .type "ValueError" else .ref (ca K c)
/-- the class that a name stands for -/
def NamesC (X : Cx) (x : Str) (c : Nat) : Prop := (X.mg x = some (.ref (ca X.K c)) ∧ c ≠ 99) ∨ (X.mg x = none ∧ x = "ValueError" ∧ c = 99)
/-- what the caught error's class must say -/
structure ExIs (K : PySem.W.Frag) (C : Addr) : Prop where
  e : ExcC K C
  gg : PySem.W.findIn K (.ref C) "__getattr__" = some none
structure CtxOk (T : Tb) (C : Cc) (X : Cx) : Prop where
  hN : X.N = C.N
  nd : C.N.Nodup
  sc : X.env.scope = C.sc
  calm : C.hot = false → X.calm = true
  noex : C.hot = false → T.ex = none
  room : C.hot = false → ∃ k, Room k X.A ∧ (∀ q ∈ C.fns, FnIn X.prog X.w X.K X.mg X.base k q.1.1 (T.fn q.2.1) q.2.2) ∧
    (∀ c m g, T.mt c m = some g → MtIn X.prog X.w X.K X.mg X.base k c m (T.fn g)) ∧
    (∀ q ∈ C.mks, ∃ g j, T.mkr q.2.1 = some g ∧ j + 1 = k ∧ MkIn X.prog X.w X.K X.mg X.base j q.1.1 q.2.1 (T.fn g) q.2.2.2) ∧
    (∀ q ∈ C.sups, ∃ g, T.mkr q.2 = some g ∧ SuIn X.prog X.w X.K X.mg X.base k q.1 q.2 (T.fn g))
  un : X.A.units + 65 < cLine
  cst : ∀ q ∈ C.cst, ∃ u v, X.mg q.1 = some u ∧ RelV v u ∧ ∀ F, RV X.K F q.2 v
  blt : ∀ x ∈ bltNames, X.mg x = none
  st : ∀ x ∈ C.st, X.fn x = true
  kind : C.sc.kind = .function
  exs : ∀ q ∈ C.exs, X.mg q.1 = some (.ref (ca X.K q.2)) ∧ PySem.W.excIn X.K (ca X.K q.2) He.veBase "ValueError.__new__" = true ∧ PySem.W.keepIn X.K (.ref (ca X.K q.2)) = true ∧ Raises X (.ref (ca X.K q.2))
  fl : ∀ c f, T.fl c f = true → if c < 9 then Cls X.K (ca X.K c) ∧ NoAttr X.K (ca X.K c) (nm f) else XfC X.K (ca X.K c) ∧ PySem.W.findIn X.K (.ref (ca X.K c)) (nm f) = some none
  cls : ∀ q ∈ C.cls, NamesC X q.1 q.2
  isc : ∀ c d b, T.isc c d = some b → PySem.W.kitOne X.K (.ref (ca X.K c)) (cvl X.K d) = some b ∧ if c < 9 then C8.InsC X.K (ca X.K c) else ExIs X.K (ca X.K c)
  exm : ∀ c d b, T.exm c d = some b → PySem.W.exmOne X.K (.ref (ca X.K c)) (cvl X.K d) = some b
end BW
set_option Elab.async false
set_option linter.all false
set_option maxRecDepth 100000
set_option maxHeartbeats 4000000
namespace BW
open PySem PySem.Spec PyProof.Rows L2
section
variable {X : Cx} {T : Tb} {C : Cc}
theorem up_tm {K : PySem.W.Frag} {F F' : Hp} {Q : VK} {v : Val} {S : Store} (t : FS F F') (h : up K F Q v S) : up K F' Q v S := fun z F2 H2 t2 s r => h z F2 H2 (t.trans t2) s r
theorem upB_tm {K : PySem.W.Frag} {F F' : Hp} {Q : Bool → Hp → Prop} {v : Bool} {S : Store} (t : FS F F') (h : upB K F Q v S) : upB K F' Q v S := fun F2 H2 t2 s => h F2 H2 (t.trans t2) s
theorem upA_tm {K : PySem.W.Frag} {F F' : Hp} {Q : List V → Hp → Prop} {v : List Val} {S : Store} (t : FS F F') (h : upA K F Q v S) : upA K F' Q v S := fun z F2 H2 t2 s r => h z F2 H2 (t.trans t2) s r
/-- truth and value -/
def TVal (S : Store) : Val → Bool → Prop
  | .non, b => b = false
  | .bl c, b => b = c
  | .int i, b => b = (i != 0)
  | .str x, b => x.length ≤ LIM ∧ b = ((x.length : Int) != 0)
  | .tup l, b => b = !l.isEmpty
  | .ref a, b => ∃ l, S a = some (.lst l) ∧ b = !l.isEmpty
  | .sl l, b => b = !l.isEmpty
  | .exc _, _ => False
  | .ins _ _, _ => False
  | .clo _ _, _ => False
theorem tru_iff {x : Val} {S : Store} {P : Bool → Prop} : tru x S P ↔ ∃ b, TVal S x b ∧ P b := by
  cases x with
  | exc a => exact ⟨fun h => h.elim, fun ⟨_, h, _⟩ => h.elim⟩
  | ins a l => exact ⟨fun h => h.elim, fun ⟨_, h, _⟩ => h.elim⟩
  | clo a l => exact ⟨fun h => h.elim, fun ⟨_, h, _⟩ => h.elim⟩
  | str z => exact ⟨fun h => ⟨_, ⟨h.1, rfl⟩, h.2⟩, fun ⟨b, e, h⟩ => ⟨e.1, e.2 ▸ h⟩⟩
  | ref a =>
    simp only [tru, getL_iff]
    constructor
    · rintro ⟨l, ⟨c, e, hl⟩ | e, h⟩
      · cases e; exact ⟨_, ⟨l, hl, rfl⟩, h⟩
      · cases e
    · rintro ⟨b, ⟨l, hl, rfl⟩, h⟩
      exact ⟨l, .inl ⟨a, rfl, hl⟩, h⟩
  | _ => exact ⟨fun h => ⟨_, rfl, h⟩, fun ⟨b, e, h⟩ => by cases e; exact h⟩
theorem tru_twice {x : Val} {S : Store} {A B : Prop} {Q : Bool → Prop} (h : tru x S fun t => if t = true then A else Q false) (k : A → B) : tru x S fun t => if t = true then B else tru x S fun t' => Q t' := by
  rw [tru_iff] at h ⊢
  obtain ⟨b, e, h⟩ := h
  refine ⟨b, e, ?_⟩
  cases b with
  | true => exact k h
  | false =>
    rw [if_neg Bool.false_ne_true, tru_iff]
    exact ⟨_, e, h⟩
theorem tru_twice' {x : Val} {S : Store} {A B : Prop} {Q : Bool → Prop} (h : tru x S fun t => if t = true then Q true else A) (k : A → B) : tru x S fun t => if t = true then (tru x S fun t' => Q t') else B := by
  rw [tru_iff] at h ⊢
  obtain ⟨b, e, h⟩ := h
  refine ⟨b, e, ?_⟩
  cases b with
  | false => exact k h
  | true =>
    rw [if_pos rfl, tru_iff]
    exact ⟨_, e, h⟩
theorem wT_wE : ∀ (e : Ex) {env : Ev} {S : Store} {Q : Bool → Store → Prop} {E : Exn → Store → Prop}, wT T e env S Q E → wE T e env S (fun v S' => tru v S' fun t => Q t S') E
  | .var i, _, _, _, _, h => h
  | .lit v, _, _, _, _, h => h
  | .bin o a b, _, _, _, _, h => h
  | .neg a, _, _, _, _, h => h.elim
  | .nott a, _, _, _, _, h => h
  | .cmp o a b, _, _, _, _, h => h
  | .chain o1 o2 a b c, _, _, _, _, h => h
  | .andd a b, _, _, _, _, h => by
    rw [wT_andd] at h
    rw [wE_andd]
    exact wE_mono a (fun _ _ h => tru_twice h (wT_wE b)) (fun _ _ z => z) (wT_wE a h)
  | .orr a b, _, _, _, _, h => by
    rw [wT_orr] at h
    rw [wE_orr]
    exact wE_mono a (fun _ _ h => tru_twice' h (wT_wE b)) (fun _ _ z => z) (wT_wE a h)
  | .ife t a b, _, _, _, _, h => h.elim
  | .nil, _, _, _, _, h => h.elim
  | .cons _ _, _, _, _, _, h => h.elim
  | .tup as, _, _, _, _, h => h.elim
  | .lst m as, _, _, _, _, h => h.elim
  | .idx a i, _, _, _, _, h => h
  | .slc m a lo hi, _, _, _, _, h => h.elim
  | .fld a f, _, _, _, _, h => h
  | .call f as d, _, _, _, _, h => h
  | .meth a m as, _, _, _, _, h => h
  | .new c m as d, _, _, _, _, h => h.elim
  | .sup c m as, _, _, _, _, h => h.elim
  | .blt b as, _, _, _, _, h => h
  | .isty a t, _, _, _, _, h => h
  | .iscl a c, _, _, _, _, h => h
  | .exis i c, _, _, _, _, h => h
  | .exfl i c, _, _, _, _, h => h
  | .dnew t, _, _, _, _, h => h.elim
  | .dget d k, _, _, _, _, h => h
  | .din n k d, _, _, _, _, h => h
  | .dget2 d k x, _, _, _, _, h => h.elim
  | .dpop d k, _, _, _, _, h => h.elim
  | .sm m a as, _, _, _, _, h => h
  | .clo k as, _, _, _, _, h => h.elim
  | .ccall f as, _, _, _, _, h => h.elim
  | .comp m own g kk as hc cond elt, _, _, _, _, h => h.elim
theorem kindOf_eq {X : Cx} (h : X.env.scope = C.sc) (x : Str) : X.env.kindOf x = C.sc.names.lookup x := by
  show X.env.scope.names.lookup x = _
  rw [h]
theorem okName_ok {x : Str} (h : okName x = true) : (x == ("__debug__" : Str)) = false ∧ (x == ("__classdict__" : Str)) = false ∧ x ≠ "__name__" := by
  unfold okName at h
  simp only [Bool.and_eq_true, Bool.not_eq_true'] at h
  exact ⟨h.1.1, h.1.2, beq_eq_false_iff_ne.mp h.2⟩
theorem isGl_ok {x : Str} (O : CtxOk T C X) (h : isGl C x = true) : L2.Gl X x ∧ (x == ("__debug__" : Str)) = false ∧ x ≠ "__name__" := by
  unfold isGl at h
  rw [Bool.and_eq_true] at h
  have z := okName_ok h.1
  exact ⟨(kindOf_eq O.sc x).trans (of_decide_eq_true h.2), z.1, z.2.2⟩
theorem var_pe {x : Str} {i : Nat} {pos : Pos} {E : EE} (O : CtxOk T C X) (hx : okName x = true) (e : ixOf x C.N = some i) (v : Vis X.env.scope x) : PE X (.Name x pos) (TE X.K T (.var i) E) := by
  have z := okName_ok hx
  refine (pe_var (i := i) (by rw [O.hN]; exact ixOf_ok e) v z.1 z.2.1).imp ?_
  rintro σ H Q ⟨F, env, S, f0, re, rs, v, ev, h⟩
  obtain ⟨u, e1, r⟩ := re.2 i v ev
  exact ⟨u, e1, up_here h rs r⟩
theorem name_pe {x : Str} {ex : Ex} {pos : Pos} {E : EE} (O : CtxOk T C X) (h : cName C x = some ex) : PE X (.Name x pos) (TE X.K T ex E) := by
  unfold cName at h
  split at h
  · cases h
  · rename_i hx
    split at h
    · rename_i hl
      cases e : C.cst.lookup x with
      | none => rw [e] at h; cases h
      | some v =>
        rw [e] at h
        cases h
        obtain ⟨u, z, h1, h2, h3⟩ := O.cst (x, v) (PySem.mem_of_lookup e)
        refine (pe_glob (v := z) ((kindOf_eq O.sc x).trans hl) h1 h2 (okName_ok hx).1).imp ?_
        rintro σ H Q ⟨F, env, S, f0, re, rs, h⟩
        exact up_here h rs (h3 F)
    all_goals first
      | (rename_i hl
         cases e : ixOf x C.N with
         | none => rw [e] at h; cases h
         | some i =>
           rw [e] at h
           cases h
           refine var_pe O hx e ?_
           rw [← O.sc] at hl
           first | exact .inl hl | exact .inr (.inl hl) | exact .inr (.inr hl))
      | cases h
theorem const_pe {c : Const} {v : Val} {k : Nat} {pos : Pos} {E : EE} (h : constIn c = some v) : PE X (.Constant c k pos) (TE X.K T (.lit v) E) := by
  cases c <;> first
    | (cases h; exact pe_int.imp fun σ H Q ⟨_, _, _, _, _, rs, h⟩ => up_here h rs rfl)
    | (cases h; exact pe_bl.imp fun σ H Q ⟨_, _, _, _, _, rs, h⟩ => up_here h rs rfl)
    | (cases h; exact pe_non.imp fun σ H Q ⟨_, _, _, _, _, rs, h⟩ => up_here h rs rfl)
    | (cases h; exact pe_str.imp fun σ H Q ⟨_, _, _, _, _, rs, h⟩ => up_here h rs rfl)
    | cases h
/-- where a part is gone through: what never changes, the names, the store -/
structure At (K : PySem.W.Frag) (E : EE) (F : Hp) (env : Ev) (σ : St) (H : Hp) (S : Store) : Prop where
  f0 : FS E.F0 F
  re : RE K F env σ
  rs : RS K F H S
theorem At.next {K : PySem.W.Frag} {E : EE} {F F' : Hp} {env : Ev} {σ : St} {H H' : Hp} {S S' : Store} (a : At K E F env σ H S) (t : FS F F') (s : RS K F' H' S') : At K E F' env σ H' S' := ⟨a.f0.trans t, a.re.mono t, s⟩
/-- one part, two parts, one operation -/
theorem TE.one {a : Ex} {E : EE} {σ : St} {H : Hp} {f : Val → Store → Prop} {R : V → Hp → Prop} {F : Hp} {env : Ev} {S : Store} (A : At X.K E F env σ H S) (h : wE T a env S f fun x S' => E.p x env S')
    (k : ∀ x S1 u F1 H1, FS F F1 → At X.K E F1 env σ H1 S1 → RV X.K F1 x u → f x S1 → R u H1) : TE X.K T a E σ H R :=
  ⟨F, env, S, A.f0, A.re, A.rs, wE_mono a (fun x S1 h1 u F1 H1 t1 s1 r1 => k x S1 u F1 H1 t1 (A.next t1 s1) r1 h1) (fun _ _ z => z) h⟩
theorem TE.two {a b : Ex} {E : EE} {σ : St} {H : Hp} {f : Val → Val → Store → Prop} {R : V → V → Hp → Prop} {F : Hp} {env : Ev} {S : Store} (A : At X.K E F env σ H S)
    (h : wE T a env S (fun x S1 => wE T b env S1 (fun y S2 => f x y S2) fun x S' => E.p x env S') fun x S' => E.p x env S')
    (k : ∀ x y S2 u v F2 H2, FS F F2 → At X.K E F2 env σ H2 S2 → RV X.K F2 x u → RV X.K F2 y v → f x y S2 → R u v H2) : TE X.K T a E σ H fun u H1 => TE X.K T b E σ H1 fun v H2 => R u v H2 :=
  TE.one A h fun x S1 u F1 H1 t1 A1 r1 h1 => TE.one A1 h1 fun y S2 v F2 H2 t2 A2 r2 h2 => k x y S2 u v F2 H2 (t1.trans t2) A2 (r1.mono t2) r2 h2
theorem TE.at {e : Ex} {E : EE} {σ : St} {H : Hp} {Q : VK} (h : TE X.K T e E σ H Q) : ∃ F env S, At X.K E F env σ H S ∧ wE T e env S (up X.K F Q) fun x S' => E.p x env S' :=
  let ⟨F, env, S, f0, re, rs, h⟩ := h
  ⟨F, env, S, ⟨f0, re, rs⟩, h⟩
theorem TT.at {e : Ex} {E : EE} {σ : St} {H : Hp} {Q : Bool → Hp → Prop} (h : TT X.K T e E σ H Q) : ∃ F env S, At X.K E F env σ H S ∧ wT T e env S (upB X.K F Q) fun x S' => E.p x env S' :=
  let ⟨F, env, S, f0, re, rs, h⟩ := h
  ⟨F, env, S, ⟨f0, re, rs⟩, h⟩
theorem TT.one {a : Ex} {E : EE} {σ : St} {H : Hp} {f : Bool → Store → Prop} {R : Bool → Hp → Prop} {F : Hp} {env : Ev} {S : Store} (A : At X.K E F env σ H S) (h : wT T a env S f fun x S' => E.p x env S')
    (k : ∀ x S1 F1 H1, FS F F1 → At X.K E F1 env σ H1 S1 → f x S1 → R x H1) : TT X.K T a E σ H R :=
  ⟨F, env, S, A.f0, A.re, A.rs, wT_mono a (fun x S1 h1 F1 H1 t1 s1 => k x S1 F1 H1 t1 (A.next t1 s1) h1) (fun _ _ z => z) h⟩
theorem TA.one {as : Ex} {E : EE} {σ : St} {H : Hp} {f : List Val → Store → Prop} {R : List V → Hp → Prop} {F : Hp} {env : Ev} {S : Store} (A : At X.K E F env σ H S) (h : wA T as env S f fun x S' => E.p x env S')
    (k : ∀ xs S1 us F1 H1, FS F F1 → At X.K E F1 env σ H1 S1 → RVs X.K F1 xs us → f xs S1 → R us H1) : TA X.K T as E σ H R :=
  ⟨F, env, S, A.f0, A.re, A.rs, wA_mono as (fun x S1 h1 u F1 H1 t1 s1 r1 => k x S1 u F1 H1 t1 (A.next t1 s1) r1 h1) (fun _ _ z => z) h⟩
theorem TA.at {e : Ex} {E : EE} {σ : St} {H : Hp} {Q : List V → Hp → Prop} (h : TA X.K T e E σ H Q) : ∃ F env S, At X.K E F env σ H S ∧ wA T e env S (upA X.K F Q) fun x S' => E.p x env S' :=
  let ⟨F, env, S, f0, re, rs, h⟩ := h
  ⟨F, env, S, ⟨f0, re, rs⟩, h⟩
theorem bin_pe {a b : Expr} {x y : Ex} {o : Bop} {pos : Pos} {E : EE} (ha : PE X a (TE X.K T x E)) (hb : PE X b (TE X.K T y E)) : PE X (.BinOp a (bopOf o) b pos) (TE X.K T (.bin o x y) E) := by
  refine (pe_op (lop o) ha hb).imp ?_
  intro σ H Q h
  obtain ⟨F, env, S, A, h⟩ := h.at
  exact TE.two A h fun v w S2 z u F2 H2 t A2 r1 r2 q => ⟨F2, v, w, S2, r1, r2, A2.rs, opB_mono (fun _ _ => up_tm t) q⟩
theorem idx_pe {a i : Expr} {x y : Ex} {pos : Pos} {E : EE} (hs : isSlice i = false) (ha : PE X a (TE X.K T x E)) (hb : PE X i (TE X.K T y E)) : PE X (.Subscript a i pos) (TE X.K T (.idx x y) E) := by
  have pl : PlainIx i := fun _ _ => by cases i <;> first | rfl | cases hs
  refine (pe_ix lix ha hb pl).imp ?_
  intro σ H Q h
  obtain ⟨F, env, S, A, h⟩ := h.at
  exact TE.two A h fun v w S2 z u F2 H2 t A2 r1 r2 q => ⟨F2, v, w, S2, r1, r2, A2.rs, opIx_mono (fun _ _ => up_tm t) q⟩
theorem cmp_pe {a b : Expr} {x y : Ex} {o : CmpOp} {pos : Pos} {E : EE} (O : CtxOk T C X) (hm : behindInMarks o b = false) (ha : PE X a (TE X.K T x E)) (hb : PE X b (TE X.K T y E)) :
    PE X (.Compare a [o] [b] pos) (TE X.K T (.cmp (copIn o) x y) E) ∧ PT X (.Compare a [o] [b] pos) (TT X.K T (.cmp (copIn o) x y) E) := by
  have l := loc (X := X) O.un (copIn o)
  rw [copIn_ok] at l
  refine ⟨(pe_cmpR l ha hb hm).imp ?_, (pt_cmpR l ha hb hm).imp ?_⟩
  · intro σ H Q h
    obtain ⟨F, env, S, A, h⟩ := h.at
    exact TE.two A h fun v w S2 z u F2 H2 t A2 r1 r2 q => ⟨F2, v, w, S2, r1, r2, A2.rs, opC_mono (fun k (q : up X.K F Q (.bl k) S2) F3 H3 t3 s3 => q _ _ _ (t.trans t3) s3 rfl) q⟩
  · intro σ H Q h
    obtain ⟨F, env, S, A, h⟩ := h.at
    exact TE.two A h fun v w S2 z u F2 H2 t A2 r1 r2 q => ⟨F2, v, w, S2, r1, r2, A2.rs, opC_mono (fun k (q : upB X.K F Q k S2) F3 H3 t3 s3 => ⟨k, rfl, q _ _ (t.trans t3) s3⟩) q⟩
end
end BW
set_option Elab.async false
set_option linter.all false
set_option maxRecDepth 100000
set_option maxHeartbeats 4000000
namespace BW
open PySem PySem.Spec PyProof.Rows L2
section
variable {X : Cx} {T : Tb} {C : Cc}
def exLen : Ex → Nat
  | .cons _ as => exLen as + 1
  | _ => 0
theorem wA_len : ∀ (as : Ex) {env : Ev} {S : Store} {Q : List Val → Store → Prop} {E : Exn → Store → Prop}, wA T as env S Q E → wA T as env S (fun vs S' => vs.length = exLen as ∧ Q vs S') E
  | .nil, _, _, _, _, h => ⟨rfl, h⟩
  | .cons a as, _, _, _, _, h => by
    rw [wA_cons] at h ⊢
    exact wE_mono a (fun x S1 h => wA_mono as (fun vs S2 h => ⟨congrArg (· + 1) h.1, h.2⟩) (fun _ _ z => z) (wA_len as h)) (fun _ _ z => z) h
theorem cL_len {f : Expr → Option Ex} : ∀ {es : List Expr} {as : Ex}, cL f es = some as → exLen as = es.length
  | [], _, h => by cases h; rfl
  | e :: es, _, h => by
    unfold cL at h
    split at h
    · cases h
      rename_i h2
      show exLen _ + 1 = _
      rw [cL_len h2]; rfl
    · cases h
theorem cE_plain {n : Nat} {e : Expr} {x : Ex} (h : cE n C e = some x) : plainE e = true := by
  cases n with
  | zero => cases h
  | succ n => cases e <;> first | rfl | cases h
theorem star_cons {e : Expr} {es : List Expr} {env : Env} (h : plainE e = true) : starEach (e :: es) env = (false, eval e env) :: starEach es env := by
  cases e <;> first | rfl | cases h
theorem star_any {pos : Pos} {env : Env} : ∀ {es : List Expr}, (∀ e ∈ es, plainE e = true) → (backTo pos (starEach es env)).any (·.1) = false
  | [], _ => rfl
  | e :: es, h => by
    rw [star_cons (h e List.mem_cons_self)]
    show (false || (backTo pos (starEach es env)).any (·.1)) = false
    rw [star_any fun a ha => h a (List.mem_cons_of_mem _ ha)]
    rfl
theorem mark_plain {e : Expr} {o : CmpOp} (h : plainE e = true) : behindInMarks o e = false := by
  cases e <;> first | rfl | cases h
theorem fold_plain {e : Expr} {env : Env} (h : isSet e = false) : ∀ x, foldedSetIterable e env x = pure x := by
  intro x
  cases e <;> first | rfl | cases h
/-- the argument list -/
theorem args_pa {f : Expr → Option Ex} {E : EE} : ∀ {es : List Expr} {as : Ex}, cL f es = some as → (∀ e ∈ es, ∀ x, f e = some x → plainE e = true ∧ PE X e (TE X.K T x E)) → PA X es (TA X.K T as E) ∧ ∀ e ∈ es, plainE e = true
  | [], _, h, _ => by
    cases h
    exact ⟨pa_nil.imp fun σ H Q ⟨F, env, S, _, re, rs, h⟩ => h [] F H .refl rs rfl, fun e he => by cases he⟩
  | e :: es, _, h, k => by
    unfold cL at h
    split at h
    · cases h
      rename_i a as h1 h2
      obtain ⟨p, he⟩ := k e List.mem_cons_self a h1
      obtain ⟨hr, hp⟩ := args_pa h2 fun e he => k e (List.mem_cons_of_mem _ he)
      refine ⟨(pa_cons he hr (star_cons p)).imp ?_, fun e' he' => (List.mem_cons.mp he').elim (fun z => z ▸ p) (hp e')⟩
      intro σ H Q h
      obtain ⟨F, env, S, A, h⟩ := h.at
      exact TE.one A h fun x S1 u F1 H1 t1 A1 r1 h1 => TA.one A1 h1 fun vs S2 us F2 H2 t2 A2 r2 h2 => h2 _ _ _ (t1.trans t2) A2.rs ⟨u, us, rfl, r1.mono t2, r2⟩
    · cases h
theorem part_po {f : Expr → Option Ex} {E : EE} {e : Option Expr} {a : Ex} (h : cO f e = some a) (k : ∀ b x, e = some b → f b = some x → PE X b (TE X.K T x E)) : PO X e (TO X.K T a E) := by
  cases e with
  | none =>
    cases h
    refine ⟨fun pins s σ H Q I h => po_none.run pins s σ H Q I ?_⟩
    obtain ⟨F, env, S, _, re, rs, h⟩ := h
    exact h F H .refl rs
  | some b =>
    unfold cO at h
    dsimp only at h
    cases q : f b with
    | none => rw [q] at h; cases h
    | some x =>
      rw [q] at h
      cases h
      refine ⟨fun pins s σ H Q I h => (po_some (k b x rfl q)).run pins s σ H Q I ?_⟩
      obtain ⟨F, env, S, f0, re, rs, h⟩ := h
      refine TE.one ⟨f0, re, rs⟩ h fun y S1 u F1 H1 t1 A1 r1 h1 => ?_
      unfold optI at h1
      split at h1
      · exact ⟨_, r1, h1 _ _ t1 A1.rs⟩
      · exact h1.elim
/-- where the exceptions go -/
abbrev TakesB (X : Cx) (E : EE) : Prop := Takes X (WX X.K E)
/-- f(..): the callee's contract -/
theorem wCall_sp {f : Nat} {vs d : List Val} {S : Store} {F H : Hp} {Q : VK} {E : EE} {env : Ev} {σ : St} {us dV : List V} (A : At X.K E F env σ H S) (r : RVs X.K F vs us) (rd : RVs X.K F d dV)
    (h : wCall T f (vs ++ d) S (up X.K F Q) fun x S' => E.p x env S') : spOf X.K (T.fn f) (us ++ dV) H Q (WE (WX X.K E) σ) :=
  ⟨F, vs ++ d, S, r.append rd, A.rs, h.1, h.2.1, fun x S' q cls dd F' H' t s rx => ⟨x, F', env, S', A.f0.trans t, rx, A.re.mono t, s, h.2.2 x S' q⟩⟩
theorem call_pe {f : Nat} {d : List Val} {x : Str} {e : Expr} {es : List Expr} {as : Ex} {p pos : Pos} {E : EE} {k : Nat} (hr : Room k X.A) (Fn : FnIn X.prog X.w X.K X.mg X.base k x (T.fn f) d) (tk : TakesB X E) (hg : L2.Gl X x) (hd : (x == ("__debug__" : Str)) = false)
    (ha : PA X (e :: es) (TA X.K T as E)) (hp : ∀ a ∈ e :: es, plainE a = true) : PE X (.Call (.Name x p) (e :: es) [] pos) (TE X.K T (.call f as d) E) := by
  obtain ⟨addr, fd, ps, ds, dV, F, hm, hk, hb, hv, hdV⟩ := Fn
  refine (pe_callSD (E := WE (WX X.K E)) F hr hg hm hk hb hv (fun σ => passAt tk σ) ha hd (star_cons (hp e List.mem_cons_self)) (star_any fun a h => hp a (List.mem_cons_of_mem _ h))).imp ?_
  intro σ H Q h
  obtain ⟨F, env, S, A, h⟩ := h.at
  exact TA.one A h fun vs S1 us F1 H1 t1 A1 r1 h1 => wCall_sp A1 r1 (hdV F1) (wCall_mono (fun _ _ => up_tm t1) (fun _ _ z => z) h1)
theorem mem_blt {x : Str} (h : x ∈ bltNames) (O : CtxOk T C X) : X.mg x = none := O.blt x h
theorem lkMem {α β : Type} [BEq α] [LawfulBEq α] {a : α} {b : β} : ∀ {l : List (α × β)}, l.lookup a = some b → (a, b) ∈ l
  | [], h => by cases h
  | (x, y) :: r, h => by
    unfold List.lookup at h
    split at h
    · rename_i e
      cases h
      rw [beq_iff_eq.mp e]
      exact List.mem_cons_self
    · exact List.mem_cons_of_mem _ (lkMem h)
theorem boot_bi : ∀ b : Bi, bootBuiltins b.nm = some b.val := by intro b; cases b <;> decide +kernel
theorem lookup_bi {x : Str} {n : Nat} {b : Bi} (h : biTab.lookup (x, n) = some b) : x = b.nm ∧ x ∈ bltNames := by
  have hm := lkMem h
  refine ⟨?_, List.mem_append_left _ (List.mem_append_left _ (List.mem_map.mpr ⟨_, hm, rfl⟩))⟩
  revert hm
  unfold biTab
  intro hm
  simp only [List.mem_cons, Prod.mk.injEq, List.not_mem_nil, or_false] at hm
  rcases hm with h | h | h | h | h | h | h | h | h | h | h | h | h | h | h <;> (obtain ⟨⟨rfl, _⟩, rfl⟩ := h; rfl)
theorem blt_pe {b : Bi} {x : Str} {e : Expr} {es : List Expr} {as : Ex} {p pos : Pos} {E : EE} {n : Nat} (O : CtxOk T C X) (hl : biTab.lookup (x, n) = some b) (hc : (b.hot || !C.hot) = true) (hg : isGl C x = true)
    (ha : PA X (e :: es) (TA X.K T as E)) (hp : ∀ a ∈ e :: es, plainE a = true) : PE X (.Call (.Name x p) (e :: es) [] pos) (TE X.K T (.blt b as) E) := by
  obtain ⟨g1, g2, g3⟩ := isGl_ok O hg
  obtain ⟨ex, em⟩ := lookup_bi hl
  have hm := O.blt x em
  have hc' : b.hot = true ∨ X.calm = true := by
    cases q : b.hot with
    | true => exact .inl rfl
    | false =>
      rw [q] at hc
      refine .inr (O.calm ?_)
      cases z : C.hot with
      | true => rw [z] at hc; cases hc
      | false => rfl
  have hv := boot_bi b
  rw [← ex] at hv
  have cr := lbi (X := X) O.un b hc'
  have key : ∀ σ H Q, TE X.K T (.blt b as) E σ H Q → tCB (liftA X.K (opBi b)) (TA X.K T as E) σ H Q := by
    intro σ H Q h
    obtain ⟨F, env, S, A, h⟩ := h.at
    exact TA.one A h fun vs S1 us F1 H1 t1 A1 r1 h1 => ⟨F1, vs, S1, r1, A1.rs, opBi_mono (fun _ _ => up_tm t1) h1⟩
  have s1 := star_cons (es := es) (env := X.env) (hp e List.mem_cons_self)
  have s2 := star_any (pos := pos) (env := X.env) fun a h => hp a (List.mem_cons_of_mem e h)
  cases b <;> first
    | exact (pe_callB cr g1 hm hv ha g3 g2 s1 s2).imp key
    | exact (pe_callTy cr g1 hm hv ha g3 g2 s1 s2).imp key
theorem lookup_ty {x : Str} {t : Ty} (h : tyTab.lookup x = some t) : bootBuiltins x = some (.type t.ty) ∧ x ∈ bltNames := by
  have hm := lkMem h
  refine ⟨?_, List.mem_append_left _ (List.mem_append_right _ (List.mem_map.mpr ⟨_, hm, rfl⟩))⟩
  revert hm
  unfold tyTab
  intro hm
  simp only [List.mem_cons, Prod.mk.injEq, List.not_mem_nil, or_false] at hm
  rcases hm with h | h | h | h | h <;> (obtain ⟨rfl, rfl⟩ := h; decide +kernel)
theorem isty_pe {x : Str} {a : Expr} {y : Ex} {t : Ty} {p p2 pos : Pos} {E : EE} (O : CtxOk T C X) (hl : tyTab.lookup x = some t) (hg : isGl C x = true) (hi : isGl C "isinstance" = true) (hp : plainE a = true)
    (ha : PE X a (TE X.K T y E)) : PE X (.Call (.Name "isinstance" p) [a, .Name x p2] [] pos) (TE X.K T (.isty y t) E) := by
  obtain ⟨g1, g2, g3⟩ := isGl_ok O hg
  obtain ⟨i1, i2, i3⟩ := isGl_ok O hi
  obtain ⟨hv, hm⟩ := lookup_ty hl
  have hm' := O.blt x hm
  have mi : X.mg "isinstance" = none := O.blt _ (List.mem_append_right _ List.mem_cons_self)
  have pn : PE X (.Name x p2) (tC (.ty t.ty)) := pe_bltn g1 hm' hv rfl g3 g2
  refine (pe_callB call_isi i1 mi (by decide +kernel) (pa_cons ha (pa_cons pn pa_nil) (star_cons hp)) i3 i2 (star_cons hp) rfl).imp ?_
  intro σ H Q h
  obtain ⟨F, env, S, A, h⟩ := h.at
  refine TE.one A h fun v S1 u F1 H1 t1 A1 r1 h1 => ?_
  obtain ⟨n, b, h2, h3, h4⟩ := tyIs_of A1.rs r1 h1
  exact ⟨u, _, n, _, b, rfl, .ty _, h2, h3, h4 _ _ _ t1 A1.rs rfl⟩
end
end BW
set_option Elab.async false
set_option linter.all false
set_option maxRecDepth 100000
set_option maxHeartbeats 4000000
namespace BW
open PySem PySem.Spec PyProof.Rows L2
/-! ### own classes: fields, methods, makers -/
section
variable {X : Cx} {o e : Expr} {es : List Expr} {m : Str} {apos pos p : Pos} {ta : L2.TE} {t : L2.TA} {CX : CXT}
/-- a method that is found -/
structure Got (X : Cx) (k : Nat) (C : Addr) (m : Str) (sp : Sp) : Prop where
  ok : ∃ f fd ps, FnOk X.prog X.w X.K X.mg X.base (L2.CX X.prog X.w) k f fd ps sp ∧ Meth X.K C m f ∧ Binds X.K fd ps []
  cls : Cls X.K C
  room : Room k X.A
/-- o.m(..): the class is looked up when it is called -/
def tDyn (X : Cx) (m : Str) (E : St → XK) (ta : L2.TE) (t : L2.TA) : L2.TE := fun σ H Q => ta σ H fun x H1 => ∃ a C dx fs k sp, x = .ref a ∧ H1 a = some (.ins C dx fs) ∧ fs.lookup m = none ∧ Got X k C m sp ∧ t σ H1 fun vs H2 => sp (x :: vs) H2 Q (E σ)
theorem dyn_pe {pl : Sem Bool} {E : St → XK} (ho : PE X o ta) (ha : PA X (e :: es) t) (hx : ∀ σ, PassesAt (L2.CX X.prog X.w) X σ (E σ)) (he : plainE e = true) (hes : ∀ a ∈ es, plainE a = true)
    (ht : eval (.Call (.Attribute o m apos) (e :: es) [] pos) X.env = (do
      let r ← eval o X.env
      standAt apos.atName
      let (g, first) ← holding [r] (getMethod r m pl)
      callWith pos g first (backTo pos (starEach (e :: es) X.env)) (backToKw pos (keywordEach [] X.env)))) :
    PE X (.Call (.Attribute o m apos) (e :: es) [] pos) (tDyn X m E ta t) := by
  constructor
  intro pins s σ H Q I h
  refine PySem.W.methodCall_KW (pl := pl) (thn (ho.run pins s σ H _ I h) fun r s1 hr => ?_) ht
  obtain ⟨x, H1, I1, rx, a, C, dx, fs, k, sp, rfl, ea, l, G, q⟩ := hr
  obtain rfl : r = Value.ref a := rx
  obtain ⟨f, fd, ps, F, mt, bn⟩ := G.ok
  refine getmeth_ok I1 ea G.cls mt l ?_
  refine PySem.W.callWith_K (first := [.ref a]) (h₀ := X.base) I.ok.mod.kin mt.kp (thn (ha.run pos pins s1 σ H1 _ I1 q) fun us s2 hu => ?_) (star_cons he) (star_any hes)
  obtain ⟨vs, H2, I2, rv, q2⟩ := hu
  exact ⟨I2.kIn, run_fnSD (dvs := []) (ds := []) (us := .ref a :: us) (vs := .ref a :: vs) F G.room bn .nil (hx σ) I2 (.cons rfl rv) (by rw [List.append_nil]; exact q2)⟩
theorem dyn0_pe {pl : Sem Bool} {E : St → XK} (ho : PE X o ta) (hx : ∀ σ, PassesAt (L2.CX X.prog X.w) X σ (E σ))
    (ht : eval (.Call (.Attribute o m apos) [] [] pos) X.env = (do
      let r ← eval o X.env
      standAt apos.atName
      let (g, first) ← holding [r] (getMethod r m pl)
      callWith pos g first (backTo pos (starEach [] X.env)) (backToKw pos (keywordEach [] X.env)))) :
    PE X (.Call (.Attribute o m apos) [] [] pos) (tDyn X m E ta tNil) := by
  constructor
  intro pins s σ H Q I h
  refine PySem.W.methodCall_KW (pl := pl) (thn (ho.run pins s σ H _ I h) fun r s1 hr => ?_) ht
  obtain ⟨x, H1, I1, rx, a, C, dx, fs, k, sp, rfl, ea, l, G, q⟩ := hr
  obtain rfl : r = Value.ref a := rx
  obtain ⟨f, fd, ps, F, mt, bn⟩ := G.ok
  refine getmeth_ok I1 ea G.cls mt l ?_
  exact PySem.W.callWith_K0 (first := [.ref a]) I1.kIn mt.kp (run_fnSD (dvs := []) (ds := []) (us := [.ref a]) (vs := [.ref a]) F G.room bn .nil (hx σ) I1 (.cons rfl .nil) q)
/-- C(..), what is raised wished for at the slots -/
def tNew (C : Addr) (sp : Sp) (dvs : List V) (E : St → XK) (t : L2.TA) : L2.TE := fun σ H Q => t σ H fun vs H1 => ∀ x dx, H1 x = none → H1 dx = none → dx ≠ x →
  sp (.ref x :: (vs ++ dvs)) (upd (upd H1 dx (.own x)) x (.ins C dx [])) (fun v H2 => v = .non ∧ Q (.ref x) H2) (E σ)
theorem new_pe {E : St → XK} {k : Nat} {C f : Addr} {fd : FuncData} {ps : List Str} {sp : Sp} {dvs : List V} {ds : List Value} {x : Str} (M : Mk X.K C f) (F : FnOk X.prog X.w X.K X.mg X.base (L2.CX X.prog X.w) k f fd ps sp) (hr : Room (k + 1) X.A) (hg : L2.Gl X x) (hm : X.mg x = some (.ref C))
    (hb : Binds X.K fd ps ds) (hd : Vals dvs ds) (hx : ∀ σ, PassesAt (L2.CX X.prog X.w) X σ (E σ)) (ha : PA X (e :: es) t) (hdb : (x == ("__debug__" : Str)) = false) (he : plainE e = true) (hes : ∀ a ∈ es, plainE a = true) :
    PE X (.Call (.Name x p) (e :: es) [] pos) (tNew C sp dvs E t) := by
  constructor
  intro pins s σ H Q I h
  refine wpAny_Call_Name_kw (ld_glob I hg hm ?_ hdb)
  refine PySem.W.callWith_K (h₀ := X.base) I.ok.mod.kin M.kp (thn (ha.run pos pins s σ H _ I h) fun us s1 hu => ?_) (star_cons he) (star_any hes)
  obtain ⟨vs, H1, I1, rv, q⟩ := hu
  refine ⟨I1.kIn, ?_⟩
  have sz : s1.heap.objs.size ≠ s1.heap.objs.size + 1 := Nat.ne_of_lt (Nat.lt_succ_self _)
  have q' := q (s1.heap.objs.size + 1) s1.heap.objs.size (I1.hok.fresh (Nat.le_succ _)) (I1.hok.fresh (Nat.le_refl _)) sz
  have I2 := Inv.made (C := C) I1
  have rr : Vals (V.ref (s1.heap.objs.size + 1) :: (vs ++ dvs)) (Value.ref (s1.heap.objs.size + 1) :: (us ++ ds)) := .cons rfl (rv.append hd)
  have ln : (Value.ref (s1.heap.objs.size + 1) :: us ++ ds).length = ps.length := (rr.length.symm.trans (F.len _ _ _ _ q'))
  have run := F.run (X.A.under (.builtin "type.__call__" ⟨.ref C :: us, []⟩)) X.stack _ _ ⟨Value.ref (s1.heap.objs.size + 1) :: us, []⟩ (Value.ref (s1.heap.objs.size + 1) :: (us ++ ds)) _ _ (E σ) (hr.make C us [])
    (I2.env0.make C us []) (hb _ (Value.ref (s1.heap.objs.size + 1) :: us) I2.kIn ln) rr q'
  refine wpAny_call (make_map (f := f) I1.kIn M.makes M.init (beq_iff_eq.mp M.fn) (codeAny_mono run fun r s' hq => ?_))
  cases r with
  | error er => exact hx σ pins _ _ er s' I2 hq
  | ok fl =>
    cases fl with
    | ret u =>
      obtain ⟨v, H', I3, ru, ev, q3⟩ := I2.after hq
      subst ev
      exact ⟨ru, V.ref (s1.heap.objs.size + 1), H', I3, rfl, q3⟩
    | next => exact hq.elim
    | brk => exact hq.elim
    | cont => exact hq.elim
end
end BW
set_option Elab.async false
set_option linter.all false
set_option maxRecDepth 100000
set_option maxHeartbeats 4000000
namespace BW
open PySem PySem.Spec PyProof.Rows L2
section
variable {X : Cx} {T : Tb} {C : Cc} {E : EE}
theorem nm_fix {m : Str} (h : fix m < nmT.length) : nm (fix m) = m := by
  unfold fix at *
  cases e : ixOf m nmT with
  | none => rw [e] at h; exact absurd h (by decide)
  | some i =>
    rw [e] at h
    have q := ixOf_ok e
    have h' : i < nmT.length := h
    show nm i = m
    unfold nm
    rw [if_pos h', List.getD_eq_getElem?_getD, q]
    rfl
theorem base_plain {o : Expr} {m : Str} {env : Env} {pl : Sem Value} (h : baseOk o = true) : attributeBase o m env pl = pl := by
  unfold attributeBase
  split
  · cases h
  · rfl
theorem insI {K : PySem.W.Frag} {F H : Hp} {S : Store} {x : Val} {v : V} {P : Nat → List (Nat × Val) → Prop} (s : RS K F H S) (r : RV K F x v) (h : getI S x P) : ∃ a c dx fs gs, v = .ref a ∧ H a = some (.ins (ca K c) dx gs) ∧ RVf K F fs gs ∧ P c fs := by
  rw [getI_iff] at h
  obtain ⟨c, fs, hi, h⟩ := h
  obtain ⟨a, dx, gs, e, q, z⟩ := r.inst s hi
  exact ⟨a, c, dx, fs, gs, e, q, z, h⟩
/-- o.f -/
theorem fld_pe {a : Expr} {x : Ex} {n : Str} {pos : Pos} (O : CtxOk T C X) (hn : fix n < nmT.length) (hb : baseOk a = true) (ha : PE X a (TE X.K T x E)) : PE X (.Attribute a n pos) (TE X.K T (.fld x (fix n)) E) := by
  refine (pe_fld ha (base_plain hb)).imp ?_
  intro σ H Q h
  obtain ⟨F, env, S, A, h⟩ := h.at
  refine TE.one A h fun y S1 u F1 H1 t1 A1 r1 h1 => ?_
  obtain ⟨p, c, dx, fs, gs, rfl, e, z, hf, v, hv, q⟩ := insI A1.rs r1 h1
  obtain ⟨w, hw, rw'⟩ := z.look hv
  rw [nm_fix hn] at hw
  have k := O.fl _ _ hf.1
  rw [if_pos hf.2, nm_fix hn] at k
  exact ⟨p, _, dx, gs, w, rfl, e, k.1, k.2, hw, q _ _ _ t1 A1.rs rw'⟩
/-- o.m(..) -/
theorem meth_pe {pl : Sem Bool} {f : Expr → Option Ex} {o : Expr} {x as : Ex} {m : Str} {args : List Expr} {apos pos : Pos} (O : CtxOk T C X) (hh : C.hot = false) (tk : TakesB X E) (hn : fix m < nmT.length) (hb : baseOk o = true)
    (ho : PE X o (TE X.K T x E)) (hl : cL f args = some as) (IH : ∀ e x, f e = some x → plainE e = true ∧ PE X e (TE X.K T x E))
    (ht : eval (.Call (.Attribute o m apos) args [] pos) X.env = (do
      let r ← eval o X.env
      standAt apos.atName
      let (g, first) ← holding [r] (getMethod r m pl)
      callWith pos g first (backTo pos (starEach args X.env)) (backToKw pos (keywordEach [] X.env)))) :
    PE X (.Call (.Attribute o m apos) args [] pos) (TE X.K T (.meth x (fix m) as) E) := by
  obtain ⟨k, hr, _, hm, _⟩ := O.room hh
  have pa : PA X args (TA X.K T as E) ∧ ∀ e ∈ args, plainE e = true := args_pa hl fun e _ x hx => IH e x hx
  have key : ∀ {t : L2.TA}, (∀ σ H Q, TA X.K T as E σ H Q → t σ H Q) → ∀ σ H Q, TE X.K T (.meth x (fix m) as) E σ H Q → tDyn X m (fun σ => WE (WX X.K E) σ) (TE X.K T x E) t σ H Q := by
    intro t ht σ H Q h
    obtain ⟨F, env, S, A, h⟩ := h.at
    refine TE.one A h fun y S1 u F1 H1 t1 A1 r1 h1 => ?_
    obtain ⟨p, c, dx, fs, gs, rfl, e, z, hf, g, hg, q⟩ := insI A1.rs r1 h1
    obtain ⟨ad, fd, ps, k1, k2, k3, k4⟩ := hm c (fix m) g hg
    rw [nm_fix hn] at k3
    have l := z.lookN hf
    rw [nm_fix hn] at l
    refine ⟨p, _, dx, gs, k, spOf X.K (T.fn g), rfl, e, l, ⟨⟨ad, fd, ps, k1, k3, k4⟩, k2, hr⟩, ht _ _ _ (TA.one A1 q fun vs S2 us F2 H2 t2 A2 r2 h2 => ?_)⟩
    have := wCall_sp (T := T) (f := g) (d := []) (dV := []) (vs := y :: vs) (us := .ref p :: us) A2 ⟨_, _, rfl, r1.mono t2, r2⟩ rfl (by rw [List.append_nil]; exact wCall_mono (fun _ _ => up_tm (t1.trans t2)) (fun _ _ z => z) h2)
    rw [List.append_nil] at this
    exact this
  match args, hl, pa, ht with
  | [], hl, pa, ht =>
    cases hl
    refine (dyn0_pe ho (fun σ => passAt tk σ) ht).imp (key fun σ H Q h => ?_)
    obtain ⟨F, env, S, _, _, rs, h⟩ := h
    exact h [] F H .refl rs rfl
  | e :: es, hl, pa, ht => exact (dyn_pe ho pa.1 (fun σ => passAt tk σ) (pa.2 e List.mem_cons_self) (fun a ha => pa.2 a (List.mem_cons_of_mem _ ha)) ht).imp (key fun _ _ _ h => h)
/-- C(..) -/
theorem mk_pe {x : Str} {e : Expr} {es : List Expr} {as : Ex} {p pos : Pos} {c g : Nat} {m : Bool} {d : List Val} {k : Nat} (hr : Room (k + 1) X.A) (hg' : T.mkr c = some g) (M : MkIn X.prog X.w X.K X.mg X.base k x c (T.fn g) d) (tk : TakesB X E) (hg : L2.Gl X x) (hd : (x == ("__debug__" : Str)) = false)
    (ha : PA X (e :: es) (TA X.K T as E)) (hp : ∀ a ∈ e :: es, plainE a = true) : PE X (.Call (.Name x p) (e :: es) [] pos) (TE X.K T (.new c m as d) E) := by
  obtain ⟨addr, fd, ps, ds, dV, F, hm, mk, hb, hv, hdV⟩ := M
  refine (new_pe mk F hr hg hm hb hv (fun σ => passAt tk σ) ha hd (hp e List.mem_cons_self) fun a h => hp a (List.mem_cons_of_mem _ h)).imp ?_
  intro σ H Q h
  obtain ⟨F, env, S, A, h⟩ := h.at
  refine TA.one A h fun vs S1 us F1 H1 t1 A1 r1 h1 => ?_
  obtain ⟨g2, e2, h1⟩ := h1
  rw [hg'] at e2
  cases e2
  intro a dx na nd ne
  have na' : upd H1 dx (.own a) a = none := by rw [upd_ne (Ne.symm ne)]; exact na
  have s2 : RS X.K F1 (upd (upd H1 dx (.own a)) a (.ins (ca X.K c) dx [])) (put S1 a (.ins c [])) := (A1.rs.new nd).alloc na' ⟨dx, [], upd_same, rfl⟩
  have A2 : At X.K E F1 env σ (upd (upd H1 dx (.own a)) a (.ins (ca X.K c) dx [])) (put S1 a (.ins c [])) := ⟨A1.f0, A1.re, s2⟩
  refine wCall_sp (vs := .ref a :: vs) (us := .ref a :: us) A2 ⟨_, _, rfl, rfl, r1⟩ (hdV F1) (wCall_mono (fun v S' h2 => ?_) (fun _ _ z => z) (h1 a (A1.rs.free na)))
  obtain ⟨rfl, h2⟩ := h2
  intro z F' H' t s r
  refine ⟨r, ?_⟩
  cases m with
  | true => exact h2 _ _ _ (t1.trans t) s rfl
  | false =>
    obtain ⟨fs, e3, h2⟩ := h2
    obtain ⟨fn, dx', gs, e4, z4⟩ := s.st _ _ e3
    have f : FS F' (upd F' a (.ins (ca X.K c) dx' gs)) := .new fn
    exact h2 _ _ _ ((t1.trans t).trans f) (s.freeze e4 fn) ⟨a, dx', gs, rfl, upd_same, z4.mono f⟩
/-- C.__init__(self, ..) -/
theorem sup_pe {pl : Sem Bool} {x : Str} {e : Expr} {es : List Expr} {as : Ex} {p p2 pos : Pos} {c g k : Nat} (O : CtxOk T C X) (hr : Room k X.A) (hg' : T.mkr c = some g) (M : SuIn X.prog X.w X.K X.mg X.base k x c (T.fn g)) (tk : TakesB X E) (hg : L2.Gl X x) (hd : (x == ("__debug__" : Str)) = false)
    (ha : PA X (e :: es) (TA X.K T as E)) (hp : ∀ a ∈ e :: es, plainE a = true)
    (ht : eval (.Call (.Attribute (.Name x p) "__init__" p2) (e :: es) [] pos) X.env = (do
      let r ← eval (.Name x p) X.env
      standAt p2.atName
      let (g, first) ← holding [r] (getMethod r "__init__" pl)
      callWith pos g first (backTo pos (starEach (e :: es) X.env)) (backToKw pos (keywordEach [] X.env)))) :
    PE X (.Call (.Attribute (.Name x p) "__init__" p2) (e :: es) [] pos) (TE X.K T (.sup c 0 as) E) := by
  obtain ⟨addr, fd, ps, mc, Fn, hm, rd, fc, kp, hb⟩ := M
  constructor
  intro pins s σ H Q I h
  have q : TA X.K T as E σ H fun us H1 => spOf X.K (T.fn g) (us ++ []) H1 Q (WE (WX X.K E) σ) := by
    obtain ⟨F, env, S, A, h⟩ := h.at
    refine TA.one A h fun vs S1 us F1 H1 t1 A1 r1 h1 => ?_
    obtain ⟨g2, e2, h1⟩ := h1
    rw [hg'] at e2
    cases e2
    exact wCall_sp A1 r1 (d := []) rfl (by rw [List.append_nil]; exact wCall_mono (fun _ _ => up_tm t1) (fun _ _ z => z) h1)
  refine PySem.W.methodCall_KW (pl := pl) (ld_glob I hg hm ?_ hd) ht
  refine PySem.W.method_cls I.kIn rd.ga (PySem.W.cls_value I.kIn rd.rd fc (handed_of (v := .ref addr) rfl) ?_)
  have I0 := I.tok (s.toks + 1)
  refine PySem.W.callWith_K (first := []) (h₀ := X.base) I.ok.mod.kin kp (thn (ha.run pos pins _ σ H _ I0 q) fun us s2 hu => ?_) (star_cons (hp e List.mem_cons_self)) (star_any fun a h => hp a (List.mem_cons_of_mem _ h))
  obtain ⟨vs, H2, I2, rv, q2⟩ := hu
  exact ⟨I2.kIn, run_fnSD (dvs := []) (ds := []) Fn hr hb .nil (passAt tk σ) I2 rv q2⟩
end
end BW
set_option Elab.async false
set_option linter.all false
set_option maxRecDepth 100000
set_option maxHeartbeats 4000000
namespace BW
open PySem PySem.Spec PyProof.Rows L2
/-- the caught error -/
def ExOk (T : Tb) (X : Cx) (E : EE) : Prop := ∀ a c fs, T.ex = some (a, c, fs) → ∃ X0 oe pn dd, X = Cx.suite X0 a ((a, oe) :: pn) ∧ Zc (.ref (ca X.K c)) dd oe ∧ (∃ vs, oe.data = .fields vs) ∧ RX X.K E.F0 (.ref (ca X.K c)) dd ⟨c, fs⟩
theorem exok_none {T : Tb} {X : Cx} {E : EE} (h : T.ex = none) : ExOk T X E := fun a c fs e => by rw [h] at e; cases e
section
variable {X : Cx} {T : Tb} {C : Cc} {E : EE}
theorem cvl_rel {c : Nat} : ∃ v, RelV v (cvl X.K c) ∧ ClsV v (cvl X.K c) := by
  unfold cvl
  split
  · exact ⟨.ty "ValueError", rfl, .ty _⟩
  · exact ⟨.ref _, rfl, .own _⟩
/-- the name of a class -/
theorem clsn_pe {x : Str} {c : Nat} {p : Pos} (O : CtxOk T C X) (hg : isGl C x = true) (hc : C.cls.lookup x = some c) : ∃ v, RelV v (cvl X.K c) ∧ ClsV v (cvl X.K c) ∧ PE X (.Name x p) (tC v) := by
  obtain ⟨g1, g2, g3⟩ := isGl_ok O hg
  rcases O.cls _ (lkMem hc) with ⟨hm, hne⟩ | ⟨hm, hx, rfl⟩
  · have e : cvl X.K c = .ref (ca X.K c) := if_neg hne
    exact ⟨.ref (ca X.K c), e, by rw [e]; exact .own _, pe_glob g1 hm rfl g2⟩
  · have hx' : x = "ValueError" := hx
    subst hx'
    exact ⟨.ty "ValueError", rfl, .ty _, pe_bltn g1 hm (show bootBuiltins ("ValueError" : Str) = some (.type "ValueError") by decide +kernel) rfl g3 g2⟩
theorem iscl_pe {x : Str} {a : Expr} {y : Ex} {c : Nat} {p p2 pos : Pos} (O : CtxOk T C X) (hc : C.cls.lookup x = some c) (hg : isGl C x = true) (hi : isGl C "isinstance" = true) (hp : plainE a = true)
    (ha : PE X a (TE X.K T y E)) : PE X (.Call (.Name "isinstance" p) [a, .Name x p2] [] pos) (TE X.K T (.iscl y c) E) := by
  obtain ⟨i1, i2, i3⟩ := isGl_ok O hi
  have mi : X.mg "isinstance" = none := O.blt _ (List.mem_append_right _ List.mem_cons_self)
  obtain ⟨v, r1, r2, pn⟩ := clsn_pe (p := p2) O hg hc
  refine (pe_callB call_isi i1 mi (by decide +kernel) (pa_cons ha (pa_cons pn pa_nil) (star_cons hp)) i3 i2 (star_cons hp) rfl).imp ?_
  intro σ H Q h
  obtain ⟨F, env, S, A, h⟩ := h.at
  refine TE.one A h fun w S1 u F1 H1 t1 A1 r1 h1 => ?_
  obtain ⟨q, d, dx, fs, gs, rfl, e, z, b, hb, h2⟩ := insI A1.rs r1 h1
  obtain ⟨k1, k2⟩ := O.isc _ _ _ hb.1
  rw [if_pos hb.2] at k2
  exact ⟨_, _, _, _, b, rfl, r2, .base (.ins e k2.cl k2.ha k2.hn k2.htk k2.hm), k1, h2 _ _ _ t1 A1.rs rfl⟩
theorem kit_any {c : Nat} : ∀ {cs : List Nat} {b : Bool}, (∀ d b, T.isc c d = some b → PySem.W.kitOne X.K (.ref (ca X.K c)) (cvl X.K d) = some b) → isAny (T.isc c) cs = some b → PySem.W.kitAny X.K (.ref (ca X.K c)) (cs.map (cvl X.K)) = some b
  | [], b, _, h => h
  | d :: cs, b, k, h => by
    unfold isAny at h
    rw [List.map_cons]
    unfold PySem.W.kitAny
    split at h
    · rename_i e
      rw [k _ _ e]; exact h
    · rename_i e
      rw [k _ _ e]; exact kit_any k h
    · cases h
/-- isinstance(e, ..) of a caught error -/
theorem exis_kit {a c : Nat} {fs : List (Nat × Val)} {pins : List (Addr × Obj)} {s : Shared} {σ : L2.St} {F H : Hp} {S : Store} (xo : ExOk T X E) (f0 : FS E.F0 F) (rs : RS X.K F H S) (I : Inv X pins σ H s) (he : T.ex = some (a, c, fs)) (k : ExIs X.K (ca X.K c)) :
    ∃ ox od, PySem.W.InstAt s.heap a ox (ca X.K c) od ∧ PySem.W.KitX X.K (.ref a) (.ref (ca X.K c)) (fun h => PySem.W.InstAt h a ox (ca X.K c) od) := by
  obtain ⟨X0, oe, pn, dd, hX, hz, ⟨vs, hv⟩, rx⟩ := xo _ _ _ he
  have cl : (PySem.W.clsIn X.K (ca X.K c)).isSome = true := by
    obtain ⟨cd, h1, _⟩ := PySem.W.any_some k.e.hd
    rw [h1]; rfl
  have pin : s.heap.get? a = some oe := by
    subst hX
    exact (I.pin (a, oe) (List.mem_append.mpr (.inl List.mem_cons_self))).1
  have kx : ∀ {ox od}, PySem.W.KitX X.K (.ref a) (.ref (ca X.K c)) (fun h => PySem.W.InstAt h a ox (ca X.K c) od) := fun {ox od} => PySem.W.kitx_exc cl k.e.hg k.e.hk k.e.hs k.e.ha k.e.hn k.e.ht k.e.hm
  rcases rx.2 with ⟨_, hd⟩ | ⟨d, gs, hd, hF, _⟩
  · refine ⟨oe, none, ⟨pin, hz.1, by unfold PySem.W.notCls; rw [hv] <;> rfl, ?_⟩, kx⟩
    rw [hz.2, hd]; exact True.intro
  · have hx : ObjOk X.prog X.w H s.heap d (.xd gs) := I.hok d _ (rs.fs _ _ (f0 _ _ hF))
    obtain ⟨mA, hns, _⟩ := hx
    obtain ⟨od, ho, _⟩ := lookIn_ns hns
    refine ⟨oe, some od, ⟨pin, hz.1, by unfold PySem.W.notCls; rw [hv] <;> rfl, ?_⟩, kx⟩
    rw [hz.2, hd]; exact ho
theorem exis1_pe {x n : Str} {i c : Nat} {p p2 p3 pos : Pos} (O : CtxOk T C X) (xo : ExOk T X E) (hn : okName n = true) (hi : ixOf n C.N = some i) (hv : C.sc.names.lookup n = some .local) (hc : C.cls.lookup x = some c) (hg : isGl C x = true) (his : isGl C "isinstance" = true) :
    PE X (.Call (.Name "isinstance" p) [.Name n p3, .Name x p2] [] pos) (TE X.K T (.exis i [c]) E) := by
  obtain ⟨i1, i2, i3⟩ := isGl_ok O his
  have mi : X.mg "isinstance" = none := O.blt _ (List.mem_append_right _ List.mem_cons_self)
  obtain ⟨v, r1, r2, pn⟩ := clsn_pe (p := p2) O hg hc
  have pv : PE X (.Name n p3) (tVar i) := pe_var (by rw [O.hN]; exact ixOf_ok hi) (.inl (by rw [O.sc]; exact hv)) (okName_ok hn).1 (okName_ok hn).2.1
  have cr : CallR X (.builtin "isinstance") (fun xs H Q => ∃ F S a d fs b, RS X.K F H S ∧ FS E.F0 F ∧ xs = [.ref a, v] ∧ (T.ex = some (a, d, fs) ∧ 9 ≤ d) ∧ T.isc d c = some b ∧ Q (.bl b) H) := by
    rintro pins s σ H xs us Q I r ⟨F, S, a, d, fs, b, rs, f0, rfl, he, hb, q⟩
    obtain ⟨u1, u2, rfl, w1, w2⟩ := vals2 r
    obtain rfl : u1 = Value.ref a := w1
    have e2 := r2.eq w2
    subst e2
    obtain ⟨k1, k2⟩ := O.isc _ _ _ hb
    rw [if_neg (by have := he.2; omega)] at k2
    obtain ⟨ox, od, J, kx⟩ := exis_kit xo f0 rs I he.1 k2
    exact PySem.W.kia_one kx I.kIn J k1 (fun z => nomatch z) fun tk => ⟨.bl b, H, I.tok tk, rfl, q⟩
  refine (pe_callB cr i1 mi (by decide +kernel) (pa_cons pv (pa_cons pn pa_nil) rfl) i3 i2 rfl rfl).imp ?_
  intro σ H Q h
  obtain ⟨F, env, S, A, a, d, fs, ea, he, b, hb, h⟩ := h.at
  obtain ⟨w, ew, rw'⟩ := A.re.2 _ _ ea
  cases rw'
  unfold isAny at hb
  have hb' : T.isc d c = some b := by
    split at hb
    · rename_i e; rw [e]; exact hb
    · rename_i e; rw [e]; exact hb
    · cases hb
  exact ⟨_, ew, F, S, a, d, fs, b, A.rs, A.f0, rfl, he, hb', up_here h A.rs rfl⟩
theorem clses_pa (O : CtxOk T C X) : ∀ {es : List Expr} {cs : List Nat}, clsesOf C es = some cs → ∃ vs, Paired ClsV vs (cs.map (cvl X.K)) ∧ vs.length = es.length ∧ PA X es (fun _ H Q => Q vs H)
  | [], cs, h => by
    cases h
    exact ⟨[], .nil, rfl, pa_nil.imp fun _ _ _ h => h⟩
  | e :: r, cs, h => by
    cases e <;> first
      | (rename_i x p
         unfold clsesOf at h
         split at h
         · rename_i c is h1 h2
           cases h
           obtain ⟨vs, q1, q2, q3⟩ := clses_pa O h2
           unfold clsOf at h1
           split at h1
           · rename_i hg
             obtain ⟨v, r1, r2, pn⟩ := clsn_pe (p := p) O hg h1
             exact ⟨v :: vs, .cons r2 q1, congrArg Nat.succ q2, (pa_cons pn q3 rfl).imp fun _ _ _ h => h⟩
           · cases h1
         · cases h)
      | cases h
theorem exisN_pe {es : List Expr} {n : Str} {i kk c0 : Nat} {cs0 : List Nat} {p p2 p3 pos : Pos} (O : CtxOk T C X) (xo : ExOk T X E) (hn : okName n = true) (hi : ixOf n C.N = some i) (hv : C.sc.names.lookup n = some .local) (hc : clsesOf C es = some (c0 :: cs0)) (hl : es.length ≤ 1000) (his : isGl C "isinstance" = true) : PE X (.Call (.Name "isinstance" p) [.Name n p3, .Tuple es kk p2] [] pos) (TE X.K T (.exis i (c0 :: cs0)) E) := by
  obtain ⟨i1, i2, i3⟩ := isGl_ok O his
  have mi : X.mg "isinstance" = none := O.blt _ (List.mem_append_right _ List.mem_cons_self)
  obtain ⟨vs, q1, q2, q3⟩ := clses_pa O hc
  have pv : PE X (.Name n p3) (tVar i) := pe_var (by rw [O.hN]; exact ixOf_ok hi) (.inl (by rw [O.sc]; exact hv)) (okName_ok hn).1 (okName_ok hn).2.1
  have cr : CallR X (.builtin "isinstance") (fun xs H Q => ∃ F S a tp d fs b, RS X.K F H S ∧ FS E.F0 F ∧ xs = [.ref a, .ref tp] ∧ H tp = some (.tup vs) ∧ (T.ex = some (a, d, fs) ∧ 9 ≤ d) ∧ isAny (T.isc d) (c0 :: cs0) = some b ∧ Q (.bl b) H) := by
    rintro pins s σ H xs us Q I r ⟨F, S, a, tp, d, fs, b, rs, f0, rfl, ht, he, hb, q⟩
    obtain ⟨u1, u2, rfl, w1, w2⟩ := vals2 r
    obtain rfl : u1 = Value.ref a := w1
    obtain rfl : u2 = Value.ref tp := w2
    obtain ⟨_, its, rv, o, e1, e2, m, e3⟩ := (show ObjOk X.prog X.w H s.heap tp (.tup vs) from I.hok tp _ ht)
    have e4 := ClsV.all q1 rv
    subst e4
    obtain ⟨oc, od', dt, sl⟩ := o
    dsimp only at e2 e3
    subst e2 e3
    have ka := kit_any (fun e b hb => (O.isc _ e b hb).1) hb
    have k2 : ∃ b', T.isc d c0 = some b' := by
      unfold isAny at hb
      split at hb
      · exact ⟨_, by assumption⟩
      · exact ⟨_, by assumption⟩
      · cases hb
    obtain ⟨b', hb'⟩ := k2
    have k3 := (O.isc _ _ _ hb').2
    rw [if_neg (by have := he.2; omega)] at k3
    obtain ⟨ox, od, J, kx⟩ := exis_kit xo f0 rs I he.1 k3
    exact PySem.W.kia_tup kx I.kIn J e1 ka (fun z => nomatch z) fun tk => ⟨.bl b, H, I.tok tk, rfl, q⟩
  refine (pe_callB cr i1 mi (by decide +kernel) (pa_cons pv (pa_cons (pe_tup q3) pa_nil rfl) rfl) i3 i2 rfl rfl).imp ?_
  intro σ H Q h
  obtain ⟨F, env, S, A, a, d, fs, ea, he, b, hb, h⟩ := h.at
  obtain ⟨w, ew, rw'⟩ := A.re.2 _ _ ea
  cases rw'
  refine ⟨_, ew, by rw [q2, sizeLine_eq]; omega, fun tp htp => ?_⟩
  have fn := A.rs.freeF htp
  exact ⟨_, S, a, tp, d, fs, b, A.rs.newF htp, A.f0.trans (.new fn), rfl, upd_same, he, hb, h _ _ _ (.new fn) (A.rs.newF htp) rfl⟩
/-- e.f of a caught error -/
theorem exfl_pe {n m : Str} {i : Nat} {p pos : Pos} (O : CtxOk T C X) (xo : ExOk T X E) (hn : okName n = true) (hi : ixOf n C.N = some i) (hv : C.sc.names.lookup n = some .local) (hm : fix m < nmT.length) :
    PE X (.Attribute (.Name n p) m pos) (TE X.K T (.exfl i (fix m)) E) := by
  constructor
  intro pins s σ H Q I h
  obtain ⟨F, env, S, A, a, d, fs, v, ea, he, hv', h⟩ := h.at
  obtain ⟨he, k1, k2⟩ := he
  have k3 := O.fl _ _ k2
  rw [if_neg (by omega), nm_fix hm] at k3
  obtain ⟨X0, oe, pn, dd, hX, hz, hf, rx⟩ := xo _ _ _ he
  obtain ⟨w, ew, rw'⟩ := A.re.2 _ _ ea
  cases rw'
  have pv : PE X (.Name n p) (tVar i) := pe_var (by rw [O.hN]; exact ixOf_ok hi) (.inl (by rw [O.sc]; exact hv)) (okName_ok hn).1 (okName_ok hn).2.1
  rcases rx.2 with ⟨e0, _⟩ | ⟨q, gs, hd, hF, z⟩
  · have e0' : fs = [] := e0
    subst e0'
    cases hv'
  · obtain ⟨u, hu, ru⟩ := z.look hv'
    rw [nm_fix hm] at hu
    have hH : H q = some (.xd gs) := A.rs.fs _ _ (A.f0 _ _ hF)
    subst hX
    exact (pe_xf (T := k3.1) k3.2 hz hf pv (base_plain rfl)).run pins s σ H Q I ⟨_, ew, rfl, rfl, q, gs, u, hd, hH, hu, up_here h A.rs (ru.mono A.f0)⟩
/-! ### dicts -/
theorem keyV_ok {K : PySem.W.Frag} {F : Hp} {v : Val} {x : V} {k : L2.Key} (r : RV K F v x) (h : keyV v = some k) : x = kV k := by
  unfold keyV at h
  split at h <;> cases h <;> exact r
theorem keysV_ok {K : PySem.W.Frag} {F : Hp} : ∀ {l : List Val} {vs : List V} {ks : List L2.Key}, RVs K F l vs → keysV l = some ks → vs = ks.map kV
  | [], _, _, r, h => by cases h; exact r
  | v :: l, _, ks, r, h => by
    obtain ⟨x, q, rfl, r1, r2⟩ := r
    unfold keysV at h
    split at h
    · rename_i k ks' h1 h2
      cases h
      rw [keyV_ok r1 h1, keysV_ok r2 h2]
      rfl
    · cases h
theorem dGet_ok {K : PySem.W.Frag} {F H : Hp} {S : Store} {d k : Val} {x y : V} {P : Option Val → Prop} (s : RS K F H S) (rd : RV K F d x) (rk : RV K F k y) (h : dGet S d k P) : ∃ a o u, x = .ref a ∧ DGet H a y u ∧ ORV K F o u ∧ P o := by
  cases d with
  | ref a =>
    cases rd
    unfold dGet at h
    dsimp only at h
    split at h
    · rename_i kvs _ e
      obtain ⟨q, hq, h⟩ := h
      obtain ⟨vs, e2, z⟩ := (s.st _ _ e).2
      have := keyV_ok rk hq
      subst this
      exact ⟨a, _, _, rfl, .k e2, z.val, h⟩
    · rename_i kvs l e
      obtain ⟨q, hq, h⟩ := h
      obtain ⟨vs, e2, z⟩ := (s.st _ _ e).2
      obtain ⟨b, xs, rfl, t, zk⟩ := rk
      have := keysV_ok zk hq
      subst this
      exact ⟨a, _, _, rfl, .t e2 (s.fs _ _ t), z.val, h⟩
    · exact h.elim
  | _ => exact h.elim
theorem dPut_ok {K : PySem.W.Frag} {F H : Hp} {S : Store} {d k v : Val} {x y z : V} {P : Store → Prop} (s : RS K F H S) (rd : RV K F d x) (rk : RV K F k y) (rv : RV K F v z) (h : dPut S d k v P) : ∃ a H' S', x = .ref a ∧ DPut H a y z H' ∧ RS K F H' S' ∧ P S' := by
  cases d with
  | ref a =>
    cases rd
    unfold dPut at h
    dsimp only at h
    split at h
    · rename_i k1 kvs e
      obtain ⟨q, hq, hl, h⟩ := h
      obtain ⟨vs, e2, z⟩ := (s.st _ _ e).2
      have := keyV_ok rk hq
      subst this
      exact ⟨a, _, _, rfl, .k e2 (by rw [← z.length, sizeLine_eq]; exact hl), s.write (ob := .dK (putD kvs q v)) e ⟨_, upd_same, z.put rv⟩, h⟩
    · rename_i kvs l e
      obtain ⟨q, hq, hl, h⟩ := h
      obtain ⟨vs, e2, z⟩ := (s.st _ _ e).2
      obtain ⟨b, xs, rfl, t, zk⟩ := rk
      have := keysV_ok zk hq
      subst this
      exact ⟨a, _, _, rfl, .t e2 (s.fs _ _ t) (by rw [← z.length, sizeLine_eq]; exact hl), s.write (ob := .dT (putD kvs q v)) e ⟨_, upd_same, z.put rv⟩, h⟩
    · exact h.elim
  | _ => exact h.elim
theorem dget_pe {d i : Expr} {x y : Ex} {pos : Pos} (O : CtxOk T C X) (hs : isSlice i = false) (hd : PE X d (TE X.K T x E)) (hi : PE X i (TE X.K T y E)) : PE X (.Subscript d i pos) (TE X.K T (.dget x y) E) := by
  have pl : NoSl i := fun _ _ => by cases i <;> first | rfl | cases hs
  have un := O.un
  refine (pe_dget (by omega) hd hi pl).imp ?_
  intro σ H Q h
  obtain ⟨F, env, S, A, h⟩ := h.at
  refine TE.two A h fun v w S2 z u F2 H2 t A2 r1 r2 q => ?_
  obtain ⟨a, o, uo, rfl, g, r3, v', rfl, q⟩ := dGet_ok A2.rs r1 r2 q
  obtain ⟨uv, rfl, r4⟩ := r3
  exact ⟨a, uv, rfl, g, q _ _ _ t A2.rs r4⟩
theorem orv_some {K : PySem.W.Frag} {F : Hp} {o : Option Val} {u : Option V} (r : ORV K F o u) : u.isSome = o.isSome := by
  cases o with
  | none => cases r; rfl
  | some x => obtain ⟨v, rfl, _⟩ := r; rfl
theorem din_pe {k d : Expr} {x y : Ex} {pos : Pos} (O : CtxOk T C X) (n : Bool) (hp : plainE d = true) (hk : PE X k (TE X.K T x E)) (hd : PE X d (TE X.K T y E)) : PE X (.Compare k [if n = true then .NotIn else .In] [d] pos) (TE X.K T (.din n x y) E) ∧ PT X (.Compare k [if n = true then .NotIn else .In] [d] pos) (TT X.K T (.din n x y) E) := by
  have un := O.un
  have key : ∀ {σ H} {Q : VK}, TE X.K T (.din n x y) E σ H Q → TE X.K T x E σ H fun u H1 => TE X.K T y E σ H1 fun v H2 => ∃ a o, v = .ref a ∧ DGet H2 a u o ∧ Q (.bl (if n = true then !o.isSome else o.isSome)) H2 := by
    intro σ H Q h
    obtain ⟨F, env, S, A, h⟩ := h.at
    refine TE.two A h fun v w S2 z u F2 H2 t A2 r1 r2 q => ?_
    obtain ⟨a, o, uo, rfl, g, r3, q⟩ := dGet_ok A2.rs r2 r1 q
    exact ⟨a, uo, rfl, g, by rw [orv_some r3]; exact q _ _ _ t A2.rs rfl⟩
  have keyT : ∀ {σ H} {Q : Bool → Hp → Prop}, TT X.K T (.din n x y) E σ H Q → TE X.K T x E σ H fun u H1 => TE X.K T y E σ H1 fun v H2 => ∃ a o, v = .ref a ∧ DGet H2 a u o ∧ ∃ b, V.bl (if n = true then !o.isSome else o.isSome) = V.bl b ∧ Q b H2 := by
    intro σ H Q h
    obtain ⟨F, env, S, A, h⟩ := h.at
    refine TE.two A h fun v w S2 z u F2 H2 t A2 r1 r2 q => ?_
    obtain ⟨a, o, uo, rfl, g, r3, q⟩ := dGet_ok A2.rs r2 r1 q
    exact ⟨a, uo, rfl, g, _, rfl, by rw [orv_some r3]; exact q _ _ t A2.rs⟩
  cases n with
  | false => exact ⟨(pe_cmp (pc_din (by omega) hk hd) (mark_plain hp)).imp fun σ H Q h => key h, (pt_cmp (pc_din (by omega) hk hd) (mark_plain hp)).imp fun σ H Q h => keyT h⟩
  | true => exact ⟨(pe_cmp (pc_dnotin (by omega) hk hd) (mark_plain hp)).imp fun σ H Q h => key h, (pt_cmp (pc_dnotin (by omega) hk hd) (mark_plain hp)).imp fun σ H Q h => keyT h⟩
theorem dnew_pe {t : Bool} {pos : Pos} : PE X (.Dict [] [] pos) (TE X.K T (.dnew t) E) := by
  cases t with
  | false =>
    refine pe_dnewK.imp fun σ H Q h => ?_
    obtain ⟨F, env, S, A, h⟩ := h.at
    exact fun p hp => up_new (h p (A.rs.free hp)) A.rs hp ⟨[], upd_same, rfl⟩
  | true =>
    refine pe_dnewT.imp fun σ H Q h => ?_
    obtain ⟨F, env, S, A, h⟩ := h.at
    exact fun p hp => up_new (h p (A.rs.free hp)) A.rs hp ⟨[], upd_same, rfl⟩
end
end BW
set_option Elab.async false
set_option linter.all false
set_option maxRecDepth 100000
set_option maxHeartbeats 4000000
namespace BW
open PySem PySem.Spec PyProof.Rows L2
section
variable {X : Cx} {T : Tb} {C : Cc}
/-! ### targets -/
theorem tn_ok {x : Str} {i : Nat} (O : CtxOk T C X) (h : cTn C x = some i) : X.N[i]? = some x ∧ Loc X.env.scope x ∧ (X.fn x = true ∨ X.env.scope.names.lookup x = some .local) := by
  unfold cTn at h
  rw [O.hN]
  split at h
  · rename_i e
    rw [← O.sc] at e
    exact ⟨ixOf_ok h, .inl e, .inr e⟩
  · rename_i e
    split at h
    · rename_i q
      rw [← O.sc] at e
      exact ⟨ixOf_ok h, .inr e, .inl (O.st x (List.contains_iff_mem.mp q))⟩
    · cases h
  · cases h
def GT (K : PySem.W.Frag) (g : Tg) : TG := fun v σ H Q => ∃ F x env, FS F H ∧ RV K F x v ∧ RE K F env σ ∧ tgt g x env fun env' => ∀ σ', RE K F env' σ' → (∀ vs, (∀ i ∈ g.slots, i ∈ vs) → wipe σ' vs = wipe σ vs) → Q σ' H
theorem wipe_set {σ : St} {i : Nat} {o : Option V} : ∀ {vs : List Nat}, i ∈ vs → wipe (σ.set i o) vs = wipe σ vs
  | [], h => by cases h
  | v :: vs, h => by
    show (wipe (σ.set i o) vs).set v none = (wipe σ vs).set v none
    by_cases hm : i ∈ vs
    · rw [wipe_set hm]
    · have e : i = v := (List.mem_cons.mp h).resolve_right hm
      subst e
      have key : ∀ {us : List Nat}, i ∉ us → wipe (σ.set i o) us = (wipe σ us).set i o := by
        intro us
        induction us with
        | nil => intro _; rfl
        | cons u us ih =>
          intro h
          show (wipe (σ.set i o) us).set u none = ((wipe σ us).set u none).set i o
          rw [ih fun z => h (List.mem_cons_of_mem _ z), List.set_comm _ _ fun z => h (by rw [z]; exact List.mem_cons_self)]
      rw [key hm, List.set_set]
theorem wipe_twice {σ : St} {vs : List Nat} : wipe (wipe σ vs) vs = wipe σ vs := by
  have key : ∀ {us : List Nat}, (∀ i ∈ us, i ∈ vs) → wipe (wipe σ us) vs = wipe σ vs := by
    intro us
    induction us with
    | nil => intro _; rfl
    | cons u us ih =>
      intro h
      show wipe ((wipe σ us).set u none) vs = _
      rw [wipe_set (h u List.mem_cons_self), ih fun i hi => h i (List.mem_cons_of_mem _ hi)]
  exact key fun _ h => h
theorem _root_.L2.PG.imp {X : Cx} {tg : Expr} {t t' : TG} (h : PG X tg t) (k : ∀ v σ H Q, t' v σ H Q → t v σ H Q) : PG X tg t' := ⟨fun pins s σ H v u Q I r q => h.run pins s σ H v u Q I r (k _ _ _ _ q)⟩
def gNames : List Nat → TGs
  | [] => gNil
  | i :: is => gCons (gName i) (gNames is)
theorem names_ok {K : PySem.W.Frag} {F H : Hp} {Q : St → Hp → Prop} : ∀ {is : List Nat} {l : List Val} {vs : List V} {env : Ev} {σ : St}, RVs K F l vs → RE K F env σ → l.length = is.length →
    (∀ σ', RE K F ((is.zip l).foldl (fun e p => e.set p.1 (some p.2)) env) σ' → (∀ vs, (∀ i ∈ is, i ∈ vs) → wipe σ' vs = wipe σ vs) → Q σ' H) → gNames is vs σ H Q
  | [], [], _, env, σ, r, e, _, k => by cases r; exact ⟨rfl, k σ e fun _ _ => rfl⟩
  | [], _ :: _, _, _, _, _, _, h, _ => by cases h
  | _ :: _, [], _, _, _, _, _, h, _ => by cases h
  | i :: is, x :: l, _, env, σ, r, e, h, k => by
    obtain ⟨v, q, rfl, r1, r2⟩ := r
    refine ⟨v, q, rfl, names_ok (l := l) r2 (e.set r1) (Nat.succ.inj h) fun σ' re w => k σ' re fun vs hv => ?_⟩
    rw [w vs fun j hj => hv j (List.mem_cons_of_mem _ hj), wipe_set (hv i List.mem_cons_self)]
theorem tns_ok (O : CtxOk T C X) : ∀ {es : List Expr} {is : List Nat}, cTns C es = some is → PGs X es (gNames is) ∧ (assignEach es X.env).length = is.length ∧ (assignEach es X.env).findIdx? (·.1) = none
  | [], _, h => by cases h; exact ⟨pgs_nil, rfl, rfl⟩
  | e :: r, is, h => by
    cases e <;> first
      | (rename_i x p
         unfold cTns at h
         split at h
         · rename_i i js h1 h2
           cases h
           obtain ⟨a, b, c⟩ := tns_ok O h2
           obtain ⟨z1, z2, z3⟩ := tn_ok O h1
           refine ⟨pgs_cons (pg_name (by rw [O.hN]; exact O.nd) z1 z2 z3) a rfl, congrArg Nat.succ b, ?_⟩
           show ((false, assign (.Name x p) X.env) :: assignEach r X.env).findIdx? (·.1) = none
           rw [List.findIdx?_cons, c]
           rfl
         · cases h)
      | cases h
theorem tg_pg {tg : Expr} {g : Tg} (O : CtxOk T C X) (h : cTg C tg = some g) : PG X tg (GT X.K g) := by
  have nd : X.N.Nodup := by rw [O.hN]; exact O.nd
  cases tg <;> first
    | (rename_i x p
       cases e : cTn C x with
       | none =>
         have h' : (cTn C x).map Tg.nm = some g := h
         rw [e] at h'
         cases h'
       | some i =>
         have h' : (cTn C x).map Tg.nm = some g := h
         rw [e] at h'
         cases h'
         obtain ⟨z1, z2, z3⟩ := tn_ok O e
         refine (pg_name nd z1 z2 z3).imp ?_
         rintro v σ H Q ⟨F, y, env, _, r, re, h⟩
         exact h _ (re.set r) fun vs hv => wipe_set (hv i List.mem_cons_self))
    | (rename_i es k p
       unfold cTg at h
       dsimp only at h
       split at h
       · rename_i hh
         cases e : cTns C es with
         | none => rw [e] at h; cases h
         | some is =>
           rw [e] at h
           cases h
           obtain ⟨a, b, c⟩ := tns_ok O e
           refine (pg_tup (O.calm hh) a b c).imp ?_
           rintro v σ H Q ⟨F, y, env, fh, r, re, h⟩
           unfold tgt at h
           split at h
           · rename_i e; cases e
           · rename_i is' l e1
             cases e1
             obtain ⟨q, vs, rfl, t, z⟩ := r
             exact ⟨q, vs, rfl, t.sq fh, by rw [← z.length]; exact h.1, names_ok z re h.1 h.2⟩
           · exact h.elim
       · cases h)
    | cases h
/-! ### iterables -/
def TI (K : PySem.W.Frag) (T : Tb) (k : ItK) (as : Ex) (E : EE) : L2.TI := fun σ H R => ∃ F env S, At K E F env σ H S ∧ wA T as env S (fun vs S1 => itK k vs S1 fun Gd items => ∀ F1 H1 J, FS F F1 → RS K F1 H1 S1 → Wk K Gd items J F1 → R J H1) fun x S' => E.p x env S'
theorem small_pos {a b c : Int} (ha : -(2 ^ 62) ≤ a) (ha' : a < 2 ^ 62) (hb : -(2 ^ 62) ≤ b) (hb' : b < 2 ^ 62) (hc : 0 < c) (hc' : c < 1073741824) : Builtin.Range.small a b c = true := by
  have d : 0 ≤ Builtin.Range.rangeSize a b c ∧ Builtin.Range.rangeSize a b c < 2 ^ 63 := by
    unfold Builtin.Range.rangeSize
    rw [if_pos hc]
    split
    · have h1 : 0 ≤ (b - a - 1) / c := Int.ediv_nonneg (by omega) (by omega)
      have h2 : (b - a - 1) / c ≤ b - a - 1 := Int.ediv_le_self _ (by omega)
      omega
    · omega
  unfold Builtin.Range.small
  simp only [Builtin.Range.rangeFitsLong, Bool.and_eq_true, Bool.or_eq_true, decide_eq_true_eq, beq_iff_eq, show (c > 0) from hc, if_true]
  omega
theorem seq_pi {tg e : Expr} {x : Ex} {E : EE} (h : PE X e (TE X.K T x E)) : PI X tg e (TI X.K T .seq (.cons x .nil) E) := by
  refine (pi_seq h).imp ?_
  rintro σ H R ⟨F, env, S, A, h⟩
  refine TE.one A h fun v S1 u F1 H1 t1 A1 r1 h1 => ?_
  simp only [wA_nil] at h1
  unfold itK at h1
  split at h1
  · rename_i e1 e2
    cases e2
    obtain ⟨a, vs, rfl, q, z⟩ := r1
    exact ⟨a, rfl, .inr ⟨⟨vs, q.sq A1.rs.fs⟩, h1 _ _ _ t1 A1.rs (wk_tup q z)⟩⟩
  · rename_i e1 e2 e3
    cases e3
    rw [getL_iff] at h1
    obtain ⟨l, hl, h1⟩ := h1
    obtain ⟨a, vs, rfl, q, z⟩ := r1.list A1.rs hl
    exact ⟨a, rfl, .inl ⟨⟨vs, rd_sq q⟩, h1 _ _ _ t1 A1.rs (wk_list r1)⟩⟩
  all_goals first | (rename_i e1 e2; cases e1) | exact h1.elim
theorem mg_range (O : CtxOk T C X) : X.mg "range" = none := O.blt _ (List.mem_append_right _ (List.mem_cons_of_mem _ List.mem_cons_self))
theorem mg_enum (O : CtxOk T C X) : X.mg "enumerate" = none := O.blt _ (List.mem_append_right _ (List.mem_cons_of_mem _ (List.mem_cons_of_mem _ List.mem_cons_self)))
theorem mg_zip (O : CtxOk T C X) : X.mg "zip" = none := O.blt _ (List.mem_append_right _ (List.mem_cons_of_mem _ (List.mem_cons_of_mem _ (List.mem_cons_of_mem _ List.mem_cons_self))))
theorem mg_rev (O : CtxOk T C X) : X.mg "reversed" = none := O.blt _ (List.mem_append_right _ (List.mem_cons_of_mem _ (List.mem_cons_of_mem _ (List.mem_cons_of_mem _ (List.mem_cons_of_mem _ List.mem_cons_self)))))
/-- an iterable whose arguments are walked as they come -/
theorem ta_it {as : Ex} {E : EE} {k : ItK} {σ : St} {H : Hp} {R : It → Hp → Prop} {P : List V → Hp → Prop} (h : TI X.K T k as E σ H R)
    (f : ∀ vs S1 us F1 H1, vs.length = exLen as → RS X.K F1 H1 S1 → RVs X.K F1 vs us → itK k vs S1 (fun Gd items => ∀ J, Wk X.K Gd items J F1 → R J H1) → P us H1) : TA X.K T as E σ H P := by
  obtain ⟨F, env, S, A, h⟩ := h
  exact TA.one A (wA_len as h) fun vs S1 us F1 H1 t1 A1 r1 h1 => f vs S1 us F1 H1 h1.1 A1.rs r1 (itK_mono (fun Gd items h J w => h F1 H1 J t1 A1.rs w) h1.2)
theorem range_0 (n : Nat) : ((List.range n).map fun k => Val.int (0 + (k : Nat))) = (List.range n).map fun k => .int (k : Nat) := by simp
theorem vs1 {vs : List Val} {y : Ex} (h : vs.length = exLen (.cons y .nil)) : ∃ a, vs = [a] := by
  match vs, h with
  | [a], _ => exact ⟨a, rfl⟩
theorem vs2 {vs : List Val} {y z : Ex} (h : vs.length = exLen (.cons y (.cons z .nil))) : ∃ a b, vs = [a, b] := by
  match vs, h with
  | [a, b], _ => exact ⟨a, b, rfl⟩
theorem vs3 {vs : List Val} {y z u : Ex} (h : vs.length = exLen (.cons y (.cons z (.cons u .nil)))) : ∃ a b c, vs = [a, b, c] := by
  match vs, h with
  | [a, b, c], _ => exact ⟨a, b, c, rfl⟩
section
variable {tg a b c : Expr} {y z u : Ex} {p pos : Pos} {E : EE}
theorem range1_pi (O : CtxOk T C X) (hg : L2.Gl X "range") (hp : plainE a = true) (ha : PA X [a] (TA X.K T (.cons y .nil) E)) : PI X tg (.Call (.Name "range" p) [a] [] pos) (TI X.K T .range (.cons y .nil) E) := by
  refine (pi_range1 hg (mg_range O) ha (star_cons hp)).imp ?_
  intro σ H R h
  refine ta_it h fun vs S1 us F1 H1 hl s r q => ?_
  obtain ⟨x, rfl⟩ := vs1 hl
  obtain ⟨u, rfl, r1⟩ := r.one
  cases x <;> first
    | (cases r1; exact ⟨_, rfl, q.1.1, q.1.2, q.2 _ (by rw [← range_0]; exact wk_range)⟩)
    | exact q.elim
theorem range2_pi (O : CtxOk T C X) (hg : L2.Gl X "range") (hp : plainE a = true) (hp2 : plainE b = true) (ha : PA X [a, b] (TA X.K T (.cons y (.cons z .nil)) E)) : PI X tg (.Call (.Name "range" p) [a, b] [] pos) (TI X.K T .range (.cons y (.cons z .nil)) E) := by
  refine (pi_range2 hg (mg_range O) ha (by rw [star_cons hp, star_cons hp2]; rfl) (star_cons hp2)).imp ?_
  intro σ H R h
  refine ta_it h fun vs S1 us F1 H1 hl s r q => ?_
  obtain ⟨x, x2, rfl⟩ := vs2 hl
  obtain ⟨u, u2, rfl, r1, r2⟩ := r.two
  cases x <;> cases x2 <;> first
    | (cases r1; cases r2; exact ⟨_, _, rfl, q.1, q.2 _ wk_range⟩)
    | exact q.elim
theorem range3_pi (O : CtxOk T C X) (hg : L2.Gl X "range") (hp : plainE a = true) (hp2 : plainE b = true) (hp3 : plainE c = true) (ha : PA X [a, b, c] (TA X.K T (.cons y (.cons z (.cons u .nil))) E)) :
    PI X tg (.Call (.Name "range" p) [a, b, c] [] pos) (TI X.K T .range (.cons y (.cons z (.cons u .nil))) E) := by
  refine (pi_range3 hg (mg_range O) ha (star_cons hp) (star_any fun e he => ?_)).imp ?_
  · rcases List.mem_cons.mp he with rfl | he
    · exact hp2
    · rw [List.mem_singleton.mp he]; exact hp3
  intro σ H R h
  refine ta_it h fun vs S1 us F1 H1 hl s r q => ?_
  obtain ⟨x, x2, x3, rfl⟩ := vs3 hl
  obtain ⟨u, u2, u3, rfl, r1, r2, r3⟩ := r.three
  cases x <;> cases x2 <;> cases x3 <;> first
    | (cases r1; cases r2; cases r3
       obtain ⟨⟨q1, q2, q3, q4, q5, q6⟩, q⟩ := q
       exact ⟨_, _, _, _, rfl, ⟨by omega, by omega, small_pos q1 q2 q3 q4 q5 q6, rangeSize_toNat _ _ _⟩, q _ wk_rangeC⟩)
    | exact q.elim
theorem enum_pi {es : List Expr} {kk : Nat} {tp : Pos} (O : CtxOk T C X) (hg : L2.Gl X "enumerate") (hp : plainE a = true) (ha : PA X [a] (TA X.K T (.cons y .nil) E)) : PI X (.Tuple es kk tp) (.Call (.Name "enumerate" p) [a] [] pos) (TI X.K T .enum (.cons y .nil) E) := by
  refine (pi_enum hg (mg_enum O) ha (star_cons hp)).imp ?_
  intro σ H R h
  refine ta_it h fun vs S1 us F1 H1 hl s r q => ?_
  obtain ⟨x, rfl⟩ := vs1 hl
  obtain ⟨u, rfl, r1⟩ := r.one
  have q' : getL S1 x fun l => _ := q
  rw [getL_iff] at q'
  obtain ⟨l, hl, q'⟩ := q'
  obtain ⟨d, ws, rfl, q1, z1⟩ := r1.list s hl
  exact ⟨_, ws, rfl, rd_sq q1, q' _ (wk_enum r1)⟩
theorem rev_pi (O : CtxOk T C X) (hg : L2.Gl X "reversed") (hp : plainE a = true) (ha : PA X [a] (TA X.K T (.cons y .nil) E)) : PI X tg (.Call (.Name "reversed" p) [a] [] pos) (TI X.K T .rev (.cons y .nil) E) := by
  refine (pi_reversed hg (mg_rev O) ha (star_cons hp)).imp ?_
  intro σ H R h
  refine ta_it h fun vs S1 us F1 H1 hl s r q => ?_
  obtain ⟨x, rfl⟩ := vs1 hl
  obtain ⟨u, rfl, r1⟩ := r.one
  have q' : getL S1 x fun l => _ := q
  rw [getL_iff] at q'
  obtain ⟨l, hl, q'⟩ := q'
  obtain ⟨d, ws, rfl, q1, z1⟩ := r1.list s hl
  exact ⟨_, ws, rfl, rd_sq q1, by rw [← z1.length]; exact q' _ (wk_rev r1)⟩
theorem zip_pi {es : List Expr} {kk : Nat} {tp : Pos} (O : CtxOk T C X) (hg : L2.Gl X "zip") (hp : plainE a = true) (hp2 : plainE b = true) (ha : PA X [a, b] (TA X.K T (.cons y (.cons z .nil)) E)) :
    PI X (.Tuple es kk tp) (.Call (.Name "zip" p) [a, b] [] pos) (TI X.K T .zip (.cons y (.cons z .nil)) E) := by
  refine (pi_zip hg (mg_zip O) ha (star_cons hp) (star_any fun e he => by rw [List.mem_singleton.mp he]; exact hp2)).imp ?_
  intro σ H R h
  refine ta_it h fun vs S1 us F1 H1 hl s r q => ?_
  obtain ⟨x, x2, rfl⟩ := vs2 hl
  obtain ⟨u, u2, rfl, r1, r2⟩ := r.two
  have q' : getL S1 x fun l => getL S1 x2 fun m => _ := q
  rw [getL_iff] at q'
  obtain ⟨l, hl, q'⟩ := q'
  rw [getL_iff] at q'
  obtain ⟨m, hm, q'⟩ := q'
  obtain ⟨d, ws, rfl, q1, z1⟩ := r1.list s hl
  obtain ⟨d2, ws2, rfl, q2, z2⟩ := r2.list s hm
  exact ⟨_, _, ws, ws2, rfl, rd_sq q1, rd_sq q2, q' _ (wk_zip r1 r2)⟩
end
theorem args_of {f : Expr → Option Ex} {E : EE} (IH : ∀ e x, f e = some x → plainE e = true ∧ PE X e (TE X.K T x E)) {es : List Expr} {as : Ex} (h : cL f es = some as) : PA X es (TA X.K T as E) ∧ ∀ e ∈ es, plainE e = true :=
  args_pa h fun e _ x hx => IH e x hx
theorem cL1 {f : Expr → Option Ex} {a : Expr} {x : Ex} (h : f a = some x) : cL f [a] = some (.cons x .nil) := by unfold cL; rw [h]; rfl
theorem cL2 {f : Expr → Option Ex} {a b : Expr} {x y : Ex} (h : f a = some x) (h2 : f b = some y) : cL f [a, b] = some (.cons x (.cons y .nil)) := by unfold cL; rw [h, cL1 h2]
theorem cL3 {f : Expr → Option Ex} {a b c : Expr} {x y z : Ex} (h : f a = some x) (h2 : f b = some y) (h3 : f c = some z) : cL f [a, b, c] = some (.cons x (.cons y (.cons z .nil))) := by unfold cL; rw [h, cL2 h2 h3]
theorem seq_of {f : Expr → Option Ex} {E : EE} (IH : ∀ e x, f e = some x → plainE e = true ∧ PE X e (TE X.K T x E)) {tg e : Expr} {k : ItK} {as : Ex} (h : ((f e).map fun z => (ItK.seq, Ex.cons z .nil)) = some (k, as)) : PI X tg e (TI X.K T k as E) := by
  cases q : f e with
  | none => rw [q] at h; cases h
  | some z =>
    rw [q] at h
    cases h
    exact seq_pi (IH e z q).2
theorem it_ok {f : Expr → Option Ex} {E : EE} (O : CtxOk T C X) (IH : ∀ e x, f e = some x → plainE e = true ∧ PE X e (TE X.K T x E)) {tg e : Expr} {k : ItK} {as : Ex} (h : cIt C f (isTup tg) e = some (k, as)) :
    PI X tg e (TI X.K T k as E) := by
  unfold cIt at h
  split at h
  · rename_i x p a pos
    split at h
    · rename_i y hg hy
      rw [Bool.and_eq_true] at hg
      obtain ⟨g1, g2, g3⟩ := isGl_ok O hg.1
      obtain ⟨pa, pl⟩ := args_of IH (cL1 hy)
      split at h
      · rename_i e
        cases h
        have e := beq_iff_eq.mp e
        subst e
        exact range1_pi O g1 (pl _ List.mem_cons_self) pa
      · rename_i e
        split at h
        · rename_i ht
          cases h
          have e := beq_iff_eq.mp e
          subst e
          cases tg <;> first
            | exact enum_pi O g1 (pl _ List.mem_cons_self) pa
            | cases ht
        · cases h
      · rename_i e
        cases h
        have e := beq_iff_eq.mp e
        subst e
        exact rev_pi O g1 (pl _ List.mem_cons_self) pa
      · exact seq_of IH h
    · exact seq_of IH h
  · rename_i x p a b pos
    split at h
    · rename_i y z hg hy hz
      rw [Bool.and_eq_true] at hg
      obtain ⟨g1, g2, g3⟩ := isGl_ok O hg.1
      obtain ⟨pa, pl⟩ := args_of IH (cL2 hy hz)
      split at h
      · rename_i e
        cases h
        have e := beq_iff_eq.mp e
        subst e
        exact range2_pi O g1 (pl _ List.mem_cons_self) (pl _ (List.mem_cons_of_mem _ List.mem_cons_self)) pa
      · rename_i e
        split at h
        · rename_i ht
          cases h
          have e := beq_iff_eq.mp e
          subst e
          cases tg <;> first
            | exact zip_pi O g1 (pl _ List.mem_cons_self) (pl _ (List.mem_cons_of_mem _ List.mem_cons_self)) pa
            | cases ht
        · cases h
      · exact seq_of IH h
    · exact seq_of IH h
  · rename_i x p a b c pos
    split at h
    · rename_i y z u hg hy hz hu
      rw [Bool.and_eq_true] at hg
      obtain ⟨g1, g2, g3⟩ := isGl_ok O hg.1
      obtain ⟨pa, pl⟩ := args_of IH (cL3 hy hz hu)
      split at h
      · rename_i e
        cases h
        have e := beq_iff_eq.mp e
        subst e
        exact range3_pi O g1 (pl _ List.mem_cons_self) (pl _ (List.mem_cons_of_mem _ List.mem_cons_self)) (pl _ (List.mem_cons_of_mem _ (List.mem_cons_of_mem _ List.mem_cons_self))) pa
      · exact seq_of IH h
    · exact seq_of IH h
  · split at h
    · cases h
    · exact seq_of IH h
end
end BW
set_option Elab.async false
set_option linter.all false
set_option maxRecDepth 100000
set_option maxHeartbeats 4000000
namespace BW
open PySem PySem.Spec PyProof.Rows L2
section
variable {X : Cx} {T : Tb} {C : Cc}
abbrev E0 : EE := ⟨fun _ => none, fun _ _ _ => False⟩
theorem takes_E0 {X : Cx} : TakesB X E0 := fun _ _ ⟨_, _, _, _, _, _, _, _, _, _, _, _, _, _, _, _, ⟨_, _, _, _, _, _, _, _, z⟩⟩ => z.elim
theorem fs_none {F : Hp} : FS (fun _ => none) F := fun _ _ e => by cases e
/-- a test of the clause, where there is one -/
def TC (K : PySem.W.Frag) (T : Tb) (hc : Bool) (c : Ex) : L2.TT := fun σ H Q => ∃ F env S, RE K F env σ ∧ RS K F H S ∧ (if hc = true then wT T c env S (upB K F Q) fun _ _ => False else upB K F Q true S)
theorem endC_ok {K : PySem.W.Frag} {F H : Hp} {Q : VK} {m : Bool} {D : Addr} {S : Store} (s : RS K F H S) (h : endC m D (up K F Q) (.ref D) S) : Q (.ref D) H := by
  cases m with
  | true => exact h _ _ _ .refl s rfl
  | false =>
    obtain ⟨l, e, h⟩ := h
    obtain ⟨fn, vs, e2, z⟩ := s.st _ _ e
    have f : FS F (upd F D (.lst vs)) := .new fn
    exact h _ _ _ f (s.freeze e2 fn) ⟨D, vs, rfl, .inl upd_same, z.mono f⟩
theorem comp_tlc {m : Bool} {own : List Nat} {g : Tg} {k : ItK} {as cond elt : Ex} {hc : Bool} {E : EE} {σ : St} {H : Hp} {Q : VK} (hs : ∀ i ∈ g.slots, i ∈ own) (h : TE X.K T (.comp m own g k as hc cond elt) E σ H Q) :
    tLc (TI X.K T k as E) (GT X.K g) (TC X.K T hc cond) (TE X.K T elt E0) own σ H Q := by
  obtain ⟨F, env, S, A, h⟩ := h.at
  refine ⟨F, env, S, A, wA_mono as (fun vs S1 h1 => itK_mono (fun Gd items hh F1 H1 J t1 s1 wk => ?_) h1) (fun _ _ z => z) h⟩
  intro D hD
  have hS := hh D (s1.free hD)
  let tg' := fun x P => tgt g x (wipeE env own) P
  let cn' := fun e2 S2 P => if hc = true then wT T cond e2 S2 P fun _ _ => False else P true S2
  let el' := fun e2 S2 P => wE T elt e2 S2 P fun _ _ => False
  let Wt := fun (l : List Val) (S : Store) => wTurns Gd tg' cn' el' D (endC m D (up X.K F Q)) l S
  have hS' : Wt items (put S1 D (.lst [])) := hS
  refine ⟨fun i n H' => n = items.length - i ∧ i ≤ items.length ∧ ∃ F' S', FS F1 F' ∧ RS X.K F' H' S' ∧ Wt (items.drop i) S',
    ⟨_, rfl, Nat.zero_le _, F1, _, .refl, s1.alloc hD (RO.lst (l := []) (vs := []) rfl), hS'⟩, ?_⟩
  rintro i n H' ⟨rfl, hi, F', S', tF, rs', w⟩
  by_cases hlt : i < items.length
  · rw [List.drop_eq_getElem_cons hlt] at w
    obtain ⟨gd, w⟩ := w
    refine .inr ⟨wk.go F' H' S' i tF rs' gd hlt, fun H'' => ∃ F'' S'', FS F1 F'' ∧ RS X.K F'' H'' S'' ∧ Wt (items.drop (i + 1)) S'',
      fun H'' h2 => ⟨_, by omega, rfl, hlt, h2⟩, fun x H2 y => ?_⟩
    obtain ⟨F2, t2, rs2, rv⟩ := wk.yld F' H' S' i x H2 _ tF rs' gd y (List.getElem?_eq_getElem hlt)
    refine ⟨F2, _, _, rs2.fs, rv, (A.re.mono ((t1.trans tF).trans t2)).wipe, tgt_mono (fun e2 hc2 σ2 re2 hw => ?_) w⟩
    refine ⟨by rw [hw own hs, wipe_twice], F2, e2, S', re2, rs2, ?_⟩
    have after : ∀ b F3 H3 S3, FS F2 F3 → RS X.K F3 H3 S3 → (if b = true then el' e2 S3 (fun y S4 => ∃ acc, S4 D = some (.lst acc) ∧ acc.length < LIM ∧ Wt (items.drop (i + 1)) (put S4 D (.lst (acc ++ [y])))) else Wt (items.drop (i + 1)) S3) →
        (if b = true then TE X.K T elt E0 σ2 H3 fun y H4 => ∃ acc, H4 D = some (.lst acc) ∧ acc.length < sizeLine ∧ ∃ F'' S'', FS F1 F'' ∧ RS X.K F'' (upd H4 D (.lst (acc ++ [y]))) S'' ∧ Wt (items.drop (i + 1)) S''
          else ∃ F'' S'', FS F1 F'' ∧ RS X.K F'' H3 S'' ∧ Wt (items.drop (i + 1)) S'') := by
      intro b F3 H3 S3 t3 s3 h3
      cases b with
      | false => exact ⟨F3, S3, (tF.trans t2).trans t3, s3, h3⟩
      | true =>
        refine ⟨F3, e2, S3, fs_none, re2.mono t3, s3, wE_mono elt (fun y S4 h4 z F4 H4 t4 s4 r4 => ?_) (fun _ _ z => z) h3⟩
        obtain ⟨acc, a1, a2, a3⟩ := h4
        obtain ⟨fn, vs, b1, b2⟩ := s4.st D _ a1
        exact ⟨vs, b1, by rw [← LIM_eq, ← b2.length]; exact a2, F4, _, ((tF.trans t2).trans t3).trans t4, s4.write (ob := .lst (acc ++ [y])) a1 ⟨_, upd_same, b2.append (m := [y]) ⟨z, [], rfl, r4, rfl⟩⟩, a3⟩
    cases hc with
    | false => exact fun F3 H3 t3 s3 => after true F3 H3 S' t3 s3 hc2
    | true => exact wT_mono cond (fun b S3 h3 F3 H3 t3 s3 => after b F3 H3 S3 t3 s3 h3) (fun _ _ z => z) hc2
  · have e : i = items.length := by omega
    subst e
    rw [List.drop_length] at w
    exact .inl ⟨wk.stop F' H' S' tF rs' w.1, endC_ok rs' (endC_mono (fun _ _ => up_tm (t1.trans tF)) _ _ w.2)⟩
/-- the block's context -/
theorem blk_ok {scope : Scope} (O : CtxOk T C X) (hh : C.hot = false) (b : BlkOk C.N C.sc scope (ownOf C scope)) (s : Shared) (H : Hp) (A : Addr) (cl : List (Str × Addr)) (fp : List Addr) : CtxOk T (blkCc C scope) (X.blk s H scope (compEnvC scope cl A X.env) fp) where
  hN := O.hN
  nd := O.nd
  sc := by
    show relabel scope X.env = relS scope C.sc
    unfold relabel relS
    rw [← O.sc]
    rfl
  calm := O.calm
  noex := O.noex
  room := O.room
  un := O.un
  cst := O.cst
  blt := O.blt
  st := fun x hx => by
    obtain ⟨q, hq, rfl⟩ := List.mem_map.mp hx
    obtain ⟨h1, h2⟩ := List.mem_filter.mp hq
    have e := b.uniq q h1
    show (scope.names.lookup q.1 == some .cell) = true
    rw [e, beq_iff_eq.mp h2]
    rfl
  kind := b.kind
  exs := O.exs
  fl := O.fl
  cls := O.cls
  isc := O.isc
  exm := O.exm
theorem comp_pe {m : Bool} {scope : Scope} {g : Tg} {k : ItK} {as cond elt : Ex} {hc : Bool} {tg iter el : Expr} {ifs : List Expr} {pos : Pos} {E : EE} (O : CtxOk T C X) (hh : C.hot = false) (b : BlkOk C.N C.sc scope (ownOf C scope))
    (hs : ∀ i ∈ g.slots, i ∈ (ownOf C scope).map (·.2)) (hi : PI X tg iter (TI X.K T k as E)) (hset : isSet iter = false)
    (hg : ∀ Y, CtxOk T (blkCc C scope) Y → Y.K = X.K → PG Y tg (GT X.K g)) (ht : ∀ Y, CtxOk T (blkCc C scope) Y → Y.K = X.K → PTs Y ifs (TC X.K T hc cond)) (he : ∀ Y, CtxOk T (blkCc C scope) Y → Y.K = X.K → PE Y el (TE X.K T elt E0)) :
    PE X (.ListComp el [⟨tg, iter, ifs, 0⟩] scope pos) (TE X.K T (.comp m ((ownOf C scope).map (·.2)) g k as hc cond elt) E) := by
  have b' : BlkOk X.N X.env.scope scope (ownOf C scope) := by rw [O.hN, O.sc]; exact b
  exact (pe_lc (O.calm hh) (by rw [O.hN]; exact O.nd) hi b' (fun s H A cl fp => hg _ (blk_ok O hh b s H A cl fp) rfl) (fun s H A cl fp => ht _ (blk_ok O hh b s H A cl fp) rfl) (fun s H A cl fp => he _ (blk_ok O hh b s H A cl fp) rfl) (fold_plain hset)).imp fun σ H Q h => comp_tlc hs h
end
end BW
set_option Elab.async false
set_option linter.all false
set_option maxRecDepth 100000
set_option maxHeartbeats 4000000
namespace BW
open PySem PySem.Spec PyProof.Rows L2
section
variable {X : Cx} {T : Tb} {C : Cc} {E : EE}
theorem pt_of_pe {e : Expr} {x : Ex} (h : PE X e (TE X.K T x E)) (he : ∀ whole, isTrue e X.env whole = (do let v ← whole; standAt e.pos; holding [v] (truthy v))) : PT X e (TT X.K T x E) := by
  refine (pt_truth h he).imp ?_
  intro σ H Q h
  obtain ⟨F, env, S, A, h⟩ := h.at
  refine TE.one A (wT_wE x h) fun v S1 u F1 H1 t1 A1 r1 h1 => ?_
  obtain ⟨k, a, b⟩ := tru_of A1.rs r1 h1
  exact ⟨k, a, b _ _ t1 A1.rs⟩
theorem neg_pe {a : Expr} {x : Ex} {pos : Pos} (ha : PE X a (TE X.K T x E)) : PE X (.UnaryOp .USub a pos) (TE X.K T (.neg x) E) := by
  refine (pe_un un_neg ha).imp ?_
  intro σ H Q h
  obtain ⟨F, env, S, A, h⟩ := h.at
  refine TE.one A h fun v S1 u F1 H1 t A1 r q => ?_
  obtain ⟨i, rfl, q⟩ := q
  exact ⟨i, r, q _ _ _ t A1.rs rfl⟩
theorem not_pe {a : Expr} {x : Ex} {pos : Pos} (ha : PE X a (TE X.K T x E)) (hb : PT X a (TT X.K T x E)) : PE X (.UnaryOp .Not a pos) (TE X.K T (.nott x) E) ∧ PT X (.UnaryOp .Not a pos) (TT X.K T (.nott x) E) := by
  refine ⟨(pe_notT ha).imp ?_, (pt_not hb).imp ?_⟩
  · intro σ H Q h
    obtain ⟨F, env, S, A, h⟩ := h.at
    refine TE.one A (wT_wE x h) fun v S1 u F1 H1 t1 A1 r1 h1 => ?_
    obtain ⟨k, a, b⟩ := tru_of A1.rs r1 h1
    exact ⟨k, a, b _ _ _ t1 A1.rs rfl⟩
  · intro σ H Q h
    obtain ⟨F, env, S, A, h⟩ := h.at
    exact TT.one A h fun b S1 F1 H1 t1 A1 h1 => h1 _ _ t1 A1.rs
theorem ife_pe {t a b : Expr} {x y z : Ex} {pos : Pos} (ht : PT X t (TT X.K T x E)) (ha : PE X a (TE X.K T y E)) (hb : PE X b (TE X.K T z E)) : PE X (.IfExp t a b pos) (TE X.K T (.ife x y z) E) := by
  refine (pe_ifExp ht ha hb).imp ?_
  intro σ H Q h
  obtain ⟨F, env, S, A, h⟩ := h.at
  refine TT.one A h fun c S1 F1 H1 t1 A1 h1 => ?_
  cases c with
  | true => exact ⟨F1, env, S1, A1.f0, A1.re, A1.rs, wE_mono y (fun _ _ => up_tm t1) (fun _ _ z => z) h1⟩
  | false => exact ⟨F1, env, S1, A1.f0, A1.re, A1.rs, wE_mono z (fun _ _ => up_tm t1) (fun _ _ z => z) h1⟩
theorem len_ok {F : Hp} {xs : List Val} {us : List V} {as : Ex} (r : RVs X.K F xs us) (h : xs.length = exLen as) (hl : exLen as ≤ 1000) : us.length ≤ sizeLine := by
  rw [← r.length, h, sizeLine_eq]; omega
theorem tup_pe {es : List Expr} {as : Ex} {k : Nat} {pos : Pos} (hl : exLen as ≤ 1000) (ha : PA X es (TA X.K T as E)) : PE X (.Tuple es k pos) (TE X.K T (.tup as) E) := by
  refine (pe_tup ha).imp ?_
  intro σ H Q h
  obtain ⟨F, env, S, A, h⟩ := h.at
  exact TA.one A (wA_len as h) fun xs S1 us F1 H1 t A1 r q => ⟨len_ok r q.1 hl, fun p hp => up_tup (up_tm t q.2) A1.rs hp r⟩
theorem lst_pe {m : Bool} {es : List Expr} {as : Ex} {pos : Pos} (hl : exLen as ≤ 1000) (ha : PA X es (TA X.K T as E)) : PE X (.List es pos) (TE X.K T (.lst m as) E) := by
  refine (pe_lst ha).imp ?_
  intro σ H Q h
  obtain ⟨F, env, S, A, h⟩ := h.at
  refine TA.one A (wA_len as h) fun xs S1 us F1 H1 t A1 r q => ⟨len_ok r q.1 hl, fun p hp => ?_⟩
  cases m with
  | true => exact up_new (up_tm t (q.2 p (A1.rs.free hp))) A1.rs hp (.lst r)
  | false => exact up_sl (up_tm t q.2) A1.rs hp r
theorem slc_pe {m : Bool} {a : Expr} {lo hi : Option Expr} {x l h : Ex} {p2 pos : Pos} (ha : PE X a (TE X.K T x E)) (hl : PO X lo (TO X.K T l E)) (hh : PO X hi (TO X.K T h E)) : PE X (.Subscript a (.Slice lo hi none p2) pos) (TE X.K T (.slc m x l h) E) := by
  refine (pe_slice (lsl m) ha hl hh).imp ?_
  intro σ H Q w
  obtain ⟨F, env, S, A, w⟩ := w.at
  refine TE.one A w fun v S1 u F1 H1 t1 A1 r1 h1 => ?_
  refine ⟨F1, env, S1, A1.f0, A1.re, A1.rs, wO_mono l (fun o S2 h2 F2 H2 t2 s2 => ?_) (fun _ _ z => z) h1⟩
  have A2 := A1.next t2 s2
  refine ⟨F2, env, S2, A2.f0, A2.re, A2.rs, wO_mono h (fun o2 S3 h3 F3 H3 t3 s3 => ?_) (fun _ _ z => z) h2⟩
  exact ⟨F3, v, S3, r1.mono (t2.trans t3), s3, opSl_mono (fun _ _ => up_tm ((t1.trans t2).trans t3)) h3⟩
theorem chain_pe {a b c : Expr} {x y z : Ex} {o o' : CmpOp} {pos : Pos} (O : CtxOk T C X) (hm : behindInMarks o' c = false) (ha : PE X a (TE X.K T x E)) (hb : PE X b (TE X.K T y E)) (hc : PE X c (TE X.K T z E)) :
    PE X (.Compare a [o, o'] [b, c] pos) (TE X.K T (.chain (copIn o) (copIn o') x y z) E) ∧ PT X (.Compare a [o, o'] [b, c] pos) (TT X.K T (.chain (copIn o) (copIn o') x y z) E) := by
  have l := loc (X := X) O.un (copIn o)
  have l' := loc (X := X) O.un (copIn o')
  rw [copIn_ok] at l l'
  refine ⟨(pe_chain l l' ha hb hc hm).imp ?_, (pt_chain l l' ha hb hc hm).imp ?_⟩
  · intro σ H Q h
    obtain ⟨F, env, S, A, h⟩ := h.at
    refine TE.two A h fun v w S2 p q F2 H2 t A2 r1 r2 h => ⟨F2, v, w, S2, r1, r2, A2.rs, opC_mono (fun k h F3 H3 t3 s3 => ⟨k, rfl, ?_⟩) h⟩
    cases k with
    | false => exact h _ _ _ (t.trans t3) s3 rfl
    | true =>
      refine TE.one (A2.next t3 s3) h fun w' S4 u4 F4 H4 t4 A4 r4 h4 => ?_
      exact ⟨F4, w, w', S4, r2.mono (t3.trans t4), r4, A4.rs, opC_mono (fun k h F5 H5 t5 s5 => h _ _ _ (((t.trans t3).trans t4).trans t5) s5 rfl) h4⟩
  · intro σ H Q h
    obtain ⟨F, env, S, A, h⟩ := h.at
    refine TE.two A h fun v w S2 p q F2 H2 t A2 r1 r2 h => ⟨F2, v, w, S2, r1, r2, A2.rs, opC_mono (fun k h F3 H3 t3 s3 => ⟨k, rfl, ?_⟩) h⟩
    cases k with
    | false => exact ⟨false, rfl, h _ _ (t.trans t3) s3⟩
    | true =>
      refine TE.one (A2.next t3 s3) h fun w' S4 u4 F4 H4 t4 A4 r4 h4 => ?_
      exact ⟨F4, w, w', S4, r2.mono (t3.trans t4), r4, A4.rs, opC_mono (fun k h F5 H5 t5 s5 => ⟨k, rfl, h _ _ (((t.trans t3).trans t4).trans t5) s5⟩) h4⟩
theorem TE.go {y : Ex} {F F1 : Hp} {env : Ev} {S1 : Store} {σ : St} {H1 : Hp} {Q : VK} (A1 : At X.K E F1 env σ H1 S1) (t : FS F F1) (h : wE T y env S1 (up X.K F Q) fun x S' => E.p x env S') : TE X.K T y E σ H1 Q :=
  ⟨F1, env, S1, A1.f0, A1.re, A1.rs, wE_mono y (fun _ _ => up_tm t) (fun _ _ z => z) h⟩
theorem TT.go {y : Ex} {F F1 : Hp} {env : Ev} {S1 : Store} {σ : St} {H1 : Hp} {Q : Bool → Hp → Prop} (A1 : At X.K E F1 env σ H1 S1) (t : FS F F1) (h : wT T y env S1 (upB X.K F Q) fun x S' => E.p x env S') : TT X.K T y E σ H1 Q :=
  ⟨F1, env, S1, A1.f0, A1.re, A1.rs, wT_mono y (fun _ _ => upB_tm t) (fun _ _ z => z) h⟩
theorem and_pe {f : Expr → Option Ex} {pos : Pos} : ∀ {es : List Expr} {x : Ex}, (∀ e ∈ es, ∀ y, f e = some y → PE X e (TE X.K T y E) ∧ PT X e (TT X.K T y E)) → cB f .andd es = some x →
    PE X (.BoolOp .And es pos) (TE X.K T x E) ∧ PW X (.BoolOp .And es pos) (TT X.K T x E)
  | [], _, _, h => by cases h
  | [e], x, k, h => by
    obtain ⟨a, b⟩ := k e List.mem_cons_self x h
    exact ⟨pe_one a, pw_and1 b⟩
  | e :: e2 :: es, _, k, h => by
    unfold cB at h
    split at h
    · cases h
      rename_i x y h1 h2
      obtain ⟨a, b⟩ := k e List.mem_cons_self x h1
      obtain ⟨a2, b2⟩ := and_pe (es := e2 :: es) (fun e he => k e (List.mem_cons_of_mem _ he)) h2
      refine ⟨(pe_andT a a2).imp ?_, ?_⟩
      · intro σ H Q h
        obtain ⟨F, env, S, A, h⟩ := h.at
        refine TE.one A h fun v S1 u F1 H1 t1 A1 r1 h1 => ?_
        obtain ⟨k, p, q⟩ := tru_of A1.rs r1 h1
        refine ⟨k, p, ?_⟩
        cases k with
        | true => exact TE.go A1 t1 q
        | false => exact q _ _ _ t1 A1.rs r1
      · refine ⟨fun wh pins s σ H Q I h => (pw_and b b2).run wh pins s σ H Q I ?_⟩
        obtain ⟨F, env, S, A, h⟩ := h.at
        refine TT.one A h fun v S1 F1 H1 t1 A1 h1 => ?_
        cases v with
        | true => exact TT.go A1 t1 h1
        | false => exact h1 _ _ t1 A1.rs
    · cases h
theorem or_pe {f : Expr → Option Ex} {pos : Pos} : ∀ {es : List Expr} {x : Ex}, (∀ e ∈ es, ∀ y, f e = some y → PE X e (TE X.K T y E) ∧ PT X e (TT X.K T y E)) → cB f .orr es = some x →
    PE X (.BoolOp .Or es pos) (TE X.K T x E) ∧ PW X (.BoolOp .Or es pos) (TT X.K T x E)
  | [], _, _, h => by cases h
  | [e], x, k, h => by
    obtain ⟨a, b⟩ := k e List.mem_cons_self x h
    exact ⟨pe_one a, pw_or1 b⟩
  | e :: e2 :: es, _, k, h => by
    unfold cB at h
    split at h
    · cases h
      rename_i x y h1 h2
      obtain ⟨a, b⟩ := k e List.mem_cons_self x h1
      obtain ⟨a2, b2⟩ := or_pe (es := e2 :: es) (fun e he => k e (List.mem_cons_of_mem _ he)) h2
      refine ⟨(pe_orT a a2).imp ?_, ?_⟩
      · intro σ H Q h
        obtain ⟨F, env, S, A, h⟩ := h.at
        refine TE.one A h fun v S1 u F1 H1 t1 A1 r1 h1 => ?_
        obtain ⟨k, p, q⟩ := tru_of A1.rs r1 h1
        refine ⟨k, p, ?_⟩
        cases k with
        | false => exact TE.go A1 t1 q
        | true => exact q _ _ _ t1 A1.rs r1
      · refine ⟨fun wh pins s σ H Q I h => (pw_or b b2).run wh pins s σ H Q I ?_⟩
        obtain ⟨F, env, S, A, h⟩ := h.at
        refine TT.one A h fun v S1 F1 H1 t1 A1 h1 => ?_
        cases v with
        | false => exact TT.go A1 t1 h1
        | true => exact h1 _ _ t1 A1.rs
    · cases h
theorem E_K {Y : Cx} {e : Expr} {x : Ex} (hK : Y.K = X.K) (h : PE Y e (TE Y.K T x E)) : PE Y e (TE X.K T x E) := hK ▸ h
theorem T_K {Y : Cx} {e : Expr} {x : Ex} (hK : Y.K = X.K) (h : PT Y e (TT Y.K T x E)) : PT Y e (TT X.K T x E) := hK ▸ h
theorem G_K {Y : Cx} {e : Expr} {g : Tg} (hK : Y.K = X.K) (h : PG Y e (GT Y.K g)) : PG Y e (GT X.K g) := hK ▸ h
end
end BW
set_option Elab.async false
set_option linter.all false
set_option maxRecDepth 100000
set_option maxHeartbeats 4000000
namespace BW
open PySem PySem.Spec PyProof.Rows L2
section
variable {X : Cx} {T : Tb} {C : Cc} {E : EE}
abbrev IHE (X : Cx) (T : Tb) (E : EE) (f : Expr → Option Ex) : Prop := ∀ e x, f e = some x → plainE e = true ∧ PE X e (TE X.K T x E)
theorem is_ok (O : CtxOk T C X) (xo : ExOk T X E) {f : Expr → Option Ex} (IH : IHE X T E f) {args : List Expr} {ex : Ex} {p pos : Pos} (hi : isGl C "isinstance" = true) (h : cIs C f args = some ex) : PE X (.Call (.Name "isinstance" p) args [] pos) (TE X.K T ex E) := by
  have fin : ∀ {a : Expr} {t : Str} {p2 : Pos} {ex : Ex}, (match isGl C t && decide (C.fns.lookup (t, 1) = none), tyTab.lookup t, f a with
      | true, some ty, some x => some (Ex.isty x ty)
      | _, _, _ => none) = some ex → PE X (.Call (.Name "isinstance" p) [a, .Name t p2] [] pos) (TE X.K T ex E) := fun {a t p2 ex} h => by
    split at h
    · rename_i ty y h1 h2 h3
      cases h
      rw [Bool.and_eq_true] at h1
      obtain ⟨pl, pe⟩ := IH _ _ h3
      exact isty_pe O h2 h1.1 hi pl pe
    · cases h
  unfold cIs at h
  split at h
  · rename_i a p1 t p2
    split at h
    · split at h
      · rename_i hx i c h1 h2 h3
        cases h
        rw [Bool.and_eq_true] at h3
        have hv := beq_iff_eq.mp h3.1
        unfold clsOf at h2
        split at h2
        · rename_i hg
          exact exis1_pe O xo h3.2 h1 hv h2 hg hi
        · cases h2
      · cases h
    · split at h
      · rename_i c hc
        split at h
        · rename_i y h1 h2
          cases h
          obtain ⟨pl, pe⟩ := IH _ _ h2
          exact iscl_pe O hc h1 hi pl pe
        · cases h
      · exact fin h
  · rename_i a p1 es kk p2
    split at h
    · rename_i hb
      rw [Bool.and_eq_true] at hb
      split at h
      · rename_i i c0 cs h1 h2 h3
        cases h
        rw [Bool.and_eq_true] at h3
        have hv := beq_iff_eq.mp h3.1
        exact exisN_pe O xo h3.2 h1 hv h2 (of_decide_eq_true hb.2) hi
      · cases h
    · cases h
  · exact fin h
  · cases h
theorem call_ok (O : CtxOk T C X) (xo : ExOk T X E) (tk : TakesB X E) {f : Expr → Option Ex} (IH : IHE X T E f) {x : Str} {a : Expr} {as : List Expr} {ex : Ex} {p pos : Pos}
    (h : cCall C f x (a :: as) = some ex) : PE X (.Call (.Name x p) (a :: as) [] pos) (TE X.K T ex E) := by
  unfold cCall at h
  split at h
  · cases h
  · rename_i hg
    obtain ⟨g1, g2, g3⟩ := isGl_ok O hg
    split at h
    · rename_i hx
      have hx := beq_iff_eq.mp hx
      subst hx
      exact is_ok O xo IH hg h
    · split at h
      · rename_i q hq
        split at h
        · rename_i as' hh ha
          cases h
          obtain ⟨pa, pl⟩ := args_of IH ha
          obtain ⟨k, hr, _, _, hm, _⟩ := O.room hh
          obtain ⟨g, j, e, rfl, M⟩ := hm _ (lkMem hq)
          exact mk_pe hr e M tk g1 g2 pa pl
        · cases h
      · split at h
        · rename_i q hq
          split at h
          · rename_i as' hh ha
            cases h
            obtain ⟨pa, pl⟩ := args_of IH ha
            obtain ⟨k, hr, Fn, _⟩ := O.room hh
            exact call_pe hr (Fn _ (lkMem hq)) tk g1 g2 pa pl
          · cases h
        · split at h
          · rename_i b as' hb ha
            split at h
            · rename_i hc
              cases h
              obtain ⟨pa, pl⟩ := args_of IH ha
              exact blt_pe O hb hc hg pa pl
            · cases h
          · cases h
/-- a method's call in the text -/
theorem kw_all {pos : Pos} {env : Env} : ∀ {es : List Expr}, (∀ e ∈ es, plainE e = true) → (backTo pos (starEach es env)).all (fun x => !x.1) = true
  | [], _ => rfl
  | e :: es, h => by
    rw [star_cons (h e List.mem_cons_self)]
    show (true && (backTo pos (starEach es env)).all (fun x => !x.1)) = true
    rw [kw_all fun a ha => h a (List.mem_cons_of_mem _ ha)]
    rfl
theorem meth_eq {o : Expr} {m : Str} {apos pos : Pos} {args : List Expr} {env : Env} (hb : baseOk o = true) (hl : (apos.endLine == pos.line) = true) (hp : ∀ e ∈ args, plainE e = true) (hn : args.length < 29) : eval (.Call (.Attribute o m apos) args [] pos) env = (do
      let r ← eval o env
      standAt apos.atName
      let (g, first) ← holding [r] (getMethod r m (do return (← importBound o env).getD true))
      callWith pos g first (backTo pos (starEach args env)) (backToKw pos (keywordEach [] env))) := by
  have few : methodCallForm (args.length + ([] : List Keyword).length) (backTo pos (starEach args env)) (backToKw pos (keywordEach [] env)) = true := by
    unfold methodCallForm
    rw [kw_all hp]
    show (true && decide (args.length + 0 + 0 < 30)) = true
    rw [decide_eq_true (by omega)]
    rfl
  rw [arm_eval_Call, base_plain hb]
  refine congrArg (bind _) (funext fun ov => ?_)
  refine congrArg (bind _) (funext fun _ => ?_)
  unfold methodCall calleeOf methodCallPos
  rw [few, hl]
  rfl
theorem call0_ok (O : CtxOk T C X) (tk : TakesB X E) {x : Str} {ex : Ex} {p pos : Pos} (h : cCall0 C x = some ex) : PE X (.Call (.Name x p) [] [] pos) (TE X.K T ex E) := by
  unfold cCall0 at h
  split at h
  · rename_i q hg hh hl
    cases h
    obtain ⟨g1, g2, g3⟩ := isGl_ok O hg
    obtain ⟨k, hr, Fn, _⟩ := O.room hh
    obtain ⟨addr, fd, ps, ds, dV, F0, hm, hk, hb, hv, hdV⟩ := Fn _ (lkMem hl)
    constructor
    intro pins s σ H Q I h
    obtain ⟨F, env, S, A, h⟩ := h.at
    have h1 : wA T .nil env S (fun vs S1 => wCall T q.1 (vs ++ q.2) S1 (up X.K F Q) fun x S' => E.p x env S') fun x S' => E.p x env S' := h
    rw [wA_nil] at h1
    refine wpAny_Call_Name_kw (ld_glob I g1 hm ?_ g2)
    exact PySem.W.callWith_K0 I.kIn hk (run_fnSD (us := []) (vs := []) F0 hr hb hv (passAt tk σ) I .nil (wCall_sp (vs := []) A rfl (hdV F) h1))
  · cases h
theorem methC_ok (O : CtxOk T C X) (tk : TakesB X E) {f : Expr → Option Ex} (IH : IHE X T E f) {o : Expr} {m : Str} {args : List Expr} {ex : Ex} {apos pos : Pos}
    (h : cMeth C f o m args (apos.endLine == pos.line) = some ex) : PE X (.Call (.Attribute o m apos) args [] pos) (TE X.K T ex E) := by
  unfold cMeth at h
  split at h
  · cases h
  · rename_i hb
    rw [Bool.and_eq_true] at hb
    have hn := of_decide_eq_true hb.2
    have fin : ∀ {o : Expr} {ex : Ex}, (match isMeth m && baseOk o, C.hot, f o, cL f args with
      | true, false, some y, some as => some (Ex.meth y (fix m) as)
      | _, _, _, _ => none) = some ex → PE X (.Call (.Attribute o m apos) args [] pos) (TE X.K T ex E) := fun {o ex} h => by
      split at h
      · rename_i y as h1 hh h2 h3
        cases h
        rw [Bool.and_eq_true] at h1
        have hm := (of_decide_eq_true h1.1).2
        have pl := (args_of IH h3).2
        exact meth_pe O hh tk hm h1.2 (IH _ _ h2).2 h3 IH (meth_eq h1.2 hb.1 pl hn)
      · cases h
    split at h
    · rename_i x p
      split at h
      · rename_i hg
        split at h
        · rename_i c e es as h1 hh h2 h3
          cases h
          have hx := beq_iff_eq.mp h1
          subst hx
          obtain ⟨g1, g2, g3⟩ := isGl_ok O hg
          obtain ⟨k, hr, _, _, _, hs⟩ := O.room hh
          obtain ⟨g, e1, M⟩ := hs _ (lkMem h2)
          obtain ⟨pa, pl⟩ := args_of IH h3
          exact sup_pe O hr e1 M tk g1 g2 pa pl (meth_eq rfl hb.1 pl hn)
        · cases h
      · refine fin (o := .Name x p) ?_
        have e : baseOk (.Name x p) = true := rfl
        rw [e, Bool.and_true]
        exact h
    · exact fin h
theorem fldC_ok (O : CtxOk T C X) (xo : ExOk T X E) {f : Expr → Option Ex} (IH : IHE X T E f) {o : Expr} {m : Str} {ex : Ex} {pos : Pos} (h : cFld C f o m = some ex) : PE X (.Attribute o m pos) (TE X.K T ex E) := by
  unfold cFld at h
  split at h
  · cases h
  · rename_i hb
    rw [Bool.and_eq_true] at hb
    have hm := of_decide_eq_true hb.1
    have fin : ∀ {o : Expr} {ex : Ex}, baseOk o = true → ((f o).map fun y => Ex.fld y (fix m)) = some ex → PE X (.Attribute o m pos) (TE X.K T ex E) := fun {o ex} h1 h => by
      cases e : f o with
      | none => rw [e] at h; cases h
      | some y =>
        rw [e] at h
        cases h
        exact fld_pe O hm h1 (IH _ _ e).2
    split at h
    · rename_i x p
      split at h
      · split at h
        · rename_i i h1 h2
          cases h
          rw [Bool.and_eq_true] at h2
          exact exfl_pe O xo h2.2 h1 (beq_iff_eq.mp h2.1) hm
        · cases h
      · exact fin rfl h
    · exact fin hb.2 h
end
theorem cE_ok {T : Tb} : ∀ (n : Nat) {C : Cc} {X : Cx} {e : Expr} {x : Ex} {E : EE}, CtxOk T C X → ExOk T X E → TakesB X E → cE n C e = some x → PE X e (TE X.K T x E) ∧ PT X e (TT X.K T x E)
  | 0, _, _, _, _, _, _, _, _, h => by cases h
  | n + 1, C, X, e, x, E, O, xo, tk, h => by
    have IH : ∀ (e : Expr) (x : Ex), cE n C e = some x → PE X e (TE X.K T x E) ∧ PT X e (TT X.K T x E) := fun e x h => cE_ok n O xo tk h
    have IHp : IHE X T E (cE n C) := fun e x h => ⟨cE_plain h, (IH e x h).1⟩
    have both : ∀ {e : Expr} {x : Ex}, PE X e (TE X.K T x E) → (∀ whole, isTrue e X.env whole = (do let v ← whole; standAt e.pos; holding [v] (truthy v))) → PE X e (TE X.K T x E) ∧ PT X e (TT X.K T x E) := fun h he => ⟨h, pt_of_pe h he⟩
    unfold cE at h
    have h0 := orDead_some h
    clear h
    rcases h0 with h | ⟨rfl, _⟩
    rotate_left
    · exact ⟨⟨fun _ _ _ _ _ _ ⟨_, _, _, _, _, _, z⟩ => z.elim⟩, ⟨fun _ _ _ _ _ _ ⟨_, _, _, _, _, _, z⟩ => z.elim⟩⟩
    split at h
    · exact both (name_pe O h) fun _ => rfl
    · rename_i c k p
      cases q : constIn c with
      | none => rw [q] at h; cases h
      | some v =>
        rw [q] at h
        cases h
        exact both (const_pe q) fun _ => rfl
    · rename_i a op b p
      split at h
      · rename_i o y z h1 h2 h3
        cases h
        rw [← bopIn_ok h1]
        exact both (bin_pe (IH _ _ h2).1 (IH _ _ h3).1) fun _ => rfl
      · cases h
    · rename_i a p
      cases q : cE n C a with
      | none => rw [q] at h; cases h
      | some y =>
        rw [q] at h
        cases h
        exact both (neg_pe (IH _ _ q).1) fun _ => rfl
    · rename_i a p
      cases q : cE n C a with
      | none => rw [q] at h; cases h
      | some y =>
        rw [q] at h
        cases h
        exact not_pe (IH _ _ q).1 (IH _ _ q).2
    · rename_i a b r p
      obtain ⟨h1, h2⟩ := and_pe (pos := p) (fun e _ y hy => IH e y hy) h
      exact ⟨h1, h2.pt⟩
    · rename_i a b r p
      obtain ⟨h1, h2⟩ := or_pe (pos := p) (fun e _ y hy => IH e y hy) h
      exact ⟨h1, h2.pt⟩
    · rename_i a op b p
      split at h
      · rename_i y z hd h1 h2
        cases h
        exact cmp_pe O (mark_plain (cE_plain h2)) (IH _ _ h1).1 (IH _ _ h2).1
      · rename_i y z hd h1 h2
        cases h
        rw [Bool.and_eq_true, Bool.or_eq_true] at hd
        rcases hd.2 with e | e
        · have e := beq_iff_eq.mp e
          subst e
          exact din_pe O false (cE_plain h2) (IH _ _ h1).1 (IH _ _ h2).1
        · have e := beq_iff_eq.mp e
          subst e
          exact din_pe O true (cE_plain h2) (IH _ _ h1).1 (IH _ _ h2).1
      · cases h
    · rename_i a op op' b c p
      split at h
      · rename_i y z u h1 h2 h3
        cases h
        exact chain_pe O (mark_plain (cE_plain h3)) (IH _ _ h1).1 (IH _ _ h2).1 (IH _ _ h3).1
      · cases h
    · rename_i t a b p
      split at h
      · rename_i y z u h1 h2 h3
        cases h
        refine ⟨ife_pe (IH _ _ h1).2 (IH _ _ h2).1 (IH _ _ h3).1, ⟨fun pins s σ H Q I ⟨_, _, _, _, _, _, w⟩ => w.elim⟩⟩
      · cases h
    · rename_i x' p a as pos
      exact both (call_ok O xo tk IHp h) fun _ => rfl
    · rename_i x' p pos
      exact both (call0_ok O tk h) fun _ => rfl
    · rename_i o m apos args cpos
      exact both (methC_ok O tk IHp h) fun _ => rfl
    · rename_i o m apos
      exact both (fldC_ok O xo IHp h) fun _ => rfl
    · cases h
      exact ⟨dnew_pe, ⟨fun pins s σ H Q I ⟨_, _, _, _, _, _, w⟩ => w.elim⟩⟩
    · rename_i a lo hi p2 p
      split at h
      · rename_i y l u h1 h2 h3
        cases h
        exact both (slc_pe (IH _ _ h1).1 (part_po h2 fun b x _ hb => (IH _ _ hb).1) (part_po h3 fun b x _ hb => (IH _ _ hb).1)) fun _ => rfl
      · cases h
    · rename_i a i p _
      split at h
      · rename_i y z h1 h0 h2 h3
        cases h
        exact both (idx_pe h1 (IH _ _ h2).1 (IH _ _ h3).1) fun _ => rfl
      · rename_i y z h1 h0 h2 h3
        cases h
        exact both (dget_pe O h1 (IH _ _ h2).1 (IH _ _ h3).1) fun _ => rfl
      · cases h
    · rename_i es p
      split at h
      · rename_i as h1 h2
        cases h
        exact both (lst_pe (by rw [cL_len h2]; exact of_decide_eq_true h1) (args_of IHp h2).1) fun _ => rfl
      · cases h
    · rename_i es k p
      split at h
      · rename_i as h1 h2
        cases h
        exact both (tup_pe (by rw [cL_len h2]; exact of_decide_eq_true h1) (args_of IHp h2).1) fun _ => rfl
      · cases h
    · rename_i elt tg iter ifs scope p
      split at h
      · cases h
      · rename_i hz
        simp only [Bool.or_eq_false_iff, Bool.not_eq_false'] at hz
        obtain ⟨⟨hh, hb⟩, hset⟩ := hz
        split at h
        · rename_i k as g y h1 h2 h3
          split at h
          · rename_i hs
            have hs' : ∀ i ∈ g.slots, i ∈ (ownOf C scope).map (·.2) := fun i hi => List.contains_iff_mem.mp (List.all_eq_true.mp hs i hi)
            have hbk := blkOk_by hb
            have nx := O.noex hh
            have pg : ∀ Y, CtxOk T (blkCc C scope) Y → Y.K = X.K → PG Y tg (GT X.K g) := fun Y OY hK => G_K hK (tg_pg OY h2)
            have pe : ∀ Y, CtxOk T (blkCc C scope) Y → Y.K = X.K → PE Y elt (TE X.K T y E0) := fun Y OY hK => E_K hK (cE_ok n OY (exok_none nx) takes_E0 h3).1
            split at h
            · cases h
              refine both (comp_pe O hh hbk hs' (it_ok O IHp h1) hset pg (fun Y OY hK => ⟨fun pins s σ H Q I q => pts_nil.run pins s σ H Q I ?_⟩) pe) fun _ => rfl
              obtain ⟨F, _, _, _, rs, q⟩ := q
              exact q F _ .refl rs
            · rename_i c
              cases q : cE n (blkCc C scope) c with
              | none => rw [q] at h; cases h
              | some z =>
                rw [q] at h
                cases h
                refine both (comp_pe O hh hbk hs' (it_ok O IHp h1) hset pg (fun Y OY hK => pts_one ⟨fun pins s σ H Q I w => ?_⟩) pe) fun _ => rfl
                obtain ⟨F, env, S, re, rs, w⟩ := w
                exact (T_K hK (cE_ok n OY (exok_none nx) takes_E0 q).2).run pins s σ H Q I ⟨F, env, S, fs_none, re, rs, w⟩
            · cases h
          · cases h
        · cases h
    · cases h
end BW
set_option Elab.async false
set_option linter.all false
set_option maxRecDepth 100000
set_option maxHeartbeats 4000000
namespace BW
open PySem PySem.Spec PyProof.Rows L2
/-! ### statements of the text -/
def isComp : Expr → Bool
  | .ListComp _ _ _ _ => true
  | .SetComp _ _ _ _ => true
  | .DictComp _ _ _ _ _ => true
  | _ => false
def bmTab : List ((Str × Nat) × Bm) := [(("append", 1), .append), (("extend", 1), .extend), (("clear", 0), .clear), (("reverse", 0), .reverse)]
def tupOf : Expr → Option (List Expr)
  | .Tuple es _ _ => some es
  | _ => none
/-- the comprehension's list goes to a name of the def's own -/
def swB (C : Cc) (x : Str) (px : Pos) (e : Expr) : Bool := match e with
  | .ListComp _ _ scope pos => decide (C.sc.names.lookup x = some .local) && px.line == pos.line && !(scope.names.any fun q => q.1 == x && (q.2 == .local || q.2 == .cell))
  | _ => false
def cSs (f : Stmt → Option Sx) : List Stmt → Option Sx
  | [] => some .skip
  | [s] => f s
  | s :: r => match f s, cSs f r with
    | some a, some b => some (.seq a b)
    | _, _ => none
def augOk : Operator → Option Bop
  | .Add => some .add
  | .Sub => some .sub
  | .Mult => some .mul
  | _ => none
def parB (C : Cc) (x y : Str) (px py : Pos) (a b : Expr) : Bool := decide (C.sc.names.lookup x = some .local) && decide (C.sc.names.lookup y = some .local) && py.line == px.line && !(x == y) && !([a, b].all (foldedForSure 8)) && !([a, b].all (constantsAlone 8))
/-- a value that changes later on: its outermost thing is kept in the store -/
def cComp (n : Nat) (C : Cc) (m : Bool) (elt tg iter : Expr) (ifs : List Expr) (scope : Scope) : Option Ex := match C.hot || !blkC C.N C.sc scope (ownOf C scope) || isSet iter with
  | true => none
  | false => match cIt C (cE n C) (isTup tg) iter, cTg (blkCc C scope) tg, cE n (blkCc C scope) elt with
    | some (k, as), some g, some x => if (g.slots.all fun i => ((ownOf C scope).map (·.2)).contains i) = true then match ifs with
      | [] => some (.comp m ((ownOf C scope).map (·.2)) g k as false .nil x)
      | [c] => (cE n (blkCc C scope) c).map fun y => .comp m ((ownOf C scope).map (·.2)) g k as true y x
      | _ => none
      else none
    | _, _, _ => none
def mB : Bi → Bi
  | .list => .listM
  | .sorted => .sortedM
  | b => b
def cMb (n : Nat) (C : Cc) (e : Expr) : Option Ex := match e with
  | .List es _ => match decide (es.length ≤ 1000), cL (cE n C) es with
    | true, some as => some (.lst true as)
    | _, _ => none
  | .BinOp a .Add b _ => match cE n C a, cE n C b with
    | some x, some y => some (.bin .addM x y)
    | _, _ => none
  | .BinOp a .Mult b _ => match cE n C a, cE n C b with
    | some x, some y => some (.bin .mulM x y)
    | _, _ => none
  | .Subscript a (.Slice lo hi none _) _ => match cE n C a, cO (cE n C) lo, cO (cE n C) hi with
    | some x, some l, some h => some (.slc true x l h)
    | _, _, _ => none
  | .ListComp elt [⟨tg, iter, ifs, 0⟩] scope _ => cComp n C true elt tg iter ifs scope
  | e => cE (n + 1) C e
def cM : Nat → Cc → Expr → Option Ex
  | 0, _, _ => none
  | n + 1, C, e => cMb n C e
/-- which of both -/
def cV (n : Nat) (C : Cc) (m : Bool) (e : Expr) : Option Ex := match m with
  | true => cM n C e
  | false => cE n C e
def cExS (C : Cc) (f : Expr → Option Ex) (e : Expr) : Option Sx := match isComp e with
  | true => none
  | false => (f e).map .expr
def cBm (C : Cc) (f : Expr → Option Ex) (m : Str) (o : Expr) (args : List Expr) (b : Bool) : Option Sx := match bmTab.lookup (m, args.length), baseOk o && b with
  | some b, true => match f o, cL f args with
    | some x, some as => some (.bm b x as)
    | _, _ => none
  | _, _ => none
def isBm (m : Str) (n : Nat) : Bool := (bmTab.lookup (m, n)).isSome
def cExpr (C : Cc) (f : Expr → Option Ex) (e : Expr) : Option Sx := match e with
  | .Call (.Attribute o m apos) args [] cpos => match isBm m args.length with
    | true => cBm C f m o args (apos.endLine == cpos.line)
    | false => cExS C f (.Call (.Attribute o m apos) args [] cpos)
  | e => cExS C f e
def cAsgN (C : Cc) (n : Nat) (x : Str) (px : Pos) (e : Expr) (pos : Pos) : Option Sx := match cTn C x, cV n C (C.mtb.contains x) e with
  | some i, some y => match swB C x px e && (px.line == pos.line) with
    | true => some (.asg (.nm i) y)
    | false => match isComp e with
      | true => none
      | false => some (.asg (.nm i) y)
  | _, _ => none
def cPar (C : Cc) (f : Expr → Option Ex) : List Expr → List Expr → Option Sx
  | [.Name x px, .Name y py], [a, b] => match parB C x y px py a b && !C.hot with
    | true => match ixOf x C.N, ixOf y C.N, f a, f b with
      | some i, some j, some u, some v => some (.par i j u v)
      | _, _, _, _ => none
    | false => none
  | _, _ => none
def cAsgT (C : Cc) (f : Expr → Option Ex) (tg : Expr) (e : Expr) : Option Sx := match isComp e with
  | true => none
  | false => match cTg C tg, f e with
    | some g, some y => some (.asg g y)
    | _, _ => none
def cAsgF (C : Cc) (n : Nat) (o : Expr) (f : Str) (e : Expr) : Option Sx := match decide (fix f < nmT.length), cV n C (C.mtb.contains f) e, cE n C o with
  | true, some y, some x => some (.asgF x (fix f) y)
  | _, _, _ => none
def cAsgI (C : Cc) (f : Expr → Option Ex) (o i e : Expr) : Option Sx := match isSlice i, f e, f o, f i with
  | false, some z, some x, some y => match isDicE C o with
    | true => some (.asgD x y z)
    | false => some (.asgI x y z)
  | _, _, _, _ => none
def cAsg (C : Cc) (n : Nat) (ts : List Expr) (e : Expr) (pos : Pos) : Option Sx := match ts with
  | [.Name x px] => cAsgN C n x px e pos
  | [.Tuple ts k p] => match tupOf e with
    | some es => cPar C (cE n C) ts es
    | none => cAsgT C (cE n C) (.Tuple ts k p) e
  | [.Attribute o f _] => cAsgF C n o f e
  | [.Subscript o i _] => cAsgI C (cE n C) o i e
  | _ => none
def cAug (C : Cc) (f : Expr → Option Ex) (t : Expr) (op : Operator) (e : Expr) : Option Sx := match t with
  | .Name x _ => match cTn C x, augOk op, f e with
    | some i, some o, some y => some (.augN i o y)
    | _, _, _ => none
  | .Subscript o i _ => match isSlice i || isDicE C o, augOk op, f o, f i, f e with
    | false, some q, some x, some y, some z => some (.augI x y q z)
    | _, _, _, _, _ => none
  | _ => none
def cIf (c : Option Ex) (a b : Option Sx) : Option Sx := match c, a, b with
  | some x, some y, some z => some (.ite x y z)
  | _, _, _ => none
def cWhl (c : Option Ex) (a : Option Sx) (b : List Stmt) : Option Sx := match b, c, a with
  | [], some x, some y => some (.whl x y)
  | _, _, _ => none
def cFor (C : Cc) (f : Expr → Option Ex) (tg it : Expr) (a : Option Sx) (b : List Stmt) : Option Sx := match C.hot || isSet it with
  | true => none
  | false => match b, cIt C f (isTup tg) it, cTg C tg, a with
    | [], some (k, as), some g, some y => some (.for_ g k as y)
    | _, _, _, _ => none
def cRet (n : Nat) (C : Cc) : Option Expr → Option Sx
  | none => some .retN
  | some e => (cV n C (C.mtb.contains "return") e).map .ret
def orDeadS : Option Sx → Option Sx
  | some x => some x
  | none => some (.expr .nil)
theorem orDeadS_some {o : Option Sx} {x : Sx} (h : orDeadS o = some x) : o = some x ∨ x = .expr .nil := by
  unfold orDeadS at h
  split at h
  · exact .inl h
  · cases h; exact .inr rfl
def cRaise (C : Cc) : Expr → Option Sx
  | .Call (.Name x _) [.Constant (.str _) _ _] [] _ => match isGl C x, C.hot, C.exs.lookup x with
    | true, false, some c => some (.raise c [] .nil)
    | _, _, _ => none
  | _ => none
/-- the clauses of a try -/
def cCk (C : Cc) : Expr → Option (List Nat)
  | .Name x _ => (clsOf C x).map fun c => [c]
  | .Tuple es _ _ => match decide (es.length ≤ 1000) with
    | true => clsesOf C es
    | false => none
  | _ => none
def cNm (C : Cc) : Option Str → Option (Option Nat)
  | none => some none
  | some n => match C.sc.names.lookup n == some .local, ixOf n C.N with
    | true, some i => some (some i)
    | _, _ => none
def cHs (f : Cc → List Stmt → Option Sx) (C : Cc) : List ExceptHandler → Option Sx
  | [] => some .hnil
  | .ExceptHandler (some t) nm (b :: s) _ :: r => match cCk C t, cNm C nm, f { C with hot := true, exv := nm } (b :: s), cHs f C r with
    | some cs, some io, some x, some y => some (.hcons cs io x y)
    | _, _, _, _ => none
  | _ => none
def cTry (C : Cc) (a : Option Sx) (h : Option Sx) (el fi : List Stmt) : Option Sx := match C.hot, el, fi, a, h with
  | false, [], [], some x, some y => some (.tri x y)
  | _, _, _, _, _ => none
def cS : Nat → Cc → Stmt → Option Sx
  | 0, _, _ => none
  | n + 1, C, st => orDeadS (match st with
    | .Pass _ => some .skip
    | .Break _ => some .brk
    | .Continue _ => some .cnt
    | .Return e _ => cRet n C e
    | .Expr e _ => cExpr C (cE n C) e
    | .Assign ts e pos => cAsg C n ts e pos
    | .AugAssign t op e _ => cAug C (cE n C) t op e
    | .If c a b _ => cIf (cE n C c) (cSs (cS n C) a) (cSs (cS n C) b)
    | .While c b el _ => cWhl (cE n C c) (cSs (cS n C) b) el
    | .For tg it b el _ => cFor C (cE n C) tg it (cSs (cS n C) b) el
    | .Raise (some e) none _ => cRaise C e
    | .Try b (h :: hs) el fi _ => cTry C (cSs (cS n C) b) (cHs (fun D l => cSs (cS n D) l) C (h :: hs)) el fi
    | _ => none)
/-! ### what a statement means -/
def low (K : PySem.W.Frag) (F : Hp) (D : Ends) (E : EE) : Post where
  nx := fun env S' => ∀ σ' F' H', FS F F' → RS K F' H' S' → RE K F' env σ' → D.nx σ' H'
  rt := fun v S' => ∀ z F' H', FS F F' → RS K F' H' S' → RV K F' v z → D.rt z H'
  bk := fun env S' => ∀ σ' F' H', FS F F' → RS K F' H' S' → RE K F' env σ' → D.bk σ' H'
  ct := fun env S' => ∀ σ' F' H', FS F F' → RS K F' H' S' → RE K F' env σ' → D.ct σ' H'
  ex := E.p
def TSx (K : PySem.W.Frag) (T : Tb) (s : Sx) (E : EE) : L2.TS := fun D σ H => ∃ F env S, FS E.F0 F ∧ RE K F env σ ∧ RS K F H S ∧ wS T s env S (low K F D E)
theorem low_tm {K : PySem.W.Frag} {F F' : Hp} {D : Ends} {E : EE} (t : FS F F') : Post.Le (low K F D E) (low K F' D E) :=
  ⟨fun _ _ h σ F2 H2 t2 => h σ F2 H2 (t.trans t2), fun _ _ h z F2 H2 t2 => h z F2 H2 (t.trans t2), fun _ _ h σ F2 H2 t2 => h σ F2 H2 (t.trans t2), fun _ _ h σ F2 H2 t2 => h σ F2 H2 (t.trans t2), fun _ _ _ h => h⟩
section
variable {X : Cx} {T : Tb} {C : Cc} {E : EE}
theorem TSx.at {s : Sx} {E : EE} {σ : St} {H : Hp} {D : Ends} {K : PySem.W.Frag} (h : TSx K T s E D σ H) : ∃ F env S, At K E F env σ H S ∧ wS T s env S (low K F D E) :=
  let ⟨F, env, S, f0, re, rs, h⟩ := h
  ⟨F, env, S, ⟨f0, re, rs⟩, h⟩
theorem TSx.go {s : Sx} {F F1 : Hp} {env : Ev} {S1 : Store} {σ : St} {H1 : Hp} {D : Ends} {K : PySem.W.Frag} (A1 : At K E F1 env σ H1 S1) (t : FS F F1) (h : wS T s env S1 (low K F D E)) : TSx K T s E D σ H1 :=
  ⟨F1, env, S1, A1.f0, A1.re, A1.rs, wS_mono s (low_tm t) h⟩
theorem skip_ps {st : Stmt} (h : PS X st tNext) : PS X st (TSx X.K T .skip E) := h.imp fun D σ H h => by
  obtain ⟨F, env, S, A, h⟩ := h.at
  exact h σ F H .refl A.rs A.re
theorem ret_ps {e : Expr} {x : Ex} {pos : Pos} (h : PE X e (TE X.K T x E)) : PS X (.Return (some e) pos) (TSx X.K T (.ret x) E) := (ps_ret h).imp fun D σ H h => h
theorem retN_ps {pos : Pos} : PS X (.Return none pos) (TSx X.K T .retN E) := ps_retN.imp fun D σ H h => by
  obtain ⟨F, env, S, A, h⟩ := h.at
  exact h .non F H .refl A.rs rfl
theorem brk_ps {pos : Pos} : PS X (.Break pos) (TSx X.K T .brk E) := ps_break.imp fun D σ H h => by
  obtain ⟨F, env, S, A, h⟩ := h.at
  exact h σ F H .refl A.rs A.re
theorem cnt_ps {pos : Pos} : PS X (.Continue pos) (TSx X.K T .cnt E) := ps_continue.imp fun D σ H h => by
  obtain ⟨F, env, S, A, h⟩ := h.at
  exact h σ F H .refl A.rs A.re
theorem seq_pss {st : Stmt} {r : List Stmt} {a b : Sx} (h1 : PS X st (TSx X.K T a E)) (h2 : PSs X r (TSx X.K T b E)) : PSs X (st :: r) (TSx X.K T (.seq a b) E) := by
  refine (pss_cons h1 h2).imp ?_
  intro D σ H h
  obtain ⟨F, env, S, A, h⟩ := h.at
  refine ⟨F, env, S, A.f0, A.re, A.rs, wS_mono a ?_ h⟩
  exact ⟨fun env' S' h σ' F' H' t s r => ⟨F', env', S', A.f0.trans t, r, s, wS_mono b (low_tm t) h⟩, fun _ _ h => h, fun _ _ h => h, fun _ _ h => h, fun _ _ _ h => h⟩
theorem block_pss {f : Stmt → Option Sx} : ∀ {l : List Stmt} {s : Sx}, (∀ st ∈ l, ∀ x, f st = some x → PS X st (TSx X.K T x E)) → cSs f l = some s → PSs X l (TSx X.K T s E)
  | [], _, _, h => by
    cases h
    refine pss_nil.imp fun D σ H h => ?_
    obtain ⟨F, env, S, A, h⟩ := h.at
    exact h σ F H .refl A.rs A.re
  | [st], s, k, h => pss_one (k st List.mem_cons_self s h)
  | st :: s2 :: r, s, k, h => by
    unfold cSs at h
    split at h
    · cases h
      rename_i a b h1 h2
      exact seq_pss (k st List.mem_cons_self a h1) (block_pss (fun q hq => k q (List.mem_cons_of_mem _ hq)) h2)
    · cases h
theorem ite_ps {c : Expr} {x : Ex} {a b : List Stmt} {y z : Sx} {pos : Pos} (hc : PT X c (TT X.K T x E)) (ha : PSs X a (TSx X.K T y E)) (hb : PSs X b (TSx X.K T z E)) : PS X (.If c a b pos) (TSx X.K T (.ite x y z) E) := by
  refine (ps_if hc ha hb).imp ?_
  intro D σ H h
  obtain ⟨F, env, S, A, h⟩ := h.at
  refine TT.one A h fun t S1 F1 H1 t1 A1 h1 => ?_
  cases t with
  | true => exact TSx.go A1 t1 h1
  | false => exact TSx.go A1 t1 h1
theorem whl_ps {c : Expr} {x : Ex} {b : List Stmt} {y : Sx} {pos : Pos} (po : PassesOwn (model X.prog X.w) X.A X.env X.xe) (hc : PT X c (TT X.K T x E)) (hb : PSs X b (TSx X.K T y E)) : PS X (.While c b [] pos) (TSx X.K T (.whl x y) E) := by
  refine (ps_while po hc hb).imp ?_
  intro D σ H h
  obtain ⟨F, env, S, A, W, ⟨m0, w0⟩, h⟩ := h.at
  refine ⟨fun m σ' H' => ∃ F' env S, FS F F' ∧ At X.K E F' env σ' H' S ∧ W m env S, ⟨m0, F, env, S, .refl, A, w0⟩, ?_⟩
  rintro m σ' H' ⟨F', env', S', t, A', w⟩
  refine TT.one A' (h m env' S' w) fun b S1 F1 H1 t1 A1 h1 => ?_
  cases b with
  | false => exact h1 _ _ _ (t.trans t1) A1.rs A1.re
  | true =>
    refine ⟨fun σ2 H2 => ∃ m', m' < m ∧ ∃ F2 env S, FS F F2 ∧ At X.K E F2 env σ2 H2 S ∧ W m' env S, fun σ2 H2 h => h, F1, env', S1, A1.f0, A1.re, A1.rs, wS_mono y ?_ h1⟩
    have tt := t.trans t1
    exact ⟨fun e2 S2 ⟨m', hm, w2⟩ σ2 F2 H2 t2 s2 r2 => ⟨m', hm, F2, e2, S2, tt.trans t2, ⟨A1.f0.trans t2, r2, s2⟩, w2⟩, fun _ _ q z F2 H2 t2 => q z F2 H2 (tt.trans t2), fun _ _ q σ2 F2 H2 t2 => q σ2 F2 H2 (tt.trans t2),
      fun e2 S2 ⟨m', hm, w2⟩ σ2 F2 H2 t2 s2 r2 => ⟨m', hm, F2, e2, S2, tt.trans t2, ⟨A1.f0.trans t2, r2, s2⟩, w2⟩, fun _ _ _ q => q⟩
theorem for_ps {tg it : Expr} {g : Tg} {k : ItK} {as : Ex} {b : List Stmt} {y : Sx} {pos : Pos} (po : PassesOwn (model X.prog X.w) X.A X.env X.xe) (hc : X.calm = true) (hset : isSet it = false) (hi : PI X tg it (TI X.K T k as E)) (hg : PG X tg (GT X.K g))
    (hb : PSs X b (TSx X.K T y E)) : PS X (.For tg it b [] pos) (TSx X.K T (.for_ g k as y) E) := by
  refine (ps_for po hc hi hg hb (fold_plain hset)).imp ?_
  intro D σ H h
  obtain ⟨F, env, S, A, h⟩ := h.at
  refine ⟨F, env, S, A, wA_mono as (fun vs S1 h1 => itK_mono (fun Gd items hh F1 H1 J t1 s1 wk => ?_) h1) (fun _ _ z => z) h⟩
  let Wt := fun (l : List Val) (env' : Ev) (S' : Store) => wFor Gd (tgt g) (wS T y) (low X.K F D E) l env' S'
  refine ⟨fun i m σ' H' => m = items.length - i ∧ i ≤ items.length ∧ ∃ F' env' S', FS F1 F' ∧ At X.K E F' env' σ' H' S' ∧ Wt (items.drop i) env' S', ⟨_, rfl, Nat.zero_le _, F1, env, S1, .refl, A.next t1 s1, hh⟩, ?_⟩
  rintro i m σ' H' ⟨rfl, hi, F', env', S', tF, A', w⟩
  by_cases hlt : i < items.length
  · rw [List.drop_eq_getElem_cons hlt] at w
    obtain ⟨gd, w⟩ := w
    refine .inr ⟨wk.go F' H' S' i tF A'.rs gd hlt, fun σ2 H2 => ∃ m', m' < items.length - i ∧ m' = items.length - (i + 1) ∧ i + 1 ≤ items.length ∧ ∃ F2 env' S', FS F1 F2 ∧ At X.K E F2 env' σ2 H2 S' ∧ Wt (items.drop (i + 1)) env' S', fun _ _ h => h, fun x H2 yy => ?_⟩
    obtain ⟨F2, t2, rs2, rv⟩ := wk.yld F' H' S' i x H2 _ tF A'.rs gd yy (List.getElem?_eq_getElem hlt)
    refine ⟨F2, _, _, rs2.fs, rv, A'.re.mono t2, tgt_mono (fun e2 h2 σ3 re3 _ => ⟨F2, e2, S', A'.f0.trans t2, re3, rs2, wS_mono y ?_ h2⟩) w⟩
    have tt := tF.trans t2
    have t0 := t1.trans tt
    exact ⟨fun e4 S4 w4 σ4 F4 H4 t4 s4 r4 => ⟨_, by omega, rfl, hlt, F4, e4, S4, tt.trans t4, ⟨(A'.f0.trans t2).trans t4, r4, s4⟩, w4⟩, fun _ _ q z F4 H4 t4 => q z F4 H4 (t0.trans t4), fun _ _ q σ4 F4 H4 t4 => q σ4 F4 H4 (t0.trans t4),
      fun e4 S4 w4 σ4 F4 H4 t4 s4 r4 => ⟨_, by omega, rfl, hlt, F4, e4, S4, tt.trans t4, ⟨(A'.f0.trans t2).trans t4, r4, s4⟩, w4⟩, fun _ _ _ q => q⟩
  · have e : i = items.length := by omega
    subst e
    rw [List.drop_length] at w
    exact .inl ⟨wk.stop F' H' S' tF A'.rs w.1, w.2 _ _ _ (t1.trans tF) A'.rs A'.re⟩
end
end BW
set_option Elab.async false
set_option linter.all false
set_option maxRecDepth 100000
set_option maxHeartbeats 4000000
namespace BW
open PySem PySem.Spec PyProof.Rows L2
section
variable {X : Cx} {T : Tb} {C : Cc} {E : EE}
/-! ### stores -/
theorem swaps_plain {e : Expr} {t : Option Expr} {l : Nat} {env : Env} (h : isComp e = false) : swapsWith e t l env = pure false := by
  cases e <;> first | rfl | cases h
theorem swaps_attr {e o : Expr} {f : Str} {p : Pos} {l : Nat} {env : Env} : swapsWith e (some (.Attribute o f p)) l env = pure false := by
  cases e <;> rfl
theorem swaps_sub {e o i : Expr} {p : Pos} {l : Nat} {env : Env} : swapsWith e (some (.Subscript o i p)) l env = pure false := by
  cases e <;> rfl
theorem asg_red {g : Tg} {x : Ex} {D : Ends} {σ : St} {H : Hp} (h : TSx X.K T (.asg g x) E D σ H) : tAsg (TE X.K T x E) (GT X.K g) D σ H := by
  obtain ⟨F, env, S, A, h⟩ := h.at
  exact TE.one A h fun v S1 u F1 H1 t1 A1 r1 h1 => ⟨F1, v, env, A1.rs.fs, r1, A1.re, tgt_mono (fun e2 h2 σ2 re2 _ => h2 _ _ _ t1 A1.rs re2) h1⟩
theorem asg_nm_red {i : Nat} {x : Ex} {D : Ends} {σ : St} {H : Hp} (h : TSx X.K T (.asg (.nm i) x) E D σ H) : tAsg (TE X.K T x E) (gName i) D σ H := by
  obtain ⟨F, env, S, A, h⟩ := h.at
  exact TE.one A h fun v S1 u F1 H1 t1 A1 r1 h1 => h1 _ _ _ t1 A1.rs (A1.re.set r1)
theorem set_ps {x : Str} {i : Nat} {e : Expr} {y : Ex} {px pos : Pos} (O : CtxOk T C X) (hi : cTn C x = some i) (hs : swapsWith e (some (.Name x px)) pos.line X.env = pure false) (he : PE X e (TE X.K T y E)) : PS X (.Assign [.Name x px] e pos) (TSx X.K T (.asg (.nm i) y) E) := by
  obtain ⟨z1, z2, z3⟩ := tn_ok O hi
  exact (ps_set (by rw [O.hN]; exact O.nd) z1 z2 he hs z3).imp fun D σ H h => asg_nm_red h
theorem tup_ps {ts : List Expr} {k : Nat} {p pos : Pos} {e : Expr} {y : Ex} {g : Tg} (O : CtxOk T C X) (ht : tupOf e = none) (hc : isComp e = false) (hg : cTg C (.Tuple ts k p) = some g) (he : PE X e (TE X.K T y E)) : PS X (.Assign [.Tuple ts k p] e pos) (TSx X.K T (.asg g y) E) := by
  have hw : swappedStores [.Tuple ts k p] e X.env = pure none := by
    cases e <;> first | rfl | cases ht
  have hs : swapsWithSole [.Tuple ts k p] e pos.line X.env = pure false := by
    unfold swapsWithSole
    exact swaps_plain hc
  exact (ps_asg he (tg_pg O hg) hs hw rfl).imp fun D σ H h => asg_red h
theorem swapped2 {x y : Str} {px py pt pt2 : Pos} {kt k2 : Nat} {a b : Expr} {env : Env} (hk : env.scope.kind = .function) (hx : env.scope.names.lookup x = some .local) (hy : env.scope.names.lookup y = some .local) (hl : (py.line == px.line) = true) (hxy : (x == y) = false)
    (ha : plainE a = true) (hb : plainE b = true) (hf : ([a, b].all (foldedForSure 8)) = false) (hc : ([a, b].all (constantsAlone 8)) = false) : swappedStores [.Tuple [.Name x px, .Name y py] kt pt] (.Tuple [a, b] k2 pt2) env = pure (some [x, y]) := by
  have st : ([a, b].any fun | .Starred .. => true | _ => false) = false := by
    have q : ∀ {e : Expr}, plainE e = true → (match e with | .Starred .. => true | _ => false) = false := by
      intro e h
      cases e <;> first | rfl | (cases h; done)
    simp only [List.any_cons, List.any_nil, Bool.or_false, Bool.or_eq_false_iff]
    exact ⟨q ha, q hb⟩
  have kx : (env.kindOf x == some .local) = true := by show (env.scope.names.lookup x == some .local) = true; rw [hx]; rfl
  have ky : (env.kindOf y == some .local) = true := by show (env.scope.names.lookup y == some .local) = true; rw [hy]; rfl
  have bk : (env.blockKind != .function) = false := by
    unfold Env.blockKind
    rw [hk]
    rfl
  have ed : ([x, y] : List Str).eraseDups.length = 2 := by
    have hyx : (y == x) = false := by
      rw [beq_eq_false_iff_ne] at hxy ⊢
      exact fun e => hxy e.symm
    simp [List.eraseDups, List.eraseDupsBy, List.eraseDupsBy.loop, hyx]
  unfold swappedStores
  dsimp only
  rw [bk]
  refine (if_neg (by intro h; cases h)).trans ((if_neg (fun h => Bool.noConfusion (st.symm.trans h))).trans ?_)
  simp only [List.length_cons, List.length_nil, bne_self_eq_false, Bool.or_false, List.head?_cons, Option.map_some, Option.getD_some]
  simp only [List.filterMap_cons, List.filterMap_nil, kx, ky, hl, hf, hc, Expr.pos]
  simp [ed, hl]
theorem par_ps {x y : Str} {i j : Nat} {px py pt pt2 pos : Pos} {kt k2 : Nat} {a b : Expr} {u v : Ex} (O : CtxOk T C X) (hot : C.hot = false) (h : parB C x y px py a b = true) (hi : ixOf x C.N = some i) (hj : ixOf y C.N = some j) (pa : plainE a = true) (pb : plainE b = true)
    (ha : PE X a (TE X.K T u E)) (hb : PE X b (TE X.K T v E)) : PS X (.Assign [.Tuple [.Name x px, .Name y py] kt pt] (.Tuple [a, b] k2 pt2) pos) (TSx X.K T (.par i j u v) E) := by
  unfold parB at h
  simp only [Bool.and_eq_true, Bool.not_eq_true', decide_eq_true_eq] at h
  obtain ⟨⟨⟨⟨⟨h1, h2⟩, h3⟩, h4⟩, h5⟩, h6⟩ := h
  rw [← O.sc] at h1 h2
  have hij : i ≠ j := by
    rintro rfl
    have e1 := ixOf_ok hi
    rw [ixOf_ok hj] at e1
    cases e1
    simp at h4
  have hw := swapped2 (px := px) (py := py) (pt := pt) (pt2 := pt2) (kt := kt) (k2 := k2) (env := X.env) (by rw [O.sc]; exact O.kind) h1 h2 h3 h4 pa pb h5 h6
  refine (ps_par (O.calm hot) (by rw [O.hN]; exact O.nd) (by rw [O.hN]; exact ixOf_ok hi) (by rw [O.hN]; exact ixOf_ok hj) hij h1 h2 (pa_cons ha (pa_cons hb pa_nil (star_cons pb)) (star_cons pa)) hw rfl).imp ?_
  intro D σ H h
  obtain ⟨F, env, S, A, h⟩ := h.at
  refine TE.two (f := fun x y S2 => (low X.K F D E).nx ((env.set i (some x)).set j (some y)) S2) A h fun v w S2 z1 z2 F2 H2 t A2 r1 r2 h => ⟨z1, z2, rfl, ?_⟩
  exact h _ _ _ t A2.rs ((A2.re.set r1).set r2)
/-- o.f = e -/
theorem fldset_ps {o e : Expr} {x y : Ex} {f : Str} {p pos : Pos} (O : CtxOk T C X) (hf : fix f < nmT.length) (ho : PE X o (TE X.K T x E)) (he : PE X e (TE X.K T y E)) : PS X (.Assign [.Attribute o f p] e pos) (TSx X.K T (.asgF x (fix f) y) E) := by
  refine (ps_fld ho he swaps_attr).imp ?_
  intro D σ H h
  obtain ⟨F, env, S, A, h⟩ := h.at
  refine TE.one A h fun v S1 u F1 H1 t1 A1 r1 h1 => TE.one A1 h1 fun w S2 u2 F2 H2 t2 A2 r2 h2 => ?_
  unfold setF at h2
  split at h2
  · rename_i a
    obtain ⟨c, fs, e1, ⟨hfl, hc⟩, hl, h2⟩ := h2
    have r2' : u2 = .ref a := r2
    subst r2'
    obtain ⟨fn, dx, gs, e2, z⟩ := A2.rs.st _ _ e1
    have k := O.fl _ _ hfl
    rw [if_pos hc, nm_fix hf] at k
    have zz := z.put (f := fix f) (r1.mono t2)
    rw [nm_fix hf] at zz
    exact ⟨a, _, dx, gs, rfl, e2, k.1, k.2, by rw [← z.length]; omega, h2 _ _ _ (t1.trans t2) (A2.rs.write (ob := .ins c (putN (fix f) v fs)) e1 ⟨dx, _, upd_same, zz⟩) A2.re⟩
  · exact h2.elim
theorem setI_ok {K : PySem.W.Frag} {F H : Hp} {S : Store} {o i v : Val} {x y u : V} {Q : Store → Prop} {R : Hp → Prop} (s : RS K F H S) (ro : RV K F o x) (ri : RV K F i y) (rv : RV K F v u) (h : setI o i v S Q) (k : ∀ H' S', RS K F H' S' → Q S' → R H') : rSetL x y u H R := by
  unfold setI at h
  split at h
  · obtain ⟨l, j, e, hj, h⟩ := h
    obtain ⟨fn, xs, e2, z⟩ := s.st _ _ e
    rw [z.length] at hj
    exact ⟨_, xs, _, j, ro, ri, e2, hj, k _ _ (s.write (ob := .lst (l.set j v)) e ⟨_, upd_same, z.set rv⟩) h⟩
  · exact h.elim
/-- o[i] = e -/
theorem subset_ps {o i e : Expr} {x y z : Ex} {p pos : Pos} (hs : isSlice i = false) (ho : PE X o (TE X.K T x E)) (hi : PE X i (TE X.K T y E)) (he : PE X e (TE X.K T z E)) (hw : swappedStores [.Subscript o i p] e X.env = pure none := by rfl) : PS X (.Assign [.Subscript o i p] e pos) (TSx X.K T (.asgI x y z) E) := by
  refine (ps_asg he (pg_sub ho hi set_list fun v => by cases i <;> first | rfl | cases hs) (by unfold swapsWithSole; exact swaps_sub) hw rfl).imp ?_
  intro D σ H h
  obtain ⟨F, env, S, A, h⟩ := h.at
  refine TE.one A h fun v S1 u F1 H1 t1 A1 r1 h1 => TE.two A1 h1 fun o' i' S2 x' y' F2 H2 t2 A2 r2 r3 h2 => ?_
  exact setI_ok A2.rs r2 r3 (r1.mono t2) h2 fun H' S' s' q => q _ _ _ (t1.trans t2) s' A2.re
theorem dput_ps {o i e : Expr} {x y z : Ex} {p pos : Pos} (O : CtxOk T C X) (ho : PE X o (TE X.K T x E)) (hi : PE X i (TE X.K T y E)) (he : PE X e (TE X.K T z E)) : PS X (.Assign [.Subscript o i p] e pos) (TSx X.K T (.asgD x y z) E) := by
  have un := O.un
  refine (ps_dput (by omega) ho hi he swaps_sub).imp ?_
  intro D σ H h
  obtain ⟨F, env, S, A, h⟩ := h.at
  refine TE.one A h fun v S1 u F1 H1 t1 A1 r1 h1 => TE.two A1 h1 fun o' i' S2 x' y' F2 H2 t2 A2 r2 r3 h2 => ?_
  obtain ⟨a, H', S', e1, g, s', q⟩ := dPut_ok A2.rs r2 r3 (r1.mono t2) h2
  exact ⟨a, H', e1, g, q _ _ _ (t1.trans t2) s' A2.re⟩
/-! ### name op= e, o[i] op= e -/
theorem pip_aug {op : Operator} {o : Bop} (h : augOk op = some o) : PIp X op (fun x y H Q => ∃ F i j S, x = .int i ∧ y = .int j ∧ RS X.K F H S ∧ opB o (.int i) (.int j) S (up X.K F Q)) := by
  intro pins s σ H x y v u Q I rx ry ⟨F, i, j, S, ex, ey, rs, q⟩
  cases op <;> first
    | (cases h; exact ip_add pins s σ H x y v u Q I rx ry ⟨i, j, ex, ey, up_here q rs rfl⟩)
    | (cases h; exact ip_sub pins s σ H x y v u Q I rx ry ⟨i, j, ex, ey, up_here q rs rfl⟩)
    | (cases h; exact iop_mulX pins s σ H x y v u Q I rx ry ⟨i, j, ex, ey, q.1, up_here q.2 rs rfl⟩)
    | cases h
theorem aug_ps {x : Str} {i : Nat} {e : Expr} {y : Ex} {op : Operator} {o : Bop} {p pos : Pos} (O : CtxOk T C X) (hi : cTn C x = some i) (ho : augOk op = some o) (he : PE X e (TE X.K T y E)) : PS X (.AugAssign (.Name x p) op e pos) (TSx X.K T (.augN i o y) E) := by
  obtain ⟨z1, z2, z3⟩ := tn_ok O hi
  refine (ps_aug (by rw [O.hN]; exact O.nd) z1 z2 he (pip_aug ho) z3).imp ?_
  intro D σ H h
  obtain ⟨F, env, S, A, a, ea, h⟩ := h.at
  obtain ⟨v, e1, r⟩ := A.re.2 i _ ea
  cases r
  refine ⟨_, e1, TE.one A h fun v2 S1 u F1 H1 t1 A1 r1 h1 => ?_⟩
  obtain ⟨b, rfl, h1⟩ := h1
  cases r1
  exact ⟨F1, _, _, S1, rfl, rfl, A1.rs, opB_mono (fun z S2 hz w F2 H2 t2 s2 r2 => hz _ _ _ (t1.trans t2) s2 ((A1.re.mono t2).set r2)) h1⟩
def rGetL : V → V → Hp → VK → Prop := fun o i H Q => ∃ p xs k v, o = .ref p ∧ i = .int k ∧ H p = some (.lst xs) ∧ atI xs k = some v ∧ Q v H
theorem get_list : PGet X rGetL := by
  intro pins s σ H o i ov iv Q I ro ri h
  obtain ⟨p, xs, k, z, rfl, rfl, hp, he, q⟩ := h
  cases ro
  obtain ⟨t, rfl⟩ := ri
  obtain ⟨its, n, r, e, hz⟩ := I.lst hp
  obtain ⟨j, h1, h2, h3, h4, h5⟩ := atI_get he
  obtain ⟨w, ew, rw'⟩ := r.get h2
  have pl : s.heap.IsList p its.toArray := ⟨_, e, rfl, _, rfl⟩
  have len := r.length
  have big := line63
  by_cases h0 : 0 ≤ k
  · have hj : k.toNat = j := by
      rw [seqIndex_of h0 h5] at h1
      exact Option.some.inj h1
    exact wpAny_getItem_list pl h0 (by omega) (by rw [hj]; simpa using ew) ⟨z, H, I, rw', q⟩
  · have hj : (k + (its.toArray.size : Int)).toNat = j := by
      rw [seqIndex_neg (by omega) h4] at h1
      rw [List.size_toArray, ← len]
      exact Option.some.inj h1
    exact wpAny_getItem_list_neg pl (by omega) (by rw [List.size_toArray] <;> omega) (by omega) (by rw [hj]; simpa using ew) ⟨z, H, I, rw', q⟩
theorem augI_ps {o i e : Expr} {x y z : Ex} {op : Operator} {q : Bop} {p pos : Pos} (ho : augOk op = some q) (h1 : PE X o (TE X.K T x E)) (h2 : PE X i (TE X.K T y E)) (h3 : PE X e (TE X.K T z E))
    (ha : ∀ ov iv new, augStore i ov iv new = (do holding [new, ov, iv] (setItem ov iv new); release [new, ov, iv] []; pure .next)) : PS X (.AugAssign (.Subscript o i p) op e pos) (TSx X.K T (.augI x y q z) E) := by
  refine (ps_augS h1 h2 get_list h3 (pip_aug ho) set_list ha).imp ?_
  intro D σ H h
  obtain ⟨F, env, S, A, h⟩ := h.at
  refine TE.one A h fun v S1 u F1 H1 t1 A1 r1 h1 => ?_
  obtain ⟨⟨p, rfl⟩, h1⟩ := h1
  cases r1
  refine TE.one A1 h1 fun w S2 u2 F2 H2 t2 A2 r2 h2 => ?_
  cases w <;> simp only [opIx] at h2 <;> first
    | (rename_i k
       rw [getL_iff] at h2
       obtain ⟨l, hl, v, ev, h2⟩ := h2
       rcases hl with ⟨a, e, hs⟩ | e
       · cases e
         obtain ⟨fn, xs, e2, z⟩ := A2.rs.st _ _ hs
         obtain ⟨u, eu, ru⟩ := z.atI ev
         cases r2
         refine ⟨_, xs, k, u, rfl, rfl, e2, eu, TE.one A2 h2 fun w3 S3 u3 F3 H3 t3 A3 r3 h3 => ?_⟩
         obtain ⟨a, b, rfl, rfl, h3⟩ := h3
         cases ru
         cases r3
         refine ⟨F3, a, b, S3, rfl, rfl, A3.rs, opB_mono (fun u S4 h4 z4 F4 H4 t4 s4 r4 => ?_) h3⟩
         exact setI_ok (K := X.K) (o := .ref _) (i := .int k) s4 rfl rfl r4 h4 fun H5 S5 s5 q5 => q5 _ _ _ (((t1.trans t2).trans t3).trans t4) s5 (A3.re.mono t4)
       · cases e)
    | exact h2.elim
/-! ### the methods of a list -/
def rBm (K : PySem.W.Frag) (b : Bm) : V → List V → Hp → VK → Prop := fun x xs H Q => ∃ F v vs S, RV K F v x ∧ RVs K F vs xs ∧ RS K F H S ∧ opBm b v vs S fun S' => up K F Q .non S'
theorem mtBm {b : Bm} {id : String} {r : V → List V → Hp → VK → Prop} (h : MtM X id r) (k : ∀ x xs H Q, rBm X.K b x xs H Q → r x xs H Q) : MtR X id (rBm X.K b) := fun pins s σ H x xs v us Q I r1 r2 q => h pins s σ H x xs v us Q I r1 r2 (k _ _ _ _ q)
theorem up_wr {F H : Hp} {S : Store} {Q : VK} {p : Nat} {ys : List V} {l m : List Val} {K : PySem.W.Frag} (rs : RS K F H S) (e : S p = some (.lst l)) (r : RVs K F m ys) (h : up K F Q .non (put S p (.lst m))) : Q .non (upd H p (.lst ys)) :=
  h _ _ _ .refl (rs.write (ob := .lst m) e ⟨_, upd_same, r⟩) rfl
theorem opBm_shape {b : Bm} {v : Val} {vs : List Val} {S : Store} {Q : Store → Prop} (h : opBm b v vs S Q) : ∃ p l, v = .ref p ∧ S p = some (.lst l) ∧ match b with
    | .append => ∃ x, vs = [x] ∧ l.length < LIM ∧ Q (put S p (.lst (l ++ [x])))
    | .extend => ∃ x, vs = [x] ∧ getL S x fun m => l.length + m.length ≤ LIM ∧ Q (put S p (.lst (l ++ m)))
    | .clear => vs = [] ∧ Q (put S p (.lst []))
    | .reverse => vs = [] ∧ Q (put S p (.lst l.reverse)) := by
  unfold opBm at h
  split at h
  · obtain ⟨l, h1, h2, h⟩ := h; exact ⟨_, l, rfl, h1, _, rfl, h2, h⟩
  · obtain ⟨l, h1, h⟩ := h; exact ⟨_, l, rfl, h1, _, rfl, h⟩
  · obtain ⟨l, h1, h⟩ := h; exact ⟨_, l, rfl, h1, rfl, h⟩
  · obtain ⟨l, h1, h⟩ := h; exact ⟨_, l, rfl, h1, rfl, h⟩
  · exact h.elim
theorem bm_append {x : V} {xs : List V} {H : Hp} {Q : VK} (h : rBm X.K .append x xs H Q) : rAppend x xs H Q := by
  obtain ⟨F, v, vs, S, r1, r2, rs, h⟩ := h
  obtain ⟨p, l, rfl, h1, z, rfl, h2, h'⟩ := opBm_shape h
  obtain ⟨fn, ys, e, ry⟩ := rs.st _ _ h1
  cases r1
  obtain ⟨y, rfl, r3⟩ := r2.one
  exact ⟨_, ys, y, rfl, rfl, e, by rw [← LIM_eq, ← ry.length]; exact h2, up_wr rs h1 (ry.append (m := [z]) ⟨y, [], rfl, r3, rfl⟩) h'⟩
theorem bm_clear {x : V} {xs : List V} {H : Hp} {Q : VK} (h : rBm X.K .clear x xs H Q) : rClear x xs H Q := by
  obtain ⟨F, v, vs, S, r1, r2, rs, h⟩ := h
  obtain ⟨p, l, rfl, h1, rfl, h'⟩ := opBm_shape h
  obtain ⟨fn, ys, e, ry⟩ := rs.st _ _ h1
  cases r1
  cases r2
  exact ⟨_, ys, rfl, rfl, e, up_wr (m := []) (ys := []) rs h1 rfl h'⟩
theorem bm_reverse {x : V} {xs : List V} {H : Hp} {Q : VK} (h : rBm X.K .reverse x xs H Q) : rReverse x xs H Q := by
  obtain ⟨F, v, vs, S, r1, r2, rs, h⟩ := h
  obtain ⟨p, l, rfl, h1, rfl, h'⟩ := opBm_shape h
  obtain ⟨fn, ys, e, ry⟩ := rs.st _ _ h1
  cases r1
  cases r2
  exact ⟨_, ys, rfl, rfl, e, up_wr rs h1 ry.reverse h'⟩
theorem bm_extend : MtR X "list.extend" (rBm X.K .extend) := by
  intro pins s σ H x xs v us Q I rx rv h
  obtain ⟨Fz, v', vs, S, r1, r2, rs, h⟩ := h
  obtain ⟨p, l, rfl, h1, z, rfl, h'⟩ := opBm_shape h
  obtain ⟨fn, ys, e, ry⟩ := rs.st _ _ h1
  cases r1
  cases rx
  obtain ⟨y, rfl, r3⟩ := r2.one
  obtain ⟨q, m, zs, rfl, hq, rz, hl, h'⟩ := getL_ok rs r3 h'
  obtain ⟨u, rfl, ru⟩ := rv.one
  cases ru
  obtain ⟨_, its, n, r, hl1, e1⟩ := I.lstM e
  obtain ⟨_, its2, n2, r2', e2⟩ := rdl I hq
  have sz : ys.length + zs.length ≤ sizeLine := by rw [← LIM_eq, ← ry.length, ← rz.length]; exact hl
  have l1 := r.length
  have l2 := r2'.length
  have hsz : its.toArray.size + its2.toArray.size ≤ sizeLine := by rw [List.size_toArray, List.size_toArray, ← l1, ← l2]; exact sz
  have lg : ¬ (!its.toArray.isEmpty && Builtin.List.listTooLong (its.toArray.size + its2.toArray.size)) = true := by
    rw [notLongL hsz, Bool.and_false]
    exact Bool.false_ne_true
  have big := line63
  refine call_meets F.slot_list_extend ⟨_, e1, rfl⟩ F.entry_list_extend (F.args_list_extend_2 _ _)
    (AutoSeq1.list_extend_list_list_0 p its.toArray n q its2.toArray n2 lg (by simp only [List.size_toArray] at *; omega) (by simp only [List.size_toArray] at *; omega)) ⟨e1, e2, ?_⟩
  exact ⟨.non, _, I.lset (its' := its ++ its2) e e1 (by simp) (r.append r2') (by rw [List.length_append]; omega), rfl, up_wr rs h1 (ry.append rz) h'⟩
/-- the call's meaning -/
def TBm (K : PySem.W.Frag) (T : Tb) (b : Bm) (a as : Ex) (E : EE) : L2.TE := fun σ H Q => ∃ F env S, At K E F env σ H S ∧ wE T a env S (fun x S1 => (∃ p l, x = .ref p ∧ S1 p = some (.lst l)) ∧ wA T as env S1 (fun vs S2 => opBm b x vs S2 fun S3 => up K F Q .non S3) fun x S' => E.p x env S') fun x S' => E.p x env S'
theorem tbm_red {b : Bm} {a as : Ex} {σ : St} {H : Hp} {Q : VK} (h : TBm X.K T b a as E σ H Q) : tBM X.K "list" (rBm X.K b) (TE X.K T a E) (TA X.K T as E) σ H Q := by
  obtain ⟨F, env, S, A, h⟩ := h
  refine TE.one A h fun v S1 u F1 H1 t1 A1 r1 h1 => ?_
  obtain ⟨⟨p, l, rfl, hl⟩, h1⟩ := h1
  obtain ⟨fn, ys, e, ry⟩ := A1.rs.st _ _ hl
  cases r1
  refine ⟨.inl ⟨rfl, _, SqL.of e⟩, TA.one A1 h1 fun vs S2 us F2 H2 t2 A2 r2 h2 => ?_⟩
  exact ⟨F2, .ref _, vs, S2, rfl, r2, A2.rs, opBm_mono (fun S3 h3 => up_tm (t1.trans t2) h3) h2⟩
theorem tbm0_red {b : Bm} {a : Ex} {σ : St} {H : Hp} {Q : VK} (h : TBm X.K T b a .nil E σ H Q) : tBM0 X.K "list" (rBm X.K b) (TE X.K T a E) σ H Q := by
  obtain ⟨F, env, S, A, h⟩ := h
  refine TE.one A h fun v S1 u F1 H1 t1 A1 r1 h1 => ?_
  obtain ⟨⟨p, l, rfl, hl⟩, h1⟩ := h1
  obtain ⟨fn, ys, e, ry⟩ := A1.rs.st _ _ hl
  cases r1
  refine ⟨.inl ⟨rfl, _, SqL.of e⟩, F1, .ref _, [], S1, rfl, rfl, A1.rs, ?_⟩
  exact opBm_mono (fun S3 h3 => up_tm t1 h3) h1
theorem all1 {e : Expr} {cpos : Pos} {env : Env} (h : plainE e = true) : ((backTo cpos (starEach [e] env)).all (fun x => !x.1) && (backToKw cpos (keywordEach [] env)).all (fun x => x.1.isSome) && decide ([e].length + ([] : List Keyword).length + (if ([] : List Keyword).isEmpty then 0 else 1) < 30)) = true := by
  rw [star_cons h]
  rfl
theorem bm_pe {b : Bm} {o : Expr} {m : Str} {args : List Expr} {x as : Ex} {apos cpos : Pos} {f : Expr → Option Ex} (hl : bmTab.lookup (m, args.length) = some b) (hb : baseOk o = true) (hln : (apos.endLine == cpos.line) = true)
    (ho : PE X o (TE X.K T x E)) (has : cL f args = some as) (IH : ∀ e x, f e = some x → plainE e = true ∧ PE X e (TE X.K T x E)) : PE X (.Call (.Attribute o m apos) args [] cpos) (TBm X.K T b x as E) := by
  have hm := lkMem hl
  unfold bmTab at hm
  simp only [List.mem_cons, Prod.mk.injEq, List.not_mem_nil, or_false] at hm
  obtain ⟨pa, pl⟩ := args_of (E := E) IH has
  have z0 : ∀ {l : List Expr}, l.length = 0 → l = [] := fun h => List.eq_nil_of_length_eq_zero h
  have z1 : ∀ {l : List Expr}, l.length = 1 → ∃ e, l = [e] := fun {l} h => by
    match l, h with
    | [e], _ => exact ⟨e, rfl⟩
  rcases hm with ⟨⟨rfl, h1⟩, rfl⟩ | ⟨⟨rfl, h1⟩, rfl⟩ | ⟨⟨rfl, h1⟩, rfl⟩ | ⟨⟨rfl, h1⟩, rfl⟩
  · obtain ⟨e, rfl⟩ := z1 h1
    exact (pe_bm PySem.F.plainAttrs_list PySem.F.slot_list_append PySem.F.type_list_append (mtBm mt_append fun _ _ _ _ => bm_append) ho pa (base_plain hb) (all1 (pl e List.mem_cons_self)) hln (star_cons (pl e List.mem_cons_self)) rfl).imp fun σ H Q h => tbm_red h
  · obtain ⟨e, rfl⟩ := z1 h1
    exact (pe_bm PySem.F.plainAttrs_list PySem.F.slot_list_extend PySem.F.type_list_extend bm_extend ho pa (base_plain hb) (all1 (pl e List.mem_cons_self)) hln (star_cons (pl e List.mem_cons_self)) rfl).imp fun σ H Q h => tbm_red h
  · obtain rfl := z0 h1
    cases has
    exact (pe_bm0 PySem.F.plainAttrs_list PySem.F.slot_list_clear PySem.F.type_list_clear (mtBm mt_clear fun _ _ _ _ => bm_clear) ho (base_plain hb) hln).imp fun σ H Q h => tbm0_red h
  · obtain rfl := z0 h1
    cases has
    exact (pe_bm0 PySem.F.plainAttrs_list PySem.F.slot_list_reverse PySem.F.type_list_reverse (mtBm mt_reverse fun _ _ _ _ => bm_reverse) ho (base_plain hb) hln).imp fun σ H Q h => tbm0_red h
theorem bm_ps {b : Bm} {x as : Ex} {e : Expr} {pos : Pos} (hc : isComp e = false) (h : PE X e (TBm X.K T b x as E)) : PS X (.Expr e pos) (TSx X.K T (.bm b x as) E) := by
  refine (ps_expr h (swaps_plain hc)).imp ?_
  intro D σ H h
  obtain ⟨F, env, S, A, h⟩ := h.at
  refine ⟨F, env, S, A, wE_mono x (fun v S1 h1 => ⟨h1.1, wA_mono as (fun vs S2 h2 => opBm_mono (fun S3 h3 => ?_) h2) (fun _ _ z => z) h1.2⟩) (fun _ _ z => z) h⟩
  exact fun z F2 H2 t2 s2 r2 => h3 _ _ _ t2 s2 (A.re.mono t2)
theorem expr_ps {e : Expr} {x : Ex} {pos : Pos} (hc : isComp e = false) (h : PE X e (TE X.K T x E)) : PS X (.Expr e pos) (TSx X.K T (.expr x) E) := by
  refine (ps_expr h (swaps_plain hc)).imp ?_
  intro D σ H h
  obtain ⟨F, env, S, A, h⟩ := h.at
  exact TE.one A h fun v S1 z F2 H2 t2 A2 r2 h1 => h1 _ _ _ t2 A2.rs A2.re
end
end BW
set_option Elab.async false
set_option linter.all false
set_option maxRecDepth 100000
set_option maxHeartbeats 4000000
namespace BW
open PySem PySem.Spec PyProof.Rows L2
/-! ### a clause of several classes -/
section
variable {M : Model} {A : Around} {E : Value → Shared → Prop} {s : Shared}
theorem walk_all {cs : List Value} {u : PUnit} {Q : PUnit → Shared → Prop} {f : Value → PUnit → Sem (ForInStep PUnit)} (hf : ∀ c ∈ cs, ∀ Q' : ForInStep PUnit → Shared → Prop, Q' (.yield ⟨⟩) s → wpAny M A (f c ⟨⟩) Q' E s) (q : Q ⟨⟩ s) : wpAny M A (forIn cs u f) Q E s := by
  induction cs with
  | nil =>
    rw [List.forIn_nil]
    exact wpAny_pure q
  | cons c r ih =>
    rw [List.forIn_cons]
    exact wpAny_bind (hf c List.mem_cons_self _ (ih fun c h => hf c (List.mem_cons_of_mem _ h)))
theorem walk_first {K : PySem.W.Frag} {cls : Value} {Q : Option Bool × Unit → Shared → Prop} {f : Value → Option Bool × Unit → Sem (ForInStep (Option Bool × Unit))} : ∀ {cs : List Value} {b : Bool}, PySem.W.exmAny K cls cs = some b →
    (∀ c v, PySem.W.exmOne K cls c = some v → ∀ Q' : ForInStep (Option Bool × Unit) → Shared → Prop, Q' (if v = true then .done (some true, ()) else .yield (none, ())) s → wpAny M A (f c (none, ())) Q' E s) →
    Q (if b = true then (some true, ()) else (none, ())) s → wpAny M A (forIn cs (none, ()) f) Q E s
  | [], b, h, hf, q => by
    cases h
    rw [List.forIn_nil]
    exact wpAny_pure q
  | c :: r, b, h, hf, q => by
    obtain ⟨b1, d1, h1, h2, rfl⟩ := PySem.W.exmAny_cons h
    rw [List.forIn_cons]
    refine wpAny_bind (hf c b1 h1 _ ?_)
    cases b1 with
    | true => exact wpAny_pure q
    | false => exact walk_first h2 hf q
theorem each_one {K : PySem.W.Frag} {cls : Value} : ∀ {cs : List Value} {b : Bool}, PySem.W.exmAny K cls cs = some b → ∀ c ∈ cs, ∃ v, PySem.W.exmOne K cls c = some v
  | [], _, _, c, hc => by cases hc
  | d :: r, _, h, c, hc => by
    obtain ⟨b1, d1, h1, h2, _⟩ := PySem.W.exmAny_cons h
    rcases List.mem_cons.mp hc with rfl | hc
    · exact ⟨_, h1⟩
    · exact each_one h2 c hc
end
theorem exm_list {M : Model} {K : PySem.W.Frag} {cs : List Value} {cls : Value} {tp e : Addr} {b : Bool} {h : Heap} (X : K.In h) (LT : PySem.W.Looks M h (typeOf (.ref e)) cls) (hp : h.get? tp = some { cls := .type "tuple", data := .seq cs.toArray }) (hx : PySem.W.exmAny K cls cs = some b) :
    PySem.W.Looks M h (excMatches (.ref e) (.ref tp)) b := by
  intro A Q E s k₀ q
  obtain ⟨hh, g, d, tk, os⟩ := s
  have k : ∀ b o, h.get? b = some o → hh.get? b = some o := k₀
  have L0 : PySem.W.Looks M h (isInstance (.ref tp) (.type "tuple")) true := ((PySem.W.Looks.ld hp).andThen .now).andThen (PySem.W.Looks.of_pure isSubtype_tuple_tuple)
  unfold excMatches
  refine wpAny_bind ((L0.keeps k).here ?_)
  dsimp only
  rw [if_pos rfl]
  first
    | refine wpAny_bind (wpAny_seqItems (k _ _ hp) rfl ?_)
    | refine wpAny_bind (wpAny_bind (wpAny_seqItems (k _ _ hp) rfl (wpAny_pure ?_)))
  dsimp only [Option.getD_some, Option.getD]
  refine wpAny_bind (wpAny_pure ?_)
  refine wpAny_bind (walk_all (fun c hc Q' q' => ?_) ?_)
  · obtain ⟨v, hv⟩ := each_one hx c hc
    refine wpAny_bind (((PySem.W.exm_cls (M := M) X hv).1.keeps k).here ?_)
    simp only [Bool.not_true, Bool.false_eq_true, if_false]
    exact wpAny_pure q'
  · refine wpAny_bind ((LT.keeps k).here ?_)
    refine wpAny_bind (walk_first hx (fun c v hv Q' q' => ?_) ?_)
    · refine wpAny_bind (((PySem.W.exm_cls (M := M) X hv).2.keeps k).here ?_)
      cases v with
      | true => exact wpAny_pure q'
      | false => exact wpAny_pure q'
    · cases b with
      | true => exact wpAny_pure q
      | false => exact wpAny_pure q
/-- what flies stays so while things are laid -/
theorem fly_kept {B h h' : Heap} {l : List Env} {a : Addr} {Z : Obj → Prop} (k : ∀ b o, h.get? b = some o → h'.get? b = some o) (f : HandSPX.FlyingZ B l a Z h) : HandSPX.FlyingZ B l a Z h' := by
  obtain ⟨f1, f2, f3, oe, vs, T, oT, ts, g1, g2, g3, g4, g5, g6, g7, g8, g9⟩ := f
  exact ⟨fun b o e => k b o (f1 b o e), f2, Heap.FunFrames.of_keeps (fun b o e _ => ⟨o, k b o e, rfl⟩) f3, oe, vs, T, oT, ts, k _ _ g1, g2, g3, g4, g5, g6, k _ _ g7, g8, g9⟩
/-! ### try, with clauses of any kind -/
/-- the test of a clause: the caught one's class cls gives b -/
def Tst (X : Cx) (t : Expr) (cls : Value) (b : Bool) : Prop := ∀ (s : Shared) (σ : St) (H : Hp) (a : Addr) (pn : List (Addr × Obj)) (Q : Bool → Shared → Prop) (E : Value → Shared → Prop), Inv (X.suite a pn) [] σ H s →
  PySem.W.Looks (model X.prog X.w) s.heap (typeOf (.ref a)) cls → (∀ h', (∀ q o, s.heap.get? q = some o → h'.get? q = some o) → Q b { s with heap := h' }) →
  wpAny (model X.prog X.w) (X.A.mark (some (.ref a))) (eval t X.env) (fun c s1 => wpAny (model X.prog X.w) (X.A.mark (some (.ref a))) (excMatches (.ref a) c) Q E s1) E s
/-- a clause: its test, its name's slot, its suite -/
abbrev Cl := (Value → Option Bool) × Option Nat × (Addr → Value → Option Addr → TS)
def asEnds (D : Ends) (i : Nat) : Ends := { nx := fun σ' H' => D.nx (σ'.set i none) H', rt := D.rt, bk := fun σ' H' => D.bk (σ'.set i none) H', ct := fun σ' H' => D.ct (σ'.set i none) H' }
def wCl (Wout : L2.WX) (D : Ends) : List Cl → L2.WX
  | [] => Wout
  | (ck, none, ts) :: r => fun cls d σ H => ∃ b, ck cls = some b ∧ (b = true → ∀ a, H a = none → ts a cls d D σ H) ∧ (b = false → wCl Wout D r cls d σ H)
  | (ck, some i, ts) :: r => fun cls d σ H => ∃ b, ck cls = some b ∧ (b = true → ∀ a, H a = none → ts a cls d (asEnds D i) (σ.set i (some (.ref a))) H) ∧ (b = false → wCl Wout D r cls d σ H)
def NmOk (X : Cx) : Option Str → Option Nat → Prop
  | none, none => True
  | some n, some i => X.N[i]? = some n ∧ X.env.kindOf n = some .local
  | _, _ => False
inductive ClOk (X : Cx) : List ExceptHandler → List Cl → Prop
  | nil : ClOk X [] []
  | cons {t : Expr} {nm : Option Str} {io : Option Nat} {ck : Value → Option Bool} {ts : Addr → Value → Option Addr → TS} {b₀ : Stmt} {suite : List Stmt} {pos' : Pos} {hds : List ExceptHandler} {l : List Cl} (ht : ∀ cls b, ck cls = some b → Tst X t cls b) (hn : NmOk X nm io)
      (hsu : ∀ (a : Addr) (oe : Obj) (cls : Value) (d : Option Addr) (pn : List (Addr × Obj)), Zc cls d oe → (∃ vs, oe.data = .fields vs) → PSs (X.suite a ((a, oe) :: pn)) (b₀ :: suite) (ts a cls d)) (r : ClOk X hds l) :
      ClOk X (.ExceptHandler (some t) nm (b₀ :: suite) pos' :: hds) ((ck, io, ts) :: l)
section
variable {X : Cx}
/-- the clauses, at a landed one -/
theorem clauses_ok {B : Heap} {a : Addr} {cls : Value} {d : Option Addr} {D : Ends} {Wout : L2.WX} (hs : X.stack = X.env :: X.outer) (hf : X.env.frame = some X.env.locals) (hN : X.N.Nodup) (tk : Takes X Wout) {pins pins' : List (Addr × Obj)} {σ : St} {H : Hp} {sI : Shared}
    (J : Inv X pins' σ H sI) (pj : pins' = pins) (na : H a = none) (nb : ∀ b o, sI.heap.get? b = some o → b ∉ frs X.stack → B.get? b = some o) :
    ∀ {hds : List ExceptHandler} {l : List Cl} {s : Shared}, ClOk X hds l → HandSPX.FlyingZ B (X.env :: X.outer) a (Zc cls d) s.heap → sI.heap.UpToSlots s.heap → s.os = sI.os → AllBare s.gens → wCl Wout D l cls d σ H →
      wpAny (model X.prog X.w) X.A (handleBy (.ref a) X.env hds) (SP X pins D) X.xe s := by
  intro hds l s hk
  subst pj
  have ok := J.ok
  induction hk generalizing s with
  | nil =>
    intro fl up os ag w
    refine wpAny_handleBy_nil ?_
    obtain ⟨_, _, _, oe, vs, T, oT, _, he, _, hd, h1, _⟩ := id fl
    unfold PySem.passOn
    refine wpAny_bind (wpAny_field he hd h1 ?_)
    rw [if_neg (by simp)]
    have out : wpAny (model X.prog X.w) X.A (setFlight (.ref a) X.env.frame) (fun _ s4 => wpAny (model X.prog X.w) X.A (throw (.ref a) : Sem Flow) (SP X pins' D) X.xe s4) X.xe s := by
      rw [hf]
      refine HandSPX.setFlight_upZ fl fun h4 held up4 => wpAny_throw (tk _ _ ?_)
      exact ⟨a, B, sI, pins', σ, H, cls, d, rfl, J, nb, up.trans up4, .inr (.inr (by rw [hs]; exact held)), na, os, ag, w⟩
    first
      | exact wpAny_bind (wpAny_pure (wpAny_bind out))
      | exact wpAny_bind out
  | @cons t nm io ck ts b₀ suite pos' hds2 l2 ht hn hsu r ih =>
    intro fl up os ag w
    have J3 : Inv X pins' σ H s := J.landed nb fl.1 up os ag
    obtain ⟨oe, ve, he, hz, hd⟩ := fl.there
    have nfr : ∀ {h : Heap}, HandSPX.FlyingZ B (X.env :: X.outer) a (Zc cls d) h → a ∉ frs (X.env :: X.outer) := fun {h} f hm => by
      obtain ⟨o, vs, e, _, dd⟩ := f.there
      obtain ⟨_, o', e', hnf⟩ := f.2.2.1.mem hm
      rw [e] at e'; cases e'
      exact hnf _ dd
    have nL : a ≠ X.env.locals := fun z => nfr fl (List.mem_filterMap.mpr ⟨X.env, List.mem_cons_self, by rw [hf, z]⟩)
    have nF : a ∉ X.fs := fun hm => by
      obtain ⟨e, h1, q⟩ := List.mem_filterMap.mp hm
      exact nfr fl (List.mem_filterMap.mpr ⟨e, List.mem_cons_of_mem _ h1, q⟩)
    have S3 := J3.suite he hd na nL nF
    have w' : ∃ b, ck cls = some b ∧ (b = true → ∀ a, H a = none → match (generalizing := false) io with
        | none => ts a cls d D σ H
        | some i => ts a cls d (asEnds D i) (σ.set i (some (.ref a))) H) ∧ (b = false → wCl Wout D l2 cls d σ H) := by
      clear hn
      revert w
      cases io with
      | none => exact id
      | some i => exact id
    obtain ⟨b, hb, hyes, hno⟩ := w'
    refine wpAny_handleBy_cons (codeAny_handlers_test ?_) (by intro q; cases q)
    have LT : PySem.W.Looks (model X.prog X.w) s.heap (typeOf (.ref a)) cls := fun A Q E s k q => wpAny_typeOf_ref (k _ _ he) (by rw [hz.1]; exact q)
    refine ht cls b hb s σ H a _ _ _ S3 LT fun h' kp => ?_
    have fl' := fly_kept kp fl
    have up' : sI.heap.UpToSlots h' := up.trans (Heap.UpToSlots.of_keeps kp)
    cases b with
    | false =>
      show wpAny _ X.A (handleBy (.ref a) X.env hds2) _ _ _
      exact ih fl' up' os ag (hno rfl)
    | true =>
      have land : ∀ h4, HandSPX.FlyingZ B (X.env :: X.outer) a (Zc cls d) h4 → h'.UpToSlots h4 → ∃ oe4 vs4, oe4.data = .fields vs4 ∧ Zc cls d oe4 ∧ Inv (X.suite a ((a, oe4) :: (X.pn ++ pins'))) [] σ H { s with heap := h4 } := fun h4 fl4 up4 => by
        have J4 : Inv X pins' σ H { s with heap := h4 } := J.landed nb fl4.1 (up'.trans up4) os ag
        obtain ⟨oe4, vs4, he4, hz4, hd4⟩ := fl4.there
        exact ⟨oe4, vs4, hd4, hz4, J4.suite he4 hd4 na nL nF⟩
      match nm, io, hn, hyes with
      | none, none, _, hyes =>
        refine codeAny_handlers_suite ?_
        refine HandSPX.lands_againZ fl' fun h4 fl4 up4 => ?_
        obtain ⟨oe4, vs4, hd4, hz4, S4⟩ := land h4 fl4 up4
        refine wpAny_mono ((hsu a oe4 cls d (X.pn ++ pins') hz4 ⟨_, hd4⟩).run [] _ _ H _ S4 (hyes rfl a na)) (fun f s6 hsp => ?_) (fun _ _ z => False.elim z)
        cases f with
        | ret u =>
          obtain ⟨v6, σ6, H6, S6, r6, q6⟩ := hsp
          exact ⟨_, _, _, S6.unsuite ok, r6, q6⟩
        | _ =>
          obtain ⟨σ6, H6, S6, q6⟩ := hsp
          exact ⟨_, _, S6.unsuite ok, q6⟩
      | some n, some i, hn, hyes =>
        obtain ⟨hi, hln⟩ := hn
        refine codeAny_handlers_suite_as ?_
        refine HandSPX.lands_againZ fl' fun h4 fl4 up4 => ?_
        obtain ⟨oe4, vs4, hd4, hz4, S4⟩ := land h4 fl4 up4
        refine store_ok (X := X.suite a ((a, oe4) :: (X.pn ++ pins'))) (v := .ref a) S4 hN hi (.inl hln) rfl (fun s5 S5 => ?_) (.inr hln)
        refine wpAny_mono ((hsu a oe4 cls d (X.pn ++ pins') hz4 ⟨_, hd4⟩).run [] s5 _ H _ S5 (hyes rfl a na)) (fun f s6 hsp => ?_) (fun _ _ z => False.elim z)
        have gone : ∀ {σ6 : St} {H6 : Hp} {Q : Shared → Prop}, Inv (X.suite a ((a, oe4) :: (X.pn ++ pins'))) [] σ6 H6 s6 → (∀ s7, Inv X pins' (σ6.set i none) H6 s7 → Q s7) →
            wpAny (model X.prog X.w) X.A (do bindName X.env n .none; unbindBehindTheSuite X.env n pos') (fun _ s7 => Q s7) X.xe s6 := fun {σ6 H6 Q} S6 hq => gone_ok (S6.unsuite ok) hN hi hln hq
        cases f with
        | ret u =>
          obtain ⟨v6, σ6, H6, S6, r6, q6⟩ := hsp
          exact gone S6 fun s7 J7 => ⟨_, _, _, J7, r6, q6⟩
        | _ =>
          obtain ⟨σ6, H6, S6, q6⟩ := hsp
          exact gone S6 fun s7 J7 => ⟨_, _, J7, q6⟩
/-- try -/
theorem tri_ps {body : List Stmt} {h₀ : ExceptHandler} {hds : List ExceptHandler} {l : List Cl} {pos : Pos} {tb : L2.WX → TS} {Wout : L2.WX} (hs : X.stack = X.env :: X.outer) (hf : X.env.frame = some X.env.locals) (hN : X.N.Nodup) (tk : Takes X Wout)
    (hb : ∀ (W : L2.WX) (pn : List (Addr × Obj)) (xe : Value → Shared → Prop), Takes (X.tr pn xe) W → PassesOwn (model X.prog X.w) X.A X.env xe → PSs (X.tr pn xe) body (tb W))
    (hh : ClOk X (h₀ :: hds) l) : PS X (.Try body (h₀ :: hds) [] [] pos) (fun D σ H => tb (wCl Wout D l) D σ H) := by
  refine ⟨fun pins s σ H D I h => ?_⟩
  have ok := I.ok
  have hfr : X.A.frames = some (X.env :: X.outer) := by rw [ok.frames, hs]
  let catcher : Value → Shared → Prop := fun e s₁ => wpAny (model X.prog X.w) X.A (noteFrame e X.env) (fun _ s₂ => wpAny (model X.prog X.w) X.A (setFlight e none) (fun _ s₃ =>
    wpAny (model X.prog X.w) X.A (handleBy e X.env (h₀ :: hds)) (SP X pins D) X.xe s₃) X.xe s₂) X.xe s₁
  refine wpAny_Try_except ?_
  have tkb : Takes (X.tr (X.pn ++ pins) catcher) (wCl Wout D l) := by
    intro u s' xx
    obtain ⟨a, B, sI, pins', σ', H', cls, d, rfl, J', nb, up, sky, na, os, ag, w⟩ := xx
    have J : Inv X pins σ' H' sI := J'.ofTry ok
    show wpAny (model X.prog X.w) X.A (noteFrame (.ref a) X.env) _ _ _
    refine Sky.land Zc.steady hfr hf (by rw [← hs]; exact sky) fun h3 fl3 up3 => ?_
    exact clauses_ok hs hf hN tk J rfl na nb hh fl3 (up.trans up3) os ag w
  refine wpAny_mono ((hb _ (X.pn ++ pins) catcher tkb PassesOwn.looking).run [] s σ H D (I.toTry _) h) (fun f s1 hsp => ?_) (fun e s1 he => he)
  cases f with
  | next =>
    obtain ⟨σ', H', J', q⟩ := hsp
    exact wpAny_execs_nil ⟨σ', H', J'.ofTry ok, q⟩
  | ret u =>
    obtain ⟨v, σ', H', J', r, q⟩ := hsp
    exact ⟨v, σ', H', J'.ofTry ok, r, q⟩
  | _ =>
    obtain ⟨σ', H', J', q⟩ := hsp
    exact ⟨σ', H', J'.ofTry ok, q⟩
end
end BW
set_option Elab.async false
set_option linter.all false
set_option maxRecDepth 100000
set_option maxHeartbeats 4000000
namespace BW
open PySem PySem.Spec PyProof.Rows L2
section
variable {X : Cx} {T : Tb} {C : Cc} {E : EE}
/-! ### the clauses' tests -/
/-- the name of a class, read while an error is handled -/
theorem rd_cls {x : Str} {c : Nat} {p : Pos} (O : CtxOk T C X) (h : clsOf C x = some c) {s : Shared} {σ : St} {H : Hp} {a : Addr} {pn : List (Addr × Obj)} {Q : Value → Shared → Prop} {Ee : Value → Shared → Prop} (S : Inv (X.suite a pn) [] σ H s) (q : Q (cvl X.K c) s) :
    wpAny (model X.prog X.w) (X.A.mark (some (.ref a))) (eval (.Name x p) X.env) Q Ee s := by
  unfold clsOf at h
  split at h
  · rename_i hg
    obtain ⟨g1, g2, g3⟩ := isGl_ok O hg
    rcases O.cls _ (lkMem h) with ⟨hm, hne⟩ | ⟨hm, hx, rfl⟩
    · exact ld_glob (X := X.suite a pn) S g1 hm (by rw [show cvl X.K c = .ref (ca X.K c) from if_neg hne] at q; exact q) g2
    · have hx' : x = "ValueError" := hx
      subst hx'
      exact ld_blt (X := X.suite a pn) S g1 hm (show bootBuiltins ("ValueError" : Str) = some (.type "ValueError") by decide +kernel) q g3 g2
  · cases h
theorem tst_name {x : Str} {c : Nat} {p : Pos} {cls : Value} {b : Bool} (O : CtxOk T C X) (h : clsOf C x = some c) (hb : PySem.W.exmOne X.K cls (cvl X.K c) = some b) : Tst X (.Name x p) cls b := fun s σ H a pn Q Ee S LT q =>
  rd_cls O h S ((PySem.W.exm_one S.kIn LT hb).here (q s.heap fun _ _ z => z))
theorem rd_clses (O : CtxOk T C X) {s : Shared} {σ : St} {H : Hp} {a : Addr} {pn : List (Addr × Obj)} {Ee : Value → Shared → Prop} {pos : Pos} (S : Inv (X.suite a pn) [] σ H s) : ∀ {es : List Expr} {cs : List Nat} {Q : List Value → Shared → Prop}, clsesOf C es = some cs → Q (cs.map (cvl X.K)) s →
    wpAny (model X.prog X.w) (X.A.mark (some (.ref a))) (spliced (backTo pos (starEach es X.env))) Q Ee s
  | [], cs, Q, h, q => by
    cases h
    exact wpAny_items_nil q
  | e :: r, cs, Q, h, q => by
    cases e <;> first
      | (rename_i x p
         unfold clsesOf at h
         split at h
         · rename_i c is h1 h2
           cases h
           exact wpAny_items_cons (rd_cls O h1 S (rd_clses O S (Q := fun vs s' => Q (cvl X.K c :: vs) s') h2 q)) rfl
         · cases h)
      | cases h
theorem clses_len : ∀ {es : List Expr} {cs : List Nat}, clsesOf C es = some cs → cs.length = es.length
  | [], _, h => by cases h; rfl
  | e :: r, cs, h => by
    cases e <;> first
      | (rename_i x p
         unfold clsesOf at h
         split at h
         · rename_i h2
           cases h
           exact congrArg Nat.succ (clses_len h2)
         · cases h)
      | cases h
theorem tst_tup {es : List Expr} {cs : List Nat} {k : Nat} {p : Pos} {cls : Value} {b : Bool} (O : CtxOk T C X) (h : clsesOf C es = some cs) (hl : es.length ≤ 1000) (hb : PySem.W.exmAny X.K cls (cs.map (cvl X.K)) = some b) : Tst X (.Tuple es k p) cls b := fun s σ H a pn Q Ee S LT q => by
  refine wpAny_Tuple (rd_clses O S h ⟨by rw [List.length_map, clses_len h, sizeLine_eq]; omega, ?_⟩)
  have kp : ∀ q o, s.heap.get? q = some o → (s.heap.push { cls := .type "tuple", data := .seq (cs.map (cvl X.K)).toArray }).get? q = some o := fun _ _ z => Heap.get?_push_of_some _ z
  exact (exm_list (S.kIn.keeps kp) (LT.keeps kp) (Heap.get?_push_size s.heap rfl) hb).here (q _ kp)
theorem exm_any (O : CtxOk T C X) {c : Nat} : ∀ {cs : List Nat} {b : Bool}, isAnyE (T.exm c) cs = some b → PySem.W.exmAny X.K (.ref (ca X.K c)) (cs.map (cvl X.K)) = some b
  | [], b, h => h
  | d :: cs, b, h => by
    unfold isAnyE at h
    split at h
    · rename_i v w h1 h2
      cases h
      rw [List.map_cons]
      unfold PySem.W.exmAny
      rw [O.exm _ _ _ h1, exm_any O h2]
    · cases h
/-- a clause's test, by its classes -/
def ckOf (K : PySem.W.Frag) (cs : List Nat) : Value → Option Bool := fun cls => PySem.W.exmAny K cls (cs.map (cvl K))
theorem tst_ck {t : Expr} {cs : List Nat} (O : CtxOk T C X) (h : cCk C t = some cs) : ∀ cls b, ckOf X.K cs cls = some b → Tst X t cls b := by
  intro cls b hb
  unfold cCk at h
  split at h
  · rename_i x p
    cases e : clsOf C x with
    | none => rw [e] at h; cases h
    | some c =>
      rw [e] at h
      cases h
      refine tst_name O e ?_
      obtain ⟨b1, d1, h1, h2, rfl⟩ := PySem.W.exmAny_cons hb
      cases h2
      rw [h1, Bool.or_false]
  · split at h
    · rename_i hl
      exact tst_tup O h (of_decide_eq_true hl) hb
    · cases h
  · cases h
theorem nm_ok {nm : Option Str} {io : Option Nat} (O : CtxOk T C X) (h : cNm C nm = some io) : NmOk X nm io := by
  unfold cNm at h
  split at h
  · cases h; exact True.intro
  · split at h
    · rename_i h1 h2
      cases h
      exact ⟨by rw [O.hN]; exact ixOf_ok h2, by rw [kindOf_eq O.sc]; exact beq_iff_eq.mp h1⟩
    · cases h
/-! ### a suite, a try -/
/-- what a suite means -/
def tSu (K : PySem.W.Frag) (T : Tb) (s : Sx) : Addr → Value → Option Addr → TS := fun a cls d D σ H => ∃ F x, RX K F cls d x ∧ TSx K { T with ex := some (a, x.c, x.fs) } s ⟨F, fun _ _ _ => False⟩ D σ H
def clsOfH (K : PySem.W.Frag) (T : Tb) : Sx → List Cl
  | .hcons cs io s r => (ckOf K cs, io, tSu K T s) :: clsOfH K T r
  | _ => []
theorem ctx_tr {pn : List (Addr × Obj)} {xe : Value → Shared → Prop} (O : CtxOk T C X) : CtxOk T C (X.tr pn xe) where
  hN := O.hN
  nd := O.nd
  sc := O.sc
  calm := O.calm
  noex := O.noex
  room := O.room
  un := O.un
  cst := O.cst
  blt := O.blt
  st := O.st
  kind := O.kind
  exs := O.exs
  fl := O.fl
  cls := O.cls
  isc := O.isc
  exm := O.exm
theorem ctx_su {nm : Option Str} {a : Addr} {pn : List (Addr × Obj)} {o : Option (Addr × Nat × List (Nat × Val))} (O : CtxOk T C X) : CtxOk { T with ex := o } { C with hot := true, exv := nm } (X.suite a pn) where
  hN := O.hN
  nd := O.nd
  sc := O.sc
  calm := fun h => by cases h
  noex := fun h => by cases h
  room := fun h => by cases h
  un := O.un
  cst := O.cst
  blt := O.blt
  st := O.st
  kind := O.kind
  exs := O.exs
  fl := O.fl
  cls := O.cls
  isc := O.isc
  exm := O.exm
theorem takes_F {X : Cx} {F : Hp} : TakesB X ⟨F, fun _ _ _ => False⟩ := fun _ _ ⟨_, _, _, _, _, _, _, _, _, _, _, _, _, _, _, _, ⟨_, _, _, _, _, _, _, _, z⟩⟩ => z.elim
/-- what the clauses ask, in the layer's words -/
theorem wH_cl {D : Ends} : ∀ (h : Sx) {x : Exn} {F F1 : Hp} {env : Ev} {S : Store} {σ : St} {H : Hp} {cls : Value} {d : Option Addr}, CtxOk T C X → FS E.F0 F → FS F F1 → RX X.K F1 cls d x → RE X.K F1 env σ → RS X.K F1 H S → wH T h x env S (low X.K F D E) →
    wCl (WX X.K E) D (clsOfH X.K T h) cls d σ H
  | .hnil, x, F, F1, env, S, σ, H, cls, d, O, f0, t, rx, re, rs, w => ⟨x, F1, env, S, f0.trans t, rx, re, rs, w⟩
  | .hcons cs none s r, x, F, F1, env, S, σ, H, cls, d, O, f0, t, rx, re, rs, w => by
    rw [wH_cons0] at w
    rcases w with ⟨h1, w⟩ | ⟨h1, w⟩
    · refine ⟨true, by rw [rx.1]; exact exm_any O h1, fun _ a ha => ?_, fun z => by cases z⟩
      refine ⟨F1, x, rx, F1, env, S, .refl, re, rs, wS_mono s ?_ (w a (rs.free ha))⟩
      have k := low_tm (K := X.K) (D := D) (E := E) t
      exact ⟨k.nx, k.rt, k.bk, k.ct, fun _ _ _ z => z⟩
    · exact ⟨false, by rw [rx.1]; exact exm_any O h1, fun z => (by cases z), fun _ => wH_cl r O f0 t rx re rs w⟩
  | .hcons cs (some i) s r, x, F, F1, env, S, σ, H, cls, d, O, f0, t, rx, re, rs, w => by
    rw [wH_cons1] at w
    rcases w with ⟨h1, w⟩ | ⟨h1, w⟩
    · refine ⟨true, by rw [rx.1]; exact exm_any O h1, fun _ a ha => ?_, fun z => by cases z⟩
      refine ⟨F1, x, rx, F1, env.set i (some (.exc a)), S, .refl, re.set rfl, rs, wS_mono s ?_ (w a (rs.free ha))⟩
      exact ⟨fun e' S' h σ' F' H' t2 s2 r2 => h (σ'.set i none) F' H' (t.trans t2) s2 r2.drop, fun v S' h z F' H' t2 => h z F' H' (t.trans t2), fun e' S' h σ' F' H' t2 s2 r2 => h (σ'.set i none) F' H' (t.trans t2) s2 r2.drop,
        fun e' S' h σ' F' H' t2 s2 r2 => h (σ'.set i none) F' H' (t.trans t2) s2 r2.drop, fun _ _ _ z => z⟩
    · exact ⟨false, by rw [rx.1]; exact exm_any O h1, fun z => (by cases z), fun _ => wH_cl r O f0 t rx re rs w⟩
  | .skip, x, F, F1, env, S, σ, H, cls, d, O, f0, t, rx, re, rs, w => w.elim
  | .seq a b, x, F, F1, env, S, σ, H, cls, d, O, f0, t, rx, re, rs, w => w.elim
  | .asg g e, x, F, F1, env, S, σ, H, cls, d, O, f0, t, rx, re, rs, w => w.elim
  | .asgF o f e, x, F, F1, env, S, σ, H, cls, d, O, f0, t, rx, re, rs, w => w.elim
  | .asgI o i e, x, F, F1, env, S, σ, H, cls, d, O, f0, t, rx, re, rs, w => w.elim
  | .augN i o e, x, F, F1, env, S, σ, H, cls, d, O, f0, t, rx, re, rs, w => w.elim
  | .augI o i op e, x, F, F1, env, S, σ, H, cls, d, O, f0, t, rx, re, rs, w => w.elim
  | .par i j a b, x, F, F1, env, S, σ, H, cls, d, O, f0, t, rx, re, rs, w => w.elim
  | .expr e, x, F, F1, env, S, σ, H, cls, d, O, f0, t, rx, re, rs, w => w.elim
  | .bm m a as, x, F, F1, env, S, σ, H, cls, d, O, f0, t, rx, re, rs, w => w.elim
  | .ret e, x, F, F1, env, S, σ, H, cls, d, O, f0, t, rx, re, rs, w => w.elim
  | .retN, x, F, F1, env, S, σ, H, cls, d, O, f0, t, rx, re, rs, w => w.elim
  | .ite c a b, x, F, F1, env, S, σ, H, cls, d, O, f0, t, rx, re, rs, w => w.elim
  | .whl c b, x, F, F1, env, S, σ, H, cls, d, O, f0, t, rx, re, rs, w => w.elim
  | .for_ g k as b, x, F, F1, env, S, σ, H, cls, d, O, f0, t, rx, re, rs, w => w.elim
  | .brk, x, F, F1, env, S, σ, H, cls, d, O, f0, t, rx, re, rs, w => w.elim
  | .cnt, x, F, F1, env, S, σ, H, cls, d, O, f0, t, rx, re, rs, w => w.elim
  | .raise c fl as, x, F, F1, env, S, σ, H, cls, d, O, f0, t, rx, re, rs, w => w.elim
  | .asgD d k e, x, F, F1, env, S, σ, H, cls, dd, O, f0, t, rx, re, rs, w => w.elim
  | .tri b h, x, F, F1, env, S, σ, H, cls, d, O, f0, t, rx, re, rs, w => w.elim
/-- a try -/
theorem try_ps {body : List Stmt} {h₀ : ExceptHandler} {hds : List ExceptHandler} {b h : Sx} {pos : Pos} (O : CtxOk T C X) (hs : X.stack = X.env :: X.outer) (hf : X.env.frame = some X.env.locals) (tk : TakesB X E)
    (hb : ∀ (E' : EE) (pn : List (Addr × Obj)) (xe : Value → Shared → Prop), TakesB (X.tr pn xe) E' → PassesOwn (model X.prog X.w) X.A X.env xe → PSs (X.tr pn xe) body (TSx X.K T b E'))
    (hh : ClOk X (h₀ :: hds) (clsOfH X.K T h)) : PS X (.Try body (h₀ :: hds) [] [] pos) (TSx X.K T (.tri b h) E) := by
  refine (tri_ps (tb := fun W D σ H => ∃ E' : EE, (∀ cls d σ H, WX X.K E' cls d σ H → W cls d σ H) ∧ TSx X.K T b E' D σ H) hs hf (by rw [O.hN]; exact O.nd) tk (fun W pn xe tw po => ⟨fun pins s σ H D I ⟨E', hE, hw⟩ => ?_⟩) hh).imp ?_
  · refine (hb E' pn xe (fun u s' xx => tw u s' ?_) po).run pins s σ H D I hw
    obtain ⟨a, B, sI, pins', σ', H', cls, d, e1, J, nb, up, sky, na, os, ag, w⟩ := xx
    exact ⟨a, B, sI, pins', σ', H', cls, d, e1, J, nb, up, sky, na, os, ag, hE _ _ _ _ w⟩
  · intro D σ H h
    obtain ⟨F, env, S, A, h⟩ := h.at
    refine ⟨⟨F, fun x e S' => wH T _ x e S' (low X.K F D E)⟩, ?_, F, env, S, .refl, A.re, A.rs, h⟩
    rintro cls d σ' H' ⟨x, F1, env', S', t, rx, re, rs, w⟩
    exact wH_cl _ O A.f0 t rx re rs w
theorem hs_ok {f : Cc → List Stmt → Option Sx} (O : CtxOk T C X) (hf : ∀ (nm : Option Str) (a : Addr) (pn : List (Addr × Obj)) (o : Option (Addr × Nat × List (Nat × Val))) (F : Hp) (l : List Stmt) (s : Sx), ExOk { T with ex := o } (X.suite a pn) ⟨F, fun _ _ _ => False⟩ → f { C with hot := true, exv := nm } l = some s →
      PSs (X.suite a pn) l (TSx X.K { T with ex := o } s ⟨F, fun _ _ _ => False⟩)) : ∀ {hds : List ExceptHandler} {h : Sx}, cHs f C hds = some h → ClOk X hds (clsOfH X.K T h)
  | [], h, e => by
    cases e
    exact .nil
  | hd :: r, h, e => by
    unfold cHs at e
    split at e
    · rename_i z
      cases z
    · rename_i t nm b s pos r' z
      cases z
      split at e
      · rename_i cs io x y h1 h2 h3 h4
        cases e
        refine .cons (tst_ck O h1) (nm_ok O h2) (fun a oe cls d pn hz hfl => ?_) (hs_ok O hf h4)
        refine ⟨fun pins s' σ H D I hw => ?_⟩
        obtain ⟨F, xn, rx, hw⟩ := hw
        refine (hf nm a _ (some (a, xn.c, xn.fs)) F _ _ ?_ h3).run pins s' σ H D I hw
        intro a' c fs e'
        cases e'
        refine ⟨X, oe, pn, d, rfl, by rw [← rx.1]; exact hz, hfl, ?_⟩
        exact ⟨rfl, rx.2⟩
      · cases e
    · cases e
end
end BW
set_option Elab.async false
set_option linter.all false
set_option maxRecDepth 100000
set_option maxHeartbeats 4000000
namespace BW
open PySem PySem.Spec PyProof.Rows L2
section
variable {X : Cx} {T : Tb} {C : Cc} {E : EE}
/-! ### comprehensions, a name's own list -/
/-- what a comprehension's parts are -/
structure CompOk (X : Cx) (T : Tb) (C : Cc) (E : EE) (tg iter elt : Expr) (ifs : List Expr) (scope : Scope) (g : Tg) (k : ItK) (as : Ex) (hc : Bool) (cond el : Ex) : Prop where
  hh : C.hot = false
  b : BlkOk C.N C.sc scope (ownOf C scope)
  hs : ∀ i ∈ g.slots, i ∈ (ownOf C scope).map (·.2)
  hi : PI X tg iter (TI X.K T k as E)
  hset : isSet iter = false
  hg : ∀ Y, CtxOk T (blkCc C scope) Y → Y.K = X.K → PG Y tg (GT X.K g)
  ht : ∀ Y, CtxOk T (blkCc C scope) Y → Y.K = X.K → PTs Y ifs (TC X.K T hc cond)
  he : ∀ Y, CtxOk T (blkCc C scope) Y → Y.K = X.K → PE Y elt (TE X.K T el E0)
theorem cComp_ok {n : Nat} {m : Bool} {elt tg iter : Expr} {ifs : List Expr} {scope : Scope} {x : Ex} (O : CtxOk T C X) (xo : ExOk T X E) (tk : TakesB X E) (h : cComp n C m elt tg iter ifs scope = some x) :
    ∃ g k as hc cond el, x = .comp m ((ownOf C scope).map (·.2)) g k as hc cond el ∧ CompOk X T C E tg iter elt ifs scope g k as hc cond el := by
  have IHp : IHE X T E (cE n C) := fun e x q => ⟨cE_plain q, (cE_ok n O xo tk q).1⟩
  unfold cComp at h
  split at h
  · cases h
  · rename_i hz
    simp only [Bool.or_eq_false_iff, Bool.not_eq_false'] at hz
    obtain ⟨⟨hh, hb⟩, hset⟩ := hz
    have nx := O.noex hh
    split at h
    · rename_i k as g y h1 h2 h3
      split at h
      · rename_i hs
        have hs' : ∀ i ∈ g.slots, i ∈ (ownOf C scope).map (·.2) := fun i hi => List.contains_iff_mem.mp (List.all_eq_true.mp hs i hi)
        have pg : ∀ Y, CtxOk T (blkCc C scope) Y → Y.K = X.K → PG Y tg (GT X.K g) := fun Y OY hK => G_K hK (tg_pg OY h2)
        have pe : ∀ Y, CtxOk T (blkCc C scope) Y → Y.K = X.K → PE Y elt (TE X.K T y E0) := fun Y OY hK => E_K hK (cE_ok n OY (exok_none nx) takes_E0 h3).1
        split at h
        · cases h
          refine ⟨_, _, _, _, _, _, rfl, hh, blkOk_by hb, hs', it_ok O IHp h1, hset, pg, fun Y OY hK => ⟨fun pins s σ H Q I q => pts_nil.run pins s σ H Q I ?_⟩, pe⟩
          obtain ⟨F, _, _, _, rs, q⟩ := q
          exact q F _ .refl rs
        · rename_i c
          cases q : cE n (blkCc C scope) c with
          | none => rw [q] at h; cases h
          | some z =>
            rw [q] at h
            cases h
            refine ⟨_, _, _, _, _, _, rfl, hh, blkOk_by hb, hs', it_ok O IHp h1, hset, pg, fun Y OY hK => pts_one ⟨fun pins s σ H Q I w => ?_⟩, pe⟩
            obtain ⟨F, env, S, re, rs, w⟩ := w
            exact (T_K hK (cE_ok n OY (exok_none nx) takes_E0 q).2).run pins s σ H Q I ⟨F, env, S, fs_none, re, rs, w⟩
        · cases h
      · cases h
    · cases h
theorem CompOk.pe {m : Bool} {elt tg iter : Expr} {ifs : List Expr} {scope : Scope} {pos : Pos} {g : Tg} {k : ItK} {as cond el : Ex} {hc : Bool} (O : CtxOk T C X) (c : CompOk X T C E tg iter elt ifs scope g k as hc cond el) :
    PE X (.ListComp elt [⟨tg, iter, ifs, 0⟩] scope pos) (TE X.K T (.comp m ((ownOf C scope).map (·.2)) g k as hc cond el) E) := comp_pe O c.hh c.b c.hs c.hi c.hset c.hg c.ht c.he
theorem CompOk.set {m : Bool} {elt tg iter : Expr} {ifs : List Expr} {scope : Scope} {pos px spos : Pos} {x : Str} {i : Nat} {g : Tg} {k : ItK} {as cond el : Ex} {hc : Bool} (O : CtxOk T C X) (c : CompOk X T C E tg iter elt ifs scope g k as hc cond el)
    (hi0 : cTn C x = some i) (hsw : swB C x px (.ListComp elt [⟨tg, iter, ifs, 0⟩] scope pos) = true) (hl : (px.line == spos.line) = true := by rfl) :
    PS X (.Assign [.Name x px] (.ListComp elt [⟨tg, iter, ifs, 0⟩] scope pos) spos) (TSx X.K T (.asg (.nm i) (.comp m ((ownOf C scope).map (·.2)) g k as hc cond el)) E) := by
  have b' : BlkOk X.N X.env.scope scope (ownOf C scope) := by rw [O.hN, O.sc]; exact c.b
  unfold swB at hsw
  simp only [Bool.and_eq_true, Bool.not_eq_true', decide_eq_true_eq] at hsw
  obtain ⟨⟨h1, h2⟩, h3⟩ := hsw
  have h1' : X.env.scope.names.lookup x = some .local := by rw [O.sc]; exact h1
  have sw := sw_true (elt := elt) (gs := [⟨tg, iter, ifs, 0⟩]) (scope := scope) (pos := pos) (py := px) (y := x) (l := spos.line) (env := X.env) (by rw [O.sc]; exact O.kind) h1' h2 h3
  obtain ⟨z1, _, _⟩ := tn_ok O hi0
  exact (ps_setLc (O.calm c.hh) (by rw [O.hN]; exact O.nd) z1 h1' sw c.hi b' (fun s H A cl fp => c.hg _ (blk_ok O c.hh c.b s H A cl fp) rfl) (fun s H A cl fp => c.ht _ (blk_ok O c.hh c.b s H A cl fp) rfl) (fun s H A cl fp => c.he _ (blk_ok O c.hh c.b s H A cl fp) rfl) (fold_plain c.hset)).imp fun D σ H h => comp_tlc c.hs (asg_nm_red h)
theorem cE_lc {n : Nat} {elt tg iter : Expr} {ifs : List Expr} {scope : Scope} {p : Pos} : cE (n + 1) C (.ListComp elt [⟨tg, iter, ifs, 0⟩] scope p) = orDead (.ListComp elt [⟨tg, iter, ifs, 0⟩] scope p) (cComp n C false elt tg iter ifs scope) := rfl
theorem cM_ok : ∀ (n : Nat) {e : Expr} {x : Ex}, CtxOk T C X → ExOk T X E → TakesB X E → cM n C e = some x → PE X e (TE X.K T x E)
  | 0, _, _, _, _, _, h => by cases h
  | n + 1, e, x, O, xo, tk, h => by
    have IHp : IHE X T E (cE n C) := fun e x q => ⟨cE_plain q, (cE_ok n O xo tk q).1⟩
    change cMb n C e = some x at h
    unfold cMb at h
    split at h
    · split at h
      · rename_i as h1 h2
        cases h
        exact lst_pe (by rw [cL_len h2]; exact of_decide_eq_true h1) (args_of IHp h2).1
      · cases h
    · split at h
      · rename_i y z h1 h2
        cases h
        exact bin_pe (o := .addM) (IHp _ _ h1).2 (IHp _ _ h2).2
      · cases h
    · split at h
      · rename_i y z h1 h2
        cases h
        exact bin_pe (o := .mulM) (IHp _ _ h1).2 (IHp _ _ h2).2
      · cases h
    · split at h
      · rename_i y l u h1 h2 h3
        cases h
        exact slc_pe (IHp _ _ h1).2 (part_po h2 fun b x _ hb => (IHp _ _ hb).2) (part_po h3 fun b x _ hb => (IHp _ _ hb).2)
      · cases h
    · obtain ⟨g, k, as, hc, cond, el, rfl, c⟩ := cComp_ok O xo tk h
      exact c.pe O
    · exact (cE_ok _ O xo tk h).1
theorem cV_ok {n : Nat} {m : Bool} {e : Expr} {x : Ex} (O : CtxOk T C X) (xo : ExOk T X E) (tk : TakesB X E) (h : cV n C m e = some x) : PE X e (TE X.K T x E) := by
  cases m with
  | true => exact cM_ok n O xo tk h
  | false => exact (cE_ok n O xo tk h).1
theorem isComp_lc {x : Str} {px : Pos} {e : Expr} (h : swB C x px e = true) : ∃ a b c d, e = .ListComp a b c d := by
  unfold swB at h
  split at h
  · exact ⟨_, _, _, _, rfl⟩
  · cases h
theorem cV_lc {n : Nat} {m : Bool} {el : Expr} {gs : List Comprehension} {sc : Scope} {pos : Pos} {y : Ex} (h : cV n C m (.ListComp el gs sc pos) = some y) : (∃ n' tg iter ifs, gs = [⟨tg, iter, ifs, 0⟩] ∧ cComp n' C m el tg iter ifs sc = some y) ∨ y = .nil := by
  cases n with
  | zero => cases m <;> cases h
  | succ n =>
  match gs, h with
  | [⟨tg, iter, ifs, .ofNat 0⟩], h =>
    cases m with
    | true => exact .inl ⟨n, tg, iter, ifs, rfl, h⟩
    | false =>
      rcases orDead_some (cE_lc.symm.trans h) with h | ⟨rfl, _⟩
      · exact .inl ⟨n, tg, iter, ifs, rfl, h⟩
      · exact .inr rfl
  | [], h => cases m <;> (cases h; exact .inr rfl)
  | [⟨tg, iter, ifs, .ofNat (k + 1)⟩], h => cases m <;> (cases h; exact .inr rfl)
  | [⟨tg, iter, ifs, .negSucc k⟩], h => cases m <;> (cases h; exact .inr rfl)
  | ⟨tg, iter, ifs, .ofNat 0⟩ :: b :: r, h => cases m <;> (cases h; exact .inr rfl)
  | ⟨tg, iter, ifs, .ofNat (k + 1)⟩ :: b :: r, h => cases m <;> (cases h; exact .inr rfl)
  | ⟨tg, iter, ifs, .negSucc k⟩ :: b :: r, h => cases m <;> (cases h; exact .inr rfl)
end
/-! ### each statement -/
section
variable {X : Cx} {T : Tb} {C : Cc} {E : EE} {n : Nat} {s : Sx}
theorem dead_ps {st : Stmt} : PS X st (TSx X.K T (.expr .nil) E) := ⟨fun _ _ _ _ _ _ ⟨_, _, _, _, _, _, z⟩ => z.elim⟩
theorem exS_ok (O : CtxOk T C X) (xo : ExOk T X E) (tk : TakesB X E) {e : Expr} {pos : Pos} (h : cExS C (cE n C) e = some s) : PS X (.Expr e pos) (TSx X.K T s E) := by
  unfold cExS at h
  split at h
  · cases h
  · rename_i hc
    cases q : cE n C e with
    | none => rw [q] at h; cases h
    | some y =>
      rw [q] at h
      cases h
      exact expr_ps hc (cE_ok n O xo tk q).1
theorem ret_ok (O : CtxOk T C X) (xo : ExOk T X E) (tk : TakesB X E) {e : Option Expr} {pos : Pos} (h : cRet n C e = some s) : PS X (.Return e pos) (TSx X.K T s E) := by
  cases e with
  | none => cases h; exact retN_ps
  | some e =>
    change (cV n C (C.mtb.contains "return") e).map Sx.ret = some s at h
    cases q : cV n C (C.mtb.contains "return") e with
    | none => rw [q] at h; cases h
    | some y =>
      rw [q] at h
      cases h
      exact ret_ps (cV_ok O xo tk q)
theorem expr_ok (O : CtxOk T C X) (xo : ExOk T X E) (tk : TakesB X E) {e : Expr} {pos : Pos} (h : cExpr C (cE n C) e = some s) : PS X (.Expr e pos) (TSx X.K T s E) := by
  unfold cExpr at h
  split at h
  · split at h
    · unfold cBm at h
      split at h
      · rename_i hl hb
        rw [Bool.and_eq_true] at hb
        split at h
        · rename_i h1 h2
          cases h
          exact bm_ps rfl (bm_pe hl hb.1 hb.2 (cE_ok n O xo tk h1).1 h2 fun e x q => ⟨cE_plain q, (cE_ok n O xo tk q).1⟩)
        · cases h
      · cases h
    · exact exS_ok O xo tk h
  · exact exS_ok O xo tk h
theorem asgN_ok (O : CtxOk T C X) (xo : ExOk T X E) (tk : TakesB X E) {x : Str} {px : Pos} {e : Expr} {pos : Pos} (h : cAsgN C n x px e pos = some s) : PS X (.Assign [.Name x px] e pos) (TSx X.K T s E) := by
  unfold cAsgN at h
  split at h
  · rename_i i y h1 h2
    split at h
    · rename_i hb
      rw [Bool.and_eq_true] at hb
      cases h
      obtain ⟨a, b, c, d, rfl⟩ := isComp_lc hb.1
      rcases cV_lc h2 with ⟨n', tg, iter, ifs, rfl, h3⟩ | rfl
      · obtain ⟨g, k, as, hc, cond, el, rfl, cc⟩ := cComp_ok O xo tk h3
        exact cc.set O h1 hb.1 hb.2
      · exact ⟨fun _ _ _ _ _ _ ⟨_, _, _, _, _, _, z⟩ => z.elim⟩
    · split at h
      · cases h
      · rename_i hc
        cases h
        exact set_ps O h1 (swaps_plain hc) (cV_ok O xo tk h2)
  · cases h
theorem asgT_ok (O : CtxOk T C X) (xo : ExOk T X E) (tk : TakesB X E) {ts : List Expr} {k : Nat} {p : Pos} {e : Expr} {pos : Pos} (ht : tupOf e = none) (h : cAsgT C (cE n C) (.Tuple ts k p) e = some s) : PS X (.Assign [.Tuple ts k p] e pos) (TSx X.K T s E) := by
  unfold cAsgT at h
  split at h
  · cases h
  · rename_i hc
    split at h
    · rename_i h1 h2
      cases h
      exact tup_ps O ht hc h1 (cE_ok n O xo tk h2).1
    · cases h
theorem par_ok (O : CtxOk T C X) (xo : ExOk T X E) (tk : TakesB X E) {ts es : List Expr} {k k2 : Nat} {p p2 : Pos} {pos : Pos} (h : cPar C (cE n C) ts es = some s) : PS X (.Assign [.Tuple ts k p] (.Tuple es k2 p2) pos) (TSx X.K T s E) := by
  unfold cPar at h
  split at h
  · split at h
    · rename_i hb
      rw [Bool.and_eq_true] at hb
      split at h
      · rename_i h1 h2 h3 h4
        cases h
        exact par_ps O (by simpa using hb.2) hb.1 h1 h2 (cE_plain h3) (cE_plain h4) (cE_ok n O xo tk h3).1 (cE_ok n O xo tk h4).1
      · cases h
    · cases h
  · cases h
theorem asgF_ok (O : CtxOk T C X) (xo : ExOk T X E) (tk : TakesB X E) {o e : Expr} {f : Str} {p pos : Pos} (h : cAsgF C n o f e = some s) : PS X (.Assign [.Attribute o f p] e pos) (TSx X.K T s E) := by
  unfold cAsgF at h
  split at h
  · rename_i h1 h2 h3
    cases h
    exact fldset_ps O (of_decide_eq_true h1) (cE_ok n O xo tk h3).1 (cV_ok O xo tk h2)
  · cases h
theorem asgI_ok (O : CtxOk T C X) (xo : ExOk T X E) (tk : TakesB X E) {o i e : Expr} {p pos : Pos} (h : cAsgI C (cE n C) o i e = some s) : PS X (.Assign [.Subscript o i p] e pos) (TSx X.K T s E) := by
  unfold cAsgI at h
  split at h
  · rename_i h0 h1 h2 h3
    split at h
    · cases h
      exact dput_ps O (cE_ok n O xo tk h2).1 (cE_ok n O xo tk h3).1 (cE_ok n O xo tk h1).1
    · cases h
      refine subset_ps h0 (cE_ok n O xo tk h2).1 (cE_ok n O xo tk h3).1 (cE_ok n O xo tk h1).1 ?_
      unfold swappedStores
      cases e <;> rfl
  · cases h
theorem asg_ok (O : CtxOk T C X) (xo : ExOk T X E) (tk : TakesB X E) {ts : List Expr} {e : Expr} {pos : Pos} (h : cAsg C n ts e pos = some s) : PS X (.Assign ts e pos) (TSx X.K T s E) := by
  unfold cAsg at h
  split at h
  · exact asgN_ok O xo tk h
  · split at h
    · rename_i ht
      cases e <;> first
        | (cases ht; exact par_ok O xo tk h)
        | cases ht
    · rename_i ht
      exact asgT_ok O xo tk ht h
  · exact asgF_ok O xo tk h
  · exact asgI_ok O xo tk h
  · cases h
theorem aug_sub {i : Expr} (h : isSlice i = false) : ∀ ov iv new, augStore i ov iv new = (do holding [new, ov, iv] (setItem ov iv new); release [new, ov, iv] []; pure .next) := fun ov iv new => by
  cases i <;> first | rfl | cases h
theorem aug_ok (O : CtxOk T C X) (xo : ExOk T X E) (tk : TakesB X E) {t e : Expr} {op : Operator} {pos : Pos} (h : cAug C (cE n C) t op e = some s) : PS X (.AugAssign t op e pos) (TSx X.K T s E) := by
  unfold cAug at h
  split at h
  · split at h
    · rename_i h1 h2 h3
      cases h
      exact aug_ps O h1 h2 (cE_ok n O xo tk h3).1
    · cases h
  · split at h
    · rename_i h0 h1 h2 h3 h4
      cases h
      rw [Bool.or_eq_false_iff] at h0
      exact augI_ps h1 (cE_ok n O xo tk h2).1 (cE_ok n O xo tk h3).1 (cE_ok n O xo tk h4).1 (aug_sub h0.1)
    · cases h
  · cases h
theorem if_ok (O : CtxOk T C X) (xo : ExOk T X E) (tk : TakesB X E) {c : Expr} {a b : List Stmt} {y z : Option Sx} {pos : Pos} (ha : ∀ s, y = some s → PSs X a (TSx X.K T s E)) (hb : ∀ s, z = some s → PSs X b (TSx X.K T s E)) (h : cIf (cE n C c) y z = some s) : PS X (.If c a b pos) (TSx X.K T s E) := by
  unfold cIf at h
  split at h
  · rename_i h1
    cases h
    exact ite_ps (cE_ok n O xo tk h1).2 (ha _ rfl) (hb _ rfl)
  · cases h
theorem whl_ok (O : CtxOk T C X) (xo : ExOk T X E) (tk : TakesB X E) (po : PassesOwn (model X.prog X.w) X.A X.env X.xe) {c : Expr} {a b : List Stmt} {y : Option Sx} {pos : Pos} (ha : ∀ s, y = some s → PSs X a (TSx X.K T s E)) (h : cWhl (cE n C c) y b = some s) : PS X (.While c a b pos) (TSx X.K T s E) := by
  unfold cWhl at h
  split at h
  · rename_i h1
    cases h
    exact whl_ps po (cE_ok n O xo tk h1).2 (ha _ rfl)
  · cases h
theorem for_ok (O : CtxOk T C X) (xo : ExOk T X E) (tk : TakesB X E) (po : PassesOwn (model X.prog X.w) X.A X.env X.xe) {tg it : Expr} {a b : List Stmt} {y : Option Sx} {pos : Pos} (ha : ∀ s, y = some s → PSs X a (TSx X.K T s E)) (h : cFor C (cE n C) tg it y b = some s) : PS X (.For tg it a b pos) (TSx X.K T s E) := by
  unfold cFor at h
  split at h
  · cases h
  · rename_i hz
    rw [Bool.or_eq_false_iff] at hz
    split at h
    · rename_i h1 h2
      cases h
      exact for_ps po (O.calm hz.1) hz.2 (it_ok O (fun e x q => ⟨cE_plain q, (cE_ok n O xo tk q).1⟩) h1) (tg_pg O h2) (ha _ rfl)
    · cases h
theorem raise_ok (O : CtxOk T C X) (tk : TakesB X E) {e : Expr} {pos : Pos} (h : cRaise C e = some s) : PS X (.Raise (some e) none pos) (TSx X.K T s E) := by
  unfold cRaise at h
  split at h
  · split at h
    · rename_i hg hh hl
      cases h
      obtain ⟨h1, h2, h3, h4⟩ := O.exs _ (lkMem hl)
      obtain ⟨g1, g2, _⟩ := isGl_ok O hg
      refine (ps_raise (O.calm hh) tk (pmk_own PySem.F.excBase_ValueError h2 h1 h3 h4 g1 g2)).imp ?_
      intro D σ H h
      obtain ⟨F, env, S, A, h⟩ := h.at
      exact ⟨_, F, env, S, A.f0, ⟨rfl, .inl ⟨rfl, rfl⟩⟩, A.re, A.rs, h.2⟩
    · cases h
  · cases h
end
/-- where a block stands: its frame is the def's own -/
def Own (C : Cc) (X : Cx) : Prop := C.hot = false → X.stack = X.env :: X.outer ∧ X.env.frame = some X.env.locals
/-! ### all statements -/
theorem cS_ok : ∀ (n : Nat) {X : Cx} {T : Tb} {C : Cc} {E : EE} {st : Stmt} {s : Sx}, CtxOk T C X → Own C X → ExOk T X E → TakesB X E → PassesOwn (model X.prog X.w) X.A X.env X.xe → cS n C st = some s → PS X st (TSx X.K T s E)
  | 0, _, _, _, _, _, _, _, _, _, _, _, h => by cases h
  | n + 1, X, T, C, E, st, s, O, ow, xo, tk, po, h => by
    have IB : ∀ {X : Cx} {T : Tb} {C : Cc} {E : EE} {l : List Stmt} (s : Sx), CtxOk T C X → Own C X → ExOk T X E → TakesB X E → PassesOwn (model X.prog X.w) X.A X.env X.xe → cSs (cS n C) l = some s → PSs X l (TSx X.K T s E) := fun s O ow xo tk po q => block_pss (fun st _ x hx => cS_ok n O ow xo tk po hx) q
    have IH : ∀ {l} s, cSs (cS n C) l = some s → PSs X l (TSx X.K T s E) := fun s q => IB s O ow xo tk po q
    unfold cS at h
    have h0 := orDeadS_some h
    clear h
    rcases h0 with h | rfl
    rotate_left
    · exact dead_ps
    cases st with
    | Pass => cases h; exact skip_ps ps_pass
    | Break => cases h; exact brk_ps
    | Continue => cases h; exact cnt_ps
    | Return e p => exact ret_ok O xo tk h
    | Expr e p => exact expr_ok O xo tk h
    | Assign ts e p => exact asg_ok O xo tk h
    | AugAssign t op e p => exact aug_ok O xo tk h
    | If c a b p => exact if_ok O xo tk IH IH h
    | While c a b p => exact whl_ok O xo tk po IH h
    | For tg it a b p => exact for_ok O xo tk po IH h
    | Raise e c p =>
      cases e with
      | none => cases h
      | some e =>
        cases c with
        | none => exact raise_ok O tk h
        | some c => cases h
    | Try b hds el fi p =>
      cases hds with
      | nil => cases h
      | cons hd hds =>
        change cTry C (cSs (cS n C) b) (cHs (fun D l => cSs (cS n D) l) C (hd :: hds)) el fi = some s at h
        unfold cTry at h
        split at h
        · rename_i x y hh h1 h2
          cases h
          obtain ⟨o1, o2⟩ := ow hh
          refine try_ps O o1 o2 tk (fun E' pn xe tk' po' => IB (X := X.tr pn xe) _ (ctx_tr O) (fun _ => ⟨o1, o2⟩) (exok_none (O.noex hh)) tk' po' h1) (hs_ok O (fun nm a pn o F l s xo' e => ?_) h2)
          exact IB (X := X.suite a pn) (T := { T with ex := o }) (C := { C with hot := true, exv := nm }) s (ctx_su O) (fun z => by cases z) xo' takes_F PassesOwn.never e
        · cases h
    | _ => cases h
theorem cSs_ok {X : Cx} {T : Tb} {C : Cc} {E : EE} (O : CtxOk T C X) (ow : Own C X) (xo : ExOk T X E) (tk : TakesB X E) (po : PassesOwn (model X.prog X.w) X.A X.env X.xe) (n : Nat) {l : List Stmt} {s : Sx} (h : cSs (cS n C) l = some s) : PSs X l (TSx X.K T s E) := block_pss (fun st _ x hx => cS_ok n O ow xo tk po hx) h
end BW
set_option Elab.async false
set_option linter.all false
set_option maxRecDepth 100000
set_option maxHeartbeats 4000000
namespace BW
open PySem PySem.Spec PyProof.Rows L2
/-! ### a def keeps its contract -/
def startE (N : List Str) (as : List Val) : Ev := as.map some ++ List.replicate (N.length - as.length) none
theorem re_start {K : PySem.W.Frag} {F : Hp} {N : List Str} {as : List Val} {vs : List V} (r : RVs K F as vs) : RE K F (startE N as) (L2.start N vs) := by
  have hl := r.length
  refine ⟨?_, fun i x e => ?_⟩
  · unfold startE L2.start
    simp only [List.length_append, List.length_map, List.length_replicate, hl]
  · unfold startE at e
    unfold L2.start
    by_cases hi : i < as.length
    · rw [List.getElem?_append_left (by simpa using hi), List.getElem?_map] at e
      cases q : as[i]? with
      | none => rw [q] at e; cases e
      | some y =>
        rw [q] at e
        cases e
        obtain ⟨v, e1, rv⟩ := r.get q
        exact ⟨v, by rw [List.getElem?_append_left (by simpa [← hl] using hi), List.getElem?_map, e1]; rfl, rv⟩
    · rw [List.getElem?_append_right (by simpa using hi), List.getElem?_replicate] at e
      split at e <;> cases e
/-- the end of a body -/
def fin (r : RSpec) : Post where
  nx := fun _ S' => ∃ S1, Sub S1 S' ∧ r.ret .non S1
  rt := fun v S' => ∃ S1, Sub S1 S' ∧ r.ret v S1
  bk := fun _ _ => False
  ct := fun _ _ => False
  ex := fun x _ S' => ∃ S1, Sub S1 S' ∧ r.exn x S1
/-- what is asked of the classes -/
structure GdT (K : PySem.W.Frag) (T : Tb) : Prop where
  fl : ∀ c f, T.fl c f = true → if c < 9 then Cls K (ca K c) ∧ NoAttr K (ca K c) (nm f) else XfC K (ca K c) ∧ PySem.W.findIn K (.ref (ca K c)) (nm f) = some none
  isc : ∀ c d b, T.isc c d = some b → PySem.W.kitOne K (.ref (ca K c)) (cvl K d) = some b ∧ if c < 9 then C8.InsC K (ca K c) else ExIs K (ca K c)
  exm : ∀ c d b, T.exm c d = some b → PySem.W.exmOne K (.ref (ca K c)) (cvl K d) = some b
/-- what is asked of the module's names -/
structure GdC (K : PySem.W.Frag) (mg : Str → Option Value) (cst : List (Str × Val)) (exs cls : List (Str × Nat)) : Prop where
  blt : ∀ x ∈ bltNames, mg x = none
  cst : ∀ q ∈ cst, ∃ u v, mg q.1 = some u ∧ RelV v u ∧ ∀ F, RV K F q.2 v
  exs : ∀ q ∈ exs, mg q.1 = some (.ref (ca K q.2)) ∧ PySem.W.excIn K (ca K q.2) He.veBase "ValueError.__new__" = true ∧ PySem.W.keepIn K (.ref (ca K q.2)) = true ∧ PySem.W.subIn K (.ref (ca K q.2)) (.type "BaseException") = some true ∧ PySem.W.typeIn K (.ref (ca K q.2)) = some (.type "type")
  cls : ∀ q ∈ cls, (mg q.1 = some (.ref (ca K q.2)) ∧ q.2 ≠ 99) ∨ (mg q.1 = none ∧ q.1 = "ValueError" ∧ q.2 = 99)
def cellsOf (sc : Scope) : List Str := (sc.names.filter fun q => q.2 == .cell).map (·.1)
/-- what a def's text may call -/
structure Rm (P : Program) (w : World) (K : PySem.W.Frag) (mg : Str → Option Value) (base : Heap) (T : Tb) (C : Cc) (k : Nat) : Prop where
  fns : ∀ q ∈ C.fns, FnIn P w K mg base k q.1.1 (T.fn q.2.1) q.2.2
  mt : ∀ c m g, T.mt c m = some g → MtIn P w K mg base k c m (T.fn g)
  mks : ∀ q ∈ C.mks, ∃ g j, T.mkr q.2.1 = some g ∧ j + 1 = k ∧ MkIn P w K mg base j q.1.1 q.2.1 (T.fn g) q.2.2.2
  sups : ∀ q ∈ C.sups, ∃ g, T.mkr q.2 = some g ∧ SuIn P w K mg base k q.1 q.2 (T.fn g)
section
variable {P : Program} {w : World} {K : PySem.W.Frag} {mg : Str → Option Value} {base : Heap} {T : Tb} {k : Nat} {C : Cc}
theorem fn_ok {x q : Str} {ps : List Str} {n : Nat} {s : Sx} {c : Spec} {args : Arguments} {body : List Stmt} {f : Addr} {fd : FuncData} {dvs : List V} {kws : List (Str × V)}
    (F : FunD K x q args body C.sc dvs kws f fd) (S : FnScope C.N ps C.sc) (hot : C.hot = false) (hst : C.st = cellsOf C.sc) (hex : T.ex = none) (gt : GdT K T) (gd : GdC K mg C.cst C.exs C.cls) (hr : Rm P w K mg base T C k)
    (hc : cSs (cS n C) body = some s) (len : ∀ as S, (c as S).pre → as.length = ps.length)
    (hb : ∀ as S, (c as S).pre → wS T s (startE C.N as) S (fin (c as S))) : FnOk P w K mg base (L2.CX P w) (k + 1) f fd ps (spOf K c) := by
  refine F.ok S ?_ ?_
  · rintro vs H Q E ⟨F, as, S, r, _, pre, _⟩
    rw [← r.length]
    exact len as S pre
  · rintro cdv A outer s0 H vs Q E hrm ⟨F0, as, S0, r, rs, pre, ret, exn⟩
    have O : CtxOk T C (cxOf (CX P w) P w K mg base C.N q C.sc f cdv A outer s0 H E) := {
      hN := rfl
      nd := S.nd
      sc := rfl
      calm := fun _ => rfl
      noex := fun _ => hex
      room := fun _ => ⟨k, hrm, hr.fns, hr.mt, hr.mks, hr.sups⟩
      un := by have := hrm.un; show (A.deeper (envOfC q C.sc s0.heap.objs.size f cdv)).units + 65 < cLine; omega
      cst := gd.cst
      blt := gd.blt
      st := fun _ _ => rfl
      kind := S.kind
      exs := fun q hq => let ⟨a, b, c, d, e⟩ := gd.exs q hq; ⟨a, b, c, raises_own d e⟩
      fl := gt.fl
      cls := fun q hq => gd.cls q hq
      isc := gt.isc
      exm := gt.exm }
    have tk : TakesB (cxOf (CX P w) P w K mg base C.N q C.sc f cdv A outer s0 H E) ⟨F0, fun x' _ S' => ∃ S1, Sub S1 S' ∧ (c as S0).exn x' S1⟩ := by
      refine (takes_of (X := cxOf (CX P w) P w K mg base C.N q C.sc f cdv A outer s0 H E) (E := E) rfl rfl rfl rfl).imp ?_
      rintro cls dd σ H' ⟨x', F1, env, S', t, rx, _, rs', S1, sb, z⟩
      exact exn x' S1 z cls dd F1 H' t (rs'.sub sb) rx
    refine ⟨TSx K T s ⟨F0, fun x' _ S' => ∃ S1, Sub S1 S' ∧ (c as S0).exn x' S1⟩, cSs_ok O (fun _ => ⟨rfl, rfl⟩) (exok_none hex) tk (passes_of rfl) n hc, ?_⟩
    refine ⟨F0, startE C.N as, S0, .refl, re_start r, rs, wS_mono s ?_ (hb as S0 pre)⟩
    exact ⟨fun e S' ⟨S1, sb, z⟩ σ F' H' t s' _ => ret _ _ z .non F' H' t (s'.sub sb) rfl, fun v S' ⟨S1, sb, z⟩ y F' H' t s' rv => ret _ _ z y F' H' t (s'.sub sb) rv, fun _ _ z => z.elim, fun _ _ z => z.elim, fun _ _ _ z => z⟩
theorem fn_in {x q : Str} {ps : List Str} {c : Spec} {args : Arguments} {body : List Stmt} {sc : Scope} {f : Addr} {fd : FuncData} (F : FunD K x q args body sc [] [] f fd) (hm : mg x = some (.ref f)) (h : FnOk P w K mg base (L2.CX P w) k f fd ps (spOf K c))
    (hbd : ∀ (kV doc pm : Value) (an : Option Addr) (cdv ct : Value) (us : List Value), us.length = ps.length → bindArgs (PySem.W.fnOf x q args body sc .none kV doc pm an cdv ct) ⟨us, []⟩ = pure (ps.zip us)) : FnIn P w K mg base k x c [] :=
  ⟨f, fd, ps, [], [], h, hm, F.kp, F.bindsN hbd, .nil, fun _ => rfl⟩
theorem mt_in {x q : Str} {cl m : Nat} {ps : List Str} {c : Spec} {args : Arguments} {body : List Stmt} {sc : Scope} {fd : FuncData} (F : FunD K x q args body sc [] [] (He.ma K (ca K cl) (nm m)) fd) (h : FnOk P w K mg base (L2.CX P w) k (He.ma K (ca K cl) (nm m)) fd ps (spOf K c))
    (h1 : (He.Fa.cls (cnm cl)).ok K = true) (h2 : (He.Fa.meth (cnm cl) (nm m)).ok K = true)
    (hbd : ∀ (kV doc pm : Value) (an : Option Addr) (cdv ct : Value) (us : List Value), us.length = ps.length → bindArgs (PySem.W.fnOf x q args body sc .none kV doc pm an cdv ct) ⟨us, []⟩ = pure (ps.zip us)) : MtIn P w K mg base k cl m c :=
  ⟨_, fd, ps, h, He.cls_ok h1, He.meth_ok h2, F.bindsN hbd⟩
theorem mk_in {x q : Str} {cl : Nat} {ps : List Str} {c : Spec} {args : Arguments} {body : List Stmt} {sc : Scope} {fd : FuncData} {y : Str} (F : FunD K x q args body sc [] [] (He.ma K (ca K cl) "__init__") fd) (hm : mg y = some (.ref (ca K cl))) (h : FnOk P w K mg base (L2.CX P w) k (He.ma K (ca K cl) "__init__") fd ps (spOf K c))
    (h2 : (He.Fa.mkr (cnm cl)).ok K = true)
    (hbd : ∀ (kV doc pm : Value) (an : Option Addr) (cdv ct : Value) (us : List Value), us.length = ps.length → bindArgs (PySem.W.fnOf x q args body sc .none kV doc pm an cdv ct) ⟨us, []⟩ = pure (ps.zip us)) : MkIn P w K mg base k y cl c [] :=
  ⟨_, fd, ps, [], [], h, hm, He.mkr_ok h2, F.bindsN hbd, .nil, fun _ => rfl⟩
/-- nothing is called -/
theorem fns_nil : ∀ q ∈ ([] : List ((Str × Nat) × (Nat × List Val))), FnIn P w K mg base k q.1.1 (T.fn q.2.1) q.2.2 := fun _ h => by cases h
theorem fns_cons {x : Str} {n i j : Nat} {d : List Val} {l : List ((Str × Nat) × (Nat × List Val))} (h : FnIn P w K mg base j x (T.fn i) d) (r : ∀ q ∈ l, FnIn P w K mg base k q.1.1 (T.fn q.2.1) q.2.2) (hj : j ≤ k := by omega) : ∀ q ∈ (((x, n), (i, d)) :: l), FnIn P w K mg base k q.1.1 (T.fn q.2.1) q.2.2 := fun q hq => by
  rcases List.mem_cons.mp hq with rfl | hq
  · exact h.mono hj
  · exact r q hq
theorem mts_nil : ∀ q ∈ ([] : List ((Nat × Nat) × Nat)), MtIn P w K mg base k q.1.1 q.1.2 (T.fn q.2) := fun _ h => by cases h
theorem mts_cons {c m i j : Nat} {l : List ((Nat × Nat) × Nat)} (h : MtIn P w K mg base j c m (T.fn i)) (r : ∀ q ∈ l, MtIn P w K mg base k q.1.1 q.1.2 (T.fn q.2)) (hj : j ≤ k := by omega) : ∀ q ∈ (((c, m), i) :: l), MtIn P w K mg base k q.1.1 q.1.2 (T.fn q.2) := fun q hq => by
  rcases List.mem_cons.mp hq with rfl | hq
  · exact h.mono hj
  · exact r q hq
theorem mts_of {l : List ((Nat × Nat) × Nat)} (e : T.mt = fun c m => l.lookup (c, m)) (r : ∀ q ∈ l, MtIn P w K mg base k q.1.1 q.1.2 (T.fn q.2)) : ∀ c m g, T.mt c m = some g → MtIn P w K mg base k c m (T.fn g) := fun c m g h => by
  rw [e] at h
  exact r ((c, m), g) (lkMem (l := l) h)
theorem mks_nil : ∀ q ∈ ([] : List ((Str × Nat) × (Nat × Bool × List Val))), ∃ g j, T.mkr q.2.1 = some g ∧ j + 1 = k ∧ MkIn P w K mg base j q.1.1 q.2.1 (T.fn g) q.2.2.2 := fun _ h => by cases h
theorem mks_cons {x : Str} {n c g j : Nat} {m : Bool} {d : List Val} {l : List ((Str × Nat) × (Nat × Bool × List Val))} (h : MkIn P w K mg base j x c (T.fn g) d) (e : T.mkr c = some g) (hj : j + 1 ≤ k)
    (r : ∀ q ∈ l, ∃ g j, T.mkr q.2.1 = some g ∧ j + 1 = k ∧ MkIn P w K mg base j q.1.1 q.2.1 (T.fn g) q.2.2.2) : ∀ q ∈ (((x, n), (c, m, d)) :: l), ∃ g j, T.mkr q.2.1 = some g ∧ j + 1 = k ∧ MkIn P w K mg base j q.1.1 q.2.1 (T.fn g) q.2.2.2 := fun q hq => by
  rcases List.mem_cons.mp hq with rfl | hq
  · exact ⟨g, k - 1, e, by omega, h.mono (by omega)⟩
  · exact r q hq
theorem sups_nil : ∀ q ∈ ([] : List (Str × Nat)), ∃ g, T.mkr q.2 = some g ∧ SuIn P w K mg base k q.1 q.2 (T.fn g) := fun _ h => by cases h
theorem sups_cons {x : Str} {c g j : Nat} {l : List (Str × Nat)} (h : SuIn P w K mg base j x c (T.fn g)) (e : T.mkr c = some g) (hj : j ≤ k) (r : ∀ q ∈ l, ∃ g, T.mkr q.2 = some g ∧ SuIn P w K mg base k q.1 q.2 (T.fn g)) : ∀ q ∈ ((x, c) :: l), ∃ g, T.mkr q.2 = some g ∧ SuIn P w K mg base k q.1 q.2 (T.fn g) := fun q hq => by
  rcases List.mem_cons.mp hq with rfl | hq
  · exact ⟨g, e, h.mono hj⟩
  · exact r q hq
end
/-! ### the facts of the top -/
def xinB (K : PySem.W.Frag) (D : Addr) : Bool := decide (PySem.W.findIn K (.ref D) "__class__" = some (some (.builtin "object.__class__"))) && (decide (PySem.W.specialIn K (.builtin "object.__class__") "__get__" = some (some (.builtin "getset_descriptor.__get__"))) &&
  (decide (PySem.W.takesIn K (.builtin "object.__class__") = some true) && decide (PySem.W.mroIn K D (.type "object") = some true)))
theorem xinB_ok {K : PySem.W.Frag} {D : Addr} (h : xinB K D = true) : PySem.W.findIn K (.ref D) "__class__" = some (some (.builtin "object.__class__")) ∧ PySem.W.specialIn K (.builtin "object.__class__") "__get__" = some (some (.builtin "getset_descriptor.__get__")) ∧
    PySem.W.takesIn K (.builtin "object.__class__") = some true ∧ PySem.W.mroIn K D (.type "object") = some true := by
  unfold xinB at h
  simp only [Bool.and_eq_true, decide_eq_true_eq] at h
  exact ⟨h.1, h.2.1, h.2.2.1, h.2.2.2⟩
inductive Fb where
  | fa (f : He.Fa)
  | ins (c : Nat)
  | exi (c : Nat)
  | xf (c f : Nat)
  | kit (c d : Nat) (b : Bool)
  | exm (c d : Nat) (b : Bool)
  | su (c : Nat)
def finB (K : PySem.W.Frag) (C : Addr) (v : Value) : Bool := match PySem.W.findCls K (.ref C) (.type "type") "__init__" with
  | some (.val u) => decide (u = v)
  | _ => false
theorem finB_ok {K : PySem.W.Frag} {C : Addr} {v : Value} (h : finB K C v = true) : PySem.W.findCls K (.ref C) (.type "type") "__init__" = some (.val v) := by
  unfold finB at h
  split at h
  · rename_i u e
    rw [e, of_decide_eq_true h]
  · cases h
def Fb.ok (K : PySem.W.Frag) : Fb → Bool
  | .fa f => f.ok K
  | .ins c => (He.Fa.cls (cnm c)).ok K && (xinB K (ca K c) && decide (PySem.W.kitOne K (.ref (ca K c)) (.ref (ca K c)) = some true))
  | .exi c => xfB K (ca K c) && xinB K (ca K c)
  | .xf c f => xfB K (ca K c) && decide (PySem.W.findIn K (.ref (ca K c)) (nm f) = some none)
  | .kit c d b => decide (PySem.W.kitOne K (.ref (ca K c)) (cvl K d) = some b)
  | .exm c d b => decide (PySem.W.exmOne K (.ref (ca K c)) (cvl K d) = some b)
  | .su c => PySem.W.readsIn K (ca K c) (.type "type") && (decide (PySem.W.specialIn K (.ref (ca K c)) "__getattribute__" = some (some (.builtin "type.__getattribute__"))) &&
      (finB K (ca K c) (.ref (He.ma K (ca K c) "__init__")) && PySem.W.keepIn K (.ref (He.ma K (ca K c) "__init__"))))
section
variable {K : PySem.W.Frag}
theorem ins_ok {c : Nat} (h : (Fb.ins c).ok K = true) : C8.InsC K (ca K c) := by
  obtain ⟨h1, h⟩ := He.ba h
  obtain ⟨h2, h3⟩ := He.ba h
  obtain ⟨a, b, d, e⟩ := xinB_ok h2
  exact ⟨He.cls_ok h1, a, b, d, e, of_decide_eq_true h3⟩
theorem exi_ok {c : Nat} (h : (Fb.exi c).ok K = true) : ExIs K (ca K c) := by
  obtain ⟨h1, h2⟩ := He.ba h
  obtain ⟨a, b, d, e⟩ := xinB_ok h2
  have x := xfB_ok h1
  exact ⟨⟨x.ga, x.gg, x.exC, x.hdC, a, b, d, e⟩, x.gg⟩
theorem su_in {P : Program} {w : World} {mg : Str → Option Value} {base : Heap} {k : Nat} {x q : Str} {cl : Nat} {ps : List Str} {c : Spec} {args : Arguments} {body : List Stmt} {sc : Scope} {fd : FuncData} {y : Str} (F : FunD K x q args body sc [] [] (He.ma K (ca K cl) "__init__") fd) (hm : mg y = some (.ref (ca K cl)))
    (h : FnOk P w K mg base (L2.CX P w) k (He.ma K (ca K cl) "__init__") fd ps (spOf K c)) (h2 : (Fb.su cl).ok K = true)
    (hbd : ∀ (kV doc pm : Value) (an : Option Addr) (cdv ct : Value) (us : List Value), us.length = ps.length → bindArgs (PySem.W.fnOf x q args body sc .none kV doc pm an cdv ct) ⟨us, []⟩ = pure (ps.zip us)) : SuIn P w K mg base k y cl c := by
  obtain ⟨h1, h2⟩ := He.ba h2
  obtain ⟨h3, h2⟩ := He.ba h2
  obtain ⟨h4, h5⟩ := He.ba h2
  exact ⟨_, fd, ps, .type "type", h, hm, ⟨h1, of_decide_eq_true h3⟩, finB_ok h4, h5, F.bindsN hbd⟩
/-- the tables' facts -/
def fbT (fl : List (Nat × Nat)) (isc exm : List ((Nat × Nat) × Bool)) : List Fb :=
  (fl.flatMap fun p => if p.1 < 9 then [.fa (.cls (cnm p.1)), .fa (.noat (cnm p.1) (nm p.2))] else [.xf p.1 p.2]) ++ (isc.flatMap fun p => [.kit p.1.1 p.1.2 p.2, if p.1.1 < 9 then .ins p.1.1 else .exi p.1.1]) ++ exm.map fun p => .exm p.1.1 p.1.2 p.2
theorem gdT_of {T : Tb} {fl : List (Nat × Nat)} {isc exm : List ((Nat × Nat) × Bool)} (e1 : T.fl = fun c f => fl.contains (c, f)) (e2 : T.isc = fun c d => isc.lookup (c, d)) (e3 : T.exm = fun c d => exm.lookup (c, d)) (h : ∀ f ∈ fbT fl isc exm, f.ok K = true) : GdT K T where
  fl := fun c f hf => by
    rw [e1] at hf
    have m := List.contains_iff_mem.mp hf
    have hm : ∀ g ∈ (if c < 9 then [Fb.fa (.cls (cnm c)), .fa (.noat (cnm c) (nm f))] else [.xf c f]), g.ok K = true := fun g hg => h g (List.mem_append_left _ (List.mem_append_left _ (List.mem_flatMap.mpr ⟨(c, f), m, hg⟩)))
    by_cases q : c < 9
    · rw [if_pos q] at hm ⊢
      exact ⟨He.cls_ok (hm _ List.mem_cons_self), He.noat_ok (hm _ (List.mem_cons_of_mem _ List.mem_cons_self))⟩
    · rw [if_neg q] at hm ⊢
      obtain ⟨h1, h2⟩ := He.ba (hm _ List.mem_cons_self)
      exact ⟨xfB_ok h1, of_decide_eq_true h2⟩
  isc := fun c d b hf => by
    rw [e2] at hf
    have m := lkMem (l := isc) hf
    have hm : ∀ g ∈ [Fb.kit c d b, if c < 9 then .ins c else .exi c], g.ok K = true := fun g hg => h g (List.mem_append_left _ (List.mem_append_right _ (List.mem_flatMap.mpr ⟨((c, d), b), m, hg⟩)))
    refine ⟨of_decide_eq_true (hm _ List.mem_cons_self), ?_⟩
    have h2 := hm _ (List.mem_cons_of_mem _ List.mem_cons_self)
    by_cases q : c < 9
    · rw [if_pos q] at h2 ⊢
      exact ins_ok h2
    · rw [if_neg q] at h2 ⊢
      exact exi_ok h2
  exm := fun c d b hf => by
    rw [e3] at hf
    exact of_decide_eq_true (h (.exm c d b) (List.mem_append_right _ (List.mem_map.mpr ⟨((c, d), b), lkMem (l := exm) hf, rfl⟩)))
end
/-! ### the hook -/
def noList (K : PySem.W.Frag) : Bool := K.all fun p => match p.2.cls with
  | .type c => !decide (c = "list")
  | _ => true
theorem noList_ok {K : PySem.W.Frag} (h : noList K = true) {a : Addr} {o : Obj} (e : K.lookup a = some o) : o.cls ≠ .type "list" := fun z => by
  have h1 := List.all_eq_true.mp h (a, o) (lkMem (l := K) e)
  dsimp only at h1
  rw [z] at h1
  simp at h1
def obsB (fb : List Fb) (fn : List He.DefD) (K : PySem.W.Frag) : He.AlD := (noList K && ((fb.all fun f => f.ok K) && fn.all fun d => d.ok K), fn.map fun d => He.fnW K d.at_)
def valB (fn : List He.DefD) : He.AlD := (true, fn.map He.DefD.val)
def SaysB (fb : List Fb) (fn : List He.DefD) (K : PySem.W.Frag) : Prop := obsB fb fn K = valB fn
def obsBG (n : Nat) (fb : List Fb) (fn : List He.DefD) (g : Addr → Option Obj) : He.AlD := obsB fb fn (He.frG g (He.asD g n))
def hookB (n : Nat) (fb : List Fb) (fn : List He.DefD) : PySem.W.Hook where
  α := He.AlD
  obs := fun s => obsBG n fb fn s.heap.get?
  val := fun _ => valB fn
  says := fun _ h => ∃ K : PySem.W.Frag, K.In h ∧ SaysB fb fn K
  of := fun _ _ e => ⟨_, He.frG_in, e⟩
  keeps := fun _ _ _ ⟨K, hK, c⟩ k => ⟨K, PySem.W.Frag.In.keeps hK k, c⟩
theorem obsBG_eq {n : Nat} {fb : List Fb} {fn : List He.DefD} {g : Addr → Option Obj} {s : Shared} (h : ∀ a, g a = s.heap.get? a) : obsBG n fb fn g = (hookB n fb fn).obs s := by
  have e : g = s.heap.get? := funext h
  rw [e] <;> rfl
section
variable {fb : List Fb} {fn : List He.DefD} {K : PySem.W.Frag}
theorem SaysB.parts (c : SaysB fb fn K) : noList K = true ∧ (∀ f ∈ fb, f.ok K = true) ∧ ∀ d ∈ fn, d.ok K = true := by
  obtain ⟨c0, c1⟩ := He.ba (show (noList K && ((fb.all fun f => f.ok K) && fn.all fun d => d.ok K)) = true from congrArg (fun z : He.AlD => z.1) c)
  obtain ⟨c2, c3⟩ := He.ba c1
  exact ⟨c0, List.all_eq_true.mp c2, List.all_eq_true.mp c3⟩
theorem SaysB.def_ (c : SaysB fb fn K) (i : Nat) {d : He.DefD} (h : fn[i]? = some d := by rfl) : ∃ fd, FunD K d.name d.qual d.params d.body d.scope (d.dvs K) (d.kws K) (He.fAd K d.at_) fd := by
  have e : fn.map (fun d => He.fnW K d.at_) = fn.map He.DefD.val := congrArg (fun z : He.AlD => z.2) c
  have e2 : (fn.map fun d => He.fnW K d.at_)[i]? = (fn.map He.DefD.val)[i]? := by rw [e]
  rw [List.getElem?_map, List.getElem?_map, h] at e2
  exact He.DefD.funD (Option.some.inj e2) (c.parts.2.2 d (List.mem_of_getElem? h))
end
/-! ### the law's end -/
def RSpec.no : RSpec := ⟨False, fun _ _ => True, fun _ _ => True⟩
/-- a value, nothing else -/
def RSpec.pu (S : Store) (p : Prop) (r : Val → Prop) : RSpec := ⟨p, fun v S' => r v ∧ S' = S, fun _ _ => False⟩
theorem fin_pu {S S' : Store} {p : Prop} {r : Val → Prop} {v : Val} (h : r v) (sb : Sub S S') : (fin (.pu S p r)).rt v S' := ⟨S, sb, h, rfl⟩
def lawSpec : Spec := fun as _ => { pre := ∃ ns : List Int, as = [.sl (ns.map .int)] ∧ ns.length ≤ 63 ∧ ∀ z ∈ ns, Builtin.Int.intBits z ≤ 1048576, ret := fun v _ => v = .bl true, exn := fun _ _ => False }
theorem sl_of {K : PySem.W.Frag} {H : Hp} {a : Addr} {xs : List V} (nl : noList K = true) (h : SqL K H a xs) : SlAt H a xs := by
  rcases h with h | ⟨o, _, _, e, ec, _⟩
  · exact h
  · exact absurd ec (noList_ok nl e)
theorem law_end {l : PySem.W.OpenLaw} {k : Nat} {q : Program} {loose : List Str} {XP : (Str → Option Value) → Heap → Prop} {YP : World → Heap → Prop} {d : DefRec} {x : Str}
    (hn : l.most = some 63) (hdf : d.params.defaults = []) (hr : Room k callerA)
    (F : ∀ (w : World) (mg : Str → Option Value) (fa : Addr) (h : Heap), YP w h → h.Ns mainGlobals mg → mg d.name = some (.ref fa) →
      ∃ (K : PySem.W.Frag) (fd : FuncData), K.In h ∧ noList K = true ∧ (∀ (s : Shared) (u : Value), BindsTo s fd ⟨[u], []⟩ [(x, u)]) ∧
        ∀ base : Heap, K.In base → base.Ns mainGlobals mg → FnOk l.prog w K mg base (L2.CX l.prog w) k fa fd [x] (spOf K lawSpec)) :
    PySem.W.WalkO q loose XP YP l.row.toRowW d [] (fun f vs => PySem.call f vs) := by
  refine Att.attach_callB hn hdf fun w s₀ s₁ mg mb fa o pm cd doc a vs ns G Y ho hd hcd hmg hobj hints hlen hbits hg => ?_
  obtain ⟨K, fd, KX, nl, hb, hF⟩ := F w mg fa _ Y G.T.g hmg
  refine law_call KX G.T.g G.T.b G.T.builtins G.T.nolimit hg hobj hints (Nat.le_trans hlen (by decide)) hr hF hb (fun H hO hS => ?_) fun H e s' ⟨_, _, _, _, _, _, _, _, _, _, _, _, z⟩ => z
  refine ⟨H, [.sl (ns.map .int)], fun _ => none, ⟨.ref a, [], rfl, ⟨a, ns.map V.int, rfl, sl_of nl hS, RVs.ofInts⟩, rfl⟩, ⟨fun _ _ e => e, fun a o e => by cases e⟩, ⟨ns, rfl, hlen, hbits⟩, fun v S' e z F' H' _ _ rv => ?_, fun _ _ z => z.elim⟩
  cases e
  exact rv
section
variable {K : PySem.W.Frag} {h : Heap} {mg : Str → Option Value} {fb : List Fb}
theorem free_of (X : K.In h) (Gx : h.Ns mainGlobals mg) (c : ∀ f ∈ fb, f.ok K = true) {l : List Str} (k : ∀ x ∈ l, Fb.fa (.free x) ∈ fb) : ∀ x ∈ l, mg x = none := fun x hx => He.free_ok X Gx (c _ (k x hx))
theorem glo_of (X : K.In h) (Gx : h.Ns mainGlobals mg) {x : Str} {c : Nat} (hf : (He.Fa.glo x).ok K = true) (hx : cnm c = x := by rfl) : mg x = some (.ref (ca K c)) := by
  subst hx
  exact He.glo_ok X Gx hf
theorem cst_nil : ∀ q ∈ ([] : List (Str × Val)), ∃ u v, mg q.1 = some u ∧ RelV v u ∧ ∀ F, RV K F q.2 v := fun _ h => by cases h
theorem cst_int {x : Str} {i : Int} {l : List (Str × Val)} (X : K.In h) (Gx : h.Ns mainGlobals mg) (c : (He.Fa.int x i).ok K = true) (r : ∀ q ∈ l, ∃ u v, mg q.1 = some u ∧ RelV v u ∧ ∀ F, RV K F q.2 v) : ∀ q ∈ ((x, .int i) :: l), ∃ u v, mg q.1 = some u ∧ RelV v u ∧ ∀ F, RV K F q.2 v := fun q hq => by
  rcases List.mem_cons.mp hq with rfl | hq
  · obtain ⟨t, e⟩ := He.int_ok X Gx c
    exact ⟨_, .int i, e, ⟨t, rfl⟩, fun _ => rfl⟩
  · exact r q hq
theorem cst_str {x z : Str} {l : List (Str × Val)} (X : K.In h) (Gx : h.Ns mainGlobals mg) (c : (He.Fa.str x z).ok K = true) (r : ∀ q ∈ l, ∃ u v, mg q.1 = some u ∧ RelV v u ∧ ∀ F, RV K F q.2 v) : ∀ q ∈ ((x, .str z) :: l), ∃ u v, mg q.1 = some u ∧ RelV v u ∧ ∀ F, RV K F q.2 v := fun q hq => by
  rcases List.mem_cons.mp hq with rfl | hq
  · obtain ⟨t, e⟩ := He.str_ok X Gx c
    exact ⟨_, .str z, e, ⟨t, rfl⟩, fun _ => rfl⟩
  · exact r q hq
/-- exceptions that are raised with a text -/
def exsF (l : List (Str × Nat)) : List Fb := l.map fun q => .fa (.exc q.1)
theorem exs_of (X : K.In h) (Gx : h.Ns mainGlobals mg) {l : List (Str × Nat)} (c : ∀ f ∈ fb, f.ok K = true) (h1 : ∀ q ∈ l, cnm q.2 = q.1 ∧ Fb.fa (.exc q.1) ∈ fb ∧ Fb.fa (.glo q.1) ∈ fb) :
    ∀ q ∈ l, mg q.1 = some (.ref (ca K q.2)) ∧ PySem.W.excIn K (ca K q.2) He.veBase "ValueError.__new__" = true ∧ PySem.W.keepIn K (.ref (ca K q.2)) = true ∧ PySem.W.subIn K (.ref (ca K q.2)) (.type "BaseException") = some true ∧ PySem.W.typeIn K (.ref (ca K q.2)) = some (.type "type") := fun q hq => by
  obtain ⟨e, h2, h3⟩ := h1 q hq
  refine ⟨glo_of X Gx (c _ h3) e, ?_⟩
  have := He.exc_ok (c _ h2)
  unfold ca
  rw [e]
  exact this
theorem cls_of (X : K.In h) (Gx : h.Ns mainGlobals mg) {l : List (Str × Nat)} (hb : ∀ x ∈ bltNames, mg x = none) (c : ∀ f ∈ fb, f.ok K = true) (h1 : ∀ q ∈ l, (cnm q.2 = q.1 ∧ q.2 ≠ 99 ∧ Fb.fa (.glo q.1) ∈ fb) ∨ (q.1 = "ValueError" ∧ q.2 = 99)) :
    ∀ q ∈ l, (mg q.1 = some (.ref (ca K q.2)) ∧ q.2 ≠ 99) ∨ (mg q.1 = none ∧ q.1 = "ValueError" ∧ q.2 = 99) := fun q hq => by
  rcases h1 q hq with ⟨e, h2, h3⟩ | ⟨h2, h3⟩
  · exact .inl ⟨glo_of X Gx (c _ h3) e, h2⟩
  · exact .inr ⟨by rw [h2]; exact hb _ (by decide), h2, h3⟩
end
end BW
set_option Elab.async false
set_option linter.all false
set_option maxRecDepth 100000
set_option maxHeartbeats 4000000
namespace BW
open PySem PySem.Spec PyProof.Rows L2
/-! ### the operations at known values -/
section
variable {S : Store} {P : Bool → Prop} {Q : QV}
theorem dt_int {i : Int} {d : PyData} : Dt S (.int i) d ↔ d = .int i := by
  constructor
  · intro h
    cases h with
    | int => rfl
    | lst a _ => rcases a with ⟨_, e, _⟩ | e <;> cases e
  · rintro rfl; exact .int i
theorem dt_bl {i : Bool} {d : PyData} : Dt S (.bl i) d ↔ d = .bool i := by
  constructor
  · intro h
    cases h with
    | bl => rfl
    | lst a _ => rcases a with ⟨_, e, _⟩ | e <;> cases e
  · rintro rfl; exact .bl i
theorem dt_non {d : PyData} : Dt S .non d ↔ d = .none := by
  constructor
  · intro h
    cases h with
    | non => rfl
    | lst a _ => rcases a with ⟨_, e, _⟩ | e <;> cases e
  · rintro rfl; exact .non
theorem dt_tup {l : List Val} {d : PyData} : Dt S (.tup l) d ↔ ∃ ds, d = .tuple ds ∧ Dts S l ds := by
  constructor
  · intro h
    cases h with
    | tup h => exact ⟨_, rfl, h⟩
    | lst a _ => rcases a with ⟨_, e, _⟩ | e <;> cases e
  · rintro ⟨ds, rfl, h⟩; exact .tup h
theorem dts_nil {d : List PyData} : Dts S [] d ↔ d = [] := ⟨fun h => by cases h; rfl, fun h => h ▸ .nil⟩
theorem dts_cons {x : Val} {l : List Val} {d : List PyData} : Dts S (x :: l) d ↔ ∃ e ds, d = e :: ds ∧ Dt S x e ∧ Dts S l ds := ⟨fun h => by cases h with | cons a b => exact ⟨_, _, rfl, a, b⟩, fun ⟨e, ds, h, a, b⟩ => h ▸ .cons a b⟩
theorem eqv_int {a b : Int} : PyData.eqv (.int a) (.int b) = (a == b) := by
  first
    | rfl
    | (unfold PyData.eqv; rfl)
    | simp [PyData.eqv]
theorem opC_eq_int {a b : Int} : opC .eq (.int a) (.int b) S P ↔ P (a == b) := by
  simp only [opC, dt_int]
  constructor
  · rintro ⟨d, e, rfl, rfl, _, _, h⟩; rw [eqv_int] at h; exact h
  · intro h; exact ⟨_, _, rfl, rfl, rfl, rfl, by rw [eqv_int]; exact h⟩
theorem opC_ne_int {a b : Int} : opC .ne (.int a) (.int b) S P ↔ P (a != b) := by
  simp only [opC, dt_int]
  constructor
  · rintro ⟨d, e, rfl, rfl, _, _, h⟩; rw [eqv_int] at h; exact h
  · intro h; exact ⟨_, _, rfl, rfl, rfl, rfl, by rw [eqv_int]; exact h⟩
end
/-! ### how a body is gone through -/
def Later (T : Tb) (b : Sx) (D : Post) : Ev → Store → Prop := fun e S => wS T b e S D
theorem later_at {T : Tb} {b : Sx} {D : Post} {e : Ev} {S : Store} : Later T b D e S = wS T b e S D := rfl
theorem wS_seqL {T : Tb} {a b : Sx} {env : Ev} {S : Store} {D : Post} : wS T (.seq a b) env S D = wS T a env S ⟨Later T b D, D.rt, D.bk, D.ct, D.ex⟩ := rfl
section
variable {S S' : Store} {p : Prop} {r : Val → Prop} {v : Val} {x : Exn}
theorem pu_pre : (RSpec.pu S p r).pre = p := rfl
theorem pu_ret : (RSpec.pu S p r).ret v S' = (r v ∧ S' = S) := rfl
theorem pu_exn : (RSpec.pu S p r).exn x S' = False := rfl
theorem finpu_rt : (fin (.pu S p r)).rt v S' ↔ (r v ∧ Sub S S') := ⟨fun ⟨_, a, b, c⟩ => ⟨b, c ▸ a⟩, fun ⟨b, a⟩ => ⟨S, a, b, rfl⟩⟩
theorem finpu_nx {e : Ev} : (fin (.pu S p r)).nx e S' ↔ (r .non ∧ Sub S S') := ⟨fun ⟨_, a, b, c⟩ => ⟨b, c ▸ a⟩, fun ⟨b, a⟩ => ⟨S, a, b, rfl⟩⟩
theorem finpu_ex {e : Ev} : (fin (.pu S p r)).ex x e S' ↔ False := ⟨fun ⟨_, _, h⟩ => h, fun h => h.elim⟩
end
section
variable {S : Store} {P : Bool → Prop} {Q : QV} {x y : Val}
theorem opC_lt : opC .lt x y S P = tupLt x y P := rfl
theorem opC_le : opC .le x y S P = ltI x y P (fun i j => decide (i ≤ j)) (fun a b => !HT.lexLt b a) := rfl
theorem opC_gt : opC .gt x y S P = ltI x y P (fun i j => decide (j < i)) (fun a b => HT.lexLt b a) := rfl
theorem opC_ge : opC .ge x y S P = ltI x y P (fun i j => decide (j ≤ i)) (fun a b => !HT.lexLt a b) := rfl
theorem opC_is : opC .is x .non S P = P x.isNon := propext ⟨fun h => by cases x <;> exact h.2, fun h => by cases x <;> exact ⟨rfl, h⟩⟩
theorem opC_isnot : opC .isnot x .non S P = P (!x.isNon) := propext ⟨fun h => by cases x <;> exact h.2, fun h => by cases x <;> exact ⟨rfl, h⟩⟩
theorem opC_isb {a b : Bool} : opC .is (.bl a) (.bl b) S P = P (decide (a = b)) := rfl
theorem opC_isnb {a b : Bool} : opC .isnot (.bl a) (.bl b) S P = P (!decide (a = b)) := rfl
theorem opC_isi {a : Int} {b : Bool} : opC .is (.int a) (.bl b) S P = P false := rfl
theorem opC_isni {a : Int} {b : Bool} : opC .isnot (.int a) (.bl b) S P = P true := rfl
theorem opC_ist {a : List Val} {b : Bool} : opC .is (.tup a) (.bl b) S P = P false := rfl
theorem opC_isnt {a : List Val} {b : Bool} : opC .isnot (.tup a) (.bl b) S P = P true := rfl
theorem opC_iso {b : Bool} : opC .is .non (.bl b) S P = P false := rfl
theorem opC_isno {b : Bool} : opC .isnot .non (.bl b) S P = P true := rfl
theorem opC_in : opC .in_ x y S P = inOp S x y P := rfl
theorem opC_notin : opC .notin x y S P = inOp S x y fun b => P (!b) := rfl
/-- the lists of the store -/
theorem getL_ref {a : Addr} {R : List Val → Prop} {l : List Val} (h : S a = some (.lst l)) : getL S (.ref a) R ↔ R l := by simp only [getL, h]
theorem getL_sl {R : List Val → Prop} {l : List Val} : getL S (.sl l) R ↔ R l := Iff.rfl
theorem getL_put {a : Addr} {R : List Val → Prop} {l : List Val} : getL (put S a (.lst l)) (.ref a) R ↔ R l := getL_ref put_same
end
theorem atI_0 {α : Type} {x : α} {l : List α} : atI (x :: l) 0 = some x := by
  have h : ixN (x :: l).length 0 = some 0 := by simp [ixN]
  show (ixN (x :: l).length 0).bind _ = _
  rw [h]
  rfl
theorem atI_nat {α : Type} {l : List α} {k : Nat} (h : k < l.length) : atI l (k : Int) = l[k]? := by
  have h2 : ixN l.length (k : Int) = some k := by
    unfold ixN
    rw [if_pos (Int.natCast_nonneg k)]
    simp [h]
  show (ixN l.length k).bind _ = _
  rw [h2]
  rfl
theorem atI_1 {α : Type} {x y : α} {l : List α} : atI (x :: y :: l) 1 = some y := atI_nat (l := x :: y :: l) (k := 1) (by simp)
theorem atI_2 {α : Type} {x y z : α} {l : List α} : atI (x :: y :: z :: l) 2 = some z := atI_nat (l := x :: y :: z :: l) (k := 2) (by simp)
theorem atI_3 {α : Type} {x y z u : α} {l : List α} : atI (x :: y :: z :: u :: l) 3 = some u := atI_nat (l := x :: y :: z :: u :: l) (k := 3) (by simp)
/-- a loop over items by an invariant -/
theorem wFor_inv {G : Store → Prop} {g : Val → Ev → (Ev → Prop) → Prop} {b : Ev → Store → Post → Prop} {D : Post} (kg : ∀ x env P P', (∀ e, P e → P' e) → g x env P → g x env P') (kb : ∀ env S D D', Post.Le D D' → b env S D → b env S D') {items : List Val} (I : Nat → Ev → Store → Prop)
    (hs : ∀ k x env S, items[k]? = some x → I k env S → G S ∧ g x env fun e1 => b e1 S ⟨I (k + 1), D.rt, D.nx, I (k + 1), D.ex⟩) (he : ∀ env S, I items.length env S → G S ∧ D.nx env S) :
    ∀ (n k : Nat) (env : Ev) (S : Store), n + k = items.length → I k env S → wFor G g b D (items.drop k) env S
  | 0, k, env, S, hk, h => by
    have e : k = items.length := by omega
    subst e
    rw [List.drop_length]
    exact he env S h
  | n + 1, k, env, S, hk, h => by
    have hl : k < items.length := by omega
    rw [List.drop_eq_getElem_cons hl]
    obtain ⟨h1, h2⟩ := hs k _ env S (List.getElem?_eq_getElem hl) h
    refine ⟨h1, kg _ _ _ _ (fun e1 h3 => kb _ _ _ _ ?_ h3) h2⟩
    have ih : ∀ e S, I (k + 1) e S → wFor G g b D (items.drop (k + 1)) e S := fun e S => wFor_inv kg kb I hs he n (k + 1) e S (by omega)
    exact ⟨ih, fun _ _ z => z, fun _ _ z => z, ih, fun _ _ _ z => z⟩
theorem for_inv {T : Tb} {G : Store → Prop} {g : Tg} {b : Sx} {D : Post} {items : List Val} {env : Ev} {S : Store} (I : Nat → Ev → Store → Prop) (h0 : I 0 env S)
    (hs : ∀ k x env S, items[k]? = some x → I k env S → G S ∧ tgt g x env fun e1 => wS T b e1 S ⟨I (k + 1), D.rt, D.nx, I (k + 1), D.ex⟩) (he : ∀ env S, I items.length env S → G S ∧ D.nx env S) : wFor G (tgt g) (wS T b) D items env S :=
  wFor_inv (g := tgt g) (b := wS T b) (fun _ _ _ _ k h => tgt_mono k h) (fun _ _ _ _ k h => wS_mono b k h) I hs he items.length 0 env S rfl h0
theorem whl_inv {T : Tb} {c : Ex} {b : Sx} {D : Post} {env : Ev} {S : Store} (W : Nat → Ev → Store → Prop) (m : Nat) (h0 : W m env S)
    (hs : ∀ m env S, W m env S → wT T c env S (fun t S1 => if t = true then wS T b env S1 ⟨fun e' S' => ∃ m', m' < m ∧ W m' e' S', D.rt, D.nx, fun e' S' => ∃ m', m' < m ∧ W m' e' S', D.ex⟩ else D.nx env S1) fun x S' => D.ex x env S') : wS T (.whl c b) env S D := ⟨W, ⟨m, h0⟩, hs⟩

theorem ty_bool_bool : (Ty.bool == Ty.bool) = true := rfl
theorem ty_bool_int : (Ty.bool == Ty.int) = false := rfl
theorem ty_bool_tuple : (Ty.bool == Ty.tuple) = false := rfl
theorem ty_bool_list : (Ty.bool == Ty.list) = false := rfl
theorem ty_bool_str : (Ty.bool == Ty.str) = false := rfl
theorem ty_int_bool : (Ty.int == Ty.bool) = false := rfl
theorem ty_int_int : (Ty.int == Ty.int) = true := rfl
theorem ty_int_tuple : (Ty.int == Ty.tuple) = false := rfl
theorem ty_int_list : (Ty.int == Ty.list) = false := rfl
theorem ty_int_str : (Ty.int == Ty.str) = false := rfl
theorem ty_tuple_bool : (Ty.tuple == Ty.bool) = false := rfl
theorem ty_tuple_int : (Ty.tuple == Ty.int) = false := rfl
theorem ty_tuple_tuple : (Ty.tuple == Ty.tuple) = true := rfl
theorem ty_tuple_list : (Ty.tuple == Ty.list) = false := rfl
theorem ty_tuple_str : (Ty.tuple == Ty.str) = false := rfl
theorem ty_list_bool : (Ty.list == Ty.bool) = false := rfl
theorem ty_list_int : (Ty.list == Ty.int) = false := rfl
theorem ty_list_tuple : (Ty.list == Ty.tuple) = false := rfl
theorem ty_list_list : (Ty.list == Ty.list) = true := rfl
theorem ty_list_str : (Ty.list == Ty.str) = false := rfl
theorem ty_str_bool : (Ty.str == Ty.bool) = false := rfl
theorem ty_str_int : (Ty.str == Ty.int) = false := rfl
theorem ty_str_tuple : (Ty.str == Ty.tuple) = false := rfl
theorem ty_str_list : (Ty.str == Ty.list) = false := rfl
theorem ty_str_str : (Ty.str == Ty.str) = true := rfl
theorem wE_v0 {T : Tb} {v : Val} {env : Ev} {S : Store} {Q : QV} {E : Exn → Store → Prop} : wE T (.var 0) (some v :: env) S Q E = Q v S := propext ⟨fun ⟨_, e, h⟩ => by cases e; exact h, fun h => ⟨v, rfl, h⟩⟩
theorem wT_v0 {T : Tb} {v : Val} {env : Ev} {S : Store} {Q : Bool → Store → Prop} {E : Exn → Store → Prop} : wT T (.var 0) (some v :: env) S Q E = tru v S (fun t => Q t S) := propext ⟨fun ⟨_, e, h⟩ => by cases e; exact h, fun h => ⟨v, rfl, h⟩⟩
theorem tgt_0 {x : Option Val} {v : Val} {env : Ev} {P : Ev → Prop} : tgt (.nm 0) v (x :: env) P = P (some v :: env) := rfl
theorem exI_0 {fn : Nat → Spec} {mt : Nat → Nat → Option Nat} {mkr : Nat → Option Nat} {fl : Nat → Nat → Bool} {isc exm : Nat → Nat → Option Bool} {a : Addr} {env : Ev} {S : Store} {cs : List Nat} {Q : QV} {E : Exn → Store → Prop} {d : Nat} {fs : List (Nat × Val)} : wE ⟨fn, mt, mkr, fl, isc, exm, some (a, d, fs)⟩ (.exis 0 cs) (some (.exc a) :: env) S Q E = (9 ≤ d ∧ ∃ b, isAny (isc d) cs = some b ∧ Q (.bl b) S) := propext ⟨fun ⟨_, _, _, e, ⟨h, h9⟩, b, hb, q⟩ => by cases e; cases h; exact ⟨h9, b, hb, q⟩, fun ⟨h9, b, hb, q⟩ => ⟨a, d, fs, rfl, ⟨rfl, h9⟩, b, hb, q⟩⟩
theorem exT_0 {fn : Nat → Spec} {mt : Nat → Nat → Option Nat} {mkr : Nat → Option Nat} {fl : Nat → Nat → Bool} {isc exm : Nat → Nat → Option Bool} {a : Addr} {env : Ev} {S : Store} {cs : List Nat} {Q : Bool → Store → Prop} {E : Exn → Store → Prop} {d : Nat} {fs : List (Nat × Val)} : wT ⟨fn, mt, mkr, fl, isc, exm, some (a, d, fs)⟩ (.exis 0 cs) (some (.exc a) :: env) S Q E = (9 ≤ d ∧ ∃ b, isAny (isc d) cs = some b ∧ Q b S) := propext ⟨fun ⟨_, _, _, e, ⟨h, h9⟩, b, hb, q⟩ => by cases e; cases h; exact ⟨h9, b, hb, q⟩, fun ⟨h9, b, hb, q⟩ => ⟨a, d, fs, rfl, ⟨rfl, h9⟩, b, hb, q⟩⟩
theorem exF_0 {fn : Nat → Spec} {mt : Nat → Nat → Option Nat} {mkr : Nat → Option Nat} {fl : Nat → Nat → Bool} {isc exm : Nat → Nat → Option Bool} {a : Addr} {env : Ev} {S : Store} {f : Nat} {Q : QV} {E : Exn → Store → Prop} {d : Nat} {fs : List (Nat × Val)} : wE ⟨fn, mt, mkr, fl, isc, exm, some (a, d, fs)⟩ (.exfl 0 f) (some (.exc a) :: env) S Q E = (∃ v, (9 ≤ d ∧ fl d f = true) ∧ fs.lookup f = some v ∧ Q v S) := propext ⟨fun ⟨_, _, _, v, e, ⟨h, h9⟩, hb, q⟩ => by cases e; cases h; exact ⟨v, h9, hb, q⟩, fun ⟨v, h9, hb, q⟩ => ⟨a, d, fs, v, rfl, ⟨rfl, h9⟩, hb, q⟩⟩
theorem wE_v1 {T : Tb} {a0 : Option Val} {v : Val} {env : Ev} {S : Store} {Q : QV} {E : Exn → Store → Prop} : wE T (.var 1) (a0 :: some v :: env) S Q E = Q v S := propext ⟨fun ⟨_, e, h⟩ => by cases e; exact h, fun h => ⟨v, rfl, h⟩⟩
theorem wT_v1 {T : Tb} {a0 : Option Val} {v : Val} {env : Ev} {S : Store} {Q : Bool → Store → Prop} {E : Exn → Store → Prop} : wT T (.var 1) (a0 :: some v :: env) S Q E = tru v S (fun t => Q t S) := propext ⟨fun ⟨_, e, h⟩ => by cases e; exact h, fun h => ⟨v, rfl, h⟩⟩
theorem tgt_1 {a0 : Option Val} {x : Option Val} {v : Val} {env : Ev} {P : Ev → Prop} : tgt (.nm 1) v (a0 :: x :: env) P = P (a0 :: some v :: env) := rfl
theorem exI_1 {fn : Nat → Spec} {mt : Nat → Nat → Option Nat} {mkr : Nat → Option Nat} {fl : Nat → Nat → Bool} {isc exm : Nat → Nat → Option Bool} {a0 : Option Val} {a : Addr} {env : Ev} {S : Store} {cs : List Nat} {Q : QV} {E : Exn → Store → Prop} {d : Nat} {fs : List (Nat × Val)} : wE ⟨fn, mt, mkr, fl, isc, exm, some (a, d, fs)⟩ (.exis 1 cs) (a0 :: some (.exc a) :: env) S Q E = (9 ≤ d ∧ ∃ b, isAny (isc d) cs = some b ∧ Q (.bl b) S) := propext ⟨fun ⟨_, _, _, e, ⟨h, h9⟩, b, hb, q⟩ => by cases e; cases h; exact ⟨h9, b, hb, q⟩, fun ⟨h9, b, hb, q⟩ => ⟨a, d, fs, rfl, ⟨rfl, h9⟩, b, hb, q⟩⟩
theorem exT_1 {fn : Nat → Spec} {mt : Nat → Nat → Option Nat} {mkr : Nat → Option Nat} {fl : Nat → Nat → Bool} {isc exm : Nat → Nat → Option Bool} {a0 : Option Val} {a : Addr} {env : Ev} {S : Store} {cs : List Nat} {Q : Bool → Store → Prop} {E : Exn → Store → Prop} {d : Nat} {fs : List (Nat × Val)} : wT ⟨fn, mt, mkr, fl, isc, exm, some (a, d, fs)⟩ (.exis 1 cs) (a0 :: some (.exc a) :: env) S Q E = (9 ≤ d ∧ ∃ b, isAny (isc d) cs = some b ∧ Q b S) := propext ⟨fun ⟨_, _, _, e, ⟨h, h9⟩, b, hb, q⟩ => by cases e; cases h; exact ⟨h9, b, hb, q⟩, fun ⟨h9, b, hb, q⟩ => ⟨a, d, fs, rfl, ⟨rfl, h9⟩, b, hb, q⟩⟩
theorem exF_1 {fn : Nat → Spec} {mt : Nat → Nat → Option Nat} {mkr : Nat → Option Nat} {fl : Nat → Nat → Bool} {isc exm : Nat → Nat → Option Bool} {a0 : Option Val} {a : Addr} {env : Ev} {S : Store} {f : Nat} {Q : QV} {E : Exn → Store → Prop} {d : Nat} {fs : List (Nat × Val)} : wE ⟨fn, mt, mkr, fl, isc, exm, some (a, d, fs)⟩ (.exfl 1 f) (a0 :: some (.exc a) :: env) S Q E = (∃ v, (9 ≤ d ∧ fl d f = true) ∧ fs.lookup f = some v ∧ Q v S) := propext ⟨fun ⟨_, _, _, v, e, ⟨h, h9⟩, hb, q⟩ => by cases e; cases h; exact ⟨v, h9, hb, q⟩, fun ⟨v, h9, hb, q⟩ => ⟨a, d, fs, v, rfl, ⟨rfl, h9⟩, hb, q⟩⟩
theorem wE_v2 {T : Tb} {a0 a1 : Option Val} {v : Val} {env : Ev} {S : Store} {Q : QV} {E : Exn → Store → Prop} : wE T (.var 2) (a0 :: a1 :: some v :: env) S Q E = Q v S := propext ⟨fun ⟨_, e, h⟩ => by cases e; exact h, fun h => ⟨v, rfl, h⟩⟩
theorem wT_v2 {T : Tb} {a0 a1 : Option Val} {v : Val} {env : Ev} {S : Store} {Q : Bool → Store → Prop} {E : Exn → Store → Prop} : wT T (.var 2) (a0 :: a1 :: some v :: env) S Q E = tru v S (fun t => Q t S) := propext ⟨fun ⟨_, e, h⟩ => by cases e; exact h, fun h => ⟨v, rfl, h⟩⟩
theorem tgt_2 {a0 a1 : Option Val} {x : Option Val} {v : Val} {env : Ev} {P : Ev → Prop} : tgt (.nm 2) v (a0 :: a1 :: x :: env) P = P (a0 :: a1 :: some v :: env) := rfl
theorem exI_2 {fn : Nat → Spec} {mt : Nat → Nat → Option Nat} {mkr : Nat → Option Nat} {fl : Nat → Nat → Bool} {isc exm : Nat → Nat → Option Bool} {a0 a1 : Option Val} {a : Addr} {env : Ev} {S : Store} {cs : List Nat} {Q : QV} {E : Exn → Store → Prop} {d : Nat} {fs : List (Nat × Val)} : wE ⟨fn, mt, mkr, fl, isc, exm, some (a, d, fs)⟩ (.exis 2 cs) (a0 :: a1 :: some (.exc a) :: env) S Q E = (9 ≤ d ∧ ∃ b, isAny (isc d) cs = some b ∧ Q (.bl b) S) := propext ⟨fun ⟨_, _, _, e, ⟨h, h9⟩, b, hb, q⟩ => by cases e; cases h; exact ⟨h9, b, hb, q⟩, fun ⟨h9, b, hb, q⟩ => ⟨a, d, fs, rfl, ⟨rfl, h9⟩, b, hb, q⟩⟩
theorem exT_2 {fn : Nat → Spec} {mt : Nat → Nat → Option Nat} {mkr : Nat → Option Nat} {fl : Nat → Nat → Bool} {isc exm : Nat → Nat → Option Bool} {a0 a1 : Option Val} {a : Addr} {env : Ev} {S : Store} {cs : List Nat} {Q : Bool → Store → Prop} {E : Exn → Store → Prop} {d : Nat} {fs : List (Nat × Val)} : wT ⟨fn, mt, mkr, fl, isc, exm, some (a, d, fs)⟩ (.exis 2 cs) (a0 :: a1 :: some (.exc a) :: env) S Q E = (9 ≤ d ∧ ∃ b, isAny (isc d) cs = some b ∧ Q b S) := propext ⟨fun ⟨_, _, _, e, ⟨h, h9⟩, b, hb, q⟩ => by cases e; cases h; exact ⟨h9, b, hb, q⟩, fun ⟨h9, b, hb, q⟩ => ⟨a, d, fs, rfl, ⟨rfl, h9⟩, b, hb, q⟩⟩
theorem exF_2 {fn : Nat → Spec} {mt : Nat → Nat → Option Nat} {mkr : Nat → Option Nat} {fl : Nat → Nat → Bool} {isc exm : Nat → Nat → Option Bool} {a0 a1 : Option Val} {a : Addr} {env : Ev} {S : Store} {f : Nat} {Q : QV} {E : Exn → Store → Prop} {d : Nat} {fs : List (Nat × Val)} : wE ⟨fn, mt, mkr, fl, isc, exm, some (a, d, fs)⟩ (.exfl 2 f) (a0 :: a1 :: some (.exc a) :: env) S Q E = (∃ v, (9 ≤ d ∧ fl d f = true) ∧ fs.lookup f = some v ∧ Q v S) := propext ⟨fun ⟨_, _, _, v, e, ⟨h, h9⟩, hb, q⟩ => by cases e; cases h; exact ⟨v, h9, hb, q⟩, fun ⟨v, h9, hb, q⟩ => ⟨a, d, fs, v, rfl, ⟨rfl, h9⟩, hb, q⟩⟩
theorem wE_v3 {T : Tb} {a0 a1 a2 : Option Val} {v : Val} {env : Ev} {S : Store} {Q : QV} {E : Exn → Store → Prop} : wE T (.var 3) (a0 :: a1 :: a2 :: some v :: env) S Q E = Q v S := propext ⟨fun ⟨_, e, h⟩ => by cases e; exact h, fun h => ⟨v, rfl, h⟩⟩
theorem wT_v3 {T : Tb} {a0 a1 a2 : Option Val} {v : Val} {env : Ev} {S : Store} {Q : Bool → Store → Prop} {E : Exn → Store → Prop} : wT T (.var 3) (a0 :: a1 :: a2 :: some v :: env) S Q E = tru v S (fun t => Q t S) := propext ⟨fun ⟨_, e, h⟩ => by cases e; exact h, fun h => ⟨v, rfl, h⟩⟩
theorem tgt_3 {a0 a1 a2 : Option Val} {x : Option Val} {v : Val} {env : Ev} {P : Ev → Prop} : tgt (.nm 3) v (a0 :: a1 :: a2 :: x :: env) P = P (a0 :: a1 :: a2 :: some v :: env) := rfl
theorem exI_3 {fn : Nat → Spec} {mt : Nat → Nat → Option Nat} {mkr : Nat → Option Nat} {fl : Nat → Nat → Bool} {isc exm : Nat → Nat → Option Bool} {a0 a1 a2 : Option Val} {a : Addr} {env : Ev} {S : Store} {cs : List Nat} {Q : QV} {E : Exn → Store → Prop} {d : Nat} {fs : List (Nat × Val)} : wE ⟨fn, mt, mkr, fl, isc, exm, some (a, d, fs)⟩ (.exis 3 cs) (a0 :: a1 :: a2 :: some (.exc a) :: env) S Q E = (9 ≤ d ∧ ∃ b, isAny (isc d) cs = some b ∧ Q (.bl b) S) := propext ⟨fun ⟨_, _, _, e, ⟨h, h9⟩, b, hb, q⟩ => by cases e; cases h; exact ⟨h9, b, hb, q⟩, fun ⟨h9, b, hb, q⟩ => ⟨a, d, fs, rfl, ⟨rfl, h9⟩, b, hb, q⟩⟩
theorem exT_3 {fn : Nat → Spec} {mt : Nat → Nat → Option Nat} {mkr : Nat → Option Nat} {fl : Nat → Nat → Bool} {isc exm : Nat → Nat → Option Bool} {a0 a1 a2 : Option Val} {a : Addr} {env : Ev} {S : Store} {cs : List Nat} {Q : Bool → Store → Prop} {E : Exn → Store → Prop} {d : Nat} {fs : List (Nat × Val)} : wT ⟨fn, mt, mkr, fl, isc, exm, some (a, d, fs)⟩ (.exis 3 cs) (a0 :: a1 :: a2 :: some (.exc a) :: env) S Q E = (9 ≤ d ∧ ∃ b, isAny (isc d) cs = some b ∧ Q b S) := propext ⟨fun ⟨_, _, _, e, ⟨h, h9⟩, b, hb, q⟩ => by cases e; cases h; exact ⟨h9, b, hb, q⟩, fun ⟨h9, b, hb, q⟩ => ⟨a, d, fs, rfl, ⟨rfl, h9⟩, b, hb, q⟩⟩
theorem exF_3 {fn : Nat → Spec} {mt : Nat → Nat → Option Nat} {mkr : Nat → Option Nat} {fl : Nat → Nat → Bool} {isc exm : Nat → Nat → Option Bool} {a0 a1 a2 : Option Val} {a : Addr} {env : Ev} {S : Store} {f : Nat} {Q : QV} {E : Exn → Store → Prop} {d : Nat} {fs : List (Nat × Val)} : wE ⟨fn, mt, mkr, fl, isc, exm, some (a, d, fs)⟩ (.exfl 3 f) (a0 :: a1 :: a2 :: some (.exc a) :: env) S Q E = (∃ v, (9 ≤ d ∧ fl d f = true) ∧ fs.lookup f = some v ∧ Q v S) := propext ⟨fun ⟨_, _, _, v, e, ⟨h, h9⟩, hb, q⟩ => by cases e; cases h; exact ⟨v, h9, hb, q⟩, fun ⟨v, h9, hb, q⟩ => ⟨a, d, fs, v, rfl, ⟨rfl, h9⟩, hb, q⟩⟩
theorem wE_v4 {T : Tb} {a0 a1 a2 a3 : Option Val} {v : Val} {env : Ev} {S : Store} {Q : QV} {E : Exn → Store → Prop} : wE T (.var 4) (a0 :: a1 :: a2 :: a3 :: some v :: env) S Q E = Q v S := propext ⟨fun ⟨_, e, h⟩ => by cases e; exact h, fun h => ⟨v, rfl, h⟩⟩
theorem wT_v4 {T : Tb} {a0 a1 a2 a3 : Option Val} {v : Val} {env : Ev} {S : Store} {Q : Bool → Store → Prop} {E : Exn → Store → Prop} : wT T (.var 4) (a0 :: a1 :: a2 :: a3 :: some v :: env) S Q E = tru v S (fun t => Q t S) := propext ⟨fun ⟨_, e, h⟩ => by cases e; exact h, fun h => ⟨v, rfl, h⟩⟩
theorem tgt_4 {a0 a1 a2 a3 : Option Val} {x : Option Val} {v : Val} {env : Ev} {P : Ev → Prop} : tgt (.nm 4) v (a0 :: a1 :: a2 :: a3 :: x :: env) P = P (a0 :: a1 :: a2 :: a3 :: some v :: env) := rfl
theorem exI_4 {fn : Nat → Spec} {mt : Nat → Nat → Option Nat} {mkr : Nat → Option Nat} {fl : Nat → Nat → Bool} {isc exm : Nat → Nat → Option Bool} {a0 a1 a2 a3 : Option Val} {a : Addr} {env : Ev} {S : Store} {cs : List Nat} {Q : QV} {E : Exn → Store → Prop} {d : Nat} {fs : List (Nat × Val)} : wE ⟨fn, mt, mkr, fl, isc, exm, some (a, d, fs)⟩ (.exis 4 cs) (a0 :: a1 :: a2 :: a3 :: some (.exc a) :: env) S Q E = (9 ≤ d ∧ ∃ b, isAny (isc d) cs = some b ∧ Q (.bl b) S) := propext ⟨fun ⟨_, _, _, e, ⟨h, h9⟩, b, hb, q⟩ => by cases e; cases h; exact ⟨h9, b, hb, q⟩, fun ⟨h9, b, hb, q⟩ => ⟨a, d, fs, rfl, ⟨rfl, h9⟩, b, hb, q⟩⟩
theorem exT_4 {fn : Nat → Spec} {mt : Nat → Nat → Option Nat} {mkr : Nat → Option Nat} {fl : Nat → Nat → Bool} {isc exm : Nat → Nat → Option Bool} {a0 a1 a2 a3 : Option Val} {a : Addr} {env : Ev} {S : Store} {cs : List Nat} {Q : Bool → Store → Prop} {E : Exn → Store → Prop} {d : Nat} {fs : List (Nat × Val)} : wT ⟨fn, mt, mkr, fl, isc, exm, some (a, d, fs)⟩ (.exis 4 cs) (a0 :: a1 :: a2 :: a3 :: some (.exc a) :: env) S Q E = (9 ≤ d ∧ ∃ b, isAny (isc d) cs = some b ∧ Q b S) := propext ⟨fun ⟨_, _, _, e, ⟨h, h9⟩, b, hb, q⟩ => by cases e; cases h; exact ⟨h9, b, hb, q⟩, fun ⟨h9, b, hb, q⟩ => ⟨a, d, fs, rfl, ⟨rfl, h9⟩, b, hb, q⟩⟩
theorem exF_4 {fn : Nat → Spec} {mt : Nat → Nat → Option Nat} {mkr : Nat → Option Nat} {fl : Nat → Nat → Bool} {isc exm : Nat → Nat → Option Bool} {a0 a1 a2 a3 : Option Val} {a : Addr} {env : Ev} {S : Store} {f : Nat} {Q : QV} {E : Exn → Store → Prop} {d : Nat} {fs : List (Nat × Val)} : wE ⟨fn, mt, mkr, fl, isc, exm, some (a, d, fs)⟩ (.exfl 4 f) (a0 :: a1 :: a2 :: a3 :: some (.exc a) :: env) S Q E = (∃ v, (9 ≤ d ∧ fl d f = true) ∧ fs.lookup f = some v ∧ Q v S) := propext ⟨fun ⟨_, _, _, v, e, ⟨h, h9⟩, hb, q⟩ => by cases e; cases h; exact ⟨v, h9, hb, q⟩, fun ⟨v, h9, hb, q⟩ => ⟨a, d, fs, v, rfl, ⟨rfl, h9⟩, hb, q⟩⟩
theorem wE_v5 {T : Tb} {a0 a1 a2 a3 a4 : Option Val} {v : Val} {env : Ev} {S : Store} {Q : QV} {E : Exn → Store → Prop} : wE T (.var 5) (a0 :: a1 :: a2 :: a3 :: a4 :: some v :: env) S Q E = Q v S := propext ⟨fun ⟨_, e, h⟩ => by cases e; exact h, fun h => ⟨v, rfl, h⟩⟩
theorem wT_v5 {T : Tb} {a0 a1 a2 a3 a4 : Option Val} {v : Val} {env : Ev} {S : Store} {Q : Bool → Store → Prop} {E : Exn → Store → Prop} : wT T (.var 5) (a0 :: a1 :: a2 :: a3 :: a4 :: some v :: env) S Q E = tru v S (fun t => Q t S) := propext ⟨fun ⟨_, e, h⟩ => by cases e; exact h, fun h => ⟨v, rfl, h⟩⟩
theorem tgt_5 {a0 a1 a2 a3 a4 : Option Val} {x : Option Val} {v : Val} {env : Ev} {P : Ev → Prop} : tgt (.nm 5) v (a0 :: a1 :: a2 :: a3 :: a4 :: x :: env) P = P (a0 :: a1 :: a2 :: a3 :: a4 :: some v :: env) := rfl
theorem exI_5 {fn : Nat → Spec} {mt : Nat → Nat → Option Nat} {mkr : Nat → Option Nat} {fl : Nat → Nat → Bool} {isc exm : Nat → Nat → Option Bool} {a0 a1 a2 a3 a4 : Option Val} {a : Addr} {env : Ev} {S : Store} {cs : List Nat} {Q : QV} {E : Exn → Store → Prop} {d : Nat} {fs : List (Nat × Val)} : wE ⟨fn, mt, mkr, fl, isc, exm, some (a, d, fs)⟩ (.exis 5 cs) (a0 :: a1 :: a2 :: a3 :: a4 :: some (.exc a) :: env) S Q E = (9 ≤ d ∧ ∃ b, isAny (isc d) cs = some b ∧ Q (.bl b) S) := propext ⟨fun ⟨_, _, _, e, ⟨h, h9⟩, b, hb, q⟩ => by cases e; cases h; exact ⟨h9, b, hb, q⟩, fun ⟨h9, b, hb, q⟩ => ⟨a, d, fs, rfl, ⟨rfl, h9⟩, b, hb, q⟩⟩
theorem exT_5 {fn : Nat → Spec} {mt : Nat → Nat → Option Nat} {mkr : Nat → Option Nat} {fl : Nat → Nat → Bool} {isc exm : Nat → Nat → Option Bool} {a0 a1 a2 a3 a4 : Option Val} {a : Addr} {env : Ev} {S : Store} {cs : List Nat} {Q : Bool → Store → Prop} {E : Exn → Store → Prop} {d : Nat} {fs : List (Nat × Val)} : wT ⟨fn, mt, mkr, fl, isc, exm, some (a, d, fs)⟩ (.exis 5 cs) (a0 :: a1 :: a2 :: a3 :: a4 :: some (.exc a) :: env) S Q E = (9 ≤ d ∧ ∃ b, isAny (isc d) cs = some b ∧ Q b S) := propext ⟨fun ⟨_, _, _, e, ⟨h, h9⟩, b, hb, q⟩ => by cases e; cases h; exact ⟨h9, b, hb, q⟩, fun ⟨h9, b, hb, q⟩ => ⟨a, d, fs, rfl, ⟨rfl, h9⟩, b, hb, q⟩⟩
theorem exF_5 {fn : Nat → Spec} {mt : Nat → Nat → Option Nat} {mkr : Nat → Option Nat} {fl : Nat → Nat → Bool} {isc exm : Nat → Nat → Option Bool} {a0 a1 a2 a3 a4 : Option Val} {a : Addr} {env : Ev} {S : Store} {f : Nat} {Q : QV} {E : Exn → Store → Prop} {d : Nat} {fs : List (Nat × Val)} : wE ⟨fn, mt, mkr, fl, isc, exm, some (a, d, fs)⟩ (.exfl 5 f) (a0 :: a1 :: a2 :: a3 :: a4 :: some (.exc a) :: env) S Q E = (∃ v, (9 ≤ d ∧ fl d f = true) ∧ fs.lookup f = some v ∧ Q v S) := propext ⟨fun ⟨_, _, _, v, e, ⟨h, h9⟩, hb, q⟩ => by cases e; cases h; exact ⟨v, h9, hb, q⟩, fun ⟨v, h9, hb, q⟩ => ⟨a, d, fs, v, rfl, ⟨rfl, h9⟩, hb, q⟩⟩
theorem wE_v6 {T : Tb} {a0 a1 a2 a3 a4 a5 : Option Val} {v : Val} {env : Ev} {S : Store} {Q : QV} {E : Exn → Store → Prop} : wE T (.var 6) (a0 :: a1 :: a2 :: a3 :: a4 :: a5 :: some v :: env) S Q E = Q v S := propext ⟨fun ⟨_, e, h⟩ => by cases e; exact h, fun h => ⟨v, rfl, h⟩⟩
theorem wT_v6 {T : Tb} {a0 a1 a2 a3 a4 a5 : Option Val} {v : Val} {env : Ev} {S : Store} {Q : Bool → Store → Prop} {E : Exn → Store → Prop} : wT T (.var 6) (a0 :: a1 :: a2 :: a3 :: a4 :: a5 :: some v :: env) S Q E = tru v S (fun t => Q t S) := propext ⟨fun ⟨_, e, h⟩ => by cases e; exact h, fun h => ⟨v, rfl, h⟩⟩
theorem tgt_6 {a0 a1 a2 a3 a4 a5 : Option Val} {x : Option Val} {v : Val} {env : Ev} {P : Ev → Prop} : tgt (.nm 6) v (a0 :: a1 :: a2 :: a3 :: a4 :: a5 :: x :: env) P = P (a0 :: a1 :: a2 :: a3 :: a4 :: a5 :: some v :: env) := rfl
theorem exI_6 {fn : Nat → Spec} {mt : Nat → Nat → Option Nat} {mkr : Nat → Option Nat} {fl : Nat → Nat → Bool} {isc exm : Nat → Nat → Option Bool} {a0 a1 a2 a3 a4 a5 : Option Val} {a : Addr} {env : Ev} {S : Store} {cs : List Nat} {Q : QV} {E : Exn → Store → Prop} {d : Nat} {fs : List (Nat × Val)} : wE ⟨fn, mt, mkr, fl, isc, exm, some (a, d, fs)⟩ (.exis 6 cs) (a0 :: a1 :: a2 :: a3 :: a4 :: a5 :: some (.exc a) :: env) S Q E = (9 ≤ d ∧ ∃ b, isAny (isc d) cs = some b ∧ Q (.bl b) S) := propext ⟨fun ⟨_, _, _, e, ⟨h, h9⟩, b, hb, q⟩ => by cases e; cases h; exact ⟨h9, b, hb, q⟩, fun ⟨h9, b, hb, q⟩ => ⟨a, d, fs, rfl, ⟨rfl, h9⟩, b, hb, q⟩⟩
theorem exT_6 {fn : Nat → Spec} {mt : Nat → Nat → Option Nat} {mkr : Nat → Option Nat} {fl : Nat → Nat → Bool} {isc exm : Nat → Nat → Option Bool} {a0 a1 a2 a3 a4 a5 : Option Val} {a : Addr} {env : Ev} {S : Store} {cs : List Nat} {Q : Bool → Store → Prop} {E : Exn → Store → Prop} {d : Nat} {fs : List (Nat × Val)} : wT ⟨fn, mt, mkr, fl, isc, exm, some (a, d, fs)⟩ (.exis 6 cs) (a0 :: a1 :: a2 :: a3 :: a4 :: a5 :: some (.exc a) :: env) S Q E = (9 ≤ d ∧ ∃ b, isAny (isc d) cs = some b ∧ Q b S) := propext ⟨fun ⟨_, _, _, e, ⟨h, h9⟩, b, hb, q⟩ => by cases e; cases h; exact ⟨h9, b, hb, q⟩, fun ⟨h9, b, hb, q⟩ => ⟨a, d, fs, rfl, ⟨rfl, h9⟩, b, hb, q⟩⟩
theorem exF_6 {fn : Nat → Spec} {mt : Nat → Nat → Option Nat} {mkr : Nat → Option Nat} {fl : Nat → Nat → Bool} {isc exm : Nat → Nat → Option Bool} {a0 a1 a2 a3 a4 a5 : Option Val} {a : Addr} {env : Ev} {S : Store} {f : Nat} {Q : QV} {E : Exn → Store → Prop} {d : Nat} {fs : List (Nat × Val)} : wE ⟨fn, mt, mkr, fl, isc, exm, some (a, d, fs)⟩ (.exfl 6 f) (a0 :: a1 :: a2 :: a3 :: a4 :: a5 :: some (.exc a) :: env) S Q E = (∃ v, (9 ≤ d ∧ fl d f = true) ∧ fs.lookup f = some v ∧ Q v S) := propext ⟨fun ⟨_, _, _, v, e, ⟨h, h9⟩, hb, q⟩ => by cases e; cases h; exact ⟨v, h9, hb, q⟩, fun ⟨v, h9, hb, q⟩ => ⟨a, d, fs, v, rfl, ⟨rfl, h9⟩, hb, q⟩⟩
theorem wE_v7 {T : Tb} {a0 a1 a2 a3 a4 a5 a6 : Option Val} {v : Val} {env : Ev} {S : Store} {Q : QV} {E : Exn → Store → Prop} : wE T (.var 7) (a0 :: a1 :: a2 :: a3 :: a4 :: a5 :: a6 :: some v :: env) S Q E = Q v S := propext ⟨fun ⟨_, e, h⟩ => by cases e; exact h, fun h => ⟨v, rfl, h⟩⟩
theorem wT_v7 {T : Tb} {a0 a1 a2 a3 a4 a5 a6 : Option Val} {v : Val} {env : Ev} {S : Store} {Q : Bool → Store → Prop} {E : Exn → Store → Prop} : wT T (.var 7) (a0 :: a1 :: a2 :: a3 :: a4 :: a5 :: a6 :: some v :: env) S Q E = tru v S (fun t => Q t S) := propext ⟨fun ⟨_, e, h⟩ => by cases e; exact h, fun h => ⟨v, rfl, h⟩⟩
theorem tgt_7 {a0 a1 a2 a3 a4 a5 a6 : Option Val} {x : Option Val} {v : Val} {env : Ev} {P : Ev → Prop} : tgt (.nm 7) v (a0 :: a1 :: a2 :: a3 :: a4 :: a5 :: a6 :: x :: env) P = P (a0 :: a1 :: a2 :: a3 :: a4 :: a5 :: a6 :: some v :: env) := rfl
theorem exI_7 {fn : Nat → Spec} {mt : Nat → Nat → Option Nat} {mkr : Nat → Option Nat} {fl : Nat → Nat → Bool} {isc exm : Nat → Nat → Option Bool} {a0 a1 a2 a3 a4 a5 a6 : Option Val} {a : Addr} {env : Ev} {S : Store} {cs : List Nat} {Q : QV} {E : Exn → Store → Prop} {d : Nat} {fs : List (Nat × Val)} : wE ⟨fn, mt, mkr, fl, isc, exm, some (a, d, fs)⟩ (.exis 7 cs) (a0 :: a1 :: a2 :: a3 :: a4 :: a5 :: a6 :: some (.exc a) :: env) S Q E = (9 ≤ d ∧ ∃ b, isAny (isc d) cs = some b ∧ Q (.bl b) S) := propext ⟨fun ⟨_, _, _, e, ⟨h, h9⟩, b, hb, q⟩ => by cases e; cases h; exact ⟨h9, b, hb, q⟩, fun ⟨h9, b, hb, q⟩ => ⟨a, d, fs, rfl, ⟨rfl, h9⟩, b, hb, q⟩⟩
theorem exT_7 {fn : Nat → Spec} {mt : Nat → Nat → Option Nat} {mkr : Nat → Option Nat} {fl : Nat → Nat → Bool} {isc exm : Nat → Nat → Option Bool} {a0 a1 a2 a3 a4 a5 a6 : Option Val} {a : Addr} {env : Ev} {S : Store} {cs : List Nat} {Q : Bool → Store → Prop} {E : Exn → Store → Prop} {d : Nat} {fs : List (Nat × Val)} : wT ⟨fn, mt, mkr, fl, isc, exm, some (a, d, fs)⟩ (.exis 7 cs) (a0 :: a1 :: a2 :: a3 :: a4 :: a5 :: a6 :: some (.exc a) :: env) S Q E = (9 ≤ d ∧ ∃ b, isAny (isc d) cs = some b ∧ Q b S) := propext ⟨fun ⟨_, _, _, e, ⟨h, h9⟩, b, hb, q⟩ => by cases e; cases h; exact ⟨h9, b, hb, q⟩, fun ⟨h9, b, hb, q⟩ => ⟨a, d, fs, rfl, ⟨rfl, h9⟩, b, hb, q⟩⟩
theorem exF_7 {fn : Nat → Spec} {mt : Nat → Nat → Option Nat} {mkr : Nat → Option Nat} {fl : Nat → Nat → Bool} {isc exm : Nat → Nat → Option Bool} {a0 a1 a2 a3 a4 a5 a6 : Option Val} {a : Addr} {env : Ev} {S : Store} {f : Nat} {Q : QV} {E : Exn → Store → Prop} {d : Nat} {fs : List (Nat × Val)} : wE ⟨fn, mt, mkr, fl, isc, exm, some (a, d, fs)⟩ (.exfl 7 f) (a0 :: a1 :: a2 :: a3 :: a4 :: a5 :: a6 :: some (.exc a) :: env) S Q E = (∃ v, (9 ≤ d ∧ fl d f = true) ∧ fs.lookup f = some v ∧ Q v S) := propext ⟨fun ⟨_, _, _, v, e, ⟨h, h9⟩, hb, q⟩ => by cases e; cases h; exact ⟨v, h9, hb, q⟩, fun ⟨v, h9, hb, q⟩ => ⟨a, d, fs, v, rfl, ⟨rfl, h9⟩, hb, q⟩⟩
theorem wE_v8 {T : Tb} {a0 a1 a2 a3 a4 a5 a6 a7 : Option Val} {v : Val} {env : Ev} {S : Store} {Q : QV} {E : Exn → Store → Prop} : wE T (.var 8) (a0 :: a1 :: a2 :: a3 :: a4 :: a5 :: a6 :: a7 :: some v :: env) S Q E = Q v S := propext ⟨fun ⟨_, e, h⟩ => by cases e; exact h, fun h => ⟨v, rfl, h⟩⟩
theorem wT_v8 {T : Tb} {a0 a1 a2 a3 a4 a5 a6 a7 : Option Val} {v : Val} {env : Ev} {S : Store} {Q : Bool → Store → Prop} {E : Exn → Store → Prop} : wT T (.var 8) (a0 :: a1 :: a2 :: a3 :: a4 :: a5 :: a6 :: a7 :: some v :: env) S Q E = tru v S (fun t => Q t S) := propext ⟨fun ⟨_, e, h⟩ => by cases e; exact h, fun h => ⟨v, rfl, h⟩⟩
theorem tgt_8 {a0 a1 a2 a3 a4 a5 a6 a7 : Option Val} {x : Option Val} {v : Val} {env : Ev} {P : Ev → Prop} : tgt (.nm 8) v (a0 :: a1 :: a2 :: a3 :: a4 :: a5 :: a6 :: a7 :: x :: env) P = P (a0 :: a1 :: a2 :: a3 :: a4 :: a5 :: a6 :: a7 :: some v :: env) := rfl
theorem exI_8 {fn : Nat → Spec} {mt : Nat → Nat → Option Nat} {mkr : Nat → Option Nat} {fl : Nat → Nat → Bool} {isc exm : Nat → Nat → Option Bool} {a0 a1 a2 a3 a4 a5 a6 a7 : Option Val} {a : Addr} {env : Ev} {S : Store} {cs : List Nat} {Q : QV} {E : Exn → Store → Prop} {d : Nat} {fs : List (Nat × Val)} : wE ⟨fn, mt, mkr, fl, isc, exm, some (a, d, fs)⟩ (.exis 8 cs) (a0 :: a1 :: a2 :: a3 :: a4 :: a5 :: a6 :: a7 :: some (.exc a) :: env) S Q E = (9 ≤ d ∧ ∃ b, isAny (isc d) cs = some b ∧ Q (.bl b) S) := propext ⟨fun ⟨_, _, _, e, ⟨h, h9⟩, b, hb, q⟩ => by cases e; cases h; exact ⟨h9, b, hb, q⟩, fun ⟨h9, b, hb, q⟩ => ⟨a, d, fs, rfl, ⟨rfl, h9⟩, b, hb, q⟩⟩
theorem exT_8 {fn : Nat → Spec} {mt : Nat → Nat → Option Nat} {mkr : Nat → Option Nat} {fl : Nat → Nat → Bool} {isc exm : Nat → Nat → Option Bool} {a0 a1 a2 a3 a4 a5 a6 a7 : Option Val} {a : Addr} {env : Ev} {S : Store} {cs : List Nat} {Q : Bool → Store → Prop} {E : Exn → Store → Prop} {d : Nat} {fs : List (Nat × Val)} : wT ⟨fn, mt, mkr, fl, isc, exm, some (a, d, fs)⟩ (.exis 8 cs) (a0 :: a1 :: a2 :: a3 :: a4 :: a5 :: a6 :: a7 :: some (.exc a) :: env) S Q E = (9 ≤ d ∧ ∃ b, isAny (isc d) cs = some b ∧ Q b S) := propext ⟨fun ⟨_, _, _, e, ⟨h, h9⟩, b, hb, q⟩ => by cases e; cases h; exact ⟨h9, b, hb, q⟩, fun ⟨h9, b, hb, q⟩ => ⟨a, d, fs, rfl, ⟨rfl, h9⟩, b, hb, q⟩⟩
theorem exF_8 {fn : Nat → Spec} {mt : Nat → Nat → Option Nat} {mkr : Nat → Option Nat} {fl : Nat → Nat → Bool} {isc exm : Nat → Nat → Option Bool} {a0 a1 a2 a3 a4 a5 a6 a7 : Option Val} {a : Addr} {env : Ev} {S : Store} {f : Nat} {Q : QV} {E : Exn → Store → Prop} {d : Nat} {fs : List (Nat × Val)} : wE ⟨fn, mt, mkr, fl, isc, exm, some (a, d, fs)⟩ (.exfl 8 f) (a0 :: a1 :: a2 :: a3 :: a4 :: a5 :: a6 :: a7 :: some (.exc a) :: env) S Q E = (∃ v, (9 ≤ d ∧ fl d f = true) ∧ fs.lookup f = some v ∧ Q v S) := propext ⟨fun ⟨_, _, _, v, e, ⟨h, h9⟩, hb, q⟩ => by cases e; cases h; exact ⟨v, h9, hb, q⟩, fun ⟨v, h9, hb, q⟩ => ⟨a, d, fs, v, rfl, ⟨rfl, h9⟩, hb, q⟩⟩
theorem wE_v9 {T : Tb} {a0 a1 a2 a3 a4 a5 a6 a7 a8 : Option Val} {v : Val} {env : Ev} {S : Store} {Q : QV} {E : Exn → Store → Prop} : wE T (.var 9) (a0 :: a1 :: a2 :: a3 :: a4 :: a5 :: a6 :: a7 :: a8 :: some v :: env) S Q E = Q v S := propext ⟨fun ⟨_, e, h⟩ => by cases e; exact h, fun h => ⟨v, rfl, h⟩⟩
theorem wT_v9 {T : Tb} {a0 a1 a2 a3 a4 a5 a6 a7 a8 : Option Val} {v : Val} {env : Ev} {S : Store} {Q : Bool → Store → Prop} {E : Exn → Store → Prop} : wT T (.var 9) (a0 :: a1 :: a2 :: a3 :: a4 :: a5 :: a6 :: a7 :: a8 :: some v :: env) S Q E = tru v S (fun t => Q t S) := propext ⟨fun ⟨_, e, h⟩ => by cases e; exact h, fun h => ⟨v, rfl, h⟩⟩
theorem tgt_9 {a0 a1 a2 a3 a4 a5 a6 a7 a8 : Option Val} {x : Option Val} {v : Val} {env : Ev} {P : Ev → Prop} : tgt (.nm 9) v (a0 :: a1 :: a2 :: a3 :: a4 :: a5 :: a6 :: a7 :: a8 :: x :: env) P = P (a0 :: a1 :: a2 :: a3 :: a4 :: a5 :: a6 :: a7 :: a8 :: some v :: env) := rfl
theorem exI_9 {fn : Nat → Spec} {mt : Nat → Nat → Option Nat} {mkr : Nat → Option Nat} {fl : Nat → Nat → Bool} {isc exm : Nat → Nat → Option Bool} {a0 a1 a2 a3 a4 a5 a6 a7 a8 : Option Val} {a : Addr} {env : Ev} {S : Store} {cs : List Nat} {Q : QV} {E : Exn → Store → Prop} {d : Nat} {fs : List (Nat × Val)} : wE ⟨fn, mt, mkr, fl, isc, exm, some (a, d, fs)⟩ (.exis 9 cs) (a0 :: a1 :: a2 :: a3 :: a4 :: a5 :: a6 :: a7 :: a8 :: some (.exc a) :: env) S Q E = (9 ≤ d ∧ ∃ b, isAny (isc d) cs = some b ∧ Q (.bl b) S) := propext ⟨fun ⟨_, _, _, e, ⟨h, h9⟩, b, hb, q⟩ => by cases e; cases h; exact ⟨h9, b, hb, q⟩, fun ⟨h9, b, hb, q⟩ => ⟨a, d, fs, rfl, ⟨rfl, h9⟩, b, hb, q⟩⟩
theorem exT_9 {fn : Nat → Spec} {mt : Nat → Nat → Option Nat} {mkr : Nat → Option Nat} {fl : Nat → Nat → Bool} {isc exm : Nat → Nat → Option Bool} {a0 a1 a2 a3 a4 a5 a6 a7 a8 : Option Val} {a : Addr} {env : Ev} {S : Store} {cs : List Nat} {Q : Bool → Store → Prop} {E : Exn → Store → Prop} {d : Nat} {fs : List (Nat × Val)} : wT ⟨fn, mt, mkr, fl, isc, exm, some (a, d, fs)⟩ (.exis 9 cs) (a0 :: a1 :: a2 :: a3 :: a4 :: a5 :: a6 :: a7 :: a8 :: some (.exc a) :: env) S Q E = (9 ≤ d ∧ ∃ b, isAny (isc d) cs = some b ∧ Q b S) := propext ⟨fun ⟨_, _, _, e, ⟨h, h9⟩, b, hb, q⟩ => by cases e; cases h; exact ⟨h9, b, hb, q⟩, fun ⟨h9, b, hb, q⟩ => ⟨a, d, fs, rfl, ⟨rfl, h9⟩, b, hb, q⟩⟩
theorem exF_9 {fn : Nat → Spec} {mt : Nat → Nat → Option Nat} {mkr : Nat → Option Nat} {fl : Nat → Nat → Bool} {isc exm : Nat → Nat → Option Bool} {a0 a1 a2 a3 a4 a5 a6 a7 a8 : Option Val} {a : Addr} {env : Ev} {S : Store} {f : Nat} {Q : QV} {E : Exn → Store → Prop} {d : Nat} {fs : List (Nat × Val)} : wE ⟨fn, mt, mkr, fl, isc, exm, some (a, d, fs)⟩ (.exfl 9 f) (a0 :: a1 :: a2 :: a3 :: a4 :: a5 :: a6 :: a7 :: a8 :: some (.exc a) :: env) S Q E = (∃ v, (9 ≤ d ∧ fl d f = true) ∧ fs.lookup f = some v ∧ Q v S) := propext ⟨fun ⟨_, _, _, v, e, ⟨h, h9⟩, hb, q⟩ => by cases e; cases h; exact ⟨v, h9, hb, q⟩, fun ⟨v, h9, hb, q⟩ => ⟨a, d, fs, v, rfl, ⟨rfl, h9⟩, hb, q⟩⟩
theorem wE_v10 {T : Tb} {a0 a1 a2 a3 a4 a5 a6 a7 a8 a9 : Option Val} {v : Val} {env : Ev} {S : Store} {Q : QV} {E : Exn → Store → Prop} : wE T (.var 10) (a0 :: a1 :: a2 :: a3 :: a4 :: a5 :: a6 :: a7 :: a8 :: a9 :: some v :: env) S Q E = Q v S := propext ⟨fun ⟨_, e, h⟩ => by cases e; exact h, fun h => ⟨v, rfl, h⟩⟩
theorem wT_v10 {T : Tb} {a0 a1 a2 a3 a4 a5 a6 a7 a8 a9 : Option Val} {v : Val} {env : Ev} {S : Store} {Q : Bool → Store → Prop} {E : Exn → Store → Prop} : wT T (.var 10) (a0 :: a1 :: a2 :: a3 :: a4 :: a5 :: a6 :: a7 :: a8 :: a9 :: some v :: env) S Q E = tru v S (fun t => Q t S) := propext ⟨fun ⟨_, e, h⟩ => by cases e; exact h, fun h => ⟨v, rfl, h⟩⟩
theorem tgt_10 {a0 a1 a2 a3 a4 a5 a6 a7 a8 a9 : Option Val} {x : Option Val} {v : Val} {env : Ev} {P : Ev → Prop} : tgt (.nm 10) v (a0 :: a1 :: a2 :: a3 :: a4 :: a5 :: a6 :: a7 :: a8 :: a9 :: x :: env) P = P (a0 :: a1 :: a2 :: a3 :: a4 :: a5 :: a6 :: a7 :: a8 :: a9 :: some v :: env) := rfl
theorem exI_10 {fn : Nat → Spec} {mt : Nat → Nat → Option Nat} {mkr : Nat → Option Nat} {fl : Nat → Nat → Bool} {isc exm : Nat → Nat → Option Bool} {a0 a1 a2 a3 a4 a5 a6 a7 a8 a9 : Option Val} {a : Addr} {env : Ev} {S : Store} {cs : List Nat} {Q : QV} {E : Exn → Store → Prop} {d : Nat} {fs : List (Nat × Val)} : wE ⟨fn, mt, mkr, fl, isc, exm, some (a, d, fs)⟩ (.exis 10 cs) (a0 :: a1 :: a2 :: a3 :: a4 :: a5 :: a6 :: a7 :: a8 :: a9 :: some (.exc a) :: env) S Q E = (9 ≤ d ∧ ∃ b, isAny (isc d) cs = some b ∧ Q (.bl b) S) := propext ⟨fun ⟨_, _, _, e, ⟨h, h9⟩, b, hb, q⟩ => by cases e; cases h; exact ⟨h9, b, hb, q⟩, fun ⟨h9, b, hb, q⟩ => ⟨a, d, fs, rfl, ⟨rfl, h9⟩, b, hb, q⟩⟩
theorem exT_10 {fn : Nat → Spec} {mt : Nat → Nat → Option Nat} {mkr : Nat → Option Nat} {fl : Nat → Nat → Bool} {isc exm : Nat → Nat → Option Bool} {a0 a1 a2 a3 a4 a5 a6 a7 a8 a9 : Option Val} {a : Addr} {env : Ev} {S : Store} {cs : List Nat} {Q : Bool → Store → Prop} {E : Exn → Store → Prop} {d : Nat} {fs : List (Nat × Val)} : wT ⟨fn, mt, mkr, fl, isc, exm, some (a, d, fs)⟩ (.exis 10 cs) (a0 :: a1 :: a2 :: a3 :: a4 :: a5 :: a6 :: a7 :: a8 :: a9 :: some (.exc a) :: env) S Q E = (9 ≤ d ∧ ∃ b, isAny (isc d) cs = some b ∧ Q b S) := propext ⟨fun ⟨_, _, _, e, ⟨h, h9⟩, b, hb, q⟩ => by cases e; cases h; exact ⟨h9, b, hb, q⟩, fun ⟨h9, b, hb, q⟩ => ⟨a, d, fs, rfl, ⟨rfl, h9⟩, b, hb, q⟩⟩
theorem exF_10 {fn : Nat → Spec} {mt : Nat → Nat → Option Nat} {mkr : Nat → Option Nat} {fl : Nat → Nat → Bool} {isc exm : Nat → Nat → Option Bool} {a0 a1 a2 a3 a4 a5 a6 a7 a8 a9 : Option Val} {a : Addr} {env : Ev} {S : Store} {f : Nat} {Q : QV} {E : Exn → Store → Prop} {d : Nat} {fs : List (Nat × Val)} : wE ⟨fn, mt, mkr, fl, isc, exm, some (a, d, fs)⟩ (.exfl 10 f) (a0 :: a1 :: a2 :: a3 :: a4 :: a5 :: a6 :: a7 :: a8 :: a9 :: some (.exc a) :: env) S Q E = (∃ v, (9 ≤ d ∧ fl d f = true) ∧ fs.lookup f = some v ∧ Q v S) := propext ⟨fun ⟨_, _, _, v, e, ⟨h, h9⟩, hb, q⟩ => by cases e; cases h; exact ⟨v, h9, hb, q⟩, fun ⟨v, h9, hb, q⟩ => ⟨a, d, fs, v, rfl, ⟨rfl, h9⟩, hb, q⟩⟩
theorem wE_v11 {T : Tb} {a0 a1 a2 a3 a4 a5 a6 a7 a8 a9 a10 : Option Val} {v : Val} {env : Ev} {S : Store} {Q : QV} {E : Exn → Store → Prop} : wE T (.var 11) (a0 :: a1 :: a2 :: a3 :: a4 :: a5 :: a6 :: a7 :: a8 :: a9 :: a10 :: some v :: env) S Q E = Q v S := propext ⟨fun ⟨_, e, h⟩ => by cases e; exact h, fun h => ⟨v, rfl, h⟩⟩
theorem wT_v11 {T : Tb} {a0 a1 a2 a3 a4 a5 a6 a7 a8 a9 a10 : Option Val} {v : Val} {env : Ev} {S : Store} {Q : Bool → Store → Prop} {E : Exn → Store → Prop} : wT T (.var 11) (a0 :: a1 :: a2 :: a3 :: a4 :: a5 :: a6 :: a7 :: a8 :: a9 :: a10 :: some v :: env) S Q E = tru v S (fun t => Q t S) := propext ⟨fun ⟨_, e, h⟩ => by cases e; exact h, fun h => ⟨v, rfl, h⟩⟩
theorem tgt_11 {a0 a1 a2 a3 a4 a5 a6 a7 a8 a9 a10 : Option Val} {x : Option Val} {v : Val} {env : Ev} {P : Ev → Prop} : tgt (.nm 11) v (a0 :: a1 :: a2 :: a3 :: a4 :: a5 :: a6 :: a7 :: a8 :: a9 :: a10 :: x :: env) P = P (a0 :: a1 :: a2 :: a3 :: a4 :: a5 :: a6 :: a7 :: a8 :: a9 :: a10 :: some v :: env) := rfl
theorem exI_11 {fn : Nat → Spec} {mt : Nat → Nat → Option Nat} {mkr : Nat → Option Nat} {fl : Nat → Nat → Bool} {isc exm : Nat → Nat → Option Bool} {a0 a1 a2 a3 a4 a5 a6 a7 a8 a9 a10 : Option Val} {a : Addr} {env : Ev} {S : Store} {cs : List Nat} {Q : QV} {E : Exn → Store → Prop} {d : Nat} {fs : List (Nat × Val)} : wE ⟨fn, mt, mkr, fl, isc, exm, some (a, d, fs)⟩ (.exis 11 cs) (a0 :: a1 :: a2 :: a3 :: a4 :: a5 :: a6 :: a7 :: a8 :: a9 :: a10 :: some (.exc a) :: env) S Q E = (9 ≤ d ∧ ∃ b, isAny (isc d) cs = some b ∧ Q (.bl b) S) := propext ⟨fun ⟨_, _, _, e, ⟨h, h9⟩, b, hb, q⟩ => by cases e; cases h; exact ⟨h9, b, hb, q⟩, fun ⟨h9, b, hb, q⟩ => ⟨a, d, fs, rfl, ⟨rfl, h9⟩, b, hb, q⟩⟩
theorem exT_11 {fn : Nat → Spec} {mt : Nat → Nat → Option Nat} {mkr : Nat → Option Nat} {fl : Nat → Nat → Bool} {isc exm : Nat → Nat → Option Bool} {a0 a1 a2 a3 a4 a5 a6 a7 a8 a9 a10 : Option Val} {a : Addr} {env : Ev} {S : Store} {cs : List Nat} {Q : Bool → Store → Prop} {E : Exn → Store → Prop} {d : Nat} {fs : List (Nat × Val)} : wT ⟨fn, mt, mkr, fl, isc, exm, some (a, d, fs)⟩ (.exis 11 cs) (a0 :: a1 :: a2 :: a3 :: a4 :: a5 :: a6 :: a7 :: a8 :: a9 :: a10 :: some (.exc a) :: env) S Q E = (9 ≤ d ∧ ∃ b, isAny (isc d) cs = some b ∧ Q b S) := propext ⟨fun ⟨_, _, _, e, ⟨h, h9⟩, b, hb, q⟩ => by cases e; cases h; exact ⟨h9, b, hb, q⟩, fun ⟨h9, b, hb, q⟩ => ⟨a, d, fs, rfl, ⟨rfl, h9⟩, b, hb, q⟩⟩
theorem exF_11 {fn : Nat → Spec} {mt : Nat → Nat → Option Nat} {mkr : Nat → Option Nat} {fl : Nat → Nat → Bool} {isc exm : Nat → Nat → Option Bool} {a0 a1 a2 a3 a4 a5 a6 a7 a8 a9 a10 : Option Val} {a : Addr} {env : Ev} {S : Store} {f : Nat} {Q : QV} {E : Exn → Store → Prop} {d : Nat} {fs : List (Nat × Val)} : wE ⟨fn, mt, mkr, fl, isc, exm, some (a, d, fs)⟩ (.exfl 11 f) (a0 :: a1 :: a2 :: a3 :: a4 :: a5 :: a6 :: a7 :: a8 :: a9 :: a10 :: some (.exc a) :: env) S Q E = (∃ v, (9 ≤ d ∧ fl d f = true) ∧ fs.lookup f = some v ∧ Q v S) := propext ⟨fun ⟨_, _, _, v, e, ⟨h, h9⟩, hb, q⟩ => by cases e; cases h; exact ⟨v, h9, hb, q⟩, fun ⟨v, h9, hb, q⟩ => ⟨a, d, fs, v, rfl, ⟨rfl, h9⟩, hb, q⟩⟩
theorem wE_v12 {T : Tb} {a0 a1 a2 a3 a4 a5 a6 a7 a8 a9 a10 a11 : Option Val} {v : Val} {env : Ev} {S : Store} {Q : QV} {E : Exn → Store → Prop} : wE T (.var 12) (a0 :: a1 :: a2 :: a3 :: a4 :: a5 :: a6 :: a7 :: a8 :: a9 :: a10 :: a11 :: some v :: env) S Q E = Q v S := propext ⟨fun ⟨_, e, h⟩ => by cases e; exact h, fun h => ⟨v, rfl, h⟩⟩
theorem wT_v12 {T : Tb} {a0 a1 a2 a3 a4 a5 a6 a7 a8 a9 a10 a11 : Option Val} {v : Val} {env : Ev} {S : Store} {Q : Bool → Store → Prop} {E : Exn → Store → Prop} : wT T (.var 12) (a0 :: a1 :: a2 :: a3 :: a4 :: a5 :: a6 :: a7 :: a8 :: a9 :: a10 :: a11 :: some v :: env) S Q E = tru v S (fun t => Q t S) := propext ⟨fun ⟨_, e, h⟩ => by cases e; exact h, fun h => ⟨v, rfl, h⟩⟩
theorem tgt_12 {a0 a1 a2 a3 a4 a5 a6 a7 a8 a9 a10 a11 : Option Val} {x : Option Val} {v : Val} {env : Ev} {P : Ev → Prop} : tgt (.nm 12) v (a0 :: a1 :: a2 :: a3 :: a4 :: a5 :: a6 :: a7 :: a8 :: a9 :: a10 :: a11 :: x :: env) P = P (a0 :: a1 :: a2 :: a3 :: a4 :: a5 :: a6 :: a7 :: a8 :: a9 :: a10 :: a11 :: some v :: env) := rfl
theorem exI_12 {fn : Nat → Spec} {mt : Nat → Nat → Option Nat} {mkr : Nat → Option Nat} {fl : Nat → Nat → Bool} {isc exm : Nat → Nat → Option Bool} {a0 a1 a2 a3 a4 a5 a6 a7 a8 a9 a10 a11 : Option Val} {a : Addr} {env : Ev} {S : Store} {cs : List Nat} {Q : QV} {E : Exn → Store → Prop} {d : Nat} {fs : List (Nat × Val)} : wE ⟨fn, mt, mkr, fl, isc, exm, some (a, d, fs)⟩ (.exis 12 cs) (a0 :: a1 :: a2 :: a3 :: a4 :: a5 :: a6 :: a7 :: a8 :: a9 :: a10 :: a11 :: some (.exc a) :: env) S Q E = (9 ≤ d ∧ ∃ b, isAny (isc d) cs = some b ∧ Q (.bl b) S) := propext ⟨fun ⟨_, _, _, e, ⟨h, h9⟩, b, hb, q⟩ => by cases e; cases h; exact ⟨h9, b, hb, q⟩, fun ⟨h9, b, hb, q⟩ => ⟨a, d, fs, rfl, ⟨rfl, h9⟩, b, hb, q⟩⟩
theorem exT_12 {fn : Nat → Spec} {mt : Nat → Nat → Option Nat} {mkr : Nat → Option Nat} {fl : Nat → Nat → Bool} {isc exm : Nat → Nat → Option Bool} {a0 a1 a2 a3 a4 a5 a6 a7 a8 a9 a10 a11 : Option Val} {a : Addr} {env : Ev} {S : Store} {cs : List Nat} {Q : Bool → Store → Prop} {E : Exn → Store → Prop} {d : Nat} {fs : List (Nat × Val)} : wT ⟨fn, mt, mkr, fl, isc, exm, some (a, d, fs)⟩ (.exis 12 cs) (a0 :: a1 :: a2 :: a3 :: a4 :: a5 :: a6 :: a7 :: a8 :: a9 :: a10 :: a11 :: some (.exc a) :: env) S Q E = (9 ≤ d ∧ ∃ b, isAny (isc d) cs = some b ∧ Q b S) := propext ⟨fun ⟨_, _, _, e, ⟨h, h9⟩, b, hb, q⟩ => by cases e; cases h; exact ⟨h9, b, hb, q⟩, fun ⟨h9, b, hb, q⟩ => ⟨a, d, fs, rfl, ⟨rfl, h9⟩, b, hb, q⟩⟩
theorem exF_12 {fn : Nat → Spec} {mt : Nat → Nat → Option Nat} {mkr : Nat → Option Nat} {fl : Nat → Nat → Bool} {isc exm : Nat → Nat → Option Bool} {a0 a1 a2 a3 a4 a5 a6 a7 a8 a9 a10 a11 : Option Val} {a : Addr} {env : Ev} {S : Store} {f : Nat} {Q : QV} {E : Exn → Store → Prop} {d : Nat} {fs : List (Nat × Val)} : wE ⟨fn, mt, mkr, fl, isc, exm, some (a, d, fs)⟩ (.exfl 12 f) (a0 :: a1 :: a2 :: a3 :: a4 :: a5 :: a6 :: a7 :: a8 :: a9 :: a10 :: a11 :: some (.exc a) :: env) S Q E = (∃ v, (9 ≤ d ∧ fl d f = true) ∧ fs.lookup f = some v ∧ Q v S) := propext ⟨fun ⟨_, _, _, v, e, ⟨h, h9⟩, hb, q⟩ => by cases e; cases h; exact ⟨v, h9, hb, q⟩, fun ⟨v, h9, hb, q⟩ => ⟨a, d, fs, v, rfl, ⟨rfl, h9⟩, hb, q⟩⟩
theorem wE_v13 {T : Tb} {a0 a1 a2 a3 a4 a5 a6 a7 a8 a9 a10 a11 a12 : Option Val} {v : Val} {env : Ev} {S : Store} {Q : QV} {E : Exn → Store → Prop} : wE T (.var 13) (a0 :: a1 :: a2 :: a3 :: a4 :: a5 :: a6 :: a7 :: a8 :: a9 :: a10 :: a11 :: a12 :: some v :: env) S Q E = Q v S := propext ⟨fun ⟨_, e, h⟩ => by cases e; exact h, fun h => ⟨v, rfl, h⟩⟩
theorem wT_v13 {T : Tb} {a0 a1 a2 a3 a4 a5 a6 a7 a8 a9 a10 a11 a12 : Option Val} {v : Val} {env : Ev} {S : Store} {Q : Bool → Store → Prop} {E : Exn → Store → Prop} : wT T (.var 13) (a0 :: a1 :: a2 :: a3 :: a4 :: a5 :: a6 :: a7 :: a8 :: a9 :: a10 :: a11 :: a12 :: some v :: env) S Q E = tru v S (fun t => Q t S) := propext ⟨fun ⟨_, e, h⟩ => by cases e; exact h, fun h => ⟨v, rfl, h⟩⟩
theorem tgt_13 {a0 a1 a2 a3 a4 a5 a6 a7 a8 a9 a10 a11 a12 : Option Val} {x : Option Val} {v : Val} {env : Ev} {P : Ev → Prop} : tgt (.nm 13) v (a0 :: a1 :: a2 :: a3 :: a4 :: a5 :: a6 :: a7 :: a8 :: a9 :: a10 :: a11 :: a12 :: x :: env) P = P (a0 :: a1 :: a2 :: a3 :: a4 :: a5 :: a6 :: a7 :: a8 :: a9 :: a10 :: a11 :: a12 :: some v :: env) := rfl
theorem exI_13 {fn : Nat → Spec} {mt : Nat → Nat → Option Nat} {mkr : Nat → Option Nat} {fl : Nat → Nat → Bool} {isc exm : Nat → Nat → Option Bool} {a0 a1 a2 a3 a4 a5 a6 a7 a8 a9 a10 a11 a12 : Option Val} {a : Addr} {env : Ev} {S : Store} {cs : List Nat} {Q : QV} {E : Exn → Store → Prop} {d : Nat} {fs : List (Nat × Val)} : wE ⟨fn, mt, mkr, fl, isc, exm, some (a, d, fs)⟩ (.exis 13 cs) (a0 :: a1 :: a2 :: a3 :: a4 :: a5 :: a6 :: a7 :: a8 :: a9 :: a10 :: a11 :: a12 :: some (.exc a) :: env) S Q E = (9 ≤ d ∧ ∃ b, isAny (isc d) cs = some b ∧ Q (.bl b) S) := propext ⟨fun ⟨_, _, _, e, ⟨h, h9⟩, b, hb, q⟩ => by cases e; cases h; exact ⟨h9, b, hb, q⟩, fun ⟨h9, b, hb, q⟩ => ⟨a, d, fs, rfl, ⟨rfl, h9⟩, b, hb, q⟩⟩
theorem exT_13 {fn : Nat → Spec} {mt : Nat → Nat → Option Nat} {mkr : Nat → Option Nat} {fl : Nat → Nat → Bool} {isc exm : Nat → Nat → Option Bool} {a0 a1 a2 a3 a4 a5 a6 a7 a8 a9 a10 a11 a12 : Option Val} {a : Addr} {env : Ev} {S : Store} {cs : List Nat} {Q : Bool → Store → Prop} {E : Exn → Store → Prop} {d : Nat} {fs : List (Nat × Val)} : wT ⟨fn, mt, mkr, fl, isc, exm, some (a, d, fs)⟩ (.exis 13 cs) (a0 :: a1 :: a2 :: a3 :: a4 :: a5 :: a6 :: a7 :: a8 :: a9 :: a10 :: a11 :: a12 :: some (.exc a) :: env) S Q E = (9 ≤ d ∧ ∃ b, isAny (isc d) cs = some b ∧ Q b S) := propext ⟨fun ⟨_, _, _, e, ⟨h, h9⟩, b, hb, q⟩ => by cases e; cases h; exact ⟨h9, b, hb, q⟩, fun ⟨h9, b, hb, q⟩ => ⟨a, d, fs, rfl, ⟨rfl, h9⟩, b, hb, q⟩⟩
theorem exF_13 {fn : Nat → Spec} {mt : Nat → Nat → Option Nat} {mkr : Nat → Option Nat} {fl : Nat → Nat → Bool} {isc exm : Nat → Nat → Option Bool} {a0 a1 a2 a3 a4 a5 a6 a7 a8 a9 a10 a11 a12 : Option Val} {a : Addr} {env : Ev} {S : Store} {f : Nat} {Q : QV} {E : Exn → Store → Prop} {d : Nat} {fs : List (Nat × Val)} : wE ⟨fn, mt, mkr, fl, isc, exm, some (a, d, fs)⟩ (.exfl 13 f) (a0 :: a1 :: a2 :: a3 :: a4 :: a5 :: a6 :: a7 :: a8 :: a9 :: a10 :: a11 :: a12 :: some (.exc a) :: env) S Q E = (∃ v, (9 ≤ d ∧ fl d f = true) ∧ fs.lookup f = some v ∧ Q v S) := propext ⟨fun ⟨_, _, _, v, e, ⟨h, h9⟩, hb, q⟩ => by cases e; cases h; exact ⟨v, h9, hb, q⟩, fun ⟨v, h9, hb, q⟩ => ⟨a, d, fs, v, rfl, ⟨rfl, h9⟩, hb, q⟩⟩
theorem wE_v14 {T : Tb} {a0 a1 a2 a3 a4 a5 a6 a7 a8 a9 a10 a11 a12 a13 : Option Val} {v : Val} {env : Ev} {S : Store} {Q : QV} {E : Exn → Store → Prop} : wE T (.var 14) (a0 :: a1 :: a2 :: a3 :: a4 :: a5 :: a6 :: a7 :: a8 :: a9 :: a10 :: a11 :: a12 :: a13 :: some v :: env) S Q E = Q v S := propext ⟨fun ⟨_, e, h⟩ => by cases e; exact h, fun h => ⟨v, rfl, h⟩⟩
theorem wT_v14 {T : Tb} {a0 a1 a2 a3 a4 a5 a6 a7 a8 a9 a10 a11 a12 a13 : Option Val} {v : Val} {env : Ev} {S : Store} {Q : Bool → Store → Prop} {E : Exn → Store → Prop} : wT T (.var 14) (a0 :: a1 :: a2 :: a3 :: a4 :: a5 :: a6 :: a7 :: a8 :: a9 :: a10 :: a11 :: a12 :: a13 :: some v :: env) S Q E = tru v S (fun t => Q t S) := propext ⟨fun ⟨_, e, h⟩ => by cases e; exact h, fun h => ⟨v, rfl, h⟩⟩
theorem tgt_14 {a0 a1 a2 a3 a4 a5 a6 a7 a8 a9 a10 a11 a12 a13 : Option Val} {x : Option Val} {v : Val} {env : Ev} {P : Ev → Prop} : tgt (.nm 14) v (a0 :: a1 :: a2 :: a3 :: a4 :: a5 :: a6 :: a7 :: a8 :: a9 :: a10 :: a11 :: a12 :: a13 :: x :: env) P = P (a0 :: a1 :: a2 :: a3 :: a4 :: a5 :: a6 :: a7 :: a8 :: a9 :: a10 :: a11 :: a12 :: a13 :: some v :: env) := rfl
theorem exI_14 {fn : Nat → Spec} {mt : Nat → Nat → Option Nat} {mkr : Nat → Option Nat} {fl : Nat → Nat → Bool} {isc exm : Nat → Nat → Option Bool} {a0 a1 a2 a3 a4 a5 a6 a7 a8 a9 a10 a11 a12 a13 : Option Val} {a : Addr} {env : Ev} {S : Store} {cs : List Nat} {Q : QV} {E : Exn → Store → Prop} {d : Nat} {fs : List (Nat × Val)} : wE ⟨fn, mt, mkr, fl, isc, exm, some (a, d, fs)⟩ (.exis 14 cs) (a0 :: a1 :: a2 :: a3 :: a4 :: a5 :: a6 :: a7 :: a8 :: a9 :: a10 :: a11 :: a12 :: a13 :: some (.exc a) :: env) S Q E = (9 ≤ d ∧ ∃ b, isAny (isc d) cs = some b ∧ Q (.bl b) S) := propext ⟨fun ⟨_, _, _, e, ⟨h, h9⟩, b, hb, q⟩ => by cases e; cases h; exact ⟨h9, b, hb, q⟩, fun ⟨h9, b, hb, q⟩ => ⟨a, d, fs, rfl, ⟨rfl, h9⟩, b, hb, q⟩⟩
theorem exT_14 {fn : Nat → Spec} {mt : Nat → Nat → Option Nat} {mkr : Nat → Option Nat} {fl : Nat → Nat → Bool} {isc exm : Nat → Nat → Option Bool} {a0 a1 a2 a3 a4 a5 a6 a7 a8 a9 a10 a11 a12 a13 : Option Val} {a : Addr} {env : Ev} {S : Store} {cs : List Nat} {Q : Bool → Store → Prop} {E : Exn → Store → Prop} {d : Nat} {fs : List (Nat × Val)} : wT ⟨fn, mt, mkr, fl, isc, exm, some (a, d, fs)⟩ (.exis 14 cs) (a0 :: a1 :: a2 :: a3 :: a4 :: a5 :: a6 :: a7 :: a8 :: a9 :: a10 :: a11 :: a12 :: a13 :: some (.exc a) :: env) S Q E = (9 ≤ d ∧ ∃ b, isAny (isc d) cs = some b ∧ Q b S) := propext ⟨fun ⟨_, _, _, e, ⟨h, h9⟩, b, hb, q⟩ => by cases e; cases h; exact ⟨h9, b, hb, q⟩, fun ⟨h9, b, hb, q⟩ => ⟨a, d, fs, rfl, ⟨rfl, h9⟩, b, hb, q⟩⟩
theorem exF_14 {fn : Nat → Spec} {mt : Nat → Nat → Option Nat} {mkr : Nat → Option Nat} {fl : Nat → Nat → Bool} {isc exm : Nat → Nat → Option Bool} {a0 a1 a2 a3 a4 a5 a6 a7 a8 a9 a10 a11 a12 a13 : Option Val} {a : Addr} {env : Ev} {S : Store} {f : Nat} {Q : QV} {E : Exn → Store → Prop} {d : Nat} {fs : List (Nat × Val)} : wE ⟨fn, mt, mkr, fl, isc, exm, some (a, d, fs)⟩ (.exfl 14 f) (a0 :: a1 :: a2 :: a3 :: a4 :: a5 :: a6 :: a7 :: a8 :: a9 :: a10 :: a11 :: a12 :: a13 :: some (.exc a) :: env) S Q E = (∃ v, (9 ≤ d ∧ fl d f = true) ∧ fs.lookup f = some v ∧ Q v S) := propext ⟨fun ⟨_, _, _, v, e, ⟨h, h9⟩, hb, q⟩ => by cases e; cases h; exact ⟨v, h9, hb, q⟩, fun ⟨v, h9, hb, q⟩ => ⟨a, d, fs, v, rfl, ⟨rfl, h9⟩, hb, q⟩⟩
theorem wE_v15 {T : Tb} {a0 a1 a2 a3 a4 a5 a6 a7 a8 a9 a10 a11 a12 a13 a14 : Option Val} {v : Val} {env : Ev} {S : Store} {Q : QV} {E : Exn → Store → Prop} : wE T (.var 15) (a0 :: a1 :: a2 :: a3 :: a4 :: a5 :: a6 :: a7 :: a8 :: a9 :: a10 :: a11 :: a12 :: a13 :: a14 :: some v :: env) S Q E = Q v S := propext ⟨fun ⟨_, e, h⟩ => by cases e; exact h, fun h => ⟨v, rfl, h⟩⟩
theorem wT_v15 {T : Tb} {a0 a1 a2 a3 a4 a5 a6 a7 a8 a9 a10 a11 a12 a13 a14 : Option Val} {v : Val} {env : Ev} {S : Store} {Q : Bool → Store → Prop} {E : Exn → Store → Prop} : wT T (.var 15) (a0 :: a1 :: a2 :: a3 :: a4 :: a5 :: a6 :: a7 :: a8 :: a9 :: a10 :: a11 :: a12 :: a13 :: a14 :: some v :: env) S Q E = tru v S (fun t => Q t S) := propext ⟨fun ⟨_, e, h⟩ => by cases e; exact h, fun h => ⟨v, rfl, h⟩⟩
theorem tgt_15 {a0 a1 a2 a3 a4 a5 a6 a7 a8 a9 a10 a11 a12 a13 a14 : Option Val} {x : Option Val} {v : Val} {env : Ev} {P : Ev → Prop} : tgt (.nm 15) v (a0 :: a1 :: a2 :: a3 :: a4 :: a5 :: a6 :: a7 :: a8 :: a9 :: a10 :: a11 :: a12 :: a13 :: a14 :: x :: env) P = P (a0 :: a1 :: a2 :: a3 :: a4 :: a5 :: a6 :: a7 :: a8 :: a9 :: a10 :: a11 :: a12 :: a13 :: a14 :: some v :: env) := rfl
theorem exI_15 {fn : Nat → Spec} {mt : Nat → Nat → Option Nat} {mkr : Nat → Option Nat} {fl : Nat → Nat → Bool} {isc exm : Nat → Nat → Option Bool} {a0 a1 a2 a3 a4 a5 a6 a7 a8 a9 a10 a11 a12 a13 a14 : Option Val} {a : Addr} {env : Ev} {S : Store} {cs : List Nat} {Q : QV} {E : Exn → Store → Prop} {d : Nat} {fs : List (Nat × Val)} : wE ⟨fn, mt, mkr, fl, isc, exm, some (a, d, fs)⟩ (.exis 15 cs) (a0 :: a1 :: a2 :: a3 :: a4 :: a5 :: a6 :: a7 :: a8 :: a9 :: a10 :: a11 :: a12 :: a13 :: a14 :: some (.exc a) :: env) S Q E = (9 ≤ d ∧ ∃ b, isAny (isc d) cs = some b ∧ Q (.bl b) S) := propext ⟨fun ⟨_, _, _, e, ⟨h, h9⟩, b, hb, q⟩ => by cases e; cases h; exact ⟨h9, b, hb, q⟩, fun ⟨h9, b, hb, q⟩ => ⟨a, d, fs, rfl, ⟨rfl, h9⟩, b, hb, q⟩⟩
theorem exT_15 {fn : Nat → Spec} {mt : Nat → Nat → Option Nat} {mkr : Nat → Option Nat} {fl : Nat → Nat → Bool} {isc exm : Nat → Nat → Option Bool} {a0 a1 a2 a3 a4 a5 a6 a7 a8 a9 a10 a11 a12 a13 a14 : Option Val} {a : Addr} {env : Ev} {S : Store} {cs : List Nat} {Q : Bool → Store → Prop} {E : Exn → Store → Prop} {d : Nat} {fs : List (Nat × Val)} : wT ⟨fn, mt, mkr, fl, isc, exm, some (a, d, fs)⟩ (.exis 15 cs) (a0 :: a1 :: a2 :: a3 :: a4 :: a5 :: a6 :: a7 :: a8 :: a9 :: a10 :: a11 :: a12 :: a13 :: a14 :: some (.exc a) :: env) S Q E = (9 ≤ d ∧ ∃ b, isAny (isc d) cs = some b ∧ Q b S) := propext ⟨fun ⟨_, _, _, e, ⟨h, h9⟩, b, hb, q⟩ => by cases e; cases h; exact ⟨h9, b, hb, q⟩, fun ⟨h9, b, hb, q⟩ => ⟨a, d, fs, rfl, ⟨rfl, h9⟩, b, hb, q⟩⟩
theorem exF_15 {fn : Nat → Spec} {mt : Nat → Nat → Option Nat} {mkr : Nat → Option Nat} {fl : Nat → Nat → Bool} {isc exm : Nat → Nat → Option Bool} {a0 a1 a2 a3 a4 a5 a6 a7 a8 a9 a10 a11 a12 a13 a14 : Option Val} {a : Addr} {env : Ev} {S : Store} {f : Nat} {Q : QV} {E : Exn → Store → Prop} {d : Nat} {fs : List (Nat × Val)} : wE ⟨fn, mt, mkr, fl, isc, exm, some (a, d, fs)⟩ (.exfl 15 f) (a0 :: a1 :: a2 :: a3 :: a4 :: a5 :: a6 :: a7 :: a8 :: a9 :: a10 :: a11 :: a12 :: a13 :: a14 :: some (.exc a) :: env) S Q E = (∃ v, (9 ≤ d ∧ fl d f = true) ∧ fs.lookup f = some v ∧ Q v S) := propext ⟨fun ⟨_, _, _, v, e, ⟨h, h9⟩, hb, q⟩ => by cases e; cases h; exact ⟨v, h9, hb, q⟩, fun ⟨v, h9, hb, q⟩ => ⟨a, d, fs, v, rfl, ⟨rfl, h9⟩, hb, q⟩⟩
theorem wE_v16 {T : Tb} {a0 a1 a2 a3 a4 a5 a6 a7 a8 a9 a10 a11 a12 a13 a14 a15 : Option Val} {v : Val} {env : Ev} {S : Store} {Q : QV} {E : Exn → Store → Prop} : wE T (.var 16) (a0 :: a1 :: a2 :: a3 :: a4 :: a5 :: a6 :: a7 :: a8 :: a9 :: a10 :: a11 :: a12 :: a13 :: a14 :: a15 :: some v :: env) S Q E = Q v S := propext ⟨fun ⟨_, e, h⟩ => by cases e; exact h, fun h => ⟨v, rfl, h⟩⟩
theorem wT_v16 {T : Tb} {a0 a1 a2 a3 a4 a5 a6 a7 a8 a9 a10 a11 a12 a13 a14 a15 : Option Val} {v : Val} {env : Ev} {S : Store} {Q : Bool → Store → Prop} {E : Exn → Store → Prop} : wT T (.var 16) (a0 :: a1 :: a2 :: a3 :: a4 :: a5 :: a6 :: a7 :: a8 :: a9 :: a10 :: a11 :: a12 :: a13 :: a14 :: a15 :: some v :: env) S Q E = tru v S (fun t => Q t S) := propext ⟨fun ⟨_, e, h⟩ => by cases e; exact h, fun h => ⟨v, rfl, h⟩⟩
theorem tgt_16 {a0 a1 a2 a3 a4 a5 a6 a7 a8 a9 a10 a11 a12 a13 a14 a15 : Option Val} {x : Option Val} {v : Val} {env : Ev} {P : Ev → Prop} : tgt (.nm 16) v (a0 :: a1 :: a2 :: a3 :: a4 :: a5 :: a6 :: a7 :: a8 :: a9 :: a10 :: a11 :: a12 :: a13 :: a14 :: a15 :: x :: env) P = P (a0 :: a1 :: a2 :: a3 :: a4 :: a5 :: a6 :: a7 :: a8 :: a9 :: a10 :: a11 :: a12 :: a13 :: a14 :: a15 :: some v :: env) := rfl
theorem exI_16 {fn : Nat → Spec} {mt : Nat → Nat → Option Nat} {mkr : Nat → Option Nat} {fl : Nat → Nat → Bool} {isc exm : Nat → Nat → Option Bool} {a0 a1 a2 a3 a4 a5 a6 a7 a8 a9 a10 a11 a12 a13 a14 a15 : Option Val} {a : Addr} {env : Ev} {S : Store} {cs : List Nat} {Q : QV} {E : Exn → Store → Prop} {d : Nat} {fs : List (Nat × Val)} : wE ⟨fn, mt, mkr, fl, isc, exm, some (a, d, fs)⟩ (.exis 16 cs) (a0 :: a1 :: a2 :: a3 :: a4 :: a5 :: a6 :: a7 :: a8 :: a9 :: a10 :: a11 :: a12 :: a13 :: a14 :: a15 :: some (.exc a) :: env) S Q E = (9 ≤ d ∧ ∃ b, isAny (isc d) cs = some b ∧ Q (.bl b) S) := propext ⟨fun ⟨_, _, _, e, ⟨h, h9⟩, b, hb, q⟩ => by cases e; cases h; exact ⟨h9, b, hb, q⟩, fun ⟨h9, b, hb, q⟩ => ⟨a, d, fs, rfl, ⟨rfl, h9⟩, b, hb, q⟩⟩
theorem exT_16 {fn : Nat → Spec} {mt : Nat → Nat → Option Nat} {mkr : Nat → Option Nat} {fl : Nat → Nat → Bool} {isc exm : Nat → Nat → Option Bool} {a0 a1 a2 a3 a4 a5 a6 a7 a8 a9 a10 a11 a12 a13 a14 a15 : Option Val} {a : Addr} {env : Ev} {S : Store} {cs : List Nat} {Q : Bool → Store → Prop} {E : Exn → Store → Prop} {d : Nat} {fs : List (Nat × Val)} : wT ⟨fn, mt, mkr, fl, isc, exm, some (a, d, fs)⟩ (.exis 16 cs) (a0 :: a1 :: a2 :: a3 :: a4 :: a5 :: a6 :: a7 :: a8 :: a9 :: a10 :: a11 :: a12 :: a13 :: a14 :: a15 :: some (.exc a) :: env) S Q E = (9 ≤ d ∧ ∃ b, isAny (isc d) cs = some b ∧ Q b S) := propext ⟨fun ⟨_, _, _, e, ⟨h, h9⟩, b, hb, q⟩ => by cases e; cases h; exact ⟨h9, b, hb, q⟩, fun ⟨h9, b, hb, q⟩ => ⟨a, d, fs, rfl, ⟨rfl, h9⟩, b, hb, q⟩⟩
theorem exF_16 {fn : Nat → Spec} {mt : Nat → Nat → Option Nat} {mkr : Nat → Option Nat} {fl : Nat → Nat → Bool} {isc exm : Nat → Nat → Option Bool} {a0 a1 a2 a3 a4 a5 a6 a7 a8 a9 a10 a11 a12 a13 a14 a15 : Option Val} {a : Addr} {env : Ev} {S : Store} {f : Nat} {Q : QV} {E : Exn → Store → Prop} {d : Nat} {fs : List (Nat × Val)} : wE ⟨fn, mt, mkr, fl, isc, exm, some (a, d, fs)⟩ (.exfl 16 f) (a0 :: a1 :: a2 :: a3 :: a4 :: a5 :: a6 :: a7 :: a8 :: a9 :: a10 :: a11 :: a12 :: a13 :: a14 :: a15 :: some (.exc a) :: env) S Q E = (∃ v, (9 ≤ d ∧ fl d f = true) ∧ fs.lookup f = some v ∧ Q v S) := propext ⟨fun ⟨_, _, _, v, e, ⟨h, h9⟩, hb, q⟩ => by cases e; cases h; exact ⟨v, h9, hb, q⟩, fun ⟨v, h9, hb, q⟩ => ⟨a, d, fs, v, rfl, ⟨rfl, h9⟩, hb, q⟩⟩
theorem wE_v17 {T : Tb} {a0 a1 a2 a3 a4 a5 a6 a7 a8 a9 a10 a11 a12 a13 a14 a15 a16 : Option Val} {v : Val} {env : Ev} {S : Store} {Q : QV} {E : Exn → Store → Prop} : wE T (.var 17) (a0 :: a1 :: a2 :: a3 :: a4 :: a5 :: a6 :: a7 :: a8 :: a9 :: a10 :: a11 :: a12 :: a13 :: a14 :: a15 :: a16 :: some v :: env) S Q E = Q v S := propext ⟨fun ⟨_, e, h⟩ => by cases e; exact h, fun h => ⟨v, rfl, h⟩⟩
theorem wT_v17 {T : Tb} {a0 a1 a2 a3 a4 a5 a6 a7 a8 a9 a10 a11 a12 a13 a14 a15 a16 : Option Val} {v : Val} {env : Ev} {S : Store} {Q : Bool → Store → Prop} {E : Exn → Store → Prop} : wT T (.var 17) (a0 :: a1 :: a2 :: a3 :: a4 :: a5 :: a6 :: a7 :: a8 :: a9 :: a10 :: a11 :: a12 :: a13 :: a14 :: a15 :: a16 :: some v :: env) S Q E = tru v S (fun t => Q t S) := propext ⟨fun ⟨_, e, h⟩ => by cases e; exact h, fun h => ⟨v, rfl, h⟩⟩
theorem tgt_17 {a0 a1 a2 a3 a4 a5 a6 a7 a8 a9 a10 a11 a12 a13 a14 a15 a16 : Option Val} {x : Option Val} {v : Val} {env : Ev} {P : Ev → Prop} : tgt (.nm 17) v (a0 :: a1 :: a2 :: a3 :: a4 :: a5 :: a6 :: a7 :: a8 :: a9 :: a10 :: a11 :: a12 :: a13 :: a14 :: a15 :: a16 :: x :: env) P = P (a0 :: a1 :: a2 :: a3 :: a4 :: a5 :: a6 :: a7 :: a8 :: a9 :: a10 :: a11 :: a12 :: a13 :: a14 :: a15 :: a16 :: some v :: env) := rfl
theorem exI_17 {fn : Nat → Spec} {mt : Nat → Nat → Option Nat} {mkr : Nat → Option Nat} {fl : Nat → Nat → Bool} {isc exm : Nat → Nat → Option Bool} {a0 a1 a2 a3 a4 a5 a6 a7 a8 a9 a10 a11 a12 a13 a14 a15 a16 : Option Val} {a : Addr} {env : Ev} {S : Store} {cs : List Nat} {Q : QV} {E : Exn → Store → Prop} {d : Nat} {fs : List (Nat × Val)} : wE ⟨fn, mt, mkr, fl, isc, exm, some (a, d, fs)⟩ (.exis 17 cs) (a0 :: a1 :: a2 :: a3 :: a4 :: a5 :: a6 :: a7 :: a8 :: a9 :: a10 :: a11 :: a12 :: a13 :: a14 :: a15 :: a16 :: some (.exc a) :: env) S Q E = (9 ≤ d ∧ ∃ b, isAny (isc d) cs = some b ∧ Q (.bl b) S) := propext ⟨fun ⟨_, _, _, e, ⟨h, h9⟩, b, hb, q⟩ => by cases e; cases h; exact ⟨h9, b, hb, q⟩, fun ⟨h9, b, hb, q⟩ => ⟨a, d, fs, rfl, ⟨rfl, h9⟩, b, hb, q⟩⟩
theorem exT_17 {fn : Nat → Spec} {mt : Nat → Nat → Option Nat} {mkr : Nat → Option Nat} {fl : Nat → Nat → Bool} {isc exm : Nat → Nat → Option Bool} {a0 a1 a2 a3 a4 a5 a6 a7 a8 a9 a10 a11 a12 a13 a14 a15 a16 : Option Val} {a : Addr} {env : Ev} {S : Store} {cs : List Nat} {Q : Bool → Store → Prop} {E : Exn → Store → Prop} {d : Nat} {fs : List (Nat × Val)} : wT ⟨fn, mt, mkr, fl, isc, exm, some (a, d, fs)⟩ (.exis 17 cs) (a0 :: a1 :: a2 :: a3 :: a4 :: a5 :: a6 :: a7 :: a8 :: a9 :: a10 :: a11 :: a12 :: a13 :: a14 :: a15 :: a16 :: some (.exc a) :: env) S Q E = (9 ≤ d ∧ ∃ b, isAny (isc d) cs = some b ∧ Q b S) := propext ⟨fun ⟨_, _, _, e, ⟨h, h9⟩, b, hb, q⟩ => by cases e; cases h; exact ⟨h9, b, hb, q⟩, fun ⟨h9, b, hb, q⟩ => ⟨a, d, fs, rfl, ⟨rfl, h9⟩, b, hb, q⟩⟩
theorem exF_17 {fn : Nat → Spec} {mt : Nat → Nat → Option Nat} {mkr : Nat → Option Nat} {fl : Nat → Nat → Bool} {isc exm : Nat → Nat → Option Bool} {a0 a1 a2 a3 a4 a5 a6 a7 a8 a9 a10 a11 a12 a13 a14 a15 a16 : Option Val} {a : Addr} {env : Ev} {S : Store} {f : Nat} {Q : QV} {E : Exn → Store → Prop} {d : Nat} {fs : List (Nat × Val)} : wE ⟨fn, mt, mkr, fl, isc, exm, some (a, d, fs)⟩ (.exfl 17 f) (a0 :: a1 :: a2 :: a3 :: a4 :: a5 :: a6 :: a7 :: a8 :: a9 :: a10 :: a11 :: a12 :: a13 :: a14 :: a15 :: a16 :: some (.exc a) :: env) S Q E = (∃ v, (9 ≤ d ∧ fl d f = true) ∧ fs.lookup f = some v ∧ Q v S) := propext ⟨fun ⟨_, _, _, v, e, ⟨h, h9⟩, hb, q⟩ => by cases e; cases h; exact ⟨v, h9, hb, q⟩, fun ⟨v, h9, hb, q⟩ => ⟨a, d, fs, v, rfl, ⟨rfl, h9⟩, hb, q⟩⟩
theorem wE_v18 {T : Tb} {a0 a1 a2 a3 a4 a5 a6 a7 a8 a9 a10 a11 a12 a13 a14 a15 a16 a17 : Option Val} {v : Val} {env : Ev} {S : Store} {Q : QV} {E : Exn → Store → Prop} : wE T (.var 18) (a0 :: a1 :: a2 :: a3 :: a4 :: a5 :: a6 :: a7 :: a8 :: a9 :: a10 :: a11 :: a12 :: a13 :: a14 :: a15 :: a16 :: a17 :: some v :: env) S Q E = Q v S := propext ⟨fun ⟨_, e, h⟩ => by cases e; exact h, fun h => ⟨v, rfl, h⟩⟩
theorem wT_v18 {T : Tb} {a0 a1 a2 a3 a4 a5 a6 a7 a8 a9 a10 a11 a12 a13 a14 a15 a16 a17 : Option Val} {v : Val} {env : Ev} {S : Store} {Q : Bool → Store → Prop} {E : Exn → Store → Prop} : wT T (.var 18) (a0 :: a1 :: a2 :: a3 :: a4 :: a5 :: a6 :: a7 :: a8 :: a9 :: a10 :: a11 :: a12 :: a13 :: a14 :: a15 :: a16 :: a17 :: some v :: env) S Q E = tru v S (fun t => Q t S) := propext ⟨fun ⟨_, e, h⟩ => by cases e; exact h, fun h => ⟨v, rfl, h⟩⟩
theorem tgt_18 {a0 a1 a2 a3 a4 a5 a6 a7 a8 a9 a10 a11 a12 a13 a14 a15 a16 a17 : Option Val} {x : Option Val} {v : Val} {env : Ev} {P : Ev → Prop} : tgt (.nm 18) v (a0 :: a1 :: a2 :: a3 :: a4 :: a5 :: a6 :: a7 :: a8 :: a9 :: a10 :: a11 :: a12 :: a13 :: a14 :: a15 :: a16 :: a17 :: x :: env) P = P (a0 :: a1 :: a2 :: a3 :: a4 :: a5 :: a6 :: a7 :: a8 :: a9 :: a10 :: a11 :: a12 :: a13 :: a14 :: a15 :: a16 :: a17 :: some v :: env) := rfl
theorem exI_18 {fn : Nat → Spec} {mt : Nat → Nat → Option Nat} {mkr : Nat → Option Nat} {fl : Nat → Nat → Bool} {isc exm : Nat → Nat → Option Bool} {a0 a1 a2 a3 a4 a5 a6 a7 a8 a9 a10 a11 a12 a13 a14 a15 a16 a17 : Option Val} {a : Addr} {env : Ev} {S : Store} {cs : List Nat} {Q : QV} {E : Exn → Store → Prop} {d : Nat} {fs : List (Nat × Val)} : wE ⟨fn, mt, mkr, fl, isc, exm, some (a, d, fs)⟩ (.exis 18 cs) (a0 :: a1 :: a2 :: a3 :: a4 :: a5 :: a6 :: a7 :: a8 :: a9 :: a10 :: a11 :: a12 :: a13 :: a14 :: a15 :: a16 :: a17 :: some (.exc a) :: env) S Q E = (9 ≤ d ∧ ∃ b, isAny (isc d) cs = some b ∧ Q (.bl b) S) := propext ⟨fun ⟨_, _, _, e, ⟨h, h9⟩, b, hb, q⟩ => by cases e; cases h; exact ⟨h9, b, hb, q⟩, fun ⟨h9, b, hb, q⟩ => ⟨a, d, fs, rfl, ⟨rfl, h9⟩, b, hb, q⟩⟩
theorem exT_18 {fn : Nat → Spec} {mt : Nat → Nat → Option Nat} {mkr : Nat → Option Nat} {fl : Nat → Nat → Bool} {isc exm : Nat → Nat → Option Bool} {a0 a1 a2 a3 a4 a5 a6 a7 a8 a9 a10 a11 a12 a13 a14 a15 a16 a17 : Option Val} {a : Addr} {env : Ev} {S : Store} {cs : List Nat} {Q : Bool → Store → Prop} {E : Exn → Store → Prop} {d : Nat} {fs : List (Nat × Val)} : wT ⟨fn, mt, mkr, fl, isc, exm, some (a, d, fs)⟩ (.exis 18 cs) (a0 :: a1 :: a2 :: a3 :: a4 :: a5 :: a6 :: a7 :: a8 :: a9 :: a10 :: a11 :: a12 :: a13 :: a14 :: a15 :: a16 :: a17 :: some (.exc a) :: env) S Q E = (9 ≤ d ∧ ∃ b, isAny (isc d) cs = some b ∧ Q b S) := propext ⟨fun ⟨_, _, _, e, ⟨h, h9⟩, b, hb, q⟩ => by cases e; cases h; exact ⟨h9, b, hb, q⟩, fun ⟨h9, b, hb, q⟩ => ⟨a, d, fs, rfl, ⟨rfl, h9⟩, b, hb, q⟩⟩
theorem exF_18 {fn : Nat → Spec} {mt : Nat → Nat → Option Nat} {mkr : Nat → Option Nat} {fl : Nat → Nat → Bool} {isc exm : Nat → Nat → Option Bool} {a0 a1 a2 a3 a4 a5 a6 a7 a8 a9 a10 a11 a12 a13 a14 a15 a16 a17 : Option Val} {a : Addr} {env : Ev} {S : Store} {f : Nat} {Q : QV} {E : Exn → Store → Prop} {d : Nat} {fs : List (Nat × Val)} : wE ⟨fn, mt, mkr, fl, isc, exm, some (a, d, fs)⟩ (.exfl 18 f) (a0 :: a1 :: a2 :: a3 :: a4 :: a5 :: a6 :: a7 :: a8 :: a9 :: a10 :: a11 :: a12 :: a13 :: a14 :: a15 :: a16 :: a17 :: some (.exc a) :: env) S Q E = (∃ v, (9 ≤ d ∧ fl d f = true) ∧ fs.lookup f = some v ∧ Q v S) := propext ⟨fun ⟨_, _, _, v, e, ⟨h, h9⟩, hb, q⟩ => by cases e; cases h; exact ⟨v, h9, hb, q⟩, fun ⟨v, h9, hb, q⟩ => ⟨a, d, fs, v, rfl, ⟨rfl, h9⟩, hb, q⟩⟩
theorem wE_v19 {T : Tb} {a0 a1 a2 a3 a4 a5 a6 a7 a8 a9 a10 a11 a12 a13 a14 a15 a16 a17 a18 : Option Val} {v : Val} {env : Ev} {S : Store} {Q : QV} {E : Exn → Store → Prop} : wE T (.var 19) (a0 :: a1 :: a2 :: a3 :: a4 :: a5 :: a6 :: a7 :: a8 :: a9 :: a10 :: a11 :: a12 :: a13 :: a14 :: a15 :: a16 :: a17 :: a18 :: some v :: env) S Q E = Q v S := propext ⟨fun ⟨_, e, h⟩ => by cases e; exact h, fun h => ⟨v, rfl, h⟩⟩
theorem wT_v19 {T : Tb} {a0 a1 a2 a3 a4 a5 a6 a7 a8 a9 a10 a11 a12 a13 a14 a15 a16 a17 a18 : Option Val} {v : Val} {env : Ev} {S : Store} {Q : Bool → Store → Prop} {E : Exn → Store → Prop} : wT T (.var 19) (a0 :: a1 :: a2 :: a3 :: a4 :: a5 :: a6 :: a7 :: a8 :: a9 :: a10 :: a11 :: a12 :: a13 :: a14 :: a15 :: a16 :: a17 :: a18 :: some v :: env) S Q E = tru v S (fun t => Q t S) := propext ⟨fun ⟨_, e, h⟩ => by cases e; exact h, fun h => ⟨v, rfl, h⟩⟩
theorem tgt_19 {a0 a1 a2 a3 a4 a5 a6 a7 a8 a9 a10 a11 a12 a13 a14 a15 a16 a17 a18 : Option Val} {x : Option Val} {v : Val} {env : Ev} {P : Ev → Prop} : tgt (.nm 19) v (a0 :: a1 :: a2 :: a3 :: a4 :: a5 :: a6 :: a7 :: a8 :: a9 :: a10 :: a11 :: a12 :: a13 :: a14 :: a15 :: a16 :: a17 :: a18 :: x :: env) P = P (a0 :: a1 :: a2 :: a3 :: a4 :: a5 :: a6 :: a7 :: a8 :: a9 :: a10 :: a11 :: a12 :: a13 :: a14 :: a15 :: a16 :: a17 :: a18 :: some v :: env) := rfl
theorem exI_19 {fn : Nat → Spec} {mt : Nat → Nat → Option Nat} {mkr : Nat → Option Nat} {fl : Nat → Nat → Bool} {isc exm : Nat → Nat → Option Bool} {a0 a1 a2 a3 a4 a5 a6 a7 a8 a9 a10 a11 a12 a13 a14 a15 a16 a17 a18 : Option Val} {a : Addr} {env : Ev} {S : Store} {cs : List Nat} {Q : QV} {E : Exn → Store → Prop} {d : Nat} {fs : List (Nat × Val)} : wE ⟨fn, mt, mkr, fl, isc, exm, some (a, d, fs)⟩ (.exis 19 cs) (a0 :: a1 :: a2 :: a3 :: a4 :: a5 :: a6 :: a7 :: a8 :: a9 :: a10 :: a11 :: a12 :: a13 :: a14 :: a15 :: a16 :: a17 :: a18 :: some (.exc a) :: env) S Q E = (9 ≤ d ∧ ∃ b, isAny (isc d) cs = some b ∧ Q (.bl b) S) := propext ⟨fun ⟨_, _, _, e, ⟨h, h9⟩, b, hb, q⟩ => by cases e; cases h; exact ⟨h9, b, hb, q⟩, fun ⟨h9, b, hb, q⟩ => ⟨a, d, fs, rfl, ⟨rfl, h9⟩, b, hb, q⟩⟩
theorem exT_19 {fn : Nat → Spec} {mt : Nat → Nat → Option Nat} {mkr : Nat → Option Nat} {fl : Nat → Nat → Bool} {isc exm : Nat → Nat → Option Bool} {a0 a1 a2 a3 a4 a5 a6 a7 a8 a9 a10 a11 a12 a13 a14 a15 a16 a17 a18 : Option Val} {a : Addr} {env : Ev} {S : Store} {cs : List Nat} {Q : Bool → Store → Prop} {E : Exn → Store → Prop} {d : Nat} {fs : List (Nat × Val)} : wT ⟨fn, mt, mkr, fl, isc, exm, some (a, d, fs)⟩ (.exis 19 cs) (a0 :: a1 :: a2 :: a3 :: a4 :: a5 :: a6 :: a7 :: a8 :: a9 :: a10 :: a11 :: a12 :: a13 :: a14 :: a15 :: a16 :: a17 :: a18 :: some (.exc a) :: env) S Q E = (9 ≤ d ∧ ∃ b, isAny (isc d) cs = some b ∧ Q b S) := propext ⟨fun ⟨_, _, _, e, ⟨h, h9⟩, b, hb, q⟩ => by cases e; cases h; exact ⟨h9, b, hb, q⟩, fun ⟨h9, b, hb, q⟩ => ⟨a, d, fs, rfl, ⟨rfl, h9⟩, b, hb, q⟩⟩
theorem exF_19 {fn : Nat → Spec} {mt : Nat → Nat → Option Nat} {mkr : Nat → Option Nat} {fl : Nat → Nat → Bool} {isc exm : Nat → Nat → Option Bool} {a0 a1 a2 a3 a4 a5 a6 a7 a8 a9 a10 a11 a12 a13 a14 a15 a16 a17 a18 : Option Val} {a : Addr} {env : Ev} {S : Store} {f : Nat} {Q : QV} {E : Exn → Store → Prop} {d : Nat} {fs : List (Nat × Val)} : wE ⟨fn, mt, mkr, fl, isc, exm, some (a, d, fs)⟩ (.exfl 19 f) (a0 :: a1 :: a2 :: a3 :: a4 :: a5 :: a6 :: a7 :: a8 :: a9 :: a10 :: a11 :: a12 :: a13 :: a14 :: a15 :: a16 :: a17 :: a18 :: some (.exc a) :: env) S Q E = (∃ v, (9 ≤ d ∧ fl d f = true) ∧ fs.lookup f = some v ∧ Q v S) := propext ⟨fun ⟨_, _, _, v, e, ⟨h, h9⟩, hb, q⟩ => by cases e; cases h; exact ⟨v, h9, hb, q⟩, fun ⟨v, h9, hb, q⟩ => ⟨a, d, fs, v, rfl, ⟨rfl, h9⟩, hb, q⟩⟩
theorem wE_v20 {T : Tb} {a0 a1 a2 a3 a4 a5 a6 a7 a8 a9 a10 a11 a12 a13 a14 a15 a16 a17 a18 a19 : Option Val} {v : Val} {env : Ev} {S : Store} {Q : QV} {E : Exn → Store → Prop} : wE T (.var 20) (a0 :: a1 :: a2 :: a3 :: a4 :: a5 :: a6 :: a7 :: a8 :: a9 :: a10 :: a11 :: a12 :: a13 :: a14 :: a15 :: a16 :: a17 :: a18 :: a19 :: some v :: env) S Q E = Q v S := propext ⟨fun ⟨_, e, h⟩ => by cases e; exact h, fun h => ⟨v, rfl, h⟩⟩
theorem wT_v20 {T : Tb} {a0 a1 a2 a3 a4 a5 a6 a7 a8 a9 a10 a11 a12 a13 a14 a15 a16 a17 a18 a19 : Option Val} {v : Val} {env : Ev} {S : Store} {Q : Bool → Store → Prop} {E : Exn → Store → Prop} : wT T (.var 20) (a0 :: a1 :: a2 :: a3 :: a4 :: a5 :: a6 :: a7 :: a8 :: a9 :: a10 :: a11 :: a12 :: a13 :: a14 :: a15 :: a16 :: a17 :: a18 :: a19 :: some v :: env) S Q E = tru v S (fun t => Q t S) := propext ⟨fun ⟨_, e, h⟩ => by cases e; exact h, fun h => ⟨v, rfl, h⟩⟩
theorem tgt_20 {a0 a1 a2 a3 a4 a5 a6 a7 a8 a9 a10 a11 a12 a13 a14 a15 a16 a17 a18 a19 : Option Val} {x : Option Val} {v : Val} {env : Ev} {P : Ev → Prop} : tgt (.nm 20) v (a0 :: a1 :: a2 :: a3 :: a4 :: a5 :: a6 :: a7 :: a8 :: a9 :: a10 :: a11 :: a12 :: a13 :: a14 :: a15 :: a16 :: a17 :: a18 :: a19 :: x :: env) P = P (a0 :: a1 :: a2 :: a3 :: a4 :: a5 :: a6 :: a7 :: a8 :: a9 :: a10 :: a11 :: a12 :: a13 :: a14 :: a15 :: a16 :: a17 :: a18 :: a19 :: some v :: env) := rfl
theorem exI_20 {fn : Nat → Spec} {mt : Nat → Nat → Option Nat} {mkr : Nat → Option Nat} {fl : Nat → Nat → Bool} {isc exm : Nat → Nat → Option Bool} {a0 a1 a2 a3 a4 a5 a6 a7 a8 a9 a10 a11 a12 a13 a14 a15 a16 a17 a18 a19 : Option Val} {a : Addr} {env : Ev} {S : Store} {cs : List Nat} {Q : QV} {E : Exn → Store → Prop} {d : Nat} {fs : List (Nat × Val)} : wE ⟨fn, mt, mkr, fl, isc, exm, some (a, d, fs)⟩ (.exis 20 cs) (a0 :: a1 :: a2 :: a3 :: a4 :: a5 :: a6 :: a7 :: a8 :: a9 :: a10 :: a11 :: a12 :: a13 :: a14 :: a15 :: a16 :: a17 :: a18 :: a19 :: some (.exc a) :: env) S Q E = (9 ≤ d ∧ ∃ b, isAny (isc d) cs = some b ∧ Q (.bl b) S) := propext ⟨fun ⟨_, _, _, e, ⟨h, h9⟩, b, hb, q⟩ => by cases e; cases h; exact ⟨h9, b, hb, q⟩, fun ⟨h9, b, hb, q⟩ => ⟨a, d, fs, rfl, ⟨rfl, h9⟩, b, hb, q⟩⟩
theorem exT_20 {fn : Nat → Spec} {mt : Nat → Nat → Option Nat} {mkr : Nat → Option Nat} {fl : Nat → Nat → Bool} {isc exm : Nat → Nat → Option Bool} {a0 a1 a2 a3 a4 a5 a6 a7 a8 a9 a10 a11 a12 a13 a14 a15 a16 a17 a18 a19 : Option Val} {a : Addr} {env : Ev} {S : Store} {cs : List Nat} {Q : Bool → Store → Prop} {E : Exn → Store → Prop} {d : Nat} {fs : List (Nat × Val)} : wT ⟨fn, mt, mkr, fl, isc, exm, some (a, d, fs)⟩ (.exis 20 cs) (a0 :: a1 :: a2 :: a3 :: a4 :: a5 :: a6 :: a7 :: a8 :: a9 :: a10 :: a11 :: a12 :: a13 :: a14 :: a15 :: a16 :: a17 :: a18 :: a19 :: some (.exc a) :: env) S Q E = (9 ≤ d ∧ ∃ b, isAny (isc d) cs = some b ∧ Q b S) := propext ⟨fun ⟨_, _, _, e, ⟨h, h9⟩, b, hb, q⟩ => by cases e; cases h; exact ⟨h9, b, hb, q⟩, fun ⟨h9, b, hb, q⟩ => ⟨a, d, fs, rfl, ⟨rfl, h9⟩, b, hb, q⟩⟩
theorem exF_20 {fn : Nat → Spec} {mt : Nat → Nat → Option Nat} {mkr : Nat → Option Nat} {fl : Nat → Nat → Bool} {isc exm : Nat → Nat → Option Bool} {a0 a1 a2 a3 a4 a5 a6 a7 a8 a9 a10 a11 a12 a13 a14 a15 a16 a17 a18 a19 : Option Val} {a : Addr} {env : Ev} {S : Store} {f : Nat} {Q : QV} {E : Exn → Store → Prop} {d : Nat} {fs : List (Nat × Val)} : wE ⟨fn, mt, mkr, fl, isc, exm, some (a, d, fs)⟩ (.exfl 20 f) (a0 :: a1 :: a2 :: a3 :: a4 :: a5 :: a6 :: a7 :: a8 :: a9 :: a10 :: a11 :: a12 :: a13 :: a14 :: a15 :: a16 :: a17 :: a18 :: a19 :: some (.exc a) :: env) S Q E = (∃ v, (9 ≤ d ∧ fl d f = true) ∧ fs.lookup f = some v ∧ Q v S) := propext ⟨fun ⟨_, _, _, v, e, ⟨h, h9⟩, hb, q⟩ => by cases e; cases h; exact ⟨v, h9, hb, q⟩, fun ⟨v, h9, hb, q⟩ => ⟨a, d, fs, v, rfl, ⟨rfl, h9⟩, hb, q⟩⟩
theorem wE_v21 {T : Tb} {a0 a1 a2 a3 a4 a5 a6 a7 a8 a9 a10 a11 a12 a13 a14 a15 a16 a17 a18 a19 a20 : Option Val} {v : Val} {env : Ev} {S : Store} {Q : QV} {E : Exn → Store → Prop} : wE T (.var 21) (a0 :: a1 :: a2 :: a3 :: a4 :: a5 :: a6 :: a7 :: a8 :: a9 :: a10 :: a11 :: a12 :: a13 :: a14 :: a15 :: a16 :: a17 :: a18 :: a19 :: a20 :: some v :: env) S Q E = Q v S := propext ⟨fun ⟨_, e, h⟩ => by cases e; exact h, fun h => ⟨v, rfl, h⟩⟩
theorem wT_v21 {T : Tb} {a0 a1 a2 a3 a4 a5 a6 a7 a8 a9 a10 a11 a12 a13 a14 a15 a16 a17 a18 a19 a20 : Option Val} {v : Val} {env : Ev} {S : Store} {Q : Bool → Store → Prop} {E : Exn → Store → Prop} : wT T (.var 21) (a0 :: a1 :: a2 :: a3 :: a4 :: a5 :: a6 :: a7 :: a8 :: a9 :: a10 :: a11 :: a12 :: a13 :: a14 :: a15 :: a16 :: a17 :: a18 :: a19 :: a20 :: some v :: env) S Q E = tru v S (fun t => Q t S) := propext ⟨fun ⟨_, e, h⟩ => by cases e; exact h, fun h => ⟨v, rfl, h⟩⟩
theorem tgt_21 {a0 a1 a2 a3 a4 a5 a6 a7 a8 a9 a10 a11 a12 a13 a14 a15 a16 a17 a18 a19 a20 : Option Val} {x : Option Val} {v : Val} {env : Ev} {P : Ev → Prop} : tgt (.nm 21) v (a0 :: a1 :: a2 :: a3 :: a4 :: a5 :: a6 :: a7 :: a8 :: a9 :: a10 :: a11 :: a12 :: a13 :: a14 :: a15 :: a16 :: a17 :: a18 :: a19 :: a20 :: x :: env) P = P (a0 :: a1 :: a2 :: a3 :: a4 :: a5 :: a6 :: a7 :: a8 :: a9 :: a10 :: a11 :: a12 :: a13 :: a14 :: a15 :: a16 :: a17 :: a18 :: a19 :: a20 :: some v :: env) := rfl
theorem exI_21 {fn : Nat → Spec} {mt : Nat → Nat → Option Nat} {mkr : Nat → Option Nat} {fl : Nat → Nat → Bool} {isc exm : Nat → Nat → Option Bool} {a0 a1 a2 a3 a4 a5 a6 a7 a8 a9 a10 a11 a12 a13 a14 a15 a16 a17 a18 a19 a20 : Option Val} {a : Addr} {env : Ev} {S : Store} {cs : List Nat} {Q : QV} {E : Exn → Store → Prop} {d : Nat} {fs : List (Nat × Val)} : wE ⟨fn, mt, mkr, fl, isc, exm, some (a, d, fs)⟩ (.exis 21 cs) (a0 :: a1 :: a2 :: a3 :: a4 :: a5 :: a6 :: a7 :: a8 :: a9 :: a10 :: a11 :: a12 :: a13 :: a14 :: a15 :: a16 :: a17 :: a18 :: a19 :: a20 :: some (.exc a) :: env) S Q E = (9 ≤ d ∧ ∃ b, isAny (isc d) cs = some b ∧ Q (.bl b) S) := propext ⟨fun ⟨_, _, _, e, ⟨h, h9⟩, b, hb, q⟩ => by cases e; cases h; exact ⟨h9, b, hb, q⟩, fun ⟨h9, b, hb, q⟩ => ⟨a, d, fs, rfl, ⟨rfl, h9⟩, b, hb, q⟩⟩
theorem exT_21 {fn : Nat → Spec} {mt : Nat → Nat → Option Nat} {mkr : Nat → Option Nat} {fl : Nat → Nat → Bool} {isc exm : Nat → Nat → Option Bool} {a0 a1 a2 a3 a4 a5 a6 a7 a8 a9 a10 a11 a12 a13 a14 a15 a16 a17 a18 a19 a20 : Option Val} {a : Addr} {env : Ev} {S : Store} {cs : List Nat} {Q : Bool → Store → Prop} {E : Exn → Store → Prop} {d : Nat} {fs : List (Nat × Val)} : wT ⟨fn, mt, mkr, fl, isc, exm, some (a, d, fs)⟩ (.exis 21 cs) (a0 :: a1 :: a2 :: a3 :: a4 :: a5 :: a6 :: a7 :: a8 :: a9 :: a10 :: a11 :: a12 :: a13 :: a14 :: a15 :: a16 :: a17 :: a18 :: a19 :: a20 :: some (.exc a) :: env) S Q E = (9 ≤ d ∧ ∃ b, isAny (isc d) cs = some b ∧ Q b S) := propext ⟨fun ⟨_, _, _, e, ⟨h, h9⟩, b, hb, q⟩ => by cases e; cases h; exact ⟨h9, b, hb, q⟩, fun ⟨h9, b, hb, q⟩ => ⟨a, d, fs, rfl, ⟨rfl, h9⟩, b, hb, q⟩⟩
theorem exF_21 {fn : Nat → Spec} {mt : Nat → Nat → Option Nat} {mkr : Nat → Option Nat} {fl : Nat → Nat → Bool} {isc exm : Nat → Nat → Option Bool} {a0 a1 a2 a3 a4 a5 a6 a7 a8 a9 a10 a11 a12 a13 a14 a15 a16 a17 a18 a19 a20 : Option Val} {a : Addr} {env : Ev} {S : Store} {f : Nat} {Q : QV} {E : Exn → Store → Prop} {d : Nat} {fs : List (Nat × Val)} : wE ⟨fn, mt, mkr, fl, isc, exm, some (a, d, fs)⟩ (.exfl 21 f) (a0 :: a1 :: a2 :: a3 :: a4 :: a5 :: a6 :: a7 :: a8 :: a9 :: a10 :: a11 :: a12 :: a13 :: a14 :: a15 :: a16 :: a17 :: a18 :: a19 :: a20 :: some (.exc a) :: env) S Q E = (∃ v, (9 ≤ d ∧ fl d f = true) ∧ fs.lookup f = some v ∧ Q v S) := propext ⟨fun ⟨_, _, _, v, e, ⟨h, h9⟩, hb, q⟩ => by cases e; cases h; exact ⟨v, h9, hb, q⟩, fun ⟨v, h9, hb, q⟩ => ⟨a, d, fs, v, rfl, ⟨rfl, h9⟩, hb, q⟩⟩
theorem wE_v22 {T : Tb} {a0 a1 a2 a3 a4 a5 a6 a7 a8 a9 a10 a11 a12 a13 a14 a15 a16 a17 a18 a19 a20 a21 : Option Val} {v : Val} {env : Ev} {S : Store} {Q : QV} {E : Exn → Store → Prop} : wE T (.var 22) (a0 :: a1 :: a2 :: a3 :: a4 :: a5 :: a6 :: a7 :: a8 :: a9 :: a10 :: a11 :: a12 :: a13 :: a14 :: a15 :: a16 :: a17 :: a18 :: a19 :: a20 :: a21 :: some v :: env) S Q E = Q v S := propext ⟨fun ⟨_, e, h⟩ => by cases e; exact h, fun h => ⟨v, rfl, h⟩⟩
theorem wT_v22 {T : Tb} {a0 a1 a2 a3 a4 a5 a6 a7 a8 a9 a10 a11 a12 a13 a14 a15 a16 a17 a18 a19 a20 a21 : Option Val} {v : Val} {env : Ev} {S : Store} {Q : Bool → Store → Prop} {E : Exn → Store → Prop} : wT T (.var 22) (a0 :: a1 :: a2 :: a3 :: a4 :: a5 :: a6 :: a7 :: a8 :: a9 :: a10 :: a11 :: a12 :: a13 :: a14 :: a15 :: a16 :: a17 :: a18 :: a19 :: a20 :: a21 :: some v :: env) S Q E = tru v S (fun t => Q t S) := propext ⟨fun ⟨_, e, h⟩ => by cases e; exact h, fun h => ⟨v, rfl, h⟩⟩
theorem tgt_22 {a0 a1 a2 a3 a4 a5 a6 a7 a8 a9 a10 a11 a12 a13 a14 a15 a16 a17 a18 a19 a20 a21 : Option Val} {x : Option Val} {v : Val} {env : Ev} {P : Ev → Prop} : tgt (.nm 22) v (a0 :: a1 :: a2 :: a3 :: a4 :: a5 :: a6 :: a7 :: a8 :: a9 :: a10 :: a11 :: a12 :: a13 :: a14 :: a15 :: a16 :: a17 :: a18 :: a19 :: a20 :: a21 :: x :: env) P = P (a0 :: a1 :: a2 :: a3 :: a4 :: a5 :: a6 :: a7 :: a8 :: a9 :: a10 :: a11 :: a12 :: a13 :: a14 :: a15 :: a16 :: a17 :: a18 :: a19 :: a20 :: a21 :: some v :: env) := rfl
theorem exI_22 {fn : Nat → Spec} {mt : Nat → Nat → Option Nat} {mkr : Nat → Option Nat} {fl : Nat → Nat → Bool} {isc exm : Nat → Nat → Option Bool} {a0 a1 a2 a3 a4 a5 a6 a7 a8 a9 a10 a11 a12 a13 a14 a15 a16 a17 a18 a19 a20 a21 : Option Val} {a : Addr} {env : Ev} {S : Store} {cs : List Nat} {Q : QV} {E : Exn → Store → Prop} {d : Nat} {fs : List (Nat × Val)} : wE ⟨fn, mt, mkr, fl, isc, exm, some (a, d, fs)⟩ (.exis 22 cs) (a0 :: a1 :: a2 :: a3 :: a4 :: a5 :: a6 :: a7 :: a8 :: a9 :: a10 :: a11 :: a12 :: a13 :: a14 :: a15 :: a16 :: a17 :: a18 :: a19 :: a20 :: a21 :: some (.exc a) :: env) S Q E = (9 ≤ d ∧ ∃ b, isAny (isc d) cs = some b ∧ Q (.bl b) S) := propext ⟨fun ⟨_, _, _, e, ⟨h, h9⟩, b, hb, q⟩ => by cases e; cases h; exact ⟨h9, b, hb, q⟩, fun ⟨h9, b, hb, q⟩ => ⟨a, d, fs, rfl, ⟨rfl, h9⟩, b, hb, q⟩⟩
theorem exT_22 {fn : Nat → Spec} {mt : Nat → Nat → Option Nat} {mkr : Nat → Option Nat} {fl : Nat → Nat → Bool} {isc exm : Nat → Nat → Option Bool} {a0 a1 a2 a3 a4 a5 a6 a7 a8 a9 a10 a11 a12 a13 a14 a15 a16 a17 a18 a19 a20 a21 : Option Val} {a : Addr} {env : Ev} {S : Store} {cs : List Nat} {Q : Bool → Store → Prop} {E : Exn → Store → Prop} {d : Nat} {fs : List (Nat × Val)} : wT ⟨fn, mt, mkr, fl, isc, exm, some (a, d, fs)⟩ (.exis 22 cs) (a0 :: a1 :: a2 :: a3 :: a4 :: a5 :: a6 :: a7 :: a8 :: a9 :: a10 :: a11 :: a12 :: a13 :: a14 :: a15 :: a16 :: a17 :: a18 :: a19 :: a20 :: a21 :: some (.exc a) :: env) S Q E = (9 ≤ d ∧ ∃ b, isAny (isc d) cs = some b ∧ Q b S) := propext ⟨fun ⟨_, _, _, e, ⟨h, h9⟩, b, hb, q⟩ => by cases e; cases h; exact ⟨h9, b, hb, q⟩, fun ⟨h9, b, hb, q⟩ => ⟨a, d, fs, rfl, ⟨rfl, h9⟩, b, hb, q⟩⟩
theorem exF_22 {fn : Nat → Spec} {mt : Nat → Nat → Option Nat} {mkr : Nat → Option Nat} {fl : Nat → Nat → Bool} {isc exm : Nat → Nat → Option Bool} {a0 a1 a2 a3 a4 a5 a6 a7 a8 a9 a10 a11 a12 a13 a14 a15 a16 a17 a18 a19 a20 a21 : Option Val} {a : Addr} {env : Ev} {S : Store} {f : Nat} {Q : QV} {E : Exn → Store → Prop} {d : Nat} {fs : List (Nat × Val)} : wE ⟨fn, mt, mkr, fl, isc, exm, some (a, d, fs)⟩ (.exfl 22 f) (a0 :: a1 :: a2 :: a3 :: a4 :: a5 :: a6 :: a7 :: a8 :: a9 :: a10 :: a11 :: a12 :: a13 :: a14 :: a15 :: a16 :: a17 :: a18 :: a19 :: a20 :: a21 :: some (.exc a) :: env) S Q E = (∃ v, (9 ≤ d ∧ fl d f = true) ∧ fs.lookup f = some v ∧ Q v S) := propext ⟨fun ⟨_, _, _, v, e, ⟨h, h9⟩, hb, q⟩ => by cases e; cases h; exact ⟨v, h9, hb, q⟩, fun ⟨v, h9, hb, q⟩ => ⟨a, d, fs, v, rfl, ⟨rfl, h9⟩, hb, q⟩⟩
theorem wE_v23 {T : Tb} {a0 a1 a2 a3 a4 a5 a6 a7 a8 a9 a10 a11 a12 a13 a14 a15 a16 a17 a18 a19 a20 a21 a22 : Option Val} {v : Val} {env : Ev} {S : Store} {Q : QV} {E : Exn → Store → Prop} : wE T (.var 23) (a0 :: a1 :: a2 :: a3 :: a4 :: a5 :: a6 :: a7 :: a8 :: a9 :: a10 :: a11 :: a12 :: a13 :: a14 :: a15 :: a16 :: a17 :: a18 :: a19 :: a20 :: a21 :: a22 :: some v :: env) S Q E = Q v S := propext ⟨fun ⟨_, e, h⟩ => by cases e; exact h, fun h => ⟨v, rfl, h⟩⟩
theorem wT_v23 {T : Tb} {a0 a1 a2 a3 a4 a5 a6 a7 a8 a9 a10 a11 a12 a13 a14 a15 a16 a17 a18 a19 a20 a21 a22 : Option Val} {v : Val} {env : Ev} {S : Store} {Q : Bool → Store → Prop} {E : Exn → Store → Prop} : wT T (.var 23) (a0 :: a1 :: a2 :: a3 :: a4 :: a5 :: a6 :: a7 :: a8 :: a9 :: a10 :: a11 :: a12 :: a13 :: a14 :: a15 :: a16 :: a17 :: a18 :: a19 :: a20 :: a21 :: a22 :: some v :: env) S Q E = tru v S (fun t => Q t S) := propext ⟨fun ⟨_, e, h⟩ => by cases e; exact h, fun h => ⟨v, rfl, h⟩⟩
theorem tgt_23 {a0 a1 a2 a3 a4 a5 a6 a7 a8 a9 a10 a11 a12 a13 a14 a15 a16 a17 a18 a19 a20 a21 a22 : Option Val} {x : Option Val} {v : Val} {env : Ev} {P : Ev → Prop} : tgt (.nm 23) v (a0 :: a1 :: a2 :: a3 :: a4 :: a5 :: a6 :: a7 :: a8 :: a9 :: a10 :: a11 :: a12 :: a13 :: a14 :: a15 :: a16 :: a17 :: a18 :: a19 :: a20 :: a21 :: a22 :: x :: env) P = P (a0 :: a1 :: a2 :: a3 :: a4 :: a5 :: a6 :: a7 :: a8 :: a9 :: a10 :: a11 :: a12 :: a13 :: a14 :: a15 :: a16 :: a17 :: a18 :: a19 :: a20 :: a21 :: a22 :: some v :: env) := rfl
theorem exI_23 {fn : Nat → Spec} {mt : Nat → Nat → Option Nat} {mkr : Nat → Option Nat} {fl : Nat → Nat → Bool} {isc exm : Nat → Nat → Option Bool} {a0 a1 a2 a3 a4 a5 a6 a7 a8 a9 a10 a11 a12 a13 a14 a15 a16 a17 a18 a19 a20 a21 a22 : Option Val} {a : Addr} {env : Ev} {S : Store} {cs : List Nat} {Q : QV} {E : Exn → Store → Prop} {d : Nat} {fs : List (Nat × Val)} : wE ⟨fn, mt, mkr, fl, isc, exm, some (a, d, fs)⟩ (.exis 23 cs) (a0 :: a1 :: a2 :: a3 :: a4 :: a5 :: a6 :: a7 :: a8 :: a9 :: a10 :: a11 :: a12 :: a13 :: a14 :: a15 :: a16 :: a17 :: a18 :: a19 :: a20 :: a21 :: a22 :: some (.exc a) :: env) S Q E = (9 ≤ d ∧ ∃ b, isAny (isc d) cs = some b ∧ Q (.bl b) S) := propext ⟨fun ⟨_, _, _, e, ⟨h, h9⟩, b, hb, q⟩ => by cases e; cases h; exact ⟨h9, b, hb, q⟩, fun ⟨h9, b, hb, q⟩ => ⟨a, d, fs, rfl, ⟨rfl, h9⟩, b, hb, q⟩⟩
theorem exT_23 {fn : Nat → Spec} {mt : Nat → Nat → Option Nat} {mkr : Nat → Option Nat} {fl : Nat → Nat → Bool} {isc exm : Nat → Nat → Option Bool} {a0 a1 a2 a3 a4 a5 a6 a7 a8 a9 a10 a11 a12 a13 a14 a15 a16 a17 a18 a19 a20 a21 a22 : Option Val} {a : Addr} {env : Ev} {S : Store} {cs : List Nat} {Q : Bool → Store → Prop} {E : Exn → Store → Prop} {d : Nat} {fs : List (Nat × Val)} : wT ⟨fn, mt, mkr, fl, isc, exm, some (a, d, fs)⟩ (.exis 23 cs) (a0 :: a1 :: a2 :: a3 :: a4 :: a5 :: a6 :: a7 :: a8 :: a9 :: a10 :: a11 :: a12 :: a13 :: a14 :: a15 :: a16 :: a17 :: a18 :: a19 :: a20 :: a21 :: a22 :: some (.exc a) :: env) S Q E = (9 ≤ d ∧ ∃ b, isAny (isc d) cs = some b ∧ Q b S) := propext ⟨fun ⟨_, _, _, e, ⟨h, h9⟩, b, hb, q⟩ => by cases e; cases h; exact ⟨h9, b, hb, q⟩, fun ⟨h9, b, hb, q⟩ => ⟨a, d, fs, rfl, ⟨rfl, h9⟩, b, hb, q⟩⟩
theorem exF_23 {fn : Nat → Spec} {mt : Nat → Nat → Option Nat} {mkr : Nat → Option Nat} {fl : Nat → Nat → Bool} {isc exm : Nat → Nat → Option Bool} {a0 a1 a2 a3 a4 a5 a6 a7 a8 a9 a10 a11 a12 a13 a14 a15 a16 a17 a18 a19 a20 a21 a22 : Option Val} {a : Addr} {env : Ev} {S : Store} {f : Nat} {Q : QV} {E : Exn → Store → Prop} {d : Nat} {fs : List (Nat × Val)} : wE ⟨fn, mt, mkr, fl, isc, exm, some (a, d, fs)⟩ (.exfl 23 f) (a0 :: a1 :: a2 :: a3 :: a4 :: a5 :: a6 :: a7 :: a8 :: a9 :: a10 :: a11 :: a12 :: a13 :: a14 :: a15 :: a16 :: a17 :: a18 :: a19 :: a20 :: a21 :: a22 :: some (.exc a) :: env) S Q E = (∃ v, (9 ≤ d ∧ fl d f = true) ∧ fs.lookup f = some v ∧ Q v S) := propext ⟨fun ⟨_, _, _, v, e, ⟨h, h9⟩, hb, q⟩ => by cases e; cases h; exact ⟨v, h9, hb, q⟩, fun ⟨v, h9, hb, q⟩ => ⟨a, d, fs, v, rfl, ⟨rfl, h9⟩, hb, q⟩⟩
theorem wE_v24 {T : Tb} {a0 a1 a2 a3 a4 a5 a6 a7 a8 a9 a10 a11 a12 a13 a14 a15 a16 a17 a18 a19 a20 a21 a22 a23 : Option Val} {v : Val} {env : Ev} {S : Store} {Q : QV} {E : Exn → Store → Prop} : wE T (.var 24) (a0 :: a1 :: a2 :: a3 :: a4 :: a5 :: a6 :: a7 :: a8 :: a9 :: a10 :: a11 :: a12 :: a13 :: a14 :: a15 :: a16 :: a17 :: a18 :: a19 :: a20 :: a21 :: a22 :: a23 :: some v :: env) S Q E = Q v S := propext ⟨fun ⟨_, e, h⟩ => by cases e; exact h, fun h => ⟨v, rfl, h⟩⟩
theorem wT_v24 {T : Tb} {a0 a1 a2 a3 a4 a5 a6 a7 a8 a9 a10 a11 a12 a13 a14 a15 a16 a17 a18 a19 a20 a21 a22 a23 : Option Val} {v : Val} {env : Ev} {S : Store} {Q : Bool → Store → Prop} {E : Exn → Store → Prop} : wT T (.var 24) (a0 :: a1 :: a2 :: a3 :: a4 :: a5 :: a6 :: a7 :: a8 :: a9 :: a10 :: a11 :: a12 :: a13 :: a14 :: a15 :: a16 :: a17 :: a18 :: a19 :: a20 :: a21 :: a22 :: a23 :: some v :: env) S Q E = tru v S (fun t => Q t S) := propext ⟨fun ⟨_, e, h⟩ => by cases e; exact h, fun h => ⟨v, rfl, h⟩⟩
theorem tgt_24 {a0 a1 a2 a3 a4 a5 a6 a7 a8 a9 a10 a11 a12 a13 a14 a15 a16 a17 a18 a19 a20 a21 a22 a23 : Option Val} {x : Option Val} {v : Val} {env : Ev} {P : Ev → Prop} : tgt (.nm 24) v (a0 :: a1 :: a2 :: a3 :: a4 :: a5 :: a6 :: a7 :: a8 :: a9 :: a10 :: a11 :: a12 :: a13 :: a14 :: a15 :: a16 :: a17 :: a18 :: a19 :: a20 :: a21 :: a22 :: a23 :: x :: env) P = P (a0 :: a1 :: a2 :: a3 :: a4 :: a5 :: a6 :: a7 :: a8 :: a9 :: a10 :: a11 :: a12 :: a13 :: a14 :: a15 :: a16 :: a17 :: a18 :: a19 :: a20 :: a21 :: a22 :: a23 :: some v :: env) := rfl
theorem exI_24 {fn : Nat → Spec} {mt : Nat → Nat → Option Nat} {mkr : Nat → Option Nat} {fl : Nat → Nat → Bool} {isc exm : Nat → Nat → Option Bool} {a0 a1 a2 a3 a4 a5 a6 a7 a8 a9 a10 a11 a12 a13 a14 a15 a16 a17 a18 a19 a20 a21 a22 a23 : Option Val} {a : Addr} {env : Ev} {S : Store} {cs : List Nat} {Q : QV} {E : Exn → Store → Prop} {d : Nat} {fs : List (Nat × Val)} : wE ⟨fn, mt, mkr, fl, isc, exm, some (a, d, fs)⟩ (.exis 24 cs) (a0 :: a1 :: a2 :: a3 :: a4 :: a5 :: a6 :: a7 :: a8 :: a9 :: a10 :: a11 :: a12 :: a13 :: a14 :: a15 :: a16 :: a17 :: a18 :: a19 :: a20 :: a21 :: a22 :: a23 :: some (.exc a) :: env) S Q E = (9 ≤ d ∧ ∃ b, isAny (isc d) cs = some b ∧ Q (.bl b) S) := propext ⟨fun ⟨_, _, _, e, ⟨h, h9⟩, b, hb, q⟩ => by cases e; cases h; exact ⟨h9, b, hb, q⟩, fun ⟨h9, b, hb, q⟩ => ⟨a, d, fs, rfl, ⟨rfl, h9⟩, b, hb, q⟩⟩
theorem exT_24 {fn : Nat → Spec} {mt : Nat → Nat → Option Nat} {mkr : Nat → Option Nat} {fl : Nat → Nat → Bool} {isc exm : Nat → Nat → Option Bool} {a0 a1 a2 a3 a4 a5 a6 a7 a8 a9 a10 a11 a12 a13 a14 a15 a16 a17 a18 a19 a20 a21 a22 a23 : Option Val} {a : Addr} {env : Ev} {S : Store} {cs : List Nat} {Q : Bool → Store → Prop} {E : Exn → Store → Prop} {d : Nat} {fs : List (Nat × Val)} : wT ⟨fn, mt, mkr, fl, isc, exm, some (a, d, fs)⟩ (.exis 24 cs) (a0 :: a1 :: a2 :: a3 :: a4 :: a5 :: a6 :: a7 :: a8 :: a9 :: a10 :: a11 :: a12 :: a13 :: a14 :: a15 :: a16 :: a17 :: a18 :: a19 :: a20 :: a21 :: a22 :: a23 :: some (.exc a) :: env) S Q E = (9 ≤ d ∧ ∃ b, isAny (isc d) cs = some b ∧ Q b S) := propext ⟨fun ⟨_, _, _, e, ⟨h, h9⟩, b, hb, q⟩ => by cases e; cases h; exact ⟨h9, b, hb, q⟩, fun ⟨h9, b, hb, q⟩ => ⟨a, d, fs, rfl, ⟨rfl, h9⟩, b, hb, q⟩⟩
theorem exF_24 {fn : Nat → Spec} {mt : Nat → Nat → Option Nat} {mkr : Nat → Option Nat} {fl : Nat → Nat → Bool} {isc exm : Nat → Nat → Option Bool} {a0 a1 a2 a3 a4 a5 a6 a7 a8 a9 a10 a11 a12 a13 a14 a15 a16 a17 a18 a19 a20 a21 a22 a23 : Option Val} {a : Addr} {env : Ev} {S : Store} {f : Nat} {Q : QV} {E : Exn → Store → Prop} {d : Nat} {fs : List (Nat × Val)} : wE ⟨fn, mt, mkr, fl, isc, exm, some (a, d, fs)⟩ (.exfl 24 f) (a0 :: a1 :: a2 :: a3 :: a4 :: a5 :: a6 :: a7 :: a8 :: a9 :: a10 :: a11 :: a12 :: a13 :: a14 :: a15 :: a16 :: a17 :: a18 :: a19 :: a20 :: a21 :: a22 :: a23 :: some (.exc a) :: env) S Q E = (∃ v, (9 ≤ d ∧ fl d f = true) ∧ fs.lookup f = some v ∧ Q v S) := propext ⟨fun ⟨_, _, _, v, e, ⟨h, h9⟩, hb, q⟩ => by cases e; cases h; exact ⟨v, h9, hb, q⟩, fun ⟨v, h9, hb, q⟩ => ⟨a, d, fs, v, rfl, ⟨rfl, h9⟩, hb, q⟩⟩
theorem wE_v25 {T : Tb} {a0 a1 a2 a3 a4 a5 a6 a7 a8 a9 a10 a11 a12 a13 a14 a15 a16 a17 a18 a19 a20 a21 a22 a23 a24 : Option Val} {v : Val} {env : Ev} {S : Store} {Q : QV} {E : Exn → Store → Prop} : wE T (.var 25) (a0 :: a1 :: a2 :: a3 :: a4 :: a5 :: a6 :: a7 :: a8 :: a9 :: a10 :: a11 :: a12 :: a13 :: a14 :: a15 :: a16 :: a17 :: a18 :: a19 :: a20 :: a21 :: a22 :: a23 :: a24 :: some v :: env) S Q E = Q v S := propext ⟨fun ⟨_, e, h⟩ => by cases e; exact h, fun h => ⟨v, rfl, h⟩⟩
theorem wT_v25 {T : Tb} {a0 a1 a2 a3 a4 a5 a6 a7 a8 a9 a10 a11 a12 a13 a14 a15 a16 a17 a18 a19 a20 a21 a22 a23 a24 : Option Val} {v : Val} {env : Ev} {S : Store} {Q : Bool → Store → Prop} {E : Exn → Store → Prop} : wT T (.var 25) (a0 :: a1 :: a2 :: a3 :: a4 :: a5 :: a6 :: a7 :: a8 :: a9 :: a10 :: a11 :: a12 :: a13 :: a14 :: a15 :: a16 :: a17 :: a18 :: a19 :: a20 :: a21 :: a22 :: a23 :: a24 :: some v :: env) S Q E = tru v S (fun t => Q t S) := propext ⟨fun ⟨_, e, h⟩ => by cases e; exact h, fun h => ⟨v, rfl, h⟩⟩
theorem tgt_25 {a0 a1 a2 a3 a4 a5 a6 a7 a8 a9 a10 a11 a12 a13 a14 a15 a16 a17 a18 a19 a20 a21 a22 a23 a24 : Option Val} {x : Option Val} {v : Val} {env : Ev} {P : Ev → Prop} : tgt (.nm 25) v (a0 :: a1 :: a2 :: a3 :: a4 :: a5 :: a6 :: a7 :: a8 :: a9 :: a10 :: a11 :: a12 :: a13 :: a14 :: a15 :: a16 :: a17 :: a18 :: a19 :: a20 :: a21 :: a22 :: a23 :: a24 :: x :: env) P = P (a0 :: a1 :: a2 :: a3 :: a4 :: a5 :: a6 :: a7 :: a8 :: a9 :: a10 :: a11 :: a12 :: a13 :: a14 :: a15 :: a16 :: a17 :: a18 :: a19 :: a20 :: a21 :: a22 :: a23 :: a24 :: some v :: env) := rfl
theorem exI_25 {fn : Nat → Spec} {mt : Nat → Nat → Option Nat} {mkr : Nat → Option Nat} {fl : Nat → Nat → Bool} {isc exm : Nat → Nat → Option Bool} {a0 a1 a2 a3 a4 a5 a6 a7 a8 a9 a10 a11 a12 a13 a14 a15 a16 a17 a18 a19 a20 a21 a22 a23 a24 : Option Val} {a : Addr} {env : Ev} {S : Store} {cs : List Nat} {Q : QV} {E : Exn → Store → Prop} {d : Nat} {fs : List (Nat × Val)} : wE ⟨fn, mt, mkr, fl, isc, exm, some (a, d, fs)⟩ (.exis 25 cs) (a0 :: a1 :: a2 :: a3 :: a4 :: a5 :: a6 :: a7 :: a8 :: a9 :: a10 :: a11 :: a12 :: a13 :: a14 :: a15 :: a16 :: a17 :: a18 :: a19 :: a20 :: a21 :: a22 :: a23 :: a24 :: some (.exc a) :: env) S Q E = (9 ≤ d ∧ ∃ b, isAny (isc d) cs = some b ∧ Q (.bl b) S) := propext ⟨fun ⟨_, _, _, e, ⟨h, h9⟩, b, hb, q⟩ => by cases e; cases h; exact ⟨h9, b, hb, q⟩, fun ⟨h9, b, hb, q⟩ => ⟨a, d, fs, rfl, ⟨rfl, h9⟩, b, hb, q⟩⟩
theorem exT_25 {fn : Nat → Spec} {mt : Nat → Nat → Option Nat} {mkr : Nat → Option Nat} {fl : Nat → Nat → Bool} {isc exm : Nat → Nat → Option Bool} {a0 a1 a2 a3 a4 a5 a6 a7 a8 a9 a10 a11 a12 a13 a14 a15 a16 a17 a18 a19 a20 a21 a22 a23 a24 : Option Val} {a : Addr} {env : Ev} {S : Store} {cs : List Nat} {Q : Bool → Store → Prop} {E : Exn → Store → Prop} {d : Nat} {fs : List (Nat × Val)} : wT ⟨fn, mt, mkr, fl, isc, exm, some (a, d, fs)⟩ (.exis 25 cs) (a0 :: a1 :: a2 :: a3 :: a4 :: a5 :: a6 :: a7 :: a8 :: a9 :: a10 :: a11 :: a12 :: a13 :: a14 :: a15 :: a16 :: a17 :: a18 :: a19 :: a20 :: a21 :: a22 :: a23 :: a24 :: some (.exc a) :: env) S Q E = (9 ≤ d ∧ ∃ b, isAny (isc d) cs = some b ∧ Q b S) := propext ⟨fun ⟨_, _, _, e, ⟨h, h9⟩, b, hb, q⟩ => by cases e; cases h; exact ⟨h9, b, hb, q⟩, fun ⟨h9, b, hb, q⟩ => ⟨a, d, fs, rfl, ⟨rfl, h9⟩, b, hb, q⟩⟩
theorem exF_25 {fn : Nat → Spec} {mt : Nat → Nat → Option Nat} {mkr : Nat → Option Nat} {fl : Nat → Nat → Bool} {isc exm : Nat → Nat → Option Bool} {a0 a1 a2 a3 a4 a5 a6 a7 a8 a9 a10 a11 a12 a13 a14 a15 a16 a17 a18 a19 a20 a21 a22 a23 a24 : Option Val} {a : Addr} {env : Ev} {S : Store} {f : Nat} {Q : QV} {E : Exn → Store → Prop} {d : Nat} {fs : List (Nat × Val)} : wE ⟨fn, mt, mkr, fl, isc, exm, some (a, d, fs)⟩ (.exfl 25 f) (a0 :: a1 :: a2 :: a3 :: a4 :: a5 :: a6 :: a7 :: a8 :: a9 :: a10 :: a11 :: a12 :: a13 :: a14 :: a15 :: a16 :: a17 :: a18 :: a19 :: a20 :: a21 :: a22 :: a23 :: a24 :: some (.exc a) :: env) S Q E = (∃ v, (9 ≤ d ∧ fl d f = true) ∧ fs.lookup f = some v ∧ Q v S) := propext ⟨fun ⟨_, _, _, v, e, ⟨h, h9⟩, hb, q⟩ => by cases e; cases h; exact ⟨v, h9, hb, q⟩, fun ⟨v, h9, hb, q⟩ => ⟨a, d, fs, v, rfl, ⟨rfl, h9⟩, hb, q⟩⟩
theorem wE_v26 {T : Tb} {a0 a1 a2 a3 a4 a5 a6 a7 a8 a9 a10 a11 a12 a13 a14 a15 a16 a17 a18 a19 a20 a21 a22 a23 a24 a25 : Option Val} {v : Val} {env : Ev} {S : Store} {Q : QV} {E : Exn → Store → Prop} : wE T (.var 26) (a0 :: a1 :: a2 :: a3 :: a4 :: a5 :: a6 :: a7 :: a8 :: a9 :: a10 :: a11 :: a12 :: a13 :: a14 :: a15 :: a16 :: a17 :: a18 :: a19 :: a20 :: a21 :: a22 :: a23 :: a24 :: a25 :: some v :: env) S Q E = Q v S := propext ⟨fun ⟨_, e, h⟩ => by cases e; exact h, fun h => ⟨v, rfl, h⟩⟩
theorem wT_v26 {T : Tb} {a0 a1 a2 a3 a4 a5 a6 a7 a8 a9 a10 a11 a12 a13 a14 a15 a16 a17 a18 a19 a20 a21 a22 a23 a24 a25 : Option Val} {v : Val} {env : Ev} {S : Store} {Q : Bool → Store → Prop} {E : Exn → Store → Prop} : wT T (.var 26) (a0 :: a1 :: a2 :: a3 :: a4 :: a5 :: a6 :: a7 :: a8 :: a9 :: a10 :: a11 :: a12 :: a13 :: a14 :: a15 :: a16 :: a17 :: a18 :: a19 :: a20 :: a21 :: a22 :: a23 :: a24 :: a25 :: some v :: env) S Q E = tru v S (fun t => Q t S) := propext ⟨fun ⟨_, e, h⟩ => by cases e; exact h, fun h => ⟨v, rfl, h⟩⟩
theorem tgt_26 {a0 a1 a2 a3 a4 a5 a6 a7 a8 a9 a10 a11 a12 a13 a14 a15 a16 a17 a18 a19 a20 a21 a22 a23 a24 a25 : Option Val} {x : Option Val} {v : Val} {env : Ev} {P : Ev → Prop} : tgt (.nm 26) v (a0 :: a1 :: a2 :: a3 :: a4 :: a5 :: a6 :: a7 :: a8 :: a9 :: a10 :: a11 :: a12 :: a13 :: a14 :: a15 :: a16 :: a17 :: a18 :: a19 :: a20 :: a21 :: a22 :: a23 :: a24 :: a25 :: x :: env) P = P (a0 :: a1 :: a2 :: a3 :: a4 :: a5 :: a6 :: a7 :: a8 :: a9 :: a10 :: a11 :: a12 :: a13 :: a14 :: a15 :: a16 :: a17 :: a18 :: a19 :: a20 :: a21 :: a22 :: a23 :: a24 :: a25 :: some v :: env) := rfl
theorem exI_26 {fn : Nat → Spec} {mt : Nat → Nat → Option Nat} {mkr : Nat → Option Nat} {fl : Nat → Nat → Bool} {isc exm : Nat → Nat → Option Bool} {a0 a1 a2 a3 a4 a5 a6 a7 a8 a9 a10 a11 a12 a13 a14 a15 a16 a17 a18 a19 a20 a21 a22 a23 a24 a25 : Option Val} {a : Addr} {env : Ev} {S : Store} {cs : List Nat} {Q : QV} {E : Exn → Store → Prop} {d : Nat} {fs : List (Nat × Val)} : wE ⟨fn, mt, mkr, fl, isc, exm, some (a, d, fs)⟩ (.exis 26 cs) (a0 :: a1 :: a2 :: a3 :: a4 :: a5 :: a6 :: a7 :: a8 :: a9 :: a10 :: a11 :: a12 :: a13 :: a14 :: a15 :: a16 :: a17 :: a18 :: a19 :: a20 :: a21 :: a22 :: a23 :: a24 :: a25 :: some (.exc a) :: env) S Q E = (9 ≤ d ∧ ∃ b, isAny (isc d) cs = some b ∧ Q (.bl b) S) := propext ⟨fun ⟨_, _, _, e, ⟨h, h9⟩, b, hb, q⟩ => by cases e; cases h; exact ⟨h9, b, hb, q⟩, fun ⟨h9, b, hb, q⟩ => ⟨a, d, fs, rfl, ⟨rfl, h9⟩, b, hb, q⟩⟩
theorem exT_26 {fn : Nat → Spec} {mt : Nat → Nat → Option Nat} {mkr : Nat → Option Nat} {fl : Nat → Nat → Bool} {isc exm : Nat → Nat → Option Bool} {a0 a1 a2 a3 a4 a5 a6 a7 a8 a9 a10 a11 a12 a13 a14 a15 a16 a17 a18 a19 a20 a21 a22 a23 a24 a25 : Option Val} {a : Addr} {env : Ev} {S : Store} {cs : List Nat} {Q : Bool → Store → Prop} {E : Exn → Store → Prop} {d : Nat} {fs : List (Nat × Val)} : wT ⟨fn, mt, mkr, fl, isc, exm, some (a, d, fs)⟩ (.exis 26 cs) (a0 :: a1 :: a2 :: a3 :: a4 :: a5 :: a6 :: a7 :: a8 :: a9 :: a10 :: a11 :: a12 :: a13 :: a14 :: a15 :: a16 :: a17 :: a18 :: a19 :: a20 :: a21 :: a22 :: a23 :: a24 :: a25 :: some (.exc a) :: env) S Q E = (9 ≤ d ∧ ∃ b, isAny (isc d) cs = some b ∧ Q b S) := propext ⟨fun ⟨_, _, _, e, ⟨h, h9⟩, b, hb, q⟩ => by cases e; cases h; exact ⟨h9, b, hb, q⟩, fun ⟨h9, b, hb, q⟩ => ⟨a, d, fs, rfl, ⟨rfl, h9⟩, b, hb, q⟩⟩
theorem exF_26 {fn : Nat → Spec} {mt : Nat → Nat → Option Nat} {mkr : Nat → Option Nat} {fl : Nat → Nat → Bool} {isc exm : Nat → Nat → Option Bool} {a0 a1 a2 a3 a4 a5 a6 a7 a8 a9 a10 a11 a12 a13 a14 a15 a16 a17 a18 a19 a20 a21 a22 a23 a24 a25 : Option Val} {a : Addr} {env : Ev} {S : Store} {f : Nat} {Q : QV} {E : Exn → Store → Prop} {d : Nat} {fs : List (Nat × Val)} : wE ⟨fn, mt, mkr, fl, isc, exm, some (a, d, fs)⟩ (.exfl 26 f) (a0 :: a1 :: a2 :: a3 :: a4 :: a5 :: a6 :: a7 :: a8 :: a9 :: a10 :: a11 :: a12 :: a13 :: a14 :: a15 :: a16 :: a17 :: a18 :: a19 :: a20 :: a21 :: a22 :: a23 :: a24 :: a25 :: some (.exc a) :: env) S Q E = (∃ v, (9 ≤ d ∧ fl d f = true) ∧ fs.lookup f = some v ∧ Q v S) := propext ⟨fun ⟨_, _, _, v, e, ⟨h, h9⟩, hb, q⟩ => by cases e; cases h; exact ⟨v, h9, hb, q⟩, fun ⟨v, h9, hb, q⟩ => ⟨a, d, fs, v, rfl, ⟨rfl, h9⟩, hb, q⟩⟩
theorem wE_v27 {T : Tb} {a0 a1 a2 a3 a4 a5 a6 a7 a8 a9 a10 a11 a12 a13 a14 a15 a16 a17 a18 a19 a20 a21 a22 a23 a24 a25 a26 : Option Val} {v : Val} {env : Ev} {S : Store} {Q : QV} {E : Exn → Store → Prop} : wE T (.var 27) (a0 :: a1 :: a2 :: a3 :: a4 :: a5 :: a6 :: a7 :: a8 :: a9 :: a10 :: a11 :: a12 :: a13 :: a14 :: a15 :: a16 :: a17 :: a18 :: a19 :: a20 :: a21 :: a22 :: a23 :: a24 :: a25 :: a26 :: some v :: env) S Q E = Q v S := propext ⟨fun ⟨_, e, h⟩ => by cases e; exact h, fun h => ⟨v, rfl, h⟩⟩
theorem wT_v27 {T : Tb} {a0 a1 a2 a3 a4 a5 a6 a7 a8 a9 a10 a11 a12 a13 a14 a15 a16 a17 a18 a19 a20 a21 a22 a23 a24 a25 a26 : Option Val} {v : Val} {env : Ev} {S : Store} {Q : Bool → Store → Prop} {E : Exn → Store → Prop} : wT T (.var 27) (a0 :: a1 :: a2 :: a3 :: a4 :: a5 :: a6 :: a7 :: a8 :: a9 :: a10 :: a11 :: a12 :: a13 :: a14 :: a15 :: a16 :: a17 :: a18 :: a19 :: a20 :: a21 :: a22 :: a23 :: a24 :: a25 :: a26 :: some v :: env) S Q E = tru v S (fun t => Q t S) := propext ⟨fun ⟨_, e, h⟩ => by cases e; exact h, fun h => ⟨v, rfl, h⟩⟩
theorem tgt_27 {a0 a1 a2 a3 a4 a5 a6 a7 a8 a9 a10 a11 a12 a13 a14 a15 a16 a17 a18 a19 a20 a21 a22 a23 a24 a25 a26 : Option Val} {x : Option Val} {v : Val} {env : Ev} {P : Ev → Prop} : tgt (.nm 27) v (a0 :: a1 :: a2 :: a3 :: a4 :: a5 :: a6 :: a7 :: a8 :: a9 :: a10 :: a11 :: a12 :: a13 :: a14 :: a15 :: a16 :: a17 :: a18 :: a19 :: a20 :: a21 :: a22 :: a23 :: a24 :: a25 :: a26 :: x :: env) P = P (a0 :: a1 :: a2 :: a3 :: a4 :: a5 :: a6 :: a7 :: a8 :: a9 :: a10 :: a11 :: a12 :: a13 :: a14 :: a15 :: a16 :: a17 :: a18 :: a19 :: a20 :: a21 :: a22 :: a23 :: a24 :: a25 :: a26 :: some v :: env) := rfl
theorem exI_27 {fn : Nat → Spec} {mt : Nat → Nat → Option Nat} {mkr : Nat → Option Nat} {fl : Nat → Nat → Bool} {isc exm : Nat → Nat → Option Bool} {a0 a1 a2 a3 a4 a5 a6 a7 a8 a9 a10 a11 a12 a13 a14 a15 a16 a17 a18 a19 a20 a21 a22 a23 a24 a25 a26 : Option Val} {a : Addr} {env : Ev} {S : Store} {cs : List Nat} {Q : QV} {E : Exn → Store → Prop} {d : Nat} {fs : List (Nat × Val)} : wE ⟨fn, mt, mkr, fl, isc, exm, some (a, d, fs)⟩ (.exis 27 cs) (a0 :: a1 :: a2 :: a3 :: a4 :: a5 :: a6 :: a7 :: a8 :: a9 :: a10 :: a11 :: a12 :: a13 :: a14 :: a15 :: a16 :: a17 :: a18 :: a19 :: a20 :: a21 :: a22 :: a23 :: a24 :: a25 :: a26 :: some (.exc a) :: env) S Q E = (9 ≤ d ∧ ∃ b, isAny (isc d) cs = some b ∧ Q (.bl b) S) := propext ⟨fun ⟨_, _, _, e, ⟨h, h9⟩, b, hb, q⟩ => by cases e; cases h; exact ⟨h9, b, hb, q⟩, fun ⟨h9, b, hb, q⟩ => ⟨a, d, fs, rfl, ⟨rfl, h9⟩, b, hb, q⟩⟩
theorem exT_27 {fn : Nat → Spec} {mt : Nat → Nat → Option Nat} {mkr : Nat → Option Nat} {fl : Nat → Nat → Bool} {isc exm : Nat → Nat → Option Bool} {a0 a1 a2 a3 a4 a5 a6 a7 a8 a9 a10 a11 a12 a13 a14 a15 a16 a17 a18 a19 a20 a21 a22 a23 a24 a25 a26 : Option Val} {a : Addr} {env : Ev} {S : Store} {cs : List Nat} {Q : Bool → Store → Prop} {E : Exn → Store → Prop} {d : Nat} {fs : List (Nat × Val)} : wT ⟨fn, mt, mkr, fl, isc, exm, some (a, d, fs)⟩ (.exis 27 cs) (a0 :: a1 :: a2 :: a3 :: a4 :: a5 :: a6 :: a7 :: a8 :: a9 :: a10 :: a11 :: a12 :: a13 :: a14 :: a15 :: a16 :: a17 :: a18 :: a19 :: a20 :: a21 :: a22 :: a23 :: a24 :: a25 :: a26 :: some (.exc a) :: env) S Q E = (9 ≤ d ∧ ∃ b, isAny (isc d) cs = some b ∧ Q b S) := propext ⟨fun ⟨_, _, _, e, ⟨h, h9⟩, b, hb, q⟩ => by cases e; cases h; exact ⟨h9, b, hb, q⟩, fun ⟨h9, b, hb, q⟩ => ⟨a, d, fs, rfl, ⟨rfl, h9⟩, b, hb, q⟩⟩
theorem exF_27 {fn : Nat → Spec} {mt : Nat → Nat → Option Nat} {mkr : Nat → Option Nat} {fl : Nat → Nat → Bool} {isc exm : Nat → Nat → Option Bool} {a0 a1 a2 a3 a4 a5 a6 a7 a8 a9 a10 a11 a12 a13 a14 a15 a16 a17 a18 a19 a20 a21 a22 a23 a24 a25 a26 : Option Val} {a : Addr} {env : Ev} {S : Store} {f : Nat} {Q : QV} {E : Exn → Store → Prop} {d : Nat} {fs : List (Nat × Val)} : wE ⟨fn, mt, mkr, fl, isc, exm, some (a, d, fs)⟩ (.exfl 27 f) (a0 :: a1 :: a2 :: a3 :: a4 :: a5 :: a6 :: a7 :: a8 :: a9 :: a10 :: a11 :: a12 :: a13 :: a14 :: a15 :: a16 :: a17 :: a18 :: a19 :: a20 :: a21 :: a22 :: a23 :: a24 :: a25 :: a26 :: some (.exc a) :: env) S Q E = (∃ v, (9 ≤ d ∧ fl d f = true) ∧ fs.lookup f = some v ∧ Q v S) := propext ⟨fun ⟨_, _, _, v, e, ⟨h, h9⟩, hb, q⟩ => by cases e; cases h; exact ⟨v, h9, hb, q⟩, fun ⟨v, h9, hb, q⟩ => ⟨a, d, fs, v, rfl, ⟨rfl, h9⟩, hb, q⟩⟩
theorem wE_v28 {T : Tb} {a0 a1 a2 a3 a4 a5 a6 a7 a8 a9 a10 a11 a12 a13 a14 a15 a16 a17 a18 a19 a20 a21 a22 a23 a24 a25 a26 a27 : Option Val} {v : Val} {env : Ev} {S : Store} {Q : QV} {E : Exn → Store → Prop} : wE T (.var 28) (a0 :: a1 :: a2 :: a3 :: a4 :: a5 :: a6 :: a7 :: a8 :: a9 :: a10 :: a11 :: a12 :: a13 :: a14 :: a15 :: a16 :: a17 :: a18 :: a19 :: a20 :: a21 :: a22 :: a23 :: a24 :: a25 :: a26 :: a27 :: some v :: env) S Q E = Q v S := propext ⟨fun ⟨_, e, h⟩ => by cases e; exact h, fun h => ⟨v, rfl, h⟩⟩
theorem wT_v28 {T : Tb} {a0 a1 a2 a3 a4 a5 a6 a7 a8 a9 a10 a11 a12 a13 a14 a15 a16 a17 a18 a19 a20 a21 a22 a23 a24 a25 a26 a27 : Option Val} {v : Val} {env : Ev} {S : Store} {Q : Bool → Store → Prop} {E : Exn → Store → Prop} : wT T (.var 28) (a0 :: a1 :: a2 :: a3 :: a4 :: a5 :: a6 :: a7 :: a8 :: a9 :: a10 :: a11 :: a12 :: a13 :: a14 :: a15 :: a16 :: a17 :: a18 :: a19 :: a20 :: a21 :: a22 :: a23 :: a24 :: a25 :: a26 :: a27 :: some v :: env) S Q E = tru v S (fun t => Q t S) := propext ⟨fun ⟨_, e, h⟩ => by cases e; exact h, fun h => ⟨v, rfl, h⟩⟩
theorem tgt_28 {a0 a1 a2 a3 a4 a5 a6 a7 a8 a9 a10 a11 a12 a13 a14 a15 a16 a17 a18 a19 a20 a21 a22 a23 a24 a25 a26 a27 : Option Val} {x : Option Val} {v : Val} {env : Ev} {P : Ev → Prop} : tgt (.nm 28) v (a0 :: a1 :: a2 :: a3 :: a4 :: a5 :: a6 :: a7 :: a8 :: a9 :: a10 :: a11 :: a12 :: a13 :: a14 :: a15 :: a16 :: a17 :: a18 :: a19 :: a20 :: a21 :: a22 :: a23 :: a24 :: a25 :: a26 :: a27 :: x :: env) P = P (a0 :: a1 :: a2 :: a3 :: a4 :: a5 :: a6 :: a7 :: a8 :: a9 :: a10 :: a11 :: a12 :: a13 :: a14 :: a15 :: a16 :: a17 :: a18 :: a19 :: a20 :: a21 :: a22 :: a23 :: a24 :: a25 :: a26 :: a27 :: some v :: env) := rfl
theorem exI_28 {fn : Nat → Spec} {mt : Nat → Nat → Option Nat} {mkr : Nat → Option Nat} {fl : Nat → Nat → Bool} {isc exm : Nat → Nat → Option Bool} {a0 a1 a2 a3 a4 a5 a6 a7 a8 a9 a10 a11 a12 a13 a14 a15 a16 a17 a18 a19 a20 a21 a22 a23 a24 a25 a26 a27 : Option Val} {a : Addr} {env : Ev} {S : Store} {cs : List Nat} {Q : QV} {E : Exn → Store → Prop} {d : Nat} {fs : List (Nat × Val)} : wE ⟨fn, mt, mkr, fl, isc, exm, some (a, d, fs)⟩ (.exis 28 cs) (a0 :: a1 :: a2 :: a3 :: a4 :: a5 :: a6 :: a7 :: a8 :: a9 :: a10 :: a11 :: a12 :: a13 :: a14 :: a15 :: a16 :: a17 :: a18 :: a19 :: a20 :: a21 :: a22 :: a23 :: a24 :: a25 :: a26 :: a27 :: some (.exc a) :: env) S Q E = (9 ≤ d ∧ ∃ b, isAny (isc d) cs = some b ∧ Q (.bl b) S) := propext ⟨fun ⟨_, _, _, e, ⟨h, h9⟩, b, hb, q⟩ => by cases e; cases h; exact ⟨h9, b, hb, q⟩, fun ⟨h9, b, hb, q⟩ => ⟨a, d, fs, rfl, ⟨rfl, h9⟩, b, hb, q⟩⟩
theorem exT_28 {fn : Nat → Spec} {mt : Nat → Nat → Option Nat} {mkr : Nat → Option Nat} {fl : Nat → Nat → Bool} {isc exm : Nat → Nat → Option Bool} {a0 a1 a2 a3 a4 a5 a6 a7 a8 a9 a10 a11 a12 a13 a14 a15 a16 a17 a18 a19 a20 a21 a22 a23 a24 a25 a26 a27 : Option Val} {a : Addr} {env : Ev} {S : Store} {cs : List Nat} {Q : Bool → Store → Prop} {E : Exn → Store → Prop} {d : Nat} {fs : List (Nat × Val)} : wT ⟨fn, mt, mkr, fl, isc, exm, some (a, d, fs)⟩ (.exis 28 cs) (a0 :: a1 :: a2 :: a3 :: a4 :: a5 :: a6 :: a7 :: a8 :: a9 :: a10 :: a11 :: a12 :: a13 :: a14 :: a15 :: a16 :: a17 :: a18 :: a19 :: a20 :: a21 :: a22 :: a23 :: a24 :: a25 :: a26 :: a27 :: some (.exc a) :: env) S Q E = (9 ≤ d ∧ ∃ b, isAny (isc d) cs = some b ∧ Q b S) := propext ⟨fun ⟨_, _, _, e, ⟨h, h9⟩, b, hb, q⟩ => by cases e; cases h; exact ⟨h9, b, hb, q⟩, fun ⟨h9, b, hb, q⟩ => ⟨a, d, fs, rfl, ⟨rfl, h9⟩, b, hb, q⟩⟩
theorem exF_28 {fn : Nat → Spec} {mt : Nat → Nat → Option Nat} {mkr : Nat → Option Nat} {fl : Nat → Nat → Bool} {isc exm : Nat → Nat → Option Bool} {a0 a1 a2 a3 a4 a5 a6 a7 a8 a9 a10 a11 a12 a13 a14 a15 a16 a17 a18 a19 a20 a21 a22 a23 a24 a25 a26 a27 : Option Val} {a : Addr} {env : Ev} {S : Store} {f : Nat} {Q : QV} {E : Exn → Store → Prop} {d : Nat} {fs : List (Nat × Val)} : wE ⟨fn, mt, mkr, fl, isc, exm, some (a, d, fs)⟩ (.exfl 28 f) (a0 :: a1 :: a2 :: a3 :: a4 :: a5 :: a6 :: a7 :: a8 :: a9 :: a10 :: a11 :: a12 :: a13 :: a14 :: a15 :: a16 :: a17 :: a18 :: a19 :: a20 :: a21 :: a22 :: a23 :: a24 :: a25 :: a26 :: a27 :: some (.exc a) :: env) S Q E = (∃ v, (9 ≤ d ∧ fl d f = true) ∧ fs.lookup f = some v ∧ Q v S) := propext ⟨fun ⟨_, _, _, v, e, ⟨h, h9⟩, hb, q⟩ => by cases e; cases h; exact ⟨v, h9, hb, q⟩, fun ⟨v, h9, hb, q⟩ => ⟨a, d, fs, v, rfl, ⟨rfl, h9⟩, hb, q⟩⟩
theorem wE_v29 {T : Tb} {a0 a1 a2 a3 a4 a5 a6 a7 a8 a9 a10 a11 a12 a13 a14 a15 a16 a17 a18 a19 a20 a21 a22 a23 a24 a25 a26 a27 a28 : Option Val} {v : Val} {env : Ev} {S : Store} {Q : QV} {E : Exn → Store → Prop} : wE T (.var 29) (a0 :: a1 :: a2 :: a3 :: a4 :: a5 :: a6 :: a7 :: a8 :: a9 :: a10 :: a11 :: a12 :: a13 :: a14 :: a15 :: a16 :: a17 :: a18 :: a19 :: a20 :: a21 :: a22 :: a23 :: a24 :: a25 :: a26 :: a27 :: a28 :: some v :: env) S Q E = Q v S := propext ⟨fun ⟨_, e, h⟩ => by cases e; exact h, fun h => ⟨v, rfl, h⟩⟩
theorem wT_v29 {T : Tb} {a0 a1 a2 a3 a4 a5 a6 a7 a8 a9 a10 a11 a12 a13 a14 a15 a16 a17 a18 a19 a20 a21 a22 a23 a24 a25 a26 a27 a28 : Option Val} {v : Val} {env : Ev} {S : Store} {Q : Bool → Store → Prop} {E : Exn → Store → Prop} : wT T (.var 29) (a0 :: a1 :: a2 :: a3 :: a4 :: a5 :: a6 :: a7 :: a8 :: a9 :: a10 :: a11 :: a12 :: a13 :: a14 :: a15 :: a16 :: a17 :: a18 :: a19 :: a20 :: a21 :: a22 :: a23 :: a24 :: a25 :: a26 :: a27 :: a28 :: some v :: env) S Q E = tru v S (fun t => Q t S) := propext ⟨fun ⟨_, e, h⟩ => by cases e; exact h, fun h => ⟨v, rfl, h⟩⟩
theorem tgt_29 {a0 a1 a2 a3 a4 a5 a6 a7 a8 a9 a10 a11 a12 a13 a14 a15 a16 a17 a18 a19 a20 a21 a22 a23 a24 a25 a26 a27 a28 : Option Val} {x : Option Val} {v : Val} {env : Ev} {P : Ev → Prop} : tgt (.nm 29) v (a0 :: a1 :: a2 :: a3 :: a4 :: a5 :: a6 :: a7 :: a8 :: a9 :: a10 :: a11 :: a12 :: a13 :: a14 :: a15 :: a16 :: a17 :: a18 :: a19 :: a20 :: a21 :: a22 :: a23 :: a24 :: a25 :: a26 :: a27 :: a28 :: x :: env) P = P (a0 :: a1 :: a2 :: a3 :: a4 :: a5 :: a6 :: a7 :: a8 :: a9 :: a10 :: a11 :: a12 :: a13 :: a14 :: a15 :: a16 :: a17 :: a18 :: a19 :: a20 :: a21 :: a22 :: a23 :: a24 :: a25 :: a26 :: a27 :: a28 :: some v :: env) := rfl
theorem exI_29 {fn : Nat → Spec} {mt : Nat → Nat → Option Nat} {mkr : Nat → Option Nat} {fl : Nat → Nat → Bool} {isc exm : Nat → Nat → Option Bool} {a0 a1 a2 a3 a4 a5 a6 a7 a8 a9 a10 a11 a12 a13 a14 a15 a16 a17 a18 a19 a20 a21 a22 a23 a24 a25 a26 a27 a28 : Option Val} {a : Addr} {env : Ev} {S : Store} {cs : List Nat} {Q : QV} {E : Exn → Store → Prop} {d : Nat} {fs : List (Nat × Val)} : wE ⟨fn, mt, mkr, fl, isc, exm, some (a, d, fs)⟩ (.exis 29 cs) (a0 :: a1 :: a2 :: a3 :: a4 :: a5 :: a6 :: a7 :: a8 :: a9 :: a10 :: a11 :: a12 :: a13 :: a14 :: a15 :: a16 :: a17 :: a18 :: a19 :: a20 :: a21 :: a22 :: a23 :: a24 :: a25 :: a26 :: a27 :: a28 :: some (.exc a) :: env) S Q E = (9 ≤ d ∧ ∃ b, isAny (isc d) cs = some b ∧ Q (.bl b) S) := propext ⟨fun ⟨_, _, _, e, ⟨h, h9⟩, b, hb, q⟩ => by cases e; cases h; exact ⟨h9, b, hb, q⟩, fun ⟨h9, b, hb, q⟩ => ⟨a, d, fs, rfl, ⟨rfl, h9⟩, b, hb, q⟩⟩
theorem exT_29 {fn : Nat → Spec} {mt : Nat → Nat → Option Nat} {mkr : Nat → Option Nat} {fl : Nat → Nat → Bool} {isc exm : Nat → Nat → Option Bool} {a0 a1 a2 a3 a4 a5 a6 a7 a8 a9 a10 a11 a12 a13 a14 a15 a16 a17 a18 a19 a20 a21 a22 a23 a24 a25 a26 a27 a28 : Option Val} {a : Addr} {env : Ev} {S : Store} {cs : List Nat} {Q : Bool → Store → Prop} {E : Exn → Store → Prop} {d : Nat} {fs : List (Nat × Val)} : wT ⟨fn, mt, mkr, fl, isc, exm, some (a, d, fs)⟩ (.exis 29 cs) (a0 :: a1 :: a2 :: a3 :: a4 :: a5 :: a6 :: a7 :: a8 :: a9 :: a10 :: a11 :: a12 :: a13 :: a14 :: a15 :: a16 :: a17 :: a18 :: a19 :: a20 :: a21 :: a22 :: a23 :: a24 :: a25 :: a26 :: a27 :: a28 :: some (.exc a) :: env) S Q E = (9 ≤ d ∧ ∃ b, isAny (isc d) cs = some b ∧ Q b S) := propext ⟨fun ⟨_, _, _, e, ⟨h, h9⟩, b, hb, q⟩ => by cases e; cases h; exact ⟨h9, b, hb, q⟩, fun ⟨h9, b, hb, q⟩ => ⟨a, d, fs, rfl, ⟨rfl, h9⟩, b, hb, q⟩⟩
theorem exF_29 {fn : Nat → Spec} {mt : Nat → Nat → Option Nat} {mkr : Nat → Option Nat} {fl : Nat → Nat → Bool} {isc exm : Nat → Nat → Option Bool} {a0 a1 a2 a3 a4 a5 a6 a7 a8 a9 a10 a11 a12 a13 a14 a15 a16 a17 a18 a19 a20 a21 a22 a23 a24 a25 a26 a27 a28 : Option Val} {a : Addr} {env : Ev} {S : Store} {f : Nat} {Q : QV} {E : Exn → Store → Prop} {d : Nat} {fs : List (Nat × Val)} : wE ⟨fn, mt, mkr, fl, isc, exm, some (a, d, fs)⟩ (.exfl 29 f) (a0 :: a1 :: a2 :: a3 :: a4 :: a5 :: a6 :: a7 :: a8 :: a9 :: a10 :: a11 :: a12 :: a13 :: a14 :: a15 :: a16 :: a17 :: a18 :: a19 :: a20 :: a21 :: a22 :: a23 :: a24 :: a25 :: a26 :: a27 :: a28 :: some (.exc a) :: env) S Q E = (∃ v, (9 ≤ d ∧ fl d f = true) ∧ fs.lookup f = some v ∧ Q v S) := propext ⟨fun ⟨_, _, _, v, e, ⟨h, h9⟩, hb, q⟩ => by cases e; cases h; exact ⟨v, h9, hb, q⟩, fun ⟨v, h9, hb, q⟩ => ⟨a, d, fs, v, rfl, ⟨rfl, h9⟩, hb, q⟩⟩
theorem tgt_tn {env : Ev} {P : Ev → Prop} : tgt (.tp []) (.tup []) env P = P env := propext ⟨fun h => h.2, fun h => ⟨rfl, h⟩⟩
theorem tgt_tc {i : Nat} {is : List Nat} {x : Val} {l : List Val} {env : Ev} {P : Ev → Prop} : tgt (.tp (i :: is)) (.tup (x :: l)) env P = tgt (.nm i) x env fun e => tgt (.tp is) (.tup l) e P := propext ⟨fun h => ⟨Nat.succ.inj h.1, h.2⟩, fun h => ⟨congrArg (· + 1) h.1, h.2⟩⟩
theorem wS_parL {T : Tb} {i j : Nat} {a b : Ex} {env : Ev} {S : Store} {D : Post} : wS T (.par i j a b) env S D = (wE T a env S (fun x S1 => wE T b env S1 (fun y S2 => tgt (.nm i) x env fun e => tgt (.nm j) y e fun e => D.nx e S2) fun x S' => D.ex x env S') fun x S' => D.ex x env S') := rfl
theorem wE_call0 {T : Tb} {f : Nat} {as : Ex} {env : Ev} {S : Store} {Q : QV} {E : Exn → Store → Prop} : wE T (.call f as []) env S Q E = wA T as env S (fun vs S1 => wCall T f vs S1 Q E) E := by
  rw [wE_call]; simp only [List.append_nil]
theorem wT_call0 {T : Tb} {f : Nat} {as : Ex} {env : Ev} {S : Store} {Q : Bool → Store → Prop} {E : Exn → Store → Prop} : wT T (.call f as []) env S Q E = wA T as env S (fun vs S1 => wCall T f vs S1 (fun v S2 => tru v S2 fun t => Q t S2) E) E := by
  rw [wT_call]; simp only [List.append_nil]
/-- a known value; a value of a known shape -/
def RSpec.puV (S : Store) (p : Prop) (v0 : Val) : RSpec := ⟨p, fun v S' => v = v0 ∧ S' = S, fun _ _ => False⟩
def RSpec.puE {α : Type} (S : Store) (p : Prop) (g : α → Val) (r : α → Prop) : RSpec := ⟨p, fun v S' => ∃ a, v = g a ∧ r a ∧ S' = S, fun _ _ => False⟩
section
variable {T : Tb} {f : Nat} {vs : List Val} {S S' : Store} {Q : QV} {E : Exn → Store → Prop} {p : Prop} {v0 v : Val} {α : Type} {g : α → Val} {r : α → Prop} {x : Exn}
theorem wCall_puV (h : T.fn f vs S = .puV S p v0) : wCall T f vs S Q E = (p ∧ Q v0 S) := propext ⟨fun ⟨a, b, _⟩ => by rw [h] at a b; exact ⟨a, b v0 S ⟨rfl, rfl⟩⟩, fun ⟨a, b⟩ => by unfold wCall; rw [h]; exact ⟨a, fun v S' ⟨e, e2⟩ => by rw [e, e2]; exact b, fun _ _ z => z.elim⟩⟩
theorem wCall_puE (h : T.fn f vs S = .puE S p g r) : wCall T f vs S Q E = (p ∧ ∀ a, r a → Q (g a) S) := propext ⟨fun ⟨a, b, _⟩ => by rw [h] at a b; exact ⟨a, fun z hz => b (g z) S ⟨z, rfl, hz, rfl⟩⟩, fun ⟨a, b⟩ => by unfold wCall; rw [h]; exact ⟨a, fun v S' ⟨z, e, hz, e2⟩ => by rw [e, e2]; exact b z hz, fun _ _ z => z.elim⟩⟩
theorem puV_pre : (RSpec.puV S p v0).pre = p := rfl
theorem puE_pre : (RSpec.puE S p g r).pre = p := rfl
theorem finV_rt : (fin (.puV S p v0)).rt v S' = (v = v0 ∧ Sub S S') := propext ⟨fun ⟨_, a, b, c⟩ => ⟨b, c ▸ a⟩, fun ⟨b, a⟩ => ⟨S, a, b, rfl⟩⟩
theorem finE_rt : (fin (.puE S p g r)).rt v S' = ((∃ a, v = g a ∧ r a) ∧ Sub S S') := propext ⟨fun ⟨_, a, z, b, c, d⟩ => ⟨⟨z, b, c⟩, d ▸ a⟩, fun ⟨⟨z, b, c⟩, a⟩ => ⟨S, a, z, b, c, rfl⟩⟩
theorem finV_nx {e : Ev} : (fin (.puV S p v0)).nx e S' = (.non = v0 ∧ Sub S S') := propext ⟨fun ⟨_, a, b, c⟩ => ⟨b, c ▸ a⟩, fun ⟨b, a⟩ => ⟨S, a, b, rfl⟩⟩
theorem finV_ex {e : Ev} : (fin (.puV S p v0)).ex x e S' = False := propext ⟨fun ⟨_, _, h⟩ => h, fun h => h.elim⟩
theorem finE_ex {e : Ev} : (fin (.puE S p g r)).ex x e S' = False := propext ⟨fun ⟨_, _, h⟩ => h, fun h => h.elim⟩
theorem sub_refl_iff : Sub S S ↔ True := ⟨fun _ => trivial, fun _ => Sub.refl⟩
end

theorem ob_add {S : Store} {Q : QV} {i j : Int} : opB .add (.int i) (.int j) S Q = (Q (.int (i + j)) S) := rfl
theorem ob_adds {S : Store} {Q : QV} {x y : Str} : opB .add (.str x) (.str y) S Q = (x.length + y.length ≤ LIM ∧ Q (.str (x ++ y)) S) := rfl
theorem ob_addt {S : Store} {Q : QV} {a b : List Val} : opB .add (.tup a) (.tup b) S Q = (a.length + b.length ≤ LIM ∧ Q (.tup (a ++ b)) S) := rfl
theorem ob_addl {S : Store} {Q : QV} {a b : List Val} : opB .add (.sl a) (.sl b) S Q = (a.length + b.length ≤ LIM ∧ Q (.sl (a ++ b)) S) := rfl
theorem ob_addrl {S : Store} {Q : QV} {p : Addr} {b : List Val} : opB .add (.ref p) (.sl b) S Q = (getL S (.ref p) fun l => l.length + b.length ≤ LIM ∧ Q (.sl (l ++ b)) S) := rfl
theorem ob_addlr {S : Store} {Q : QV} {p : Addr} {b : List Val} : opB .add (.sl b) (.ref p) S Q = (getL S (.ref p) fun l => b.length + l.length ≤ LIM ∧ Q (.sl (b ++ l)) S) := rfl
theorem ob_addrr {S : Store} {Q : QV} {p q : Addr} : opB .add (.ref p) (.ref q) S Q = (getL S (.ref p) fun l => getL S (.ref q) fun m => l.length + m.length ≤ LIM ∧ Q (.sl (l ++ m)) S) := rfl
theorem ob_addM {S : Store} {Q : QV} {x y : Val} : opB .addM x y S Q = (getL S x fun l => getL S y fun m => l.length + m.length ≤ LIM ∧ ∀ p, S p = none → Q (.ref p) (put S p (.lst (l ++ m)))) := rfl
theorem ob_sub {S : Store} {Q : QV} {i j : Int} : opB .sub (.int i) (.int j) S Q = (Q (.int (i - j)) S) := rfl
theorem ob_mul {S : Store} {Q : QV} {i j : Int} : opB .mul (.int i) (.int j) S Q = (MulOk i j ∧ Q (.int (i * j)) S) := rfl
theorem ob_mull {S : Store} {Q : QV} {a : List Val} {j : Int} : opB .mul (.sl a) (.int j) S Q = ((j < 2 ^ 63 ∧ -(2 ^ 63) ≤ j ∧ a.length * j.toNat ≤ LIM) ∧ Q (.sl (List.replicate j.toNat a).flatten) S) := rfl
theorem ob_mulM {S : Store} {Q : QV} {x : Val} {j : Int} : opB .mulM x (.int j) S Q = (getL S x fun l => (j < 2 ^ 63 ∧ -(2 ^ 63) ≤ j ∧ l.length * j.toNat ≤ LIM) ∧ ∀ p, S p = none → Q (.ref p) (put S p (.lst (List.replicate j.toNat l).flatten))) := rfl
theorem ob_fdiv {S : Store} {Q : QV} {i j : Int} : opB .fdiv (.int i) (.int j) S Q = (DivOk i j ∧ Q (.int (i.fdiv j)) S) := rfl
theorem ob_mod {S : Store} {Q : QV} {i j : Int} : opB .mod (.int i) (.int j) S Q = (j ≠ 0 ∧ Q (.int (i.fmod j)) S) := rfl
theorem ob_pow {S : Store} {Q : QV} {i j : Int} : opB .pow (.int i) (.int j) S Q = ((0 ≤ j ∧ j ≤ 1000 ∧ i.natAbs < 2 ^ 64) ∧ Q (.int (i ^ j.toNat)) S) := rfl
theorem oi_abs {S : Store} {Q : QV} {i : Int} : opBi .abs [.int i] S Q = (Q (.int (if i < 0 then -i else i)) S) := rfl
theorem oi_lent {S : Store} {Q : QV} {l : List Val} : opBi .len [.tup l] S Q = (Q (.int l.length) S) := rfl
theorem oi_lens {S : Store} {Q : QV} {z : Str} : opBi .len [.str z] S Q = (z.length ≤ LIM ∧ Q (.int z.length) S) := rfl
theorem oi_lenr {S : Store} {Q : QV} {p : Addr} : opBi .len [.ref p] S Q = (getL S (.ref p) fun l => Q (.int l.length) S) := rfl
theorem oi_sortedr {S : Store} {Q : QV} {p : Addr} : opBi .sorted [.ref p] S Q = (getL S (.ref p) fun l => intsOf l fun ns => ∀ (ns' : List Int), ns'.Perm ns → ns'.Pairwise (· ≤ ·) → Q (.sl (ns'.map .int)) S) := rfl
theorem oi_sortedMr {S : Store} {Q : QV} {p : Addr} : opBi .sortedM [.ref p] S Q = (getL S (.ref p) fun l => intsOf l fun ns => ∀ (ns' : List Int) (p : Addr), ns'.Perm ns → ns'.Pairwise (· ≤ ·) → S p = none → Q (.ref p) (put S p (.lst (ns'.map .int)))) := rfl
theorem oi_tupler {S : Store} {Q : QV} {p : Addr} : opBi .tuple [.ref p] S Q = (getL S (.ref p) fun l => Q (.tup l) S) := rfl
theorem oi_listr {S : Store} {Q : QV} {p : Addr} : opBi .list [.ref p] S Q = (getL S (.ref p) fun l => Q (.sl l) S) := rfl
theorem oi_listMr {S : Store} {Q : QV} {p : Addr} : opBi .listM [.ref p] S Q = (getL S (.ref p) fun l => ∀ p, S p = none → Q (.ref p) (put S p (.lst l))) := rfl
theorem oi_sumr {S : Store} {Q : QV} {p : Addr} : opBi .sum [.ref p] S Q = (getL S (.ref p) fun l => intsOf l fun ns => Q (.int ns.sum) S) := rfl
theorem oi_anyr {S : Store} {Q : QV} {p : Addr} : opBi .any [.ref p] S Q = (getL S (.ref p) fun l => ∃ bs : List Bool, l = bs.map .bl ∧ Q (.bl (bs.any id)) S) := rfl
theorem oi_allr {S : Store} {Q : QV} {p : Addr} : opBi .all [.ref p] S Q = (getL S (.ref p) fun l => ∃ bs : List Bool, l = bs.map .bl ∧ Q (.bl (bs.all id)) S) := rfl
theorem oi_mxr {S : Store} {Q : QV} {p : Addr} : opBi .max1 [.ref p] S Q = (getL S (.ref p) fun l => intsOf l fun ns => 0 < ns.length ∧ ∀ m, m ∈ ns → (∀ k ∈ ns, k ≤ m) → Q (.int m) S) := rfl
theorem oi_mnr {S : Store} {Q : QV} {p : Addr} : opBi .min1 [.ref p] S Q = (getL S (.ref p) fun l => intsOf l fun ns => 0 < ns.length ∧ ∀ m, m ∈ ns → (∀ k ∈ ns, m ≤ k) → Q (.int m) S) := rfl
theorem oi_lenl {S : Store} {Q : QV} {l : List Val} : opBi .len [.sl l] S Q = (Q (.int l.length) S) := rfl
theorem oi_sortedl {S : Store} {Q : QV} {l : List Val} : opBi .sorted [.sl l] S Q = (intsOf l fun ns => ∀ (ns' : List Int), ns'.Perm ns → ns'.Pairwise (· ≤ ·) → Q (.sl (ns'.map .int)) S) := rfl
theorem oi_sortedMl {S : Store} {Q : QV} {l : List Val} : opBi .sortedM [.sl l] S Q = (intsOf l fun ns => ∀ (ns' : List Int) (p : Addr), ns'.Perm ns → ns'.Pairwise (· ≤ ·) → S p = none → Q (.ref p) (put S p (.lst (ns'.map .int)))) := rfl
theorem oi_tuplel {S : Store} {Q : QV} {l : List Val} : opBi .tuple [.sl l] S Q = (Q (.tup l) S) := rfl
theorem oi_listl {S : Store} {Q : QV} {l : List Val} : opBi .list [.sl l] S Q = (Q (.sl l) S) := rfl
theorem oi_listMl {S : Store} {Q : QV} {l : List Val} : opBi .listM [.sl l] S Q = (∀ p, S p = none → Q (.ref p) (put S p (.lst l))) := rfl
theorem oi_suml {S : Store} {Q : QV} {l : List Val} : opBi .sum [.sl l] S Q = (intsOf l fun ns => Q (.int ns.sum) S) := rfl
theorem oi_anyl {S : Store} {Q : QV} {l : List Val} : opBi .any [.sl l] S Q = (∃ bs : List Bool, l = bs.map .bl ∧ Q (.bl (bs.any id)) S) := rfl
theorem oi_alll {S : Store} {Q : QV} {l : List Val} : opBi .all [.sl l] S Q = (∃ bs : List Bool, l = bs.map .bl ∧ Q (.bl (bs.all id)) S) := rfl
theorem oi_mxl {S : Store} {Q : QV} {l : List Val} : opBi .max1 [.sl l] S Q = (intsOf l fun ns => 0 < ns.length ∧ ∀ m, m ∈ ns → (∀ k ∈ ns, k ≤ m) → Q (.int m) S) := rfl
theorem oi_mnl {S : Store} {Q : QV} {l : List Val} : opBi .min1 [.sl l] S Q = (intsOf l fun ns => 0 < ns.length ∧ ∀ m, m ∈ ns → (∀ k ∈ ns, m ≤ k) → Q (.int m) S) := rfl
theorem oi_mxt {S : Store} {Q : QV} {l : List Val} : opBi .max1 [.tup l] S Q = (intsOf l fun ns => 0 < ns.length ∧ ∀ m, m ∈ ns → (∀ k ∈ ns, k ≤ m) → Q (.int m) S) := rfl
theorem oi_mnt {S : Store} {Q : QV} {l : List Val} : opBi .min1 [.tup l] S Q = (intsOf l fun ns => 0 < ns.length ∧ ∀ m, m ∈ ns → (∀ k ∈ ns, m ≤ k) → Q (.int m) S) := rfl
theorem oi_max2 {S : Store} {Q : QV} {i j : Int} : opBi .max2 [.int i, .int j] S Q = (Q (.int (if j > i then j else i)) S) := rfl
theorem oi_min2 {S : Store} {Q : QV} {i j : Int} : opBi .min2 [.int i, .int j] S Q = (Q (.int (if j < i then j else i)) S) := rfl
theorem oi_int {S : Store} {Q : QV} {i : Int} : opBi .int [.int i] S Q = (Q (.int i) S) := rfl
theorem oi_intb {S : Store} {Q : QV} {k : Bool} : opBi .int [.bl k] S Q = (Q (.int (if k then 1 else 0)) S) := rfl
theorem oi_tuplet {S : Store} {Q : QV} {l : List Val} : opBi .tuple [.tup l] S Q = (Q (.tup l) S) := rfl
theorem oi_listt {S : Store} {Q : QV} {l : List Val} : opBi .list [.tup l] S Q = (Q (.sl l) S) := rfl
theorem oi_listMt {S : Store} {Q : QV} {l : List Val} : opBi .listM [.tup l] S Q = (∀ p, S p = none → Q (.ref p) (put S p (.lst l))) := rfl
theorem oi_str {S : Store} {Q : QV} {i : Int} : opBi .str [.int i] S Q = (i.natAbs.log2 < 1920 ∧ Q (.str (toString i)) S) := rfl
theorem oi_divmod {S : Store} {Q : QV} {i j : Int} : opBi .divmod [.int i, .int j] S Q = (DivOk i j ∧ Q (.tup [.int (i.fdiv j), .int (i.fmod j)]) S) := rfl
theorem tru_non {S : Store} {Q : QV}  {P : Bool → Prop} : tru (.non) S P = (P false) := rfl
theorem tru_bl {S : Store} {Q : QV} {k : Bool} {P : Bool → Prop} : tru (.bl k) S P = (P k) := rfl
theorem tru_int {S : Store} {Q : QV} {i : Int} {P : Bool → Prop} : tru (.int i) S P = (P (i != 0)) := rfl
theorem tru_str {S : Store} {Q : QV} {x : Str} {P : Bool → Prop} : tru (.str x) S P = (x.length ≤ LIM ∧ P ((x.length : Int) != 0)) := rfl
theorem tru_tup {S : Store} {Q : QV} {l : List Val} {P : Bool → Prop} : tru (.tup l) S P = (P (!l.isEmpty)) := rfl
theorem tru_ref {S : Store} {Q : QV} {p : Addr} {P : Bool → Prop} : tru (.ref p) S P = (getL S (.ref p) fun l => P (!l.isEmpty)) := rfl
theorem tru_sl {S : Store} {Q : QV} {m : List Val} {P : Bool → Prop} : tru (.sl m) S P = (P (!m.isEmpty)) := rfl
theorem tyIs_non {S : Store} {Q : QV}  {t : Ty} {P : Bool → Prop} : tyIs t (.non) S P = (P false) := rfl
theorem tyIs_bl {S : Store} {Q : QV} {k : Bool} {t : Ty} {P : Bool → Prop} : tyIs t (.bl k) S P = (P (t == .bool || t == .int)) := rfl
theorem tyIs_int {S : Store} {Q : QV} {i : Int} {t : Ty} {P : Bool → Prop} : tyIs t (.int i) S P = (P (t == .int)) := rfl
theorem tyIs_str {S : Store} {Q : QV} {x : Str} {t : Ty} {P : Bool → Prop} : tyIs t (.str x) S P = (P (t == .str)) := rfl
theorem tyIs_tup {S : Store} {Q : QV} {l : List Val} {t : Ty} {P : Bool → Prop} : tyIs t (.tup l) S P = (P (t == .tuple)) := rfl
theorem tyIs_sl {S : Store} {Q : QV} {m : List Val} {t : Ty} {P : Bool → Prop} : tyIs t (.sl m) S P = (P (t == .list)) := rfl
theorem it_t {S : Store} {Q : QV} {R : (Store → Prop) → List Val → Prop} {l : List Val} : itK .seq [.tup l] S R = (R (fun _ => True) l) := rfl
theorem it_sr {S : Store} {Q : QV} {R : (Store → Prop) → List Val → Prop}{p : Addr} : itK .seq [.ref p] S R = (getL S (.ref p) fun l => R (fun S' => LstAt S' (.ref p) l) l) := rfl
theorem it_er {S : Store} {Q : QV} {R : (Store → Prop) → List Val → Prop}{p : Addr} : itK .enum [.ref p] S R = (getL S (.ref p) fun l => R (fun S' => LstAt S' (.ref p) l) (l.zipIdx.map fun p => .tup [.int (p.2 : Nat), p.1])) := rfl
theorem it_vr {S : Store} {Q : QV} {R : (Store → Prop) → List Val → Prop}{p : Addr} : itK .rev [.ref p] S R = (getL S (.ref p) fun l => R (fun S' => LstAt S' (.ref p) l) l.reverse) := rfl
theorem it_sl {S : Store} {Q : QV} {R : (Store → Prop) → List Val → Prop}{l : List Val} : itK .seq [.sl l] S R = (R (fun S' => LstAt S' (.sl l) l) l) := rfl
theorem it_el {S : Store} {Q : QV} {R : (Store → Prop) → List Val → Prop}{l : List Val} : itK .enum [.sl l] S R = (R (fun S' => LstAt S' (.sl l) l) (l.zipIdx.map fun p => .tup [.int (p.2 : Nat), p.1])) := rfl
theorem it_vl {S : Store} {Q : QV} {R : (Store → Prop) → List Val → Prop}{l : List Val} : itK .rev [.sl l] S R = (R (fun S' => LstAt S' (.sl l) l) l.reverse) := rfl
theorem it_z {S : Store} {Q : QV} {R : (Store → Prop) → List Val → Prop}{x y : Val} : itK .zip [x, y] S R = (getL S x fun l => getL S y fun m => R (fun S' => LstAt S' x l ∧ LstAt S' y m) ((l.zip m).map fun p => .tup [p.1, p.2])) := rfl
theorem it_1 {S : Store} {Q : QV} {R : (Store → Prop) → List Val → Prop}{j : Int} : itK .range [.int j] S R = ((-(2 ^ 62) ≤ j ∧ j < 2 ^ 62) ∧ R (fun _ => True) ((List.range j.toNat).map fun k => .int (k : Nat))) := rfl
theorem it_2 {S : Store} {Q : QV} {R : (Store → Prop) → List Val → Prop}{i j : Int} : itK .range [.int i, .int j] S R = ((-(2 ^ 62) ≤ i ∧ i < 2 ^ 62 ∧ -(2 ^ 62) ≤ j ∧ j < 2 ^ 62) ∧ R (fun _ => True) ((List.range (j - i).toNat).map fun k => .int (i + (k : Nat)))) := rfl
theorem it_3 {S : Store} {Q : QV} {R : (Store → Prop) → List Val → Prop}{i j c : Int} : itK .range [.int i, .int j, .int c] S R = ((-(2 ^ 62) ≤ i ∧ i < 2 ^ 62 ∧ -(2 ^ 62) ≤ j ∧ j < 2 ^ 62 ∧ 0 < c ∧ c < 1073741824) ∧ R (fun _ => True) ((List.range (Builtin.Range.rangeSize i j c).toNat).map fun k => .int (i + (k : Nat) * c))) := rfl
theorem ltI_i {S : Store} {Q : QV} {i j : Int}{P : Bool → Prop} {f : Int → Int → Bool} {g : List Int → List Int → Bool} : ltI (.int i) (.int j) P f g = (P (f i j)) := rfl
theorem tl_i {S : Store} {Q : QV} {i j : Int}{P : Bool → Prop} : tupLt (.int i) (.int j) P = (P (decide (i < j))) := rfl
theorem optI_i {S : Store} {Q : QV} {i : Int} {P : Option Int → Prop} : optI (.int i) P = (P (some i)) := rfl
theorem osl_t {S : Store} {Q : QV} {b : Bool} {l : List Val} {lo hi : Option Int} : opSl b (.tup l) lo hi S Q = (Q (.tup (cutG l lo hi)) S) := by cases b <;> rfl
theorem osl_s {S : Store} {Q : QV} {b : Bool} {z : Str} {lo hi : Option Int} : opSl b (.str z) lo hi S Q = (z.length ≤ LIM ∧ Q (.str (cutT z lo hi)) S) := by cases b <;> rfl
theorem osl_l {S : Store} {Q : QV} {l : List Val} {lo hi : Option Int} : opSl false (.sl l) lo hi S Q = (Q (.sl (cutG l lo hi)) S) := rfl
theorem osl_r {S : Store} {Q : QV} {p : Addr} {lo hi : Option Int} : opSl false (.ref p) lo hi S Q = (getL S (.ref p) fun l => Q (.sl (cutG l lo hi)) S) := rfl
theorem osl_lM {S : Store} {Q : QV} {l : List Val} {lo hi : Option Int} : opSl true (.sl l) lo hi S Q = (∀ p, S p = none → Q (.ref p) (put S p (.lst (cutG l lo hi)))) := rfl
theorem osl_rM {S : Store} {Q : QV} {p : Addr} {lo hi : Option Int} : opSl true (.ref p) lo hi S Q = (getL S (.ref p) fun l => ∀ p, S p = none → Q (.ref p) (put S p (.lst (cutG l lo hi)))) := rfl
theorem sq_t {S : Store} {Q : QV} {l : List Val} {P : List Val → Prop} : seqOf S (.tup l) P = (P l) := rfl
theorem sq_l {S : Store} {Q : QV} {l : List Val} {P : List Val → Prop} : seqOf S (.sl l) P = (P l) := rfl
theorem getI_i {S : Store} {Q : QV} {c : Nat} {fs : List (Nat × Val)} {P : Nat → List (Nat × Val) → Prop} : getI S (.ins c fs) P = (P c fs) := rfl
end BW
set_option Elab.async false
set_option linter.all false
set_option maxRecDepth 100000
set_option maxHeartbeats 4000000
namespace BW
open PySem PySem.Spec PyProof.Rows L2
/-! ### numbers -/
theorem gcd_fmod (x y : Int) : Int.gcd y (x.fmod y) = Int.gcd x y := by
  rw [Int.fmod_def, Int.gcd_sub_mul_left_right, Int.gcd_comm]
theorem natAbs_fmod_lt (x : Int) {y : Int} (h : y ≠ 0) : (x.fmod y).natAbs < y.natAbs := by
  have e := Int.fmod_eq_emod (a := x) (b := y)
  have h1 := Int.emod_nonneg x h
  have h2 := Int.emod_lt x h
  rw [e]
  split
  · omega
  · rename_i h3
    have h4 : x % y ≠ 0 := fun q => h3 (.inr (Int.dvd_of_emod_eq_zero q))
    have h5 : ¬ 0 ≤ y := fun q => h3 (.inl q)
    omega
theorem fmod_lo (x : Int) {y : Int} (h : 0 < y) : 0 ≤ x.fmod y := by
  rw [Int.fmod_eq_emod_of_nonneg x (by omega)]
  exact Int.emod_nonneg x (by omega)
theorem fmod_hi (x : Int) {y : Int} (h : 0 < y) : x.fmod y < y := Int.fmod_lt_of_pos x h
theorem log2_mono {a b : Nat} (h : a ≤ b) : a.log2 ≤ b.log2 := by
  rcases Nat.eq_zero_or_pos a with e | e
  · subst e
    rw [Nat.log2_zero]
    exact Nat.zero_le _
  · have hb : b ≠ 0 := by omega
    exact (Nat.le_log2 hb).mpr (Nat.le_trans ((Nat.le_log2 (by omega)).mp (Nat.le_refl _)) h)
theorem log2_lt_of {a b k : Nat} (h : a ≤ b) (k1 : b.log2 < k) : a.log2 < k := Nat.lt_of_le_of_lt (log2_mono h) k1
theorem natAbs_fdiv_le (x : Int) {y : Int} (h : 0 < y) : (x.fdiv y).natAbs ≤ x.natAbs := by
  rw [Int.fdiv_eq_ediv_of_nonneg x (by omega)]
  have h1 := Int.mul_ediv_add_emod x y
  have h2 := Int.emod_nonneg x (b := y) (by omega)
  have h3 := Int.emod_lt_of_pos x h
  rcases (by omega : x < 0 ∨ 0 ≤ x) with hx | hx
  · have h4 : x / y < 0 := Int.ediv_neg_of_neg_of_pos hx h
    have h5 : x ≤ x / y := by
      have h6 := Int.mul_le_mul_of_nonneg_left (show (1 : Int) ≤ -(x / y) by omega) (show (0 : Int) ≤ y - 1 by omega)
      have h7 : (y - 1) * -(x / y) = -(y * (x / y)) + x / y := by grind
      omega
    omega
  · have h4 : 0 ≤ x / y := Int.ediv_nonneg hx (by omega)
    have h5 : x / y ≤ x := Int.ediv_le_self y hx
    omega
theorem log2_fdiv {x y : Int} {k : Nat} (h : 0 < y) (k1 : x.natAbs.log2 < k) : (x.fdiv y).natAbs.log2 < k := log2_lt_of (natAbs_fdiv_le x h) k1
theorem bits_log2 {z : Int} {n : Nat} (h : Builtin.Int.intBits z ≤ n) : z.natAbs.log2 < n + 1 := by
  unfold Builtin.Int.intBits at h
  by_cases e : z = 0
  · subst e
    exact Nat.succ_pos _
  · rw [if_neg (by simpa using e)] at h
    omega
theorem mul_log2 (a b : Nat) : (a * b).log2 ≤ a.log2 + b.log2 + 1 := by
  rcases Nat.eq_zero_or_pos (a * b) with e | e
  · rw [e, Nat.log2_zero]; exact Nat.zero_le _
  · have ha : a ≠ 0 := by rintro rfl; simp at e
    have hb : b ≠ 0 := by rintro rfl; simp at e
    have h1 : a < 2 ^ (a.log2 + 1) := Nat.lt_log2_self
    have h2 : b < 2 ^ (b.log2 + 1) := Nat.lt_log2_self
    have h3 : a * b < 2 ^ (a.log2 + 1) * 2 ^ (b.log2 + 1) := Nat.mul_lt_mul'' h1 h2
    rw [← Nat.pow_add] at h3
    have := (Nat.log2_lt (by omega)).mpr h3
    omega
theorem perm_two {a b : Int} {l : List Int} (h : l.Perm [a, b]) : l = [a, b] ∨ l = [b, a] := by
  have hl := h.length_eq
  match l, hl with
  | [x, y], _ =>
    have hx : x ∈ [a, b] := h.mem_iff.mp (by simp)
    simp only [List.mem_cons, List.not_mem_nil, or_false] at hx
    rcases hx with rfl | rfl
    · have := List.perm_singleton.mp ((List.perm_cons x).mp h)
      simp at this
      exact .inl (by rw [this])
    · have := List.perm_singleton.mp ((List.perm_cons x).mp (h.trans (List.Perm.swap _ _ _)))
      simp at this
      exact .inr (by rw [this])
/-! ### lists -/
theorem cutG_to {α : Type} {l : List α} {n : Int} (h : 0 ≤ n) : cutG l none (some n) = l.take n.toNat := by
  have e : ¬ n < 0 := by omega
  simp only [cutG, HT.sIx, if_neg e, List.drop_zero, Nat.sub_zero]
  rcases Nat.le_total n.toNat l.length with q | q
  · rw [Nat.min_eq_left q]
  · rw [Nat.min_eq_right q, List.take_length, List.take_of_length_le q]
theorem cutG_from {α : Type} {l : List α} {n : Int} (h : 0 ≤ n) : cutG l (some n) none = l.drop n.toNat := by
  have e : ¬ n < 0 := by omega
  simp only [cutG, HT.sIx, if_neg e]
  rcases Nat.le_total n.toNat l.length with q | q
  · rw [Nat.min_eq_left q]
    exact List.take_of_length_le (by rw [List.length_drop]; omega)
  · rw [Nat.min_eq_right q, Nat.sub_self, List.take_zero, List.drop_of_length_le q]
theorem finlaw_rt {as : List Val} {S S' : Store} {v : Val} : (fin (lawSpec as S)).rt v S' ↔ v = .bl true := ⟨fun ⟨_, _, h⟩ => h, fun h => ⟨S', Sub.refl, h⟩⟩
theorem finlaw_nx {as : List Val} {S S' : Store} {e : Ev} : (fin (lawSpec as S)).nx e S' ↔ False := ⟨fun ⟨_, _, h⟩ => (by cases h), fun h => h.elim⟩
theorem finlaw_ex {as : List Val} {S S' : Store} {x : Exn} {e : Ev} : (fin (lawSpec as S)).ex x e S' ↔ False := ⟨fun ⟨_, _, h⟩ => h, fun h => h.elim⟩
theorem atI_int {α : Type} {l : List α} {i : Int} (h : 0 ≤ i) (h2 : i < l.length) : atI l i = l[i.toNat]? := by
  have e : ((i.toNat : Nat) : Int) = i := Int.toNat_of_nonneg h
  rw [← e]
  exact atI_nat (by omega)
theorem atI_map {cs : List Int} {i : Int} (h : 0 ≤ i) (h2 : i < cs.length) : ∃ z ∈ cs, atI (cs.map Val.int) i = some (.int z) := by
  have hl : i.toNat < cs.length := by omega
  refine ⟨cs[i.toNat], List.getElem_mem hl, ?_⟩
  rw [atI_int h (by rw [List.length_map]; exact h2), List.getElem?_map, List.getElem?_eq_getElem hl]
  rfl
theorem range_lt {i j c : Int} {k : Nat} (hc : 0 < c) (h : k < (Builtin.Range.rangeSize i j c).toNat) : i + k * c < j := by
  unfold Builtin.Range.rangeSize at h
  split at h
  · split at h
    · rename_i h2
      have h3 := Int.mul_ediv_add_emod (j - i - 1) c
      have h5 := Int.emod_nonneg (j - i - 1) (b := c) (by omega)
      have h4 : (k : Int) ≤ (j - i - 1) / c := by omega
      have h6 := Int.mul_le_mul_of_nonneg_left h4 (show (0 : Int) ≤ c by omega)
      rw [Int.mul_comm] at h6
      omega
    · simp at h
  · omega
theorem getElem_map_range {n k : Nat} {f : Nat → Val} {x : Val} (h : ((List.range n).map f)[k]? = some x) : k < n ∧ x = f k := by
  rw [List.getElem?_map] at h
  by_cases hk : k < n
  · rw [List.getElem?_eq_getElem (by simpa using hk), List.getElem_range] at h
    cases h
    exact ⟨hk, rfl⟩
  · rw [List.getElem?_eq_none (by simpa using hk)] at h
    cases h
theorem gcd_le (a b : Int) : Int.gcd a b ≤ a.natAbs + b.natAbs := by
  rcases Nat.eq_zero_or_pos a.natAbs with h | h
  · have e : a = 0 := Int.natAbs_eq_zero.mp h
    subst e
    simp
  · have := Nat.gcd_le_left b.natAbs h
    show Nat.gcd a.natAbs b.natAbs ≤ _
    omega
/-! ### comparisons of data -/
theorem LstAt.inj {S : Store} {v : Val} {l m : List Val} (a : LstAt S v l) (b : LstAt S v m) : l = m := by
  rcases a with ⟨p, rfl, e⟩ | rfl
  · rcases b with ⟨q, h, e'⟩ | h
    · cases h; rw [e] at e'; cases e'; rfl
    · cases h
  · rcases b with ⟨q, h, e'⟩ | h
    · cases h
    · cases h; rfl
mutual
theorem dt_inj {S : Store} : ∀ {v : Val} {d e : PyData}, Dt S v d → Dt S v e → d = e
  | _, _, _, .non, h => (dt_non.mp h).symm
  | _, _, _, .bl b, h => (dt_bl.mp h).symm
  | _, _, _, .int i, h => (dt_int.mp h).symm
  | _, _, _, .str x, h => by
    cases h with
    | str => rfl
    | lst a _ => rcases a with ⟨_, e, _⟩ | e <;> cases e
  | _, _, _, .tup k, h => by
    obtain ⟨ds, rfl, h2⟩ := dt_tup.mp h
    rw [dts_inj k h2]
  | _, _, _, .lst a k, h => by
    cases h with
    | lst b m =>
      have e := a.inj b
      subst e
      rw [dts_inj k m]
    | _ => rcases a with ⟨_, e, _⟩ | e <;> cases e
theorem dts_inj {S : Store} : ∀ {l : List Val} {d e : List PyData}, Dts S l d → Dts S l e → d = e
  | _, _, _, .nil, h => (dts_nil.mp h).symm
  | _, _, _, .cons a b, h => by
    obtain ⟨x, y, rfl, h1, h2⟩ := dts_cons.mp h
    rw [dt_inj a h1, dts_inj b h2]
end
section
variable {S : Store} {P : Bool → Prop} {x y : Val} {d e : PyData}
theorem opC_eq_dt (hx : Dt S x d) (hy : Dt S y e) (sx : SeqAt.shaped d = true := by rfl) (sy : SeqAt.shaped e = true := by rfl) : opC .eq x y S P = P (PyData.eqv d e) := propext ⟨fun ⟨_, _, h1, h2, _, _, h⟩ => by rw [dt_inj hx h1, dt_inj hy h2]; exact h, fun h => ⟨_, _, hx, hy, sx, sy, h⟩⟩
theorem opC_ne_dt (hx : Dt S x d) (hy : Dt S y e) (sx : SeqAt.shaped d = true := by rfl) (sy : SeqAt.shaped e = true := by rfl) : opC .ne x y S P = P (!PyData.eqv d e) := propext ⟨fun ⟨_, _, h1, h2, _, _, h⟩ => by rw [dt_inj hx h1, dt_inj hy h2]; exact h, fun h => ⟨_, _, hx, hy, sx, sy, h⟩⟩
theorem dt2 {a b : Int} : Dt S (.tup [.int a, .int b]) (.tuple [.int a, .int b]) := .tup (.cons (.int a) (.cons (.int b) .nil))
theorem dt3 {a b c : Int} : Dt S (.tup [.int a, .int b, .int c]) (.tuple [.int a, .int b, .int c]) := .tup (.cons (.int a) (.cons (.int b) (.cons (.int c) .nil)))
theorem opC_eq_bl {a b : Bool} : opC .eq (.bl a) (.bl b) S P = P (a == b) := by
  rw [opC_eq_dt (.bl a) (.bl b)]
  simp [PyData.eqv]
theorem opC_ne_bl {a b : Bool} : opC .ne (.bl a) (.bl b) S P = P (!(a == b)) := by
  rw [opC_ne_dt (.bl a) (.bl b)]
  simp [PyData.eqv]
theorem opC_eq_t2 {a b c d : Int} : opC .eq (.tup [.int a, .int b]) (.tup [.int c, .int d]) S P = P (decide (a = c ∧ b = d)) := by
  rw [opC_eq_dt dt2 dt2]
  congr 1
  rw [Bool.eq_iff_iff]
  simp [PyData.eqv, PyData.eqvAll, Decidable.not_and_iff_or_not]
theorem opC_ne_t2 {a b c d : Int} : opC .ne (.tup [.int a, .int b]) (.tup [.int c, .int d]) S P = P (!decide (a = c ∧ b = d)) := by
  rw [opC_ne_dt dt2 dt2]
  congr 1
  rw [Bool.eq_iff_iff]
  simp [PyData.eqv, PyData.eqvAll, Decidable.not_and_iff_or_not]
theorem opC_eq_t3 {a b c x y z : Int} : opC .eq (.tup [.int a, .int b, .int c]) (.tup [.int x, .int y, .int z]) S P = P (decide (a = x ∧ b = y ∧ c = z)) := by
  rw [opC_eq_dt dt3 dt3]
  congr 1
  rw [Bool.eq_iff_iff]
  simp [PyData.eqv, PyData.eqvAll, Decidable.not_and_iff_or_not]
theorem opC_ne_t3 {a b c x y z : Int} : opC .ne (.tup [.int a, .int b, .int c]) (.tup [.int x, .int y, .int z]) S P = P (!decide (a = x ∧ b = y ∧ c = z)) := by
  rw [opC_ne_dt dt3 dt3]
  congr 1
  rw [Bool.eq_iff_iff]
  simp [PyData.eqv, PyData.eqvAll, Decidable.not_and_iff_or_not]
/-- two empty lists -/
theorem opC_ne_l {p q : Addr} {l m : List Val} {ds es : List PyData} (hp : S p = some (.lst l)) (hq : S q = some (.lst m)) (hl : Dts S l ds) (hm : Dts S m es) (sx : SeqAt.shaped (.list ds) = true := by rfl) (sy : SeqAt.shaped (.list es) = true := by rfl) :
    opC .ne (.ref p) (.ref q) S P = P (!PyData.eqvAll ds es) := by
  rw [opC_ne_dt (.lst (.inl ⟨p, rfl, hp⟩) hl) (.lst (.inl ⟨q, rfl, hq⟩) hm) sx sy]
  simp [PyData.eqv]
end
/-! ### pairs and triples of ints in a list -/
abbrev pr (p : Int × Int) : Val := .tup [.int p.1, .int p.2]
theorem dts_prs {S : Store} : ∀ (l : List (Int × Int)), Dts S (l.map pr) (l.map fun p => .tuple [.int p.1, .int p.2])
  | [] => .nil
  | p :: l => .cons dt2 (dts_prs l)
theorem shaped_prs (l : List (Int × Int)) : SeqAt.shaped (.list (l.map fun p => .tuple [.int p.1, .int p.2])) = true := by
  have h1 : ∀ l : List (Int × Int), PyData.canLayAll0 (l.map fun p => .tuple [.int p.1, .int p.2]) = true := by
    intro l
    induction l with
    | nil => rfl
    | cons a l ih => exact ih
  have h2 : ∀ l : List (Int × Int), PyData.depthAll (l.map fun p => .tuple [.int p.1, .int p.2]) ≤ 1 := by
    intro l
    induction l with
    | nil => exact Nat.zero_le _
    | cons a l ih => exact Nat.max_le.mpr ⟨Nat.le_refl _, ih⟩
  show (PyData.canLayAll0 _ && decide (PyData.depthAll _ + 1 ≤ 64)) = true
  rw [h1 l, Bool.true_and, decide_eq_true_eq]
  have := h2 l
  omega
theorem in_prs {S : Store} {m : Addr} {l : List (Int × Int)} {p : Int × Int} {P : Bool → Prop} (h : S m = some (.lst (l.map pr))) : inOp S (pr p) (.ref m) P = P (l.contains p) := by
  have e : (l.map fun p => PyData.tuple [.int p.1, .int p.2]).any (fun e => PyData.eqv e (.tuple [.int p.1, .int p.2])) = l.contains p := by
    rw [Bool.eq_iff_iff]
    simp only [List.any_map, List.any_eq_true, List.contains_iff_mem, Function.comp]
    constructor
    · rintro ⟨q, hq, h⟩
      have : q = p := by
        simp [PyData.eqv, PyData.eqvAll] at h
        exact Prod.ext h.1 h.2
      exact this ▸ hq
    · intro hq
      exact ⟨p, hq, by simp [PyData.eqv, PyData.eqvAll]⟩
  refine propext ?_
  show (seqOf S (.ref m) fun l' => _) ↔ _
  show (getL S (.ref m) fun l' => _) ↔ _
  rw [getL_ref h]
  constructor
  · rintro ⟨d, ds, h1, h2, _, _, h3⟩
    rw [dt_inj h1 dt2, dts_inj h2 (dts_prs l), e] at h3
    exact h3
  · intro h3
    exact ⟨_, _, dt2, dts_prs l, rfl, shaped_prs l, by rw [e]; exact h3⟩
/-! ### comprehensions -/
def Rel (R : Val → Option Val → Prop) : List Val → List Val → Prop
  | [], ys => ys = []
  | x :: l, ys => (R x none ∧ Rel R l ys) ∨ ∃ y ys', ys = y :: ys' ∧ R x (some y) ∧ Rel R l ys'
theorem rel_map {f : Val → Val} : ∀ {l ys : List Val}, Rel (fun x o => o = some (f x)) l ys → ys = l.map f
  | [], _, h => h
  | x :: l, ys, h => by
    rcases h with ⟨h, _⟩ | ⟨y, ys', rfl, h, h2⟩
    · cases h
    · cases h; rw [rel_map h2]; rfl
theorem rel_filter {p : Val → Bool} : ∀ {l ys : List Val}, Rel (fun x o => o = if p x = true then some x else none) l ys → ys = l.filter p
  | [], _, h => h
  | x :: l, ys, h => by
    rcases h with ⟨h, h2⟩ | ⟨y, ys', rfl, h, h2⟩
    · split at h
      · cases h
      · rename_i hp
        rw [rel_filter h2, List.filter_cons_of_neg hp]
    · split at h
      · rename_i hp
        cases h
        rw [rel_filter h2, List.filter_cons_of_pos hp]
      · cases h
theorem Rel.imp {R R' : Val → Option Val → Prop} (k : ∀ x o, R x o → R' x o) : ∀ {l ys : List Val}, Rel R l ys → Rel R' l ys
  | [], _, h => h
  | x :: l, ys, h => by
    rcases h with ⟨h, h2⟩ | ⟨y, ys', rfl, h, h2⟩
    · exact .inl ⟨k _ _ h, Rel.imp k h2⟩
    · exact .inr ⟨y, ys', rfl, k _ _ h, Rel.imp k h2⟩
theorem LstAt.sub {S S' : Store} {x : Val} {l : List Val} (h : LstAt S x l) (k : Sub S S') : LstAt S' x l := h.imp (fun ⟨a, e, h⟩ => ⟨a, e, k _ _ h⟩) id
theorem Sub.put_new {S S2 : Store} {D : Addr} {o : Ob} (h : S D = none) (k : Sub S S2) : Sub S (BW.put S2 D o) := fun a u e => by
  have hne : a ≠ D := fun q => by rw [q, h] at e; cases e
  rw [put_ne hne]
  exact k a u e
theorem comp_go {T : Tb} {own : List Nat} {g : Tg} {hc : Bool} {cond elt : Ex} {env : Ev} {G : Store → Prop} {D : Addr} {Q : QV} {S0 : Store} {all : List Val} (R : Val → Option Val → Prop) (hS0 : S0 D = none) (hG : ∀ S, Sub S0 S → G S)
    (hs : ∀ x ∈ all, ∀ acc S, S D = some (.lst acc) → Sub S0 S → ∀ K : Option Val → Store → Prop, (∀ o S2, R x o → S2 D = some (.lst acc) → Sub S0 S2 → K o S2) →
      tgt g x (wipeE env own) fun e2 => if hc = true then wT T cond e2 S (fun b S1 => if b = true then wE T elt e2 S1 (fun y S2 => K (some y) S2) (fun _ _ => False) else K none S1) (fun _ _ => False) else wE T elt e2 S (fun y S2 => K (some y) S2) fun _ _ => False)
    (hQ : ∀ ys S, Rel R all ys → S D = some (.lst ys) → Sub S0 S → Q (.ref D) S) :
    ∀ (items acc : List Val) (S : Store), (∀ x ∈ items, x ∈ all) → acc.length + items.length ≤ LIM → (∀ ys, Rel R items ys → Rel R all (acc ++ ys)) → S D = some (.lst acc) → Sub S0 S →
      wTurns G (fun x P => tgt g x (wipeE env own) P) (fun e2 S2 P => if hc = true then wT T cond e2 S2 P fun _ _ => False else P true S2) (fun e2 S2 P => wE T elt e2 S2 P fun _ _ => False) D Q items S
  | [], acc, S, _, _, hr, hD, hsub => ⟨hG S hsub, hQ acc S (by have := hr [] rfl; rwa [List.append_nil] at this) hD hsub⟩
  | x :: l, acc, S, hm, hl, hr, hD, hsub => by
    refine ⟨hG S hsub, ?_⟩
    simp only [List.length_cons] at hl
    have step := hs x (hm x List.mem_cons_self) acc S hD hsub (fun o S2 => R x o ∧ S2 D = some (.lst acc) ∧ Sub S0 S2) fun o S2 a b c => ⟨a, b, c⟩
    have no : ∀ S1, R x none ∧ S1 D = some (.lst acc) ∧ Sub S0 S1 → wTurns G (fun x P => tgt g x (wipeE env own) P) (fun e2 S2 P => if hc = true then wT T cond e2 S2 P fun _ _ => False else P true S2) (fun e2 S2 P => wE T elt e2 S2 P fun _ _ => False) D Q l S1 := fun S1 ⟨a, b, c⟩ =>
      comp_go R hS0 hG hs hQ l acc S1 (fun y hy => hm y (List.mem_cons_of_mem _ hy)) (by omega) (fun ys hy => hr ys (.inl ⟨a, hy⟩)) b c
    have yes : ∀ y S2, R x (some y) ∧ S2 D = some (.lst acc) ∧ Sub S0 S2 → ∃ acc, S2 D = some (.lst acc) ∧ acc.length < LIM ∧ wTurns G (fun x P => tgt g x (wipeE env own) P) (fun e2 S2 P => if hc = true then wT T cond e2 S2 P fun _ _ => False else P true S2) (fun e2 S2 P => wE T elt e2 S2 P fun _ _ => False) D Q l (put S2 D (.lst (acc ++ [y]))) := fun y S2 ⟨a, b, c⟩ =>
      ⟨acc, b, by omega, comp_go R hS0 hG hs hQ l (acc ++ [y]) _ (fun y hy => hm y (List.mem_cons_of_mem _ hy)) (by rw [List.length_append]; simp only [List.length_cons, List.length_nil]; omega)
        (fun ys hy => by rw [List.append_assoc]; exact hr _ (.inr ⟨y, ys, rfl, a, hy⟩)) put_same (Sub.put_new hS0 c)⟩
    refine tgt_mono (fun e2 h2 => ?_) step
    cases hc with
    | true =>
      refine wT_mono cond (fun b S1 h => ?_) (fun _ _ z => z) h2
      cases b with
      | true => exact wE_mono elt yes (fun _ _ z => z) h
      | false => exact no S1 h
    | false => exact wE_mono elt yes (fun _ _ z => z) h2
theorem comp_gen {T : Tb} {own : List Nat} {g : Tg} {hc : Bool} {cond elt : Ex} {env : Ev} {G : Store → Prop} {D : Addr} {Q : QV} {S0 : Store} {items : List Val} (R : Val → Option Val → Prop) (hS0 : S0 D = none) (hG : ∀ S, Sub S0 S → G S) (hl : items.length ≤ LIM)
    (hs : ∀ x ∈ items, ∀ acc S, S D = some (.lst acc) → Sub S0 S → ∀ K : Option Val → Store → Prop, (∀ o S2, R x o → S2 D = some (.lst acc) → Sub S0 S2 → K o S2) →
      tgt g x (wipeE env own) fun e2 => if hc = true then wT T cond e2 S (fun b S1 => if b = true then wE T elt e2 S1 (fun y S2 => K (some y) S2) (fun _ _ => False) else K none S1) (fun _ _ => False) else wE T elt e2 S (fun y S2 => K (some y) S2) fun _ _ => False)
    (hQ : ∀ ys S, Rel R items ys → S D = some (.lst ys) → Sub S0 S → Q (.ref D) S) :
    wTurns G (fun x P => tgt g x (wipeE env own) P) (fun e2 S2 P => if hc = true then wT T cond e2 S2 P fun _ _ => False else P true S2) (fun e2 S2 P => wE T elt e2 S2 P fun _ _ => False) D Q items (put S0 D (.lst [])) :=
  comp_go R hS0 hG hs hQ items [] _ (fun _ h => h) (by simpa using hl) (fun _ h => h) put_same (Sub.put hS0)
/-! ### reads behind writes -/
section
variable {S : Store} {Q : QV} {R : List Val → Prop} {p q : Addr} {o : Ob} {x v : Val} {k : Int} {P : Store → Prop}
theorem put_none : (put S p o q = none) = (¬ q = p ∧ S q = none) := propext ⟨fun h => by
  by_cases e : q = p
  · rw [e, put_same] at h; cases h
  · rw [put_ne e] at h; exact ⟨e, h⟩, fun ⟨e, h⟩ => by rw [put_ne e]; exact h⟩
theorem getL_put_ne (h : ¬ q = p) : getL (put S q o) (.ref p) R = getL S (.ref p) R := by
  simp only [getL, put_ne (o := o) (show p ≠ q from fun e => h e.symm)]
theorem getL_put_ne' (h : ¬ p = q) : getL (put S q o) (.ref p) R = getL S (.ref p) R := by
  simp only [getL, put_ne (o := o) (show p ≠ q from h)]
theorem opBm_appendL : opBm .append (.ref p) [x] S P = getL S (.ref p) fun l => l.length < LIM ∧ P (put S p (.lst (l ++ [x]))) := by
  refine propext ?_
  simp only [opBm, getL]
  constructor
  · rintro ⟨l, h1, h3⟩
    simp only [h1]
    exact h3
  · intro h
    split at h
    · rename_i l e
      exact ⟨l, e, h⟩
    · exact h.elim
theorem setIL : setI (.ref p) (.int k) v S P = getL S (.ref p) fun l => ∃ j, ixN l.length k = some j ∧ P (put S p (.lst (l.set j v))) := by
  refine propext ?_
  simp only [setI, getL]
  constructor
  · rintro ⟨l, j, h1, h2, h3⟩
    simp only [h1]
    exact ⟨j, h2, h3⟩
  · intro h
    split at h
    · rename_i l e
      obtain ⟨j, h1, h2⟩ := h
      exact ⟨l, j, e, h1, h2⟩
    · exact h.elim
theorem isL_ref : (∃ (a : Addr) (l : List Val), Val.ref p = .ref a ∧ S a = some (.lst l)) = getL S (.ref p) fun _ => True := by
  refine propext ?_
  simp only [getL]
  constructor
  · rintro ⟨a, l, e, h⟩
    cases e
    simp only [h]
  · intro h
    split at h
    · rename_i l e
      exact ⟨p, l, rfl, e⟩
    · exact h.elim
end
theorem mulOk_of {a b : Int} (h : a.natAbs.log2 < 50000000) (k : b.natAbs.log2 < 50000000) : MulOk a b := by unfold MulOk; omega
/-! ### assignments by their heads -/
section
variable {T : Tb} {g : Tg} {env : Ev} {S : Store} {D : Post}
theorem wS_asg_var {i : Nat} : wS T (.asg g (.var i)) env S D = (wE T (.var i) env S (fun v S1 => tgt g v env fun e' => D.nx e' S1) fun x S' => D.ex x env S') := rfl
theorem wS_asg_lit {v : Val} : wS T (.asg g (.lit v)) env S D = (wE T (.lit v) env S (fun v S1 => tgt g v env fun e' => D.nx e' S1) fun x S' => D.ex x env S') := rfl
theorem wS_asg_bin {o : Bop} {a b : Ex} : wS T (.asg g (.bin o a b)) env S D = (wE T (.bin o a b) env S (fun v S1 => tgt g v env fun e' => D.nx e' S1) fun x S' => D.ex x env S') := rfl
theorem wS_asg_neg {a : Ex} : wS T (.asg g (.neg a)) env S D = (wE T (.neg a) env S (fun v S1 => tgt g v env fun e' => D.nx e' S1) fun x S' => D.ex x env S') := rfl
theorem wS_asg_nott {a : Ex} : wS T (.asg g (.nott a)) env S D = (wE T (.nott a) env S (fun v S1 => tgt g v env fun e' => D.nx e' S1) fun x S' => D.ex x env S') := rfl
theorem wS_asg_cmp {o : Cop} {a b : Ex} : wS T (.asg g (.cmp o a b)) env S D = (wE T (.cmp o a b) env S (fun v S1 => tgt g v env fun e' => D.nx e' S1) fun x S' => D.ex x env S') := rfl
theorem wS_asg_chain {o1 o2 : Cop} {a b c : Ex} : wS T (.asg g (.chain o1 o2 a b c)) env S D = (wE T (.chain o1 o2 a b c) env S (fun v S1 => tgt g v env fun e' => D.nx e' S1) fun x S' => D.ex x env S') := rfl
theorem wS_asg_andd {a b : Ex} : wS T (.asg g (.andd a b)) env S D = (wE T (.andd a b) env S (fun v S1 => tgt g v env fun e' => D.nx e' S1) fun x S' => D.ex x env S') := rfl
theorem wS_asg_orr {a b : Ex} : wS T (.asg g (.orr a b)) env S D = (wE T (.orr a b) env S (fun v S1 => tgt g v env fun e' => D.nx e' S1) fun x S' => D.ex x env S') := rfl
theorem wS_asg_ife {t a b : Ex} : wS T (.asg g (.ife t a b)) env S D = (wE T (.ife t a b) env S (fun v S1 => tgt g v env fun e' => D.nx e' S1) fun x S' => D.ex x env S') := rfl
theorem wS_asg_tup {as : Ex} : wS T (.asg g (.tup as)) env S D = (wE T (.tup as) env S (fun v S1 => tgt g v env fun e' => D.nx e' S1) fun x S' => D.ex x env S') := rfl
theorem wS_asg_lst {m : Bool} {as : Ex} : wS T (.asg g (.lst m as)) env S D = (wE T (.lst m as) env S (fun v S1 => tgt g v env fun e' => D.nx e' S1) fun x S' => D.ex x env S') := rfl
theorem wS_asg_idx {a i : Ex} : wS T (.asg g (.idx a i)) env S D = (wE T (.idx a i) env S (fun v S1 => tgt g v env fun e' => D.nx e' S1) fun x S' => D.ex x env S') := rfl
theorem wS_asg_slc {m : Bool} {a lo hi : Ex} : wS T (.asg g (.slc m a lo hi)) env S D = (wE T (.slc m a lo hi) env S (fun v S1 => tgt g v env fun e' => D.nx e' S1) fun x S' => D.ex x env S') := rfl
theorem wS_asg_fld {a : Ex} {f : Nat} : wS T (.asg g (.fld a f)) env S D = (wE T (.fld a f) env S (fun v S1 => tgt g v env fun e' => D.nx e' S1) fun x S' => D.ex x env S') := rfl
theorem wS_asg_call {f : Nat} {as : Ex} {d : List Val} : wS T (.asg g (.call f as d)) env S D = (wE T (.call f as d) env S (fun v S1 => tgt g v env fun e' => D.nx e' S1) fun x S' => D.ex x env S') := rfl
theorem wS_asg_meth {a : Ex} {m : Nat} {as : Ex} : wS T (.asg g (.meth a m as)) env S D = (wE T (.meth a m as) env S (fun v S1 => tgt g v env fun e' => D.nx e' S1) fun x S' => D.ex x env S') := rfl
theorem wS_asg_new {c : Nat} {m : Bool} {as : Ex} {d : List Val} : wS T (.asg g (.new c m as d)) env S D = (wE T (.new c m as d) env S (fun v S1 => tgt g v env fun e' => D.nx e' S1) fun x S' => D.ex x env S') := rfl
theorem wS_asg_blt {b : Bi} {as : Ex} : wS T (.asg g (.blt b as)) env S D = (wE T (.blt b as) env S (fun v S1 => tgt g v env fun e' => D.nx e' S1) fun x S' => D.ex x env S') := rfl
theorem wS_asg_isty {a : Ex} {t : Ty} : wS T (.asg g (.isty a t)) env S D = (wE T (.isty a t) env S (fun v S1 => tgt g v env fun e' => D.nx e' S1) fun x S' => D.ex x env S') := rfl
theorem wS_asg_iscl {a : Ex} {c : Nat} : wS T (.asg g (.iscl a c)) env S D = (wE T (.iscl a c) env S (fun v S1 => tgt g v env fun e' => D.nx e' S1) fun x S' => D.ex x env S') := rfl
theorem wS_asg_exis {i : Nat} {cs : List Nat} : wS T (.asg g (.exis i cs)) env S D = (wE T (.exis i cs) env S (fun v S1 => tgt g v env fun e' => D.nx e' S1) fun x S' => D.ex x env S') := rfl
theorem wS_asg_exfl {i f : Nat} : wS T (.asg g (.exfl i f)) env S D = (wE T (.exfl i f) env S (fun v S1 => tgt g v env fun e' => D.nx e' S1) fun x S' => D.ex x env S') := rfl
theorem wS_asg_dnew {t : Bool} : wS T (.asg g (.dnew t)) env S D = (wE T (.dnew t) env S (fun v S1 => tgt g v env fun e' => D.nx e' S1) fun x S' => D.ex x env S') := rfl
theorem wS_asg_dget {d k : Ex} : wS T (.asg g (.dget d k)) env S D = (wE T (.dget d k) env S (fun v S1 => tgt g v env fun e' => D.nx e' S1) fun x S' => D.ex x env S') := rfl
theorem wS_asg_din {n : Bool} {k d : Ex} : wS T (.asg g (.din n k d)) env S D = (wE T (.din n k d) env S (fun v S1 => tgt g v env fun e' => D.nx e' S1) fun x S' => D.ex x env S') := rfl
theorem wS_asg_nil  : wS T (.asg g (.nil)) env S D = (wE T (.nil) env S (fun v S1 => tgt g v env fun e' => D.nx e' S1) fun x S' => D.ex x env S') := rfl
/-- what comes behind name = [..] -/
def NxK (i : Nat) (D : Post) (env : Ev) : QV := fun v S1 => tgt (.nm i) v env fun e => D.nx e S1
theorem nxK_at {i : Nat} {v : Val} : NxK i D env v S = tgt (.nm i) v env fun e => D.nx e S := rfl
def wComp (T : Tb) (own : List Nat) (g : Tg) (hc : Bool) (cond elt : Ex) (env : Ev) (G : Store → Prop) (p : Addr) (K : QV) (items : List Val) (S : Store) : Prop :=
  wTurns G (fun x P => tgt g x (wipeE env own) P) (fun e2 S2 P => if hc = true then wT T cond e2 S2 P fun _ _ => False else P true S2) (fun e2 S2 P => wE T elt e2 S2 P fun _ _ => False) p K items (put S p (.lst []))
/-- a list made and kept so -/
def wFrz (T : Tb) (own : List Nat) (g : Tg) (hc : Bool) (cond elt : Ex) (env : Ev) (G : Store → Prop) (K : QV) (items : List Val) (S : Store) : Prop := ∀ p, S p = none → wComp T own g hc cond elt env G p (endC false p K) items S
theorem wS_asg_comp {i : Nat} {own : List Nat} {gg : Tg} {k : ItK} {as cond elt : Ex} {hc : Bool} : wS T (.asg (.nm i) (.comp true own gg k as hc cond elt)) env S D = (wA T as env S (fun vs S1 => itK k vs S1 fun G items => ∀ p, S1 p = none → wComp T own gg hc cond elt env G p (NxK i D env) items S1) fun x S' => D.ex x env S') := rfl
theorem wE_compK {own : List Nat} {gg : Tg} {k : ItK} {as cond elt : Ex} {hc : Bool} {Q : QV} {E : Exn → Store → Prop} : wE T (.comp true own gg k as hc cond elt) env S Q E = (wA T as env S (fun vs S1 => itK k vs S1 fun G items => ∀ p, S1 p = none → wComp T own gg hc cond elt env G p Q items S1) E) := rfl
theorem wS_asg_compF {i : Nat} {own : List Nat} {gg : Tg} {k : ItK} {as cond elt : Ex} {hc : Bool} : wS T (.asg (.nm i) (.comp false own gg k as hc cond elt)) env S D = (wA T as env S (fun vs S1 => itK k vs S1 fun G items => wFrz T own gg hc cond elt env G (NxK i D env) items S1) fun x S' => D.ex x env S') := rfl
theorem wE_compF {own : List Nat} {gg : Tg} {k : ItK} {as cond elt : Ex} {hc : Bool} {Q : QV} {E : Exn → Store → Prop} : wE T (.comp false own gg k as hc cond elt) env S Q E = (wA T as env S (fun vs S1 => itK k vs S1 fun G items => wFrz T own gg hc cond elt env G Q items S1) E) := rfl
end
/-- an item by its place -/
def atQ (l : List Val) (i : Int) (Q : Val → Prop) : Prop := ∃ v, atI l i = some v ∧ Q v
section
variable {l : List Val} {i : Int} {Q : Val → Prop} {x y z u v : Val} {S : Store} {K : QV} {p : Addr}
theorem atQ_at (h : atI l i = some v) : atQ l i Q = Q v := propext ⟨fun ⟨w, e, q⟩ => by rw [h] at e; cases e; exact q, fun q => ⟨v, h, q⟩⟩
theorem atQ_0 : atQ (x :: l) 0 Q = Q x := atQ_at atI_0
theorem atQ_1 : atQ (x :: y :: l) 1 Q = Q y := atQ_at atI_1
theorem atQ_2 : atQ (x :: y :: z :: l) 2 Q = Q z := atQ_at atI_2
theorem atQ_3 : atQ (x :: y :: z :: u :: l) 3 Q = Q u := atQ_at atI_3
theorem opIx_tup : opIx (.tup l) (.int i) S K = atQ l i fun v => K v S := rfl
theorem opIx_ref : opIx (.ref p) (.int i) S K = getL S (.ref p) fun l => atQ l i fun v => K v S := rfl
theorem opIx_sl : opIx (.sl l) (.int i) S K = atQ l i fun v => K v S := rfl
end
theorem comp_rule {T : Tb} {own : List Nat} {g : Tg} {hc : Bool} {cond elt : Ex} {env : Ev} {G : Store → Prop} {D : Addr} {Q : QV} {S0 : Store} {items : List Val} (R : Val → Option Val → Prop) (hS0 : S0 D = none) (hG : ∀ S, Sub S0 S → G S) (hl : items.length ≤ LIM)
    (hs : ∀ x ∈ items, ∀ acc S, S D = some (.lst acc) → Sub S0 S → ∀ K : Option Val → Store → Prop, (∀ o S2, R x o → S2 D = some (.lst acc) → Sub S0 S2 → K o S2) →
      tgt g x (wipeE env own) fun e2 => if hc = true then wT T cond e2 S (fun b S1 => if b = true then wE T elt e2 S1 (fun y S2 => K (some y) S2) (fun _ _ => False) else K none S1) (fun _ _ => False) else wE T elt e2 S (fun y S2 => K (some y) S2) fun _ _ => False)
    (hQ : ∀ ys S, Rel R items ys → S D = some (.lst ys) → Sub S0 S → Q (.ref D) S) : wComp T own g hc cond elt env G D Q items S0 := comp_gen R hS0 hG hl hs hQ
theorem cutG_both {α : Type} {l : List α} {a b : Int} (ha : 0 ≤ a) (hb : 0 ≤ b) : cutG l (some a) (some b) = (l.take b.toNat).drop a.toNat := by
  have e : ¬ a < 0 := by omega
  have e' : ¬ b < 0 := by omega
  simp only [cutG, HT.sIx, if_neg e, if_neg e']
  rw [List.drop_take]
  rcases Nat.le_total a.toNat l.length with q | q
  · rw [Nat.min_eq_left q]
    rcases Nat.le_total b.toNat l.length with q2 | q2
    · rw [Nat.min_eq_left q2]
    · rw [Nat.min_eq_right q2, List.take_of_length_le (by rw [List.length_drop]; omega), List.take_of_length_le (by rw [List.length_drop]; omega)]
  · rw [Nat.min_eq_right q, List.drop_of_length_le (Nat.le_refl _), List.drop_of_length_le q]
    simp
/-- no more than the places there are -/
theorem nodup_len {α : Type} [DecidableEq α] : ∀ {l m : List α}, l.Nodup → (∀ x ∈ l, x ∈ m) → l.length ≤ m.length
  | [], _, _, _ => Nat.zero_le _
  | x :: l, m, hn, hs => by
    rw [List.nodup_cons] at hn
    have hx := hs x List.mem_cons_self
    have := nodup_len (l := l) (m := m.erase x) hn.2 fun y hy => (List.mem_erase_of_ne (show y ≠ x from fun e => hn.1 (by rw [← e]; exact hy))).mpr (hs y (List.mem_cons_of_mem _ hy))
    have h2 := List.length_erase_of_mem hx
    have h3 : 0 < m.length := List.length_pos_of_mem hx
    simp only [List.length_cons]
    omega
/-- a list of whole numbers, its first items -/
theorem atI_app {cs : List Int} {l : List Val} {i : Int} (h : l = cs.map Val.int) (h0 : 0 ≤ i) (h2 : i < cs.length) : ∃ z ∈ cs, atI l i = some (.int z) := h ▸ atI_map h0 h2
theorem put_skip {S : Store} {p q : Addr} {o x : Ob} (h : ¬ q = p) (e : S p = some x) : put S q o p = some x := (put_ne fun z => h z.symm).trans e
theorem put_skip' {S : Store} {p q : Addr} {o x : Ob} (h : ¬ p = q) (e : S p = some x) : put S q o p = some x := (put_ne h).trans e
section
variable {G : Store → Prop} {g : Val → Ev → (Ev → Prop) → Prop} {b : Ev → Store → Post → Prop} {D : Post} {x : Val} {r : List Val} {env : Ev} {S : Store}
theorem wFor_cons : wFor G g b D (x :: r) env S = (G S ∧ g x env fun e1 => b e1 S ⟨wFor G g b D r, D.rt, D.nx, wFor G g b D r, D.ex⟩) := rfl
theorem wFor_nil : wFor G g b D [] env S = (G S ∧ D.nx env S) := rfl
end
theorem wCall_gen {T : Tb} {f : Nat} {vs : List Val} {S : Store} {Q : QV} {E : Exn → Store → Prop} {c : RSpec} (h : T.fn f vs S = c) (hp : c.pre) (hq : ∀ v S', c.ret v S' → Q v S') (he : ∀ x S', c.exn x S' → E x S') : wCall T f vs S Q E := by
  unfold wCall
  rw [h]
  exact ⟨hp, hq, he⟩
theorem lstAt_put {S : Store} {p : Addr} {l : List Val} : LstAt (put S p (.lst l)) (.ref p) l := .inl ⟨p, rfl, put_same⟩
/-! ### gcds -/
theorem gcd_log {a b : Int} {n : Nat} (hb : b ≠ 0) (h : b.natAbs.log2 < n) : (↑(Int.gcd a b) : Int).natAbs.log2 < n := by
  refine log2_lt_of ?_ h
  rw [Int.natAbs_natCast]
  exact Nat.gcd_le_right _ (by omega)
/-- p is t / b in lowest terms -/
structure IsT (t b : Int) (p : Int × Int) : Prop where
  eq : p.1 * b = t * p.2
  pos : 0 < p.2
  gcd : Int.gcd p.1 p.2 = 1
  le1 : p.1.natAbs ≤ t.natAbs
  le2 : p.2.natAbs ≤ b.natAbs
theorem gcd_pos {a b : Int} (hb : b ≠ 0) : 0 < Int.gcd a b := Nat.pos_of_ne_zero fun h => hb (Int.gcd_eq_zero_iff.mp h).2
theorem natAbs_fdiv_neg {a g : Int} (hg : 0 < g) (hd : g ∣ a) : a.fdiv (-g) = -(a.fdiv g) := by
  rw [Int.fdiv_eq_ediv_of_dvd (Int.neg_dvd.mpr hd), Int.fdiv_eq_ediv_of_dvd hd, Int.ediv_neg]
theorem isT_pos {t b : Int} (hb : 0 < b) : IsT t b (t.fdiv ↑(Int.gcd t b), b.fdiv ↑(Int.gcd t b)) := by
  have hg : 0 < Int.gcd t b := gcd_pos (by omega)
  have h1 := Int.gcd_dvd_left t b
  have h2 := Int.gcd_dvd_right t b
  have e1 := Int.ediv_mul_cancel h1
  have e2 := Int.ediv_mul_cancel h2
  have hgp : (0 : Int) < ↑(Int.gcd t b) := by omega
  refine ⟨?_, ?_, ?_, natAbs_fdiv_le t hgp, natAbs_fdiv_le b hgp⟩
  all_goals simp only [Int.fdiv_eq_ediv_of_dvd h1, Int.fdiv_eq_ediv_of_dvd h2]
  · generalize hx : t / ↑(Int.gcd t b) = x at *
    generalize hy : b / ↑(Int.gcd t b) = y at *
    generalize (↑(Int.gcd t b) : Int) = g at *
    rw [← e1, ← e2]
    grind
  · exact Int.ediv_pos_of_pos_of_dvd hb (by omega) h2
  · exact Int.gcd_ediv_gcd_ediv_gcd hg
theorem isT_neg {t b : Int} (hb : b < 0) : IsT t b (t.fdiv (-↑(Int.gcd t b)), b.fdiv (-↑(Int.gcd t b))) := by
  have z := isT_pos (t := -t) (b := -b) (by omega)
  rw [Int.neg_gcd, Int.gcd_neg] at z
  have hgp : (0 : Int) < ↑(Int.gcd t b) := by have := gcd_pos (a := t) (b := b) (by omega); omega
  have h1 := Int.gcd_dvd_left t b
  have h2 := Int.gcd_dvd_right t b
  have e1 : t.fdiv (-↑(Int.gcd t b)) = (-t).fdiv ↑(Int.gcd t b) := by
    rw [natAbs_fdiv_neg hgp h1, Int.fdiv_eq_ediv_of_dvd h1, Int.fdiv_eq_ediv_of_dvd (Int.dvd_neg.mpr h1), Int.neg_ediv_of_dvd h1]
  have e2 : b.fdiv (-↑(Int.gcd t b)) = (-b).fdiv ↑(Int.gcd t b) := by
    rw [natAbs_fdiv_neg hgp h2, Int.fdiv_eq_ediv_of_dvd h2, Int.fdiv_eq_ediv_of_dvd (Int.dvd_neg.mpr h2), Int.neg_ediv_of_dvd h2]
  rw [e1, e2]
  obtain ⟨a1, a2, a3, a4, a5⟩ := z
  simp only [Int.natAbs_neg] at a4 a5
  exact ⟨by grind, a2, a3, a4, a5⟩
theorem tyIs_ref {t : Ty} {p : Addr} {S : Store} {P : Bool → Prop} : tyIs t (.ref p) S P = getL S (.ref p) fun _ => P (t == .list) := by
  simp only [tyIs, getL]
/-- a fact on sizes -/
theorem log2_mul {a b : Int} {n m : Nat} (h : a.natAbs.log2 < n) (k : b.natAbs.log2 < m) : (a * b).natAbs.log2 < n + m := by
  rw [Int.natAbs_mul]
  have := mul_log2 a.natAbs b.natAbs
  omega
theorem log2_add {a b : Int} {n : Nat} (h : a.natAbs.log2 < n) (k : b.natAbs.log2 < n) : (a + b).natAbs.log2 < n + 1 := by
  have h1 : a.natAbs < 2 ^ n := by
    by_cases e : a.natAbs = 0
    · rw [e]; exact Nat.pow_pos (by decide)
    · exact (Nat.log2_lt e).mp h
  have h2 : b.natAbs < 2 ^ n := by
    by_cases e : b.natAbs = 0
    · rw [e]; exact Nat.pow_pos (by decide)
    · exact (Nat.log2_lt e).mp k
  by_cases e : (a + b).natAbs = 0
  · rw [e, Nat.log2_zero]; omega
  · refine (Nat.log2_lt e).mpr ?_
    rw [Nat.pow_succ]
    omega
/-- a known value, a longer store; a value of a known shape, a longer store -/
def RSpec.puS (S : Store) (p : Prop) (v0 : Val) : RSpec := ⟨p, fun v S' => v = v0 ∧ Sub S S', fun _ _ => False⟩
def RSpec.puR {α : Type} (S : Store) (p : Prop) (g : α → Val) (r : α → Store → Prop) : RSpec := ⟨p, fun v S' => ∃ a, v = g a ∧ r a S' ∧ Sub S S', fun _ _ => False⟩
section
variable {T : Tb} {f : Nat} {vs : List Val} {S S' : Store} {Q : QV} {E : Exn → Store → Prop} {p : Prop} {v0 v : Val} {α : Type} {g : α → Val} {r : α → Store → Prop} {x : Exn}
theorem wCall_puS (h : T.fn f vs S = .puS S p v0) : wCall T f vs S Q E = (p ∧ ∀ S', Sub S S' → Q v0 S') := propext ⟨fun ⟨a, b, _⟩ => by rw [h] at a b; exact ⟨a, fun S' k => b v0 S' ⟨rfl, k⟩⟩, fun ⟨a, b⟩ => by unfold wCall; rw [h]; exact ⟨a, fun v S' ⟨e, e2⟩ => by rw [e]; exact b S' e2, fun _ _ z => z.elim⟩⟩
theorem wCall_puR (h : T.fn f vs S = .puR S p g r) : wCall T f vs S Q E = (p ∧ ∀ a S', r a S' → Sub S S' → Q (g a) S') := propext ⟨fun ⟨a, b, _⟩ => by rw [h] at a b; exact ⟨a, fun z S' hz k => b (g z) S' ⟨z, rfl, hz, k⟩⟩, fun ⟨a, b⟩ => by unfold wCall; rw [h]; exact ⟨a, fun v S' ⟨z, e, hz, e2⟩ => by rw [e]; exact b z S' hz e2, fun _ _ z => z.elim⟩⟩
theorem puS_pre : (RSpec.puS S p v0).pre = p := rfl
theorem puR_pre : (RSpec.puR S p g r).pre = p := rfl
theorem finS_rt : (fin (.puS S p v0)).rt v S' = (v = v0 ∧ Sub S S') := propext ⟨fun ⟨_, a, b, c⟩ => ⟨b, c.trans a⟩, fun ⟨b, a⟩ => ⟨S, Sub.refl.trans a, b, Sub.refl⟩⟩
theorem finS_ex {e : Ev} : (fin (.puS S p v0)).ex x e S' = False := propext ⟨fun ⟨_, _, h⟩ => h, fun h => h.elim⟩
theorem finR_rt : (fin (.puR S p g r)).rt v S' = (∃ S1, Sub S1 S' ∧ ∃ a, v = g a ∧ r a S1 ∧ Sub S S1) := rfl
theorem finR_of {a : α} (h : r a S') (k : Sub S S') : (fin (.puR S p g r)).rt (g a) S' := ⟨S', Sub.refl, a, rfl, h, k⟩
theorem finR_ex {e : Ev} : (fin (.puR S p g r)).ex x e S' = False := propext ⟨fun ⟨_, _, h⟩ => h, fun h => h.elim⟩
end
theorem cop_dvd {a b c : Int} (h : a ∣ b * c) (g : Int.gcd a b = 1) : a ∣ c := by
  have h' := Int.natAbs_dvd_natAbs.mpr h
  rw [Int.natAbs_mul] at h'
  exact Int.natAbs_dvd_natAbs.mp (Nat.Coprime.dvd_of_dvd_mul_left g h')
theorem dvd_le {a b : Int} (h : a ∣ b) (g : b ≠ 0) : a.natAbs ≤ b.natAbs := Nat.le_of_dvd (by omega) (Int.natAbs_dvd_natAbs.mpr h)
theorem isT_of {t b : Int} {p : Int × Int} (hb : 0 < b) (e : p.1 * b = t * p.2) (h2 : 0 < p.2) (hg : Int.gcd p.1 p.2 = 1) : IsT t b p := by
  refine ⟨e, h2, hg, ?_, ?_⟩
  · by_cases ht : t = 0
    · subst ht
      rw [Int.zero_mul] at e
      rcases Int.mul_eq_zero.mp e with q | q
      · rw [q]; decide
      · omega
    · refine dvd_le (cop_dvd (b := p.2) ?_ hg) ht
      exact ⟨b, by rw [Int.mul_comm, ← e]⟩
  · refine dvd_le (cop_dvd (b := p.1) ?_ (by rw [Int.gcd_comm]; exact hg)) (by omega)
    exact ⟨t, by rw [e, Int.mul_comm]⟩
/-! ### points in lowest terms -/
abbrev tr (p : Int × Int × Int) : Val := .tup [.int p.1, .int p.2.1, .int p.2.2]
structure IsP (x y w : Int) (p : Int × Int × Int) : Prop where
  ex : p.1 * w = x * p.2.2
  ey : p.2.1 * w = y * p.2.2
  pos : 0 < p.2.2
  gcd : Int.gcd (Int.gcd p.1 p.2.1) p.2.2 = 1
  le1 : p.1.natAbs ≤ x.natAbs
  le2 : p.2.1.natAbs ≤ y.natAbs
  le3 : p.2.2.natAbs ≤ w.natAbs
theorem gcd3_div {x y w : Int} {g : Int} (hg : 0 < g) (h1 : g ∣ x) (h2 : g ∣ y) (h3 : g ∣ w) (e : Int.gcd (Int.gcd x y) w = g.natAbs) : Int.gcd (Int.gcd (x / g) (y / g)) (w / g) = 1 := by
  obtain ⟨a, rfl⟩ := h1
  obtain ⟨b, rfl⟩ := h2
  obtain ⟨c, rfl⟩ := h3
  rw [Int.mul_ediv_cancel_left _ (by omega), Int.mul_ediv_cancel_left _ (by omega), Int.mul_ediv_cancel_left _ (by omega)]
  rw [Int.gcd_mul_left, Int.natCast_mul, Int.natAbs_of_nonneg (by omega : 0 ≤ g), Int.gcd_mul_left] at e
  have : 0 < g.natAbs := by omega
  exact Nat.eq_of_mul_eq_mul_left this (by rw [e, Nat.mul_one])
theorem gcd3_dvd (x y w : Int) : (↑(Int.gcd (Int.gcd x y) w) : Int) ∣ x ∧ (↑(Int.gcd (Int.gcd x y) w) : Int) ∣ y ∧ (↑(Int.gcd (Int.gcd x y) w) : Int) ∣ w :=
  ⟨Int.dvd_trans (Int.gcd_dvd_left _ _) (Int.gcd_dvd_left x y), Int.dvd_trans (Int.gcd_dvd_left _ _) (Int.gcd_dvd_right x y), Int.gcd_dvd_right _ _⟩
theorem isP_pos {x y w : Int} (hw : 0 < w) : IsP x y w (x.fdiv ↑(Int.gcd (Int.gcd x y) w), y.fdiv ↑(Int.gcd (Int.gcd x y) w), w.fdiv ↑(Int.gcd (Int.gcd x y) w)) := by
  have hg : 0 < Int.gcd (Int.gcd x y) w := gcd_pos (by omega)
  obtain ⟨h1, h2, h3⟩ := gcd3_dvd x y w
  have e1 := Int.ediv_mul_cancel h1
  have e2 := Int.ediv_mul_cancel h2
  have e3 := Int.ediv_mul_cancel h3
  have hgp : (0 : Int) < ↑(Int.gcd (Int.gcd x y) w) := by omega
  have hgc := gcd3_div hgp h1 h2 h3 (Int.natAbs_natCast _).symm
  refine ⟨?_, ?_, ?_, ?_, natAbs_fdiv_le x hgp, natAbs_fdiv_le y hgp, natAbs_fdiv_le w hgp⟩
  all_goals simp only [Int.fdiv_eq_ediv_of_dvd h1, Int.fdiv_eq_ediv_of_dvd h2, Int.fdiv_eq_ediv_of_dvd h3]
  · generalize hx : x / ↑(Int.gcd (Int.gcd x y) w) = a at *
    generalize hy : w / ↑(Int.gcd (Int.gcd x y) w) = b at *
    generalize (↑(Int.gcd (Int.gcd x y) w) : Int) = g at *
    rw [← e1, ← e3]
    grind
  · generalize hx : y / ↑(Int.gcd (Int.gcd x y) w) = a at *
    generalize hy : w / ↑(Int.gcd (Int.gcd x y) w) = b at *
    generalize (↑(Int.gcd (Int.gcd x y) w) : Int) = g at *
    rw [← e2, ← e3]
    grind
  · exact Int.ediv_pos_of_pos_of_dvd hw (by omega) h3
  · exact hgc
theorem fdiv_neg_dvd {a g : Int} (hg : 0 < g) (h : g ∣ a) : a.fdiv (-g) = (-a).fdiv g := by
  rw [natAbs_fdiv_neg hg h, Int.fdiv_eq_ediv_of_dvd h, Int.fdiv_eq_ediv_of_dvd (Int.dvd_neg.mpr h), Int.neg_ediv_of_dvd h]
theorem isP_neg {x y w : Int} (hw : w < 0) : IsP x y w (x.fdiv (-↑(Int.gcd (Int.gcd x y) w)), y.fdiv (-↑(Int.gcd (Int.gcd x y) w)), w.fdiv (-↑(Int.gcd (Int.gcd x y) w))) := by
  have z := isP_pos (x := -x) (y := -y) (w := -w) (by omega)
  rw [Int.neg_gcd, Int.gcd_neg, Int.gcd_neg] at z
  have hgp : (0 : Int) < ↑(Int.gcd (Int.gcd x y) w) := by have := gcd_pos (a := ↑(Int.gcd x y)) (b := w) (by omega); omega
  obtain ⟨h1, h2, h3⟩ := gcd3_dvd x y w
  rw [fdiv_neg_dvd hgp h1, fdiv_neg_dvd hgp h2, fdiv_neg_dvd hgp h3]
  obtain ⟨a1, a2, a3, a4, a5, a6, a7⟩ := z
  simp only [Int.natAbs_neg] at a5 a6 a7
  exact ⟨by grind, by grind, a3, a4, a5, a6, a7⟩
/-- lowest terms are one -/
theorem third_dvd {p q : Int × Int × Int} (hp : 0 < p.2.2) (hq : 0 < q.2.2) (g : Int.gcd (Int.gcd p.1 p.2.1) p.2.2 = 1) (e1 : p.1 * q.2.2 = q.1 * p.2.2) (e2 : p.2.1 * q.2.2 = q.2.1 * p.2.2) : p.2.2 ∣ q.2.2 := by
  have d1 : p.2.2 ∣ p.1 * q.2.2 := ⟨q.1, by rw [e1, Int.mul_comm]⟩
  have d2 : p.2.2 ∣ p.2.1 * q.2.2 := ⟨q.2.1, by rw [e2, Int.mul_comm]⟩
  have d3 : p.2.2 ∣ p.2.2 * q.2.2 := ⟨q.2.2, rfl⟩
  have h1 := Int.dvd_coe_gcd d1 d2
  have h2 := Int.dvd_coe_gcd h1 d3
  have e : Int.gcd ↑(Int.gcd (p.1 * q.2.2) (p.2.1 * q.2.2)) (p.2.2 * q.2.2) = q.2.2.natAbs := by
    have : q.2.2 = ↑q.2.2.natAbs := by omega
    rw [Int.gcd_mul_right, Int.natCast_mul, ← this, Int.gcd_mul_right, g, Nat.one_mul]
  rw [e] at h2
  have : (↑q.2.2.natAbs : Int) = q.2.2 := by omega
  rwa [this] at h2
theorem low_uniq {p q : Int × Int × Int} (hp : 0 < p.2.2) (hq : 0 < q.2.2) (gp : Int.gcd (Int.gcd p.1 p.2.1) p.2.2 = 1) (gq : Int.gcd (Int.gcd q.1 q.2.1) q.2.2 = 1) (e1 : p.1 * q.2.2 = q.1 * p.2.2) (e2 : p.2.1 * q.2.2 = q.2.1 * p.2.2) : p = q := by
  have h1 := Int.le_of_dvd hq (third_dvd hp hq gp e1 e2)
  have h2 := Int.le_of_dvd hp (third_dvd hq hp gq e1.symm e2.symm)
  have e : p.2.2 = q.2.2 := by omega
  obtain ⟨a, b, c⟩ := p
  obtain ⟨a', b', c'⟩ := q
  simp only at e e1 e2 hp hq
  subst e
  rw [Int.eq_of_mul_eq_mul_right (by omega) e1, Int.eq_of_mul_eq_mul_right (by omega) e2]
/-- the spot behind two times -/
theorem spot_sum {x w a t d s d' qx qw u1 u2 A A' B B' : Int} (hw : w ≠ 0) (hd : d ≠ 0) (hd' : d' ≠ 0) (hq : qw ≠ 0) (hu : u2 ≠ 0) (h1 : qx * (w * d) = (x * d + a * t * w) * qw) (h2 : A * (qw * d') = (qx * d' + a * s * qw) * A')
    (h3 : u1 * (d * d') = (t * d' + s * d) * u2) (h4 : B * (w * u2) = (x * u2 + a * u1 * w) * B') : A * B' = B * A' := by
  have k1 : A * (w * d * d') = (x * d * d' + a * w * (t * d' + s * d)) * A' := by
    refine Int.eq_of_mul_eq_mul_left hq ?_
    have e1 : qw * (A * (w * d * d')) = (A * (qw * d')) * (w * d) := by grind
    have e2 : (qx * d' + a * s * qw) * A' * (w * d) = (qx * (w * d)) * d' * A' + a * s * qw * (w * d) * A' := by grind
    rw [e1, h2, e2, h1]
    grind
  have k2 : B * (w * d * d') = (x * d * d' + a * w * (t * d' + s * d)) * B' := by
    refine Int.eq_of_mul_eq_mul_left hu ?_
    have e1 : u2 * (B * (w * d * d')) = (B * (w * u2)) * (d * d') := by grind
    have e2 : (x * u2 + a * u1 * w) * B' * (d * d') = x * u2 * B' * (d * d') + a * w * B' * (u1 * (d * d')) := by grind
    rw [e1, h4, e2, h3]
    grind
  have hn : w * d * d' ≠ 0 := fun h => by
    rcases Int.mul_eq_zero.mp h with h | h
    · rcases Int.mul_eq_zero.mp h with h | h
      · exact hw h
      · exact hd h
    · exact hd' h
  refine Int.eq_of_mul_eq_mul_left hn ?_
  have e1 : w * d * d' * (A * B') = (A * (w * d * d')) * B' := by grind
  have e2 : w * d * d' * (B * A') = (B * (w * d * d')) * A' := by grind
  rw [e1, e2, k1, k2]
  grind
/-- lists of whole numbers with a bound -/
theorem rel_ints {P : Int → Prop} : ∀ {l ys : List Val}, Rel (fun _ o => ∃ z, o = some (.int z) ∧ P z) l ys → ∃ zs : List Int, ys = zs.map Val.int ∧ zs.length = l.length ∧ ∀ z ∈ zs, P z
  | [], _, h => ⟨[], h, rfl, fun z h => by cases h⟩
  | x :: l, ys, h => by
    rcases h with ⟨⟨z, h, _⟩, _⟩ | ⟨y, ys', rfl, ⟨z, h, hp⟩, h2⟩
    · cases h
    · cases h
      obtain ⟨zs, rfl, hl, ha⟩ := rel_ints h2
      exact ⟨z :: zs, rfl, by simp [hl], fun w hw => (List.mem_cons.mp hw).elim (fun e => e ▸ hp) (ha w)⟩
theorem opC_ne_empty {S : Store} {P : Bool → Prop} {p q : Addr} (hp : S p = some (.lst [])) (hq : S q = some (.lst [])) : opC .ne (.ref p) (.ref q) S P = P false := opC_ne_l hp hq .nil .nil
theorem map_int_inj : ∀ {a b : List Int}, a.map Val.int = b.map Val.int → a = b
  | [], [], _ => rfl
  | [], _ :: _, h => by cases h
  | _ :: _, [], h => by cases h
  | x :: a, y :: b, h => by
    rw [List.map_cons, List.map_cons] at h
    injection h with h1 h2
    injection h1 with h1
    rw [h1, map_int_inj h2]
theorem ints_inj {S : Store} {p : Addr} {a b : List Int} (h : S p = some (.lst (a.map Val.int))) (k : S p = some (.lst (b.map Val.int))) : a = b := by
  rw [h] at k
  injection k with k
  injection k with k
  exact map_int_inj k
theorem dt32 {S : Store} {a b c d e : Int} : Dt S (.tup [.tup [.int a, .int b, .int c], .tup [.int d, .int e]]) (.tuple [.tuple [.int a, .int b, .int c], .tuple [.int d, .int e]]) := .tup (.cons dt3 (.cons dt2 .nil))
theorem opC_eq_t32 {S : Store} {P : Bool → Prop} {a b c d e a' b' c' d' e' : Int} : opC .eq (.tup [.tup [.int a, .int b, .int c], .tup [.int d, .int e]]) (.tup [.tup [.int a', .int b', .int c'], .tup [.int d', .int e']]) S P = P (decide ((a = a' ∧ b = b' ∧ c = c') ∧ d = d' ∧ e = e')) := by
  rw [opC_eq_dt dt32 dt32]
  congr 1
  rw [Bool.eq_iff_iff]
  simp [PyData.eqv, PyData.eqvAll]
theorem opC_ne_t32 {S : Store} {P : Bool → Prop} {a b c d e a' b' c' d' e' : Int} : opC .ne (.tup [.tup [.int a, .int b, .int c], .tup [.int d, .int e]]) (.tup [.tup [.int a', .int b', .int c'], .tup [.int d', .int e']]) S P = P (!decide ((a = a' ∧ b = b' ∧ c = c') ∧ d = d' ∧ e = e')) := by
  rw [opC_ne_dt dt32 dt32]
  congr 1
  rw [Bool.eq_iff_iff]
  simp [PyData.eqv, PyData.eqvAll]
theorem ne_old {S : Store} {r p : Addr} {o : Ob} (h : S r = some o) (k : S p = none) : (p = r) = False := propext ⟨fun e => (by rw [e, h] at k; cases k), fun z => z.elim⟩
/-- the common begin of a law: the cells, filled up -/
theorem cells_big {ns : List Int} (hb : ∀ z ∈ ns, Builtin.Int.intBits z ≤ 1048576) {e : List Int} (he : ∀ z ∈ e, z = 0) : ∀ z ∈ ns ++ e, z.natAbs.log2 < 10000000 := by
  intro z hz
  rcases List.mem_append.mp hz with h | h
  · have := bits_log2 (hb z h); omega
  · rw [he z h]; decide
/-- None, or a value of a known shape -/
def RSpec.puO {α : Type} (S : Store) (p : Prop) (n : Prop) (g : α → Val) (r : α → Prop) : RSpec := ⟨p, fun v S' => ((v = .non ∧ n) ∨ ∃ a, v = g a ∧ r a) ∧ S' = S, fun _ _ => False⟩
section
variable {T : Tb} {f : Nat} {vs : List Val} {S S' : Store} {Q : QV} {E : Exn → Store → Prop} {p n : Prop} {v : Val} {α : Type} {g : α → Val} {r : α → Prop} {x : Exn}
theorem wCall_puO (h : T.fn f vs S = .puO S p n g r) : wCall T f vs S Q E = (p ∧ (n → Q .non S) ∧ ∀ a, r a → Q (g a) S) := propext ⟨fun ⟨a, b, _⟩ => by rw [h] at a b; exact ⟨a, fun hn => b .non S ⟨.inl ⟨rfl, hn⟩, rfl⟩, fun z hz => b (g z) S ⟨.inr ⟨z, rfl, hz⟩, rfl⟩⟩,
  fun ⟨a, b, c⟩ => by
    unfold wCall
    rw [h]
    refine ⟨a, fun v S' hv => ?_, fun _ _ z => z.elim⟩
    obtain ⟨hv, e2⟩ := hv
    rw [e2]
    rcases hv with ⟨e, hn⟩ | ⟨z, e, hz⟩
    · rw [e]; exact b hn
    · rw [e]; exact c z hz⟩
theorem puO_pre : (RSpec.puO S p n g r).pre = p := rfl
theorem finO_rt : (fin (.puO S p n g r)).rt v S' = (((v = .non ∧ n) ∨ ∃ a, v = g a ∧ r a) ∧ Sub S S') := propext ⟨fun ⟨_, a, b, c⟩ => ⟨b, c ▸ a⟩, fun ⟨b, a⟩ => ⟨S, a, b, rfl⟩⟩
theorem finO_ex {e : Ev} : (fin (.puO S p n g r)).ex x e S' = False := propext ⟨fun ⟨_, _, h⟩ => h, fun h => h.elim⟩
end
end BW
set_option Elab.async false
set_option linter.all false
set_option maxRecDepth 100000
set_option maxHeartbeats 4000000
namespace BW
open PySem PySem.Spec PyProof.Rows L2
/-! ### a comprehension that changes nothing: its list is a value -/
theorem frz_go {T : Tb} {own : List Nat} {g : Tg} {hc : Bool} {cond elt : Ex} {env : Ev} {G : Store → Prop} {D : Addr} {Q : QV} {S0 : Store} {all : List Val} (R : Val → Option Val → Prop) (hS0 : S0 D = none) (hG : ∀ S, Sub S0 S → G S)
    (hs : ∀ x ∈ all, ∀ S, Sub S0 S → ∀ K : Option Val → Store → Prop, (∀ o, R x o → K o S) →
      tgt g x (wipeE env own) fun e2 => if hc = true then wT T cond e2 S (fun b S1 => if b = true then wE T elt e2 S1 (fun y S2 => K (some y) S2) (fun _ _ => False) else K none S1) (fun _ _ => False) else wE T elt e2 S (fun y S2 => K (some y) S2) fun _ _ => False)
    (hQ : ∀ ys, Rel R all ys → Q (.sl ys) S0) :
    ∀ (items acc : List Val), (∀ x ∈ items, x ∈ all) → acc.length + items.length ≤ LIM → (∀ ys, Rel R items ys → Rel R all (acc ++ ys)) →
      wTurns G (fun x P => tgt g x (wipeE env own) P) (fun e2 S2 P => if hc = true then wT T cond e2 S2 P fun _ _ => False else P true S2) (fun e2 S2 P => wE T elt e2 S2 P fun _ _ => False) D (endC false D Q) items (put S0 D (.lst acc))
  | [], acc, _, _, hr => ⟨hG _ (Sub.put hS0), acc, put_same, by rw [del_put hS0]; exact hQ acc (by have := hr [] rfl; rwa [List.append_nil] at this)⟩
  | x :: l, acc, hm, hl, hr => by
    refine ⟨hG _ (Sub.put hS0), ?_⟩
    simp only [List.length_cons] at hl
    have step := hs x (hm x List.mem_cons_self) _ (Sub.put hS0 (o := .lst acc)) (fun o S2 => R x o ∧ S2 = put S0 D (.lst acc)) fun o a => ⟨a, rfl⟩
    have no : ∀ S1, R x none ∧ S1 = put S0 D (.lst acc) → wTurns G (fun x P => tgt g x (wipeE env own) P) (fun e2 S2 P => if hc = true then wT T cond e2 S2 P fun _ _ => False else P true S2) (fun e2 S2 P => wE T elt e2 S2 P fun _ _ => False) D (endC false D Q) l S1 := fun S1 ⟨a, b⟩ => b ▸
      frz_go R hS0 hG hs hQ l acc (fun y hy => hm y (List.mem_cons_of_mem _ hy)) (by omega) (fun ys hy => hr ys (.inl ⟨a, hy⟩))
    have yes : ∀ y S2, R x (some y) ∧ S2 = put S0 D (.lst acc) → ∃ acc, S2 D = some (.lst acc) ∧ acc.length < LIM ∧ wTurns G (fun x P => tgt g x (wipeE env own) P) (fun e2 S2 P => if hc = true then wT T cond e2 S2 P fun _ _ => False else P true S2) (fun e2 S2 P => wE T elt e2 S2 P fun _ _ => False) D (endC false D Q) l (put S2 D (.lst (acc ++ [y]))) := by
      rintro y S2 ⟨a, rfl⟩
      refine ⟨acc, put_same, by omega, ?_⟩
      rw [put_put]
      refine frz_go R hS0 hG hs hQ l (acc ++ [y]) (fun y hy => hm y (List.mem_cons_of_mem _ hy)) ?_ fun ys hy => ?_
      · rw [List.length_append]; simp only [List.length_cons, List.length_nil]; omega
      · rw [List.append_assoc]; exact hr _ (.inr ⟨y, ys, rfl, a, hy⟩)
    refine tgt_mono (fun e2 h2 => ?_) step
    cases hc with
    | true =>
      refine wT_mono cond (fun b S1 h => ?_) (fun _ _ z => z) h2
      cases b with
      | true => exact wE_mono elt yes (fun _ _ z => z) h
      | false => exact no S1 h
    | false => exact wE_mono elt yes (fun _ _ z => z) h2
theorem frz_rule {T : Tb} {own : List Nat} {g : Tg} {hc : Bool} {cond elt : Ex} {env : Ev} {G : Store → Prop} {Q : QV} {S0 : Store} {items : List Val} (R : Val → Option Val → Prop) (hG : ∀ S, Sub S0 S → G S) (hl : items.length ≤ LIM)
    (hs : ∀ x ∈ items, ∀ S, Sub S0 S → ∀ K : Option Val → Store → Prop, (∀ o, R x o → K o S) →
      tgt g x (wipeE env own) fun e2 => if hc = true then wT T cond e2 S (fun b S1 => if b = true then wE T elt e2 S1 (fun y S2 => K (some y) S2) (fun _ _ => False) else K none S1) (fun _ _ => False) else wE T elt e2 S (fun y S2 => K (some y) S2) fun _ _ => False)
    (hQ : ∀ ys, Rel R items ys → Q (.sl ys) S0) : wFrz T own g hc cond elt env G Q items S0 := fun p hp =>
  frz_go R hp hG hs hQ items [] (fun _ h => h) (by simpa using hl) (fun _ h => h)
/-- each item gives what a function says -/
theorem frz_map {T : Tb} {own : List Nat} {g : Tg} {cond elt : Ex} {env : Ev} {G : Store → Prop} {Q : QV} {S0 : Store} {items : List Val} (f : Val → Val) (hG : ∀ S, Sub S0 S → G S) (hl : items.length ≤ LIM)
    (hs : ∀ x ∈ items, ∀ S, Sub S0 S → ∀ K : QV, K (f x) S → tgt g x (wipeE env own) fun e2 => wE T elt e2 S K fun _ _ => False) (hQ : Q (.sl (items.map f)) S0) : wFrz T own g false cond elt env G Q items S0 :=
  frz_rule (fun x o => o = some (f x)) hG hl (fun x hx S sb K hK => by
    simp only [Bool.false_eq_true, if_false]
    exact hs x hx S sb (fun y S2 => K (some y) S2) (hK _ rfl)) fun ys h => by rw [rel_map h]; exact hQ
/-- a plain def that may refuse: the class of the refusal, when -/
def RSpec.puX {α : Type} (S : Store) (p : Prop) (n : Prop) (c : Nat) (g : α → Val) (r : α → Prop) : RSpec := ⟨p, fun v S' => ¬ n ∧ ∃ a, v = g a ∧ r a ∧ S' = S, fun x S' => n ∧ x = ⟨c, []⟩ ∧ S' = S⟩
section
variable {T : Tb} {f : Nat} {vs : List Val} {S S' : Store} {Q : QV} {E : Exn → Store → Prop} {p n : Prop} {c : Nat} {v : Val} {α : Type} {g : α → Val} {r : α → Prop} {x : Exn}
theorem wCall_puX (h : T.fn f vs S = .puX S p n c g r) : wCall T f vs S Q E = (p ∧ (¬ n → ∀ a, r a → Q (g a) S) ∧ (n → E ⟨c, []⟩ S)) := propext ⟨fun ⟨a, b, d⟩ => by
    rw [h] at a b d
    exact ⟨a, fun hn z hz => b (g z) S ⟨hn, z, rfl, hz, rfl⟩, fun hn => d _ S ⟨hn, rfl, rfl⟩⟩,
  fun ⟨a, b, d⟩ => by
    unfold wCall
    rw [h]
    refine ⟨a, fun v S' hv => ?_, fun x S' hx => ?_⟩
    · obtain ⟨hn, z, e, hz, e2⟩ := hv
      rw [e, e2]
      exact b hn z hz
    · obtain ⟨hn, e, e2⟩ := hx
      rw [e, e2]
      exact d hn⟩
theorem puX_pre : (RSpec.puX S p n c g r).pre = p := rfl
theorem finX_rt : (fin (.puX S p n c g r)).rt v S' = ((¬ n ∧ ∃ a, v = g a ∧ r a) ∧ Sub S S') := propext ⟨fun ⟨_, a, hn, z, b, c, d⟩ => ⟨⟨hn, z, b, c⟩, d ▸ a⟩, fun ⟨⟨hn, z, b, c⟩, a⟩ => ⟨S, a, hn, z, b, c, rfl⟩⟩
theorem finX_nx {e : Ev} : (fin (.puX S p n c g r)).nx e S' = ((¬ n ∧ ∃ a, .non = g a ∧ r a) ∧ Sub S S') := propext ⟨fun ⟨_, a, hn, z, b, c, d⟩ => ⟨⟨hn, z, b, c⟩, d ▸ a⟩, fun ⟨⟨hn, z, b, c⟩, a⟩ => ⟨S, a, hn, z, b, c, rfl⟩⟩
theorem finX_ex {e : Ev} : (fin (.puX S p n c g r)).ex x e S' = ((n ∧ x = ⟨c, []⟩) ∧ Sub S S') := propext ⟨fun ⟨_, a, hn, b, d⟩ => ⟨⟨hn, b⟩, d ▸ a⟩, fun ⟨⟨hn, b⟩, a⟩ => ⟨S, a, hn, b, rfl⟩⟩
end
/-- which of these -/
theorem exn_inj {c d : Nat} {fs gs : List (Nat × Val)} : ((⟨c, fs⟩ : Exn) = ⟨d, gs⟩) = (c = d ∧ fs = gs) := propext ⟨fun h => by cases h; exact ⟨rfl, rfl⟩, fun ⟨a, b⟩ => by rw [a, b]⟩
/-! ### lists that never change, compared -/
section
variable {S : Store} {P : Bool → Prop} {l m : List Val} {ds es : List PyData}
theorem opC_ne_sl (hl : Dts S l ds) (hm : Dts S m es) (sx : SeqAt.shaped (.list ds) = true := by rfl) (sy : SeqAt.shaped (.list es) = true := by rfl) : opC .ne (.sl l) (.sl m) S P = P (!PyData.eqvAll ds es) := by
  rw [opC_ne_dt (.lst (.inr rfl) hl) (.lst (.inr rfl) hm) sx sy]
  simp [PyData.eqv]
theorem opC_eq_sl (hl : Dts S l ds) (hm : Dts S m es) (sx : SeqAt.shaped (.list ds) = true := by rfl) (sy : SeqAt.shaped (.list es) = true := by rfl) : opC .eq (.sl l) (.sl m) S P = P (PyData.eqvAll ds es) := by
  rw [opC_eq_dt (.lst (.inr rfl) hl) (.lst (.inr rfl) hm) sx sy]
  simp [PyData.eqv]
theorem opC_ne_nil : opC .ne (.sl []) (.sl []) S P = P false := opC_ne_sl .nil .nil
theorem opC_eq_nil : opC .eq (.sl []) (.sl []) S P = P true := opC_eq_sl .nil .nil
end
/-- nothing is kept -/
theorem rel_none {l ys : List Val} (h : Rel (fun _ o => o = none) l ys) : ys = [] := by
  have := rel_filter (p := fun _ => false) (h.imp fun x o h => by rw [h]; rfl)
  rw [this]; simp
end BW
--@R 18
set_option Elab.async false
set_option linter.all false
set_option maxRecDepth 100000
set_option maxHeartbeats 4000000
namespace BW.Lw
open PySem PySem.Spec PyProof.Rows L2 BW
def top (i : Nat) : Stmt := PySem.Challenge.pw_bouncewise_k85_out_of_the_box.main.body.getD i (.Pass ⟨0, 0, 0, 0⟩)
def mth (i j : Nat) : Stmt := match top i with
  | .ClassDef _ _ _ b _ _ _ _ _ _ _ => b.getD j (.Pass ⟨0, 0, 0, 0⟩)
  | _ => .Pass ⟨0, 0, 0, 0⟩
def C_divisor : Cc := { N := ["one", "other", "rest"], sc := defScope (top 16), fns := [], cst := [], st := cellsOf (defScope (top 16)), exs := [], mks := [], cls := [], sups := [], mtb := [], dic := [], dT := true }
def s_divisor : Sx := .seq (.whl (.cmp (.ne) (.var 1) (.lit (.int 0))) (.seq (.asg (.nm 2) (.bin (.mod) (.var 0) (.var 1))) (.seq (.asg (.nm 0) (.var 1)) (.asg (.nm 1) (.var 2))))) (.ret (.blt (.abs) (.cons (.var 0) (.nil))))
theorem c_divisor : cSs (cS 60 C_divisor) (defBody (top 16)) = some s_divisor := by kernel_rfl
theorem sc_divisor : FnScope C_divisor.N ["one", "other"] (defScope (top 16)) := C8.fnScope_by (by decide +kernel)
def C_point_of : Cc := { N := ["x", "y", "w", "share"], sc := defScope (top 17), fns := [(("divisor", 2), (0, []))], cst := [], st := cellsOf (defScope (top 17)), exs := [("NoPoint", 10)], mks := [], cls := [], sups := [], mtb := [], dic := [], dT := true }
def s_point_of : Sx := .seq (.ite (.cmp (.eq) (.var 2) (.lit (.int 0))) (.raise 10 [] (.nil)) (.skip)) (.seq (.asg (.nm 3) (.call 0 (.cons (.call 0 (.cons (.var 0) (.cons (.var 1) (.nil))) []) (.cons (.var 2) (.nil))) [])) (.seq (.ite (.cmp (.lt) (.var 2) (.lit (.int 0))) (.asg (.nm 3) (.neg (.var 3))) (.skip)) (.ret (.tup (.cons (.bin (.fdiv) (.var 0) (.var 3)) (.cons (.bin (.fdiv) (.var 1) (.var 3)) (.cons (.bin (.fdiv) (.var 2) (.var 3)) (.nil))))))))
theorem c_point_of : cSs (cS 60 C_point_of) (defBody (top 17)) = some s_point_of := by kernel_rfl
theorem sc_point_of : FnScope C_point_of.N ["x", "y", "w"] (defScope (top 17)) := C8.fnScope_by (by decide +kernel)
def C_look_inside : Cc := { N := ["wide", "high", "P", "x", "y", "w"], sc := defScope (top 20), fns := [], cst := [], st := cellsOf (defScope (top 20)), exs := [("OutOfBox", 18)], mks := [], cls := [], sups := [], mtb := [], dic := [], dT := true }
def s_look_inside : Sx := .seq (.asg (.tp [3, 4, 5]) (.var 2)) (.seq (.ite (.orr (.cmp (.lt) (.var 0) (.lit (.int 1))) (.cmp (.lt) (.var 1) (.lit (.int 1)))) (.raise 18 [] (.nil)) (.skip)) (.ite (.orr (.cmp (.le) (.var 3) (.lit (.int 0))) (.orr (.cmp (.le) (.var 4) (.lit (.int 0))) (.orr (.cmp (.ge) (.var 3) (.bin (.mul) (.var 0) (.var 5))) (.cmp (.ge) (.var 4) (.bin (.mul) (.var 1) (.var 5)))))) (.raise 18 [] (.nil)) (.skip)))
theorem c_look_inside : cSs (cS 60 C_look_inside) (defBody (top 20)) = some s_look_inside := by kernel_rfl
theorem sc_look_inside : FnScope C_look_inside.N ["wide", "high", "P"] (defScope (top 20)) := C8.fnScope_by (by decide +kernel)
def C_swung : Cc := { N := ["far", "span", "step", "turns", "rest", "place", "way"], sc := defScope (top 21), fns := [(("swung", 3), (18, []))], cst := [], st := cellsOf (defScope (top 21)), exs := [], mks := [], cls := [], sups := [], mtb := [], dic := [], dT := true }
def s_swung : Sx := .seq (.ite (.cmp (.lt) (.var 2) (.lit (.int 0))) (.seq (.asg (.tp [5, 6]) (.call 18 (.cons (.bin (.sub) (.var 1) (.var 0)) (.cons (.var 1) (.cons (.neg (.var 2)) (.nil)))) [])) (.ret (.tup (.cons (.bin (.sub) (.var 1) (.var 5)) (.cons (.neg (.var 6)) (.nil)))))) (.skip)) (.seq (.asg (.tp [3, 4]) (.blt (.divmod) (.cons (.var 0) (.cons (.var 1) (.nil))))) (.seq (.ite (.cmp (.eq) (.bin (.mod) (.var 3) (.lit (.int 2))) (.lit (.int 0))) (.ret (.tup (.cons (.var 4) (.cons (.var 2) (.nil))))) (.skip)) (.ret (.tup (.cons (.bin (.sub) (.var 1) (.var 4)) (.cons (.neg (.var 2)) (.nil)))))))
theorem c_swung : cSs (cS 60 C_swung) (defBody (top 21)) = some s_swung := by kernel_rfl
theorem sc_swung : FnScope C_swung.N ["far", "span", "step"] (defScope (top 21)) := C8.fnScope_by (by decide +kernel)
def C_box_at : Cc := { N := ["wide", "high", "P", "heading", "t", "x", "y", "w", "top", "bottom", "many", "right", "a", "up", "b"], sc := defScope (top 22), fns := [(("look_inside", 3), (2, [])), (("swung", 3), (3, [])), (("point_of", 3), (1, []))], cst := [], st := cellsOf (defScope (top 22)), exs := [], mks := [], cls := [], sups := [], mtb := [], dic := [], dT := true }
def s_box_at : Sx := .seq (.expr (.call 2 (.cons (.var 0) (.cons (.var 1) (.cons (.var 2) (.nil)))) [])) (.seq (.asg (.tp [5, 6, 7]) (.var 2)) (.seq (.asg (.tp [8, 9]) (.var 4)) (.seq (.asg (.nm 10) (.bin (.mul) (.var 7) (.var 9))) (.seq (.asg (.tp [11, 12]) (.call 3 (.cons (.bin (.add) (.bin (.mul) (.var 5) (.var 9)) (.bin (.mul) (.bin (.mul) (.idx (.var 3) (.lit (.int 0))) (.var 8)) (.var 7))) (.cons (.bin (.mul) (.var 0) (.var 10)) (.cons (.idx (.var 3) (.lit (.int 0))) (.nil)))) [])) (.seq (.asg (.tp [13, 14]) (.call 3 (.cons (.bin (.add) (.bin (.mul) (.var 6) (.var 9)) (.bin (.mul) (.bin (.mul) (.idx (.var 3) (.lit (.int 1))) (.var 8)) (.var 7))) (.cons (.bin (.mul) (.var 1) (.var 10)) (.cons (.idx (.var 3) (.lit (.int 1))) (.nil)))) [])) (.ret (.tup (.cons (.call 1 (.cons (.var 11) (.cons (.var 13) (.cons (.var 10) (.nil)))) []) (.cons (.tup (.cons (.var 12) (.cons (.var 14) (.nil)))) (.nil))))))))))
theorem c_box_at : cSs (cS 60 C_box_at) (defBody (top 22)) = some s_box_at := by kernel_rfl
theorem sc_box_at : FnScope C_box_at.N ["wide", "high", "P", "heading", "t"] (defScope (top 22)) := C8.fnScope_by (by decide +kernel)
def C_box_corner : Cc := { N := ["wide", "high", "P", "heading", "x", "y", "w", "a", "b", "share", "off", "cycle", "turns", "early"], sc := defScope (top 24), fns := [(("look_inside", 3), (2, [])), (("divisor", 2), (0, []))], cst := [], st := cellsOf (defScope (top 24)), exs := [], mks := [], cls := [], sups := [], mtb := [], dic := [], dT := true }
def s_box_corner : Sx := .seq (.expr (.call 2 (.cons (.var 0) (.cons (.var 1) (.cons (.var 2) (.nil)))) [])) (.seq (.asg (.tp [4, 5, 6]) (.var 2)) (.seq (.asg (.tp [7, 8]) (.var 3)) (.seq (.asg (.nm 9) (.call 0 (.cons (.bin (.mul) (.var 0) (.var 8)) (.cons (.bin (.mul) (.var 1) (.var 7)) (.nil))) [])) (.seq (.asg (.nm 10) (.bin (.sub) (.bin (.mul) (.var 8) (.var 4)) (.bin (.mul) (.var 7) (.var 5)))) (.seq (.ite (.cmp (.ne) (.bin (.mod) (.var 10) (.bin (.mul) (.var 9) (.var 6))) (.lit (.int 0))) (.ret (.lit (.non))) (.skip)) (.seq (.asg (.nm 11) (.bin (.fdiv) (.bin (.mul) (.var 1) (.blt (.abs) (.cons (.var 7) (.nil)))) (.var 9))) (.seq (.asg (.nm 12) (.bin (.mod) (.bin (.mul) (.bin (.fdiv) (.var 10) (.bin (.mul) (.var 9) (.var 6))) (.nil)) (.var 11))) (.seq (.asg (.nm 13) (.nil)) (.ret (.nil))))))))))
theorem c_box_corner : cSs (cS 60 C_box_corner) (defBody (top 24)) = some s_box_corner := by kernel_rfl
theorem sc_box_corner : FnScope C_box_corner.N ["wide", "high", "P", "heading"] (defScope (top 24)) := C8.fnScope_by (by decide +kernel)
def C_box_round : Cc := { N := ["wide", "high", "P", "heading", "a", "b", "share"], sc := defScope (top 25), fns := [(("look_inside", 3), (2, [])), (("divisor", 2), (0, []))], cst := [], st := cellsOf (defScope (top 25)), exs := [], mks := [], cls := [], sups := [], mtb := [], dic := [], dT := true }
def s_box_round : Sx := .seq (.expr (.call 2 (.cons (.var 0) (.cons (.var 1) (.cons (.var 2) (.nil)))) [])) (.seq (.asg (.tp [4, 5]) (.var 3)) (.seq (.asg (.nm 6) (.call 0 (.cons (.bin (.mul) (.var 0) (.var 5)) (.cons (.bin (.mul) (.var 1) (.var 4)) (.nil))) [])) (.ret (.tup (.cons (.bin (.fdiv) (.bin (.mul) (.bin (.mul) (.lit (.int 2)) (.var 0)) (.var 1)) (.var 6)) (.cons (.bin (.fdiv) (.bin (.mul) (.lit (.int 2)) (.bin (.add) (.bin (.mul) (.var 1) (.blt (.abs) (.cons (.var 4) (.nil)))) (.bin (.mul) (.var 0) (.blt (.abs) (.cons (.var 5) (.nil)))))) (.var 6)) (.nil)))))))
theorem c_box_round : cSs (cS 60 C_box_round) (defBody (top 25)) = some s_box_round := by kernel_rfl
theorem sc_box_round : FnScope C_box_round.N ["wide", "high", "P", "heading"] (defScope (top 25)) := C8.fnScope_by (by decide +kernel)
def C__law_number : Cc := { N := ["cell", "way"], sc := defScope (top 27), fns := [], cst := [], st := cellsOf (defScope (top 27)), exs := [], mks := [], cls := [], sups := [], mtb := [], dic := [], dT := true }
def s__law_number : Sx := .seq (.asg (.nm 1) (.bin (.mod) (.var 0) (.lit (.int 5)))) (.seq (.ite (.cmp (.lt) (.var 1) (.lit (.int 2))) (.ret (.bin (.sub) (.bin (.mod) (.bin (.mul) (.bin (.fdiv) (.var 0) (.lit (.int 5))) (.bin (.add) (.bin (.fdiv) (.bin (.pow) (.lit (.int 10)) (.lit (.int 59))) (.lit (.int 7))) (.lit (.int 48271)))) (.bin (.add) (.bin (.mul) (.lit (.int 2)) (.bin (.pow) (.lit (.int 10)) (.lit (.int 59)))) (.lit (.int 1)))) (.bin (.pow) (.lit (.int 10)) (.lit (.int 59))))) (.skip)) (.seq (.ite (.cmp (.eq) (.var 1) (.lit (.int 2))) (.ret (.bin (.sub) (.bin (.mod) (.bin (.fdiv) (.var 0) (.lit (.int 5))) (.lit (.int 2001))) (.lit (.int 1000)))) (.skip)) (.ret (.bin (.sub) (.bin (.mod) (.bin (.fdiv) (.var 0) (.lit (.int 5))) (.lit (.int 13))) (.lit (.int 6))))))
theorem c__law_number : cSs (cS 60 C__law_number) (defBody (top 27)) = some s__law_number := by kernel_rfl
theorem sc__law_number : FnScope C__law_number.N ["cell"] (defScope (top 27)) := C8.fnScope_by (by decide +kernel)
def C__law_side : Cc := { N := ["cell", "way"], sc := defScope (top 28), fns := [], cst := [], st := cellsOf (defScope (top 28)), exs := [], mks := [], cls := [], sups := [], mtb := [], dic := [], dT := true }
def s__law_side : Sx := .seq (.asg (.nm 1) (.bin (.mod) (.var 0) (.lit (.int 4)))) (.seq (.ite (.cmp (.eq) (.var 1) (.lit (.int 1))) (.ret (.bin (.add) (.lit (.int 1)) (.bin (.mod) (.bin (.mul) (.bin (.fdiv) (.var 0) (.lit (.int 4))) (.bin (.add) (.bin (.fdiv) (.bin (.pow) (.lit (.int 10)) (.lit (.int 59))) (.lit (.int 11))) (.lit (.int 104729)))) (.bin (.sub) (.bin (.pow) (.lit (.int 10)) (.lit (.int 60))) (.lit (.int 1)))))) (.skip)) (.seq (.ite (.cmp (.eq) (.var 1) (.lit (.int 2))) (.ret (.bin (.add) (.lit (.int 1)) (.bin (.mod) (.bin (.fdiv) (.var 0) (.lit (.int 4))) (.lit (.int 1000))))) (.skip)) (.ret (.bin (.add) (.lit (.int 1)) (.bin (.mod) (.bin (.fdiv) (.var 0) (.lit (.int 4))) (.lit (.int 9)))))))
theorem c__law_side : cSs (cS 60 C__law_side) (defBody (top 28)) = some s__law_side := by kernel_rfl
theorem sc__law_side : FnScope C__law_side.N ["cell"] (defScope (top 28)) := C8.fnScope_by (by decide +kernel)
def C__law_measure : Cc := { N := ["one", "other", "pair"], sc := defScope (top 29), fns := [], cst := [], st := cellsOf (defScope (top 29)), exs := [], mks := [], cls := [], sups := [], mtb := [], dic := [], dT := true }
def s__law_measure : Sx := .seq (.asg (.nm 2) (.blt (.sorted) (.cons (.lst false (.cons (.blt (.abs) (.cons (.var 0) (.nil))) (.cons (.blt (.abs) (.cons (.var 1) (.nil))) (.nil)))) (.nil)))) (.seq (.whl (.cmp (.gt) (.idx (.var 2) (.lit (.int 0))) (.lit (.int 0))) (.asg (.nm 2) (.lst false (.cons (.bin (.mod) (.idx (.var 2) (.lit (.int 1))) (.idx (.var 2) (.lit (.int 0)))) (.cons (.idx (.var 2) (.lit (.int 0))) (.nil)))))) (.ret (.idx (.var 2) (.lit (.int 1)))))
theorem c__law_measure : cSs (cS 60 C__law_measure) (defBody (top 29)) = some s__law_measure := by kernel_rfl
theorem sc__law_measure : FnScope C__law_measure.N ["one", "other"] (defScope (top 29)) := C8.fnScope_by (by decide +kernel)
def C__law_reduced : Cc := { N := ["top", "bottom", "size", "part"], sc := defScope (top 30), fns := [(("_law_measure", 2), (9, []))], cst := [], st := cellsOf (defScope (top 30)), exs := [], mks := [], cls := [], sups := [], mtb := [], dic := [], dT := true }
def s__law_reduced : Sx := .seq (.asg (.nm 2) (.call 9 (.cons (.var 1) (.cons (.var 0) (.nil))) [])) (.ret (.blt (.tuple) (.cons (.comp false [3] (.nm 3) (.seq) (.cons (.tup (.cons (.var 0) (.cons (.var 1) (.nil)))) (.nil)) false (.nil) (.bin (.fdiv) (.var 3) (.var 2))) (.nil))))
theorem c__law_reduced : cSs (cS 60 C__law_reduced) (defBody (top 30)) = some s__law_reduced := by kernel_rfl
theorem sc__law_reduced : FnScope C__law_reduced.N ["top", "bottom"] (defScope (top 30)) := C8.fnScope_by (by decide +kernel)
def C__law_point : Cc := { N := ["x", "y", "w", "size", "part"], sc := defScope (top 31), fns := [(("_law_measure", 2), (9, []))], cst := [], st := cellsOf (defScope (top 31)), exs := [], mks := [], cls := [], sups := [], mtb := [], dic := [], dT := true }
def s__law_point : Sx := .seq (.asg (.nm 3) (.call 9 (.cons (.var 2) (.cons (.call 9 (.cons (.var 0) (.cons (.var 1) (.nil))) []) (.nil))) [])) (.ret (.blt (.tuple) (.cons (.comp false [4] (.nm 4) (.seq) (.cons (.tup (.cons (.var 0) (.cons (.var 1) (.cons (.var 2) (.nil))))) (.nil)) false (.nil) (.bin (.fdiv) (.var 4) (.var 3))) (.nil))))
theorem c__law_point : cSs (cS 60 C__law_point) (defBody (top 31)) = some s__law_point := by kernel_rfl
theorem sc__law_point : FnScope C__law_point.N ["x", "y", "w"] (defScope (top 31)) := C8.fnScope_by (by decide +kernel)
def C__law_heading : Cc := { N := ["a", "b"], sc := defScope (top 32), fns := [(("_law_reduced", 2), (10, []))], cst := [], st := cellsOf (defScope (top 32)), exs := [], mks := [], cls := [], sups := [], mtb := [], dic := [], dT := true }
def s__law_heading : Sx := .seq (.ite (.andd (.cmp (.eq) (.var 0) (.lit (.int 0))) (.cmp (.eq) (.var 1) (.lit (.int 0)))) (.ret (.tup (.cons (.lit (.int 2)) (.cons (.lit (.int 1)) (.nil))))) (.skip)) (.ret (.call 10 (.cons (.var 0) (.cons (.var 1) (.nil))) []))
theorem c__law_heading : cSs (cS 60 C__law_heading) (defBody (top 32)) = some s__law_heading := by kernel_rfl
theorem sc__law_heading : FnScope C__law_heading.N ["a", "b"] (defScope (top 32)) := C8.fnScope_by (by decide +kernel)
def C__law_inside : Cc := { N := ["wide", "high", "some", "w"], sc := defScope (top 33), fns := [(("_law_point", 3), (11, []))], cst := [], st := cellsOf (defScope (top 33)), exs := [], mks := [], cls := [], sups := [], mtb := [], dic := [], dT := true }
def s__law_inside : Sx := .seq (.asg (.nm 3) (.bin (.add) (.lit (.int 2)) (.blt (.abs) (.cons (.idx (.var 2) (.lit (.int 2))) (.nil))))) (.ret (.call 11 (.cons (.bin (.add) (.lit (.int 1)) (.bin (.mod) (.idx (.var 2) (.lit (.int 0))) (.bin (.sub) (.bin (.mul) (.var 0) (.var 3)) (.lit (.int 1))))) (.cons (.bin (.add) (.lit (.int 1)) (.bin (.mod) (.idx (.var 2) (.lit (.int 1))) (.bin (.sub) (.bin (.mul) (.var 1) (.var 3)) (.lit (.int 1))))) (.cons (.var 3) (.nil)))) []))
theorem c__law_inside : cSs (cS 60 C__law_inside) (defBody (top 33)) = some s__law_inside := by kernel_rfl
theorem sc__law_inside : FnScope C__law_inside.N ["wide", "high", "some"] (defScope (top 33)) := C8.fnScope_by (by decide +kernel)
def C__law_spoiled : Cc := { N := ["way", "wide", "high", "P", "low", "x", "y", "w"], sc := defScope (top 34), fns := [(("_law_point", 3), (11, []))], cst := [], st := cellsOf (defScope (top 34)), exs := [], mks := [], cls := [], sups := [], mtb := [], dic := [], dT := true }
def s__law_spoiled : Sx := .seq (.asg (.tp [5, 6, 7]) (.var 3)) (.seq (.ite (.cmp (.eq) (.var 0) (.lit (.int 8))) (.ret (.tup (.cons (.neg (.var 4)) (.cons (.var 2) (.cons (.var 3) (.nil)))))) (.skip)) (.seq (.ite (.cmp (.eq) (.var 0) (.lit (.int 9))) (.ret (.tup (.cons (.var 1) (.cons (.neg (.var 4)) (.cons (.var 3) (.nil)))))) (.skip)) (.seq (.ite (.cmp (.eq) (.bin (.mod) (.var 0) (.lit (.int 2))) (.lit (.int 0))) (.asg (.nm 5) (.idx (.lst false (.cons (.lit (.int 0)) (.cons (.bin (.mul) (.var 1) (.var 7)) (.cons (.bin (.sub) (.neg (.lit (.int 1))) (.var 4)) (.cons (.bin (.add) (.bin (.add) (.bin (.mul) (.var 1) (.var 7)) (.lit (.int 1))) (.var 4)) (.nil)))))) (.bin (.fdiv) (.var 0) (.lit (.int 2))))) (.asg (.nm 6) (.idx (.lst false (.cons (.lit (.int 0)) (.cons (.bin (.mul) (.var 2) (.var 7)) (.cons (.bin (.sub) (.neg (.lit (.int 1))) (.var 4)) (.cons (.bin (.add) (.bin (.add) (.bin (.mul) (.var 2) (.var 7)) (.lit (.int 1))) (.var 4)) (.nil)))))) (.bin (.fdiv) (.var 0) (.lit (.int 2)))))) (.ret (.tup (.cons (.var 1) (.cons (.var 2) (.cons (.call 11 (.cons (.var 5) (.cons (.var 6) (.cons (.var 7) (.nil)))) []) (.nil)))))))))
theorem c__law_spoiled : cSs (cS 60 C__law_spoiled) (defBody (top 34)) = some s__law_spoiled := by kernel_rfl
theorem sc__law_spoiled : FnScope C__law_spoiled.N ["way", "wide", "high", "P", "low"] (defScope (top 34)) := C8.fnScope_by (by decide +kernel)
def C__law_asked : Cc := { N := ["number", "wide", "high", "P", "heading"], sc := defScope (top 35), fns := [(("box_round", 4), (6, [])), (("box_at", 5), (4, [])), (("box_corner", 4), (5, []))], cst := [], st := cellsOf (defScope (top 35)), exs := [], mks := [], cls := [], sups := [], mtb := [], dic := [], dT := true }
def s__law_asked : Sx := .seq (.ite (.cmp (.eq) (.var 0) (.lit (.int 0))) (.ret (.call 4 (.cons (.var 1) (.cons (.var 2) (.cons (.var 3) (.cons (.var 4) (.cons (.tup (.cons (.lit (.int 1)) (.cons (.lit (.int 1)) (.nil)))) (.nil)))))) [])) (.skip)) (.seq (.ite (.cmp (.eq) (.var 0) (.lit (.int 1))) (.ret (.call 5 (.cons (.var 1) (.cons (.var 2) (.cons (.var 3) (.cons (.var 4) (.nil))))) [])) (.skip)) (.ret (.call 6 (.cons (.var 1) (.cons (.var 2) (.cons (.var 3) (.cons (.var 4) (.nil))))) [])))
theorem c__law_asked : cSs (cS 60 C__law_asked) (defBody (top 35)) = some s__law_asked := by kernel_rfl
theorem sc__law_asked : FnScope C__law_asked.N ["number", "wide", "high", "P", "heading"] (defScope (top 35)) := C8.fnScope_by (by decide +kernel)
def C__law_refused : Cc := { N := ["number", "wide", "high", "P", "heading", "word", "e"], sc := defScope (top 36), fns := [(("_law_asked", 5), (15, []))], cst := [], st := cellsOf (defScope (top 36)), exs := [], mks := [], cls := [("BadDrawing", 19), ("BadWall", 12), ("NoName", 21), ("NoPoint", 10), ("NoRow", 22), ("NoText", 20), ("NoWay", 11), ("OnWall", 15), ("Over", 16), ("Overlap", 14), ("TooLong", 17), ("TooMany", 13), ("OutOfBox", 18), ("RoomError", 9), ("ValueError", 99)], sups := [], mtb := [], dic := [], dT := true }
def s__law_refused : Sx := .seq (.asg (.nm 5) (.lit (.int 0))) (.seq (.tri (.expr (.call 15 (.cons (.var 0) (.cons (.var 1) (.cons (.var 2) (.cons (.var 3) (.cons (.var 4) (.nil)))))) [])) (.hcons [19, 12, 21, 10, 22, 20, 11, 15, 16, 14, 17, 13] none (.asg (.nm 5) (.lit (.int 1))) (.hcons [18] (some 6) (.asg (.nm 5) (.bin (.add) (.lit (.int 2)) (.blt (.int) (.cons (.andd (.exis 6 [9]) (.exis 6 [99])) (.nil))))) (.hnil)))) (.ret (.cmp (.eq) (.var 5) (.lit (.int 3)))))
theorem c__law_refused : cSs (cS 60 C__law_refused) (defBody (top 36)) = some s__law_refused := by kernel_rfl
theorem sc__law_refused : FnScope C__law_refused.N ["number", "wide", "high", "P", "heading"] (defScope (top 36)) := C8.fnScope_by (by decide +kernel)
def C_law : Cc := { N := ["script", "cells", "k", "wide", "high", "some", "P", "heading", "way", "bad", "tall", "Q", "number", "cell"], sc := defScope (top 37), fns := [(("_law_side", 1), (8, [])), (("_law_inside", 3), (13, [])), (("_law_heading", 2), (12, [])), (("_law_number", 1), (7, [])), (("box_at", 5), (4, [])), (("_law_spoiled", 5), (14, [])), (("_law_refused", 5), (16, []))], cst := [], st := cellsOf (defScope (top 37)), exs := [], mks := [], cls := [], sups := [], mtb := [], dic := [], dT := true }
def s_law : Sx := .seq (.asg (.nm 1) (.bin (.add) (.slc false (.var 0) (.nil) (.cons (.lit (.int 63)) (.nil))) (.lst false (.cons (.lit (.int 0)) (.cons (.lit (.int 0)) (.cons (.lit (.int 0)) (.cons (.lit (.int 0)) (.cons (.lit (.int 0)) (.cons (.lit (.int 0)) (.cons (.lit (.int 0)) (.cons (.lit (.int 0)) (.cons (.lit (.int 0)) (.nil))))))))))))) (.seq (.for_ (.nm 2) (.range) (.cons (.lit (.int 0)) (.cons (.bin (.sub) (.blt (.len) (.cons (.var 1) (.nil))) (.lit (.int 8))) (.cons (.lit (.int 9)) (.nil)))) (.seq (.asg (.nm 3) (.call 8 (.cons (.idx (.var 1) (.var 2)) (.nil)) [])) (.seq (.asg (.nm 4) (.call 8 (.cons (.idx (.var 1) (.bin (.add) (.var 2) (.lit (.int 1)))) (.nil)) [])) (.seq (.asg (.nm 5) (.comp false [13] (.nm 13) (.seq) (.cons (.slc false (.var 1) (.cons (.bin (.add) (.var 2) (.lit (.int 2))) (.nil)) (.cons (.bin (.add) (.var 2) (.lit (.int 9))) (.nil))) (.nil)) false (.nil) (.call 7 (.cons (.var 13) (.nil)) []))) (.seq (.asg (.nm 6) (.call 13 (.cons (.var 3) (.cons (.var 4) (.cons (.var 5) (.nil)))) [])) (.seq (.asg (.nm 7) (.call 12 (.cons (.idx (.var 5) (.lit (.int 3))) (.cons (.idx (.var 5) (.lit (.int 4))) (.nil))) [])) (.seq (.ite (.cmp (.ne) (.call 4 (.cons (.var 3) (.cons (.var 4) (.cons (.var 6) (.cons (.var 7) (.cons (.tup (.cons (.lit (.int 0)) (.cons (.lit (.int 1)) (.nil)))) (.nil)))))) []) (.tup (.cons (.var 6) (.cons (.var 7) (.nil))))) (.ret (.lit (.bl false))) (.skip)) (.seq (.asg (.nm 8) (.bin (.mod) (.idx (.var 1) (.bin (.add) (.var 2) (.lit (.int 8)))) (.lit (.int 11)))) (.ite (.cmp (.lt) (.var 8) (.lit (.int 10))) (.seq (.asg (.tp [9, 10, 11]) (.call 14 (.cons (.var 8) (.cons (.var 3) (.cons (.var 4) (.cons (.var 6) (.cons (.blt (.abs) (.cons (.idx (.var 5) (.lit (.int 5))) (.nil))) (.nil)))))) [])) (.for_ (.nm 12) (.range) (.cons (.lit (.int 3)) (.nil)) (.ite (.nott (.call 16 (.cons (.var 12) (.cons (.var 9) (.cons (.var 10) (.cons (.var 11) (.cons (.var 7) (.nil)))))) [])) (.ret (.lit (.bl false))) (.skip)))) (.skip)))))))))) (.ret (.lit (.bl true))))
theorem c_law : cSs (cS 60 C_law) (defBody (top 37)) = some s_law := by kernel_rfl
theorem sc_law : FnScope C_law.N ["script"] (defScope (top 37)) := C8.fnScope_by (by decide +kernel)
def C_swung__0 : Cc := { N := ["far", "span", "step", "turns", "rest", "place", "way"], sc := defScope (top 21), fns := [], cst := [], st := cellsOf (defScope (top 21)), exs := [], mks := [], cls := [], sups := [], mtb := [], dic := [], dT := true }
def s_swung__0 : Sx := .seq (.ite (.cmp (.lt) (.var 2) (.lit (.int 0))) (.seq (.asg (.tp [5, 6]) (.nil)) (.ret (.tup (.cons (.bin (.sub) (.var 1) (.var 5)) (.cons (.neg (.var 6)) (.nil)))))) (.skip)) (.seq (.asg (.tp [3, 4]) (.blt (.divmod) (.cons (.var 0) (.cons (.var 1) (.nil))))) (.seq (.ite (.cmp (.eq) (.bin (.mod) (.var 3) (.lit (.int 2))) (.lit (.int 0))) (.ret (.tup (.cons (.var 4) (.cons (.var 2) (.nil))))) (.skip)) (.ret (.tup (.cons (.bin (.sub) (.var 1) (.var 4)) (.cons (.neg (.var 2)) (.nil)))))))
theorem c_swung__0 : cSs (cS 60 C_swung__0) (defBody (top 21)) = some s_swung__0 := by kernel_rfl
theorem sc_swung__0 : FnScope C_swung__0.N ["far", "span", "step"] (defScope (top 21)) := C8.fnScope_by (by decide +kernel)
def B59 : Int := 10 ^ 59
def sp_divisor : Spec := fun as S => match as with
  | [.int a, .int b] => .puV S (True) (.int (Int.gcd a b))
  | _ => .no
def sp_point_of : Spec := fun as S => match as with
  | [.int x, .int y, .int w] => .puX S (w.natAbs.log2 < 8000) (w = 0) 10 (tr) (fun p => IsP x y w p)
  | _ => .no
abbrev Sm (x : Int) : Prop := x.natAbs.log2 < 2000
/-- to and fro -/
def sw0 (far span step : Int) : Int × Int := if (far.fdiv span).fmod 2 = 0 then (far.fmod span, step) else (span - far.fmod span, -step)
def sw (far span step : Int) : Int × Int := if step < 0 then (span - (sw0 (span - far) span (-step)).1, -(sw0 (span - far) span (-step)).2) else sw0 far span step
abbrev st2 (p : (Int × Int × Int) × (Int × Int)) : Val := .tup [tr p.1, pr p.2]
/-- not strictly inside a box -/
def Out (u v x y w : Int) : Prop := u < 1 ∨ v < 1 ∨ x ≤ 0 ∨ y ≤ 0 ∨ u * w ≤ x ∨ v * w ≤ y
theorem gcd_log' {a b : Int} {n : Nat} (h : a.natAbs.log2 < n) (k : b.natAbs.log2 < n) : (↑(Int.gcd a b) : Int).natAbs.log2 < n + 1 := by
  by_cases e : b = 0
  · subst e
    rw [Int.gcd_zero_right, Int.natAbs_natCast]
    omega
  · have := gcd_log (a := a) e k
    omega
def sp_look_inside : Spec := fun as S => match as with
  | [.int u, .int v, .tup [.int x, .int y, .int w]] => .puX S (Sm u ∧ Sm v ∧ Sm w) (Out u v x y w) 18 ((fun _ : Unit => Val.non)) (fun _ => True)
  | _ => .no
def sp_swung__0 : Spec := fun as S => match as with
  | [.int f, .int s, .int e] => .puV S (0 ≤ e ∧ 0 < s ∧ s.natAbs.log2 < 8000) (pr (sw0 f s e))
  | _ => .no
def sp_swung : Spec := fun as S => match as with
  | [.int f, .int s, .int e] => .puV S (0 < s ∧ s.natAbs.log2 < 8000) (pr (sw f s e))
  | _ => .no
def sp_box_at : Spec := fun as S => match as with
  | [.int u, .int v, .tup [.int x, .int y, .int w], .tup [.int a, .int b], .tup [.int t, .int d]] => .puX S (0 < w ∧ 0 < d ∧ Sm u ∧ Sm v ∧ Sm x ∧ Sm y ∧ Sm w ∧ Sm a ∧ Sm b ∧ Sm t ∧ Sm d) (Out u v x y w) 18 (st2) (fun p => IsP (sw (x * d + a * t * w) (u * (w * d)) a).1 (sw (y * d + b * t * w) (v * (w * d)) b).1 (w * d) p.1 ∧ p.2 = ((sw (x * d + a * t * w) (u * (w * d)) a).2, (sw (y * d + b * t * w) (v * (w * d)) b).2))
  | _ => .no
def sp_box_corner : Spec := fun as S => match as with
  | [.int u, .int v, .tup [.int x, .int y, .int w], .tup [.int a, .int b]] => .puX S (Sm u ∧ Sm v ∧ Sm w ∧ Out u v x y w) (True) 18 ((fun _ : Unit => Val.non)) (fun _ => False)
  | _ => .no
def sp_box_round : Spec := fun as S => match as with
  | [.int u, .int v, .tup [.int x, .int y, .int w], .tup [.int a, .int b]] => .puX S (Sm u ∧ Sm v ∧ Sm w ∧ Out u v x y w) (True) 18 ((fun _ : Unit => Val.non)) (fun _ => False)
  | _ => .no
def sp__law_number : Spec := fun as S => match as with
  | [.int c] => .puE S (c.natAbs.log2 < 10000000) (Val.int) (fun x => -B59 ≤ x ∧ x ≤ B59)
  | _ => .no
def sp__law_side : Spec := fun as S => match as with
  | [.int c] => .puE S (c.natAbs.log2 < 10000000) (Val.int) (fun x => 1 ≤ x ∧ x ≤ B59 * 10)
  | _ => .no
def sp__law_measure : Spec := fun as S => match as with
  | [.int a, .int b] => .puV S (True) (.int (Int.gcd a b))
  | _ => .no
def sp__law_reduced : Spec := fun as S => match as with
  | [.int a, .int b] => .puV S (¬(a = 0 ∧ b = 0) ∧ a.natAbs.log2 < 1000 ∧ b.natAbs.log2 < 1000) (pr (a.fdiv ↑(Int.gcd b a), b.fdiv ↑(Int.gcd b a)))
  | _ => .no
def sp__law_point : Spec := fun as S => match as with
  | [.int x, .int y, .int w] => .puE S (0 < w ∧ w.natAbs.log2 < 8000) (tr) (fun p => IsP x y w p)
  | _ => .no
def sp__law_heading : Spec := fun as S => match as with
  | [.int a, .int b] => .puE S (a.natAbs.log2 < 200 ∧ b.natAbs.log2 < 200) (pr) (fun p => p.1.natAbs.log2 < 200 ∧ p.2.natAbs.log2 < 200)
  | _ => .no
def sp__law_inside : Spec := fun as S => match as with
  | [.int u, .int v, .sl l] => .puE S (0 < u ∧ 0 < v ∧ u.natAbs.log2 < 210 ∧ v.natAbs.log2 < 210 ∧ ∃ zs : List Int, l = zs.map .int ∧ zs.length = 7 ∧ ∀ z ∈ zs, z.natAbs.log2 < 200) (tr) (fun p => 0 < p.1 ∧ 0 < p.2.1 ∧ 0 < p.2.2 ∧ p.1 < u * p.2.2 ∧ p.2.1 < v * p.2.2 ∧ p.2.2.natAbs.log2 < 210 ∧ Int.gcd (Int.gcd p.1 p.2.1) p.2.2 = 1)
  | _ => .no
def sp__law_spoiled : Spec := fun as S => match as with
  | [.int n, .int u, .int v, .tup [.int x, .int y, .int w], .int m] => .puE S (0 ≤ n ∧ n < 10 ∧ 0 ≤ m ∧ 0 < u ∧ 0 < v ∧ 0 < w ∧ m.natAbs.log2 < 200 ∧ u.natAbs.log2 < 210 ∧ v.natAbs.log2 < 210 ∧ w.natAbs.log2 < 210 ∧ x.natAbs.log2 < 420 ∧ y.natAbs.log2 < 420) ((fun p : (Int × Int) × (Int × Int × Int) => .tup [.int p.1.1, .int p.1.2, tr p.2])) (fun p => Out p.1.1 p.1.2 p.2.1 p.2.2.1 p.2.2.2 ∧ 0 < p.2.2.2 ∧ Sm p.1.1 ∧ Sm p.1.2 ∧ Sm p.2.1 ∧ Sm p.2.2.1 ∧ Sm p.2.2.2)
  | _ => .no
def sp__law_asked : Spec := fun as S => match as with
  | [.int n, .int u, .int v, .tup [.int x, .int y, .int w], .tup [.int a, .int b]] => .puX S (0 < w ∧ Sm u ∧ Sm v ∧ Sm x ∧ Sm y ∧ Sm w ∧ Sm a ∧ Sm b ∧ Out u v x y w) (True) 18 ((fun _ : Unit => Val.non)) (fun _ => False)
  | _ => .no
def sp__law_refused : Spec := fun as S => match as with
  | [.int n, .int u, .int v, .tup [.int x, .int y, .int w], .tup [.int a, .int b]] => .puV S (0 < w ∧ Sm u ∧ Sm v ∧ Sm x ∧ Sm y ∧ Sm w ∧ Sm a ∧ Sm b ∧ Out u v x y w) (.bl true)
  | _ => .no
def sp_law : Spec := lawSpec
def flL : List (Nat × Nat) := []
def iscL : List ((Nat × Nat) × Bool) := [((18, 9), true), ((18, 99), true)]
def exmL : List ((Nat × Nat) × Bool) := [((18, 19), false), ((18, 12), false), ((18, 21), false), ((18, 10), false), ((18, 22), false), ((18, 20), false), ((18, 11), false), ((18, 15), false), ((18, 16), false), ((18, 14), false), ((18, 17), false), ((18, 13), false), ((18, 18), true)]
def T : Tb where
  fn := fun i => match i with
    | 0 => sp_divisor
    | 1 => sp_point_of
    | 2 => sp_look_inside
    | 3 => sp_swung
    | 4 => sp_box_at
    | 5 => sp_box_corner
    | 6 => sp_box_round
    | 7 => sp__law_number
    | 8 => sp__law_side
    | 9 => sp__law_measure
    | 10 => sp__law_reduced
    | 11 => sp__law_point
    | 12 => sp__law_heading
    | 13 => sp__law_inside
    | 14 => sp__law_spoiled
    | 15 => sp__law_asked
    | 16 => sp__law_refused
    | 17 => sp_law
    | 18 => sp_swung__0
    | _ => fun _ _ => ⟨False, fun _ _ => True, fun _ _ => True⟩
  mt := fun _ _ => none
  mkr := fun _ => none
  fl := fun c f => flL.contains (c, f)
  isc := fun c d => iscL.lookup (c, d)
  exm := fun c d => exmL.lookup (c, d)
abbrev T_divisor : Tb := { T with mt := fun c m => ([] : List ((Nat × Nat) × Nat)).lookup (c, m), mkr := fun c => ([] : List (Nat × Nat)).lookup c }
abbrev T_point_of : Tb := { T with mt := fun c m => ([] : List ((Nat × Nat) × Nat)).lookup (c, m), mkr := fun c => ([] : List (Nat × Nat)).lookup c }
abbrev T_look_inside : Tb := { T with mt := fun c m => ([] : List ((Nat × Nat) × Nat)).lookup (c, m), mkr := fun c => ([] : List (Nat × Nat)).lookup c }
abbrev T_swung : Tb := { T with mt := fun c m => ([] : List ((Nat × Nat) × Nat)).lookup (c, m), mkr := fun c => ([] : List (Nat × Nat)).lookup c }
abbrev T_box_at : Tb := { T with mt := fun c m => ([] : List ((Nat × Nat) × Nat)).lookup (c, m), mkr := fun c => ([] : List (Nat × Nat)).lookup c }
abbrev T_box_corner : Tb := { T with mt := fun c m => ([] : List ((Nat × Nat) × Nat)).lookup (c, m), mkr := fun c => ([] : List (Nat × Nat)).lookup c }
abbrev T_box_round : Tb := { T with mt := fun c m => ([] : List ((Nat × Nat) × Nat)).lookup (c, m), mkr := fun c => ([] : List (Nat × Nat)).lookup c }
abbrev T__law_number : Tb := { T with mt := fun c m => ([] : List ((Nat × Nat) × Nat)).lookup (c, m), mkr := fun c => ([] : List (Nat × Nat)).lookup c }
abbrev T__law_side : Tb := { T with mt := fun c m => ([] : List ((Nat × Nat) × Nat)).lookup (c, m), mkr := fun c => ([] : List (Nat × Nat)).lookup c }
abbrev T__law_measure : Tb := { T with mt := fun c m => ([] : List ((Nat × Nat) × Nat)).lookup (c, m), mkr := fun c => ([] : List (Nat × Nat)).lookup c }
abbrev T__law_reduced : Tb := { T with mt := fun c m => ([] : List ((Nat × Nat) × Nat)).lookup (c, m), mkr := fun c => ([] : List (Nat × Nat)).lookup c }
abbrev T__law_point : Tb := { T with mt := fun c m => ([] : List ((Nat × Nat) × Nat)).lookup (c, m), mkr := fun c => ([] : List (Nat × Nat)).lookup c }
abbrev T__law_heading : Tb := { T with mt := fun c m => ([] : List ((Nat × Nat) × Nat)).lookup (c, m), mkr := fun c => ([] : List (Nat × Nat)).lookup c }
abbrev T__law_inside : Tb := { T with mt := fun c m => ([] : List ((Nat × Nat) × Nat)).lookup (c, m), mkr := fun c => ([] : List (Nat × Nat)).lookup c }
abbrev T__law_spoiled : Tb := { T with mt := fun c m => ([] : List ((Nat × Nat) × Nat)).lookup (c, m), mkr := fun c => ([] : List (Nat × Nat)).lookup c }
abbrev T__law_asked : Tb := { T with mt := fun c m => ([] : List ((Nat × Nat) × Nat)).lookup (c, m), mkr := fun c => ([] : List (Nat × Nat)).lookup c }
abbrev T__law_refused : Tb := { T with mt := fun c m => ([] : List ((Nat × Nat) × Nat)).lookup (c, m), mkr := fun c => ([] : List (Nat × Nat)).lookup c }
abbrev T_law : Tb := { T with mt := fun c m => ([] : List ((Nat × Nat) × Nat)).lookup (c, m), mkr := fun c => ([] : List (Nat × Nat)).lookup c }
abbrev T_swung__0 : Tb := { T with mt := fun c m => ([] : List ((Nat × Nat) × Nat)).lookup (c, m), mkr := fun c => ([] : List (Nat × Nat)).lookup c }
theorem ck_0_18 : isAnyE (T.exm 18) [19, 12, 21, 10, 22, 20, 11, 15, 16, 14, 17, 13] = some false := rfl
theorem ck_1_18 : isAnyE (T.exm 18) [18] = some true := rfl
theorem is_0_18 : isAny (T.isc 18) [9] = some true := rfl
theorem is_1_18 : isAny (T.isc 18) [99] = some true := rfl
def call_divisor {a b : Int} {T0 : Tb} (hT : T0.fn = T.fn) {S : Store} {Q : QV} {E : Exn → Store → Prop} := wCall_puV (T := T0) (f := 0) (vs := [.int a, .int b]) (S := S) (Q := Q) (E := E) (by rw [hT]; rfl)
def call_point_of {x y w : Int} {T0 : Tb} (hT : T0.fn = T.fn) {S : Store} {Q : QV} {E : Exn → Store → Prop} := wCall_puX (T := T0) (f := 1) (vs := [.int x, .int y, .int w]) (S := S) (Q := Q) (E := E) (by rw [hT]; rfl)
def call_look_inside {u v x y w : Int} {T0 : Tb} (hT : T0.fn = T.fn) {S : Store} {Q : QV} {E : Exn → Store → Prop} := wCall_puX (T := T0) (f := 2) (vs := [.int u, .int v, .tup [.int x, .int y, .int w]]) (S := S) (Q := Q) (E := E) (by rw [hT]; rfl)
def call_swung__0 {f s e : Int} {T0 : Tb} (hT : T0.fn = T.fn) {S : Store} {Q : QV} {E : Exn → Store → Prop} := wCall_puV (T := T0) (f := 18) (vs := [.int f, .int s, .int e]) (S := S) (Q := Q) (E := E) (by rw [hT]; rfl)
def call_swung {f s e : Int} {T0 : Tb} (hT : T0.fn = T.fn) {S : Store} {Q : QV} {E : Exn → Store → Prop} := wCall_puV (T := T0) (f := 3) (vs := [.int f, .int s, .int e]) (S := S) (Q := Q) (E := E) (by rw [hT]; rfl)
def call_box_at {u v x y w a b t d : Int} {T0 : Tb} (hT : T0.fn = T.fn) {S : Store} {Q : QV} {E : Exn → Store → Prop} := wCall_puX (T := T0) (f := 4) (vs := [.int u, .int v, .tup [.int x, .int y, .int w], .tup [.int a, .int b], .tup [.int t, .int d]]) (S := S) (Q := Q) (E := E) (by rw [hT]; rfl)
def call_box_corner {u v x y w a b : Int} {T0 : Tb} (hT : T0.fn = T.fn) {S : Store} {Q : QV} {E : Exn → Store → Prop} := wCall_puX (T := T0) (f := 5) (vs := [.int u, .int v, .tup [.int x, .int y, .int w], .tup [.int a, .int b]]) (S := S) (Q := Q) (E := E) (by rw [hT]; rfl)
def call_box_round {u v x y w a b : Int} {T0 : Tb} (hT : T0.fn = T.fn) {S : Store} {Q : QV} {E : Exn → Store → Prop} := wCall_puX (T := T0) (f := 6) (vs := [.int u, .int v, .tup [.int x, .int y, .int w], .tup [.int a, .int b]]) (S := S) (Q := Q) (E := E) (by rw [hT]; rfl)
def call__law_number {c : Int} {T0 : Tb} (hT : T0.fn = T.fn) {S : Store} {Q : QV} {E : Exn → Store → Prop} := wCall_puE (T := T0) (f := 7) (vs := [.int c]) (S := S) (Q := Q) (E := E) (by rw [hT]; rfl)
def call__law_side {c : Int} {T0 : Tb} (hT : T0.fn = T.fn) {S : Store} {Q : QV} {E : Exn → Store → Prop} := wCall_puE (T := T0) (f := 8) (vs := [.int c]) (S := S) (Q := Q) (E := E) (by rw [hT]; rfl)
def call__law_measure {a b : Int} {T0 : Tb} (hT : T0.fn = T.fn) {S : Store} {Q : QV} {E : Exn → Store → Prop} := wCall_puV (T := T0) (f := 9) (vs := [.int a, .int b]) (S := S) (Q := Q) (E := E) (by rw [hT]; rfl)
def call__law_reduced {a b : Int} {T0 : Tb} (hT : T0.fn = T.fn) {S : Store} {Q : QV} {E : Exn → Store → Prop} := wCall_puV (T := T0) (f := 10) (vs := [.int a, .int b]) (S := S) (Q := Q) (E := E) (by rw [hT]; rfl)
def call__law_point {x y w : Int} {T0 : Tb} (hT : T0.fn = T.fn) {S : Store} {Q : QV} {E : Exn → Store → Prop} := wCall_puE (T := T0) (f := 11) (vs := [.int x, .int y, .int w]) (S := S) (Q := Q) (E := E) (by rw [hT]; rfl)
def call__law_heading {a b : Int} {T0 : Tb} (hT : T0.fn = T.fn) {S : Store} {Q : QV} {E : Exn → Store → Prop} := wCall_puE (T := T0) (f := 12) (vs := [.int a, .int b]) (S := S) (Q := Q) (E := E) (by rw [hT]; rfl)
def call__law_inside {u v : Int} {l : List Val} {T0 : Tb} (hT : T0.fn = T.fn) {S : Store} {Q : QV} {E : Exn → Store → Prop} := wCall_puE (T := T0) (f := 13) (vs := [.int u, .int v, .sl l]) (S := S) (Q := Q) (E := E) (by rw [hT]; rfl)
def call__law_spoiled {n u v x y w m : Int} {T0 : Tb} (hT : T0.fn = T.fn) {S : Store} {Q : QV} {E : Exn → Store → Prop} := wCall_puE (T := T0) (f := 14) (vs := [.int n, .int u, .int v, .tup [.int x, .int y, .int w], .int m]) (S := S) (Q := Q) (E := E) (by rw [hT]; rfl)
def call__law_asked {n u v x y w a b : Int} {T0 : Tb} (hT : T0.fn = T.fn) {S : Store} {Q : QV} {E : Exn → Store → Prop} := wCall_puX (T := T0) (f := 15) (vs := [.int n, .int u, .int v, .tup [.int x, .int y, .int w], .tup [.int a, .int b]]) (S := S) (Q := Q) (E := E) (by rw [hT]; rfl)
def call__law_refused {n u v x y w a b : Int} {T0 : Tb} (hT : T0.fn = T.fn) {S : Store} {Q : QV} {E : Exn → Store → Prop} := wCall_puV (T := T0) (f := 16) (vs := [.int n, .int u, .int v, .tup [.int x, .int y, .int w], .tup [.int a, .int b]]) (S := S) (Q := Q) (E := E) (by rw [hT]; rfl)
theorem w_divisor : ∀ as S, (sp_divisor as S).pre → wS T_divisor s_divisor (startE C_divisor.N as) S (fin (sp_divisor as S)) := by
  intro as S h
  unfold sp_divisor at h ⊢
  split at h
  rotate_left
  · exact h.elim
  rename_i a b
  change wS T_divisor s_divisor [some (.int a), some (.int b), none] S _
  unfold s_divisor
  simp only [↓wE_lit, ↓wE_bin, ↓wE_neg, ↓wE_nott, ↓wE_cmp, ↓wE_chain, ↓wE_andd, ↓wE_orr, ↓wE_ife, ↓wE_nil, ↓wE_cons, ↓wE_tup, ↓wE_lst, ↓wE_idx, ↓wE_slc, ↓wE_fld, ↓wE_meth, ↓wE_new, ↓wE_sup, ↓wE_blt, ↓wE_isty, ↓wE_iscl, ↓wE_dnew, ↓wE_dget, ↓wE_din, ↓wE_dget2, ↓wE_sm, ↓wT_cmp, ↓wT_chain, ↓wT_nott, ↓wT_andd, ↓wT_orr, ↓wT_ife, ↓wT_lit, ↓wT_idx, ↓wT_bin, ↓wT_meth, ↓wT_blt, ↓wT_isty, ↓wT_iscl, ↓wT_fld, ↓wT_din, ↓wT_dget, ↓wT_sm, ↓wT_neg, ↓wT_nil, ↓wT_cons, ↓wT_tup, ↓wT_lst, ↓wT_slc, ↓wT_new, ↓wT_comp, ↓wT_sup, ↓wT_dnew, ↓wT_dget2, ↓wT_dpop, ↓wT_clo, ↓wT_ccall, ↓wA_nil, ↓wA_cons, ↓wO_nil, ↓wO_cons, ↓wE_compK, ↓wE_compF, ↓wE_call0, ↓wT_call0, ↓wE_v0, ↓wE_v1, ↓wE_v2, ↓wE_v3, ↓wE_v4, ↓wE_v5, ↓wE_v6, ↓wE_v7, ↓wE_v8, ↓wE_v9, ↓wE_v10, ↓wE_v11, ↓wE_v12, ↓wE_v13, ↓wE_v14, ↓wE_v15, ↓wE_v16, ↓wE_v17, ↓wE_v18, ↓wE_v19, ↓wE_v20, ↓wE_v21, ↓wE_v22, ↓wE_v23, ↓wE_v24, ↓wE_v25, ↓wE_v26, ↓wE_v27, ↓wE_v28, ↓wE_v29, ↓wT_v0, ↓wT_v1, ↓wT_v2, ↓wT_v3, ↓wT_v4, ↓wT_v5, ↓wT_v6, ↓wT_v7, ↓wT_v8, ↓wT_v9, ↓wT_v10, ↓wT_v11, ↓wT_v12, ↓wT_v13, ↓wT_v14, ↓wT_v15, ↓wT_v16, ↓wT_v17, ↓wT_v18, ↓wT_v19, ↓wT_v20, ↓wT_v21, ↓wT_v22, ↓wT_v23, ↓wT_v24, ↓wT_v25, ↓wT_v26, ↓wT_v27, ↓wT_v28, ↓wT_v29, ↓tgt_0, ↓tgt_1, ↓tgt_2, ↓tgt_3, ↓tgt_4, ↓tgt_5, ↓tgt_6, ↓tgt_7, ↓tgt_8, ↓tgt_9, ↓tgt_10, ↓tgt_11, ↓tgt_12, ↓tgt_13, ↓tgt_14, ↓tgt_15, ↓tgt_16, ↓tgt_17, ↓tgt_18, ↓tgt_19, ↓tgt_20, ↓tgt_21, ↓tgt_22, ↓tgt_23, ↓tgt_24, ↓tgt_25, ↓tgt_26, ↓tgt_27, ↓tgt_28, ↓tgt_29, ↓exI_0, ↓exI_1, ↓exI_2, ↓exI_3, ↓exI_4, ↓exI_5, ↓exI_6, ↓exI_7, ↓exI_8, ↓exI_9, ↓exI_10, ↓exI_11, ↓exI_12, ↓exI_13, ↓exI_14, ↓exI_15, ↓exI_16, ↓exI_17, ↓exI_18, ↓exI_19, ↓exI_20, ↓exI_21, ↓exI_22, ↓exI_23, ↓exI_24, ↓exI_25, ↓exI_26, ↓exI_27, ↓exI_28, ↓exI_29, ↓exT_0, ↓exT_1, ↓exT_2, ↓exT_3, ↓exT_4, ↓exT_5, ↓exT_6, ↓exT_7, ↓exT_8, ↓exT_9, ↓exT_10, ↓exT_11, ↓exT_12, ↓exT_13, ↓exT_14, ↓exT_15, ↓exT_16, ↓exT_17, ↓exT_18, ↓exT_19, ↓exT_20, ↓exT_21, ↓exT_22, ↓exT_23, ↓exT_24, ↓exT_25, ↓exT_26, ↓exT_27, ↓exT_28, ↓exT_29, ↓exF_0, ↓exF_1, ↓exF_2, ↓exF_3, ↓exF_4, ↓exF_5, ↓exF_6, ↓exF_7, ↓exF_8, ↓exF_9, ↓exF_10, ↓exF_11, ↓exF_12, ↓exF_13, ↓exF_14, ↓exF_15, ↓exF_16, ↓exF_17, ↓exF_18, ↓exF_19, ↓exF_20, ↓exF_21, ↓exF_22, ↓exF_23, ↓exF_24, ↓exF_25, ↓exF_26, ↓exF_27, ↓exF_28, ↓exF_29, ↓tgt_tn, ↓tgt_tc, ↓wS_skip, ↓wS_seqL, ↓later_at, ↓wS_asg_var, ↓wS_asg_lit, ↓wS_asg_bin, ↓wS_asg_neg, ↓wS_asg_nott, ↓wS_asg_cmp, ↓wS_asg_chain, ↓wS_asg_andd, ↓wS_asg_orr, ↓wS_asg_ife, ↓wS_asg_tup, ↓wS_asg_lst, ↓wS_asg_idx, ↓wS_asg_slc, ↓wS_asg_fld, ↓wS_asg_call, ↓wS_asg_meth, ↓wS_asg_new, ↓wS_asg_blt, ↓wS_asg_isty, ↓wS_asg_iscl, ↓wS_asg_exis, ↓wS_asg_exfl, ↓wS_asg_dnew, ↓wS_asg_dget, ↓wS_asg_din, ↓wS_asg_nil, ↓wS_asg_comp, ↓wS_asg_compF, ↓nxK_at, ↓wS_asgF, ↓wS_asgI, ↓wS_asgD, ↓wS_augN, ↓wS_augI, ↓wS_parL, ↓wS_expr, ↓wS_bm, ↓wS_ret, ↓wS_retN, ↓wS_ite, ↓wFor_cons, ↓wFor_nil, ↓wS_for, ↓wS_brk, ↓wS_cnt, ↓wS_raise, ↓wS_tri, ↓wH_nil, ↓wH_cons0, ↓wH_cons1, ↓tyIs_ref, ↓opBm_appendL, ↓setIL, ↓isL_ref, ↓ob_add, ↓ob_adds, ↓ob_addt, ↓ob_addl, ↓ob_addrl, ↓ob_addlr, ↓ob_addrr, ↓ob_addM, ↓ob_sub, ↓ob_mul, ↓ob_mull, ↓ob_mulM, ↓ob_fdiv, ↓ob_mod, ↓ob_pow, ↓oi_abs, ↓oi_lent, ↓oi_lens, ↓oi_lenr, ↓oi_sortedr, ↓oi_sortedMr, ↓oi_tupler, ↓oi_listr, ↓oi_listMr, ↓oi_sumr, ↓oi_anyr, ↓oi_allr, ↓oi_mxr, ↓oi_mnr, ↓oi_lenl, ↓oi_sortedl, ↓oi_sortedMl, ↓oi_tuplel, ↓oi_listl, ↓oi_listMl, ↓oi_suml, ↓oi_anyl, ↓oi_alll, ↓oi_mxl, ↓oi_mnl, ↓oi_mxt, ↓oi_mnt, ↓oi_max2, ↓oi_min2, ↓oi_int, ↓oi_intb, ↓oi_tuplet, ↓oi_listt, ↓oi_listMt, ↓oi_str, ↓oi_divmod, ↓tru_non, ↓tru_bl, ↓tru_int, ↓tru_str, ↓tru_tup, ↓tru_ref, ↓tru_sl, ↓tyIs_non, ↓tyIs_bl, ↓tyIs_int, ↓tyIs_str, ↓tyIs_tup, ↓tyIs_sl, ↓it_t, ↓it_sr, ↓it_er, ↓it_vr, ↓it_sl, ↓it_el, ↓it_vl, ↓it_z, ↓it_1, ↓it_2, ↓it_3, ↓ltI_i, ↓tl_i, ↓optI_i, ↓osl_t, ↓osl_s, ↓osl_l, ↓osl_r, ↓osl_lM, ↓osl_rM, ↓sq_t, ↓sq_l, ↓getI_i, ↓opIx_tup, ↓opIx_ref, ↓opIx_sl, ↓atQ_0, ↓atQ_1, ↓atQ_2, ↓atQ_3, ↓getL_put, ↓getL_put_ne, ↓getL_put_ne', ↓getL_sl, ↓opC_eq_int, ↓opC_ne_int, ↓opC_eq_bl, ↓opC_ne_bl, ↓opC_eq_t2, ↓opC_ne_t2, ↓opC_eq_t3, ↓opC_ne_t3, ↓opC_eq_t32, ↓opC_ne_t32, ↓opC_lt, ↓opC_le, ↓opC_gt, ↓opC_ge, ↓opC_ne_nil, ↓opC_eq_nil, ↓opC_is, ↓opC_isnot, ↓opC_isb, ↓opC_isnb, ↓opC_isi, ↓opC_isni, ↓opC_ist, ↓opC_isnt, ↓opC_iso, ↓opC_isno, ↓opC_in, ↓opC_notin, ↓finpu_rt, ↓finpu_nx, ↓finpu_ex, ↓finlaw_rt, ↓finlaw_nx, ↓finlaw_ex, ↓finV_rt, ↓finV_nx, ↓finV_ex, ↓finE_rt, ↓finO_rt, ↓finO_ex, ↓finE_ex, ↓finS_rt, ↓finS_ex, ↓finR_ex, ↓finX_rt, ↓finX_nx, ↓finX_ex, put_none, put_put, Val.isNon, intsOf, atI_0, atI_1, atI_2, atI_3, cutG_to, cutG_from, sub_refl_iff, pu_pre, puV_pre, puE_pre, puO_pre, puS_pre, puR_pre, Option.some.injEq, exists_eq_left', exists_eq_left, exists_eq, exists_eq', Val.int.injEq, Val.bl.injEq, Val.str.injEq, Val.tup.injEq, Val.ref.injEq, List.cons.injEq, List.map_cons, List.map_nil, List.length_cons, List.length_nil, List.cons_append, List.nil_append, List.append_nil, Bool.false_eq_true, if_true, if_false, ite_true, ite_false, true_and, and_true, false_and, and_false, Bool.not_true, Bool.not_false, decide_eq_true_eq, bne_iff_ne, ne_eq, beq_iff_eq, put_same, imp_false, false_implies, implies_true, reduceCtorEq, not_false_eq_true, and_self, Bool.or_false, Bool.or_true, Bool.false_or, Bool.true_or, Bool.not_eq_true, Bool.not_eq_eq_eq_not, Bool.decide_eq_false, decide_eq_false_iff_not, Bool.not_eq_true', beq_eq_false_iff_ne, bne_eq_false_iff_eq, List.isEmpty_cons, List.isEmpty_nil, Int.reduceEq, Int.reduceNe, Int.reduceLT, Int.reduceLE, Int.reduceNeg, Int.reduceAdd, Int.reduceSub, Int.reduceMul, Int.reduceToNat, Nat.reduceLT, Nat.reduceLeDiff, Nat.reducePow, Nat.reduceAdd, Nat.reduceSub, ty_bool_bool, ty_bool_int, ty_bool_tuple, ty_bool_list, ty_bool_str, ty_int_bool, ty_int_int, ty_int_tuple, ty_int_list, ty_int_str, ty_tuple_bool, ty_tuple_int, ty_tuple_tuple, ty_tuple_list, ty_tuple_str, ty_list_bool, ty_list_int, ty_list_tuple, ty_list_list, ty_list_str, ty_str_bool, ty_str_int, ty_str_tuple, ty_str_list, ty_str_str, List.set_cons_succ, List.set_cons_zero, wipeE, puX_pre, exn_inj, Nat.reduceEqDiff, List.zip_nil_left, Nat.le_refl, Nat.reduceLeDiff, ck_0_18, ck_1_18, is_0_18, is_1_18]
  refine whl_inv (fun m env S' => ∃ x y r, env = [some (.int x), some (.int y), r] ∧ S' = S ∧ m = y.natAbs ∧ Int.gcd x y = Int.gcd a b) b.natAbs ⟨a, b, none, rfl, rfl, rfl, rfl⟩ ?_
  rintro m env S' ⟨x, y, r, rfl, rfl, rfl, hg⟩
  simp only [↓wE_lit, ↓wE_bin, ↓wE_neg, ↓wE_nott, ↓wE_cmp, ↓wE_chain, ↓wE_andd, ↓wE_orr, ↓wE_ife, ↓wE_nil, ↓wE_cons, ↓wE_tup, ↓wE_lst, ↓wE_idx, ↓wE_slc, ↓wE_fld, ↓wE_meth, ↓wE_new, ↓wE_sup, ↓wE_blt, ↓wE_isty, ↓wE_iscl, ↓wE_dnew, ↓wE_dget, ↓wE_din, ↓wE_dget2, ↓wE_sm, ↓wT_cmp, ↓wT_chain, ↓wT_nott, ↓wT_andd, ↓wT_orr, ↓wT_ife, ↓wT_lit, ↓wT_idx, ↓wT_bin, ↓wT_meth, ↓wT_blt, ↓wT_isty, ↓wT_iscl, ↓wT_fld, ↓wT_din, ↓wT_dget, ↓wT_sm, ↓wT_neg, ↓wT_nil, ↓wT_cons, ↓wT_tup, ↓wT_lst, ↓wT_slc, ↓wT_new, ↓wT_comp, ↓wT_sup, ↓wT_dnew, ↓wT_dget2, ↓wT_dpop, ↓wT_clo, ↓wT_ccall, ↓wA_nil, ↓wA_cons, ↓wO_nil, ↓wO_cons, ↓wE_compK, ↓wE_compF, ↓wE_call0, ↓wT_call0, ↓wE_v0, ↓wE_v1, ↓wE_v2, ↓wE_v3, ↓wE_v4, ↓wE_v5, ↓wE_v6, ↓wE_v7, ↓wE_v8, ↓wE_v9, ↓wE_v10, ↓wE_v11, ↓wE_v12, ↓wE_v13, ↓wE_v14, ↓wE_v15, ↓wE_v16, ↓wE_v17, ↓wE_v18, ↓wE_v19, ↓wE_v20, ↓wE_v21, ↓wE_v22, ↓wE_v23, ↓wE_v24, ↓wE_v25, ↓wE_v26, ↓wE_v27, ↓wE_v28, ↓wE_v29, ↓wT_v0, ↓wT_v1, ↓wT_v2, ↓wT_v3, ↓wT_v4, ↓wT_v5, ↓wT_v6, ↓wT_v7, ↓wT_v8, ↓wT_v9, ↓wT_v10, ↓wT_v11, ↓wT_v12, ↓wT_v13, ↓wT_v14, ↓wT_v15, ↓wT_v16, ↓wT_v17, ↓wT_v18, ↓wT_v19, ↓wT_v20, ↓wT_v21, ↓wT_v22, ↓wT_v23, ↓wT_v24, ↓wT_v25, ↓wT_v26, ↓wT_v27, ↓wT_v28, ↓wT_v29, ↓tgt_0, ↓tgt_1, ↓tgt_2, ↓tgt_3, ↓tgt_4, ↓tgt_5, ↓tgt_6, ↓tgt_7, ↓tgt_8, ↓tgt_9, ↓tgt_10, ↓tgt_11, ↓tgt_12, ↓tgt_13, ↓tgt_14, ↓tgt_15, ↓tgt_16, ↓tgt_17, ↓tgt_18, ↓tgt_19, ↓tgt_20, ↓tgt_21, ↓tgt_22, ↓tgt_23, ↓tgt_24, ↓tgt_25, ↓tgt_26, ↓tgt_27, ↓tgt_28, ↓tgt_29, ↓exI_0, ↓exI_1, ↓exI_2, ↓exI_3, ↓exI_4, ↓exI_5, ↓exI_6, ↓exI_7, ↓exI_8, ↓exI_9, ↓exI_10, ↓exI_11, ↓exI_12, ↓exI_13, ↓exI_14, ↓exI_15, ↓exI_16, ↓exI_17, ↓exI_18, ↓exI_19, ↓exI_20, ↓exI_21, ↓exI_22, ↓exI_23, ↓exI_24, ↓exI_25, ↓exI_26, ↓exI_27, ↓exI_28, ↓exI_29, ↓exT_0, ↓exT_1, ↓exT_2, ↓exT_3, ↓exT_4, ↓exT_5, ↓exT_6, ↓exT_7, ↓exT_8, ↓exT_9, ↓exT_10, ↓exT_11, ↓exT_12, ↓exT_13, ↓exT_14, ↓exT_15, ↓exT_16, ↓exT_17, ↓exT_18, ↓exT_19, ↓exT_20, ↓exT_21, ↓exT_22, ↓exT_23, ↓exT_24, ↓exT_25, ↓exT_26, ↓exT_27, ↓exT_28, ↓exT_29, ↓exF_0, ↓exF_1, ↓exF_2, ↓exF_3, ↓exF_4, ↓exF_5, ↓exF_6, ↓exF_7, ↓exF_8, ↓exF_9, ↓exF_10, ↓exF_11, ↓exF_12, ↓exF_13, ↓exF_14, ↓exF_15, ↓exF_16, ↓exF_17, ↓exF_18, ↓exF_19, ↓exF_20, ↓exF_21, ↓exF_22, ↓exF_23, ↓exF_24, ↓exF_25, ↓exF_26, ↓exF_27, ↓exF_28, ↓exF_29, ↓tgt_tn, ↓tgt_tc, ↓wS_skip, ↓wS_seqL, ↓later_at, ↓wS_asg_var, ↓wS_asg_lit, ↓wS_asg_bin, ↓wS_asg_neg, ↓wS_asg_nott, ↓wS_asg_cmp, ↓wS_asg_chain, ↓wS_asg_andd, ↓wS_asg_orr, ↓wS_asg_ife, ↓wS_asg_tup, ↓wS_asg_lst, ↓wS_asg_idx, ↓wS_asg_slc, ↓wS_asg_fld, ↓wS_asg_call, ↓wS_asg_meth, ↓wS_asg_new, ↓wS_asg_blt, ↓wS_asg_isty, ↓wS_asg_iscl, ↓wS_asg_exis, ↓wS_asg_exfl, ↓wS_asg_dnew, ↓wS_asg_dget, ↓wS_asg_din, ↓wS_asg_nil, ↓wS_asg_comp, ↓wS_asg_compF, ↓nxK_at, ↓wS_asgF, ↓wS_asgI, ↓wS_asgD, ↓wS_augN, ↓wS_augI, ↓wS_parL, ↓wS_expr, ↓wS_bm, ↓wS_ret, ↓wS_retN, ↓wS_ite, ↓wFor_cons, ↓wFor_nil, ↓wS_for, ↓wS_brk, ↓wS_cnt, ↓wS_raise, ↓wS_tri, ↓wH_nil, ↓wH_cons0, ↓wH_cons1, ↓tyIs_ref, ↓opBm_appendL, ↓setIL, ↓isL_ref, ↓ob_add, ↓ob_adds, ↓ob_addt, ↓ob_addl, ↓ob_addrl, ↓ob_addlr, ↓ob_addrr, ↓ob_addM, ↓ob_sub, ↓ob_mul, ↓ob_mull, ↓ob_mulM, ↓ob_fdiv, ↓ob_mod, ↓ob_pow, ↓oi_abs, ↓oi_lent, ↓oi_lens, ↓oi_lenr, ↓oi_sortedr, ↓oi_sortedMr, ↓oi_tupler, ↓oi_listr, ↓oi_listMr, ↓oi_sumr, ↓oi_anyr, ↓oi_allr, ↓oi_mxr, ↓oi_mnr, ↓oi_lenl, ↓oi_sortedl, ↓oi_sortedMl, ↓oi_tuplel, ↓oi_listl, ↓oi_listMl, ↓oi_suml, ↓oi_anyl, ↓oi_alll, ↓oi_mxl, ↓oi_mnl, ↓oi_mxt, ↓oi_mnt, ↓oi_max2, ↓oi_min2, ↓oi_int, ↓oi_intb, ↓oi_tuplet, ↓oi_listt, ↓oi_listMt, ↓oi_str, ↓oi_divmod, ↓tru_non, ↓tru_bl, ↓tru_int, ↓tru_str, ↓tru_tup, ↓tru_ref, ↓tru_sl, ↓tyIs_non, ↓tyIs_bl, ↓tyIs_int, ↓tyIs_str, ↓tyIs_tup, ↓tyIs_sl, ↓it_t, ↓it_sr, ↓it_er, ↓it_vr, ↓it_sl, ↓it_el, ↓it_vl, ↓it_z, ↓it_1, ↓it_2, ↓it_3, ↓ltI_i, ↓tl_i, ↓optI_i, ↓osl_t, ↓osl_s, ↓osl_l, ↓osl_r, ↓osl_lM, ↓osl_rM, ↓sq_t, ↓sq_l, ↓getI_i, ↓opIx_tup, ↓opIx_ref, ↓opIx_sl, ↓atQ_0, ↓atQ_1, ↓atQ_2, ↓atQ_3, ↓getL_put, ↓getL_put_ne, ↓getL_put_ne', ↓getL_sl, ↓opC_eq_int, ↓opC_ne_int, ↓opC_eq_bl, ↓opC_ne_bl, ↓opC_eq_t2, ↓opC_ne_t2, ↓opC_eq_t3, ↓opC_ne_t3, ↓opC_eq_t32, ↓opC_ne_t32, ↓opC_lt, ↓opC_le, ↓opC_gt, ↓opC_ge, ↓opC_ne_nil, ↓opC_eq_nil, ↓opC_is, ↓opC_isnot, ↓opC_isb, ↓opC_isnb, ↓opC_isi, ↓opC_isni, ↓opC_ist, ↓opC_isnt, ↓opC_iso, ↓opC_isno, ↓opC_in, ↓opC_notin, ↓finpu_rt, ↓finpu_nx, ↓finpu_ex, ↓finlaw_rt, ↓finlaw_nx, ↓finlaw_ex, ↓finV_rt, ↓finV_nx, ↓finV_ex, ↓finE_rt, ↓finO_rt, ↓finO_ex, ↓finE_ex, ↓finS_rt, ↓finS_ex, ↓finR_ex, ↓finX_rt, ↓finX_nx, ↓finX_ex, put_none, put_put, Val.isNon, intsOf, atI_0, atI_1, atI_2, atI_3, cutG_to, cutG_from, sub_refl_iff, pu_pre, puV_pre, puE_pre, puO_pre, puS_pre, puR_pre, Option.some.injEq, exists_eq_left', exists_eq_left, exists_eq, exists_eq', Val.int.injEq, Val.bl.injEq, Val.str.injEq, Val.tup.injEq, Val.ref.injEq, List.cons.injEq, List.map_cons, List.map_nil, List.length_cons, List.length_nil, List.cons_append, List.nil_append, List.append_nil, Bool.false_eq_true, if_true, if_false, ite_true, ite_false, true_and, and_true, false_and, and_false, Bool.not_true, Bool.not_false, decide_eq_true_eq, bne_iff_ne, ne_eq, beq_iff_eq, put_same, imp_false, false_implies, implies_true, reduceCtorEq, not_false_eq_true, and_self, Bool.or_false, Bool.or_true, Bool.false_or, Bool.true_or, Bool.not_eq_true, Bool.not_eq_eq_eq_not, Bool.decide_eq_false, decide_eq_false_iff_not, Bool.not_eq_true', beq_eq_false_iff_ne, bne_eq_false_iff_eq, List.isEmpty_cons, List.isEmpty_nil, Int.reduceEq, Int.reduceNe, Int.reduceLT, Int.reduceLE, Int.reduceNeg, Int.reduceAdd, Int.reduceSub, Int.reduceMul, Int.reduceToNat, Nat.reduceLT, Nat.reduceLeDiff, Nat.reducePow, Nat.reduceAdd, Nat.reduceSub, ty_bool_bool, ty_bool_int, ty_bool_tuple, ty_bool_list, ty_bool_str, ty_int_bool, ty_int_int, ty_int_tuple, ty_int_list, ty_int_str, ty_tuple_bool, ty_tuple_int, ty_tuple_tuple, ty_tuple_list, ty_tuple_str, ty_list_bool, ty_list_int, ty_list_tuple, ty_list_list, ty_list_str, ty_str_bool, ty_str_int, ty_str_tuple, ty_str_list, ty_str_str, List.set_cons_succ, List.set_cons_zero, wipeE, puX_pre, exn_inj, Nat.reduceEqDiff, List.zip_nil_left, Nat.le_refl, Nat.reduceLeDiff]
  split
  · rename_i hy
    exact ⟨hy, _, natAbs_fmod_lt x hy, y, x.fmod y, _, ⟨rfl, rfl, rfl⟩, rfl, (gcd_fmod x y).trans hg⟩
  · rename_i hy
    have hy : y = 0 := by omega
    subst hy
    rw [← hg, Int.gcd_zero_right]
    split <;> omega
theorem w_point_of : ∀ as S, (sp_point_of as S).pre → wS T_point_of s_point_of (startE C_point_of.N as) S (fin (sp_point_of as S)) := by
  intro as S h
  unfold sp_point_of at h ⊢
  split at h
  rotate_left
  · exact h.elim
  rename_i x y w
  change wS T_point_of s_point_of [some (.int x), some (.int y), some (.int w), none] S _
  unfold s_point_of
  simp only [↓wE_lit, ↓wE_bin, ↓wE_neg, ↓wE_nott, ↓wE_cmp, ↓wE_chain, ↓wE_andd, ↓wE_orr, ↓wE_ife, ↓wE_nil, ↓wE_cons, ↓wE_tup, ↓wE_lst, ↓wE_idx, ↓wE_slc, ↓wE_fld, ↓wE_meth, ↓wE_new, ↓wE_sup, ↓wE_blt, ↓wE_isty, ↓wE_iscl, ↓wE_dnew, ↓wE_dget, ↓wE_din, ↓wE_dget2, ↓wE_sm, ↓wT_cmp, ↓wT_chain, ↓wT_nott, ↓wT_andd, ↓wT_orr, ↓wT_ife, ↓wT_lit, ↓wT_idx, ↓wT_bin, ↓wT_meth, ↓wT_blt, ↓wT_isty, ↓wT_iscl, ↓wT_fld, ↓wT_din, ↓wT_dget, ↓wT_sm, ↓wT_neg, ↓wT_nil, ↓wT_cons, ↓wT_tup, ↓wT_lst, ↓wT_slc, ↓wT_new, ↓wT_comp, ↓wT_sup, ↓wT_dnew, ↓wT_dget2, ↓wT_dpop, ↓wT_clo, ↓wT_ccall, ↓wA_nil, ↓wA_cons, ↓wO_nil, ↓wO_cons, ↓wE_compK, ↓wE_compF, ↓wE_call0, ↓wT_call0, ↓wE_v0, ↓wE_v1, ↓wE_v2, ↓wE_v3, ↓wE_v4, ↓wE_v5, ↓wE_v6, ↓wE_v7, ↓wE_v8, ↓wE_v9, ↓wE_v10, ↓wE_v11, ↓wE_v12, ↓wE_v13, ↓wE_v14, ↓wE_v15, ↓wE_v16, ↓wE_v17, ↓wE_v18, ↓wE_v19, ↓wE_v20, ↓wE_v21, ↓wE_v22, ↓wE_v23, ↓wE_v24, ↓wE_v25, ↓wE_v26, ↓wE_v27, ↓wE_v28, ↓wE_v29, ↓wT_v0, ↓wT_v1, ↓wT_v2, ↓wT_v3, ↓wT_v4, ↓wT_v5, ↓wT_v6, ↓wT_v7, ↓wT_v8, ↓wT_v9, ↓wT_v10, ↓wT_v11, ↓wT_v12, ↓wT_v13, ↓wT_v14, ↓wT_v15, ↓wT_v16, ↓wT_v17, ↓wT_v18, ↓wT_v19, ↓wT_v20, ↓wT_v21, ↓wT_v22, ↓wT_v23, ↓wT_v24, ↓wT_v25, ↓wT_v26, ↓wT_v27, ↓wT_v28, ↓wT_v29, ↓tgt_0, ↓tgt_1, ↓tgt_2, ↓tgt_3, ↓tgt_4, ↓tgt_5, ↓tgt_6, ↓tgt_7, ↓tgt_8, ↓tgt_9, ↓tgt_10, ↓tgt_11, ↓tgt_12, ↓tgt_13, ↓tgt_14, ↓tgt_15, ↓tgt_16, ↓tgt_17, ↓tgt_18, ↓tgt_19, ↓tgt_20, ↓tgt_21, ↓tgt_22, ↓tgt_23, ↓tgt_24, ↓tgt_25, ↓tgt_26, ↓tgt_27, ↓tgt_28, ↓tgt_29, ↓exI_0, ↓exI_1, ↓exI_2, ↓exI_3, ↓exI_4, ↓exI_5, ↓exI_6, ↓exI_7, ↓exI_8, ↓exI_9, ↓exI_10, ↓exI_11, ↓exI_12, ↓exI_13, ↓exI_14, ↓exI_15, ↓exI_16, ↓exI_17, ↓exI_18, ↓exI_19, ↓exI_20, ↓exI_21, ↓exI_22, ↓exI_23, ↓exI_24, ↓exI_25, ↓exI_26, ↓exI_27, ↓exI_28, ↓exI_29, ↓exT_0, ↓exT_1, ↓exT_2, ↓exT_3, ↓exT_4, ↓exT_5, ↓exT_6, ↓exT_7, ↓exT_8, ↓exT_9, ↓exT_10, ↓exT_11, ↓exT_12, ↓exT_13, ↓exT_14, ↓exT_15, ↓exT_16, ↓exT_17, ↓exT_18, ↓exT_19, ↓exT_20, ↓exT_21, ↓exT_22, ↓exT_23, ↓exT_24, ↓exT_25, ↓exT_26, ↓exT_27, ↓exT_28, ↓exT_29, ↓exF_0, ↓exF_1, ↓exF_2, ↓exF_3, ↓exF_4, ↓exF_5, ↓exF_6, ↓exF_7, ↓exF_8, ↓exF_9, ↓exF_10, ↓exF_11, ↓exF_12, ↓exF_13, ↓exF_14, ↓exF_15, ↓exF_16, ↓exF_17, ↓exF_18, ↓exF_19, ↓exF_20, ↓exF_21, ↓exF_22, ↓exF_23, ↓exF_24, ↓exF_25, ↓exF_26, ↓exF_27, ↓exF_28, ↓exF_29, ↓tgt_tn, ↓tgt_tc, ↓wS_skip, ↓wS_seqL, ↓later_at, ↓wS_asg_var, ↓wS_asg_lit, ↓wS_asg_bin, ↓wS_asg_neg, ↓wS_asg_nott, ↓wS_asg_cmp, ↓wS_asg_chain, ↓wS_asg_andd, ↓wS_asg_orr, ↓wS_asg_ife, ↓wS_asg_tup, ↓wS_asg_lst, ↓wS_asg_idx, ↓wS_asg_slc, ↓wS_asg_fld, ↓wS_asg_call, ↓wS_asg_meth, ↓wS_asg_new, ↓wS_asg_blt, ↓wS_asg_isty, ↓wS_asg_iscl, ↓wS_asg_exis, ↓wS_asg_exfl, ↓wS_asg_dnew, ↓wS_asg_dget, ↓wS_asg_din, ↓wS_asg_nil, ↓wS_asg_comp, ↓wS_asg_compF, ↓nxK_at, ↓wS_asgF, ↓wS_asgI, ↓wS_asgD, ↓wS_augN, ↓wS_augI, ↓wS_parL, ↓wS_expr, ↓wS_bm, ↓wS_ret, ↓wS_retN, ↓wS_ite, ↓wFor_cons, ↓wFor_nil, ↓wS_for, ↓wS_brk, ↓wS_cnt, ↓wS_raise, ↓wS_tri, ↓wH_nil, ↓wH_cons0, ↓wH_cons1, ↓tyIs_ref, ↓opBm_appendL, ↓setIL, ↓isL_ref, ↓ob_add, ↓ob_adds, ↓ob_addt, ↓ob_addl, ↓ob_addrl, ↓ob_addlr, ↓ob_addrr, ↓ob_addM, ↓ob_sub, ↓ob_mul, ↓ob_mull, ↓ob_mulM, ↓ob_fdiv, ↓ob_mod, ↓ob_pow, ↓oi_abs, ↓oi_lent, ↓oi_lens, ↓oi_lenr, ↓oi_sortedr, ↓oi_sortedMr, ↓oi_tupler, ↓oi_listr, ↓oi_listMr, ↓oi_sumr, ↓oi_anyr, ↓oi_allr, ↓oi_mxr, ↓oi_mnr, ↓oi_lenl, ↓oi_sortedl, ↓oi_sortedMl, ↓oi_tuplel, ↓oi_listl, ↓oi_listMl, ↓oi_suml, ↓oi_anyl, ↓oi_alll, ↓oi_mxl, ↓oi_mnl, ↓oi_mxt, ↓oi_mnt, ↓oi_max2, ↓oi_min2, ↓oi_int, ↓oi_intb, ↓oi_tuplet, ↓oi_listt, ↓oi_listMt, ↓oi_str, ↓oi_divmod, ↓tru_non, ↓tru_bl, ↓tru_int, ↓tru_str, ↓tru_tup, ↓tru_ref, ↓tru_sl, ↓tyIs_non, ↓tyIs_bl, ↓tyIs_int, ↓tyIs_str, ↓tyIs_tup, ↓tyIs_sl, ↓it_t, ↓it_sr, ↓it_er, ↓it_vr, ↓it_sl, ↓it_el, ↓it_vl, ↓it_z, ↓it_1, ↓it_2, ↓it_3, ↓ltI_i, ↓tl_i, ↓optI_i, ↓osl_t, ↓osl_s, ↓osl_l, ↓osl_r, ↓osl_lM, ↓osl_rM, ↓sq_t, ↓sq_l, ↓getI_i, ↓opIx_tup, ↓opIx_ref, ↓opIx_sl, ↓atQ_0, ↓atQ_1, ↓atQ_2, ↓atQ_3, ↓getL_put, ↓getL_put_ne, ↓getL_put_ne', ↓getL_sl, ↓opC_eq_int, ↓opC_ne_int, ↓opC_eq_bl, ↓opC_ne_bl, ↓opC_eq_t2, ↓opC_ne_t2, ↓opC_eq_t3, ↓opC_ne_t3, ↓opC_eq_t32, ↓opC_ne_t32, ↓opC_lt, ↓opC_le, ↓opC_gt, ↓opC_ge, ↓opC_ne_nil, ↓opC_eq_nil, ↓opC_is, ↓opC_isnot, ↓opC_isb, ↓opC_isnb, ↓opC_isi, ↓opC_isni, ↓opC_ist, ↓opC_isnt, ↓opC_iso, ↓opC_isno, ↓opC_in, ↓opC_notin, ↓finpu_rt, ↓finpu_nx, ↓finpu_ex, ↓finlaw_rt, ↓finlaw_nx, ↓finlaw_ex, ↓finV_rt, ↓finV_nx, ↓finV_ex, ↓finE_rt, ↓finO_rt, ↓finO_ex, ↓finE_ex, ↓finS_rt, ↓finS_ex, ↓finR_ex, ↓finX_rt, ↓finX_nx, ↓finX_ex, put_none, put_put, Val.isNon, intsOf, atI_0, atI_1, atI_2, atI_3, cutG_to, cutG_from, sub_refl_iff, pu_pre, puV_pre, puE_pre, puO_pre, puS_pre, puR_pre, Option.some.injEq, exists_eq_left', exists_eq_left, exists_eq, exists_eq', Val.int.injEq, Val.bl.injEq, Val.str.injEq, Val.tup.injEq, Val.ref.injEq, List.cons.injEq, List.map_cons, List.map_nil, List.length_cons, List.length_nil, List.cons_append, List.nil_append, List.append_nil, Bool.false_eq_true, if_true, if_false, ite_true, ite_false, true_and, and_true, false_and, and_false, Bool.not_true, Bool.not_false, decide_eq_true_eq, bne_iff_ne, ne_eq, beq_iff_eq, put_same, imp_false, false_implies, implies_true, reduceCtorEq, not_false_eq_true, and_self, Bool.or_false, Bool.or_true, Bool.false_or, Bool.true_or, Bool.not_eq_true, Bool.not_eq_eq_eq_not, Bool.decide_eq_false, decide_eq_false_iff_not, Bool.not_eq_true', beq_eq_false_iff_ne, bne_eq_false_iff_eq, List.isEmpty_cons, List.isEmpty_nil, Int.reduceEq, Int.reduceNe, Int.reduceLT, Int.reduceLE, Int.reduceNeg, Int.reduceAdd, Int.reduceSub, Int.reduceMul, Int.reduceToNat, Nat.reduceLT, Nat.reduceLeDiff, Nat.reducePow, Nat.reduceAdd, Nat.reduceSub, ty_bool_bool, ty_bool_int, ty_bool_tuple, ty_bool_list, ty_bool_str, ty_int_bool, ty_int_int, ty_int_tuple, ty_int_list, ty_int_str, ty_tuple_bool, ty_tuple_int, ty_tuple_tuple, ty_tuple_list, ty_tuple_str, ty_list_bool, ty_list_int, ty_list_tuple, ty_list_list, ty_list_str, ty_str_bool, ty_str_int, ty_str_tuple, ty_str_list, ty_str_str, List.set_cons_succ, List.set_cons_zero, wipeE, puX_pre, exn_inj, Nat.reduceEqDiff, List.zip_nil_left, Nat.le_refl, Nat.reduceLeDiff, ↓call_divisor (T0 := T_point_of) rfl, ck_0_18, ck_1_18, is_0_18, is_1_18]
  replace h : w.natAbs.log2 < 8000 := h
  split
  · assumption
  · rename_i hb
    have hg := gcd_pos (a := ↑(Int.gcd x y)) hb
    have hgl := gcd_log (a := ↑(Int.gcd x y)) hb h
    split
    · rename_i hn
      have z := isP_neg (x := x) (y := y) hn
      have d : ∀ v, DivOk v (-↑(Int.gcd (Int.gcd x y) w)) := fun v => ⟨by omega, by rw [Int.natAbs_neg]; omega⟩
      exact ⟨d _, d _, d _, hb, _, ⟨rfl, rfl, rfl⟩, z⟩
    · have z := isP_pos (x := x) (y := y) (w := w) (by omega)
      have d : ∀ v, DivOk v ↑(Int.gcd (Int.gcd x y) w) := fun v => ⟨by omega, by omega⟩
      exact ⟨d _, d _, d _, hb, _, ⟨rfl, rfl, rfl⟩, z⟩
theorem w_look_inside : ∀ as S, (sp_look_inside as S).pre → wS T_look_inside s_look_inside (startE C_look_inside.N as) S (fin (sp_look_inside as S)) := by
  intro as S h
  unfold sp_look_inside at h ⊢
  split at h
  rotate_left
  · exact h.elim
  rename_i u v x y w
  change wS T_look_inside s_look_inside [some (.int u), some (.int v), some (.tup [.int x, .int y, .int w]), none, none, none] S _
  unfold s_look_inside
  simp only [↓wE_lit, ↓wE_bin, ↓wE_neg, ↓wE_nott, ↓wE_cmp, ↓wE_chain, ↓wE_andd, ↓wE_orr, ↓wE_ife, ↓wE_nil, ↓wE_cons, ↓wE_tup, ↓wE_lst, ↓wE_idx, ↓wE_slc, ↓wE_fld, ↓wE_meth, ↓wE_new, ↓wE_sup, ↓wE_blt, ↓wE_isty, ↓wE_iscl, ↓wE_dnew, ↓wE_dget, ↓wE_din, ↓wE_dget2, ↓wE_sm, ↓wT_cmp, ↓wT_chain, ↓wT_nott, ↓wT_andd, ↓wT_orr, ↓wT_ife, ↓wT_lit, ↓wT_idx, ↓wT_bin, ↓wT_meth, ↓wT_blt, ↓wT_isty, ↓wT_iscl, ↓wT_fld, ↓wT_din, ↓wT_dget, ↓wT_sm, ↓wT_neg, ↓wT_nil, ↓wT_cons, ↓wT_tup, ↓wT_lst, ↓wT_slc, ↓wT_new, ↓wT_comp, ↓wT_sup, ↓wT_dnew, ↓wT_dget2, ↓wT_dpop, ↓wT_clo, ↓wT_ccall, ↓wA_nil, ↓wA_cons, ↓wO_nil, ↓wO_cons, ↓wE_compK, ↓wE_compF, ↓wE_call0, ↓wT_call0, ↓wE_v0, ↓wE_v1, ↓wE_v2, ↓wE_v3, ↓wE_v4, ↓wE_v5, ↓wE_v6, ↓wE_v7, ↓wE_v8, ↓wE_v9, ↓wE_v10, ↓wE_v11, ↓wE_v12, ↓wE_v13, ↓wE_v14, ↓wE_v15, ↓wE_v16, ↓wE_v17, ↓wE_v18, ↓wE_v19, ↓wE_v20, ↓wE_v21, ↓wE_v22, ↓wE_v23, ↓wE_v24, ↓wE_v25, ↓wE_v26, ↓wE_v27, ↓wE_v28, ↓wE_v29, ↓wT_v0, ↓wT_v1, ↓wT_v2, ↓wT_v3, ↓wT_v4, ↓wT_v5, ↓wT_v6, ↓wT_v7, ↓wT_v8, ↓wT_v9, ↓wT_v10, ↓wT_v11, ↓wT_v12, ↓wT_v13, ↓wT_v14, ↓wT_v15, ↓wT_v16, ↓wT_v17, ↓wT_v18, ↓wT_v19, ↓wT_v20, ↓wT_v21, ↓wT_v22, ↓wT_v23, ↓wT_v24, ↓wT_v25, ↓wT_v26, ↓wT_v27, ↓wT_v28, ↓wT_v29, ↓tgt_0, ↓tgt_1, ↓tgt_2, ↓tgt_3, ↓tgt_4, ↓tgt_5, ↓tgt_6, ↓tgt_7, ↓tgt_8, ↓tgt_9, ↓tgt_10, ↓tgt_11, ↓tgt_12, ↓tgt_13, ↓tgt_14, ↓tgt_15, ↓tgt_16, ↓tgt_17, ↓tgt_18, ↓tgt_19, ↓tgt_20, ↓tgt_21, ↓tgt_22, ↓tgt_23, ↓tgt_24, ↓tgt_25, ↓tgt_26, ↓tgt_27, ↓tgt_28, ↓tgt_29, ↓exI_0, ↓exI_1, ↓exI_2, ↓exI_3, ↓exI_4, ↓exI_5, ↓exI_6, ↓exI_7, ↓exI_8, ↓exI_9, ↓exI_10, ↓exI_11, ↓exI_12, ↓exI_13, ↓exI_14, ↓exI_15, ↓exI_16, ↓exI_17, ↓exI_18, ↓exI_19, ↓exI_20, ↓exI_21, ↓exI_22, ↓exI_23, ↓exI_24, ↓exI_25, ↓exI_26, ↓exI_27, ↓exI_28, ↓exI_29, ↓exT_0, ↓exT_1, ↓exT_2, ↓exT_3, ↓exT_4, ↓exT_5, ↓exT_6, ↓exT_7, ↓exT_8, ↓exT_9, ↓exT_10, ↓exT_11, ↓exT_12, ↓exT_13, ↓exT_14, ↓exT_15, ↓exT_16, ↓exT_17, ↓exT_18, ↓exT_19, ↓exT_20, ↓exT_21, ↓exT_22, ↓exT_23, ↓exT_24, ↓exT_25, ↓exT_26, ↓exT_27, ↓exT_28, ↓exT_29, ↓exF_0, ↓exF_1, ↓exF_2, ↓exF_3, ↓exF_4, ↓exF_5, ↓exF_6, ↓exF_7, ↓exF_8, ↓exF_9, ↓exF_10, ↓exF_11, ↓exF_12, ↓exF_13, ↓exF_14, ↓exF_15, ↓exF_16, ↓exF_17, ↓exF_18, ↓exF_19, ↓exF_20, ↓exF_21, ↓exF_22, ↓exF_23, ↓exF_24, ↓exF_25, ↓exF_26, ↓exF_27, ↓exF_28, ↓exF_29, ↓tgt_tn, ↓tgt_tc, ↓wS_skip, ↓wS_seqL, ↓later_at, ↓wS_asg_var, ↓wS_asg_lit, ↓wS_asg_bin, ↓wS_asg_neg, ↓wS_asg_nott, ↓wS_asg_cmp, ↓wS_asg_chain, ↓wS_asg_andd, ↓wS_asg_orr, ↓wS_asg_ife, ↓wS_asg_tup, ↓wS_asg_lst, ↓wS_asg_idx, ↓wS_asg_slc, ↓wS_asg_fld, ↓wS_asg_call, ↓wS_asg_meth, ↓wS_asg_new, ↓wS_asg_blt, ↓wS_asg_isty, ↓wS_asg_iscl, ↓wS_asg_exis, ↓wS_asg_exfl, ↓wS_asg_dnew, ↓wS_asg_dget, ↓wS_asg_din, ↓wS_asg_nil, ↓wS_asg_comp, ↓wS_asg_compF, ↓nxK_at, ↓wS_asgF, ↓wS_asgI, ↓wS_asgD, ↓wS_augN, ↓wS_augI, ↓wS_parL, ↓wS_expr, ↓wS_bm, ↓wS_ret, ↓wS_retN, ↓wS_ite, ↓wFor_cons, ↓wFor_nil, ↓wS_for, ↓wS_brk, ↓wS_cnt, ↓wS_raise, ↓wS_tri, ↓wH_nil, ↓wH_cons0, ↓wH_cons1, ↓tyIs_ref, ↓opBm_appendL, ↓setIL, ↓isL_ref, ↓ob_add, ↓ob_adds, ↓ob_addt, ↓ob_addl, ↓ob_addrl, ↓ob_addlr, ↓ob_addrr, ↓ob_addM, ↓ob_sub, ↓ob_mul, ↓ob_mull, ↓ob_mulM, ↓ob_fdiv, ↓ob_mod, ↓ob_pow, ↓oi_abs, ↓oi_lent, ↓oi_lens, ↓oi_lenr, ↓oi_sortedr, ↓oi_sortedMr, ↓oi_tupler, ↓oi_listr, ↓oi_listMr, ↓oi_sumr, ↓oi_anyr, ↓oi_allr, ↓oi_mxr, ↓oi_mnr, ↓oi_lenl, ↓oi_sortedl, ↓oi_sortedMl, ↓oi_tuplel, ↓oi_listl, ↓oi_listMl, ↓oi_suml, ↓oi_anyl, ↓oi_alll, ↓oi_mxl, ↓oi_mnl, ↓oi_mxt, ↓oi_mnt, ↓oi_max2, ↓oi_min2, ↓oi_int, ↓oi_intb, ↓oi_tuplet, ↓oi_listt, ↓oi_listMt, ↓oi_str, ↓oi_divmod, ↓tru_non, ↓tru_bl, ↓tru_int, ↓tru_str, ↓tru_tup, ↓tru_ref, ↓tru_sl, ↓tyIs_non, ↓tyIs_bl, ↓tyIs_int, ↓tyIs_str, ↓tyIs_tup, ↓tyIs_sl, ↓it_t, ↓it_sr, ↓it_er, ↓it_vr, ↓it_sl, ↓it_el, ↓it_vl, ↓it_z, ↓it_1, ↓it_2, ↓it_3, ↓ltI_i, ↓tl_i, ↓optI_i, ↓osl_t, ↓osl_s, ↓osl_l, ↓osl_r, ↓osl_lM, ↓osl_rM, ↓sq_t, ↓sq_l, ↓getI_i, ↓opIx_tup, ↓opIx_ref, ↓opIx_sl, ↓atQ_0, ↓atQ_1, ↓atQ_2, ↓atQ_3, ↓getL_put, ↓getL_put_ne, ↓getL_put_ne', ↓getL_sl, ↓opC_eq_int, ↓opC_ne_int, ↓opC_eq_bl, ↓opC_ne_bl, ↓opC_eq_t2, ↓opC_ne_t2, ↓opC_eq_t3, ↓opC_ne_t3, ↓opC_eq_t32, ↓opC_ne_t32, ↓opC_lt, ↓opC_le, ↓opC_gt, ↓opC_ge, ↓opC_ne_nil, ↓opC_eq_nil, ↓opC_is, ↓opC_isnot, ↓opC_isb, ↓opC_isnb, ↓opC_isi, ↓opC_isni, ↓opC_ist, ↓opC_isnt, ↓opC_iso, ↓opC_isno, ↓opC_in, ↓opC_notin, ↓finpu_rt, ↓finpu_nx, ↓finpu_ex, ↓finlaw_rt, ↓finlaw_nx, ↓finlaw_ex, ↓finV_rt, ↓finV_nx, ↓finV_ex, ↓finE_rt, ↓finO_rt, ↓finO_ex, ↓finE_ex, ↓finS_rt, ↓finS_ex, ↓finR_ex, ↓finX_rt, ↓finX_nx, ↓finX_ex, put_none, put_put, Val.isNon, intsOf, atI_0, atI_1, atI_2, atI_3, cutG_to, cutG_from, sub_refl_iff, pu_pre, puV_pre, puE_pre, puO_pre, puS_pre, puR_pre, Option.some.injEq, exists_eq_left', exists_eq_left, exists_eq, exists_eq', Val.int.injEq, Val.bl.injEq, Val.str.injEq, Val.tup.injEq, Val.ref.injEq, List.cons.injEq, List.map_cons, List.map_nil, List.length_cons, List.length_nil, List.cons_append, List.nil_append, List.append_nil, Bool.false_eq_true, if_true, if_false, ite_true, ite_false, true_and, and_true, false_and, and_false, Bool.not_true, Bool.not_false, decide_eq_true_eq, bne_iff_ne, ne_eq, beq_iff_eq, put_same, imp_false, false_implies, implies_true, reduceCtorEq, not_false_eq_true, and_self, Bool.or_false, Bool.or_true, Bool.false_or, Bool.true_or, Bool.not_eq_true, Bool.not_eq_eq_eq_not, Bool.decide_eq_false, decide_eq_false_iff_not, Bool.not_eq_true', beq_eq_false_iff_ne, bne_eq_false_iff_eq, List.isEmpty_cons, List.isEmpty_nil, Int.reduceEq, Int.reduceNe, Int.reduceLT, Int.reduceLE, Int.reduceNeg, Int.reduceAdd, Int.reduceSub, Int.reduceMul, Int.reduceToNat, Nat.reduceLT, Nat.reduceLeDiff, Nat.reducePow, Nat.reduceAdd, Nat.reduceSub, ty_bool_bool, ty_bool_int, ty_bool_tuple, ty_bool_list, ty_bool_str, ty_int_bool, ty_int_int, ty_int_tuple, ty_int_list, ty_int_str, ty_tuple_bool, ty_tuple_int, ty_tuple_tuple, ty_tuple_list, ty_tuple_str, ty_list_bool, ty_list_int, ty_list_tuple, ty_list_list, ty_list_str, ty_str_bool, ty_str_int, ty_str_tuple, ty_str_list, ty_str_str, List.set_cons_succ, List.set_cons_zero, wipeE, puX_pre, exn_inj, Nat.reduceEqDiff, List.zip_nil_left, Nat.le_refl, Nat.reduceLeDiff, ck_0_18, ck_1_18, is_0_18, is_1_18]
  obtain ⟨h7, h8, h9⟩ := h
  have ml1 : MulOk u w := mulOk_of (by omega) (by omega)
  have ml2 : MulOk v w := mulOk_of (by omega) (by omega)
  have keyT : ∀ {q : Prop}, q → Out u v x y w ∨ ¬ Out u v x y w := fun _ => Classical.em _
  unfold Out at *
  split
  · omega
  · split
    · omega
    · split
      · omega
      · split
        · omega
        · refine ⟨ml1, ?_⟩
          split
          · omega
          · refine ⟨ml2, ?_⟩
            split
            · omega
            · exact ⟨by omega, ⟨⟩, trivial⟩
theorem w_swung__0 : ∀ as S, (sp_swung__0 as S).pre → wS T_swung__0 s_swung__0 (startE C_swung__0.N as) S (fin (sp_swung__0 as S)) := by
  intro as S h
  unfold sp_swung__0 at h ⊢
  split at h
  rotate_left
  · exact h.elim
  rename_i f s e
  change wS T_swung__0 s_swung__0 [some (.int f), some (.int s), some (.int e), none, none, none, none] S _
  unfold s_swung__0
  simp only [↓wE_lit, ↓wE_bin, ↓wE_neg, ↓wE_nott, ↓wE_cmp, ↓wE_chain, ↓wE_andd, ↓wE_orr, ↓wE_ife, ↓wE_nil, ↓wE_cons, ↓wE_tup, ↓wE_lst, ↓wE_idx, ↓wE_slc, ↓wE_fld, ↓wE_meth, ↓wE_new, ↓wE_sup, ↓wE_blt, ↓wE_isty, ↓wE_iscl, ↓wE_dnew, ↓wE_dget, ↓wE_din, ↓wE_dget2, ↓wE_sm, ↓wT_cmp, ↓wT_chain, ↓wT_nott, ↓wT_andd, ↓wT_orr, ↓wT_ife, ↓wT_lit, ↓wT_idx, ↓wT_bin, ↓wT_meth, ↓wT_blt, ↓wT_isty, ↓wT_iscl, ↓wT_fld, ↓wT_din, ↓wT_dget, ↓wT_sm, ↓wT_neg, ↓wT_nil, ↓wT_cons, ↓wT_tup, ↓wT_lst, ↓wT_slc, ↓wT_new, ↓wT_comp, ↓wT_sup, ↓wT_dnew, ↓wT_dget2, ↓wT_dpop, ↓wT_clo, ↓wT_ccall, ↓wA_nil, ↓wA_cons, ↓wO_nil, ↓wO_cons, ↓wE_compK, ↓wE_compF, ↓wE_call0, ↓wT_call0, ↓wE_v0, ↓wE_v1, ↓wE_v2, ↓wE_v3, ↓wE_v4, ↓wE_v5, ↓wE_v6, ↓wE_v7, ↓wE_v8, ↓wE_v9, ↓wE_v10, ↓wE_v11, ↓wE_v12, ↓wE_v13, ↓wE_v14, ↓wE_v15, ↓wE_v16, ↓wE_v17, ↓wE_v18, ↓wE_v19, ↓wE_v20, ↓wE_v21, ↓wE_v22, ↓wE_v23, ↓wE_v24, ↓wE_v25, ↓wE_v26, ↓wE_v27, ↓wE_v28, ↓wE_v29, ↓wT_v0, ↓wT_v1, ↓wT_v2, ↓wT_v3, ↓wT_v4, ↓wT_v5, ↓wT_v6, ↓wT_v7, ↓wT_v8, ↓wT_v9, ↓wT_v10, ↓wT_v11, ↓wT_v12, ↓wT_v13, ↓wT_v14, ↓wT_v15, ↓wT_v16, ↓wT_v17, ↓wT_v18, ↓wT_v19, ↓wT_v20, ↓wT_v21, ↓wT_v22, ↓wT_v23, ↓wT_v24, ↓wT_v25, ↓wT_v26, ↓wT_v27, ↓wT_v28, ↓wT_v29, ↓tgt_0, ↓tgt_1, ↓tgt_2, ↓tgt_3, ↓tgt_4, ↓tgt_5, ↓tgt_6, ↓tgt_7, ↓tgt_8, ↓tgt_9, ↓tgt_10, ↓tgt_11, ↓tgt_12, ↓tgt_13, ↓tgt_14, ↓tgt_15, ↓tgt_16, ↓tgt_17, ↓tgt_18, ↓tgt_19, ↓tgt_20, ↓tgt_21, ↓tgt_22, ↓tgt_23, ↓tgt_24, ↓tgt_25, ↓tgt_26, ↓tgt_27, ↓tgt_28, ↓tgt_29, ↓exI_0, ↓exI_1, ↓exI_2, ↓exI_3, ↓exI_4, ↓exI_5, ↓exI_6, ↓exI_7, ↓exI_8, ↓exI_9, ↓exI_10, ↓exI_11, ↓exI_12, ↓exI_13, ↓exI_14, ↓exI_15, ↓exI_16, ↓exI_17, ↓exI_18, ↓exI_19, ↓exI_20, ↓exI_21, ↓exI_22, ↓exI_23, ↓exI_24, ↓exI_25, ↓exI_26, ↓exI_27, ↓exI_28, ↓exI_29, ↓exT_0, ↓exT_1, ↓exT_2, ↓exT_3, ↓exT_4, ↓exT_5, ↓exT_6, ↓exT_7, ↓exT_8, ↓exT_9, ↓exT_10, ↓exT_11, ↓exT_12, ↓exT_13, ↓exT_14, ↓exT_15, ↓exT_16, ↓exT_17, ↓exT_18, ↓exT_19, ↓exT_20, ↓exT_21, ↓exT_22, ↓exT_23, ↓exT_24, ↓exT_25, ↓exT_26, ↓exT_27, ↓exT_28, ↓exT_29, ↓exF_0, ↓exF_1, ↓exF_2, ↓exF_3, ↓exF_4, ↓exF_5, ↓exF_6, ↓exF_7, ↓exF_8, ↓exF_9, ↓exF_10, ↓exF_11, ↓exF_12, ↓exF_13, ↓exF_14, ↓exF_15, ↓exF_16, ↓exF_17, ↓exF_18, ↓exF_19, ↓exF_20, ↓exF_21, ↓exF_22, ↓exF_23, ↓exF_24, ↓exF_25, ↓exF_26, ↓exF_27, ↓exF_28, ↓exF_29, ↓tgt_tn, ↓tgt_tc, ↓wS_skip, ↓wS_seqL, ↓later_at, ↓wS_asg_var, ↓wS_asg_lit, ↓wS_asg_bin, ↓wS_asg_neg, ↓wS_asg_nott, ↓wS_asg_cmp, ↓wS_asg_chain, ↓wS_asg_andd, ↓wS_asg_orr, ↓wS_asg_ife, ↓wS_asg_tup, ↓wS_asg_lst, ↓wS_asg_idx, ↓wS_asg_slc, ↓wS_asg_fld, ↓wS_asg_call, ↓wS_asg_meth, ↓wS_asg_new, ↓wS_asg_blt, ↓wS_asg_isty, ↓wS_asg_iscl, ↓wS_asg_exis, ↓wS_asg_exfl, ↓wS_asg_dnew, ↓wS_asg_dget, ↓wS_asg_din, ↓wS_asg_nil, ↓wS_asg_comp, ↓wS_asg_compF, ↓nxK_at, ↓wS_asgF, ↓wS_asgI, ↓wS_asgD, ↓wS_augN, ↓wS_augI, ↓wS_parL, ↓wS_expr, ↓wS_bm, ↓wS_ret, ↓wS_retN, ↓wS_ite, ↓wFor_cons, ↓wFor_nil, ↓wS_for, ↓wS_brk, ↓wS_cnt, ↓wS_raise, ↓wS_tri, ↓wH_nil, ↓wH_cons0, ↓wH_cons1, ↓tyIs_ref, ↓opBm_appendL, ↓setIL, ↓isL_ref, ↓ob_add, ↓ob_adds, ↓ob_addt, ↓ob_addl, ↓ob_addrl, ↓ob_addlr, ↓ob_addrr, ↓ob_addM, ↓ob_sub, ↓ob_mul, ↓ob_mull, ↓ob_mulM, ↓ob_fdiv, ↓ob_mod, ↓ob_pow, ↓oi_abs, ↓oi_lent, ↓oi_lens, ↓oi_lenr, ↓oi_sortedr, ↓oi_sortedMr, ↓oi_tupler, ↓oi_listr, ↓oi_listMr, ↓oi_sumr, ↓oi_anyr, ↓oi_allr, ↓oi_mxr, ↓oi_mnr, ↓oi_lenl, ↓oi_sortedl, ↓oi_sortedMl, ↓oi_tuplel, ↓oi_listl, ↓oi_listMl, ↓oi_suml, ↓oi_anyl, ↓oi_alll, ↓oi_mxl, ↓oi_mnl, ↓oi_mxt, ↓oi_mnt, ↓oi_max2, ↓oi_min2, ↓oi_int, ↓oi_intb, ↓oi_tuplet, ↓oi_listt, ↓oi_listMt, ↓oi_str, ↓oi_divmod, ↓tru_non, ↓tru_bl, ↓tru_int, ↓tru_str, ↓tru_tup, ↓tru_ref, ↓tru_sl, ↓tyIs_non, ↓tyIs_bl, ↓tyIs_int, ↓tyIs_str, ↓tyIs_tup, ↓tyIs_sl, ↓it_t, ↓it_sr, ↓it_er, ↓it_vr, ↓it_sl, ↓it_el, ↓it_vl, ↓it_z, ↓it_1, ↓it_2, ↓it_3, ↓ltI_i, ↓tl_i, ↓optI_i, ↓osl_t, ↓osl_s, ↓osl_l, ↓osl_r, ↓osl_lM, ↓osl_rM, ↓sq_t, ↓sq_l, ↓getI_i, ↓opIx_tup, ↓opIx_ref, ↓opIx_sl, ↓atQ_0, ↓atQ_1, ↓atQ_2, ↓atQ_3, ↓getL_put, ↓getL_put_ne, ↓getL_put_ne', ↓getL_sl, ↓opC_eq_int, ↓opC_ne_int, ↓opC_eq_bl, ↓opC_ne_bl, ↓opC_eq_t2, ↓opC_ne_t2, ↓opC_eq_t3, ↓opC_ne_t3, ↓opC_eq_t32, ↓opC_ne_t32, ↓opC_lt, ↓opC_le, ↓opC_gt, ↓opC_ge, ↓opC_ne_nil, ↓opC_eq_nil, ↓opC_is, ↓opC_isnot, ↓opC_isb, ↓opC_isnb, ↓opC_isi, ↓opC_isni, ↓opC_ist, ↓opC_isnt, ↓opC_iso, ↓opC_isno, ↓opC_in, ↓opC_notin, ↓finpu_rt, ↓finpu_nx, ↓finpu_ex, ↓finlaw_rt, ↓finlaw_nx, ↓finlaw_ex, ↓finV_rt, ↓finV_nx, ↓finV_ex, ↓finE_rt, ↓finO_rt, ↓finO_ex, ↓finE_ex, ↓finS_rt, ↓finS_ex, ↓finR_ex, ↓finX_rt, ↓finX_nx, ↓finX_ex, put_none, put_put, Val.isNon, intsOf, atI_0, atI_1, atI_2, atI_3, cutG_to, cutG_from, sub_refl_iff, pu_pre, puV_pre, puE_pre, puO_pre, puS_pre, puR_pre, Option.some.injEq, exists_eq_left', exists_eq_left, exists_eq, exists_eq', Val.int.injEq, Val.bl.injEq, Val.str.injEq, Val.tup.injEq, Val.ref.injEq, List.cons.injEq, List.map_cons, List.map_nil, List.length_cons, List.length_nil, List.cons_append, List.nil_append, List.append_nil, Bool.false_eq_true, if_true, if_false, ite_true, ite_false, true_and, and_true, false_and, and_false, Bool.not_true, Bool.not_false, decide_eq_true_eq, bne_iff_ne, ne_eq, beq_iff_eq, put_same, imp_false, false_implies, implies_true, reduceCtorEq, not_false_eq_true, and_self, Bool.or_false, Bool.or_true, Bool.false_or, Bool.true_or, Bool.not_eq_true, Bool.not_eq_eq_eq_not, Bool.decide_eq_false, decide_eq_false_iff_not, Bool.not_eq_true', beq_eq_false_iff_ne, bne_eq_false_iff_eq, List.isEmpty_cons, List.isEmpty_nil, Int.reduceEq, Int.reduceNe, Int.reduceLT, Int.reduceLE, Int.reduceNeg, Int.reduceAdd, Int.reduceSub, Int.reduceMul, Int.reduceToNat, Nat.reduceLT, Nat.reduceLeDiff, Nat.reducePow, Nat.reduceAdd, Nat.reduceSub, ty_bool_bool, ty_bool_int, ty_bool_tuple, ty_bool_list, ty_bool_str, ty_int_bool, ty_int_int, ty_int_tuple, ty_int_list, ty_int_str, ty_tuple_bool, ty_tuple_int, ty_tuple_tuple, ty_tuple_list, ty_tuple_str, ty_list_bool, ty_list_int, ty_list_tuple, ty_list_list, ty_list_str, ty_str_bool, ty_str_int, ty_str_tuple, ty_str_list, ty_str_str, List.set_cons_succ, List.set_cons_zero, wipeE, puX_pre, exn_inj, Nat.reduceEqDiff, List.zip_nil_left, Nat.le_refl, Nat.reduceLeDiff, ck_0_18, ck_1_18, is_0_18, is_1_18]
  obtain ⟨h1, h2, h3⟩ := h
  rw [if_neg (by omega)]
  refine ⟨⟨by omega, by omega⟩, ?_⟩
  unfold sw0
  split
  · exact ⟨rfl, rfl⟩
  · exact ⟨rfl, rfl⟩
theorem w_swung : ∀ as S, (sp_swung as S).pre → wS T_swung s_swung (startE C_swung.N as) S (fin (sp_swung as S)) := by
  intro as S h
  unfold sp_swung at h ⊢
  split at h
  rotate_left
  · exact h.elim
  rename_i f s e
  change wS T_swung s_swung [some (.int f), some (.int s), some (.int e), none, none, none, none] S _
  unfold s_swung
  simp only [↓wE_lit, ↓wE_bin, ↓wE_neg, ↓wE_nott, ↓wE_cmp, ↓wE_chain, ↓wE_andd, ↓wE_orr, ↓wE_ife, ↓wE_nil, ↓wE_cons, ↓wE_tup, ↓wE_lst, ↓wE_idx, ↓wE_slc, ↓wE_fld, ↓wE_meth, ↓wE_new, ↓wE_sup, ↓wE_blt, ↓wE_isty, ↓wE_iscl, ↓wE_dnew, ↓wE_dget, ↓wE_din, ↓wE_dget2, ↓wE_sm, ↓wT_cmp, ↓wT_chain, ↓wT_nott, ↓wT_andd, ↓wT_orr, ↓wT_ife, ↓wT_lit, ↓wT_idx, ↓wT_bin, ↓wT_meth, ↓wT_blt, ↓wT_isty, ↓wT_iscl, ↓wT_fld, ↓wT_din, ↓wT_dget, ↓wT_sm, ↓wT_neg, ↓wT_nil, ↓wT_cons, ↓wT_tup, ↓wT_lst, ↓wT_slc, ↓wT_new, ↓wT_comp, ↓wT_sup, ↓wT_dnew, ↓wT_dget2, ↓wT_dpop, ↓wT_clo, ↓wT_ccall, ↓wA_nil, ↓wA_cons, ↓wO_nil, ↓wO_cons, ↓wE_compK, ↓wE_compF, ↓wE_call0, ↓wT_call0, ↓wE_v0, ↓wE_v1, ↓wE_v2, ↓wE_v3, ↓wE_v4, ↓wE_v5, ↓wE_v6, ↓wE_v7, ↓wE_v8, ↓wE_v9, ↓wE_v10, ↓wE_v11, ↓wE_v12, ↓wE_v13, ↓wE_v14, ↓wE_v15, ↓wE_v16, ↓wE_v17, ↓wE_v18, ↓wE_v19, ↓wE_v20, ↓wE_v21, ↓wE_v22, ↓wE_v23, ↓wE_v24, ↓wE_v25, ↓wE_v26, ↓wE_v27, ↓wE_v28, ↓wE_v29, ↓wT_v0, ↓wT_v1, ↓wT_v2, ↓wT_v3, ↓wT_v4, ↓wT_v5, ↓wT_v6, ↓wT_v7, ↓wT_v8, ↓wT_v9, ↓wT_v10, ↓wT_v11, ↓wT_v12, ↓wT_v13, ↓wT_v14, ↓wT_v15, ↓wT_v16, ↓wT_v17, ↓wT_v18, ↓wT_v19, ↓wT_v20, ↓wT_v21, ↓wT_v22, ↓wT_v23, ↓wT_v24, ↓wT_v25, ↓wT_v26, ↓wT_v27, ↓wT_v28, ↓wT_v29, ↓tgt_0, ↓tgt_1, ↓tgt_2, ↓tgt_3, ↓tgt_4, ↓tgt_5, ↓tgt_6, ↓tgt_7, ↓tgt_8, ↓tgt_9, ↓tgt_10, ↓tgt_11, ↓tgt_12, ↓tgt_13, ↓tgt_14, ↓tgt_15, ↓tgt_16, ↓tgt_17, ↓tgt_18, ↓tgt_19, ↓tgt_20, ↓tgt_21, ↓tgt_22, ↓tgt_23, ↓tgt_24, ↓tgt_25, ↓tgt_26, ↓tgt_27, ↓tgt_28, ↓tgt_29, ↓exI_0, ↓exI_1, ↓exI_2, ↓exI_3, ↓exI_4, ↓exI_5, ↓exI_6, ↓exI_7, ↓exI_8, ↓exI_9, ↓exI_10, ↓exI_11, ↓exI_12, ↓exI_13, ↓exI_14, ↓exI_15, ↓exI_16, ↓exI_17, ↓exI_18, ↓exI_19, ↓exI_20, ↓exI_21, ↓exI_22, ↓exI_23, ↓exI_24, ↓exI_25, ↓exI_26, ↓exI_27, ↓exI_28, ↓exI_29, ↓exT_0, ↓exT_1, ↓exT_2, ↓exT_3, ↓exT_4, ↓exT_5, ↓exT_6, ↓exT_7, ↓exT_8, ↓exT_9, ↓exT_10, ↓exT_11, ↓exT_12, ↓exT_13, ↓exT_14, ↓exT_15, ↓exT_16, ↓exT_17, ↓exT_18, ↓exT_19, ↓exT_20, ↓exT_21, ↓exT_22, ↓exT_23, ↓exT_24, ↓exT_25, ↓exT_26, ↓exT_27, ↓exT_28, ↓exT_29, ↓exF_0, ↓exF_1, ↓exF_2, ↓exF_3, ↓exF_4, ↓exF_5, ↓exF_6, ↓exF_7, ↓exF_8, ↓exF_9, ↓exF_10, ↓exF_11, ↓exF_12, ↓exF_13, ↓exF_14, ↓exF_15, ↓exF_16, ↓exF_17, ↓exF_18, ↓exF_19, ↓exF_20, ↓exF_21, ↓exF_22, ↓exF_23, ↓exF_24, ↓exF_25, ↓exF_26, ↓exF_27, ↓exF_28, ↓exF_29, ↓tgt_tn, ↓tgt_tc, ↓wS_skip, ↓wS_seqL, ↓later_at, ↓wS_asg_var, ↓wS_asg_lit, ↓wS_asg_bin, ↓wS_asg_neg, ↓wS_asg_nott, ↓wS_asg_cmp, ↓wS_asg_chain, ↓wS_asg_andd, ↓wS_asg_orr, ↓wS_asg_ife, ↓wS_asg_tup, ↓wS_asg_lst, ↓wS_asg_idx, ↓wS_asg_slc, ↓wS_asg_fld, ↓wS_asg_call, ↓wS_asg_meth, ↓wS_asg_new, ↓wS_asg_blt, ↓wS_asg_isty, ↓wS_asg_iscl, ↓wS_asg_exis, ↓wS_asg_exfl, ↓wS_asg_dnew, ↓wS_asg_dget, ↓wS_asg_din, ↓wS_asg_nil, ↓wS_asg_comp, ↓wS_asg_compF, ↓nxK_at, ↓wS_asgF, ↓wS_asgI, ↓wS_asgD, ↓wS_augN, ↓wS_augI, ↓wS_parL, ↓wS_expr, ↓wS_bm, ↓wS_ret, ↓wS_retN, ↓wS_ite, ↓wFor_cons, ↓wFor_nil, ↓wS_for, ↓wS_brk, ↓wS_cnt, ↓wS_raise, ↓wS_tri, ↓wH_nil, ↓wH_cons0, ↓wH_cons1, ↓tyIs_ref, ↓opBm_appendL, ↓setIL, ↓isL_ref, ↓ob_add, ↓ob_adds, ↓ob_addt, ↓ob_addl, ↓ob_addrl, ↓ob_addlr, ↓ob_addrr, ↓ob_addM, ↓ob_sub, ↓ob_mul, ↓ob_mull, ↓ob_mulM, ↓ob_fdiv, ↓ob_mod, ↓ob_pow, ↓oi_abs, ↓oi_lent, ↓oi_lens, ↓oi_lenr, ↓oi_sortedr, ↓oi_sortedMr, ↓oi_tupler, ↓oi_listr, ↓oi_listMr, ↓oi_sumr, ↓oi_anyr, ↓oi_allr, ↓oi_mxr, ↓oi_mnr, ↓oi_lenl, ↓oi_sortedl, ↓oi_sortedMl, ↓oi_tuplel, ↓oi_listl, ↓oi_listMl, ↓oi_suml, ↓oi_anyl, ↓oi_alll, ↓oi_mxl, ↓oi_mnl, ↓oi_mxt, ↓oi_mnt, ↓oi_max2, ↓oi_min2, ↓oi_int, ↓oi_intb, ↓oi_tuplet, ↓oi_listt, ↓oi_listMt, ↓oi_str, ↓oi_divmod, ↓tru_non, ↓tru_bl, ↓tru_int, ↓tru_str, ↓tru_tup, ↓tru_ref, ↓tru_sl, ↓tyIs_non, ↓tyIs_bl, ↓tyIs_int, ↓tyIs_str, ↓tyIs_tup, ↓tyIs_sl, ↓it_t, ↓it_sr, ↓it_er, ↓it_vr, ↓it_sl, ↓it_el, ↓it_vl, ↓it_z, ↓it_1, ↓it_2, ↓it_3, ↓ltI_i, ↓tl_i, ↓optI_i, ↓osl_t, ↓osl_s, ↓osl_l, ↓osl_r, ↓osl_lM, ↓osl_rM, ↓sq_t, ↓sq_l, ↓getI_i, ↓opIx_tup, ↓opIx_ref, ↓opIx_sl, ↓atQ_0, ↓atQ_1, ↓atQ_2, ↓atQ_3, ↓getL_put, ↓getL_put_ne, ↓getL_put_ne', ↓getL_sl, ↓opC_eq_int, ↓opC_ne_int, ↓opC_eq_bl, ↓opC_ne_bl, ↓opC_eq_t2, ↓opC_ne_t2, ↓opC_eq_t3, ↓opC_ne_t3, ↓opC_eq_t32, ↓opC_ne_t32, ↓opC_lt, ↓opC_le, ↓opC_gt, ↓opC_ge, ↓opC_ne_nil, ↓opC_eq_nil, ↓opC_is, ↓opC_isnot, ↓opC_isb, ↓opC_isnb, ↓opC_isi, ↓opC_isni, ↓opC_ist, ↓opC_isnt, ↓opC_iso, ↓opC_isno, ↓opC_in, ↓opC_notin, ↓finpu_rt, ↓finpu_nx, ↓finpu_ex, ↓finlaw_rt, ↓finlaw_nx, ↓finlaw_ex, ↓finV_rt, ↓finV_nx, ↓finV_ex, ↓finE_rt, ↓finO_rt, ↓finO_ex, ↓finE_ex, ↓finS_rt, ↓finS_ex, ↓finR_ex, ↓finX_rt, ↓finX_nx, ↓finX_ex, put_none, put_put, Val.isNon, intsOf, atI_0, atI_1, atI_2, atI_3, cutG_to, cutG_from, sub_refl_iff, pu_pre, puV_pre, puE_pre, puO_pre, puS_pre, puR_pre, Option.some.injEq, exists_eq_left', exists_eq_left, exists_eq, exists_eq', Val.int.injEq, Val.bl.injEq, Val.str.injEq, Val.tup.injEq, Val.ref.injEq, List.cons.injEq, List.map_cons, List.map_nil, List.length_cons, List.length_nil, List.cons_append, List.nil_append, List.append_nil, Bool.false_eq_true, if_true, if_false, ite_true, ite_false, true_and, and_true, false_and, and_false, Bool.not_true, Bool.not_false, decide_eq_true_eq, bne_iff_ne, ne_eq, beq_iff_eq, put_same, imp_false, false_implies, implies_true, reduceCtorEq, not_false_eq_true, and_self, Bool.or_false, Bool.or_true, Bool.false_or, Bool.true_or, Bool.not_eq_true, Bool.not_eq_eq_eq_not, Bool.decide_eq_false, decide_eq_false_iff_not, Bool.not_eq_true', beq_eq_false_iff_ne, bne_eq_false_iff_eq, List.isEmpty_cons, List.isEmpty_nil, Int.reduceEq, Int.reduceNe, Int.reduceLT, Int.reduceLE, Int.reduceNeg, Int.reduceAdd, Int.reduceSub, Int.reduceMul, Int.reduceToNat, Nat.reduceLT, Nat.reduceLeDiff, Nat.reducePow, Nat.reduceAdd, Nat.reduceSub, ty_bool_bool, ty_bool_int, ty_bool_tuple, ty_bool_list, ty_bool_str, ty_int_bool, ty_int_int, ty_int_tuple, ty_int_list, ty_int_str, ty_tuple_bool, ty_tuple_int, ty_tuple_tuple, ty_tuple_list, ty_tuple_str, ty_list_bool, ty_list_int, ty_list_tuple, ty_list_list, ty_list_str, ty_str_bool, ty_str_int, ty_str_tuple, ty_str_list, ty_str_str, List.set_cons_succ, List.set_cons_zero, wipeE, puX_pre, exn_inj, Nat.reduceEqDiff, List.zip_nil_left, Nat.le_refl, Nat.reduceLeDiff, ↓call_swung__0 (T0 := T_swung) rfl, ck_0_18, ck_1_18, is_0_18, is_1_18]
  obtain ⟨h2, h3⟩ := h
  split
  · rename_i hn
    unfold sw
    rw [if_pos hn]
    exact ⟨⟨by omega, h2, h3⟩, rfl, rfl⟩
  · rename_i hn
    refine ⟨⟨by omega, by omega⟩, ?_⟩
    unfold sw sw0
    rw [if_neg hn]
    split
    · exact ⟨rfl, rfl⟩
    · exact ⟨rfl, rfl⟩
theorem w_box_at : ∀ as S, (sp_box_at as S).pre → wS T_box_at s_box_at (startE C_box_at.N as) S (fin (sp_box_at as S)) := by
  intro as S h
  unfold sp_box_at at h ⊢
  split at h
  rotate_left
  · exact h.elim
  rename_i u v x y w a b t d
  change wS T_box_at s_box_at [some (.int u), some (.int v), some (.tup [.int x, .int y, .int w]), some (.tup [.int a, .int b]), some (.tup [.int t, .int d]), none, none, none, none, none, none, none, none, none, none] S _
  unfold s_box_at
  simp only [↓wE_lit, ↓wE_bin, ↓wE_neg, ↓wE_nott, ↓wE_cmp, ↓wE_chain, ↓wE_andd, ↓wE_orr, ↓wE_ife, ↓wE_nil, ↓wE_cons, ↓wE_tup, ↓wE_lst, ↓wE_idx, ↓wE_slc, ↓wE_fld, ↓wE_meth, ↓wE_new, ↓wE_sup, ↓wE_blt, ↓wE_isty, ↓wE_iscl, ↓wE_dnew, ↓wE_dget, ↓wE_din, ↓wE_dget2, ↓wE_sm, ↓wT_cmp, ↓wT_chain, ↓wT_nott, ↓wT_andd, ↓wT_orr, ↓wT_ife, ↓wT_lit, ↓wT_idx, ↓wT_bin, ↓wT_meth, ↓wT_blt, ↓wT_isty, ↓wT_iscl, ↓wT_fld, ↓wT_din, ↓wT_dget, ↓wT_sm, ↓wT_neg, ↓wT_nil, ↓wT_cons, ↓wT_tup, ↓wT_lst, ↓wT_slc, ↓wT_new, ↓wT_comp, ↓wT_sup, ↓wT_dnew, ↓wT_dget2, ↓wT_dpop, ↓wT_clo, ↓wT_ccall, ↓wA_nil, ↓wA_cons, ↓wO_nil, ↓wO_cons, ↓wE_compK, ↓wE_compF, ↓wE_call0, ↓wT_call0, ↓wE_v0, ↓wE_v1, ↓wE_v2, ↓wE_v3, ↓wE_v4, ↓wE_v5, ↓wE_v6, ↓wE_v7, ↓wE_v8, ↓wE_v9, ↓wE_v10, ↓wE_v11, ↓wE_v12, ↓wE_v13, ↓wE_v14, ↓wE_v15, ↓wE_v16, ↓wE_v17, ↓wE_v18, ↓wE_v19, ↓wE_v20, ↓wE_v21, ↓wE_v22, ↓wE_v23, ↓wE_v24, ↓wE_v25, ↓wE_v26, ↓wE_v27, ↓wE_v28, ↓wE_v29, ↓wT_v0, ↓wT_v1, ↓wT_v2, ↓wT_v3, ↓wT_v4, ↓wT_v5, ↓wT_v6, ↓wT_v7, ↓wT_v8, ↓wT_v9, ↓wT_v10, ↓wT_v11, ↓wT_v12, ↓wT_v13, ↓wT_v14, ↓wT_v15, ↓wT_v16, ↓wT_v17, ↓wT_v18, ↓wT_v19, ↓wT_v20, ↓wT_v21, ↓wT_v22, ↓wT_v23, ↓wT_v24, ↓wT_v25, ↓wT_v26, ↓wT_v27, ↓wT_v28, ↓wT_v29, ↓tgt_0, ↓tgt_1, ↓tgt_2, ↓tgt_3, ↓tgt_4, ↓tgt_5, ↓tgt_6, ↓tgt_7, ↓tgt_8, ↓tgt_9, ↓tgt_10, ↓tgt_11, ↓tgt_12, ↓tgt_13, ↓tgt_14, ↓tgt_15, ↓tgt_16, ↓tgt_17, ↓tgt_18, ↓tgt_19, ↓tgt_20, ↓tgt_21, ↓tgt_22, ↓tgt_23, ↓tgt_24, ↓tgt_25, ↓tgt_26, ↓tgt_27, ↓tgt_28, ↓tgt_29, ↓exI_0, ↓exI_1, ↓exI_2, ↓exI_3, ↓exI_4, ↓exI_5, ↓exI_6, ↓exI_7, ↓exI_8, ↓exI_9, ↓exI_10, ↓exI_11, ↓exI_12, ↓exI_13, ↓exI_14, ↓exI_15, ↓exI_16, ↓exI_17, ↓exI_18, ↓exI_19, ↓exI_20, ↓exI_21, ↓exI_22, ↓exI_23, ↓exI_24, ↓exI_25, ↓exI_26, ↓exI_27, ↓exI_28, ↓exI_29, ↓exT_0, ↓exT_1, ↓exT_2, ↓exT_3, ↓exT_4, ↓exT_5, ↓exT_6, ↓exT_7, ↓exT_8, ↓exT_9, ↓exT_10, ↓exT_11, ↓exT_12, ↓exT_13, ↓exT_14, ↓exT_15, ↓exT_16, ↓exT_17, ↓exT_18, ↓exT_19, ↓exT_20, ↓exT_21, ↓exT_22, ↓exT_23, ↓exT_24, ↓exT_25, ↓exT_26, ↓exT_27, ↓exT_28, ↓exT_29, ↓exF_0, ↓exF_1, ↓exF_2, ↓exF_3, ↓exF_4, ↓exF_5, ↓exF_6, ↓exF_7, ↓exF_8, ↓exF_9, ↓exF_10, ↓exF_11, ↓exF_12, ↓exF_13, ↓exF_14, ↓exF_15, ↓exF_16, ↓exF_17, ↓exF_18, ↓exF_19, ↓exF_20, ↓exF_21, ↓exF_22, ↓exF_23, ↓exF_24, ↓exF_25, ↓exF_26, ↓exF_27, ↓exF_28, ↓exF_29, ↓tgt_tn, ↓tgt_tc, ↓wS_skip, ↓wS_seqL, ↓later_at, ↓wS_asg_var, ↓wS_asg_lit, ↓wS_asg_bin, ↓wS_asg_neg, ↓wS_asg_nott, ↓wS_asg_cmp, ↓wS_asg_chain, ↓wS_asg_andd, ↓wS_asg_orr, ↓wS_asg_ife, ↓wS_asg_tup, ↓wS_asg_lst, ↓wS_asg_idx, ↓wS_asg_slc, ↓wS_asg_fld, ↓wS_asg_call, ↓wS_asg_meth, ↓wS_asg_new, ↓wS_asg_blt, ↓wS_asg_isty, ↓wS_asg_iscl, ↓wS_asg_exis, ↓wS_asg_exfl, ↓wS_asg_dnew, ↓wS_asg_dget, ↓wS_asg_din, ↓wS_asg_nil, ↓wS_asg_comp, ↓wS_asg_compF, ↓nxK_at, ↓wS_asgF, ↓wS_asgI, ↓wS_asgD, ↓wS_augN, ↓wS_augI, ↓wS_parL, ↓wS_expr, ↓wS_bm, ↓wS_ret, ↓wS_retN, ↓wS_ite, ↓wFor_cons, ↓wFor_nil, ↓wS_for, ↓wS_brk, ↓wS_cnt, ↓wS_raise, ↓wS_tri, ↓wH_nil, ↓wH_cons0, ↓wH_cons1, ↓tyIs_ref, ↓opBm_appendL, ↓setIL, ↓isL_ref, ↓ob_add, ↓ob_adds, ↓ob_addt, ↓ob_addl, ↓ob_addrl, ↓ob_addlr, ↓ob_addrr, ↓ob_addM, ↓ob_sub, ↓ob_mul, ↓ob_mull, ↓ob_mulM, ↓ob_fdiv, ↓ob_mod, ↓ob_pow, ↓oi_abs, ↓oi_lent, ↓oi_lens, ↓oi_lenr, ↓oi_sortedr, ↓oi_sortedMr, ↓oi_tupler, ↓oi_listr, ↓oi_listMr, ↓oi_sumr, ↓oi_anyr, ↓oi_allr, ↓oi_mxr, ↓oi_mnr, ↓oi_lenl, ↓oi_sortedl, ↓oi_sortedMl, ↓oi_tuplel, ↓oi_listl, ↓oi_listMl, ↓oi_suml, ↓oi_anyl, ↓oi_alll, ↓oi_mxl, ↓oi_mnl, ↓oi_mxt, ↓oi_mnt, ↓oi_max2, ↓oi_min2, ↓oi_int, ↓oi_intb, ↓oi_tuplet, ↓oi_listt, ↓oi_listMt, ↓oi_str, ↓oi_divmod, ↓tru_non, ↓tru_bl, ↓tru_int, ↓tru_str, ↓tru_tup, ↓tru_ref, ↓tru_sl, ↓tyIs_non, ↓tyIs_bl, ↓tyIs_int, ↓tyIs_str, ↓tyIs_tup, ↓tyIs_sl, ↓it_t, ↓it_sr, ↓it_er, ↓it_vr, ↓it_sl, ↓it_el, ↓it_vl, ↓it_z, ↓it_1, ↓it_2, ↓it_3, ↓ltI_i, ↓tl_i, ↓optI_i, ↓osl_t, ↓osl_s, ↓osl_l, ↓osl_r, ↓osl_lM, ↓osl_rM, ↓sq_t, ↓sq_l, ↓getI_i, ↓opIx_tup, ↓opIx_ref, ↓opIx_sl, ↓atQ_0, ↓atQ_1, ↓atQ_2, ↓atQ_3, ↓getL_put, ↓getL_put_ne, ↓getL_put_ne', ↓getL_sl, ↓opC_eq_int, ↓opC_ne_int, ↓opC_eq_bl, ↓opC_ne_bl, ↓opC_eq_t2, ↓opC_ne_t2, ↓opC_eq_t3, ↓opC_ne_t3, ↓opC_eq_t32, ↓opC_ne_t32, ↓opC_lt, ↓opC_le, ↓opC_gt, ↓opC_ge, ↓opC_ne_nil, ↓opC_eq_nil, ↓opC_is, ↓opC_isnot, ↓opC_isb, ↓opC_isnb, ↓opC_isi, ↓opC_isni, ↓opC_ist, ↓opC_isnt, ↓opC_iso, ↓opC_isno, ↓opC_in, ↓opC_notin, ↓finpu_rt, ↓finpu_nx, ↓finpu_ex, ↓finlaw_rt, ↓finlaw_nx, ↓finlaw_ex, ↓finV_rt, ↓finV_nx, ↓finV_ex, ↓finE_rt, ↓finO_rt, ↓finO_ex, ↓finE_ex, ↓finS_rt, ↓finS_ex, ↓finR_ex, ↓finX_rt, ↓finX_nx, ↓finX_ex, put_none, put_put, Val.isNon, intsOf, atI_0, atI_1, atI_2, atI_3, cutG_to, cutG_from, sub_refl_iff, pu_pre, puV_pre, puE_pre, puO_pre, puS_pre, puR_pre, Option.some.injEq, exists_eq_left', exists_eq_left, exists_eq, exists_eq', Val.int.injEq, Val.bl.injEq, Val.str.injEq, Val.tup.injEq, Val.ref.injEq, List.cons.injEq, List.map_cons, List.map_nil, List.length_cons, List.length_nil, List.cons_append, List.nil_append, List.append_nil, Bool.false_eq_true, if_true, if_false, ite_true, ite_false, true_and, and_true, false_and, and_false, Bool.not_true, Bool.not_false, decide_eq_true_eq, bne_iff_ne, ne_eq, beq_iff_eq, put_same, imp_false, false_implies, implies_true, reduceCtorEq, not_false_eq_true, and_self, Bool.or_false, Bool.or_true, Bool.false_or, Bool.true_or, Bool.not_eq_true, Bool.not_eq_eq_eq_not, Bool.decide_eq_false, decide_eq_false_iff_not, Bool.not_eq_true', beq_eq_false_iff_ne, bne_eq_false_iff_eq, List.isEmpty_cons, List.isEmpty_nil, Int.reduceEq, Int.reduceNe, Int.reduceLT, Int.reduceLE, Int.reduceNeg, Int.reduceAdd, Int.reduceSub, Int.reduceMul, Int.reduceToNat, Nat.reduceLT, Nat.reduceLeDiff, Nat.reducePow, Nat.reduceAdd, Nat.reduceSub, ty_bool_bool, ty_bool_int, ty_bool_tuple, ty_bool_list, ty_bool_str, ty_int_bool, ty_int_int, ty_int_tuple, ty_int_list, ty_int_str, ty_tuple_bool, ty_tuple_int, ty_tuple_tuple, ty_tuple_list, ty_tuple_str, ty_list_bool, ty_list_int, ty_list_tuple, ty_list_list, ty_list_str, ty_str_bool, ty_str_int, ty_str_tuple, ty_str_list, ty_str_str, List.set_cons_succ, List.set_cons_zero, wipeE, puX_pre, exn_inj, Nat.reduceEqDiff, List.zip_nil_left, Nat.le_refl, Nat.reduceLeDiff, ↓call_look_inside (T0 := T_box_at) rfl, ↓call_swung (T0 := T_box_at) rfl, ↓call_point_of (T0 := T_box_at) rfl, ck_0_18, ck_1_18, is_0_18, is_1_18]
  obtain ⟨hw, hd, su, sv, sx, sy, sw', sa, sb, st, sd⟩ := h
  have hwd := Int.mul_pos hw hd
  have l1 := log2_mul sw' sd
  have l2 := log2_mul su l1
  have l3 := log2_mul sv l1
  have l4 := log2_mul sa st
  have l5 := log2_mul sb st
  refine ⟨⟨su, sv, sw'⟩, fun ho _ _ => ?_, fun h => h⟩
  have hu : 0 < u ∧ 0 < v := by unfold Out at ho; omega
  exact ⟨mulOk_of (by omega) (by omega), mulOk_of (by omega) (by omega), mulOk_of (by omega) (by omega), mulOk_of (by omega) (by omega), mulOk_of (by omega) (by omega), ⟨Int.mul_pos hu.1 hwd, by omega⟩,
    mulOk_of (by omega) (by omega), mulOk_of (by omega) (by omega), mulOk_of (by omega) (by omega), mulOk_of (by omega) (by omega), ⟨Int.mul_pos hu.2 hwd, by omega⟩, by omega, fun _ p hp => ⟨ho, (p, (_, _)), ⟨⟨rfl, rfl, rfl⟩, rfl, rfl⟩, hp, rfl⟩, by omega⟩
theorem w_box_corner : ∀ as S, (sp_box_corner as S).pre → wS T_box_corner s_box_corner (startE C_box_corner.N as) S (fin (sp_box_corner as S)) := by
  intro as S h
  unfold sp_box_corner at h ⊢
  split at h
  rotate_left
  · exact h.elim
  rename_i u v x y w a b
  change wS T_box_corner s_box_corner [some (.int u), some (.int v), some (.tup [.int x, .int y, .int w]), some (.tup [.int a, .int b]), none, none, none, none, none, none, none, none, none, none] S _
  unfold s_box_corner
  simp only [↓wE_lit, ↓wE_bin, ↓wE_neg, ↓wE_nott, ↓wE_cmp, ↓wE_chain, ↓wE_andd, ↓wE_orr, ↓wE_ife, ↓wE_nil, ↓wE_cons, ↓wE_tup, ↓wE_lst, ↓wE_idx, ↓wE_slc, ↓wE_fld, ↓wE_meth, ↓wE_new, ↓wE_sup, ↓wE_blt, ↓wE_isty, ↓wE_iscl, ↓wE_dnew, ↓wE_dget, ↓wE_din, ↓wE_dget2, ↓wE_sm, ↓wT_cmp, ↓wT_chain, ↓wT_nott, ↓wT_andd, ↓wT_orr, ↓wT_ife, ↓wT_lit, ↓wT_idx, ↓wT_bin, ↓wT_meth, ↓wT_blt, ↓wT_isty, ↓wT_iscl, ↓wT_fld, ↓wT_din, ↓wT_dget, ↓wT_sm, ↓wT_neg, ↓wT_nil, ↓wT_cons, ↓wT_tup, ↓wT_lst, ↓wT_slc, ↓wT_new, ↓wT_comp, ↓wT_sup, ↓wT_dnew, ↓wT_dget2, ↓wT_dpop, ↓wT_clo, ↓wT_ccall, ↓wA_nil, ↓wA_cons, ↓wO_nil, ↓wO_cons, ↓wE_compK, ↓wE_compF, ↓wE_call0, ↓wT_call0, ↓wE_v0, ↓wE_v1, ↓wE_v2, ↓wE_v3, ↓wE_v4, ↓wE_v5, ↓wE_v6, ↓wE_v7, ↓wE_v8, ↓wE_v9, ↓wE_v10, ↓wE_v11, ↓wE_v12, ↓wE_v13, ↓wE_v14, ↓wE_v15, ↓wE_v16, ↓wE_v17, ↓wE_v18, ↓wE_v19, ↓wE_v20, ↓wE_v21, ↓wE_v22, ↓wE_v23, ↓wE_v24, ↓wE_v25, ↓wE_v26, ↓wE_v27, ↓wE_v28, ↓wE_v29, ↓wT_v0, ↓wT_v1, ↓wT_v2, ↓wT_v3, ↓wT_v4, ↓wT_v5, ↓wT_v6, ↓wT_v7, ↓wT_v8, ↓wT_v9, ↓wT_v10, ↓wT_v11, ↓wT_v12, ↓wT_v13, ↓wT_v14, ↓wT_v15, ↓wT_v16, ↓wT_v17, ↓wT_v18, ↓wT_v19, ↓wT_v20, ↓wT_v21, ↓wT_v22, ↓wT_v23, ↓wT_v24, ↓wT_v25, ↓wT_v26, ↓wT_v27, ↓wT_v28, ↓wT_v29, ↓tgt_0, ↓tgt_1, ↓tgt_2, ↓tgt_3, ↓tgt_4, ↓tgt_5, ↓tgt_6, ↓tgt_7, ↓tgt_8, ↓tgt_9, ↓tgt_10, ↓tgt_11, ↓tgt_12, ↓tgt_13, ↓tgt_14, ↓tgt_15, ↓tgt_16, ↓tgt_17, ↓tgt_18, ↓tgt_19, ↓tgt_20, ↓tgt_21, ↓tgt_22, ↓tgt_23, ↓tgt_24, ↓tgt_25, ↓tgt_26, ↓tgt_27, ↓tgt_28, ↓tgt_29, ↓exI_0, ↓exI_1, ↓exI_2, ↓exI_3, ↓exI_4, ↓exI_5, ↓exI_6, ↓exI_7, ↓exI_8, ↓exI_9, ↓exI_10, ↓exI_11, ↓exI_12, ↓exI_13, ↓exI_14, ↓exI_15, ↓exI_16, ↓exI_17, ↓exI_18, ↓exI_19, ↓exI_20, ↓exI_21, ↓exI_22, ↓exI_23, ↓exI_24, ↓exI_25, ↓exI_26, ↓exI_27, ↓exI_28, ↓exI_29, ↓exT_0, ↓exT_1, ↓exT_2, ↓exT_3, ↓exT_4, ↓exT_5, ↓exT_6, ↓exT_7, ↓exT_8, ↓exT_9, ↓exT_10, ↓exT_11, ↓exT_12, ↓exT_13, ↓exT_14, ↓exT_15, ↓exT_16, ↓exT_17, ↓exT_18, ↓exT_19, ↓exT_20, ↓exT_21, ↓exT_22, ↓exT_23, ↓exT_24, ↓exT_25, ↓exT_26, ↓exT_27, ↓exT_28, ↓exT_29, ↓exF_0, ↓exF_1, ↓exF_2, ↓exF_3, ↓exF_4, ↓exF_5, ↓exF_6, ↓exF_7, ↓exF_8, ↓exF_9, ↓exF_10, ↓exF_11, ↓exF_12, ↓exF_13, ↓exF_14, ↓exF_15, ↓exF_16, ↓exF_17, ↓exF_18, ↓exF_19, ↓exF_20, ↓exF_21, ↓exF_22, ↓exF_23, ↓exF_24, ↓exF_25, ↓exF_26, ↓exF_27, ↓exF_28, ↓exF_29, ↓tgt_tn, ↓tgt_tc, ↓wS_skip, ↓wS_seqL, ↓later_at, ↓wS_asg_var, ↓wS_asg_lit, ↓wS_asg_bin, ↓wS_asg_neg, ↓wS_asg_nott, ↓wS_asg_cmp, ↓wS_asg_chain, ↓wS_asg_andd, ↓wS_asg_orr, ↓wS_asg_ife, ↓wS_asg_tup, ↓wS_asg_lst, ↓wS_asg_idx, ↓wS_asg_slc, ↓wS_asg_fld, ↓wS_asg_call, ↓wS_asg_meth, ↓wS_asg_new, ↓wS_asg_blt, ↓wS_asg_isty, ↓wS_asg_iscl, ↓wS_asg_exis, ↓wS_asg_exfl, ↓wS_asg_dnew, ↓wS_asg_dget, ↓wS_asg_din, ↓wS_asg_nil, ↓wS_asg_comp, ↓wS_asg_compF, ↓nxK_at, ↓wS_asgF, ↓wS_asgI, ↓wS_asgD, ↓wS_augN, ↓wS_augI, ↓wS_parL, ↓wS_expr, ↓wS_bm, ↓wS_ret, ↓wS_retN, ↓wS_ite, ↓wFor_cons, ↓wFor_nil, ↓wS_for, ↓wS_brk, ↓wS_cnt, ↓wS_raise, ↓wS_tri, ↓wH_nil, ↓wH_cons0, ↓wH_cons1, ↓tyIs_ref, ↓opBm_appendL, ↓setIL, ↓isL_ref, ↓ob_add, ↓ob_adds, ↓ob_addt, ↓ob_addl, ↓ob_addrl, ↓ob_addlr, ↓ob_addrr, ↓ob_addM, ↓ob_sub, ↓ob_mul, ↓ob_mull, ↓ob_mulM, ↓ob_fdiv, ↓ob_mod, ↓ob_pow, ↓oi_abs, ↓oi_lent, ↓oi_lens, ↓oi_lenr, ↓oi_sortedr, ↓oi_sortedMr, ↓oi_tupler, ↓oi_listr, ↓oi_listMr, ↓oi_sumr, ↓oi_anyr, ↓oi_allr, ↓oi_mxr, ↓oi_mnr, ↓oi_lenl, ↓oi_sortedl, ↓oi_sortedMl, ↓oi_tuplel, ↓oi_listl, ↓oi_listMl, ↓oi_suml, ↓oi_anyl, ↓oi_alll, ↓oi_mxl, ↓oi_mnl, ↓oi_mxt, ↓oi_mnt, ↓oi_max2, ↓oi_min2, ↓oi_int, ↓oi_intb, ↓oi_tuplet, ↓oi_listt, ↓oi_listMt, ↓oi_str, ↓oi_divmod, ↓tru_non, ↓tru_bl, ↓tru_int, ↓tru_str, ↓tru_tup, ↓tru_ref, ↓tru_sl, ↓tyIs_non, ↓tyIs_bl, ↓tyIs_int, ↓tyIs_str, ↓tyIs_tup, ↓tyIs_sl, ↓it_t, ↓it_sr, ↓it_er, ↓it_vr, ↓it_sl, ↓it_el, ↓it_vl, ↓it_z, ↓it_1, ↓it_2, ↓it_3, ↓ltI_i, ↓tl_i, ↓optI_i, ↓osl_t, ↓osl_s, ↓osl_l, ↓osl_r, ↓osl_lM, ↓osl_rM, ↓sq_t, ↓sq_l, ↓getI_i, ↓opIx_tup, ↓opIx_ref, ↓opIx_sl, ↓atQ_0, ↓atQ_1, ↓atQ_2, ↓atQ_3, ↓getL_put, ↓getL_put_ne, ↓getL_put_ne', ↓getL_sl, ↓opC_eq_int, ↓opC_ne_int, ↓opC_eq_bl, ↓opC_ne_bl, ↓opC_eq_t2, ↓opC_ne_t2, ↓opC_eq_t3, ↓opC_ne_t3, ↓opC_eq_t32, ↓opC_ne_t32, ↓opC_lt, ↓opC_le, ↓opC_gt, ↓opC_ge, ↓opC_ne_nil, ↓opC_eq_nil, ↓opC_is, ↓opC_isnot, ↓opC_isb, ↓opC_isnb, ↓opC_isi, ↓opC_isni, ↓opC_ist, ↓opC_isnt, ↓opC_iso, ↓opC_isno, ↓opC_in, ↓opC_notin, ↓finpu_rt, ↓finpu_nx, ↓finpu_ex, ↓finlaw_rt, ↓finlaw_nx, ↓finlaw_ex, ↓finV_rt, ↓finV_nx, ↓finV_ex, ↓finE_rt, ↓finO_rt, ↓finO_ex, ↓finE_ex, ↓finS_rt, ↓finS_ex, ↓finR_ex, ↓finX_rt, ↓finX_nx, ↓finX_ex, put_none, put_put, Val.isNon, intsOf, atI_0, atI_1, atI_2, atI_3, cutG_to, cutG_from, sub_refl_iff, pu_pre, puV_pre, puE_pre, puO_pre, puS_pre, puR_pre, Option.some.injEq, exists_eq_left', exists_eq_left, exists_eq, exists_eq', Val.int.injEq, Val.bl.injEq, Val.str.injEq, Val.tup.injEq, Val.ref.injEq, List.cons.injEq, List.map_cons, List.map_nil, List.length_cons, List.length_nil, List.cons_append, List.nil_append, List.append_nil, Bool.false_eq_true, if_true, if_false, ite_true, ite_false, true_and, and_true, false_and, and_false, Bool.not_true, Bool.not_false, decide_eq_true_eq, bne_iff_ne, ne_eq, beq_iff_eq, put_same, imp_false, false_implies, implies_true, reduceCtorEq, not_false_eq_true, and_self, Bool.or_false, Bool.or_true, Bool.false_or, Bool.true_or, Bool.not_eq_true, Bool.not_eq_eq_eq_not, Bool.decide_eq_false, decide_eq_false_iff_not, Bool.not_eq_true', beq_eq_false_iff_ne, bne_eq_false_iff_eq, List.isEmpty_cons, List.isEmpty_nil, Int.reduceEq, Int.reduceNe, Int.reduceLT, Int.reduceLE, Int.reduceNeg, Int.reduceAdd, Int.reduceSub, Int.reduceMul, Int.reduceToNat, Nat.reduceLT, Nat.reduceLeDiff, Nat.reducePow, Nat.reduceAdd, Nat.reduceSub, ty_bool_bool, ty_bool_int, ty_bool_tuple, ty_bool_list, ty_bool_str, ty_int_bool, ty_int_int, ty_int_tuple, ty_int_list, ty_int_str, ty_tuple_bool, ty_tuple_int, ty_tuple_tuple, ty_tuple_list, ty_tuple_str, ty_list_bool, ty_list_int, ty_list_tuple, ty_list_list, ty_list_str, ty_str_bool, ty_str_int, ty_str_tuple, ty_str_list, ty_str_str, List.set_cons_succ, List.set_cons_zero, wipeE, puX_pre, exn_inj, Nat.reduceEqDiff, List.zip_nil_left, Nat.le_refl, Nat.reduceLeDiff, ↓call_look_inside (T0 := T_box_corner) rfl, ↓call_divisor (T0 := T_box_corner) rfl, ck_0_18, ck_1_18, is_0_18, is_1_18]
  obtain ⟨h1, h2, h3, h4⟩ := h
  exact ⟨⟨h1, h2, h3⟩, fun h => (h h4).elim⟩
theorem w_box_round : ∀ as S, (sp_box_round as S).pre → wS T_box_round s_box_round (startE C_box_round.N as) S (fin (sp_box_round as S)) := by
  intro as S h
  unfold sp_box_round at h ⊢
  split at h
  rotate_left
  · exact h.elim
  rename_i u v x y w a b
  change wS T_box_round s_box_round [some (.int u), some (.int v), some (.tup [.int x, .int y, .int w]), some (.tup [.int a, .int b]), none, none, none] S _
  unfold s_box_round
  simp only [↓wE_lit, ↓wE_bin, ↓wE_neg, ↓wE_nott, ↓wE_cmp, ↓wE_chain, ↓wE_andd, ↓wE_orr, ↓wE_ife, ↓wE_nil, ↓wE_cons, ↓wE_tup, ↓wE_lst, ↓wE_idx, ↓wE_slc, ↓wE_fld, ↓wE_meth, ↓wE_new, ↓wE_sup, ↓wE_blt, ↓wE_isty, ↓wE_iscl, ↓wE_dnew, ↓wE_dget, ↓wE_din, ↓wE_dget2, ↓wE_sm, ↓wT_cmp, ↓wT_chain, ↓wT_nott, ↓wT_andd, ↓wT_orr, ↓wT_ife, ↓wT_lit, ↓wT_idx, ↓wT_bin, ↓wT_meth, ↓wT_blt, ↓wT_isty, ↓wT_iscl, ↓wT_fld, ↓wT_din, ↓wT_dget, ↓wT_sm, ↓wT_neg, ↓wT_nil, ↓wT_cons, ↓wT_tup, ↓wT_lst, ↓wT_slc, ↓wT_new, ↓wT_comp, ↓wT_sup, ↓wT_dnew, ↓wT_dget2, ↓wT_dpop, ↓wT_clo, ↓wT_ccall, ↓wA_nil, ↓wA_cons, ↓wO_nil, ↓wO_cons, ↓wE_compK, ↓wE_compF, ↓wE_call0, ↓wT_call0, ↓wE_v0, ↓wE_v1, ↓wE_v2, ↓wE_v3, ↓wE_v4, ↓wE_v5, ↓wE_v6, ↓wE_v7, ↓wE_v8, ↓wE_v9, ↓wE_v10, ↓wE_v11, ↓wE_v12, ↓wE_v13, ↓wE_v14, ↓wE_v15, ↓wE_v16, ↓wE_v17, ↓wE_v18, ↓wE_v19, ↓wE_v20, ↓wE_v21, ↓wE_v22, ↓wE_v23, ↓wE_v24, ↓wE_v25, ↓wE_v26, ↓wE_v27, ↓wE_v28, ↓wE_v29, ↓wT_v0, ↓wT_v1, ↓wT_v2, ↓wT_v3, ↓wT_v4, ↓wT_v5, ↓wT_v6, ↓wT_v7, ↓wT_v8, ↓wT_v9, ↓wT_v10, ↓wT_v11, ↓wT_v12, ↓wT_v13, ↓wT_v14, ↓wT_v15, ↓wT_v16, ↓wT_v17, ↓wT_v18, ↓wT_v19, ↓wT_v20, ↓wT_v21, ↓wT_v22, ↓wT_v23, ↓wT_v24, ↓wT_v25, ↓wT_v26, ↓wT_v27, ↓wT_v28, ↓wT_v29, ↓tgt_0, ↓tgt_1, ↓tgt_2, ↓tgt_3, ↓tgt_4, ↓tgt_5, ↓tgt_6, ↓tgt_7, ↓tgt_8, ↓tgt_9, ↓tgt_10, ↓tgt_11, ↓tgt_12, ↓tgt_13, ↓tgt_14, ↓tgt_15, ↓tgt_16, ↓tgt_17, ↓tgt_18, ↓tgt_19, ↓tgt_20, ↓tgt_21, ↓tgt_22, ↓tgt_23, ↓tgt_24, ↓tgt_25, ↓tgt_26, ↓tgt_27, ↓tgt_28, ↓tgt_29, ↓exI_0, ↓exI_1, ↓exI_2, ↓exI_3, ↓exI_4, ↓exI_5, ↓exI_6, ↓exI_7, ↓exI_8, ↓exI_9, ↓exI_10, ↓exI_11, ↓exI_12, ↓exI_13, ↓exI_14, ↓exI_15, ↓exI_16, ↓exI_17, ↓exI_18, ↓exI_19, ↓exI_20, ↓exI_21, ↓exI_22, ↓exI_23, ↓exI_24, ↓exI_25, ↓exI_26, ↓exI_27, ↓exI_28, ↓exI_29, ↓exT_0, ↓exT_1, ↓exT_2, ↓exT_3, ↓exT_4, ↓exT_5, ↓exT_6, ↓exT_7, ↓exT_8, ↓exT_9, ↓exT_10, ↓exT_11, ↓exT_12, ↓exT_13, ↓exT_14, ↓exT_15, ↓exT_16, ↓exT_17, ↓exT_18, ↓exT_19, ↓exT_20, ↓exT_21, ↓exT_22, ↓exT_23, ↓exT_24, ↓exT_25, ↓exT_26, ↓exT_27, ↓exT_28, ↓exT_29, ↓exF_0, ↓exF_1, ↓exF_2, ↓exF_3, ↓exF_4, ↓exF_5, ↓exF_6, ↓exF_7, ↓exF_8, ↓exF_9, ↓exF_10, ↓exF_11, ↓exF_12, ↓exF_13, ↓exF_14, ↓exF_15, ↓exF_16, ↓exF_17, ↓exF_18, ↓exF_19, ↓exF_20, ↓exF_21, ↓exF_22, ↓exF_23, ↓exF_24, ↓exF_25, ↓exF_26, ↓exF_27, ↓exF_28, ↓exF_29, ↓tgt_tn, ↓tgt_tc, ↓wS_skip, ↓wS_seqL, ↓later_at, ↓wS_asg_var, ↓wS_asg_lit, ↓wS_asg_bin, ↓wS_asg_neg, ↓wS_asg_nott, ↓wS_asg_cmp, ↓wS_asg_chain, ↓wS_asg_andd, ↓wS_asg_orr, ↓wS_asg_ife, ↓wS_asg_tup, ↓wS_asg_lst, ↓wS_asg_idx, ↓wS_asg_slc, ↓wS_asg_fld, ↓wS_asg_call, ↓wS_asg_meth, ↓wS_asg_new, ↓wS_asg_blt, ↓wS_asg_isty, ↓wS_asg_iscl, ↓wS_asg_exis, ↓wS_asg_exfl, ↓wS_asg_dnew, ↓wS_asg_dget, ↓wS_asg_din, ↓wS_asg_nil, ↓wS_asg_comp, ↓wS_asg_compF, ↓nxK_at, ↓wS_asgF, ↓wS_asgI, ↓wS_asgD, ↓wS_augN, ↓wS_augI, ↓wS_parL, ↓wS_expr, ↓wS_bm, ↓wS_ret, ↓wS_retN, ↓wS_ite, ↓wFor_cons, ↓wFor_nil, ↓wS_for, ↓wS_brk, ↓wS_cnt, ↓wS_raise, ↓wS_tri, ↓wH_nil, ↓wH_cons0, ↓wH_cons1, ↓tyIs_ref, ↓opBm_appendL, ↓setIL, ↓isL_ref, ↓ob_add, ↓ob_adds, ↓ob_addt, ↓ob_addl, ↓ob_addrl, ↓ob_addlr, ↓ob_addrr, ↓ob_addM, ↓ob_sub, ↓ob_mul, ↓ob_mull, ↓ob_mulM, ↓ob_fdiv, ↓ob_mod, ↓ob_pow, ↓oi_abs, ↓oi_lent, ↓oi_lens, ↓oi_lenr, ↓oi_sortedr, ↓oi_sortedMr, ↓oi_tupler, ↓oi_listr, ↓oi_listMr, ↓oi_sumr, ↓oi_anyr, ↓oi_allr, ↓oi_mxr, ↓oi_mnr, ↓oi_lenl, ↓oi_sortedl, ↓oi_sortedMl, ↓oi_tuplel, ↓oi_listl, ↓oi_listMl, ↓oi_suml, ↓oi_anyl, ↓oi_alll, ↓oi_mxl, ↓oi_mnl, ↓oi_mxt, ↓oi_mnt, ↓oi_max2, ↓oi_min2, ↓oi_int, ↓oi_intb, ↓oi_tuplet, ↓oi_listt, ↓oi_listMt, ↓oi_str, ↓oi_divmod, ↓tru_non, ↓tru_bl, ↓tru_int, ↓tru_str, ↓tru_tup, ↓tru_ref, ↓tru_sl, ↓tyIs_non, ↓tyIs_bl, ↓tyIs_int, ↓tyIs_str, ↓tyIs_tup, ↓tyIs_sl, ↓it_t, ↓it_sr, ↓it_er, ↓it_vr, ↓it_sl, ↓it_el, ↓it_vl, ↓it_z, ↓it_1, ↓it_2, ↓it_3, ↓ltI_i, ↓tl_i, ↓optI_i, ↓osl_t, ↓osl_s, ↓osl_l, ↓osl_r, ↓osl_lM, ↓osl_rM, ↓sq_t, ↓sq_l, ↓getI_i, ↓opIx_tup, ↓opIx_ref, ↓opIx_sl, ↓atQ_0, ↓atQ_1, ↓atQ_2, ↓atQ_3, ↓getL_put, ↓getL_put_ne, ↓getL_put_ne', ↓getL_sl, ↓opC_eq_int, ↓opC_ne_int, ↓opC_eq_bl, ↓opC_ne_bl, ↓opC_eq_t2, ↓opC_ne_t2, ↓opC_eq_t3, ↓opC_ne_t3, ↓opC_eq_t32, ↓opC_ne_t32, ↓opC_lt, ↓opC_le, ↓opC_gt, ↓opC_ge, ↓opC_ne_nil, ↓opC_eq_nil, ↓opC_is, ↓opC_isnot, ↓opC_isb, ↓opC_isnb, ↓opC_isi, ↓opC_isni, ↓opC_ist, ↓opC_isnt, ↓opC_iso, ↓opC_isno, ↓opC_in, ↓opC_notin, ↓finpu_rt, ↓finpu_nx, ↓finpu_ex, ↓finlaw_rt, ↓finlaw_nx, ↓finlaw_ex, ↓finV_rt, ↓finV_nx, ↓finV_ex, ↓finE_rt, ↓finO_rt, ↓finO_ex, ↓finE_ex, ↓finS_rt, ↓finS_ex, ↓finR_ex, ↓finX_rt, ↓finX_nx, ↓finX_ex, put_none, put_put, Val.isNon, intsOf, atI_0, atI_1, atI_2, atI_3, cutG_to, cutG_from, sub_refl_iff, pu_pre, puV_pre, puE_pre, puO_pre, puS_pre, puR_pre, Option.some.injEq, exists_eq_left', exists_eq_left, exists_eq, exists_eq', Val.int.injEq, Val.bl.injEq, Val.str.injEq, Val.tup.injEq, Val.ref.injEq, List.cons.injEq, List.map_cons, List.map_nil, List.length_cons, List.length_nil, List.cons_append, List.nil_append, List.append_nil, Bool.false_eq_true, if_true, if_false, ite_true, ite_false, true_and, and_true, false_and, and_false, Bool.not_true, Bool.not_false, decide_eq_true_eq, bne_iff_ne, ne_eq, beq_iff_eq, put_same, imp_false, false_implies, implies_true, reduceCtorEq, not_false_eq_true, and_self, Bool.or_false, Bool.or_true, Bool.false_or, Bool.true_or, Bool.not_eq_true, Bool.not_eq_eq_eq_not, Bool.decide_eq_false, decide_eq_false_iff_not, Bool.not_eq_true', beq_eq_false_iff_ne, bne_eq_false_iff_eq, List.isEmpty_cons, List.isEmpty_nil, Int.reduceEq, Int.reduceNe, Int.reduceLT, Int.reduceLE, Int.reduceNeg, Int.reduceAdd, Int.reduceSub, Int.reduceMul, Int.reduceToNat, Nat.reduceLT, Nat.reduceLeDiff, Nat.reducePow, Nat.reduceAdd, Nat.reduceSub, ty_bool_bool, ty_bool_int, ty_bool_tuple, ty_bool_list, ty_bool_str, ty_int_bool, ty_int_int, ty_int_tuple, ty_int_list, ty_int_str, ty_tuple_bool, ty_tuple_int, ty_tuple_tuple, ty_tuple_list, ty_tuple_str, ty_list_bool, ty_list_int, ty_list_tuple, ty_list_list, ty_list_str, ty_str_bool, ty_str_int, ty_str_tuple, ty_str_list, ty_str_str, List.set_cons_succ, List.set_cons_zero, wipeE, puX_pre, exn_inj, Nat.reduceEqDiff, List.zip_nil_left, Nat.le_refl, Nat.reduceLeDiff, ↓call_look_inside (T0 := T_box_round) rfl, ↓call_divisor (T0 := T_box_round) rfl, ck_0_18, ck_1_18, is_0_18, is_1_18]
  obtain ⟨h1, h2, h3, h4⟩ := h
  exact ⟨⟨h1, h2, h3⟩, fun h => (h h4).elim⟩
theorem num_59 : (10 : Int) ^ 59 = B59 := rfl
theorem w__law_number : ∀ as S, (sp__law_number as S).pre → wS T__law_number s__law_number (startE C__law_number.N as) S (fin (sp__law_number as S)) := by
  intro as S h
  unfold sp__law_number at h ⊢
  split at h
  rotate_left
  · exact h.elim
  rename_i c
  change wS T__law_number s__law_number [some (.int c), none] S _
  unfold s__law_number
  simp only [↓wE_lit, ↓wE_bin, ↓wE_neg, ↓wE_nott, ↓wE_cmp, ↓wE_chain, ↓wE_andd, ↓wE_orr, ↓wE_ife, ↓wE_nil, ↓wE_cons, ↓wE_tup, ↓wE_lst, ↓wE_idx, ↓wE_slc, ↓wE_fld, ↓wE_meth, ↓wE_new, ↓wE_sup, ↓wE_blt, ↓wE_isty, ↓wE_iscl, ↓wE_dnew, ↓wE_dget, ↓wE_din, ↓wE_dget2, ↓wE_sm, ↓wT_cmp, ↓wT_chain, ↓wT_nott, ↓wT_andd, ↓wT_orr, ↓wT_ife, ↓wT_lit, ↓wT_idx, ↓wT_bin, ↓wT_meth, ↓wT_blt, ↓wT_isty, ↓wT_iscl, ↓wT_fld, ↓wT_din, ↓wT_dget, ↓wT_sm, ↓wT_neg, ↓wT_nil, ↓wT_cons, ↓wT_tup, ↓wT_lst, ↓wT_slc, ↓wT_new, ↓wT_comp, ↓wT_sup, ↓wT_dnew, ↓wT_dget2, ↓wT_dpop, ↓wT_clo, ↓wT_ccall, ↓wA_nil, ↓wA_cons, ↓wO_nil, ↓wO_cons, ↓wE_compK, ↓wE_compF, ↓wE_call0, ↓wT_call0, ↓wE_v0, ↓wE_v1, ↓wE_v2, ↓wE_v3, ↓wE_v4, ↓wE_v5, ↓wE_v6, ↓wE_v7, ↓wE_v8, ↓wE_v9, ↓wE_v10, ↓wE_v11, ↓wE_v12, ↓wE_v13, ↓wE_v14, ↓wE_v15, ↓wE_v16, ↓wE_v17, ↓wE_v18, ↓wE_v19, ↓wE_v20, ↓wE_v21, ↓wE_v22, ↓wE_v23, ↓wE_v24, ↓wE_v25, ↓wE_v26, ↓wE_v27, ↓wE_v28, ↓wE_v29, ↓wT_v0, ↓wT_v1, ↓wT_v2, ↓wT_v3, ↓wT_v4, ↓wT_v5, ↓wT_v6, ↓wT_v7, ↓wT_v8, ↓wT_v9, ↓wT_v10, ↓wT_v11, ↓wT_v12, ↓wT_v13, ↓wT_v14, ↓wT_v15, ↓wT_v16, ↓wT_v17, ↓wT_v18, ↓wT_v19, ↓wT_v20, ↓wT_v21, ↓wT_v22, ↓wT_v23, ↓wT_v24, ↓wT_v25, ↓wT_v26, ↓wT_v27, ↓wT_v28, ↓wT_v29, ↓tgt_0, ↓tgt_1, ↓tgt_2, ↓tgt_3, ↓tgt_4, ↓tgt_5, ↓tgt_6, ↓tgt_7, ↓tgt_8, ↓tgt_9, ↓tgt_10, ↓tgt_11, ↓tgt_12, ↓tgt_13, ↓tgt_14, ↓tgt_15, ↓tgt_16, ↓tgt_17, ↓tgt_18, ↓tgt_19, ↓tgt_20, ↓tgt_21, ↓tgt_22, ↓tgt_23, ↓tgt_24, ↓tgt_25, ↓tgt_26, ↓tgt_27, ↓tgt_28, ↓tgt_29, ↓exI_0, ↓exI_1, ↓exI_2, ↓exI_3, ↓exI_4, ↓exI_5, ↓exI_6, ↓exI_7, ↓exI_8, ↓exI_9, ↓exI_10, ↓exI_11, ↓exI_12, ↓exI_13, ↓exI_14, ↓exI_15, ↓exI_16, ↓exI_17, ↓exI_18, ↓exI_19, ↓exI_20, ↓exI_21, ↓exI_22, ↓exI_23, ↓exI_24, ↓exI_25, ↓exI_26, ↓exI_27, ↓exI_28, ↓exI_29, ↓exT_0, ↓exT_1, ↓exT_2, ↓exT_3, ↓exT_4, ↓exT_5, ↓exT_6, ↓exT_7, ↓exT_8, ↓exT_9, ↓exT_10, ↓exT_11, ↓exT_12, ↓exT_13, ↓exT_14, ↓exT_15, ↓exT_16, ↓exT_17, ↓exT_18, ↓exT_19, ↓exT_20, ↓exT_21, ↓exT_22, ↓exT_23, ↓exT_24, ↓exT_25, ↓exT_26, ↓exT_27, ↓exT_28, ↓exT_29, ↓exF_0, ↓exF_1, ↓exF_2, ↓exF_3, ↓exF_4, ↓exF_5, ↓exF_6, ↓exF_7, ↓exF_8, ↓exF_9, ↓exF_10, ↓exF_11, ↓exF_12, ↓exF_13, ↓exF_14, ↓exF_15, ↓exF_16, ↓exF_17, ↓exF_18, ↓exF_19, ↓exF_20, ↓exF_21, ↓exF_22, ↓exF_23, ↓exF_24, ↓exF_25, ↓exF_26, ↓exF_27, ↓exF_28, ↓exF_29, ↓tgt_tn, ↓tgt_tc, ↓wS_skip, ↓wS_seqL, ↓later_at, ↓wS_asg_var, ↓wS_asg_lit, ↓wS_asg_bin, ↓wS_asg_neg, ↓wS_asg_nott, ↓wS_asg_cmp, ↓wS_asg_chain, ↓wS_asg_andd, ↓wS_asg_orr, ↓wS_asg_ife, ↓wS_asg_tup, ↓wS_asg_lst, ↓wS_asg_idx, ↓wS_asg_slc, ↓wS_asg_fld, ↓wS_asg_call, ↓wS_asg_meth, ↓wS_asg_new, ↓wS_asg_blt, ↓wS_asg_isty, ↓wS_asg_iscl, ↓wS_asg_exis, ↓wS_asg_exfl, ↓wS_asg_dnew, ↓wS_asg_dget, ↓wS_asg_din, ↓wS_asg_nil, ↓wS_asg_comp, ↓wS_asg_compF, ↓nxK_at, ↓wS_asgF, ↓wS_asgI, ↓wS_asgD, ↓wS_augN, ↓wS_augI, ↓wS_parL, ↓wS_expr, ↓wS_bm, ↓wS_ret, ↓wS_retN, ↓wS_ite, ↓wFor_cons, ↓wFor_nil, ↓wS_for, ↓wS_brk, ↓wS_cnt, ↓wS_raise, ↓wS_tri, ↓wH_nil, ↓wH_cons0, ↓wH_cons1, ↓tyIs_ref, ↓opBm_appendL, ↓setIL, ↓isL_ref, ↓ob_add, ↓ob_adds, ↓ob_addt, ↓ob_addl, ↓ob_addrl, ↓ob_addlr, ↓ob_addrr, ↓ob_addM, ↓ob_sub, ↓ob_mul, ↓ob_mull, ↓ob_mulM, ↓ob_fdiv, ↓ob_mod, ↓ob_pow, ↓oi_abs, ↓oi_lent, ↓oi_lens, ↓oi_lenr, ↓oi_sortedr, ↓oi_sortedMr, ↓oi_tupler, ↓oi_listr, ↓oi_listMr, ↓oi_sumr, ↓oi_anyr, ↓oi_allr, ↓oi_mxr, ↓oi_mnr, ↓oi_lenl, ↓oi_sortedl, ↓oi_sortedMl, ↓oi_tuplel, ↓oi_listl, ↓oi_listMl, ↓oi_suml, ↓oi_anyl, ↓oi_alll, ↓oi_mxl, ↓oi_mnl, ↓oi_mxt, ↓oi_mnt, ↓oi_max2, ↓oi_min2, ↓oi_int, ↓oi_intb, ↓oi_tuplet, ↓oi_listt, ↓oi_listMt, ↓oi_str, ↓oi_divmod, ↓tru_non, ↓tru_bl, ↓tru_int, ↓tru_str, ↓tru_tup, ↓tru_ref, ↓tru_sl, ↓tyIs_non, ↓tyIs_bl, ↓tyIs_int, ↓tyIs_str, ↓tyIs_tup, ↓tyIs_sl, ↓it_t, ↓it_sr, ↓it_er, ↓it_vr, ↓it_sl, ↓it_el, ↓it_vl, ↓it_z, ↓it_1, ↓it_2, ↓it_3, ↓ltI_i, ↓tl_i, ↓optI_i, ↓osl_t, ↓osl_s, ↓osl_l, ↓osl_r, ↓osl_lM, ↓osl_rM, ↓sq_t, ↓sq_l, ↓getI_i, ↓opIx_tup, ↓opIx_ref, ↓opIx_sl, ↓atQ_0, ↓atQ_1, ↓atQ_2, ↓atQ_3, ↓getL_put, ↓getL_put_ne, ↓getL_put_ne', ↓getL_sl, ↓opC_eq_int, ↓opC_ne_int, ↓opC_eq_bl, ↓opC_ne_bl, ↓opC_eq_t2, ↓opC_ne_t2, ↓opC_eq_t3, ↓opC_ne_t3, ↓opC_eq_t32, ↓opC_ne_t32, ↓opC_lt, ↓opC_le, ↓opC_gt, ↓opC_ge, ↓opC_ne_nil, ↓opC_eq_nil, ↓opC_is, ↓opC_isnot, ↓opC_isb, ↓opC_isnb, ↓opC_isi, ↓opC_isni, ↓opC_ist, ↓opC_isnt, ↓opC_iso, ↓opC_isno, ↓opC_in, ↓opC_notin, ↓finpu_rt, ↓finpu_nx, ↓finpu_ex, ↓finlaw_rt, ↓finlaw_nx, ↓finlaw_ex, ↓finV_rt, ↓finV_nx, ↓finV_ex, ↓finE_rt, ↓finO_rt, ↓finO_ex, ↓finE_ex, ↓finS_rt, ↓finS_ex, ↓finR_ex, ↓finX_rt, ↓finX_nx, ↓finX_ex, put_none, put_put, Val.isNon, intsOf, atI_0, atI_1, atI_2, atI_3, cutG_to, cutG_from, sub_refl_iff, pu_pre, puV_pre, puE_pre, puO_pre, puS_pre, puR_pre, Option.some.injEq, exists_eq_left', exists_eq_left, exists_eq, exists_eq', Val.int.injEq, Val.bl.injEq, Val.str.injEq, Val.tup.injEq, Val.ref.injEq, List.cons.injEq, List.map_cons, List.map_nil, List.length_cons, List.length_nil, List.cons_append, List.nil_append, List.append_nil, Bool.false_eq_true, if_true, if_false, ite_true, ite_false, true_and, and_true, false_and, and_false, Bool.not_true, Bool.not_false, decide_eq_true_eq, bne_iff_ne, ne_eq, beq_iff_eq, put_same, imp_false, false_implies, implies_true, reduceCtorEq, not_false_eq_true, and_self, Bool.or_false, Bool.or_true, Bool.false_or, Bool.true_or, Bool.not_eq_true, Bool.not_eq_eq_eq_not, Bool.decide_eq_false, decide_eq_false_iff_not, Bool.not_eq_true', beq_eq_false_iff_ne, bne_eq_false_iff_eq, List.isEmpty_cons, List.isEmpty_nil, Int.reduceEq, Int.reduceNe, Int.reduceLT, Int.reduceLE, Int.reduceNeg, Int.reduceAdd, Int.reduceSub, Int.reduceMul, Int.reduceToNat, Nat.reduceLT, Nat.reduceLeDiff, Nat.reducePow, Nat.reduceAdd, Nat.reduceSub, ty_bool_bool, ty_bool_int, ty_bool_tuple, ty_bool_list, ty_bool_str, ty_int_bool, ty_int_int, ty_int_tuple, ty_int_list, ty_int_str, ty_tuple_bool, ty_tuple_int, ty_tuple_tuple, ty_tuple_list, ty_tuple_str, ty_list_bool, ty_list_int, ty_list_tuple, ty_list_list, ty_list_str, ty_str_bool, ty_str_int, ty_str_tuple, ty_str_list, ty_str_str, List.set_cons_succ, List.set_cons_zero, wipeE, puX_pre, exn_inj, Nat.reduceEqDiff, List.zip_nil_left, Nat.le_refl, Nat.reduceLeDiff, ck_0_18, ck_1_18, is_0_18, is_1_18, num_59]
  have hd : DivOk c 5 := ⟨by decide, by decide⟩
  have h5 : (c.fdiv 5).natAbs.log2 < 10000000 := log2_fdiv (by decide) h
  have bp : (2000 : Int) < B59 := by decide +kernel
  split
  · have z := fmod_lo (c.fdiv 5 * (B59.fdiv 7 + 48271)) (y := 2 * B59 + 1) (by omega)
    have z2 := fmod_hi (c.fdiv 5 * (B59.fdiv 7 + 48271)) (y := 2 * B59 + 1) (by omega)
    have hm : (B59.fdiv 7 + 48271).natAbs.log2 < 1000 := by decide +kernel
    exact ⟨hd, by decide, ⟨by decide, by decide⟩, by unfold MulOk; omega, by decide, by unfold MulOk; decide +kernel, by omega, by decide, by omega, by omega⟩
  · split
    · have z := fmod_lo (c.fdiv 5) (y := 2001) (by decide)
      have z2 := fmod_hi (c.fdiv 5) (y := 2001) (by decide)
      exact ⟨hd, by omega, by omega⟩
    · have z := fmod_lo (c.fdiv 5) (y := 13) (by decide)
      have z2 := fmod_hi (c.fdiv 5) (y := 13) (by decide)
      exact ⟨hd, by omega, by omega⟩
theorem num_60 : (10 : Int) ^ 60 - 1 = B59 * 10 - 1 := by decide +kernel
theorem w__law_side : ∀ as S, (sp__law_side as S).pre → wS T__law_side s__law_side (startE C__law_side.N as) S (fin (sp__law_side as S)) := by
  intro as S h
  unfold sp__law_side at h ⊢
  split at h
  rotate_left
  · exact h.elim
  rename_i c
  change wS T__law_side s__law_side [some (.int c), none] S _
  unfold s__law_side
  simp only [↓wE_lit, ↓wE_bin, ↓wE_neg, ↓wE_nott, ↓wE_cmp, ↓wE_chain, ↓wE_andd, ↓wE_orr, ↓wE_ife, ↓wE_nil, ↓wE_cons, ↓wE_tup, ↓wE_lst, ↓wE_idx, ↓wE_slc, ↓wE_fld, ↓wE_meth, ↓wE_new, ↓wE_sup, ↓wE_blt, ↓wE_isty, ↓wE_iscl, ↓wE_dnew, ↓wE_dget, ↓wE_din, ↓wE_dget2, ↓wE_sm, ↓wT_cmp, ↓wT_chain, ↓wT_nott, ↓wT_andd, ↓wT_orr, ↓wT_ife, ↓wT_lit, ↓wT_idx, ↓wT_bin, ↓wT_meth, ↓wT_blt, ↓wT_isty, ↓wT_iscl, ↓wT_fld, ↓wT_din, ↓wT_dget, ↓wT_sm, ↓wT_neg, ↓wT_nil, ↓wT_cons, ↓wT_tup, ↓wT_lst, ↓wT_slc, ↓wT_new, ↓wT_comp, ↓wT_sup, ↓wT_dnew, ↓wT_dget2, ↓wT_dpop, ↓wT_clo, ↓wT_ccall, ↓wA_nil, ↓wA_cons, ↓wO_nil, ↓wO_cons, ↓wE_compK, ↓wE_compF, ↓wE_call0, ↓wT_call0, ↓wE_v0, ↓wE_v1, ↓wE_v2, ↓wE_v3, ↓wE_v4, ↓wE_v5, ↓wE_v6, ↓wE_v7, ↓wE_v8, ↓wE_v9, ↓wE_v10, ↓wE_v11, ↓wE_v12, ↓wE_v13, ↓wE_v14, ↓wE_v15, ↓wE_v16, ↓wE_v17, ↓wE_v18, ↓wE_v19, ↓wE_v20, ↓wE_v21, ↓wE_v22, ↓wE_v23, ↓wE_v24, ↓wE_v25, ↓wE_v26, ↓wE_v27, ↓wE_v28, ↓wE_v29, ↓wT_v0, ↓wT_v1, ↓wT_v2, ↓wT_v3, ↓wT_v4, ↓wT_v5, ↓wT_v6, ↓wT_v7, ↓wT_v8, ↓wT_v9, ↓wT_v10, ↓wT_v11, ↓wT_v12, ↓wT_v13, ↓wT_v14, ↓wT_v15, ↓wT_v16, ↓wT_v17, ↓wT_v18, ↓wT_v19, ↓wT_v20, ↓wT_v21, ↓wT_v22, ↓wT_v23, ↓wT_v24, ↓wT_v25, ↓wT_v26, ↓wT_v27, ↓wT_v28, ↓wT_v29, ↓tgt_0, ↓tgt_1, ↓tgt_2, ↓tgt_3, ↓tgt_4, ↓tgt_5, ↓tgt_6, ↓tgt_7, ↓tgt_8, ↓tgt_9, ↓tgt_10, ↓tgt_11, ↓tgt_12, ↓tgt_13, ↓tgt_14, ↓tgt_15, ↓tgt_16, ↓tgt_17, ↓tgt_18, ↓tgt_19, ↓tgt_20, ↓tgt_21, ↓tgt_22, ↓tgt_23, ↓tgt_24, ↓tgt_25, ↓tgt_26, ↓tgt_27, ↓tgt_28, ↓tgt_29, ↓exI_0, ↓exI_1, ↓exI_2, ↓exI_3, ↓exI_4, ↓exI_5, ↓exI_6, ↓exI_7, ↓exI_8, ↓exI_9, ↓exI_10, ↓exI_11, ↓exI_12, ↓exI_13, ↓exI_14, ↓exI_15, ↓exI_16, ↓exI_17, ↓exI_18, ↓exI_19, ↓exI_20, ↓exI_21, ↓exI_22, ↓exI_23, ↓exI_24, ↓exI_25, ↓exI_26, ↓exI_27, ↓exI_28, ↓exI_29, ↓exT_0, ↓exT_1, ↓exT_2, ↓exT_3, ↓exT_4, ↓exT_5, ↓exT_6, ↓exT_7, ↓exT_8, ↓exT_9, ↓exT_10, ↓exT_11, ↓exT_12, ↓exT_13, ↓exT_14, ↓exT_15, ↓exT_16, ↓exT_17, ↓exT_18, ↓exT_19, ↓exT_20, ↓exT_21, ↓exT_22, ↓exT_23, ↓exT_24, ↓exT_25, ↓exT_26, ↓exT_27, ↓exT_28, ↓exT_29, ↓exF_0, ↓exF_1, ↓exF_2, ↓exF_3, ↓exF_4, ↓exF_5, ↓exF_6, ↓exF_7, ↓exF_8, ↓exF_9, ↓exF_10, ↓exF_11, ↓exF_12, ↓exF_13, ↓exF_14, ↓exF_15, ↓exF_16, ↓exF_17, ↓exF_18, ↓exF_19, ↓exF_20, ↓exF_21, ↓exF_22, ↓exF_23, ↓exF_24, ↓exF_25, ↓exF_26, ↓exF_27, ↓exF_28, ↓exF_29, ↓tgt_tn, ↓tgt_tc, ↓wS_skip, ↓wS_seqL, ↓later_at, ↓wS_asg_var, ↓wS_asg_lit, ↓wS_asg_bin, ↓wS_asg_neg, ↓wS_asg_nott, ↓wS_asg_cmp, ↓wS_asg_chain, ↓wS_asg_andd, ↓wS_asg_orr, ↓wS_asg_ife, ↓wS_asg_tup, ↓wS_asg_lst, ↓wS_asg_idx, ↓wS_asg_slc, ↓wS_asg_fld, ↓wS_asg_call, ↓wS_asg_meth, ↓wS_asg_new, ↓wS_asg_blt, ↓wS_asg_isty, ↓wS_asg_iscl, ↓wS_asg_exis, ↓wS_asg_exfl, ↓wS_asg_dnew, ↓wS_asg_dget, ↓wS_asg_din, ↓wS_asg_nil, ↓wS_asg_comp, ↓wS_asg_compF, ↓nxK_at, ↓wS_asgF, ↓wS_asgI, ↓wS_asgD, ↓wS_augN, ↓wS_augI, ↓wS_parL, ↓wS_expr, ↓wS_bm, ↓wS_ret, ↓wS_retN, ↓wS_ite, ↓wFor_cons, ↓wFor_nil, ↓wS_for, ↓wS_brk, ↓wS_cnt, ↓wS_raise, ↓wS_tri, ↓wH_nil, ↓wH_cons0, ↓wH_cons1, ↓tyIs_ref, ↓opBm_appendL, ↓setIL, ↓isL_ref, ↓ob_add, ↓ob_adds, ↓ob_addt, ↓ob_addl, ↓ob_addrl, ↓ob_addlr, ↓ob_addrr, ↓ob_addM, ↓ob_sub, ↓ob_mul, ↓ob_mull, ↓ob_mulM, ↓ob_fdiv, ↓ob_mod, ↓ob_pow, ↓oi_abs, ↓oi_lent, ↓oi_lens, ↓oi_lenr, ↓oi_sortedr, ↓oi_sortedMr, ↓oi_tupler, ↓oi_listr, ↓oi_listMr, ↓oi_sumr, ↓oi_anyr, ↓oi_allr, ↓oi_mxr, ↓oi_mnr, ↓oi_lenl, ↓oi_sortedl, ↓oi_sortedMl, ↓oi_tuplel, ↓oi_listl, ↓oi_listMl, ↓oi_suml, ↓oi_anyl, ↓oi_alll, ↓oi_mxl, ↓oi_mnl, ↓oi_mxt, ↓oi_mnt, ↓oi_max2, ↓oi_min2, ↓oi_int, ↓oi_intb, ↓oi_tuplet, ↓oi_listt, ↓oi_listMt, ↓oi_str, ↓oi_divmod, ↓tru_non, ↓tru_bl, ↓tru_int, ↓tru_str, ↓tru_tup, ↓tru_ref, ↓tru_sl, ↓tyIs_non, ↓tyIs_bl, ↓tyIs_int, ↓tyIs_str, ↓tyIs_tup, ↓tyIs_sl, ↓it_t, ↓it_sr, ↓it_er, ↓it_vr, ↓it_sl, ↓it_el, ↓it_vl, ↓it_z, ↓it_1, ↓it_2, ↓it_3, ↓ltI_i, ↓tl_i, ↓optI_i, ↓osl_t, ↓osl_s, ↓osl_l, ↓osl_r, ↓osl_lM, ↓osl_rM, ↓sq_t, ↓sq_l, ↓getI_i, ↓opIx_tup, ↓opIx_ref, ↓opIx_sl, ↓atQ_0, ↓atQ_1, ↓atQ_2, ↓atQ_3, ↓getL_put, ↓getL_put_ne, ↓getL_put_ne', ↓getL_sl, ↓opC_eq_int, ↓opC_ne_int, ↓opC_eq_bl, ↓opC_ne_bl, ↓opC_eq_t2, ↓opC_ne_t2, ↓opC_eq_t3, ↓opC_ne_t3, ↓opC_eq_t32, ↓opC_ne_t32, ↓opC_lt, ↓opC_le, ↓opC_gt, ↓opC_ge, ↓opC_ne_nil, ↓opC_eq_nil, ↓opC_is, ↓opC_isnot, ↓opC_isb, ↓opC_isnb, ↓opC_isi, ↓opC_isni, ↓opC_ist, ↓opC_isnt, ↓opC_iso, ↓opC_isno, ↓opC_in, ↓opC_notin, ↓finpu_rt, ↓finpu_nx, ↓finpu_ex, ↓finlaw_rt, ↓finlaw_nx, ↓finlaw_ex, ↓finV_rt, ↓finV_nx, ↓finV_ex, ↓finE_rt, ↓finO_rt, ↓finO_ex, ↓finE_ex, ↓finS_rt, ↓finS_ex, ↓finR_ex, ↓finX_rt, ↓finX_nx, ↓finX_ex, put_none, put_put, Val.isNon, intsOf, atI_0, atI_1, atI_2, atI_3, cutG_to, cutG_from, sub_refl_iff, pu_pre, puV_pre, puE_pre, puO_pre, puS_pre, puR_pre, Option.some.injEq, exists_eq_left', exists_eq_left, exists_eq, exists_eq', Val.int.injEq, Val.bl.injEq, Val.str.injEq, Val.tup.injEq, Val.ref.injEq, List.cons.injEq, List.map_cons, List.map_nil, List.length_cons, List.length_nil, List.cons_append, List.nil_append, List.append_nil, Bool.false_eq_true, if_true, if_false, ite_true, ite_false, true_and, and_true, false_and, and_false, Bool.not_true, Bool.not_false, decide_eq_true_eq, bne_iff_ne, ne_eq, beq_iff_eq, put_same, imp_false, false_implies, implies_true, reduceCtorEq, not_false_eq_true, and_self, Bool.or_false, Bool.or_true, Bool.false_or, Bool.true_or, Bool.not_eq_true, Bool.not_eq_eq_eq_not, Bool.decide_eq_false, decide_eq_false_iff_not, Bool.not_eq_true', beq_eq_false_iff_ne, bne_eq_false_iff_eq, List.isEmpty_cons, List.isEmpty_nil, Int.reduceEq, Int.reduceNe, Int.reduceLT, Int.reduceLE, Int.reduceNeg, Int.reduceAdd, Int.reduceSub, Int.reduceMul, Int.reduceToNat, Nat.reduceLT, Nat.reduceLeDiff, Nat.reducePow, Nat.reduceAdd, Nat.reduceSub, ty_bool_bool, ty_bool_int, ty_bool_tuple, ty_bool_list, ty_bool_str, ty_int_bool, ty_int_int, ty_int_tuple, ty_int_list, ty_int_str, ty_tuple_bool, ty_tuple_int, ty_tuple_tuple, ty_tuple_list, ty_tuple_str, ty_list_bool, ty_list_int, ty_list_tuple, ty_list_list, ty_list_str, ty_str_bool, ty_str_int, ty_str_tuple, ty_str_list, ty_str_str, List.set_cons_succ, List.set_cons_zero, wipeE, puX_pre, exn_inj, Nat.reduceEqDiff, List.zip_nil_left, Nat.le_refl, Nat.reduceLeDiff, ck_0_18, ck_1_18, is_0_18, is_1_18, num_59, num_60]
  have hd : DivOk c 4 := ⟨by decide, by decide⟩
  have h5 : (c.fdiv 4).natAbs.log2 < 10000000 := log2_fdiv (by decide) h
  have hb : (2000 : Int) < B59 := by decide
  split
  · have z := fmod_lo (c.fdiv 4 * (B59.fdiv 11 + 104729)) (y := B59 * 10 - 1) (by omega)
    have z2 := fmod_hi (c.fdiv 4 * (B59.fdiv 11 + 104729)) (y := B59 * 10 - 1) (by omega)
    have hm : (B59.fdiv 11 + 104729).natAbs.log2 < 1000 := by decide +kernel
    exact ⟨hd, by decide, ⟨by decide, by decide⟩, mulOk_of (by omega) (by omega), by decide, by omega, by omega, by omega⟩
  · split
    · have z := fmod_lo (c.fdiv 4) (y := 1000) (by decide)
      have z2 := fmod_hi (c.fdiv 4) (y := 1000) (by decide)
      exact ⟨hd, by omega, by omega⟩
    · have z := fmod_lo (c.fdiv 4) (y := 9) (by decide)
      have z2 := fmod_hi (c.fdiv 4) (y := 9) (by decide)
      exact ⟨hd, by omega, by omega⟩
theorem w__law_measure : ∀ as S, (sp__law_measure as S).pre → wS T__law_measure s__law_measure (startE C__law_measure.N as) S (fin (sp__law_measure as S)) := by
  intro as S h
  unfold sp__law_measure at h ⊢
  split at h
  rotate_left
  · exact h.elim
  rename_i a b
  change wS T__law_measure s__law_measure [some (.int a), some (.int b), none] S _
  unfold s__law_measure
  simp only [↓wE_lit, ↓wE_bin, ↓wE_neg, ↓wE_nott, ↓wE_cmp, ↓wE_chain, ↓wE_andd, ↓wE_orr, ↓wE_ife, ↓wE_nil, ↓wE_cons, ↓wE_tup, ↓wE_lst, ↓wE_idx, ↓wE_slc, ↓wE_fld, ↓wE_meth, ↓wE_new, ↓wE_sup, ↓wE_blt, ↓wE_isty, ↓wE_iscl, ↓wE_dnew, ↓wE_dget, ↓wE_din, ↓wE_dget2, ↓wE_sm, ↓wT_cmp, ↓wT_chain, ↓wT_nott, ↓wT_andd, ↓wT_orr, ↓wT_ife, ↓wT_lit, ↓wT_idx, ↓wT_bin, ↓wT_meth, ↓wT_blt, ↓wT_isty, ↓wT_iscl, ↓wT_fld, ↓wT_din, ↓wT_dget, ↓wT_sm, ↓wT_neg, ↓wT_nil, ↓wT_cons, ↓wT_tup, ↓wT_lst, ↓wT_slc, ↓wT_new, ↓wT_comp, ↓wT_sup, ↓wT_dnew, ↓wT_dget2, ↓wT_dpop, ↓wT_clo, ↓wT_ccall, ↓wA_nil, ↓wA_cons, ↓wO_nil, ↓wO_cons, ↓wE_compK, ↓wE_compF, ↓wE_call0, ↓wT_call0, ↓wE_v0, ↓wE_v1, ↓wE_v2, ↓wE_v3, ↓wE_v4, ↓wE_v5, ↓wE_v6, ↓wE_v7, ↓wE_v8, ↓wE_v9, ↓wE_v10, ↓wE_v11, ↓wE_v12, ↓wE_v13, ↓wE_v14, ↓wE_v15, ↓wE_v16, ↓wE_v17, ↓wE_v18, ↓wE_v19, ↓wE_v20, ↓wE_v21, ↓wE_v22, ↓wE_v23, ↓wE_v24, ↓wE_v25, ↓wE_v26, ↓wE_v27, ↓wE_v28, ↓wE_v29, ↓wT_v0, ↓wT_v1, ↓wT_v2, ↓wT_v3, ↓wT_v4, ↓wT_v5, ↓wT_v6, ↓wT_v7, ↓wT_v8, ↓wT_v9, ↓wT_v10, ↓wT_v11, ↓wT_v12, ↓wT_v13, ↓wT_v14, ↓wT_v15, ↓wT_v16, ↓wT_v17, ↓wT_v18, ↓wT_v19, ↓wT_v20, ↓wT_v21, ↓wT_v22, ↓wT_v23, ↓wT_v24, ↓wT_v25, ↓wT_v26, ↓wT_v27, ↓wT_v28, ↓wT_v29, ↓tgt_0, ↓tgt_1, ↓tgt_2, ↓tgt_3, ↓tgt_4, ↓tgt_5, ↓tgt_6, ↓tgt_7, ↓tgt_8, ↓tgt_9, ↓tgt_10, ↓tgt_11, ↓tgt_12, ↓tgt_13, ↓tgt_14, ↓tgt_15, ↓tgt_16, ↓tgt_17, ↓tgt_18, ↓tgt_19, ↓tgt_20, ↓tgt_21, ↓tgt_22, ↓tgt_23, ↓tgt_24, ↓tgt_25, ↓tgt_26, ↓tgt_27, ↓tgt_28, ↓tgt_29, ↓exI_0, ↓exI_1, ↓exI_2, ↓exI_3, ↓exI_4, ↓exI_5, ↓exI_6, ↓exI_7, ↓exI_8, ↓exI_9, ↓exI_10, ↓exI_11, ↓exI_12, ↓exI_13, ↓exI_14, ↓exI_15, ↓exI_16, ↓exI_17, ↓exI_18, ↓exI_19, ↓exI_20, ↓exI_21, ↓exI_22, ↓exI_23, ↓exI_24, ↓exI_25, ↓exI_26, ↓exI_27, ↓exI_28, ↓exI_29, ↓exT_0, ↓exT_1, ↓exT_2, ↓exT_3, ↓exT_4, ↓exT_5, ↓exT_6, ↓exT_7, ↓exT_8, ↓exT_9, ↓exT_10, ↓exT_11, ↓exT_12, ↓exT_13, ↓exT_14, ↓exT_15, ↓exT_16, ↓exT_17, ↓exT_18, ↓exT_19, ↓exT_20, ↓exT_21, ↓exT_22, ↓exT_23, ↓exT_24, ↓exT_25, ↓exT_26, ↓exT_27, ↓exT_28, ↓exT_29, ↓exF_0, ↓exF_1, ↓exF_2, ↓exF_3, ↓exF_4, ↓exF_5, ↓exF_6, ↓exF_7, ↓exF_8, ↓exF_9, ↓exF_10, ↓exF_11, ↓exF_12, ↓exF_13, ↓exF_14, ↓exF_15, ↓exF_16, ↓exF_17, ↓exF_18, ↓exF_19, ↓exF_20, ↓exF_21, ↓exF_22, ↓exF_23, ↓exF_24, ↓exF_25, ↓exF_26, ↓exF_27, ↓exF_28, ↓exF_29, ↓tgt_tn, ↓tgt_tc, ↓wS_skip, ↓wS_seqL, ↓later_at, ↓wS_asg_var, ↓wS_asg_lit, ↓wS_asg_bin, ↓wS_asg_neg, ↓wS_asg_nott, ↓wS_asg_cmp, ↓wS_asg_chain, ↓wS_asg_andd, ↓wS_asg_orr, ↓wS_asg_ife, ↓wS_asg_tup, ↓wS_asg_lst, ↓wS_asg_idx, ↓wS_asg_slc, ↓wS_asg_fld, ↓wS_asg_call, ↓wS_asg_meth, ↓wS_asg_new, ↓wS_asg_blt, ↓wS_asg_isty, ↓wS_asg_iscl, ↓wS_asg_exis, ↓wS_asg_exfl, ↓wS_asg_dnew, ↓wS_asg_dget, ↓wS_asg_din, ↓wS_asg_nil, ↓wS_asg_comp, ↓wS_asg_compF, ↓nxK_at, ↓wS_asgF, ↓wS_asgI, ↓wS_asgD, ↓wS_augN, ↓wS_augI, ↓wS_parL, ↓wS_expr, ↓wS_bm, ↓wS_ret, ↓wS_retN, ↓wS_ite, ↓wFor_cons, ↓wFor_nil, ↓wS_for, ↓wS_brk, ↓wS_cnt, ↓wS_raise, ↓wS_tri, ↓wH_nil, ↓wH_cons0, ↓wH_cons1, ↓tyIs_ref, ↓opBm_appendL, ↓setIL, ↓isL_ref, ↓ob_add, ↓ob_adds, ↓ob_addt, ↓ob_addl, ↓ob_addrl, ↓ob_addlr, ↓ob_addrr, ↓ob_addM, ↓ob_sub, ↓ob_mul, ↓ob_mull, ↓ob_mulM, ↓ob_fdiv, ↓ob_mod, ↓ob_pow, ↓oi_abs, ↓oi_lent, ↓oi_lens, ↓oi_lenr, ↓oi_sortedr, ↓oi_sortedMr, ↓oi_tupler, ↓oi_listr, ↓oi_listMr, ↓oi_sumr, ↓oi_anyr, ↓oi_allr, ↓oi_mxr, ↓oi_mnr, ↓oi_lenl, ↓oi_sortedl, ↓oi_sortedMl, ↓oi_tuplel, ↓oi_listl, ↓oi_listMl, ↓oi_suml, ↓oi_anyl, ↓oi_alll, ↓oi_mxl, ↓oi_mnl, ↓oi_mxt, ↓oi_mnt, ↓oi_max2, ↓oi_min2, ↓oi_int, ↓oi_intb, ↓oi_tuplet, ↓oi_listt, ↓oi_listMt, ↓oi_str, ↓oi_divmod, ↓tru_non, ↓tru_bl, ↓tru_int, ↓tru_str, ↓tru_tup, ↓tru_ref, ↓tru_sl, ↓tyIs_non, ↓tyIs_bl, ↓tyIs_int, ↓tyIs_str, ↓tyIs_tup, ↓tyIs_sl, ↓it_t, ↓it_sr, ↓it_er, ↓it_vr, ↓it_sl, ↓it_el, ↓it_vl, ↓it_z, ↓it_1, ↓it_2, ↓it_3, ↓ltI_i, ↓tl_i, ↓optI_i, ↓osl_t, ↓osl_s, ↓osl_l, ↓osl_r, ↓osl_lM, ↓osl_rM, ↓sq_t, ↓sq_l, ↓getI_i, ↓opIx_tup, ↓opIx_ref, ↓opIx_sl, ↓atQ_0, ↓atQ_1, ↓atQ_2, ↓atQ_3, ↓getL_put, ↓getL_put_ne, ↓getL_put_ne', ↓getL_sl, ↓opC_eq_int, ↓opC_ne_int, ↓opC_eq_bl, ↓opC_ne_bl, ↓opC_eq_t2, ↓opC_ne_t2, ↓opC_eq_t3, ↓opC_ne_t3, ↓opC_eq_t32, ↓opC_ne_t32, ↓opC_lt, ↓opC_le, ↓opC_gt, ↓opC_ge, ↓opC_ne_nil, ↓opC_eq_nil, ↓opC_is, ↓opC_isnot, ↓opC_isb, ↓opC_isnb, ↓opC_isi, ↓opC_isni, ↓opC_ist, ↓opC_isnt, ↓opC_iso, ↓opC_isno, ↓opC_in, ↓opC_notin, ↓finpu_rt, ↓finpu_nx, ↓finpu_ex, ↓finlaw_rt, ↓finlaw_nx, ↓finlaw_ex, ↓finV_rt, ↓finV_nx, ↓finV_ex, ↓finE_rt, ↓finO_rt, ↓finO_ex, ↓finE_ex, ↓finS_rt, ↓finS_ex, ↓finR_ex, ↓finX_rt, ↓finX_nx, ↓finX_ex, put_none, put_put, Val.isNon, intsOf, atI_0, atI_1, atI_2, atI_3, cutG_to, cutG_from, sub_refl_iff, pu_pre, puV_pre, puE_pre, puO_pre, puS_pre, puR_pre, Option.some.injEq, exists_eq_left', exists_eq_left, exists_eq, exists_eq', Val.int.injEq, Val.bl.injEq, Val.str.injEq, Val.tup.injEq, Val.ref.injEq, List.cons.injEq, List.map_cons, List.map_nil, List.length_cons, List.length_nil, List.cons_append, List.nil_append, List.append_nil, Bool.false_eq_true, if_true, if_false, ite_true, ite_false, true_and, and_true, false_and, and_false, Bool.not_true, Bool.not_false, decide_eq_true_eq, bne_iff_ne, ne_eq, beq_iff_eq, put_same, imp_false, false_implies, implies_true, reduceCtorEq, not_false_eq_true, and_self, Bool.or_false, Bool.or_true, Bool.false_or, Bool.true_or, Bool.not_eq_true, Bool.not_eq_eq_eq_not, Bool.decide_eq_false, decide_eq_false_iff_not, Bool.not_eq_true', beq_eq_false_iff_ne, bne_eq_false_iff_eq, List.isEmpty_cons, List.isEmpty_nil, Int.reduceEq, Int.reduceNe, Int.reduceLT, Int.reduceLE, Int.reduceNeg, Int.reduceAdd, Int.reduceSub, Int.reduceMul, Int.reduceToNat, Nat.reduceLT, Nat.reduceLeDiff, Nat.reducePow, Nat.reduceAdd, Nat.reduceSub, ty_bool_bool, ty_bool_int, ty_bool_tuple, ty_bool_list, ty_bool_str, ty_int_bool, ty_int_int, ty_int_tuple, ty_int_list, ty_int_str, ty_tuple_bool, ty_tuple_int, ty_tuple_tuple, ty_tuple_list, ty_tuple_str, ty_list_bool, ty_list_int, ty_list_tuple, ty_list_list, ty_list_str, ty_str_bool, ty_str_int, ty_str_tuple, ty_str_list, ty_str_str, List.set_cons_succ, List.set_cons_zero, wipeE, puX_pre, exn_inj, Nat.reduceEqDiff, List.zip_nil_left, Nat.le_refl, Nat.reduceLeDiff, ck_0_18, ck_1_18, is_0_18, is_1_18]
  refine ⟨[if a < 0 then -a else a, if b < 0 then -b else b], rfl, ?_⟩
  intro ns' hperm hsort
  have start : ∃ x y : Int, ns' = [x, y] ∧ 0 ≤ x ∧ 0 ≤ y ∧ Int.gcd x y = Int.gcd a b := by
    have ea : Int.gcd (if a < 0 then -a else a) (if b < 0 then -b else b) = Int.gcd a b := by
      split <;> split <;> simp [Int.gcd_neg, Int.neg_gcd]
    rcases perm_two hperm with rfl | rfl
    · exact ⟨_, _, rfl, by split <;> omega, by split <;> omega, ea⟩
    · exact ⟨_, _, rfl, by split <;> omega, by split <;> omega, by rw [Int.gcd_comm]; exact ea⟩
  obtain ⟨x0, y0, rfl, hx0, hy0, hg0⟩ := start
  refine whl_inv (fun m env S' => ∃ x y : Int, env = [some (.int a), some (.int b), some (.sl [.int x, .int y])] ∧ S' = S ∧ 0 ≤ x ∧ 0 ≤ y ∧ m = x.natAbs ∧ Int.gcd x y = Int.gcd a b) _ ⟨x0, y0, rfl, rfl, hx0, hy0, rfl, hg0⟩ ?_
  rintro m env S' ⟨x, y, rfl, rfl, hx, hy, rfl, hg⟩
  simp only [↓wE_lit, ↓wE_bin, ↓wE_neg, ↓wE_nott, ↓wE_cmp, ↓wE_chain, ↓wE_andd, ↓wE_orr, ↓wE_ife, ↓wE_nil, ↓wE_cons, ↓wE_tup, ↓wE_lst, ↓wE_idx, ↓wE_slc, ↓wE_fld, ↓wE_meth, ↓wE_new, ↓wE_sup, ↓wE_blt, ↓wE_isty, ↓wE_iscl, ↓wE_dnew, ↓wE_dget, ↓wE_din, ↓wE_dget2, ↓wE_sm, ↓wT_cmp, ↓wT_chain, ↓wT_nott, ↓wT_andd, ↓wT_orr, ↓wT_ife, ↓wT_lit, ↓wT_idx, ↓wT_bin, ↓wT_meth, ↓wT_blt, ↓wT_isty, ↓wT_iscl, ↓wT_fld, ↓wT_din, ↓wT_dget, ↓wT_sm, ↓wT_neg, ↓wT_nil, ↓wT_cons, ↓wT_tup, ↓wT_lst, ↓wT_slc, ↓wT_new, ↓wT_comp, ↓wT_sup, ↓wT_dnew, ↓wT_dget2, ↓wT_dpop, ↓wT_clo, ↓wT_ccall, ↓wA_nil, ↓wA_cons, ↓wO_nil, ↓wO_cons, ↓wE_compK, ↓wE_compF, ↓wE_call0, ↓wT_call0, ↓wE_v0, ↓wE_v1, ↓wE_v2, ↓wE_v3, ↓wE_v4, ↓wE_v5, ↓wE_v6, ↓wE_v7, ↓wE_v8, ↓wE_v9, ↓wE_v10, ↓wE_v11, ↓wE_v12, ↓wE_v13, ↓wE_v14, ↓wE_v15, ↓wE_v16, ↓wE_v17, ↓wE_v18, ↓wE_v19, ↓wE_v20, ↓wE_v21, ↓wE_v22, ↓wE_v23, ↓wE_v24, ↓wE_v25, ↓wE_v26, ↓wE_v27, ↓wE_v28, ↓wE_v29, ↓wT_v0, ↓wT_v1, ↓wT_v2, ↓wT_v3, ↓wT_v4, ↓wT_v5, ↓wT_v6, ↓wT_v7, ↓wT_v8, ↓wT_v9, ↓wT_v10, ↓wT_v11, ↓wT_v12, ↓wT_v13, ↓wT_v14, ↓wT_v15, ↓wT_v16, ↓wT_v17, ↓wT_v18, ↓wT_v19, ↓wT_v20, ↓wT_v21, ↓wT_v22, ↓wT_v23, ↓wT_v24, ↓wT_v25, ↓wT_v26, ↓wT_v27, ↓wT_v28, ↓wT_v29, ↓tgt_0, ↓tgt_1, ↓tgt_2, ↓tgt_3, ↓tgt_4, ↓tgt_5, ↓tgt_6, ↓tgt_7, ↓tgt_8, ↓tgt_9, ↓tgt_10, ↓tgt_11, ↓tgt_12, ↓tgt_13, ↓tgt_14, ↓tgt_15, ↓tgt_16, ↓tgt_17, ↓tgt_18, ↓tgt_19, ↓tgt_20, ↓tgt_21, ↓tgt_22, ↓tgt_23, ↓tgt_24, ↓tgt_25, ↓tgt_26, ↓tgt_27, ↓tgt_28, ↓tgt_29, ↓exI_0, ↓exI_1, ↓exI_2, ↓exI_3, ↓exI_4, ↓exI_5, ↓exI_6, ↓exI_7, ↓exI_8, ↓exI_9, ↓exI_10, ↓exI_11, ↓exI_12, ↓exI_13, ↓exI_14, ↓exI_15, ↓exI_16, ↓exI_17, ↓exI_18, ↓exI_19, ↓exI_20, ↓exI_21, ↓exI_22, ↓exI_23, ↓exI_24, ↓exI_25, ↓exI_26, ↓exI_27, ↓exI_28, ↓exI_29, ↓exT_0, ↓exT_1, ↓exT_2, ↓exT_3, ↓exT_4, ↓exT_5, ↓exT_6, ↓exT_7, ↓exT_8, ↓exT_9, ↓exT_10, ↓exT_11, ↓exT_12, ↓exT_13, ↓exT_14, ↓exT_15, ↓exT_16, ↓exT_17, ↓exT_18, ↓exT_19, ↓exT_20, ↓exT_21, ↓exT_22, ↓exT_23, ↓exT_24, ↓exT_25, ↓exT_26, ↓exT_27, ↓exT_28, ↓exT_29, ↓exF_0, ↓exF_1, ↓exF_2, ↓exF_3, ↓exF_4, ↓exF_5, ↓exF_6, ↓exF_7, ↓exF_8, ↓exF_9, ↓exF_10, ↓exF_11, ↓exF_12, ↓exF_13, ↓exF_14, ↓exF_15, ↓exF_16, ↓exF_17, ↓exF_18, ↓exF_19, ↓exF_20, ↓exF_21, ↓exF_22, ↓exF_23, ↓exF_24, ↓exF_25, ↓exF_26, ↓exF_27, ↓exF_28, ↓exF_29, ↓tgt_tn, ↓tgt_tc, ↓wS_skip, ↓wS_seqL, ↓later_at, ↓wS_asg_var, ↓wS_asg_lit, ↓wS_asg_bin, ↓wS_asg_neg, ↓wS_asg_nott, ↓wS_asg_cmp, ↓wS_asg_chain, ↓wS_asg_andd, ↓wS_asg_orr, ↓wS_asg_ife, ↓wS_asg_tup, ↓wS_asg_lst, ↓wS_asg_idx, ↓wS_asg_slc, ↓wS_asg_fld, ↓wS_asg_call, ↓wS_asg_meth, ↓wS_asg_new, ↓wS_asg_blt, ↓wS_asg_isty, ↓wS_asg_iscl, ↓wS_asg_exis, ↓wS_asg_exfl, ↓wS_asg_dnew, ↓wS_asg_dget, ↓wS_asg_din, ↓wS_asg_nil, ↓wS_asg_comp, ↓wS_asg_compF, ↓nxK_at, ↓wS_asgF, ↓wS_asgI, ↓wS_asgD, ↓wS_augN, ↓wS_augI, ↓wS_parL, ↓wS_expr, ↓wS_bm, ↓wS_ret, ↓wS_retN, ↓wS_ite, ↓wFor_cons, ↓wFor_nil, ↓wS_for, ↓wS_brk, ↓wS_cnt, ↓wS_raise, ↓wS_tri, ↓wH_nil, ↓wH_cons0, ↓wH_cons1, ↓tyIs_ref, ↓opBm_appendL, ↓setIL, ↓isL_ref, ↓ob_add, ↓ob_adds, ↓ob_addt, ↓ob_addl, ↓ob_addrl, ↓ob_addlr, ↓ob_addrr, ↓ob_addM, ↓ob_sub, ↓ob_mul, ↓ob_mull, ↓ob_mulM, ↓ob_fdiv, ↓ob_mod, ↓ob_pow, ↓oi_abs, ↓oi_lent, ↓oi_lens, ↓oi_lenr, ↓oi_sortedr, ↓oi_sortedMr, ↓oi_tupler, ↓oi_listr, ↓oi_listMr, ↓oi_sumr, ↓oi_anyr, ↓oi_allr, ↓oi_mxr, ↓oi_mnr, ↓oi_lenl, ↓oi_sortedl, ↓oi_sortedMl, ↓oi_tuplel, ↓oi_listl, ↓oi_listMl, ↓oi_suml, ↓oi_anyl, ↓oi_alll, ↓oi_mxl, ↓oi_mnl, ↓oi_mxt, ↓oi_mnt, ↓oi_max2, ↓oi_min2, ↓oi_int, ↓oi_intb, ↓oi_tuplet, ↓oi_listt, ↓oi_listMt, ↓oi_str, ↓oi_divmod, ↓tru_non, ↓tru_bl, ↓tru_int, ↓tru_str, ↓tru_tup, ↓tru_ref, ↓tru_sl, ↓tyIs_non, ↓tyIs_bl, ↓tyIs_int, ↓tyIs_str, ↓tyIs_tup, ↓tyIs_sl, ↓it_t, ↓it_sr, ↓it_er, ↓it_vr, ↓it_sl, ↓it_el, ↓it_vl, ↓it_z, ↓it_1, ↓it_2, ↓it_3, ↓ltI_i, ↓tl_i, ↓optI_i, ↓osl_t, ↓osl_s, ↓osl_l, ↓osl_r, ↓osl_lM, ↓osl_rM, ↓sq_t, ↓sq_l, ↓getI_i, ↓opIx_tup, ↓opIx_ref, ↓opIx_sl, ↓atQ_0, ↓atQ_1, ↓atQ_2, ↓atQ_3, ↓getL_put, ↓getL_put_ne, ↓getL_put_ne', ↓getL_sl, ↓opC_eq_int, ↓opC_ne_int, ↓opC_eq_bl, ↓opC_ne_bl, ↓opC_eq_t2, ↓opC_ne_t2, ↓opC_eq_t3, ↓opC_ne_t3, ↓opC_eq_t32, ↓opC_ne_t32, ↓opC_lt, ↓opC_le, ↓opC_gt, ↓opC_ge, ↓opC_ne_nil, ↓opC_eq_nil, ↓opC_is, ↓opC_isnot, ↓opC_isb, ↓opC_isnb, ↓opC_isi, ↓opC_isni, ↓opC_ist, ↓opC_isnt, ↓opC_iso, ↓opC_isno, ↓opC_in, ↓opC_notin, ↓finpu_rt, ↓finpu_nx, ↓finpu_ex, ↓finlaw_rt, ↓finlaw_nx, ↓finlaw_ex, ↓finV_rt, ↓finV_nx, ↓finV_ex, ↓finE_rt, ↓finO_rt, ↓finO_ex, ↓finE_ex, ↓finS_rt, ↓finS_ex, ↓finR_ex, ↓finX_rt, ↓finX_nx, ↓finX_ex, put_none, put_put, Val.isNon, intsOf, atI_0, atI_1, atI_2, atI_3, cutG_to, cutG_from, sub_refl_iff, pu_pre, puV_pre, puE_pre, puO_pre, puS_pre, puR_pre, Option.some.injEq, exists_eq_left', exists_eq_left, exists_eq, exists_eq', Val.int.injEq, Val.bl.injEq, Val.str.injEq, Val.tup.injEq, Val.ref.injEq, List.cons.injEq, List.map_cons, List.map_nil, List.length_cons, List.length_nil, List.cons_append, List.nil_append, List.append_nil, Bool.false_eq_true, if_true, if_false, ite_true, ite_false, true_and, and_true, false_and, and_false, Bool.not_true, Bool.not_false, decide_eq_true_eq, bne_iff_ne, ne_eq, beq_iff_eq, put_same, imp_false, false_implies, implies_true, reduceCtorEq, not_false_eq_true, and_self, Bool.or_false, Bool.or_true, Bool.false_or, Bool.true_or, Bool.not_eq_true, Bool.not_eq_eq_eq_not, Bool.decide_eq_false, decide_eq_false_iff_not, Bool.not_eq_true', beq_eq_false_iff_ne, bne_eq_false_iff_eq, List.isEmpty_cons, List.isEmpty_nil, Int.reduceEq, Int.reduceNe, Int.reduceLT, Int.reduceLE, Int.reduceNeg, Int.reduceAdd, Int.reduceSub, Int.reduceMul, Int.reduceToNat, Nat.reduceLT, Nat.reduceLeDiff, Nat.reducePow, Nat.reduceAdd, Nat.reduceSub, ty_bool_bool, ty_bool_int, ty_bool_tuple, ty_bool_list, ty_bool_str, ty_int_bool, ty_int_int, ty_int_tuple, ty_int_list, ty_int_str, ty_tuple_bool, ty_tuple_int, ty_tuple_tuple, ty_tuple_list, ty_tuple_str, ty_list_bool, ty_list_int, ty_list_tuple, ty_list_list, ty_list_str, ty_str_bool, ty_str_int, ty_str_tuple, ty_str_list, ty_str_str, List.set_cons_succ, List.set_cons_zero, wipeE, puX_pre, exn_inj, Nat.reduceEqDiff, List.zip_nil_left, Nat.le_refl, Nat.reduceLeDiff]
  split
  · rename_i hx1
    refine ⟨by omega, (y.fmod x).natAbs, natAbs_fmod_lt y (by omega), y.fmod x, x, rfl, fmod_lo y (by omega), hx, rfl, ?_⟩
    rw [Int.gcd_comm, gcd_fmod, Int.gcd_comm]
    exact hg
  · rename_i hx1
    have e : x = 0 := by omega
    subst e
    rw [← hg, Int.gcd_comm, Int.gcd_zero_right]
    omega
theorem w__law_reduced : ∀ as S, (sp__law_reduced as S).pre → wS T__law_reduced s__law_reduced (startE C__law_reduced.N as) S (fin (sp__law_reduced as S)) := by
  intro as S h
  unfold sp__law_reduced at h ⊢
  split at h
  rotate_left
  · exact h.elim
  rename_i a b
  change wS T__law_reduced s__law_reduced [some (.int a), some (.int b), none, none] S _
  unfold s__law_reduced
  simp only [↓wE_lit, ↓wE_bin, ↓wE_neg, ↓wE_nott, ↓wE_cmp, ↓wE_chain, ↓wE_andd, ↓wE_orr, ↓wE_ife, ↓wE_nil, ↓wE_cons, ↓wE_tup, ↓wE_lst, ↓wE_idx, ↓wE_slc, ↓wE_fld, ↓wE_meth, ↓wE_new, ↓wE_sup, ↓wE_blt, ↓wE_isty, ↓wE_iscl, ↓wE_dnew, ↓wE_dget, ↓wE_din, ↓wE_dget2, ↓wE_sm, ↓wT_cmp, ↓wT_chain, ↓wT_nott, ↓wT_andd, ↓wT_orr, ↓wT_ife, ↓wT_lit, ↓wT_idx, ↓wT_bin, ↓wT_meth, ↓wT_blt, ↓wT_isty, ↓wT_iscl, ↓wT_fld, ↓wT_din, ↓wT_dget, ↓wT_sm, ↓wT_neg, ↓wT_nil, ↓wT_cons, ↓wT_tup, ↓wT_lst, ↓wT_slc, ↓wT_new, ↓wT_comp, ↓wT_sup, ↓wT_dnew, ↓wT_dget2, ↓wT_dpop, ↓wT_clo, ↓wT_ccall, ↓wA_nil, ↓wA_cons, ↓wO_nil, ↓wO_cons, ↓wE_compK, ↓wE_compF, ↓wE_call0, ↓wT_call0, ↓wE_v0, ↓wE_v1, ↓wE_v2, ↓wE_v3, ↓wE_v4, ↓wE_v5, ↓wE_v6, ↓wE_v7, ↓wE_v8, ↓wE_v9, ↓wE_v10, ↓wE_v11, ↓wE_v12, ↓wE_v13, ↓wE_v14, ↓wE_v15, ↓wE_v16, ↓wE_v17, ↓wE_v18, ↓wE_v19, ↓wE_v20, ↓wE_v21, ↓wE_v22, ↓wE_v23, ↓wE_v24, ↓wE_v25, ↓wE_v26, ↓wE_v27, ↓wE_v28, ↓wE_v29, ↓wT_v0, ↓wT_v1, ↓wT_v2, ↓wT_v3, ↓wT_v4, ↓wT_v5, ↓wT_v6, ↓wT_v7, ↓wT_v8, ↓wT_v9, ↓wT_v10, ↓wT_v11, ↓wT_v12, ↓wT_v13, ↓wT_v14, ↓wT_v15, ↓wT_v16, ↓wT_v17, ↓wT_v18, ↓wT_v19, ↓wT_v20, ↓wT_v21, ↓wT_v22, ↓wT_v23, ↓wT_v24, ↓wT_v25, ↓wT_v26, ↓wT_v27, ↓wT_v28, ↓wT_v29, ↓tgt_0, ↓tgt_1, ↓tgt_2, ↓tgt_3, ↓tgt_4, ↓tgt_5, ↓tgt_6, ↓tgt_7, ↓tgt_8, ↓tgt_9, ↓tgt_10, ↓tgt_11, ↓tgt_12, ↓tgt_13, ↓tgt_14, ↓tgt_15, ↓tgt_16, ↓tgt_17, ↓tgt_18, ↓tgt_19, ↓tgt_20, ↓tgt_21, ↓tgt_22, ↓tgt_23, ↓tgt_24, ↓tgt_25, ↓tgt_26, ↓tgt_27, ↓tgt_28, ↓tgt_29, ↓exI_0, ↓exI_1, ↓exI_2, ↓exI_3, ↓exI_4, ↓exI_5, ↓exI_6, ↓exI_7, ↓exI_8, ↓exI_9, ↓exI_10, ↓exI_11, ↓exI_12, ↓exI_13, ↓exI_14, ↓exI_15, ↓exI_16, ↓exI_17, ↓exI_18, ↓exI_19, ↓exI_20, ↓exI_21, ↓exI_22, ↓exI_23, ↓exI_24, ↓exI_25, ↓exI_26, ↓exI_27, ↓exI_28, ↓exI_29, ↓exT_0, ↓exT_1, ↓exT_2, ↓exT_3, ↓exT_4, ↓exT_5, ↓exT_6, ↓exT_7, ↓exT_8, ↓exT_9, ↓exT_10, ↓exT_11, ↓exT_12, ↓exT_13, ↓exT_14, ↓exT_15, ↓exT_16, ↓exT_17, ↓exT_18, ↓exT_19, ↓exT_20, ↓exT_21, ↓exT_22, ↓exT_23, ↓exT_24, ↓exT_25, ↓exT_26, ↓exT_27, ↓exT_28, ↓exT_29, ↓exF_0, ↓exF_1, ↓exF_2, ↓exF_3, ↓exF_4, ↓exF_5, ↓exF_6, ↓exF_7, ↓exF_8, ↓exF_9, ↓exF_10, ↓exF_11, ↓exF_12, ↓exF_13, ↓exF_14, ↓exF_15, ↓exF_16, ↓exF_17, ↓exF_18, ↓exF_19, ↓exF_20, ↓exF_21, ↓exF_22, ↓exF_23, ↓exF_24, ↓exF_25, ↓exF_26, ↓exF_27, ↓exF_28, ↓exF_29, ↓tgt_tn, ↓tgt_tc, ↓wS_skip, ↓wS_seqL, ↓later_at, ↓wS_asg_var, ↓wS_asg_lit, ↓wS_asg_bin, ↓wS_asg_neg, ↓wS_asg_nott, ↓wS_asg_cmp, ↓wS_asg_chain, ↓wS_asg_andd, ↓wS_asg_orr, ↓wS_asg_ife, ↓wS_asg_tup, ↓wS_asg_lst, ↓wS_asg_idx, ↓wS_asg_slc, ↓wS_asg_fld, ↓wS_asg_call, ↓wS_asg_meth, ↓wS_asg_new, ↓wS_asg_blt, ↓wS_asg_isty, ↓wS_asg_iscl, ↓wS_asg_exis, ↓wS_asg_exfl, ↓wS_asg_dnew, ↓wS_asg_dget, ↓wS_asg_din, ↓wS_asg_nil, ↓wS_asg_comp, ↓wS_asg_compF, ↓nxK_at, ↓wS_asgF, ↓wS_asgI, ↓wS_asgD, ↓wS_augN, ↓wS_augI, ↓wS_parL, ↓wS_expr, ↓wS_bm, ↓wS_ret, ↓wS_retN, ↓wS_ite, ↓wFor_cons, ↓wFor_nil, ↓wS_for, ↓wS_brk, ↓wS_cnt, ↓wS_raise, ↓wS_tri, ↓wH_nil, ↓wH_cons0, ↓wH_cons1, ↓tyIs_ref, ↓opBm_appendL, ↓setIL, ↓isL_ref, ↓ob_add, ↓ob_adds, ↓ob_addt, ↓ob_addl, ↓ob_addrl, ↓ob_addlr, ↓ob_addrr, ↓ob_addM, ↓ob_sub, ↓ob_mul, ↓ob_mull, ↓ob_mulM, ↓ob_fdiv, ↓ob_mod, ↓ob_pow, ↓oi_abs, ↓oi_lent, ↓oi_lens, ↓oi_lenr, ↓oi_sortedr, ↓oi_sortedMr, ↓oi_tupler, ↓oi_listr, ↓oi_listMr, ↓oi_sumr, ↓oi_anyr, ↓oi_allr, ↓oi_mxr, ↓oi_mnr, ↓oi_lenl, ↓oi_sortedl, ↓oi_sortedMl, ↓oi_tuplel, ↓oi_listl, ↓oi_listMl, ↓oi_suml, ↓oi_anyl, ↓oi_alll, ↓oi_mxl, ↓oi_mnl, ↓oi_mxt, ↓oi_mnt, ↓oi_max2, ↓oi_min2, ↓oi_int, ↓oi_intb, ↓oi_tuplet, ↓oi_listt, ↓oi_listMt, ↓oi_str, ↓oi_divmod, ↓tru_non, ↓tru_bl, ↓tru_int, ↓tru_str, ↓tru_tup, ↓tru_ref, ↓tru_sl, ↓tyIs_non, ↓tyIs_bl, ↓tyIs_int, ↓tyIs_str, ↓tyIs_tup, ↓tyIs_sl, ↓it_t, ↓it_sr, ↓it_er, ↓it_vr, ↓it_sl, ↓it_el, ↓it_vl, ↓it_z, ↓it_1, ↓it_2, ↓it_3, ↓ltI_i, ↓tl_i, ↓optI_i, ↓osl_t, ↓osl_s, ↓osl_l, ↓osl_r, ↓osl_lM, ↓osl_rM, ↓sq_t, ↓sq_l, ↓getI_i, ↓opIx_tup, ↓opIx_ref, ↓opIx_sl, ↓atQ_0, ↓atQ_1, ↓atQ_2, ↓atQ_3, ↓getL_put, ↓getL_put_ne, ↓getL_put_ne', ↓getL_sl, ↓opC_eq_int, ↓opC_ne_int, ↓opC_eq_bl, ↓opC_ne_bl, ↓opC_eq_t2, ↓opC_ne_t2, ↓opC_eq_t3, ↓opC_ne_t3, ↓opC_eq_t32, ↓opC_ne_t32, ↓opC_lt, ↓opC_le, ↓opC_gt, ↓opC_ge, ↓opC_ne_nil, ↓opC_eq_nil, ↓opC_is, ↓opC_isnot, ↓opC_isb, ↓opC_isnb, ↓opC_isi, ↓opC_isni, ↓opC_ist, ↓opC_isnt, ↓opC_iso, ↓opC_isno, ↓opC_in, ↓opC_notin, ↓finpu_rt, ↓finpu_nx, ↓finpu_ex, ↓finlaw_rt, ↓finlaw_nx, ↓finlaw_ex, ↓finV_rt, ↓finV_nx, ↓finV_ex, ↓finE_rt, ↓finO_rt, ↓finO_ex, ↓finE_ex, ↓finS_rt, ↓finS_ex, ↓finR_ex, ↓finX_rt, ↓finX_nx, ↓finX_ex, put_none, put_put, Val.isNon, intsOf, atI_0, atI_1, atI_2, atI_3, cutG_to, cutG_from, sub_refl_iff, pu_pre, puV_pre, puE_pre, puO_pre, puS_pre, puR_pre, Option.some.injEq, exists_eq_left', exists_eq_left, exists_eq, exists_eq', Val.int.injEq, Val.bl.injEq, Val.str.injEq, Val.tup.injEq, Val.ref.injEq, List.cons.injEq, List.map_cons, List.map_nil, List.length_cons, List.length_nil, List.cons_append, List.nil_append, List.append_nil, Bool.false_eq_true, if_true, if_false, ite_true, ite_false, true_and, and_true, false_and, and_false, Bool.not_true, Bool.not_false, decide_eq_true_eq, bne_iff_ne, ne_eq, beq_iff_eq, put_same, imp_false, false_implies, implies_true, reduceCtorEq, not_false_eq_true, and_self, Bool.or_false, Bool.or_true, Bool.false_or, Bool.true_or, Bool.not_eq_true, Bool.not_eq_eq_eq_not, Bool.decide_eq_false, decide_eq_false_iff_not, Bool.not_eq_true', beq_eq_false_iff_ne, bne_eq_false_iff_eq, List.isEmpty_cons, List.isEmpty_nil, Int.reduceEq, Int.reduceNe, Int.reduceLT, Int.reduceLE, Int.reduceNeg, Int.reduceAdd, Int.reduceSub, Int.reduceMul, Int.reduceToNat, Nat.reduceLT, Nat.reduceLeDiff, Nat.reducePow, Nat.reduceAdd, Nat.reduceSub, ty_bool_bool, ty_bool_int, ty_bool_tuple, ty_bool_list, ty_bool_str, ty_int_bool, ty_int_int, ty_int_tuple, ty_int_list, ty_int_str, ty_tuple_bool, ty_tuple_int, ty_tuple_tuple, ty_tuple_list, ty_tuple_str, ty_list_bool, ty_list_int, ty_list_tuple, ty_list_list, ty_list_str, ty_str_bool, ty_str_int, ty_str_tuple, ty_str_list, ty_str_str, List.set_cons_succ, List.set_cons_zero, wipeE, puX_pre, exn_inj, Nat.reduceEqDiff, List.zip_nil_left, Nat.le_refl, Nat.reduceLeDiff, ↓call__law_measure (T0 := T__law_reduced) rfl, ck_0_18, ck_1_18, is_0_18, is_1_18]
  obtain ⟨hn, ha, hb⟩ := h
  have hg : 0 < Int.gcd b a := Nat.pos_of_ne_zero fun h => hn ⟨(Int.gcd_eq_zero_iff.mp h).2, (Int.gcd_eq_zero_iff.mp h).1⟩
  have hgl := gcd_log' hb ha
  refine frz_map (fun x => match x with | .int z => .int (z.fdiv ↑(Int.gcd b a)) | v => v) (fun _ _ => trivial) (by simp [LIM]) ?_ ?_
  · intro x hx S' hk K hK
    obtain ⟨z, rfl⟩ : ∃ z, x = .int z := by
      simp only [List.mem_cons, List.not_mem_nil, or_false] at hx
      rcases hx with rfl | rfl
      · exact ⟨_, rfl⟩
      · exact ⟨_, rfl⟩
    simp only [↓wE_lit, ↓wE_bin, ↓wE_neg, ↓wE_nott, ↓wE_cmp, ↓wE_chain, ↓wE_andd, ↓wE_orr, ↓wE_ife, ↓wE_nil, ↓wE_cons, ↓wE_tup, ↓wE_lst, ↓wE_idx, ↓wE_slc, ↓wE_fld, ↓wE_meth, ↓wE_new, ↓wE_sup, ↓wE_blt, ↓wE_isty, ↓wE_iscl, ↓wE_dnew, ↓wE_dget, ↓wE_din, ↓wE_dget2, ↓wE_sm, ↓wT_cmp, ↓wT_chain, ↓wT_nott, ↓wT_andd, ↓wT_orr, ↓wT_ife, ↓wT_lit, ↓wT_idx, ↓wT_bin, ↓wT_meth, ↓wT_blt, ↓wT_isty, ↓wT_iscl, ↓wT_fld, ↓wT_din, ↓wT_dget, ↓wT_sm, ↓wT_neg, ↓wT_nil, ↓wT_cons, ↓wT_tup, ↓wT_lst, ↓wT_slc, ↓wT_new, ↓wT_comp, ↓wT_sup, ↓wT_dnew, ↓wT_dget2, ↓wT_dpop, ↓wT_clo, ↓wT_ccall, ↓wA_nil, ↓wA_cons, ↓wO_nil, ↓wO_cons, ↓wE_compK, ↓wE_compF, ↓wE_call0, ↓wT_call0, ↓wE_v0, ↓wE_v1, ↓wE_v2, ↓wE_v3, ↓wE_v4, ↓wE_v5, ↓wE_v6, ↓wE_v7, ↓wE_v8, ↓wE_v9, ↓wE_v10, ↓wE_v11, ↓wE_v12, ↓wE_v13, ↓wE_v14, ↓wE_v15, ↓wE_v16, ↓wE_v17, ↓wE_v18, ↓wE_v19, ↓wE_v20, ↓wE_v21, ↓wE_v22, ↓wE_v23, ↓wE_v24, ↓wE_v25, ↓wE_v26, ↓wE_v27, ↓wE_v28, ↓wE_v29, ↓wT_v0, ↓wT_v1, ↓wT_v2, ↓wT_v3, ↓wT_v4, ↓wT_v5, ↓wT_v6, ↓wT_v7, ↓wT_v8, ↓wT_v9, ↓wT_v10, ↓wT_v11, ↓wT_v12, ↓wT_v13, ↓wT_v14, ↓wT_v15, ↓wT_v16, ↓wT_v17, ↓wT_v18, ↓wT_v19, ↓wT_v20, ↓wT_v21, ↓wT_v22, ↓wT_v23, ↓wT_v24, ↓wT_v25, ↓wT_v26, ↓wT_v27, ↓wT_v28, ↓wT_v29, ↓tgt_0, ↓tgt_1, ↓tgt_2, ↓tgt_3, ↓tgt_4, ↓tgt_5, ↓tgt_6, ↓tgt_7, ↓tgt_8, ↓tgt_9, ↓tgt_10, ↓tgt_11, ↓tgt_12, ↓tgt_13, ↓tgt_14, ↓tgt_15, ↓tgt_16, ↓tgt_17, ↓tgt_18, ↓tgt_19, ↓tgt_20, ↓tgt_21, ↓tgt_22, ↓tgt_23, ↓tgt_24, ↓tgt_25, ↓tgt_26, ↓tgt_27, ↓tgt_28, ↓tgt_29, ↓exI_0, ↓exI_1, ↓exI_2, ↓exI_3, ↓exI_4, ↓exI_5, ↓exI_6, ↓exI_7, ↓exI_8, ↓exI_9, ↓exI_10, ↓exI_11, ↓exI_12, ↓exI_13, ↓exI_14, ↓exI_15, ↓exI_16, ↓exI_17, ↓exI_18, ↓exI_19, ↓exI_20, ↓exI_21, ↓exI_22, ↓exI_23, ↓exI_24, ↓exI_25, ↓exI_26, ↓exI_27, ↓exI_28, ↓exI_29, ↓exT_0, ↓exT_1, ↓exT_2, ↓exT_3, ↓exT_4, ↓exT_5, ↓exT_6, ↓exT_7, ↓exT_8, ↓exT_9, ↓exT_10, ↓exT_11, ↓exT_12, ↓exT_13, ↓exT_14, ↓exT_15, ↓exT_16, ↓exT_17, ↓exT_18, ↓exT_19, ↓exT_20, ↓exT_21, ↓exT_22, ↓exT_23, ↓exT_24, ↓exT_25, ↓exT_26, ↓exT_27, ↓exT_28, ↓exT_29, ↓exF_0, ↓exF_1, ↓exF_2, ↓exF_3, ↓exF_4, ↓exF_5, ↓exF_6, ↓exF_7, ↓exF_8, ↓exF_9, ↓exF_10, ↓exF_11, ↓exF_12, ↓exF_13, ↓exF_14, ↓exF_15, ↓exF_16, ↓exF_17, ↓exF_18, ↓exF_19, ↓exF_20, ↓exF_21, ↓exF_22, ↓exF_23, ↓exF_24, ↓exF_25, ↓exF_26, ↓exF_27, ↓exF_28, ↓exF_29, ↓tgt_tn, ↓tgt_tc, ↓wS_skip, ↓wS_seqL, ↓later_at, ↓wS_asg_var, ↓wS_asg_lit, ↓wS_asg_bin, ↓wS_asg_neg, ↓wS_asg_nott, ↓wS_asg_cmp, ↓wS_asg_chain, ↓wS_asg_andd, ↓wS_asg_orr, ↓wS_asg_ife, ↓wS_asg_tup, ↓wS_asg_lst, ↓wS_asg_idx, ↓wS_asg_slc, ↓wS_asg_fld, ↓wS_asg_call, ↓wS_asg_meth, ↓wS_asg_new, ↓wS_asg_blt, ↓wS_asg_isty, ↓wS_asg_iscl, ↓wS_asg_exis, ↓wS_asg_exfl, ↓wS_asg_dnew, ↓wS_asg_dget, ↓wS_asg_din, ↓wS_asg_nil, ↓wS_asg_comp, ↓wS_asg_compF, ↓nxK_at, ↓wS_asgF, ↓wS_asgI, ↓wS_asgD, ↓wS_augN, ↓wS_augI, ↓wS_parL, ↓wS_expr, ↓wS_bm, ↓wS_ret, ↓wS_retN, ↓wS_ite, ↓wFor_cons, ↓wFor_nil, ↓wS_for, ↓wS_brk, ↓wS_cnt, ↓wS_raise, ↓wS_tri, ↓wH_nil, ↓wH_cons0, ↓wH_cons1, ↓tyIs_ref, ↓opBm_appendL, ↓setIL, ↓isL_ref, ↓ob_add, ↓ob_adds, ↓ob_addt, ↓ob_addl, ↓ob_addrl, ↓ob_addlr, ↓ob_addrr, ↓ob_addM, ↓ob_sub, ↓ob_mul, ↓ob_mull, ↓ob_mulM, ↓ob_fdiv, ↓ob_mod, ↓ob_pow, ↓oi_abs, ↓oi_lent, ↓oi_lens, ↓oi_lenr, ↓oi_sortedr, ↓oi_sortedMr, ↓oi_tupler, ↓oi_listr, ↓oi_listMr, ↓oi_sumr, ↓oi_anyr, ↓oi_allr, ↓oi_mxr, ↓oi_mnr, ↓oi_lenl, ↓oi_sortedl, ↓oi_sortedMl, ↓oi_tuplel, ↓oi_listl, ↓oi_listMl, ↓oi_suml, ↓oi_anyl, ↓oi_alll, ↓oi_mxl, ↓oi_mnl, ↓oi_mxt, ↓oi_mnt, ↓oi_max2, ↓oi_min2, ↓oi_int, ↓oi_intb, ↓oi_tuplet, ↓oi_listt, ↓oi_listMt, ↓oi_str, ↓oi_divmod, ↓tru_non, ↓tru_bl, ↓tru_int, ↓tru_str, ↓tru_tup, ↓tru_ref, ↓tru_sl, ↓tyIs_non, ↓tyIs_bl, ↓tyIs_int, ↓tyIs_str, ↓tyIs_tup, ↓tyIs_sl, ↓it_t, ↓it_sr, ↓it_er, ↓it_vr, ↓it_sl, ↓it_el, ↓it_vl, ↓it_z, ↓it_1, ↓it_2, ↓it_3, ↓ltI_i, ↓tl_i, ↓optI_i, ↓osl_t, ↓osl_s, ↓osl_l, ↓osl_r, ↓osl_lM, ↓osl_rM, ↓sq_t, ↓sq_l, ↓getI_i, ↓opIx_tup, ↓opIx_ref, ↓opIx_sl, ↓atQ_0, ↓atQ_1, ↓atQ_2, ↓atQ_3, ↓getL_put, ↓getL_put_ne, ↓getL_put_ne', ↓getL_sl, ↓opC_eq_int, ↓opC_ne_int, ↓opC_eq_bl, ↓opC_ne_bl, ↓opC_eq_t2, ↓opC_ne_t2, ↓opC_eq_t3, ↓opC_ne_t3, ↓opC_eq_t32, ↓opC_ne_t32, ↓opC_lt, ↓opC_le, ↓opC_gt, ↓opC_ge, ↓opC_ne_nil, ↓opC_eq_nil, ↓opC_is, ↓opC_isnot, ↓opC_isb, ↓opC_isnb, ↓opC_isi, ↓opC_isni, ↓opC_ist, ↓opC_isnt, ↓opC_iso, ↓opC_isno, ↓opC_in, ↓opC_notin, ↓finpu_rt, ↓finpu_nx, ↓finpu_ex, ↓finlaw_rt, ↓finlaw_nx, ↓finlaw_ex, ↓finV_rt, ↓finV_nx, ↓finV_ex, ↓finE_rt, ↓finO_rt, ↓finO_ex, ↓finE_ex, ↓finS_rt, ↓finS_ex, ↓finR_ex, ↓finX_rt, ↓finX_nx, ↓finX_ex, put_none, put_put, Val.isNon, intsOf, atI_0, atI_1, atI_2, atI_3, cutG_to, cutG_from, sub_refl_iff, pu_pre, puV_pre, puE_pre, puO_pre, puS_pre, puR_pre, Option.some.injEq, exists_eq_left', exists_eq_left, exists_eq, exists_eq', Val.int.injEq, Val.bl.injEq, Val.str.injEq, Val.tup.injEq, Val.ref.injEq, List.cons.injEq, List.map_cons, List.map_nil, List.length_cons, List.length_nil, List.cons_append, List.nil_append, List.append_nil, Bool.false_eq_true, if_true, if_false, ite_true, ite_false, true_and, and_true, false_and, and_false, Bool.not_true, Bool.not_false, decide_eq_true_eq, bne_iff_ne, ne_eq, beq_iff_eq, put_same, imp_false, false_implies, implies_true, reduceCtorEq, not_false_eq_true, and_self, Bool.or_false, Bool.or_true, Bool.false_or, Bool.true_or, Bool.not_eq_true, Bool.not_eq_eq_eq_not, Bool.decide_eq_false, decide_eq_false_iff_not, Bool.not_eq_true', beq_eq_false_iff_ne, bne_eq_false_iff_eq, List.isEmpty_cons, List.isEmpty_nil, Int.reduceEq, Int.reduceNe, Int.reduceLT, Int.reduceLE, Int.reduceNeg, Int.reduceAdd, Int.reduceSub, Int.reduceMul, Int.reduceToNat, Nat.reduceLT, Nat.reduceLeDiff, Nat.reducePow, Nat.reduceAdd, Nat.reduceSub, ty_bool_bool, ty_bool_int, ty_bool_tuple, ty_bool_list, ty_bool_str, ty_int_bool, ty_int_int, ty_int_tuple, ty_int_list, ty_int_str, ty_tuple_bool, ty_tuple_int, ty_tuple_tuple, ty_tuple_list, ty_tuple_str, ty_list_bool, ty_list_int, ty_list_tuple, ty_list_list, ty_list_str, ty_str_bool, ty_str_int, ty_str_tuple, ty_str_list, ty_str_str, List.set_cons_succ, List.set_cons_zero, wipeE, puX_pre, exn_inj, Nat.reduceEqDiff, List.zip_nil_left, Nat.le_refl, Nat.reduceLeDiff]
    exact ⟨⟨by omega, by omega⟩, hK⟩
  · simp only [↓wE_lit, ↓wE_bin, ↓wE_neg, ↓wE_nott, ↓wE_cmp, ↓wE_chain, ↓wE_andd, ↓wE_orr, ↓wE_ife, ↓wE_nil, ↓wE_cons, ↓wE_tup, ↓wE_lst, ↓wE_idx, ↓wE_slc, ↓wE_fld, ↓wE_meth, ↓wE_new, ↓wE_sup, ↓wE_blt, ↓wE_isty, ↓wE_iscl, ↓wE_dnew, ↓wE_dget, ↓wE_din, ↓wE_dget2, ↓wE_sm, ↓wT_cmp, ↓wT_chain, ↓wT_nott, ↓wT_andd, ↓wT_orr, ↓wT_ife, ↓wT_lit, ↓wT_idx, ↓wT_bin, ↓wT_meth, ↓wT_blt, ↓wT_isty, ↓wT_iscl, ↓wT_fld, ↓wT_din, ↓wT_dget, ↓wT_sm, ↓wT_neg, ↓wT_nil, ↓wT_cons, ↓wT_tup, ↓wT_lst, ↓wT_slc, ↓wT_new, ↓wT_comp, ↓wT_sup, ↓wT_dnew, ↓wT_dget2, ↓wT_dpop, ↓wT_clo, ↓wT_ccall, ↓wA_nil, ↓wA_cons, ↓wO_nil, ↓wO_cons, ↓wE_compK, ↓wE_compF, ↓wE_call0, ↓wT_call0, ↓wE_v0, ↓wE_v1, ↓wE_v2, ↓wE_v3, ↓wE_v4, ↓wE_v5, ↓wE_v6, ↓wE_v7, ↓wE_v8, ↓wE_v9, ↓wE_v10, ↓wE_v11, ↓wE_v12, ↓wE_v13, ↓wE_v14, ↓wE_v15, ↓wE_v16, ↓wE_v17, ↓wE_v18, ↓wE_v19, ↓wE_v20, ↓wE_v21, ↓wE_v22, ↓wE_v23, ↓wE_v24, ↓wE_v25, ↓wE_v26, ↓wE_v27, ↓wE_v28, ↓wE_v29, ↓wT_v0, ↓wT_v1, ↓wT_v2, ↓wT_v3, ↓wT_v4, ↓wT_v5, ↓wT_v6, ↓wT_v7, ↓wT_v8, ↓wT_v9, ↓wT_v10, ↓wT_v11, ↓wT_v12, ↓wT_v13, ↓wT_v14, ↓wT_v15, ↓wT_v16, ↓wT_v17, ↓wT_v18, ↓wT_v19, ↓wT_v20, ↓wT_v21, ↓wT_v22, ↓wT_v23, ↓wT_v24, ↓wT_v25, ↓wT_v26, ↓wT_v27, ↓wT_v28, ↓wT_v29, ↓tgt_0, ↓tgt_1, ↓tgt_2, ↓tgt_3, ↓tgt_4, ↓tgt_5, ↓tgt_6, ↓tgt_7, ↓tgt_8, ↓tgt_9, ↓tgt_10, ↓tgt_11, ↓tgt_12, ↓tgt_13, ↓tgt_14, ↓tgt_15, ↓tgt_16, ↓tgt_17, ↓tgt_18, ↓tgt_19, ↓tgt_20, ↓tgt_21, ↓tgt_22, ↓tgt_23, ↓tgt_24, ↓tgt_25, ↓tgt_26, ↓tgt_27, ↓tgt_28, ↓tgt_29, ↓exI_0, ↓exI_1, ↓exI_2, ↓exI_3, ↓exI_4, ↓exI_5, ↓exI_6, ↓exI_7, ↓exI_8, ↓exI_9, ↓exI_10, ↓exI_11, ↓exI_12, ↓exI_13, ↓exI_14, ↓exI_15, ↓exI_16, ↓exI_17, ↓exI_18, ↓exI_19, ↓exI_20, ↓exI_21, ↓exI_22, ↓exI_23, ↓exI_24, ↓exI_25, ↓exI_26, ↓exI_27, ↓exI_28, ↓exI_29, ↓exT_0, ↓exT_1, ↓exT_2, ↓exT_3, ↓exT_4, ↓exT_5, ↓exT_6, ↓exT_7, ↓exT_8, ↓exT_9, ↓exT_10, ↓exT_11, ↓exT_12, ↓exT_13, ↓exT_14, ↓exT_15, ↓exT_16, ↓exT_17, ↓exT_18, ↓exT_19, ↓exT_20, ↓exT_21, ↓exT_22, ↓exT_23, ↓exT_24, ↓exT_25, ↓exT_26, ↓exT_27, ↓exT_28, ↓exT_29, ↓exF_0, ↓exF_1, ↓exF_2, ↓exF_3, ↓exF_4, ↓exF_5, ↓exF_6, ↓exF_7, ↓exF_8, ↓exF_9, ↓exF_10, ↓exF_11, ↓exF_12, ↓exF_13, ↓exF_14, ↓exF_15, ↓exF_16, ↓exF_17, ↓exF_18, ↓exF_19, ↓exF_20, ↓exF_21, ↓exF_22, ↓exF_23, ↓exF_24, ↓exF_25, ↓exF_26, ↓exF_27, ↓exF_28, ↓exF_29, ↓tgt_tn, ↓tgt_tc, ↓wS_skip, ↓wS_seqL, ↓later_at, ↓wS_asg_var, ↓wS_asg_lit, ↓wS_asg_bin, ↓wS_asg_neg, ↓wS_asg_nott, ↓wS_asg_cmp, ↓wS_asg_chain, ↓wS_asg_andd, ↓wS_asg_orr, ↓wS_asg_ife, ↓wS_asg_tup, ↓wS_asg_lst, ↓wS_asg_idx, ↓wS_asg_slc, ↓wS_asg_fld, ↓wS_asg_call, ↓wS_asg_meth, ↓wS_asg_new, ↓wS_asg_blt, ↓wS_asg_isty, ↓wS_asg_iscl, ↓wS_asg_exis, ↓wS_asg_exfl, ↓wS_asg_dnew, ↓wS_asg_dget, ↓wS_asg_din, ↓wS_asg_nil, ↓wS_asg_comp, ↓wS_asg_compF, ↓nxK_at, ↓wS_asgF, ↓wS_asgI, ↓wS_asgD, ↓wS_augN, ↓wS_augI, ↓wS_parL, ↓wS_expr, ↓wS_bm, ↓wS_ret, ↓wS_retN, ↓wS_ite, ↓wFor_cons, ↓wFor_nil, ↓wS_for, ↓wS_brk, ↓wS_cnt, ↓wS_raise, ↓wS_tri, ↓wH_nil, ↓wH_cons0, ↓wH_cons1, ↓tyIs_ref, ↓opBm_appendL, ↓setIL, ↓isL_ref, ↓ob_add, ↓ob_adds, ↓ob_addt, ↓ob_addl, ↓ob_addrl, ↓ob_addlr, ↓ob_addrr, ↓ob_addM, ↓ob_sub, ↓ob_mul, ↓ob_mull, ↓ob_mulM, ↓ob_fdiv, ↓ob_mod, ↓ob_pow, ↓oi_abs, ↓oi_lent, ↓oi_lens, ↓oi_lenr, ↓oi_sortedr, ↓oi_sortedMr, ↓oi_tupler, ↓oi_listr, ↓oi_listMr, ↓oi_sumr, ↓oi_anyr, ↓oi_allr, ↓oi_mxr, ↓oi_mnr, ↓oi_lenl, ↓oi_sortedl, ↓oi_sortedMl, ↓oi_tuplel, ↓oi_listl, ↓oi_listMl, ↓oi_suml, ↓oi_anyl, ↓oi_alll, ↓oi_mxl, ↓oi_mnl, ↓oi_mxt, ↓oi_mnt, ↓oi_max2, ↓oi_min2, ↓oi_int, ↓oi_intb, ↓oi_tuplet, ↓oi_listt, ↓oi_listMt, ↓oi_str, ↓oi_divmod, ↓tru_non, ↓tru_bl, ↓tru_int, ↓tru_str, ↓tru_tup, ↓tru_ref, ↓tru_sl, ↓tyIs_non, ↓tyIs_bl, ↓tyIs_int, ↓tyIs_str, ↓tyIs_tup, ↓tyIs_sl, ↓it_t, ↓it_sr, ↓it_er, ↓it_vr, ↓it_sl, ↓it_el, ↓it_vl, ↓it_z, ↓it_1, ↓it_2, ↓it_3, ↓ltI_i, ↓tl_i, ↓optI_i, ↓osl_t, ↓osl_s, ↓osl_l, ↓osl_r, ↓osl_lM, ↓osl_rM, ↓sq_t, ↓sq_l, ↓getI_i, ↓opIx_tup, ↓opIx_ref, ↓opIx_sl, ↓atQ_0, ↓atQ_1, ↓atQ_2, ↓atQ_3, ↓getL_put, ↓getL_put_ne, ↓getL_put_ne', ↓getL_sl, ↓opC_eq_int, ↓opC_ne_int, ↓opC_eq_bl, ↓opC_ne_bl, ↓opC_eq_t2, ↓opC_ne_t2, ↓opC_eq_t3, ↓opC_ne_t3, ↓opC_eq_t32, ↓opC_ne_t32, ↓opC_lt, ↓opC_le, ↓opC_gt, ↓opC_ge, ↓opC_ne_nil, ↓opC_eq_nil, ↓opC_is, ↓opC_isnot, ↓opC_isb, ↓opC_isnb, ↓opC_isi, ↓opC_isni, ↓opC_ist, ↓opC_isnt, ↓opC_iso, ↓opC_isno, ↓opC_in, ↓opC_notin, ↓finpu_rt, ↓finpu_nx, ↓finpu_ex, ↓finlaw_rt, ↓finlaw_nx, ↓finlaw_ex, ↓finV_rt, ↓finV_nx, ↓finV_ex, ↓finE_rt, ↓finO_rt, ↓finO_ex, ↓finE_ex, ↓finS_rt, ↓finS_ex, ↓finR_ex, ↓finX_rt, ↓finX_nx, ↓finX_ex, put_none, put_put, Val.isNon, intsOf, atI_0, atI_1, atI_2, atI_3, cutG_to, cutG_from, sub_refl_iff, pu_pre, puV_pre, puE_pre, puO_pre, puS_pre, puR_pre, Option.some.injEq, exists_eq_left', exists_eq_left, exists_eq, exists_eq', Val.int.injEq, Val.bl.injEq, Val.str.injEq, Val.tup.injEq, Val.ref.injEq, List.cons.injEq, List.map_cons, List.map_nil, List.length_cons, List.length_nil, List.cons_append, List.nil_append, List.append_nil, Bool.false_eq_true, if_true, if_false, ite_true, ite_false, true_and, and_true, false_and, and_false, Bool.not_true, Bool.not_false, decide_eq_true_eq, bne_iff_ne, ne_eq, beq_iff_eq, put_same, imp_false, false_implies, implies_true, reduceCtorEq, not_false_eq_true, and_self, Bool.or_false, Bool.or_true, Bool.false_or, Bool.true_or, Bool.not_eq_true, Bool.not_eq_eq_eq_not, Bool.decide_eq_false, decide_eq_false_iff_not, Bool.not_eq_true', beq_eq_false_iff_ne, bne_eq_false_iff_eq, List.isEmpty_cons, List.isEmpty_nil, Int.reduceEq, Int.reduceNe, Int.reduceLT, Int.reduceLE, Int.reduceNeg, Int.reduceAdd, Int.reduceSub, Int.reduceMul, Int.reduceToNat, Nat.reduceLT, Nat.reduceLeDiff, Nat.reducePow, Nat.reduceAdd, Nat.reduceSub, ty_bool_bool, ty_bool_int, ty_bool_tuple, ty_bool_list, ty_bool_str, ty_int_bool, ty_int_int, ty_int_tuple, ty_int_list, ty_int_str, ty_tuple_bool, ty_tuple_int, ty_tuple_tuple, ty_tuple_list, ty_tuple_str, ty_list_bool, ty_list_int, ty_list_tuple, ty_list_list, ty_list_str, ty_str_bool, ty_str_int, ty_str_tuple, ty_str_list, ty_str_str, List.set_cons_succ, List.set_cons_zero, wipeE, puX_pre, exn_inj, Nat.reduceEqDiff, List.zip_nil_left, Nat.le_refl, Nat.reduceLeDiff]
theorem w__law_point : ∀ as S, (sp__law_point as S).pre → wS T__law_point s__law_point (startE C__law_point.N as) S (fin (sp__law_point as S)) := by
  intro as S h
  unfold sp__law_point at h ⊢
  split at h
  rotate_left
  · exact h.elim
  rename_i x y w
  change wS T__law_point s__law_point [some (.int x), some (.int y), some (.int w), none, none] S _
  unfold s__law_point
  simp only [↓wE_lit, ↓wE_bin, ↓wE_neg, ↓wE_nott, ↓wE_cmp, ↓wE_chain, ↓wE_andd, ↓wE_orr, ↓wE_ife, ↓wE_nil, ↓wE_cons, ↓wE_tup, ↓wE_lst, ↓wE_idx, ↓wE_slc, ↓wE_fld, ↓wE_meth, ↓wE_new, ↓wE_sup, ↓wE_blt, ↓wE_isty, ↓wE_iscl, ↓wE_dnew, ↓wE_dget, ↓wE_din, ↓wE_dget2, ↓wE_sm, ↓wT_cmp, ↓wT_chain, ↓wT_nott, ↓wT_andd, ↓wT_orr, ↓wT_ife, ↓wT_lit, ↓wT_idx, ↓wT_bin, ↓wT_meth, ↓wT_blt, ↓wT_isty, ↓wT_iscl, ↓wT_fld, ↓wT_din, ↓wT_dget, ↓wT_sm, ↓wT_neg, ↓wT_nil, ↓wT_cons, ↓wT_tup, ↓wT_lst, ↓wT_slc, ↓wT_new, ↓wT_comp, ↓wT_sup, ↓wT_dnew, ↓wT_dget2, ↓wT_dpop, ↓wT_clo, ↓wT_ccall, ↓wA_nil, ↓wA_cons, ↓wO_nil, ↓wO_cons, ↓wE_compK, ↓wE_compF, ↓wE_call0, ↓wT_call0, ↓wE_v0, ↓wE_v1, ↓wE_v2, ↓wE_v3, ↓wE_v4, ↓wE_v5, ↓wE_v6, ↓wE_v7, ↓wE_v8, ↓wE_v9, ↓wE_v10, ↓wE_v11, ↓wE_v12, ↓wE_v13, ↓wE_v14, ↓wE_v15, ↓wE_v16, ↓wE_v17, ↓wE_v18, ↓wE_v19, ↓wE_v20, ↓wE_v21, ↓wE_v22, ↓wE_v23, ↓wE_v24, ↓wE_v25, ↓wE_v26, ↓wE_v27, ↓wE_v28, ↓wE_v29, ↓wT_v0, ↓wT_v1, ↓wT_v2, ↓wT_v3, ↓wT_v4, ↓wT_v5, ↓wT_v6, ↓wT_v7, ↓wT_v8, ↓wT_v9, ↓wT_v10, ↓wT_v11, ↓wT_v12, ↓wT_v13, ↓wT_v14, ↓wT_v15, ↓wT_v16, ↓wT_v17, ↓wT_v18, ↓wT_v19, ↓wT_v20, ↓wT_v21, ↓wT_v22, ↓wT_v23, ↓wT_v24, ↓wT_v25, ↓wT_v26, ↓wT_v27, ↓wT_v28, ↓wT_v29, ↓tgt_0, ↓tgt_1, ↓tgt_2, ↓tgt_3, ↓tgt_4, ↓tgt_5, ↓tgt_6, ↓tgt_7, ↓tgt_8, ↓tgt_9, ↓tgt_10, ↓tgt_11, ↓tgt_12, ↓tgt_13, ↓tgt_14, ↓tgt_15, ↓tgt_16, ↓tgt_17, ↓tgt_18, ↓tgt_19, ↓tgt_20, ↓tgt_21, ↓tgt_22, ↓tgt_23, ↓tgt_24, ↓tgt_25, ↓tgt_26, ↓tgt_27, ↓tgt_28, ↓tgt_29, ↓exI_0, ↓exI_1, ↓exI_2, ↓exI_3, ↓exI_4, ↓exI_5, ↓exI_6, ↓exI_7, ↓exI_8, ↓exI_9, ↓exI_10, ↓exI_11, ↓exI_12, ↓exI_13, ↓exI_14, ↓exI_15, ↓exI_16, ↓exI_17, ↓exI_18, ↓exI_19, ↓exI_20, ↓exI_21, ↓exI_22, ↓exI_23, ↓exI_24, ↓exI_25, ↓exI_26, ↓exI_27, ↓exI_28, ↓exI_29, ↓exT_0, ↓exT_1, ↓exT_2, ↓exT_3, ↓exT_4, ↓exT_5, ↓exT_6, ↓exT_7, ↓exT_8, ↓exT_9, ↓exT_10, ↓exT_11, ↓exT_12, ↓exT_13, ↓exT_14, ↓exT_15, ↓exT_16, ↓exT_17, ↓exT_18, ↓exT_19, ↓exT_20, ↓exT_21, ↓exT_22, ↓exT_23, ↓exT_24, ↓exT_25, ↓exT_26, ↓exT_27, ↓exT_28, ↓exT_29, ↓exF_0, ↓exF_1, ↓exF_2, ↓exF_3, ↓exF_4, ↓exF_5, ↓exF_6, ↓exF_7, ↓exF_8, ↓exF_9, ↓exF_10, ↓exF_11, ↓exF_12, ↓exF_13, ↓exF_14, ↓exF_15, ↓exF_16, ↓exF_17, ↓exF_18, ↓exF_19, ↓exF_20, ↓exF_21, ↓exF_22, ↓exF_23, ↓exF_24, ↓exF_25, ↓exF_26, ↓exF_27, ↓exF_28, ↓exF_29, ↓tgt_tn, ↓tgt_tc, ↓wS_skip, ↓wS_seqL, ↓later_at, ↓wS_asg_var, ↓wS_asg_lit, ↓wS_asg_bin, ↓wS_asg_neg, ↓wS_asg_nott, ↓wS_asg_cmp, ↓wS_asg_chain, ↓wS_asg_andd, ↓wS_asg_orr, ↓wS_asg_ife, ↓wS_asg_tup, ↓wS_asg_lst, ↓wS_asg_idx, ↓wS_asg_slc, ↓wS_asg_fld, ↓wS_asg_call, ↓wS_asg_meth, ↓wS_asg_new, ↓wS_asg_blt, ↓wS_asg_isty, ↓wS_asg_iscl, ↓wS_asg_exis, ↓wS_asg_exfl, ↓wS_asg_dnew, ↓wS_asg_dget, ↓wS_asg_din, ↓wS_asg_nil, ↓wS_asg_comp, ↓wS_asg_compF, ↓nxK_at, ↓wS_asgF, ↓wS_asgI, ↓wS_asgD, ↓wS_augN, ↓wS_augI, ↓wS_parL, ↓wS_expr, ↓wS_bm, ↓wS_ret, ↓wS_retN, ↓wS_ite, ↓wFor_cons, ↓wFor_nil, ↓wS_for, ↓wS_brk, ↓wS_cnt, ↓wS_raise, ↓wS_tri, ↓wH_nil, ↓wH_cons0, ↓wH_cons1, ↓tyIs_ref, ↓opBm_appendL, ↓setIL, ↓isL_ref, ↓ob_add, ↓ob_adds, ↓ob_addt, ↓ob_addl, ↓ob_addrl, ↓ob_addlr, ↓ob_addrr, ↓ob_addM, ↓ob_sub, ↓ob_mul, ↓ob_mull, ↓ob_mulM, ↓ob_fdiv, ↓ob_mod, ↓ob_pow, ↓oi_abs, ↓oi_lent, ↓oi_lens, ↓oi_lenr, ↓oi_sortedr, ↓oi_sortedMr, ↓oi_tupler, ↓oi_listr, ↓oi_listMr, ↓oi_sumr, ↓oi_anyr, ↓oi_allr, ↓oi_mxr, ↓oi_mnr, ↓oi_lenl, ↓oi_sortedl, ↓oi_sortedMl, ↓oi_tuplel, ↓oi_listl, ↓oi_listMl, ↓oi_suml, ↓oi_anyl, ↓oi_alll, ↓oi_mxl, ↓oi_mnl, ↓oi_mxt, ↓oi_mnt, ↓oi_max2, ↓oi_min2, ↓oi_int, ↓oi_intb, ↓oi_tuplet, ↓oi_listt, ↓oi_listMt, ↓oi_str, ↓oi_divmod, ↓tru_non, ↓tru_bl, ↓tru_int, ↓tru_str, ↓tru_tup, ↓tru_ref, ↓tru_sl, ↓tyIs_non, ↓tyIs_bl, ↓tyIs_int, ↓tyIs_str, ↓tyIs_tup, ↓tyIs_sl, ↓it_t, ↓it_sr, ↓it_er, ↓it_vr, ↓it_sl, ↓it_el, ↓it_vl, ↓it_z, ↓it_1, ↓it_2, ↓it_3, ↓ltI_i, ↓tl_i, ↓optI_i, ↓osl_t, ↓osl_s, ↓osl_l, ↓osl_r, ↓osl_lM, ↓osl_rM, ↓sq_t, ↓sq_l, ↓getI_i, ↓opIx_tup, ↓opIx_ref, ↓opIx_sl, ↓atQ_0, ↓atQ_1, ↓atQ_2, ↓atQ_3, ↓getL_put, ↓getL_put_ne, ↓getL_put_ne', ↓getL_sl, ↓opC_eq_int, ↓opC_ne_int, ↓opC_eq_bl, ↓opC_ne_bl, ↓opC_eq_t2, ↓opC_ne_t2, ↓opC_eq_t3, ↓opC_ne_t3, ↓opC_eq_t32, ↓opC_ne_t32, ↓opC_lt, ↓opC_le, ↓opC_gt, ↓opC_ge, ↓opC_ne_nil, ↓opC_eq_nil, ↓opC_is, ↓opC_isnot, ↓opC_isb, ↓opC_isnb, ↓opC_isi, ↓opC_isni, ↓opC_ist, ↓opC_isnt, ↓opC_iso, ↓opC_isno, ↓opC_in, ↓opC_notin, ↓finpu_rt, ↓finpu_nx, ↓finpu_ex, ↓finlaw_rt, ↓finlaw_nx, ↓finlaw_ex, ↓finV_rt, ↓finV_nx, ↓finV_ex, ↓finE_rt, ↓finO_rt, ↓finO_ex, ↓finE_ex, ↓finS_rt, ↓finS_ex, ↓finR_ex, ↓finX_rt, ↓finX_nx, ↓finX_ex, put_none, put_put, Val.isNon, intsOf, atI_0, atI_1, atI_2, atI_3, cutG_to, cutG_from, sub_refl_iff, pu_pre, puV_pre, puE_pre, puO_pre, puS_pre, puR_pre, Option.some.injEq, exists_eq_left', exists_eq_left, exists_eq, exists_eq', Val.int.injEq, Val.bl.injEq, Val.str.injEq, Val.tup.injEq, Val.ref.injEq, List.cons.injEq, List.map_cons, List.map_nil, List.length_cons, List.length_nil, List.cons_append, List.nil_append, List.append_nil, Bool.false_eq_true, if_true, if_false, ite_true, ite_false, true_and, and_true, false_and, and_false, Bool.not_true, Bool.not_false, decide_eq_true_eq, bne_iff_ne, ne_eq, beq_iff_eq, put_same, imp_false, false_implies, implies_true, reduceCtorEq, not_false_eq_true, and_self, Bool.or_false, Bool.or_true, Bool.false_or, Bool.true_or, Bool.not_eq_true, Bool.not_eq_eq_eq_not, Bool.decide_eq_false, decide_eq_false_iff_not, Bool.not_eq_true', beq_eq_false_iff_ne, bne_eq_false_iff_eq, List.isEmpty_cons, List.isEmpty_nil, Int.reduceEq, Int.reduceNe, Int.reduceLT, Int.reduceLE, Int.reduceNeg, Int.reduceAdd, Int.reduceSub, Int.reduceMul, Int.reduceToNat, Nat.reduceLT, Nat.reduceLeDiff, Nat.reducePow, Nat.reduceAdd, Nat.reduceSub, ty_bool_bool, ty_bool_int, ty_bool_tuple, ty_bool_list, ty_bool_str, ty_int_bool, ty_int_int, ty_int_tuple, ty_int_list, ty_int_str, ty_tuple_bool, ty_tuple_int, ty_tuple_tuple, ty_tuple_list, ty_tuple_str, ty_list_bool, ty_list_int, ty_list_tuple, ty_list_list, ty_list_str, ty_str_bool, ty_str_int, ty_str_tuple, ty_str_list, ty_str_str, List.set_cons_succ, List.set_cons_zero, wipeE, puX_pre, exn_inj, Nat.reduceEqDiff, List.zip_nil_left, Nat.le_refl, Nat.reduceLeDiff, ↓call__law_measure (T0 := T__law_point) rfl, ck_0_18, ck_1_18, is_0_18, is_1_18]
  obtain ⟨hb, hl⟩ := h
  rw [Int.gcd_comm w]
  have hg := gcd_pos (a := ↑(Int.gcd x y)) (b := w) (by omega)
  have hgl := gcd_log (a := ↑(Int.gcd x y)) (b := w) (by omega) hl
  refine frz_map (fun v => match v with | .int z => .int (z.fdiv ↑(Int.gcd (Int.gcd x y) w)) | v => v) (fun _ _ => trivial) (by simp [LIM]) ?_ ?_
  · intro v hx S' hk K hK
    obtain ⟨z, rfl⟩ : ∃ z, v = .int z := by
      simp only [List.mem_cons, List.not_mem_nil, or_false] at hx
      rcases hx with rfl | rfl | rfl
      · exact ⟨_, rfl⟩
      · exact ⟨_, rfl⟩
      · exact ⟨_, rfl⟩
    simp only [↓wE_lit, ↓wE_bin, ↓wE_neg, ↓wE_nott, ↓wE_cmp, ↓wE_chain, ↓wE_andd, ↓wE_orr, ↓wE_ife, ↓wE_nil, ↓wE_cons, ↓wE_tup, ↓wE_lst, ↓wE_idx, ↓wE_slc, ↓wE_fld, ↓wE_meth, ↓wE_new, ↓wE_sup, ↓wE_blt, ↓wE_isty, ↓wE_iscl, ↓wE_dnew, ↓wE_dget, ↓wE_din, ↓wE_dget2, ↓wE_sm, ↓wT_cmp, ↓wT_chain, ↓wT_nott, ↓wT_andd, ↓wT_orr, ↓wT_ife, ↓wT_lit, ↓wT_idx, ↓wT_bin, ↓wT_meth, ↓wT_blt, ↓wT_isty, ↓wT_iscl, ↓wT_fld, ↓wT_din, ↓wT_dget, ↓wT_sm, ↓wT_neg, ↓wT_nil, ↓wT_cons, ↓wT_tup, ↓wT_lst, ↓wT_slc, ↓wT_new, ↓wT_comp, ↓wT_sup, ↓wT_dnew, ↓wT_dget2, ↓wT_dpop, ↓wT_clo, ↓wT_ccall, ↓wA_nil, ↓wA_cons, ↓wO_nil, ↓wO_cons, ↓wE_compK, ↓wE_compF, ↓wE_call0, ↓wT_call0, ↓wE_v0, ↓wE_v1, ↓wE_v2, ↓wE_v3, ↓wE_v4, ↓wE_v5, ↓wE_v6, ↓wE_v7, ↓wE_v8, ↓wE_v9, ↓wE_v10, ↓wE_v11, ↓wE_v12, ↓wE_v13, ↓wE_v14, ↓wE_v15, ↓wE_v16, ↓wE_v17, ↓wE_v18, ↓wE_v19, ↓wE_v20, ↓wE_v21, ↓wE_v22, ↓wE_v23, ↓wE_v24, ↓wE_v25, ↓wE_v26, ↓wE_v27, ↓wE_v28, ↓wE_v29, ↓wT_v0, ↓wT_v1, ↓wT_v2, ↓wT_v3, ↓wT_v4, ↓wT_v5, ↓wT_v6, ↓wT_v7, ↓wT_v8, ↓wT_v9, ↓wT_v10, ↓wT_v11, ↓wT_v12, ↓wT_v13, ↓wT_v14, ↓wT_v15, ↓wT_v16, ↓wT_v17, ↓wT_v18, ↓wT_v19, ↓wT_v20, ↓wT_v21, ↓wT_v22, ↓wT_v23, ↓wT_v24, ↓wT_v25, ↓wT_v26, ↓wT_v27, ↓wT_v28, ↓wT_v29, ↓tgt_0, ↓tgt_1, ↓tgt_2, ↓tgt_3, ↓tgt_4, ↓tgt_5, ↓tgt_6, ↓tgt_7, ↓tgt_8, ↓tgt_9, ↓tgt_10, ↓tgt_11, ↓tgt_12, ↓tgt_13, ↓tgt_14, ↓tgt_15, ↓tgt_16, ↓tgt_17, ↓tgt_18, ↓tgt_19, ↓tgt_20, ↓tgt_21, ↓tgt_22, ↓tgt_23, ↓tgt_24, ↓tgt_25, ↓tgt_26, ↓tgt_27, ↓tgt_28, ↓tgt_29, ↓exI_0, ↓exI_1, ↓exI_2, ↓exI_3, ↓exI_4, ↓exI_5, ↓exI_6, ↓exI_7, ↓exI_8, ↓exI_9, ↓exI_10, ↓exI_11, ↓exI_12, ↓exI_13, ↓exI_14, ↓exI_15, ↓exI_16, ↓exI_17, ↓exI_18, ↓exI_19, ↓exI_20, ↓exI_21, ↓exI_22, ↓exI_23, ↓exI_24, ↓exI_25, ↓exI_26, ↓exI_27, ↓exI_28, ↓exI_29, ↓exT_0, ↓exT_1, ↓exT_2, ↓exT_3, ↓exT_4, ↓exT_5, ↓exT_6, ↓exT_7, ↓exT_8, ↓exT_9, ↓exT_10, ↓exT_11, ↓exT_12, ↓exT_13, ↓exT_14, ↓exT_15, ↓exT_16, ↓exT_17, ↓exT_18, ↓exT_19, ↓exT_20, ↓exT_21, ↓exT_22, ↓exT_23, ↓exT_24, ↓exT_25, ↓exT_26, ↓exT_27, ↓exT_28, ↓exT_29, ↓exF_0, ↓exF_1, ↓exF_2, ↓exF_3, ↓exF_4, ↓exF_5, ↓exF_6, ↓exF_7, ↓exF_8, ↓exF_9, ↓exF_10, ↓exF_11, ↓exF_12, ↓exF_13, ↓exF_14, ↓exF_15, ↓exF_16, ↓exF_17, ↓exF_18, ↓exF_19, ↓exF_20, ↓exF_21, ↓exF_22, ↓exF_23, ↓exF_24, ↓exF_25, ↓exF_26, ↓exF_27, ↓exF_28, ↓exF_29, ↓tgt_tn, ↓tgt_tc, ↓wS_skip, ↓wS_seqL, ↓later_at, ↓wS_asg_var, ↓wS_asg_lit, ↓wS_asg_bin, ↓wS_asg_neg, ↓wS_asg_nott, ↓wS_asg_cmp, ↓wS_asg_chain, ↓wS_asg_andd, ↓wS_asg_orr, ↓wS_asg_ife, ↓wS_asg_tup, ↓wS_asg_lst, ↓wS_asg_idx, ↓wS_asg_slc, ↓wS_asg_fld, ↓wS_asg_call, ↓wS_asg_meth, ↓wS_asg_new, ↓wS_asg_blt, ↓wS_asg_isty, ↓wS_asg_iscl, ↓wS_asg_exis, ↓wS_asg_exfl, ↓wS_asg_dnew, ↓wS_asg_dget, ↓wS_asg_din, ↓wS_asg_nil, ↓wS_asg_comp, ↓wS_asg_compF, ↓nxK_at, ↓wS_asgF, ↓wS_asgI, ↓wS_asgD, ↓wS_augN, ↓wS_augI, ↓wS_parL, ↓wS_expr, ↓wS_bm, ↓wS_ret, ↓wS_retN, ↓wS_ite, ↓wFor_cons, ↓wFor_nil, ↓wS_for, ↓wS_brk, ↓wS_cnt, ↓wS_raise, ↓wS_tri, ↓wH_nil, ↓wH_cons0, ↓wH_cons1, ↓tyIs_ref, ↓opBm_appendL, ↓setIL, ↓isL_ref, ↓ob_add, ↓ob_adds, ↓ob_addt, ↓ob_addl, ↓ob_addrl, ↓ob_addlr, ↓ob_addrr, ↓ob_addM, ↓ob_sub, ↓ob_mul, ↓ob_mull, ↓ob_mulM, ↓ob_fdiv, ↓ob_mod, ↓ob_pow, ↓oi_abs, ↓oi_lent, ↓oi_lens, ↓oi_lenr, ↓oi_sortedr, ↓oi_sortedMr, ↓oi_tupler, ↓oi_listr, ↓oi_listMr, ↓oi_sumr, ↓oi_anyr, ↓oi_allr, ↓oi_mxr, ↓oi_mnr, ↓oi_lenl, ↓oi_sortedl, ↓oi_sortedMl, ↓oi_tuplel, ↓oi_listl, ↓oi_listMl, ↓oi_suml, ↓oi_anyl, ↓oi_alll, ↓oi_mxl, ↓oi_mnl, ↓oi_mxt, ↓oi_mnt, ↓oi_max2, ↓oi_min2, ↓oi_int, ↓oi_intb, ↓oi_tuplet, ↓oi_listt, ↓oi_listMt, ↓oi_str, ↓oi_divmod, ↓tru_non, ↓tru_bl, ↓tru_int, ↓tru_str, ↓tru_tup, ↓tru_ref, ↓tru_sl, ↓tyIs_non, ↓tyIs_bl, ↓tyIs_int, ↓tyIs_str, ↓tyIs_tup, ↓tyIs_sl, ↓it_t, ↓it_sr, ↓it_er, ↓it_vr, ↓it_sl, ↓it_el, ↓it_vl, ↓it_z, ↓it_1, ↓it_2, ↓it_3, ↓ltI_i, ↓tl_i, ↓optI_i, ↓osl_t, ↓osl_s, ↓osl_l, ↓osl_r, ↓osl_lM, ↓osl_rM, ↓sq_t, ↓sq_l, ↓getI_i, ↓opIx_tup, ↓opIx_ref, ↓opIx_sl, ↓atQ_0, ↓atQ_1, ↓atQ_2, ↓atQ_3, ↓getL_put, ↓getL_put_ne, ↓getL_put_ne', ↓getL_sl, ↓opC_eq_int, ↓opC_ne_int, ↓opC_eq_bl, ↓opC_ne_bl, ↓opC_eq_t2, ↓opC_ne_t2, ↓opC_eq_t3, ↓opC_ne_t3, ↓opC_eq_t32, ↓opC_ne_t32, ↓opC_lt, ↓opC_le, ↓opC_gt, ↓opC_ge, ↓opC_ne_nil, ↓opC_eq_nil, ↓opC_is, ↓opC_isnot, ↓opC_isb, ↓opC_isnb, ↓opC_isi, ↓opC_isni, ↓opC_ist, ↓opC_isnt, ↓opC_iso, ↓opC_isno, ↓opC_in, ↓opC_notin, ↓finpu_rt, ↓finpu_nx, ↓finpu_ex, ↓finlaw_rt, ↓finlaw_nx, ↓finlaw_ex, ↓finV_rt, ↓finV_nx, ↓finV_ex, ↓finE_rt, ↓finO_rt, ↓finO_ex, ↓finE_ex, ↓finS_rt, ↓finS_ex, ↓finR_ex, ↓finX_rt, ↓finX_nx, ↓finX_ex, put_none, put_put, Val.isNon, intsOf, atI_0, atI_1, atI_2, atI_3, cutG_to, cutG_from, sub_refl_iff, pu_pre, puV_pre, puE_pre, puO_pre, puS_pre, puR_pre, Option.some.injEq, exists_eq_left', exists_eq_left, exists_eq, exists_eq', Val.int.injEq, Val.bl.injEq, Val.str.injEq, Val.tup.injEq, Val.ref.injEq, List.cons.injEq, List.map_cons, List.map_nil, List.length_cons, List.length_nil, List.cons_append, List.nil_append, List.append_nil, Bool.false_eq_true, if_true, if_false, ite_true, ite_false, true_and, and_true, false_and, and_false, Bool.not_true, Bool.not_false, decide_eq_true_eq, bne_iff_ne, ne_eq, beq_iff_eq, put_same, imp_false, false_implies, implies_true, reduceCtorEq, not_false_eq_true, and_self, Bool.or_false, Bool.or_true, Bool.false_or, Bool.true_or, Bool.not_eq_true, Bool.not_eq_eq_eq_not, Bool.decide_eq_false, decide_eq_false_iff_not, Bool.not_eq_true', beq_eq_false_iff_ne, bne_eq_false_iff_eq, List.isEmpty_cons, List.isEmpty_nil, Int.reduceEq, Int.reduceNe, Int.reduceLT, Int.reduceLE, Int.reduceNeg, Int.reduceAdd, Int.reduceSub, Int.reduceMul, Int.reduceToNat, Nat.reduceLT, Nat.reduceLeDiff, Nat.reducePow, Nat.reduceAdd, Nat.reduceSub, ty_bool_bool, ty_bool_int, ty_bool_tuple, ty_bool_list, ty_bool_str, ty_int_bool, ty_int_int, ty_int_tuple, ty_int_list, ty_int_str, ty_tuple_bool, ty_tuple_int, ty_tuple_tuple, ty_tuple_list, ty_tuple_str, ty_list_bool, ty_list_int, ty_list_tuple, ty_list_list, ty_list_str, ty_str_bool, ty_str_int, ty_str_tuple, ty_str_list, ty_str_str, List.set_cons_succ, List.set_cons_zero, wipeE, puX_pre, exn_inj, Nat.reduceEqDiff, List.zip_nil_left, Nat.le_refl, Nat.reduceLeDiff]
    exact ⟨⟨by omega, by omega⟩, hK⟩
  · simp only [↓wE_lit, ↓wE_bin, ↓wE_neg, ↓wE_nott, ↓wE_cmp, ↓wE_chain, ↓wE_andd, ↓wE_orr, ↓wE_ife, ↓wE_nil, ↓wE_cons, ↓wE_tup, ↓wE_lst, ↓wE_idx, ↓wE_slc, ↓wE_fld, ↓wE_meth, ↓wE_new, ↓wE_sup, ↓wE_blt, ↓wE_isty, ↓wE_iscl, ↓wE_dnew, ↓wE_dget, ↓wE_din, ↓wE_dget2, ↓wE_sm, ↓wT_cmp, ↓wT_chain, ↓wT_nott, ↓wT_andd, ↓wT_orr, ↓wT_ife, ↓wT_lit, ↓wT_idx, ↓wT_bin, ↓wT_meth, ↓wT_blt, ↓wT_isty, ↓wT_iscl, ↓wT_fld, ↓wT_din, ↓wT_dget, ↓wT_sm, ↓wT_neg, ↓wT_nil, ↓wT_cons, ↓wT_tup, ↓wT_lst, ↓wT_slc, ↓wT_new, ↓wT_comp, ↓wT_sup, ↓wT_dnew, ↓wT_dget2, ↓wT_dpop, ↓wT_clo, ↓wT_ccall, ↓wA_nil, ↓wA_cons, ↓wO_nil, ↓wO_cons, ↓wE_compK, ↓wE_compF, ↓wE_call0, ↓wT_call0, ↓wE_v0, ↓wE_v1, ↓wE_v2, ↓wE_v3, ↓wE_v4, ↓wE_v5, ↓wE_v6, ↓wE_v7, ↓wE_v8, ↓wE_v9, ↓wE_v10, ↓wE_v11, ↓wE_v12, ↓wE_v13, ↓wE_v14, ↓wE_v15, ↓wE_v16, ↓wE_v17, ↓wE_v18, ↓wE_v19, ↓wE_v20, ↓wE_v21, ↓wE_v22, ↓wE_v23, ↓wE_v24, ↓wE_v25, ↓wE_v26, ↓wE_v27, ↓wE_v28, ↓wE_v29, ↓wT_v0, ↓wT_v1, ↓wT_v2, ↓wT_v3, ↓wT_v4, ↓wT_v5, ↓wT_v6, ↓wT_v7, ↓wT_v8, ↓wT_v9, ↓wT_v10, ↓wT_v11, ↓wT_v12, ↓wT_v13, ↓wT_v14, ↓wT_v15, ↓wT_v16, ↓wT_v17, ↓wT_v18, ↓wT_v19, ↓wT_v20, ↓wT_v21, ↓wT_v22, ↓wT_v23, ↓wT_v24, ↓wT_v25, ↓wT_v26, ↓wT_v27, ↓wT_v28, ↓wT_v29, ↓tgt_0, ↓tgt_1, ↓tgt_2, ↓tgt_3, ↓tgt_4, ↓tgt_5, ↓tgt_6, ↓tgt_7, ↓tgt_8, ↓tgt_9, ↓tgt_10, ↓tgt_11, ↓tgt_12, ↓tgt_13, ↓tgt_14, ↓tgt_15, ↓tgt_16, ↓tgt_17, ↓tgt_18, ↓tgt_19, ↓tgt_20, ↓tgt_21, ↓tgt_22, ↓tgt_23, ↓tgt_24, ↓tgt_25, ↓tgt_26, ↓tgt_27, ↓tgt_28, ↓tgt_29, ↓exI_0, ↓exI_1, ↓exI_2, ↓exI_3, ↓exI_4, ↓exI_5, ↓exI_6, ↓exI_7, ↓exI_8, ↓exI_9, ↓exI_10, ↓exI_11, ↓exI_12, ↓exI_13, ↓exI_14, ↓exI_15, ↓exI_16, ↓exI_17, ↓exI_18, ↓exI_19, ↓exI_20, ↓exI_21, ↓exI_22, ↓exI_23, ↓exI_24, ↓exI_25, ↓exI_26, ↓exI_27, ↓exI_28, ↓exI_29, ↓exT_0, ↓exT_1, ↓exT_2, ↓exT_3, ↓exT_4, ↓exT_5, ↓exT_6, ↓exT_7, ↓exT_8, ↓exT_9, ↓exT_10, ↓exT_11, ↓exT_12, ↓exT_13, ↓exT_14, ↓exT_15, ↓exT_16, ↓exT_17, ↓exT_18, ↓exT_19, ↓exT_20, ↓exT_21, ↓exT_22, ↓exT_23, ↓exT_24, ↓exT_25, ↓exT_26, ↓exT_27, ↓exT_28, ↓exT_29, ↓exF_0, ↓exF_1, ↓exF_2, ↓exF_3, ↓exF_4, ↓exF_5, ↓exF_6, ↓exF_7, ↓exF_8, ↓exF_9, ↓exF_10, ↓exF_11, ↓exF_12, ↓exF_13, ↓exF_14, ↓exF_15, ↓exF_16, ↓exF_17, ↓exF_18, ↓exF_19, ↓exF_20, ↓exF_21, ↓exF_22, ↓exF_23, ↓exF_24, ↓exF_25, ↓exF_26, ↓exF_27, ↓exF_28, ↓exF_29, ↓tgt_tn, ↓tgt_tc, ↓wS_skip, ↓wS_seqL, ↓later_at, ↓wS_asg_var, ↓wS_asg_lit, ↓wS_asg_bin, ↓wS_asg_neg, ↓wS_asg_nott, ↓wS_asg_cmp, ↓wS_asg_chain, ↓wS_asg_andd, ↓wS_asg_orr, ↓wS_asg_ife, ↓wS_asg_tup, ↓wS_asg_lst, ↓wS_asg_idx, ↓wS_asg_slc, ↓wS_asg_fld, ↓wS_asg_call, ↓wS_asg_meth, ↓wS_asg_new, ↓wS_asg_blt, ↓wS_asg_isty, ↓wS_asg_iscl, ↓wS_asg_exis, ↓wS_asg_exfl, ↓wS_asg_dnew, ↓wS_asg_dget, ↓wS_asg_din, ↓wS_asg_nil, ↓wS_asg_comp, ↓wS_asg_compF, ↓nxK_at, ↓wS_asgF, ↓wS_asgI, ↓wS_asgD, ↓wS_augN, ↓wS_augI, ↓wS_parL, ↓wS_expr, ↓wS_bm, ↓wS_ret, ↓wS_retN, ↓wS_ite, ↓wFor_cons, ↓wFor_nil, ↓wS_for, ↓wS_brk, ↓wS_cnt, ↓wS_raise, ↓wS_tri, ↓wH_nil, ↓wH_cons0, ↓wH_cons1, ↓tyIs_ref, ↓opBm_appendL, ↓setIL, ↓isL_ref, ↓ob_add, ↓ob_adds, ↓ob_addt, ↓ob_addl, ↓ob_addrl, ↓ob_addlr, ↓ob_addrr, ↓ob_addM, ↓ob_sub, ↓ob_mul, ↓ob_mull, ↓ob_mulM, ↓ob_fdiv, ↓ob_mod, ↓ob_pow, ↓oi_abs, ↓oi_lent, ↓oi_lens, ↓oi_lenr, ↓oi_sortedr, ↓oi_sortedMr, ↓oi_tupler, ↓oi_listr, ↓oi_listMr, ↓oi_sumr, ↓oi_anyr, ↓oi_allr, ↓oi_mxr, ↓oi_mnr, ↓oi_lenl, ↓oi_sortedl, ↓oi_sortedMl, ↓oi_tuplel, ↓oi_listl, ↓oi_listMl, ↓oi_suml, ↓oi_anyl, ↓oi_alll, ↓oi_mxl, ↓oi_mnl, ↓oi_mxt, ↓oi_mnt, ↓oi_max2, ↓oi_min2, ↓oi_int, ↓oi_intb, ↓oi_tuplet, ↓oi_listt, ↓oi_listMt, ↓oi_str, ↓oi_divmod, ↓tru_non, ↓tru_bl, ↓tru_int, ↓tru_str, ↓tru_tup, ↓tru_ref, ↓tru_sl, ↓tyIs_non, ↓tyIs_bl, ↓tyIs_int, ↓tyIs_str, ↓tyIs_tup, ↓tyIs_sl, ↓it_t, ↓it_sr, ↓it_er, ↓it_vr, ↓it_sl, ↓it_el, ↓it_vl, ↓it_z, ↓it_1, ↓it_2, ↓it_3, ↓ltI_i, ↓tl_i, ↓optI_i, ↓osl_t, ↓osl_s, ↓osl_l, ↓osl_r, ↓osl_lM, ↓osl_rM, ↓sq_t, ↓sq_l, ↓getI_i, ↓opIx_tup, ↓opIx_ref, ↓opIx_sl, ↓atQ_0, ↓atQ_1, ↓atQ_2, ↓atQ_3, ↓getL_put, ↓getL_put_ne, ↓getL_put_ne', ↓getL_sl, ↓opC_eq_int, ↓opC_ne_int, ↓opC_eq_bl, ↓opC_ne_bl, ↓opC_eq_t2, ↓opC_ne_t2, ↓opC_eq_t3, ↓opC_ne_t3, ↓opC_eq_t32, ↓opC_ne_t32, ↓opC_lt, ↓opC_le, ↓opC_gt, ↓opC_ge, ↓opC_ne_nil, ↓opC_eq_nil, ↓opC_is, ↓opC_isnot, ↓opC_isb, ↓opC_isnb, ↓opC_isi, ↓opC_isni, ↓opC_ist, ↓opC_isnt, ↓opC_iso, ↓opC_isno, ↓opC_in, ↓opC_notin, ↓finpu_rt, ↓finpu_nx, ↓finpu_ex, ↓finlaw_rt, ↓finlaw_nx, ↓finlaw_ex, ↓finV_rt, ↓finV_nx, ↓finV_ex, ↓finE_rt, ↓finO_rt, ↓finO_ex, ↓finE_ex, ↓finS_rt, ↓finS_ex, ↓finR_ex, ↓finX_rt, ↓finX_nx, ↓finX_ex, put_none, put_put, Val.isNon, intsOf, atI_0, atI_1, atI_2, atI_3, cutG_to, cutG_from, sub_refl_iff, pu_pre, puV_pre, puE_pre, puO_pre, puS_pre, puR_pre, Option.some.injEq, exists_eq_left', exists_eq_left, exists_eq, exists_eq', Val.int.injEq, Val.bl.injEq, Val.str.injEq, Val.tup.injEq, Val.ref.injEq, List.cons.injEq, List.map_cons, List.map_nil, List.length_cons, List.length_nil, List.cons_append, List.nil_append, List.append_nil, Bool.false_eq_true, if_true, if_false, ite_true, ite_false, true_and, and_true, false_and, and_false, Bool.not_true, Bool.not_false, decide_eq_true_eq, bne_iff_ne, ne_eq, beq_iff_eq, put_same, imp_false, false_implies, implies_true, reduceCtorEq, not_false_eq_true, and_self, Bool.or_false, Bool.or_true, Bool.false_or, Bool.true_or, Bool.not_eq_true, Bool.not_eq_eq_eq_not, Bool.decide_eq_false, decide_eq_false_iff_not, Bool.not_eq_true', beq_eq_false_iff_ne, bne_eq_false_iff_eq, List.isEmpty_cons, List.isEmpty_nil, Int.reduceEq, Int.reduceNe, Int.reduceLT, Int.reduceLE, Int.reduceNeg, Int.reduceAdd, Int.reduceSub, Int.reduceMul, Int.reduceToNat, Nat.reduceLT, Nat.reduceLeDiff, Nat.reducePow, Nat.reduceAdd, Nat.reduceSub, ty_bool_bool, ty_bool_int, ty_bool_tuple, ty_bool_list, ty_bool_str, ty_int_bool, ty_int_int, ty_int_tuple, ty_int_list, ty_int_str, ty_tuple_bool, ty_tuple_int, ty_tuple_tuple, ty_tuple_list, ty_tuple_str, ty_list_bool, ty_list_int, ty_list_tuple, ty_list_list, ty_list_str, ty_str_bool, ty_str_int, ty_str_tuple, ty_str_list, ty_str_str, List.set_cons_succ, List.set_cons_zero, wipeE, puX_pre, exn_inj, Nat.reduceEqDiff, List.zip_nil_left, Nat.le_refl, Nat.reduceLeDiff]
    exact ⟨_, ⟨rfl, rfl, rfl⟩, isP_pos hb⟩
theorem w__law_heading : ∀ as S, (sp__law_heading as S).pre → wS T__law_heading s__law_heading (startE C__law_heading.N as) S (fin (sp__law_heading as S)) := by
  intro as S h
  unfold sp__law_heading at h ⊢
  split at h
  rotate_left
  · exact h.elim
  rename_i a b
  change wS T__law_heading s__law_heading [some (.int a), some (.int b)] S _
  unfold s__law_heading
  simp only [↓wE_lit, ↓wE_bin, ↓wE_neg, ↓wE_nott, ↓wE_cmp, ↓wE_chain, ↓wE_andd, ↓wE_orr, ↓wE_ife, ↓wE_nil, ↓wE_cons, ↓wE_tup, ↓wE_lst, ↓wE_idx, ↓wE_slc, ↓wE_fld, ↓wE_meth, ↓wE_new, ↓wE_sup, ↓wE_blt, ↓wE_isty, ↓wE_iscl, ↓wE_dnew, ↓wE_dget, ↓wE_din, ↓wE_dget2, ↓wE_sm, ↓wT_cmp, ↓wT_chain, ↓wT_nott, ↓wT_andd, ↓wT_orr, ↓wT_ife, ↓wT_lit, ↓wT_idx, ↓wT_bin, ↓wT_meth, ↓wT_blt, ↓wT_isty, ↓wT_iscl, ↓wT_fld, ↓wT_din, ↓wT_dget, ↓wT_sm, ↓wT_neg, ↓wT_nil, ↓wT_cons, ↓wT_tup, ↓wT_lst, ↓wT_slc, ↓wT_new, ↓wT_comp, ↓wT_sup, ↓wT_dnew, ↓wT_dget2, ↓wT_dpop, ↓wT_clo, ↓wT_ccall, ↓wA_nil, ↓wA_cons, ↓wO_nil, ↓wO_cons, ↓wE_compK, ↓wE_compF, ↓wE_call0, ↓wT_call0, ↓wE_v0, ↓wE_v1, ↓wE_v2, ↓wE_v3, ↓wE_v4, ↓wE_v5, ↓wE_v6, ↓wE_v7, ↓wE_v8, ↓wE_v9, ↓wE_v10, ↓wE_v11, ↓wE_v12, ↓wE_v13, ↓wE_v14, ↓wE_v15, ↓wE_v16, ↓wE_v17, ↓wE_v18, ↓wE_v19, ↓wE_v20, ↓wE_v21, ↓wE_v22, ↓wE_v23, ↓wE_v24, ↓wE_v25, ↓wE_v26, ↓wE_v27, ↓wE_v28, ↓wE_v29, ↓wT_v0, ↓wT_v1, ↓wT_v2, ↓wT_v3, ↓wT_v4, ↓wT_v5, ↓wT_v6, ↓wT_v7, ↓wT_v8, ↓wT_v9, ↓wT_v10, ↓wT_v11, ↓wT_v12, ↓wT_v13, ↓wT_v14, ↓wT_v15, ↓wT_v16, ↓wT_v17, ↓wT_v18, ↓wT_v19, ↓wT_v20, ↓wT_v21, ↓wT_v22, ↓wT_v23, ↓wT_v24, ↓wT_v25, ↓wT_v26, ↓wT_v27, ↓wT_v28, ↓wT_v29, ↓tgt_0, ↓tgt_1, ↓tgt_2, ↓tgt_3, ↓tgt_4, ↓tgt_5, ↓tgt_6, ↓tgt_7, ↓tgt_8, ↓tgt_9, ↓tgt_10, ↓tgt_11, ↓tgt_12, ↓tgt_13, ↓tgt_14, ↓tgt_15, ↓tgt_16, ↓tgt_17, ↓tgt_18, ↓tgt_19, ↓tgt_20, ↓tgt_21, ↓tgt_22, ↓tgt_23, ↓tgt_24, ↓tgt_25, ↓tgt_26, ↓tgt_27, ↓tgt_28, ↓tgt_29, ↓exI_0, ↓exI_1, ↓exI_2, ↓exI_3, ↓exI_4, ↓exI_5, ↓exI_6, ↓exI_7, ↓exI_8, ↓exI_9, ↓exI_10, ↓exI_11, ↓exI_12, ↓exI_13, ↓exI_14, ↓exI_15, ↓exI_16, ↓exI_17, ↓exI_18, ↓exI_19, ↓exI_20, ↓exI_21, ↓exI_22, ↓exI_23, ↓exI_24, ↓exI_25, ↓exI_26, ↓exI_27, ↓exI_28, ↓exI_29, ↓exT_0, ↓exT_1, ↓exT_2, ↓exT_3, ↓exT_4, ↓exT_5, ↓exT_6, ↓exT_7, ↓exT_8, ↓exT_9, ↓exT_10, ↓exT_11, ↓exT_12, ↓exT_13, ↓exT_14, ↓exT_15, ↓exT_16, ↓exT_17, ↓exT_18, ↓exT_19, ↓exT_20, ↓exT_21, ↓exT_22, ↓exT_23, ↓exT_24, ↓exT_25, ↓exT_26, ↓exT_27, ↓exT_28, ↓exT_29, ↓exF_0, ↓exF_1, ↓exF_2, ↓exF_3, ↓exF_4, ↓exF_5, ↓exF_6, ↓exF_7, ↓exF_8, ↓exF_9, ↓exF_10, ↓exF_11, ↓exF_12, ↓exF_13, ↓exF_14, ↓exF_15, ↓exF_16, ↓exF_17, ↓exF_18, ↓exF_19, ↓exF_20, ↓exF_21, ↓exF_22, ↓exF_23, ↓exF_24, ↓exF_25, ↓exF_26, ↓exF_27, ↓exF_28, ↓exF_29, ↓tgt_tn, ↓tgt_tc, ↓wS_skip, ↓wS_seqL, ↓later_at, ↓wS_asg_var, ↓wS_asg_lit, ↓wS_asg_bin, ↓wS_asg_neg, ↓wS_asg_nott, ↓wS_asg_cmp, ↓wS_asg_chain, ↓wS_asg_andd, ↓wS_asg_orr, ↓wS_asg_ife, ↓wS_asg_tup, ↓wS_asg_lst, ↓wS_asg_idx, ↓wS_asg_slc, ↓wS_asg_fld, ↓wS_asg_call, ↓wS_asg_meth, ↓wS_asg_new, ↓wS_asg_blt, ↓wS_asg_isty, ↓wS_asg_iscl, ↓wS_asg_exis, ↓wS_asg_exfl, ↓wS_asg_dnew, ↓wS_asg_dget, ↓wS_asg_din, ↓wS_asg_nil, ↓wS_asg_comp, ↓wS_asg_compF, ↓nxK_at, ↓wS_asgF, ↓wS_asgI, ↓wS_asgD, ↓wS_augN, ↓wS_augI, ↓wS_parL, ↓wS_expr, ↓wS_bm, ↓wS_ret, ↓wS_retN, ↓wS_ite, ↓wFor_cons, ↓wFor_nil, ↓wS_for, ↓wS_brk, ↓wS_cnt, ↓wS_raise, ↓wS_tri, ↓wH_nil, ↓wH_cons0, ↓wH_cons1, ↓tyIs_ref, ↓opBm_appendL, ↓setIL, ↓isL_ref, ↓ob_add, ↓ob_adds, ↓ob_addt, ↓ob_addl, ↓ob_addrl, ↓ob_addlr, ↓ob_addrr, ↓ob_addM, ↓ob_sub, ↓ob_mul, ↓ob_mull, ↓ob_mulM, ↓ob_fdiv, ↓ob_mod, ↓ob_pow, ↓oi_abs, ↓oi_lent, ↓oi_lens, ↓oi_lenr, ↓oi_sortedr, ↓oi_sortedMr, ↓oi_tupler, ↓oi_listr, ↓oi_listMr, ↓oi_sumr, ↓oi_anyr, ↓oi_allr, ↓oi_mxr, ↓oi_mnr, ↓oi_lenl, ↓oi_sortedl, ↓oi_sortedMl, ↓oi_tuplel, ↓oi_listl, ↓oi_listMl, ↓oi_suml, ↓oi_anyl, ↓oi_alll, ↓oi_mxl, ↓oi_mnl, ↓oi_mxt, ↓oi_mnt, ↓oi_max2, ↓oi_min2, ↓oi_int, ↓oi_intb, ↓oi_tuplet, ↓oi_listt, ↓oi_listMt, ↓oi_str, ↓oi_divmod, ↓tru_non, ↓tru_bl, ↓tru_int, ↓tru_str, ↓tru_tup, ↓tru_ref, ↓tru_sl, ↓tyIs_non, ↓tyIs_bl, ↓tyIs_int, ↓tyIs_str, ↓tyIs_tup, ↓tyIs_sl, ↓it_t, ↓it_sr, ↓it_er, ↓it_vr, ↓it_sl, ↓it_el, ↓it_vl, ↓it_z, ↓it_1, ↓it_2, ↓it_3, ↓ltI_i, ↓tl_i, ↓optI_i, ↓osl_t, ↓osl_s, ↓osl_l, ↓osl_r, ↓osl_lM, ↓osl_rM, ↓sq_t, ↓sq_l, ↓getI_i, ↓opIx_tup, ↓opIx_ref, ↓opIx_sl, ↓atQ_0, ↓atQ_1, ↓atQ_2, ↓atQ_3, ↓getL_put, ↓getL_put_ne, ↓getL_put_ne', ↓getL_sl, ↓opC_eq_int, ↓opC_ne_int, ↓opC_eq_bl, ↓opC_ne_bl, ↓opC_eq_t2, ↓opC_ne_t2, ↓opC_eq_t3, ↓opC_ne_t3, ↓opC_eq_t32, ↓opC_ne_t32, ↓opC_lt, ↓opC_le, ↓opC_gt, ↓opC_ge, ↓opC_ne_nil, ↓opC_eq_nil, ↓opC_is, ↓opC_isnot, ↓opC_isb, ↓opC_isnb, ↓opC_isi, ↓opC_isni, ↓opC_ist, ↓opC_isnt, ↓opC_iso, ↓opC_isno, ↓opC_in, ↓opC_notin, ↓finpu_rt, ↓finpu_nx, ↓finpu_ex, ↓finlaw_rt, ↓finlaw_nx, ↓finlaw_ex, ↓finV_rt, ↓finV_nx, ↓finV_ex, ↓finE_rt, ↓finO_rt, ↓finO_ex, ↓finE_ex, ↓finS_rt, ↓finS_ex, ↓finR_ex, ↓finX_rt, ↓finX_nx, ↓finX_ex, put_none, put_put, Val.isNon, intsOf, atI_0, atI_1, atI_2, atI_3, cutG_to, cutG_from, sub_refl_iff, pu_pre, puV_pre, puE_pre, puO_pre, puS_pre, puR_pre, Option.some.injEq, exists_eq_left', exists_eq_left, exists_eq, exists_eq', Val.int.injEq, Val.bl.injEq, Val.str.injEq, Val.tup.injEq, Val.ref.injEq, List.cons.injEq, List.map_cons, List.map_nil, List.length_cons, List.length_nil, List.cons_append, List.nil_append, List.append_nil, Bool.false_eq_true, if_true, if_false, ite_true, ite_false, true_and, and_true, false_and, and_false, Bool.not_true, Bool.not_false, decide_eq_true_eq, bne_iff_ne, ne_eq, beq_iff_eq, put_same, imp_false, false_implies, implies_true, reduceCtorEq, not_false_eq_true, and_self, Bool.or_false, Bool.or_true, Bool.false_or, Bool.true_or, Bool.not_eq_true, Bool.not_eq_eq_eq_not, Bool.decide_eq_false, decide_eq_false_iff_not, Bool.not_eq_true', beq_eq_false_iff_ne, bne_eq_false_iff_eq, List.isEmpty_cons, List.isEmpty_nil, Int.reduceEq, Int.reduceNe, Int.reduceLT, Int.reduceLE, Int.reduceNeg, Int.reduceAdd, Int.reduceSub, Int.reduceMul, Int.reduceToNat, Nat.reduceLT, Nat.reduceLeDiff, Nat.reducePow, Nat.reduceAdd, Nat.reduceSub, ty_bool_bool, ty_bool_int, ty_bool_tuple, ty_bool_list, ty_bool_str, ty_int_bool, ty_int_int, ty_int_tuple, ty_int_list, ty_int_str, ty_tuple_bool, ty_tuple_int, ty_tuple_tuple, ty_tuple_list, ty_tuple_str, ty_list_bool, ty_list_int, ty_list_tuple, ty_list_list, ty_list_str, ty_str_bool, ty_str_int, ty_str_tuple, ty_str_list, ty_str_str, List.set_cons_succ, List.set_cons_zero, wipeE, puX_pre, exn_inj, Nat.reduceEqDiff, List.zip_nil_left, Nat.le_refl, Nat.reduceLeDiff, ↓call__law_reduced (T0 := T__law_heading) rfl, ck_0_18, ck_1_18, is_0_18, is_1_18]
  obtain ⟨ha, hb⟩ := h
  have k : ¬(a = 0 ∧ b = 0) → (a.fdiv ↑(Int.gcd b a)).natAbs.log2 < 200 ∧ (b.fdiv ↑(Int.gcd b a)).natAbs.log2 < 200 := by
    intro hn
    have hg : 0 < Int.gcd b a := Nat.pos_of_ne_zero fun h => hn ⟨(Int.gcd_eq_zero_iff.mp h).2, (Int.gcd_eq_zero_iff.mp h).1⟩
    exact ⟨log2_fdiv (by omega) ha, log2_fdiv (by omega) hb⟩
  split
  · split
    · exact ⟨(2, 1), ⟨rfl, rfl⟩, by decide +kernel, by decide +kernel⟩
    · have := k (by omega)
      exact ⟨⟨by omega, by omega, by omega⟩, (_, _), ⟨rfl, rfl⟩, this⟩
  · have := k (by omega)
    exact ⟨⟨by omega, by omega, by omega⟩, (_, _), ⟨rfl, rfl⟩, this⟩
theorem abs_log {z : Int} {n : Nat} (h : z.natAbs.log2 < n) : (if z < 0 then -z else z).natAbs.log2 < n := by
  split
  · rw [Int.natAbs_neg]; exact h
  · exact h
/-- inside stays inside -/
theorem in_low {x w p q : Int} {u : Int} (hw : 0 < w) (hq : 0 < q) (e : p * w = x * q) (hx : 0 < x) (hx2 : x < u * w) : 0 < p ∧ p < u * q := by
  have h1 : 0 < p * w := by rw [e]; exact Int.mul_pos hx hq
  have h2 : 0 < p := by
    rcases (by omega : p ≤ 0 ∨ 0 < p) with h | h
    · have := Int.mul_le_mul_of_nonneg_right h (show (0 : Int) ≤ w by omega)
      omega
    · exact h
  refine ⟨h2, ?_⟩
  rcases (by omega : p < u * q ∨ u * q ≤ p) with h | h
  · exact h
  · have h3 := Int.mul_le_mul_of_nonneg_right h (show (0 : Int) ≤ w by omega)
    have h4 := Int.mul_lt_mul_of_pos_right hx2 hq
    have h5 : u * q * w = u * w * q := by grind
    omega
theorem w__law_inside : ∀ as S, (sp__law_inside as S).pre → wS T__law_inside s__law_inside (startE C__law_inside.N as) S (fin (sp__law_inside as S)) := by
  intro as S h
  unfold sp__law_inside at h ⊢
  split at h
  rotate_left
  · exact h.elim
  rename_i u v l
  change wS T__law_inside s__law_inside [some (.int u), some (.int v), some (.sl l), none] S _
  unfold s__law_inside
  obtain ⟨hu, hv, lu, lv, zs, rfl, h7, hb⟩ := h
  obtain ⟨z0, m0, e0⟩ := atI_map (cs := zs) (i := 0) (by decide) (by omega)
  obtain ⟨z1, m1, e1⟩ := atI_map (cs := zs) (i := 1) (by decide) (by omega)
  obtain ⟨z2, m2, e2⟩ := atI_map (cs := zs) (i := 2) (by decide) (by omega)
  simp only [↓wE_lit, ↓wE_bin, ↓wE_neg, ↓wE_nott, ↓wE_cmp, ↓wE_chain, ↓wE_andd, ↓wE_orr, ↓wE_ife, ↓wE_nil, ↓wE_cons, ↓wE_tup, ↓wE_lst, ↓wE_idx, ↓wE_slc, ↓wE_fld, ↓wE_meth, ↓wE_new, ↓wE_sup, ↓wE_blt, ↓wE_isty, ↓wE_iscl, ↓wE_dnew, ↓wE_dget, ↓wE_din, ↓wE_dget2, ↓wE_sm, ↓wT_cmp, ↓wT_chain, ↓wT_nott, ↓wT_andd, ↓wT_orr, ↓wT_ife, ↓wT_lit, ↓wT_idx, ↓wT_bin, ↓wT_meth, ↓wT_blt, ↓wT_isty, ↓wT_iscl, ↓wT_fld, ↓wT_din, ↓wT_dget, ↓wT_sm, ↓wT_neg, ↓wT_nil, ↓wT_cons, ↓wT_tup, ↓wT_lst, ↓wT_slc, ↓wT_new, ↓wT_comp, ↓wT_sup, ↓wT_dnew, ↓wT_dget2, ↓wT_dpop, ↓wT_clo, ↓wT_ccall, ↓wA_nil, ↓wA_cons, ↓wO_nil, ↓wO_cons, ↓wE_compK, ↓wE_compF, ↓wE_call0, ↓wT_call0, ↓wE_v0, ↓wE_v1, ↓wE_v2, ↓wE_v3, ↓wE_v4, ↓wE_v5, ↓wE_v6, ↓wE_v7, ↓wE_v8, ↓wE_v9, ↓wE_v10, ↓wE_v11, ↓wE_v12, ↓wE_v13, ↓wE_v14, ↓wE_v15, ↓wE_v16, ↓wE_v17, ↓wE_v18, ↓wE_v19, ↓wE_v20, ↓wE_v21, ↓wE_v22, ↓wE_v23, ↓wE_v24, ↓wE_v25, ↓wE_v26, ↓wE_v27, ↓wE_v28, ↓wE_v29, ↓wT_v0, ↓wT_v1, ↓wT_v2, ↓wT_v3, ↓wT_v4, ↓wT_v5, ↓wT_v6, ↓wT_v7, ↓wT_v8, ↓wT_v9, ↓wT_v10, ↓wT_v11, ↓wT_v12, ↓wT_v13, ↓wT_v14, ↓wT_v15, ↓wT_v16, ↓wT_v17, ↓wT_v18, ↓wT_v19, ↓wT_v20, ↓wT_v21, ↓wT_v22, ↓wT_v23, ↓wT_v24, ↓wT_v25, ↓wT_v26, ↓wT_v27, ↓wT_v28, ↓wT_v29, ↓tgt_0, ↓tgt_1, ↓tgt_2, ↓tgt_3, ↓tgt_4, ↓tgt_5, ↓tgt_6, ↓tgt_7, ↓tgt_8, ↓tgt_9, ↓tgt_10, ↓tgt_11, ↓tgt_12, ↓tgt_13, ↓tgt_14, ↓tgt_15, ↓tgt_16, ↓tgt_17, ↓tgt_18, ↓tgt_19, ↓tgt_20, ↓tgt_21, ↓tgt_22, ↓tgt_23, ↓tgt_24, ↓tgt_25, ↓tgt_26, ↓tgt_27, ↓tgt_28, ↓tgt_29, ↓exI_0, ↓exI_1, ↓exI_2, ↓exI_3, ↓exI_4, ↓exI_5, ↓exI_6, ↓exI_7, ↓exI_8, ↓exI_9, ↓exI_10, ↓exI_11, ↓exI_12, ↓exI_13, ↓exI_14, ↓exI_15, ↓exI_16, ↓exI_17, ↓exI_18, ↓exI_19, ↓exI_20, ↓exI_21, ↓exI_22, ↓exI_23, ↓exI_24, ↓exI_25, ↓exI_26, ↓exI_27, ↓exI_28, ↓exI_29, ↓exT_0, ↓exT_1, ↓exT_2, ↓exT_3, ↓exT_4, ↓exT_5, ↓exT_6, ↓exT_7, ↓exT_8, ↓exT_9, ↓exT_10, ↓exT_11, ↓exT_12, ↓exT_13, ↓exT_14, ↓exT_15, ↓exT_16, ↓exT_17, ↓exT_18, ↓exT_19, ↓exT_20, ↓exT_21, ↓exT_22, ↓exT_23, ↓exT_24, ↓exT_25, ↓exT_26, ↓exT_27, ↓exT_28, ↓exT_29, ↓exF_0, ↓exF_1, ↓exF_2, ↓exF_3, ↓exF_4, ↓exF_5, ↓exF_6, ↓exF_7, ↓exF_8, ↓exF_9, ↓exF_10, ↓exF_11, ↓exF_12, ↓exF_13, ↓exF_14, ↓exF_15, ↓exF_16, ↓exF_17, ↓exF_18, ↓exF_19, ↓exF_20, ↓exF_21, ↓exF_22, ↓exF_23, ↓exF_24, ↓exF_25, ↓exF_26, ↓exF_27, ↓exF_28, ↓exF_29, ↓tgt_tn, ↓tgt_tc, ↓wS_skip, ↓wS_seqL, ↓later_at, ↓wS_asg_var, ↓wS_asg_lit, ↓wS_asg_bin, ↓wS_asg_neg, ↓wS_asg_nott, ↓wS_asg_cmp, ↓wS_asg_chain, ↓wS_asg_andd, ↓wS_asg_orr, ↓wS_asg_ife, ↓wS_asg_tup, ↓wS_asg_lst, ↓wS_asg_idx, ↓wS_asg_slc, ↓wS_asg_fld, ↓wS_asg_call, ↓wS_asg_meth, ↓wS_asg_new, ↓wS_asg_blt, ↓wS_asg_isty, ↓wS_asg_iscl, ↓wS_asg_exis, ↓wS_asg_exfl, ↓wS_asg_dnew, ↓wS_asg_dget, ↓wS_asg_din, ↓wS_asg_nil, ↓wS_asg_comp, ↓wS_asg_compF, ↓nxK_at, ↓wS_asgF, ↓wS_asgI, ↓wS_asgD, ↓wS_augN, ↓wS_augI, ↓wS_parL, ↓wS_expr, ↓wS_bm, ↓wS_ret, ↓wS_retN, ↓wS_ite, ↓wFor_cons, ↓wFor_nil, ↓wS_for, ↓wS_brk, ↓wS_cnt, ↓wS_raise, ↓wS_tri, ↓wH_nil, ↓wH_cons0, ↓wH_cons1, ↓tyIs_ref, ↓opBm_appendL, ↓setIL, ↓isL_ref, ↓ob_add, ↓ob_adds, ↓ob_addt, ↓ob_addl, ↓ob_addrl, ↓ob_addlr, ↓ob_addrr, ↓ob_addM, ↓ob_sub, ↓ob_mul, ↓ob_mull, ↓ob_mulM, ↓ob_fdiv, ↓ob_mod, ↓ob_pow, ↓oi_abs, ↓oi_lent, ↓oi_lens, ↓oi_lenr, ↓oi_sortedr, ↓oi_sortedMr, ↓oi_tupler, ↓oi_listr, ↓oi_listMr, ↓oi_sumr, ↓oi_anyr, ↓oi_allr, ↓oi_mxr, ↓oi_mnr, ↓oi_lenl, ↓oi_sortedl, ↓oi_sortedMl, ↓oi_tuplel, ↓oi_listl, ↓oi_listMl, ↓oi_suml, ↓oi_anyl, ↓oi_alll, ↓oi_mxl, ↓oi_mnl, ↓oi_mxt, ↓oi_mnt, ↓oi_max2, ↓oi_min2, ↓oi_int, ↓oi_intb, ↓oi_tuplet, ↓oi_listt, ↓oi_listMt, ↓oi_str, ↓oi_divmod, ↓tru_non, ↓tru_bl, ↓tru_int, ↓tru_str, ↓tru_tup, ↓tru_ref, ↓tru_sl, ↓tyIs_non, ↓tyIs_bl, ↓tyIs_int, ↓tyIs_str, ↓tyIs_tup, ↓tyIs_sl, ↓it_t, ↓it_sr, ↓it_er, ↓it_vr, ↓it_sl, ↓it_el, ↓it_vl, ↓it_z, ↓it_1, ↓it_2, ↓it_3, ↓ltI_i, ↓tl_i, ↓optI_i, ↓osl_t, ↓osl_s, ↓osl_l, ↓osl_r, ↓osl_lM, ↓osl_rM, ↓sq_t, ↓sq_l, ↓getI_i, ↓opIx_tup, ↓opIx_ref, ↓opIx_sl, ↓atQ_0, ↓atQ_1, ↓atQ_2, ↓atQ_3, ↓getL_put, ↓getL_put_ne, ↓getL_put_ne', ↓getL_sl, ↓opC_eq_int, ↓opC_ne_int, ↓opC_eq_bl, ↓opC_ne_bl, ↓opC_eq_t2, ↓opC_ne_t2, ↓opC_eq_t3, ↓opC_ne_t3, ↓opC_eq_t32, ↓opC_ne_t32, ↓opC_lt, ↓opC_le, ↓opC_gt, ↓opC_ge, ↓opC_ne_nil, ↓opC_eq_nil, ↓opC_is, ↓opC_isnot, ↓opC_isb, ↓opC_isnb, ↓opC_isi, ↓opC_isni, ↓opC_ist, ↓opC_isnt, ↓opC_iso, ↓opC_isno, ↓opC_in, ↓opC_notin, ↓finpu_rt, ↓finpu_nx, ↓finpu_ex, ↓finlaw_rt, ↓finlaw_nx, ↓finlaw_ex, ↓finV_rt, ↓finV_nx, ↓finV_ex, ↓finE_rt, ↓finO_rt, ↓finO_ex, ↓finE_ex, ↓finS_rt, ↓finS_ex, ↓finR_ex, ↓finX_rt, ↓finX_nx, ↓finX_ex, put_none, put_put, Val.isNon, intsOf, atI_0, atI_1, atI_2, atI_3, cutG_to, cutG_from, sub_refl_iff, pu_pre, puV_pre, puE_pre, puO_pre, puS_pre, puR_pre, Option.some.injEq, exists_eq_left', exists_eq_left, exists_eq, exists_eq', Val.int.injEq, Val.bl.injEq, Val.str.injEq, Val.tup.injEq, Val.ref.injEq, List.cons.injEq, List.map_cons, List.map_nil, List.length_cons, List.length_nil, List.cons_append, List.nil_append, List.append_nil, Bool.false_eq_true, if_true, if_false, ite_true, ite_false, true_and, and_true, false_and, and_false, Bool.not_true, Bool.not_false, decide_eq_true_eq, bne_iff_ne, ne_eq, beq_iff_eq, put_same, imp_false, false_implies, implies_true, reduceCtorEq, not_false_eq_true, and_self, Bool.or_false, Bool.or_true, Bool.false_or, Bool.true_or, Bool.not_eq_true, Bool.not_eq_eq_eq_not, Bool.decide_eq_false, decide_eq_false_iff_not, Bool.not_eq_true', beq_eq_false_iff_ne, bne_eq_false_iff_eq, List.isEmpty_cons, List.isEmpty_nil, Int.reduceEq, Int.reduceNe, Int.reduceLT, Int.reduceLE, Int.reduceNeg, Int.reduceAdd, Int.reduceSub, Int.reduceMul, Int.reduceToNat, Nat.reduceLT, Nat.reduceLeDiff, Nat.reducePow, Nat.reduceAdd, Nat.reduceSub, ty_bool_bool, ty_bool_int, ty_bool_tuple, ty_bool_list, ty_bool_str, ty_int_bool, ty_int_int, ty_int_tuple, ty_int_list, ty_int_str, ty_tuple_bool, ty_tuple_int, ty_tuple_tuple, ty_tuple_list, ty_tuple_str, ty_list_bool, ty_list_int, ty_list_tuple, ty_list_list, ty_list_str, ty_str_bool, ty_str_int, ty_str_tuple, ty_str_list, ty_str_str, List.set_cons_succ, List.set_cons_zero, wipeE, puX_pre, exn_inj, Nat.reduceEqDiff, List.zip_nil_left, Nat.le_refl, Nat.reduceLeDiff, ↓call__law_point (T0 := T__law_inside) rfl, ck_0_18, ck_1_18, is_0_18, is_1_18, ↓atQ_at e0, ↓atQ_at e1, ↓atQ_at e2]
  have lz := abs_log (hb _ m2)
  have pz : 0 ≤ (if z2 < 0 then -z2 else z2) := by split <;> omega
  have lw' := log2_add (n := 205) (a := 2) (by decide +kernel) (Nat.lt_of_lt_of_le lz (by decide))
  generalize hw : 2 + (if z2 < 0 then -z2 else z2) = w at *
  have hw2 : 2 ≤ w := by omega
  have lw : w.natAbs.log2 < 210 := by omega
  have k1 : 2 ≤ u * w := by have := Int.mul_le_mul_of_nonneg_right (show 1 ≤ u by omega) (show (0 : Int) ≤ w by omega); omega
  have k2 : 2 ≤ v * w := by have := Int.mul_le_mul_of_nonneg_right (show 1 ≤ v by omega) (show (0 : Int) ≤ w by omega); omega
  have f1 := fmod_lo z0 (y := u * w - 1) (by omega)
  have f2 := fmod_hi z0 (y := u * w - 1) (by omega)
  have f3 := fmod_lo z1 (y := v * w - 1) (by omega)
  have f4 := fmod_hi z1 (y := v * w - 1) (by omega)
  refine ⟨mulOk_of (by omega) (by omega), by omega, mulOk_of (by omega) (by omega), by omega, ⟨by omega, by omega⟩, fun p hp => ⟨p, ⟨rfl, rfl, rfl⟩, ?_⟩⟩
  have i1 := in_low (by omega) hp.pos hp.ex (by omega) (show _ < u * w by omega)
  have i2 := in_low (by omega) hp.pos hp.ey (by omega) (show _ < v * w by omega)
  exact ⟨i1.1, i2.1, hp.pos, i1.2, i2.2, log2_lt_of hp.le3 lw, hp.gcd⟩
/-- outside stays outside -/
theorem out_low {u v x y w : Int} {p : Int × Int × Int} (hw : 0 < w) (z : IsP x y w p) (h : Out u v x y w) : Out u v p.1 p.2.1 p.2.2 := by
  have hp := z.pos
  have low : ∀ {x a q : Int}, 0 < q → a * w = x * q → x ≤ 0 → a ≤ 0 := by
    intro x a q hq e hx
    rcases (by omega : a ≤ 0 ∨ 0 < a) with h | h
    · exact h
    · have h1 := Int.mul_pos h hw
      have h2 := Int.mul_nonneg (show 0 ≤ -x by omega) (show 0 ≤ q by omega)
      have h3 : -x * q = -(x * q) := by grind
      omega
  have high : ∀ {u x a q : Int}, 0 < q → a * w = x * q → u * w ≤ x → u * q ≤ a := by
    intro u x a q hq e hx
    refine Int.le_of_mul_le_mul_right (a := w) ?_ hw
    have h1 := Int.mul_le_mul_of_nonneg_right hx (show 0 ≤ q by omega)
    have h2 : u * q * w = u * w * q := by grind
    omega
  unfold Out at *
  rcases h with h | h | h | h | h | h
  · exact .inl h
  · exact .inr (.inl h)
  · exact .inr (.inr (.inl (low hp z.ex h)))
  · exact .inr (.inr (.inr (.inl (low hp z.ey h))))
  · exact .inr (.inr (.inr (.inr (.inl (high hp z.ex h)))))
  · exact .inr (.inr (.inr (.inr (.inr (high hp z.ey h)))))
theorem w__law_spoiled : ∀ as S, (sp__law_spoiled as S).pre → wS T__law_spoiled s__law_spoiled (startE C__law_spoiled.N as) S (fin (sp__law_spoiled as S)) := by
  intro as S h
  unfold sp__law_spoiled at h ⊢
  split at h
  rotate_left
  · exact h.elim
  rename_i n u v x y w m
  change wS T__law_spoiled s__law_spoiled [some (.int n), some (.int u), some (.int v), some (.tup [.int x, .int y, .int w]), some (.int m), none, none, none] S _
  unfold s__law_spoiled
  simp only [↓wE_lit, ↓wE_bin, ↓wE_neg, ↓wE_nott, ↓wE_cmp, ↓wE_chain, ↓wE_andd, ↓wE_orr, ↓wE_ife, ↓wE_nil, ↓wE_cons, ↓wE_tup, ↓wE_lst, ↓wE_idx, ↓wE_slc, ↓wE_fld, ↓wE_meth, ↓wE_new, ↓wE_sup, ↓wE_blt, ↓wE_isty, ↓wE_iscl, ↓wE_dnew, ↓wE_dget, ↓wE_din, ↓wE_dget2, ↓wE_sm, ↓wT_cmp, ↓wT_chain, ↓wT_nott, ↓wT_andd, ↓wT_orr, ↓wT_ife, ↓wT_lit, ↓wT_idx, ↓wT_bin, ↓wT_meth, ↓wT_blt, ↓wT_isty, ↓wT_iscl, ↓wT_fld, ↓wT_din, ↓wT_dget, ↓wT_sm, ↓wT_neg, ↓wT_nil, ↓wT_cons, ↓wT_tup, ↓wT_lst, ↓wT_slc, ↓wT_new, ↓wT_comp, ↓wT_sup, ↓wT_dnew, ↓wT_dget2, ↓wT_dpop, ↓wT_clo, ↓wT_ccall, ↓wA_nil, ↓wA_cons, ↓wO_nil, ↓wO_cons, ↓wE_compK, ↓wE_compF, ↓wE_call0, ↓wT_call0, ↓wE_v0, ↓wE_v1, ↓wE_v2, ↓wE_v3, ↓wE_v4, ↓wE_v5, ↓wE_v6, ↓wE_v7, ↓wE_v8, ↓wE_v9, ↓wE_v10, ↓wE_v11, ↓wE_v12, ↓wE_v13, ↓wE_v14, ↓wE_v15, ↓wE_v16, ↓wE_v17, ↓wE_v18, ↓wE_v19, ↓wE_v20, ↓wE_v21, ↓wE_v22, ↓wE_v23, ↓wE_v24, ↓wE_v25, ↓wE_v26, ↓wE_v27, ↓wE_v28, ↓wE_v29, ↓wT_v0, ↓wT_v1, ↓wT_v2, ↓wT_v3, ↓wT_v4, ↓wT_v5, ↓wT_v6, ↓wT_v7, ↓wT_v8, ↓wT_v9, ↓wT_v10, ↓wT_v11, ↓wT_v12, ↓wT_v13, ↓wT_v14, ↓wT_v15, ↓wT_v16, ↓wT_v17, ↓wT_v18, ↓wT_v19, ↓wT_v20, ↓wT_v21, ↓wT_v22, ↓wT_v23, ↓wT_v24, ↓wT_v25, ↓wT_v26, ↓wT_v27, ↓wT_v28, ↓wT_v29, ↓tgt_0, ↓tgt_1, ↓tgt_2, ↓tgt_3, ↓tgt_4, ↓tgt_5, ↓tgt_6, ↓tgt_7, ↓tgt_8, ↓tgt_9, ↓tgt_10, ↓tgt_11, ↓tgt_12, ↓tgt_13, ↓tgt_14, ↓tgt_15, ↓tgt_16, ↓tgt_17, ↓tgt_18, ↓tgt_19, ↓tgt_20, ↓tgt_21, ↓tgt_22, ↓tgt_23, ↓tgt_24, ↓tgt_25, ↓tgt_26, ↓tgt_27, ↓tgt_28, ↓tgt_29, ↓exI_0, ↓exI_1, ↓exI_2, ↓exI_3, ↓exI_4, ↓exI_5, ↓exI_6, ↓exI_7, ↓exI_8, ↓exI_9, ↓exI_10, ↓exI_11, ↓exI_12, ↓exI_13, ↓exI_14, ↓exI_15, ↓exI_16, ↓exI_17, ↓exI_18, ↓exI_19, ↓exI_20, ↓exI_21, ↓exI_22, ↓exI_23, ↓exI_24, ↓exI_25, ↓exI_26, ↓exI_27, ↓exI_28, ↓exI_29, ↓exT_0, ↓exT_1, ↓exT_2, ↓exT_3, ↓exT_4, ↓exT_5, ↓exT_6, ↓exT_7, ↓exT_8, ↓exT_9, ↓exT_10, ↓exT_11, ↓exT_12, ↓exT_13, ↓exT_14, ↓exT_15, ↓exT_16, ↓exT_17, ↓exT_18, ↓exT_19, ↓exT_20, ↓exT_21, ↓exT_22, ↓exT_23, ↓exT_24, ↓exT_25, ↓exT_26, ↓exT_27, ↓exT_28, ↓exT_29, ↓exF_0, ↓exF_1, ↓exF_2, ↓exF_3, ↓exF_4, ↓exF_5, ↓exF_6, ↓exF_7, ↓exF_8, ↓exF_9, ↓exF_10, ↓exF_11, ↓exF_12, ↓exF_13, ↓exF_14, ↓exF_15, ↓exF_16, ↓exF_17, ↓exF_18, ↓exF_19, ↓exF_20, ↓exF_21, ↓exF_22, ↓exF_23, ↓exF_24, ↓exF_25, ↓exF_26, ↓exF_27, ↓exF_28, ↓exF_29, ↓tgt_tn, ↓tgt_tc, ↓wS_skip, ↓wS_seqL, ↓later_at, ↓wS_asg_var, ↓wS_asg_lit, ↓wS_asg_bin, ↓wS_asg_neg, ↓wS_asg_nott, ↓wS_asg_cmp, ↓wS_asg_chain, ↓wS_asg_andd, ↓wS_asg_orr, ↓wS_asg_ife, ↓wS_asg_tup, ↓wS_asg_lst, ↓wS_asg_idx, ↓wS_asg_slc, ↓wS_asg_fld, ↓wS_asg_call, ↓wS_asg_meth, ↓wS_asg_new, ↓wS_asg_blt, ↓wS_asg_isty, ↓wS_asg_iscl, ↓wS_asg_exis, ↓wS_asg_exfl, ↓wS_asg_dnew, ↓wS_asg_dget, ↓wS_asg_din, ↓wS_asg_nil, ↓wS_asg_comp, ↓wS_asg_compF, ↓nxK_at, ↓wS_asgF, ↓wS_asgI, ↓wS_asgD, ↓wS_augN, ↓wS_augI, ↓wS_parL, ↓wS_expr, ↓wS_bm, ↓wS_ret, ↓wS_retN, ↓wS_ite, ↓wFor_cons, ↓wFor_nil, ↓wS_for, ↓wS_brk, ↓wS_cnt, ↓wS_raise, ↓wS_tri, ↓wH_nil, ↓wH_cons0, ↓wH_cons1, ↓tyIs_ref, ↓opBm_appendL, ↓setIL, ↓isL_ref, ↓ob_add, ↓ob_adds, ↓ob_addt, ↓ob_addl, ↓ob_addrl, ↓ob_addlr, ↓ob_addrr, ↓ob_addM, ↓ob_sub, ↓ob_mul, ↓ob_mull, ↓ob_mulM, ↓ob_fdiv, ↓ob_mod, ↓ob_pow, ↓oi_abs, ↓oi_lent, ↓oi_lens, ↓oi_lenr, ↓oi_sortedr, ↓oi_sortedMr, ↓oi_tupler, ↓oi_listr, ↓oi_listMr, ↓oi_sumr, ↓oi_anyr, ↓oi_allr, ↓oi_mxr, ↓oi_mnr, ↓oi_lenl, ↓oi_sortedl, ↓oi_sortedMl, ↓oi_tuplel, ↓oi_listl, ↓oi_listMl, ↓oi_suml, ↓oi_anyl, ↓oi_alll, ↓oi_mxl, ↓oi_mnl, ↓oi_mxt, ↓oi_mnt, ↓oi_max2, ↓oi_min2, ↓oi_int, ↓oi_intb, ↓oi_tuplet, ↓oi_listt, ↓oi_listMt, ↓oi_str, ↓oi_divmod, ↓tru_non, ↓tru_bl, ↓tru_int, ↓tru_str, ↓tru_tup, ↓tru_ref, ↓tru_sl, ↓tyIs_non, ↓tyIs_bl, ↓tyIs_int, ↓tyIs_str, ↓tyIs_tup, ↓tyIs_sl, ↓it_t, ↓it_sr, ↓it_er, ↓it_vr, ↓it_sl, ↓it_el, ↓it_vl, ↓it_z, ↓it_1, ↓it_2, ↓it_3, ↓ltI_i, ↓tl_i, ↓optI_i, ↓osl_t, ↓osl_s, ↓osl_l, ↓osl_r, ↓osl_lM, ↓osl_rM, ↓sq_t, ↓sq_l, ↓getI_i, ↓opIx_tup, ↓opIx_ref, ↓opIx_sl, ↓atQ_0, ↓atQ_1, ↓atQ_2, ↓atQ_3, ↓getL_put, ↓getL_put_ne, ↓getL_put_ne', ↓getL_sl, ↓opC_eq_int, ↓opC_ne_int, ↓opC_eq_bl, ↓opC_ne_bl, ↓opC_eq_t2, ↓opC_ne_t2, ↓opC_eq_t3, ↓opC_ne_t3, ↓opC_eq_t32, ↓opC_ne_t32, ↓opC_lt, ↓opC_le, ↓opC_gt, ↓opC_ge, ↓opC_ne_nil, ↓opC_eq_nil, ↓opC_is, ↓opC_isnot, ↓opC_isb, ↓opC_isnb, ↓opC_isi, ↓opC_isni, ↓opC_ist, ↓opC_isnt, ↓opC_iso, ↓opC_isno, ↓opC_in, ↓opC_notin, ↓finpu_rt, ↓finpu_nx, ↓finpu_ex, ↓finlaw_rt, ↓finlaw_nx, ↓finlaw_ex, ↓finV_rt, ↓finV_nx, ↓finV_ex, ↓finE_rt, ↓finO_rt, ↓finO_ex, ↓finE_ex, ↓finS_rt, ↓finS_ex, ↓finR_ex, ↓finX_rt, ↓finX_nx, ↓finX_ex, put_none, put_put, Val.isNon, intsOf, atI_0, atI_1, atI_2, atI_3, cutG_to, cutG_from, sub_refl_iff, pu_pre, puV_pre, puE_pre, puO_pre, puS_pre, puR_pre, Option.some.injEq, exists_eq_left', exists_eq_left, exists_eq, exists_eq', Val.int.injEq, Val.bl.injEq, Val.str.injEq, Val.tup.injEq, Val.ref.injEq, List.cons.injEq, List.map_cons, List.map_nil, List.length_cons, List.length_nil, List.cons_append, List.nil_append, List.append_nil, Bool.false_eq_true, if_true, if_false, ite_true, ite_false, true_and, and_true, false_and, and_false, Bool.not_true, Bool.not_false, decide_eq_true_eq, bne_iff_ne, ne_eq, beq_iff_eq, put_same, imp_false, false_implies, implies_true, reduceCtorEq, not_false_eq_true, and_self, Bool.or_false, Bool.or_true, Bool.false_or, Bool.true_or, Bool.not_eq_true, Bool.not_eq_eq_eq_not, Bool.decide_eq_false, decide_eq_false_iff_not, Bool.not_eq_true', beq_eq_false_iff_ne, bne_eq_false_iff_eq, List.isEmpty_cons, List.isEmpty_nil, Int.reduceEq, Int.reduceNe, Int.reduceLT, Int.reduceLE, Int.reduceNeg, Int.reduceAdd, Int.reduceSub, Int.reduceMul, Int.reduceToNat, Nat.reduceLT, Nat.reduceLeDiff, Nat.reducePow, Nat.reduceAdd, Nat.reduceSub, ty_bool_bool, ty_bool_int, ty_bool_tuple, ty_bool_list, ty_bool_str, ty_int_bool, ty_int_int, ty_int_tuple, ty_int_list, ty_int_str, ty_tuple_bool, ty_tuple_int, ty_tuple_tuple, ty_tuple_list, ty_tuple_str, ty_list_bool, ty_list_int, ty_list_tuple, ty_list_list, ty_list_str, ty_str_bool, ty_str_int, ty_str_tuple, ty_str_list, ty_str_str, List.set_cons_succ, List.set_cons_zero, wipeE, puX_pre, exn_inj, Nat.reduceEqDiff, List.zip_nil_left, Nat.le_refl, Nat.reduceLeDiff, ↓call__law_point (T0 := T__law_spoiled) rfl, ck_0_18, ck_1_18, is_0_18, is_1_18]
  obtain ⟨n0, n1, hm, hu, hv, hw, lm, lu, lv, lw, lx, ly⟩ := h
  have luw := log2_mul lu lw
  have lvw := log2_mul lv lw
  have hq : n < 8 → n.fdiv 2 = 0 ∨ n.fdiv 2 = 1 ∨ n.fdiv 2 = 2 ∨ n.fdiv 2 = 3 := by rw [Int.fdiv_eq_ediv_of_nonneg n (by decide)]; omega
  have ml1 : MulOk u w := mulOk_of (by omega) (by omega)
  have ml2 : MulOk v w := mulOk_of (by omega) (by omega)
  have d2 : DivOk n 2 := ⟨by decide, by decide⟩
  have lm1 : (-m).natAbs.log2 < 200 := by rw [Int.natAbs_neg]; exact lm
  have s1 : (-1 - m).natAbs.log2 < 300 := by
    have := log2_add (n := 200) (a := -1) (by decide +kernel) lm1
    have e : -1 - m = -1 + -m := by omega
    rw [e]; omega
  have s2 : ∀ t : Int, t.natAbs.log2 < 420 → (t + 1 + m).natAbs.log2 < 500 := fun t ht => by
    have h1 := log2_add (n := 420) ht (show (1 : Int).natAbs.log2 < 420 by decide +kernel)
    have h2 := log2_add (n := 421) h1 (Nat.lt_of_lt_of_le lm (by decide))
    omega
  have fin : ∀ X Y : Int, Out u v X Y w → X.natAbs.log2 < 500 → Y.natAbs.log2 < 500 → ∀ p, IsP X Y w p → Out u v p.1 p.2.1 p.2.2 ∧ 0 < p.2.2 ∧ Sm u ∧ Sm v ∧ Sm p.1 ∧ Sm p.2.1 ∧ Sm p.2.2 := fun X Y ho hX hY p hp => by
    have l1 := log2_lt_of hp.le1 hX
    have l2 := log2_lt_of hp.le2 hY
    have l3 := log2_lt_of hp.le3 lw
    exact ⟨out_low hw hp ho, hp.pos, by omega, by omega, by omega, by omega, by omega⟩
  split
  · exact ⟨((-m, v), (x, y, w)), ⟨rfl, rfl, rfl, rfl, rfl⟩, .inl (show -m < 1 by omega), hw, by simp only; omega, by simp only; omega, by simp only; omega, by simp only; omega, by simp only; omega⟩
  · split
    · exact ⟨((u, -m), (x, y, w)), ⟨rfl, rfl, rfl, rfl, rfl⟩, .inr (.inl (show -m < 1 by omega)), hw, by simp only; omega, by simp only; omega, by simp only; omega, by simp only; omega, by simp only; omega⟩
    · split
      · refine ⟨ml1, ml1, d2, ?_⟩
        rcases hq (by omega) with e | e | e | e
        all_goals
          rw [e]
          simp only [↓wE_lit, ↓wE_bin, ↓wE_neg, ↓wE_nott, ↓wE_cmp, ↓wE_chain, ↓wE_andd, ↓wE_orr, ↓wE_ife, ↓wE_nil, ↓wE_cons, ↓wE_tup, ↓wE_lst, ↓wE_idx, ↓wE_slc, ↓wE_fld, ↓wE_meth, ↓wE_new, ↓wE_sup, ↓wE_blt, ↓wE_isty, ↓wE_iscl, ↓wE_dnew, ↓wE_dget, ↓wE_din, ↓wE_dget2, ↓wE_sm, ↓wT_cmp, ↓wT_chain, ↓wT_nott, ↓wT_andd, ↓wT_orr, ↓wT_ife, ↓wT_lit, ↓wT_idx, ↓wT_bin, ↓wT_meth, ↓wT_blt, ↓wT_isty, ↓wT_iscl, ↓wT_fld, ↓wT_din, ↓wT_dget, ↓wT_sm, ↓wT_neg, ↓wT_nil, ↓wT_cons, ↓wT_tup, ↓wT_lst, ↓wT_slc, ↓wT_new, ↓wT_comp, ↓wT_sup, ↓wT_dnew, ↓wT_dget2, ↓wT_dpop, ↓wT_clo, ↓wT_ccall, ↓wA_nil, ↓wA_cons, ↓wO_nil, ↓wO_cons, ↓wE_compK, ↓wE_compF, ↓wE_call0, ↓wT_call0, ↓wE_v0, ↓wE_v1, ↓wE_v2, ↓wE_v3, ↓wE_v4, ↓wE_v5, ↓wE_v6, ↓wE_v7, ↓wE_v8, ↓wE_v9, ↓wE_v10, ↓wE_v11, ↓wE_v12, ↓wE_v13, ↓wE_v14, ↓wE_v15, ↓wE_v16, ↓wE_v17, ↓wE_v18, ↓wE_v19, ↓wE_v20, ↓wE_v21, ↓wE_v22, ↓wE_v23, ↓wE_v24, ↓wE_v25, ↓wE_v26, ↓wE_v27, ↓wE_v28, ↓wE_v29, ↓wT_v0, ↓wT_v1, ↓wT_v2, ↓wT_v3, ↓wT_v4, ↓wT_v5, ↓wT_v6, ↓wT_v7, ↓wT_v8, ↓wT_v9, ↓wT_v10, ↓wT_v11, ↓wT_v12, ↓wT_v13, ↓wT_v14, ↓wT_v15, ↓wT_v16, ↓wT_v17, ↓wT_v18, ↓wT_v19, ↓wT_v20, ↓wT_v21, ↓wT_v22, ↓wT_v23, ↓wT_v24, ↓wT_v25, ↓wT_v26, ↓wT_v27, ↓wT_v28, ↓wT_v29, ↓tgt_0, ↓tgt_1, ↓tgt_2, ↓tgt_3, ↓tgt_4, ↓tgt_5, ↓tgt_6, ↓tgt_7, ↓tgt_8, ↓tgt_9, ↓tgt_10, ↓tgt_11, ↓tgt_12, ↓tgt_13, ↓tgt_14, ↓tgt_15, ↓tgt_16, ↓tgt_17, ↓tgt_18, ↓tgt_19, ↓tgt_20, ↓tgt_21, ↓tgt_22, ↓tgt_23, ↓tgt_24, ↓tgt_25, ↓tgt_26, ↓tgt_27, ↓tgt_28, ↓tgt_29, ↓exI_0, ↓exI_1, ↓exI_2, ↓exI_3, ↓exI_4, ↓exI_5, ↓exI_6, ↓exI_7, ↓exI_8, ↓exI_9, ↓exI_10, ↓exI_11, ↓exI_12, ↓exI_13, ↓exI_14, ↓exI_15, ↓exI_16, ↓exI_17, ↓exI_18, ↓exI_19, ↓exI_20, ↓exI_21, ↓exI_22, ↓exI_23, ↓exI_24, ↓exI_25, ↓exI_26, ↓exI_27, ↓exI_28, ↓exI_29, ↓exT_0, ↓exT_1, ↓exT_2, ↓exT_3, ↓exT_4, ↓exT_5, ↓exT_6, ↓exT_7, ↓exT_8, ↓exT_9, ↓exT_10, ↓exT_11, ↓exT_12, ↓exT_13, ↓exT_14, ↓exT_15, ↓exT_16, ↓exT_17, ↓exT_18, ↓exT_19, ↓exT_20, ↓exT_21, ↓exT_22, ↓exT_23, ↓exT_24, ↓exT_25, ↓exT_26, ↓exT_27, ↓exT_28, ↓exT_29, ↓exF_0, ↓exF_1, ↓exF_2, ↓exF_3, ↓exF_4, ↓exF_5, ↓exF_6, ↓exF_7, ↓exF_8, ↓exF_9, ↓exF_10, ↓exF_11, ↓exF_12, ↓exF_13, ↓exF_14, ↓exF_15, ↓exF_16, ↓exF_17, ↓exF_18, ↓exF_19, ↓exF_20, ↓exF_21, ↓exF_22, ↓exF_23, ↓exF_24, ↓exF_25, ↓exF_26, ↓exF_27, ↓exF_28, ↓exF_29, ↓tgt_tn, ↓tgt_tc, ↓wS_skip, ↓wS_seqL, ↓later_at, ↓wS_asg_var, ↓wS_asg_lit, ↓wS_asg_bin, ↓wS_asg_neg, ↓wS_asg_nott, ↓wS_asg_cmp, ↓wS_asg_chain, ↓wS_asg_andd, ↓wS_asg_orr, ↓wS_asg_ife, ↓wS_asg_tup, ↓wS_asg_lst, ↓wS_asg_idx, ↓wS_asg_slc, ↓wS_asg_fld, ↓wS_asg_call, ↓wS_asg_meth, ↓wS_asg_new, ↓wS_asg_blt, ↓wS_asg_isty, ↓wS_asg_iscl, ↓wS_asg_exis, ↓wS_asg_exfl, ↓wS_asg_dnew, ↓wS_asg_dget, ↓wS_asg_din, ↓wS_asg_nil, ↓wS_asg_comp, ↓wS_asg_compF, ↓nxK_at, ↓wS_asgF, ↓wS_asgI, ↓wS_asgD, ↓wS_augN, ↓wS_augI, ↓wS_parL, ↓wS_expr, ↓wS_bm, ↓wS_ret, ↓wS_retN, ↓wS_ite, ↓wFor_cons, ↓wFor_nil, ↓wS_for, ↓wS_brk, ↓wS_cnt, ↓wS_raise, ↓wS_tri, ↓wH_nil, ↓wH_cons0, ↓wH_cons1, ↓tyIs_ref, ↓opBm_appendL, ↓setIL, ↓isL_ref, ↓ob_add, ↓ob_adds, ↓ob_addt, ↓ob_addl, ↓ob_addrl, ↓ob_addlr, ↓ob_addrr, ↓ob_addM, ↓ob_sub, ↓ob_mul, ↓ob_mull, ↓ob_mulM, ↓ob_fdiv, ↓ob_mod, ↓ob_pow, ↓oi_abs, ↓oi_lent, ↓oi_lens, ↓oi_lenr, ↓oi_sortedr, ↓oi_sortedMr, ↓oi_tupler, ↓oi_listr, ↓oi_listMr, ↓oi_sumr, ↓oi_anyr, ↓oi_allr, ↓oi_mxr, ↓oi_mnr, ↓oi_lenl, ↓oi_sortedl, ↓oi_sortedMl, ↓oi_tuplel, ↓oi_listl, ↓oi_listMl, ↓oi_suml, ↓oi_anyl, ↓oi_alll, ↓oi_mxl, ↓oi_mnl, ↓oi_mxt, ↓oi_mnt, ↓oi_max2, ↓oi_min2, ↓oi_int, ↓oi_intb, ↓oi_tuplet, ↓oi_listt, ↓oi_listMt, ↓oi_str, ↓oi_divmod, ↓tru_non, ↓tru_bl, ↓tru_int, ↓tru_str, ↓tru_tup, ↓tru_ref, ↓tru_sl, ↓tyIs_non, ↓tyIs_bl, ↓tyIs_int, ↓tyIs_str, ↓tyIs_tup, ↓tyIs_sl, ↓it_t, ↓it_sr, ↓it_er, ↓it_vr, ↓it_sl, ↓it_el, ↓it_vl, ↓it_z, ↓it_1, ↓it_2, ↓it_3, ↓ltI_i, ↓tl_i, ↓optI_i, ↓osl_t, ↓osl_s, ↓osl_l, ↓osl_r, ↓osl_lM, ↓osl_rM, ↓sq_t, ↓sq_l, ↓getI_i, ↓opIx_tup, ↓opIx_ref, ↓opIx_sl, ↓atQ_0, ↓atQ_1, ↓atQ_2, ↓atQ_3, ↓getL_put, ↓getL_put_ne, ↓getL_put_ne', ↓getL_sl, ↓opC_eq_int, ↓opC_ne_int, ↓opC_eq_bl, ↓opC_ne_bl, ↓opC_eq_t2, ↓opC_ne_t2, ↓opC_eq_t3, ↓opC_ne_t3, ↓opC_eq_t32, ↓opC_ne_t32, ↓opC_lt, ↓opC_le, ↓opC_gt, ↓opC_ge, ↓opC_ne_nil, ↓opC_eq_nil, ↓opC_is, ↓opC_isnot, ↓opC_isb, ↓opC_isnb, ↓opC_isi, ↓opC_isni, ↓opC_ist, ↓opC_isnt, ↓opC_iso, ↓opC_isno, ↓opC_in, ↓opC_notin, ↓finpu_rt, ↓finpu_nx, ↓finpu_ex, ↓finlaw_rt, ↓finlaw_nx, ↓finlaw_ex, ↓finV_rt, ↓finV_nx, ↓finV_ex, ↓finE_rt, ↓finO_rt, ↓finO_ex, ↓finE_ex, ↓finS_rt, ↓finS_ex, ↓finR_ex, ↓finX_rt, ↓finX_nx, ↓finX_ex, put_none, put_put, Val.isNon, intsOf, atI_0, atI_1, atI_2, atI_3, cutG_to, cutG_from, sub_refl_iff, pu_pre, puV_pre, puE_pre, puO_pre, puS_pre, puR_pre, Option.some.injEq, exists_eq_left', exists_eq_left, exists_eq, exists_eq', Val.int.injEq, Val.bl.injEq, Val.str.injEq, Val.tup.injEq, Val.ref.injEq, List.cons.injEq, List.map_cons, List.map_nil, List.length_cons, List.length_nil, List.cons_append, List.nil_append, List.append_nil, Bool.false_eq_true, if_true, if_false, ite_true, ite_false, true_and, and_true, false_and, and_false, Bool.not_true, Bool.not_false, decide_eq_true_eq, bne_iff_ne, ne_eq, beq_iff_eq, put_same, imp_false, false_implies, implies_true, reduceCtorEq, not_false_eq_true, and_self, Bool.or_false, Bool.or_true, Bool.false_or, Bool.true_or, Bool.not_eq_true, Bool.not_eq_eq_eq_not, Bool.decide_eq_false, decide_eq_false_iff_not, Bool.not_eq_true', beq_eq_false_iff_ne, bne_eq_false_iff_eq, List.isEmpty_cons, List.isEmpty_nil, Int.reduceEq, Int.reduceNe, Int.reduceLT, Int.reduceLE, Int.reduceNeg, Int.reduceAdd, Int.reduceSub, Int.reduceMul, Int.reduceToNat, Nat.reduceLT, Nat.reduceLeDiff, Nat.reducePow, Nat.reduceAdd, Nat.reduceSub, ty_bool_bool, ty_bool_int, ty_bool_tuple, ty_bool_list, ty_bool_str, ty_int_bool, ty_int_int, ty_int_tuple, ty_int_list, ty_int_str, ty_tuple_bool, ty_tuple_int, ty_tuple_tuple, ty_tuple_list, ty_tuple_str, ty_list_bool, ty_list_int, ty_list_tuple, ty_list_list, ty_list_str, ty_str_bool, ty_str_int, ty_str_tuple, ty_str_list, ty_str_str, List.set_cons_succ, List.set_cons_zero, wipeE, puX_pre, exn_inj, Nat.reduceEqDiff, List.zip_nil_left, Nat.le_refl, Nat.reduceLeDiff, ↓call__law_point (T0 := T__law_spoiled) rfl, ck_0_18, ck_1_18, is_0_18, is_1_18]
          refine ⟨⟨hw, by omega⟩, fun p hp => ?_⟩
        · exact ⟨((u, v), p), ⟨rfl, rfl, rfl, rfl, rfl⟩, fin _ _ (.inr (.inr (.inl (by omega)))) (by decide) (by omega) p hp⟩
        · exact ⟨((u, v), p), ⟨rfl, rfl, rfl, rfl, rfl⟩, fin _ _ (.inr (.inr (.inr (.inr (.inl (by omega)))))) (by omega) (by omega) p hp⟩
        · exact ⟨((u, v), p), ⟨rfl, rfl, rfl, rfl, rfl⟩, fin _ _ (.inr (.inr (.inl (by omega)))) (by omega) (by omega) p hp⟩
        · exact ⟨((u, v), p), ⟨rfl, rfl, rfl, rfl, rfl⟩, fin _ _ (.inr (.inr (.inr (.inr (.inl (by omega)))))) (s2 _ (by omega)) (by omega) p hp⟩
      · refine ⟨ml2, ml2, d2, ?_⟩
        rcases hq (by omega) with e | e | e | e
        all_goals
          rw [e]
          simp only [↓wE_lit, ↓wE_bin, ↓wE_neg, ↓wE_nott, ↓wE_cmp, ↓wE_chain, ↓wE_andd, ↓wE_orr, ↓wE_ife, ↓wE_nil, ↓wE_cons, ↓wE_tup, ↓wE_lst, ↓wE_idx, ↓wE_slc, ↓wE_fld, ↓wE_meth, ↓wE_new, ↓wE_sup, ↓wE_blt, ↓wE_isty, ↓wE_iscl, ↓wE_dnew, ↓wE_dget, ↓wE_din, ↓wE_dget2, ↓wE_sm, ↓wT_cmp, ↓wT_chain, ↓wT_nott, ↓wT_andd, ↓wT_orr, ↓wT_ife, ↓wT_lit, ↓wT_idx, ↓wT_bin, ↓wT_meth, ↓wT_blt, ↓wT_isty, ↓wT_iscl, ↓wT_fld, ↓wT_din, ↓wT_dget, ↓wT_sm, ↓wT_neg, ↓wT_nil, ↓wT_cons, ↓wT_tup, ↓wT_lst, ↓wT_slc, ↓wT_new, ↓wT_comp, ↓wT_sup, ↓wT_dnew, ↓wT_dget2, ↓wT_dpop, ↓wT_clo, ↓wT_ccall, ↓wA_nil, ↓wA_cons, ↓wO_nil, ↓wO_cons, ↓wE_compK, ↓wE_compF, ↓wE_call0, ↓wT_call0, ↓wE_v0, ↓wE_v1, ↓wE_v2, ↓wE_v3, ↓wE_v4, ↓wE_v5, ↓wE_v6, ↓wE_v7, ↓wE_v8, ↓wE_v9, ↓wE_v10, ↓wE_v11, ↓wE_v12, ↓wE_v13, ↓wE_v14, ↓wE_v15, ↓wE_v16, ↓wE_v17, ↓wE_v18, ↓wE_v19, ↓wE_v20, ↓wE_v21, ↓wE_v22, ↓wE_v23, ↓wE_v24, ↓wE_v25, ↓wE_v26, ↓wE_v27, ↓wE_v28, ↓wE_v29, ↓wT_v0, ↓wT_v1, ↓wT_v2, ↓wT_v3, ↓wT_v4, ↓wT_v5, ↓wT_v6, ↓wT_v7, ↓wT_v8, ↓wT_v9, ↓wT_v10, ↓wT_v11, ↓wT_v12, ↓wT_v13, ↓wT_v14, ↓wT_v15, ↓wT_v16, ↓wT_v17, ↓wT_v18, ↓wT_v19, ↓wT_v20, ↓wT_v21, ↓wT_v22, ↓wT_v23, ↓wT_v24, ↓wT_v25, ↓wT_v26, ↓wT_v27, ↓wT_v28, ↓wT_v29, ↓tgt_0, ↓tgt_1, ↓tgt_2, ↓tgt_3, ↓tgt_4, ↓tgt_5, ↓tgt_6, ↓tgt_7, ↓tgt_8, ↓tgt_9, ↓tgt_10, ↓tgt_11, ↓tgt_12, ↓tgt_13, ↓tgt_14, ↓tgt_15, ↓tgt_16, ↓tgt_17, ↓tgt_18, ↓tgt_19, ↓tgt_20, ↓tgt_21, ↓tgt_22, ↓tgt_23, ↓tgt_24, ↓tgt_25, ↓tgt_26, ↓tgt_27, ↓tgt_28, ↓tgt_29, ↓exI_0, ↓exI_1, ↓exI_2, ↓exI_3, ↓exI_4, ↓exI_5, ↓exI_6, ↓exI_7, ↓exI_8, ↓exI_9, ↓exI_10, ↓exI_11, ↓exI_12, ↓exI_13, ↓exI_14, ↓exI_15, ↓exI_16, ↓exI_17, ↓exI_18, ↓exI_19, ↓exI_20, ↓exI_21, ↓exI_22, ↓exI_23, ↓exI_24, ↓exI_25, ↓exI_26, ↓exI_27, ↓exI_28, ↓exI_29, ↓exT_0, ↓exT_1, ↓exT_2, ↓exT_3, ↓exT_4, ↓exT_5, ↓exT_6, ↓exT_7, ↓exT_8, ↓exT_9, ↓exT_10, ↓exT_11, ↓exT_12, ↓exT_13, ↓exT_14, ↓exT_15, ↓exT_16, ↓exT_17, ↓exT_18, ↓exT_19, ↓exT_20, ↓exT_21, ↓exT_22, ↓exT_23, ↓exT_24, ↓exT_25, ↓exT_26, ↓exT_27, ↓exT_28, ↓exT_29, ↓exF_0, ↓exF_1, ↓exF_2, ↓exF_3, ↓exF_4, ↓exF_5, ↓exF_6, ↓exF_7, ↓exF_8, ↓exF_9, ↓exF_10, ↓exF_11, ↓exF_12, ↓exF_13, ↓exF_14, ↓exF_15, ↓exF_16, ↓exF_17, ↓exF_18, ↓exF_19, ↓exF_20, ↓exF_21, ↓exF_22, ↓exF_23, ↓exF_24, ↓exF_25, ↓exF_26, ↓exF_27, ↓exF_28, ↓exF_29, ↓tgt_tn, ↓tgt_tc, ↓wS_skip, ↓wS_seqL, ↓later_at, ↓wS_asg_var, ↓wS_asg_lit, ↓wS_asg_bin, ↓wS_asg_neg, ↓wS_asg_nott, ↓wS_asg_cmp, ↓wS_asg_chain, ↓wS_asg_andd, ↓wS_asg_orr, ↓wS_asg_ife, ↓wS_asg_tup, ↓wS_asg_lst, ↓wS_asg_idx, ↓wS_asg_slc, ↓wS_asg_fld, ↓wS_asg_call, ↓wS_asg_meth, ↓wS_asg_new, ↓wS_asg_blt, ↓wS_asg_isty, ↓wS_asg_iscl, ↓wS_asg_exis, ↓wS_asg_exfl, ↓wS_asg_dnew, ↓wS_asg_dget, ↓wS_asg_din, ↓wS_asg_nil, ↓wS_asg_comp, ↓wS_asg_compF, ↓nxK_at, ↓wS_asgF, ↓wS_asgI, ↓wS_asgD, ↓wS_augN, ↓wS_augI, ↓wS_parL, ↓wS_expr, ↓wS_bm, ↓wS_ret, ↓wS_retN, ↓wS_ite, ↓wFor_cons, ↓wFor_nil, ↓wS_for, ↓wS_brk, ↓wS_cnt, ↓wS_raise, ↓wS_tri, ↓wH_nil, ↓wH_cons0, ↓wH_cons1, ↓tyIs_ref, ↓opBm_appendL, ↓setIL, ↓isL_ref, ↓ob_add, ↓ob_adds, ↓ob_addt, ↓ob_addl, ↓ob_addrl, ↓ob_addlr, ↓ob_addrr, ↓ob_addM, ↓ob_sub, ↓ob_mul, ↓ob_mull, ↓ob_mulM, ↓ob_fdiv, ↓ob_mod, ↓ob_pow, ↓oi_abs, ↓oi_lent, ↓oi_lens, ↓oi_lenr, ↓oi_sortedr, ↓oi_sortedMr, ↓oi_tupler, ↓oi_listr, ↓oi_listMr, ↓oi_sumr, ↓oi_anyr, ↓oi_allr, ↓oi_mxr, ↓oi_mnr, ↓oi_lenl, ↓oi_sortedl, ↓oi_sortedMl, ↓oi_tuplel, ↓oi_listl, ↓oi_listMl, ↓oi_suml, ↓oi_anyl, ↓oi_alll, ↓oi_mxl, ↓oi_mnl, ↓oi_mxt, ↓oi_mnt, ↓oi_max2, ↓oi_min2, ↓oi_int, ↓oi_intb, ↓oi_tuplet, ↓oi_listt, ↓oi_listMt, ↓oi_str, ↓oi_divmod, ↓tru_non, ↓tru_bl, ↓tru_int, ↓tru_str, ↓tru_tup, ↓tru_ref, ↓tru_sl, ↓tyIs_non, ↓tyIs_bl, ↓tyIs_int, ↓tyIs_str, ↓tyIs_tup, ↓tyIs_sl, ↓it_t, ↓it_sr, ↓it_er, ↓it_vr, ↓it_sl, ↓it_el, ↓it_vl, ↓it_z, ↓it_1, ↓it_2, ↓it_3, ↓ltI_i, ↓tl_i, ↓optI_i, ↓osl_t, ↓osl_s, ↓osl_l, ↓osl_r, ↓osl_lM, ↓osl_rM, ↓sq_t, ↓sq_l, ↓getI_i, ↓opIx_tup, ↓opIx_ref, ↓opIx_sl, ↓atQ_0, ↓atQ_1, ↓atQ_2, ↓atQ_3, ↓getL_put, ↓getL_put_ne, ↓getL_put_ne', ↓getL_sl, ↓opC_eq_int, ↓opC_ne_int, ↓opC_eq_bl, ↓opC_ne_bl, ↓opC_eq_t2, ↓opC_ne_t2, ↓opC_eq_t3, ↓opC_ne_t3, ↓opC_eq_t32, ↓opC_ne_t32, ↓opC_lt, ↓opC_le, ↓opC_gt, ↓opC_ge, ↓opC_ne_nil, ↓opC_eq_nil, ↓opC_is, ↓opC_isnot, ↓opC_isb, ↓opC_isnb, ↓opC_isi, ↓opC_isni, ↓opC_ist, ↓opC_isnt, ↓opC_iso, ↓opC_isno, ↓opC_in, ↓opC_notin, ↓finpu_rt, ↓finpu_nx, ↓finpu_ex, ↓finlaw_rt, ↓finlaw_nx, ↓finlaw_ex, ↓finV_rt, ↓finV_nx, ↓finV_ex, ↓finE_rt, ↓finO_rt, ↓finO_ex, ↓finE_ex, ↓finS_rt, ↓finS_ex, ↓finR_ex, ↓finX_rt, ↓finX_nx, ↓finX_ex, put_none, put_put, Val.isNon, intsOf, atI_0, atI_1, atI_2, atI_3, cutG_to, cutG_from, sub_refl_iff, pu_pre, puV_pre, puE_pre, puO_pre, puS_pre, puR_pre, Option.some.injEq, exists_eq_left', exists_eq_left, exists_eq, exists_eq', Val.int.injEq, Val.bl.injEq, Val.str.injEq, Val.tup.injEq, Val.ref.injEq, List.cons.injEq, List.map_cons, List.map_nil, List.length_cons, List.length_nil, List.cons_append, List.nil_append, List.append_nil, Bool.false_eq_true, if_true, if_false, ite_true, ite_false, true_and, and_true, false_and, and_false, Bool.not_true, Bool.not_false, decide_eq_true_eq, bne_iff_ne, ne_eq, beq_iff_eq, put_same, imp_false, false_implies, implies_true, reduceCtorEq, not_false_eq_true, and_self, Bool.or_false, Bool.or_true, Bool.false_or, Bool.true_or, Bool.not_eq_true, Bool.not_eq_eq_eq_not, Bool.decide_eq_false, decide_eq_false_iff_not, Bool.not_eq_true', beq_eq_false_iff_ne, bne_eq_false_iff_eq, List.isEmpty_cons, List.isEmpty_nil, Int.reduceEq, Int.reduceNe, Int.reduceLT, Int.reduceLE, Int.reduceNeg, Int.reduceAdd, Int.reduceSub, Int.reduceMul, Int.reduceToNat, Nat.reduceLT, Nat.reduceLeDiff, Nat.reducePow, Nat.reduceAdd, Nat.reduceSub, ty_bool_bool, ty_bool_int, ty_bool_tuple, ty_bool_list, ty_bool_str, ty_int_bool, ty_int_int, ty_int_tuple, ty_int_list, ty_int_str, ty_tuple_bool, ty_tuple_int, ty_tuple_tuple, ty_tuple_list, ty_tuple_str, ty_list_bool, ty_list_int, ty_list_tuple, ty_list_list, ty_list_str, ty_str_bool, ty_str_int, ty_str_tuple, ty_str_list, ty_str_str, List.set_cons_succ, List.set_cons_zero, wipeE, puX_pre, exn_inj, Nat.reduceEqDiff, List.zip_nil_left, Nat.le_refl, Nat.reduceLeDiff, ↓call__law_point (T0 := T__law_spoiled) rfl, ck_0_18, ck_1_18, is_0_18, is_1_18]
          refine ⟨⟨hw, by omega⟩, fun p hp => ?_⟩
        · exact ⟨((u, v), p), ⟨rfl, rfl, rfl, rfl, rfl⟩, fin _ _ (.inr (.inr (.inr (.inl (by omega))))) (by omega) (by decide) p hp⟩
        · exact ⟨((u, v), p), ⟨rfl, rfl, rfl, rfl, rfl⟩, fin _ _ (.inr (.inr (.inr (.inr (.inr (by omega)))))) (by omega) (by omega) p hp⟩
        · exact ⟨((u, v), p), ⟨rfl, rfl, rfl, rfl, rfl⟩, fin _ _ (.inr (.inr (.inr (.inl (by omega))))) (by omega) (by omega) p hp⟩
        · exact ⟨((u, v), p), ⟨rfl, rfl, rfl, rfl, rfl⟩, fin _ _ (.inr (.inr (.inr (.inr (.inr (by omega)))))) (by omega) (s2 _ (by omega)) p hp⟩
theorem w__law_asked : ∀ as S, (sp__law_asked as S).pre → wS T__law_asked s__law_asked (startE C__law_asked.N as) S (fin (sp__law_asked as S)) := by
  intro as S h
  unfold sp__law_asked at h ⊢
  split at h
  rotate_left
  · exact h.elim
  rename_i n u v x y w a b
  change wS T__law_asked s__law_asked [some (.int n), some (.int u), some (.int v), some (.tup [.int x, .int y, .int w]), some (.tup [.int a, .int b])] S _
  unfold s__law_asked
  simp only [↓wE_lit, ↓wE_bin, ↓wE_neg, ↓wE_nott, ↓wE_cmp, ↓wE_chain, ↓wE_andd, ↓wE_orr, ↓wE_ife, ↓wE_nil, ↓wE_cons, ↓wE_tup, ↓wE_lst, ↓wE_idx, ↓wE_slc, ↓wE_fld, ↓wE_meth, ↓wE_new, ↓wE_sup, ↓wE_blt, ↓wE_isty, ↓wE_iscl, ↓wE_dnew, ↓wE_dget, ↓wE_din, ↓wE_dget2, ↓wE_sm, ↓wT_cmp, ↓wT_chain, ↓wT_nott, ↓wT_andd, ↓wT_orr, ↓wT_ife, ↓wT_lit, ↓wT_idx, ↓wT_bin, ↓wT_meth, ↓wT_blt, ↓wT_isty, ↓wT_iscl, ↓wT_fld, ↓wT_din, ↓wT_dget, ↓wT_sm, ↓wT_neg, ↓wT_nil, ↓wT_cons, ↓wT_tup, ↓wT_lst, ↓wT_slc, ↓wT_new, ↓wT_comp, ↓wT_sup, ↓wT_dnew, ↓wT_dget2, ↓wT_dpop, ↓wT_clo, ↓wT_ccall, ↓wA_nil, ↓wA_cons, ↓wO_nil, ↓wO_cons, ↓wE_compK, ↓wE_compF, ↓wE_call0, ↓wT_call0, ↓wE_v0, ↓wE_v1, ↓wE_v2, ↓wE_v3, ↓wE_v4, ↓wE_v5, ↓wE_v6, ↓wE_v7, ↓wE_v8, ↓wE_v9, ↓wE_v10, ↓wE_v11, ↓wE_v12, ↓wE_v13, ↓wE_v14, ↓wE_v15, ↓wE_v16, ↓wE_v17, ↓wE_v18, ↓wE_v19, ↓wE_v20, ↓wE_v21, ↓wE_v22, ↓wE_v23, ↓wE_v24, ↓wE_v25, ↓wE_v26, ↓wE_v27, ↓wE_v28, ↓wE_v29, ↓wT_v0, ↓wT_v1, ↓wT_v2, ↓wT_v3, ↓wT_v4, ↓wT_v5, ↓wT_v6, ↓wT_v7, ↓wT_v8, ↓wT_v9, ↓wT_v10, ↓wT_v11, ↓wT_v12, ↓wT_v13, ↓wT_v14, ↓wT_v15, ↓wT_v16, ↓wT_v17, ↓wT_v18, ↓wT_v19, ↓wT_v20, ↓wT_v21, ↓wT_v22, ↓wT_v23, ↓wT_v24, ↓wT_v25, ↓wT_v26, ↓wT_v27, ↓wT_v28, ↓wT_v29, ↓tgt_0, ↓tgt_1, ↓tgt_2, ↓tgt_3, ↓tgt_4, ↓tgt_5, ↓tgt_6, ↓tgt_7, ↓tgt_8, ↓tgt_9, ↓tgt_10, ↓tgt_11, ↓tgt_12, ↓tgt_13, ↓tgt_14, ↓tgt_15, ↓tgt_16, ↓tgt_17, ↓tgt_18, ↓tgt_19, ↓tgt_20, ↓tgt_21, ↓tgt_22, ↓tgt_23, ↓tgt_24, ↓tgt_25, ↓tgt_26, ↓tgt_27, ↓tgt_28, ↓tgt_29, ↓exI_0, ↓exI_1, ↓exI_2, ↓exI_3, ↓exI_4, ↓exI_5, ↓exI_6, ↓exI_7, ↓exI_8, ↓exI_9, ↓exI_10, ↓exI_11, ↓exI_12, ↓exI_13, ↓exI_14, ↓exI_15, ↓exI_16, ↓exI_17, ↓exI_18, ↓exI_19, ↓exI_20, ↓exI_21, ↓exI_22, ↓exI_23, ↓exI_24, ↓exI_25, ↓exI_26, ↓exI_27, ↓exI_28, ↓exI_29, ↓exT_0, ↓exT_1, ↓exT_2, ↓exT_3, ↓exT_4, ↓exT_5, ↓exT_6, ↓exT_7, ↓exT_8, ↓exT_9, ↓exT_10, ↓exT_11, ↓exT_12, ↓exT_13, ↓exT_14, ↓exT_15, ↓exT_16, ↓exT_17, ↓exT_18, ↓exT_19, ↓exT_20, ↓exT_21, ↓exT_22, ↓exT_23, ↓exT_24, ↓exT_25, ↓exT_26, ↓exT_27, ↓exT_28, ↓exT_29, ↓exF_0, ↓exF_1, ↓exF_2, ↓exF_3, ↓exF_4, ↓exF_5, ↓exF_6, ↓exF_7, ↓exF_8, ↓exF_9, ↓exF_10, ↓exF_11, ↓exF_12, ↓exF_13, ↓exF_14, ↓exF_15, ↓exF_16, ↓exF_17, ↓exF_18, ↓exF_19, ↓exF_20, ↓exF_21, ↓exF_22, ↓exF_23, ↓exF_24, ↓exF_25, ↓exF_26, ↓exF_27, ↓exF_28, ↓exF_29, ↓tgt_tn, ↓tgt_tc, ↓wS_skip, ↓wS_seqL, ↓later_at, ↓wS_asg_var, ↓wS_asg_lit, ↓wS_asg_bin, ↓wS_asg_neg, ↓wS_asg_nott, ↓wS_asg_cmp, ↓wS_asg_chain, ↓wS_asg_andd, ↓wS_asg_orr, ↓wS_asg_ife, ↓wS_asg_tup, ↓wS_asg_lst, ↓wS_asg_idx, ↓wS_asg_slc, ↓wS_asg_fld, ↓wS_asg_call, ↓wS_asg_meth, ↓wS_asg_new, ↓wS_asg_blt, ↓wS_asg_isty, ↓wS_asg_iscl, ↓wS_asg_exis, ↓wS_asg_exfl, ↓wS_asg_dnew, ↓wS_asg_dget, ↓wS_asg_din, ↓wS_asg_nil, ↓wS_asg_comp, ↓wS_asg_compF, ↓nxK_at, ↓wS_asgF, ↓wS_asgI, ↓wS_asgD, ↓wS_augN, ↓wS_augI, ↓wS_parL, ↓wS_expr, ↓wS_bm, ↓wS_ret, ↓wS_retN, ↓wS_ite, ↓wFor_cons, ↓wFor_nil, ↓wS_for, ↓wS_brk, ↓wS_cnt, ↓wS_raise, ↓wS_tri, ↓wH_nil, ↓wH_cons0, ↓wH_cons1, ↓tyIs_ref, ↓opBm_appendL, ↓setIL, ↓isL_ref, ↓ob_add, ↓ob_adds, ↓ob_addt, ↓ob_addl, ↓ob_addrl, ↓ob_addlr, ↓ob_addrr, ↓ob_addM, ↓ob_sub, ↓ob_mul, ↓ob_mull, ↓ob_mulM, ↓ob_fdiv, ↓ob_mod, ↓ob_pow, ↓oi_abs, ↓oi_lent, ↓oi_lens, ↓oi_lenr, ↓oi_sortedr, ↓oi_sortedMr, ↓oi_tupler, ↓oi_listr, ↓oi_listMr, ↓oi_sumr, ↓oi_anyr, ↓oi_allr, ↓oi_mxr, ↓oi_mnr, ↓oi_lenl, ↓oi_sortedl, ↓oi_sortedMl, ↓oi_tuplel, ↓oi_listl, ↓oi_listMl, ↓oi_suml, ↓oi_anyl, ↓oi_alll, ↓oi_mxl, ↓oi_mnl, ↓oi_mxt, ↓oi_mnt, ↓oi_max2, ↓oi_min2, ↓oi_int, ↓oi_intb, ↓oi_tuplet, ↓oi_listt, ↓oi_listMt, ↓oi_str, ↓oi_divmod, ↓tru_non, ↓tru_bl, ↓tru_int, ↓tru_str, ↓tru_tup, ↓tru_ref, ↓tru_sl, ↓tyIs_non, ↓tyIs_bl, ↓tyIs_int, ↓tyIs_str, ↓tyIs_tup, ↓tyIs_sl, ↓it_t, ↓it_sr, ↓it_er, ↓it_vr, ↓it_sl, ↓it_el, ↓it_vl, ↓it_z, ↓it_1, ↓it_2, ↓it_3, ↓ltI_i, ↓tl_i, ↓optI_i, ↓osl_t, ↓osl_s, ↓osl_l, ↓osl_r, ↓osl_lM, ↓osl_rM, ↓sq_t, ↓sq_l, ↓getI_i, ↓opIx_tup, ↓opIx_ref, ↓opIx_sl, ↓atQ_0, ↓atQ_1, ↓atQ_2, ↓atQ_3, ↓getL_put, ↓getL_put_ne, ↓getL_put_ne', ↓getL_sl, ↓opC_eq_int, ↓opC_ne_int, ↓opC_eq_bl, ↓opC_ne_bl, ↓opC_eq_t2, ↓opC_ne_t2, ↓opC_eq_t3, ↓opC_ne_t3, ↓opC_eq_t32, ↓opC_ne_t32, ↓opC_lt, ↓opC_le, ↓opC_gt, ↓opC_ge, ↓opC_ne_nil, ↓opC_eq_nil, ↓opC_is, ↓opC_isnot, ↓opC_isb, ↓opC_isnb, ↓opC_isi, ↓opC_isni, ↓opC_ist, ↓opC_isnt, ↓opC_iso, ↓opC_isno, ↓opC_in, ↓opC_notin, ↓finpu_rt, ↓finpu_nx, ↓finpu_ex, ↓finlaw_rt, ↓finlaw_nx, ↓finlaw_ex, ↓finV_rt, ↓finV_nx, ↓finV_ex, ↓finE_rt, ↓finO_rt, ↓finO_ex, ↓finE_ex, ↓finS_rt, ↓finS_ex, ↓finR_ex, ↓finX_rt, ↓finX_nx, ↓finX_ex, put_none, put_put, Val.isNon, intsOf, atI_0, atI_1, atI_2, atI_3, cutG_to, cutG_from, sub_refl_iff, pu_pre, puV_pre, puE_pre, puO_pre, puS_pre, puR_pre, Option.some.injEq, exists_eq_left', exists_eq_left, exists_eq, exists_eq', Val.int.injEq, Val.bl.injEq, Val.str.injEq, Val.tup.injEq, Val.ref.injEq, List.cons.injEq, List.map_cons, List.map_nil, List.length_cons, List.length_nil, List.cons_append, List.nil_append, List.append_nil, Bool.false_eq_true, if_true, if_false, ite_true, ite_false, true_and, and_true, false_and, and_false, Bool.not_true, Bool.not_false, decide_eq_true_eq, bne_iff_ne, ne_eq, beq_iff_eq, put_same, imp_false, false_implies, implies_true, reduceCtorEq, not_false_eq_true, and_self, Bool.or_false, Bool.or_true, Bool.false_or, Bool.true_or, Bool.not_eq_true, Bool.not_eq_eq_eq_not, Bool.decide_eq_false, decide_eq_false_iff_not, Bool.not_eq_true', beq_eq_false_iff_ne, bne_eq_false_iff_eq, List.isEmpty_cons, List.isEmpty_nil, Int.reduceEq, Int.reduceNe, Int.reduceLT, Int.reduceLE, Int.reduceNeg, Int.reduceAdd, Int.reduceSub, Int.reduceMul, Int.reduceToNat, Nat.reduceLT, Nat.reduceLeDiff, Nat.reducePow, Nat.reduceAdd, Nat.reduceSub, ty_bool_bool, ty_bool_int, ty_bool_tuple, ty_bool_list, ty_bool_str, ty_int_bool, ty_int_int, ty_int_tuple, ty_int_list, ty_int_str, ty_tuple_bool, ty_tuple_int, ty_tuple_tuple, ty_tuple_list, ty_tuple_str, ty_list_bool, ty_list_int, ty_list_tuple, ty_list_list, ty_list_str, ty_str_bool, ty_str_int, ty_str_tuple, ty_str_list, ty_str_str, List.set_cons_succ, List.set_cons_zero, wipeE, puX_pre, exn_inj, Nat.reduceEqDiff, List.zip_nil_left, Nat.le_refl, Nat.reduceLeDiff, ↓call_box_round (T0 := T__law_asked) rfl, ↓call_box_at (T0 := T__law_asked) rfl, ↓call_box_corner (T0 := T__law_asked) rfl, ck_0_18, ck_1_18, is_0_18, is_1_18]
  obtain ⟨hw, su, sv, sx, sy, s3, sa, sb, ho⟩ := h
  split
  · exact ⟨⟨hw, su, sv, sx, sy, s3, sa, sb, by decide +kernel⟩, fun h => (h ho).elim⟩
  · split
    · exact ⟨su, sv, s3, ho⟩
    · exact ⟨su, sv, s3, ho⟩
theorem w__law_refused : ∀ as S, (sp__law_refused as S).pre → wS T__law_refused s__law_refused (startE C__law_refused.N as) S (fin (sp__law_refused as S)) := by
  intro as S h
  unfold sp__law_refused at h ⊢
  split at h
  rotate_left
  · exact h.elim
  rename_i n u v x y w a b
  change wS T__law_refused s__law_refused [some (.int n), some (.int u), some (.int v), some (.tup [.int x, .int y, .int w]), some (.tup [.int a, .int b]), none, none] S _
  unfold s__law_refused
  simp only [↓wE_lit, ↓wE_bin, ↓wE_neg, ↓wE_nott, ↓wE_cmp, ↓wE_chain, ↓wE_andd, ↓wE_orr, ↓wE_ife, ↓wE_nil, ↓wE_cons, ↓wE_tup, ↓wE_lst, ↓wE_idx, ↓wE_slc, ↓wE_fld, ↓wE_meth, ↓wE_new, ↓wE_sup, ↓wE_blt, ↓wE_isty, ↓wE_iscl, ↓wE_dnew, ↓wE_dget, ↓wE_din, ↓wE_dget2, ↓wE_sm, ↓wT_cmp, ↓wT_chain, ↓wT_nott, ↓wT_andd, ↓wT_orr, ↓wT_ife, ↓wT_lit, ↓wT_idx, ↓wT_bin, ↓wT_meth, ↓wT_blt, ↓wT_isty, ↓wT_iscl, ↓wT_fld, ↓wT_din, ↓wT_dget, ↓wT_sm, ↓wT_neg, ↓wT_nil, ↓wT_cons, ↓wT_tup, ↓wT_lst, ↓wT_slc, ↓wT_new, ↓wT_comp, ↓wT_sup, ↓wT_dnew, ↓wT_dget2, ↓wT_dpop, ↓wT_clo, ↓wT_ccall, ↓wA_nil, ↓wA_cons, ↓wO_nil, ↓wO_cons, ↓wE_compK, ↓wE_compF, ↓wE_call0, ↓wT_call0, ↓wE_v0, ↓wE_v1, ↓wE_v2, ↓wE_v3, ↓wE_v4, ↓wE_v5, ↓wE_v6, ↓wE_v7, ↓wE_v8, ↓wE_v9, ↓wE_v10, ↓wE_v11, ↓wE_v12, ↓wE_v13, ↓wE_v14, ↓wE_v15, ↓wE_v16, ↓wE_v17, ↓wE_v18, ↓wE_v19, ↓wE_v20, ↓wE_v21, ↓wE_v22, ↓wE_v23, ↓wE_v24, ↓wE_v25, ↓wE_v26, ↓wE_v27, ↓wE_v28, ↓wE_v29, ↓wT_v0, ↓wT_v1, ↓wT_v2, ↓wT_v3, ↓wT_v4, ↓wT_v5, ↓wT_v6, ↓wT_v7, ↓wT_v8, ↓wT_v9, ↓wT_v10, ↓wT_v11, ↓wT_v12, ↓wT_v13, ↓wT_v14, ↓wT_v15, ↓wT_v16, ↓wT_v17, ↓wT_v18, ↓wT_v19, ↓wT_v20, ↓wT_v21, ↓wT_v22, ↓wT_v23, ↓wT_v24, ↓wT_v25, ↓wT_v26, ↓wT_v27, ↓wT_v28, ↓wT_v29, ↓tgt_0, ↓tgt_1, ↓tgt_2, ↓tgt_3, ↓tgt_4, ↓tgt_5, ↓tgt_6, ↓tgt_7, ↓tgt_8, ↓tgt_9, ↓tgt_10, ↓tgt_11, ↓tgt_12, ↓tgt_13, ↓tgt_14, ↓tgt_15, ↓tgt_16, ↓tgt_17, ↓tgt_18, ↓tgt_19, ↓tgt_20, ↓tgt_21, ↓tgt_22, ↓tgt_23, ↓tgt_24, ↓tgt_25, ↓tgt_26, ↓tgt_27, ↓tgt_28, ↓tgt_29, ↓exI_0, ↓exI_1, ↓exI_2, ↓exI_3, ↓exI_4, ↓exI_5, ↓exI_6, ↓exI_7, ↓exI_8, ↓exI_9, ↓exI_10, ↓exI_11, ↓exI_12, ↓exI_13, ↓exI_14, ↓exI_15, ↓exI_16, ↓exI_17, ↓exI_18, ↓exI_19, ↓exI_20, ↓exI_21, ↓exI_22, ↓exI_23, ↓exI_24, ↓exI_25, ↓exI_26, ↓exI_27, ↓exI_28, ↓exI_29, ↓exT_0, ↓exT_1, ↓exT_2, ↓exT_3, ↓exT_4, ↓exT_5, ↓exT_6, ↓exT_7, ↓exT_8, ↓exT_9, ↓exT_10, ↓exT_11, ↓exT_12, ↓exT_13, ↓exT_14, ↓exT_15, ↓exT_16, ↓exT_17, ↓exT_18, ↓exT_19, ↓exT_20, ↓exT_21, ↓exT_22, ↓exT_23, ↓exT_24, ↓exT_25, ↓exT_26, ↓exT_27, ↓exT_28, ↓exT_29, ↓exF_0, ↓exF_1, ↓exF_2, ↓exF_3, ↓exF_4, ↓exF_5, ↓exF_6, ↓exF_7, ↓exF_8, ↓exF_9, ↓exF_10, ↓exF_11, ↓exF_12, ↓exF_13, ↓exF_14, ↓exF_15, ↓exF_16, ↓exF_17, ↓exF_18, ↓exF_19, ↓exF_20, ↓exF_21, ↓exF_22, ↓exF_23, ↓exF_24, ↓exF_25, ↓exF_26, ↓exF_27, ↓exF_28, ↓exF_29, ↓tgt_tn, ↓tgt_tc, ↓wS_skip, ↓wS_seqL, ↓later_at, ↓wS_asg_var, ↓wS_asg_lit, ↓wS_asg_bin, ↓wS_asg_neg, ↓wS_asg_nott, ↓wS_asg_cmp, ↓wS_asg_chain, ↓wS_asg_andd, ↓wS_asg_orr, ↓wS_asg_ife, ↓wS_asg_tup, ↓wS_asg_lst, ↓wS_asg_idx, ↓wS_asg_slc, ↓wS_asg_fld, ↓wS_asg_call, ↓wS_asg_meth, ↓wS_asg_new, ↓wS_asg_blt, ↓wS_asg_isty, ↓wS_asg_iscl, ↓wS_asg_exis, ↓wS_asg_exfl, ↓wS_asg_dnew, ↓wS_asg_dget, ↓wS_asg_din, ↓wS_asg_nil, ↓wS_asg_comp, ↓wS_asg_compF, ↓nxK_at, ↓wS_asgF, ↓wS_asgI, ↓wS_asgD, ↓wS_augN, ↓wS_augI, ↓wS_parL, ↓wS_expr, ↓wS_bm, ↓wS_ret, ↓wS_retN, ↓wS_ite, ↓wFor_cons, ↓wFor_nil, ↓wS_for, ↓wS_brk, ↓wS_cnt, ↓wS_raise, ↓wS_tri, ↓wH_nil, ↓wH_cons0, ↓wH_cons1, ↓tyIs_ref, ↓opBm_appendL, ↓setIL, ↓isL_ref, ↓ob_add, ↓ob_adds, ↓ob_addt, ↓ob_addl, ↓ob_addrl, ↓ob_addlr, ↓ob_addrr, ↓ob_addM, ↓ob_sub, ↓ob_mul, ↓ob_mull, ↓ob_mulM, ↓ob_fdiv, ↓ob_mod, ↓ob_pow, ↓oi_abs, ↓oi_lent, ↓oi_lens, ↓oi_lenr, ↓oi_sortedr, ↓oi_sortedMr, ↓oi_tupler, ↓oi_listr, ↓oi_listMr, ↓oi_sumr, ↓oi_anyr, ↓oi_allr, ↓oi_mxr, ↓oi_mnr, ↓oi_lenl, ↓oi_sortedl, ↓oi_sortedMl, ↓oi_tuplel, ↓oi_listl, ↓oi_listMl, ↓oi_suml, ↓oi_anyl, ↓oi_alll, ↓oi_mxl, ↓oi_mnl, ↓oi_mxt, ↓oi_mnt, ↓oi_max2, ↓oi_min2, ↓oi_int, ↓oi_intb, ↓oi_tuplet, ↓oi_listt, ↓oi_listMt, ↓oi_str, ↓oi_divmod, ↓tru_non, ↓tru_bl, ↓tru_int, ↓tru_str, ↓tru_tup, ↓tru_ref, ↓tru_sl, ↓tyIs_non, ↓tyIs_bl, ↓tyIs_int, ↓tyIs_str, ↓tyIs_tup, ↓tyIs_sl, ↓it_t, ↓it_sr, ↓it_er, ↓it_vr, ↓it_sl, ↓it_el, ↓it_vl, ↓it_z, ↓it_1, ↓it_2, ↓it_3, ↓ltI_i, ↓tl_i, ↓optI_i, ↓osl_t, ↓osl_s, ↓osl_l, ↓osl_r, ↓osl_lM, ↓osl_rM, ↓sq_t, ↓sq_l, ↓getI_i, ↓opIx_tup, ↓opIx_ref, ↓opIx_sl, ↓atQ_0, ↓atQ_1, ↓atQ_2, ↓atQ_3, ↓getL_put, ↓getL_put_ne, ↓getL_put_ne', ↓getL_sl, ↓opC_eq_int, ↓opC_ne_int, ↓opC_eq_bl, ↓opC_ne_bl, ↓opC_eq_t2, ↓opC_ne_t2, ↓opC_eq_t3, ↓opC_ne_t3, ↓opC_eq_t32, ↓opC_ne_t32, ↓opC_lt, ↓opC_le, ↓opC_gt, ↓opC_ge, ↓opC_ne_nil, ↓opC_eq_nil, ↓opC_is, ↓opC_isnot, ↓opC_isb, ↓opC_isnb, ↓opC_isi, ↓opC_isni, ↓opC_ist, ↓opC_isnt, ↓opC_iso, ↓opC_isno, ↓opC_in, ↓opC_notin, ↓finpu_rt, ↓finpu_nx, ↓finpu_ex, ↓finlaw_rt, ↓finlaw_nx, ↓finlaw_ex, ↓finV_rt, ↓finV_nx, ↓finV_ex, ↓finE_rt, ↓finO_rt, ↓finO_ex, ↓finE_ex, ↓finS_rt, ↓finS_ex, ↓finR_ex, ↓finX_rt, ↓finX_nx, ↓finX_ex, put_none, put_put, Val.isNon, intsOf, atI_0, atI_1, atI_2, atI_3, cutG_to, cutG_from, sub_refl_iff, pu_pre, puV_pre, puE_pre, puO_pre, puS_pre, puR_pre, Option.some.injEq, exists_eq_left', exists_eq_left, exists_eq, exists_eq', Val.int.injEq, Val.bl.injEq, Val.str.injEq, Val.tup.injEq, Val.ref.injEq, List.cons.injEq, List.map_cons, List.map_nil, List.length_cons, List.length_nil, List.cons_append, List.nil_append, List.append_nil, Bool.false_eq_true, if_true, if_false, ite_true, ite_false, true_and, and_true, false_and, and_false, Bool.not_true, Bool.not_false, decide_eq_true_eq, bne_iff_ne, ne_eq, beq_iff_eq, put_same, imp_false, false_implies, implies_true, reduceCtorEq, not_false_eq_true, and_self, Bool.or_false, Bool.or_true, Bool.false_or, Bool.true_or, Bool.not_eq_true, Bool.not_eq_eq_eq_not, Bool.decide_eq_false, decide_eq_false_iff_not, Bool.not_eq_true', beq_eq_false_iff_ne, bne_eq_false_iff_eq, List.isEmpty_cons, List.isEmpty_nil, Int.reduceEq, Int.reduceNe, Int.reduceLT, Int.reduceLE, Int.reduceNeg, Int.reduceAdd, Int.reduceSub, Int.reduceMul, Int.reduceToNat, Nat.reduceLT, Nat.reduceLeDiff, Nat.reducePow, Nat.reduceAdd, Nat.reduceSub, ty_bool_bool, ty_bool_int, ty_bool_tuple, ty_bool_list, ty_bool_str, ty_int_bool, ty_int_int, ty_int_tuple, ty_int_list, ty_int_str, ty_tuple_bool, ty_tuple_int, ty_tuple_tuple, ty_tuple_list, ty_tuple_str, ty_list_bool, ty_list_int, ty_list_tuple, ty_list_list, ty_list_str, ty_str_bool, ty_str_int, ty_str_tuple, ty_str_list, ty_str_str, List.set_cons_succ, List.set_cons_zero, wipeE, puX_pre, exn_inj, Nat.reduceEqDiff, List.zip_nil_left, Nat.le_refl, Nat.reduceLeDiff, ↓call__law_asked (T0 := T__law_refused) rfl, ck_0_18, ck_1_18, is_0_18, is_1_18]
  exact ⟨h, fun _ => .inr (.inl trivial)⟩
theorem sw_in {F s e : Int} (h0 : 0 < F) (h1 : F < s) : sw F s e = (F, e) := by
  have k : ∀ {G f : Int}, 0 < G → G < s → sw0 G s f = (G, f) := by
    intro G f g0 g1
    have e1 : G.fdiv s = 0 := by rw [Int.fdiv_eq_ediv_of_nonneg _ (by omega)]; exact Int.ediv_eq_zero_of_lt (by omega) g1
    have e2 : G.fmod s = G := by rw [Int.fmod_def, e1]; omega
    unfold sw0
    rw [e1, e2, if_pos (by decide)]
  unfold sw
  split
  · rw [k (show 0 < s - F by omega) (by omega)]
    exact Prod.ext (by simp only; omega) (by simp only; omega)
  · exact k h0 h1
theorem w_law : ∀ as S, (sp_law as S).pre → wS T_law s_law (startE C_law.N as) S (fin (sp_law as S)) := by
  rintro as S ⟨ns, rfl, hl, hb⟩
  change wS T_law s_law [some (.sl (ns.map .int)), none, none, none, none, none, none, none, none, none, none, none, none, none] S _
  unfold s_law sp_law
  simp only [↓wE_lit, ↓wE_bin, ↓wE_neg, ↓wE_nott, ↓wE_cmp, ↓wE_chain, ↓wE_andd, ↓wE_orr, ↓wE_ife, ↓wE_nil, ↓wE_cons, ↓wE_tup, ↓wE_lst, ↓wE_idx, ↓wE_slc, ↓wE_fld, ↓wE_meth, ↓wE_new, ↓wE_sup, ↓wE_blt, ↓wE_isty, ↓wE_iscl, ↓wE_dnew, ↓wE_dget, ↓wE_din, ↓wE_dget2, ↓wE_sm, ↓wT_cmp, ↓wT_chain, ↓wT_nott, ↓wT_andd, ↓wT_orr, ↓wT_ife, ↓wT_lit, ↓wT_idx, ↓wT_bin, ↓wT_meth, ↓wT_blt, ↓wT_isty, ↓wT_iscl, ↓wT_fld, ↓wT_din, ↓wT_dget, ↓wT_sm, ↓wT_neg, ↓wT_nil, ↓wT_cons, ↓wT_tup, ↓wT_lst, ↓wT_slc, ↓wT_new, ↓wT_comp, ↓wT_sup, ↓wT_dnew, ↓wT_dget2, ↓wT_dpop, ↓wT_clo, ↓wT_ccall, ↓wA_nil, ↓wA_cons, ↓wO_nil, ↓wO_cons, ↓wE_compK, ↓wE_compF, ↓wE_call0, ↓wT_call0, ↓wE_v0, ↓wE_v1, ↓wE_v2, ↓wE_v3, ↓wE_v4, ↓wE_v5, ↓wE_v6, ↓wE_v7, ↓wE_v8, ↓wE_v9, ↓wE_v10, ↓wE_v11, ↓wE_v12, ↓wE_v13, ↓wE_v14, ↓wE_v15, ↓wE_v16, ↓wE_v17, ↓wE_v18, ↓wE_v19, ↓wE_v20, ↓wE_v21, ↓wE_v22, ↓wE_v23, ↓wE_v24, ↓wE_v25, ↓wE_v26, ↓wE_v27, ↓wE_v28, ↓wE_v29, ↓wT_v0, ↓wT_v1, ↓wT_v2, ↓wT_v3, ↓wT_v4, ↓wT_v5, ↓wT_v6, ↓wT_v7, ↓wT_v8, ↓wT_v9, ↓wT_v10, ↓wT_v11, ↓wT_v12, ↓wT_v13, ↓wT_v14, ↓wT_v15, ↓wT_v16, ↓wT_v17, ↓wT_v18, ↓wT_v19, ↓wT_v20, ↓wT_v21, ↓wT_v22, ↓wT_v23, ↓wT_v24, ↓wT_v25, ↓wT_v26, ↓wT_v27, ↓wT_v28, ↓wT_v29, ↓tgt_0, ↓tgt_1, ↓tgt_2, ↓tgt_3, ↓tgt_4, ↓tgt_5, ↓tgt_6, ↓tgt_7, ↓tgt_8, ↓tgt_9, ↓tgt_10, ↓tgt_11, ↓tgt_12, ↓tgt_13, ↓tgt_14, ↓tgt_15, ↓tgt_16, ↓tgt_17, ↓tgt_18, ↓tgt_19, ↓tgt_20, ↓tgt_21, ↓tgt_22, ↓tgt_23, ↓tgt_24, ↓tgt_25, ↓tgt_26, ↓tgt_27, ↓tgt_28, ↓tgt_29, ↓exI_0, ↓exI_1, ↓exI_2, ↓exI_3, ↓exI_4, ↓exI_5, ↓exI_6, ↓exI_7, ↓exI_8, ↓exI_9, ↓exI_10, ↓exI_11, ↓exI_12, ↓exI_13, ↓exI_14, ↓exI_15, ↓exI_16, ↓exI_17, ↓exI_18, ↓exI_19, ↓exI_20, ↓exI_21, ↓exI_22, ↓exI_23, ↓exI_24, ↓exI_25, ↓exI_26, ↓exI_27, ↓exI_28, ↓exI_29, ↓exT_0, ↓exT_1, ↓exT_2, ↓exT_3, ↓exT_4, ↓exT_5, ↓exT_6, ↓exT_7, ↓exT_8, ↓exT_9, ↓exT_10, ↓exT_11, ↓exT_12, ↓exT_13, ↓exT_14, ↓exT_15, ↓exT_16, ↓exT_17, ↓exT_18, ↓exT_19, ↓exT_20, ↓exT_21, ↓exT_22, ↓exT_23, ↓exT_24, ↓exT_25, ↓exT_26, ↓exT_27, ↓exT_28, ↓exT_29, ↓exF_0, ↓exF_1, ↓exF_2, ↓exF_3, ↓exF_4, ↓exF_5, ↓exF_6, ↓exF_7, ↓exF_8, ↓exF_9, ↓exF_10, ↓exF_11, ↓exF_12, ↓exF_13, ↓exF_14, ↓exF_15, ↓exF_16, ↓exF_17, ↓exF_18, ↓exF_19, ↓exF_20, ↓exF_21, ↓exF_22, ↓exF_23, ↓exF_24, ↓exF_25, ↓exF_26, ↓exF_27, ↓exF_28, ↓exF_29, ↓tgt_tn, ↓tgt_tc, ↓wS_skip, ↓wS_seqL, ↓later_at, ↓wS_asg_var, ↓wS_asg_lit, ↓wS_asg_bin, ↓wS_asg_neg, ↓wS_asg_nott, ↓wS_asg_cmp, ↓wS_asg_chain, ↓wS_asg_andd, ↓wS_asg_orr, ↓wS_asg_ife, ↓wS_asg_tup, ↓wS_asg_lst, ↓wS_asg_idx, ↓wS_asg_slc, ↓wS_asg_fld, ↓wS_asg_call, ↓wS_asg_meth, ↓wS_asg_new, ↓wS_asg_blt, ↓wS_asg_isty, ↓wS_asg_iscl, ↓wS_asg_exis, ↓wS_asg_exfl, ↓wS_asg_dnew, ↓wS_asg_dget, ↓wS_asg_din, ↓wS_asg_nil, ↓wS_asg_comp, ↓wS_asg_compF, ↓nxK_at, ↓wS_asgF, ↓wS_asgI, ↓wS_asgD, ↓wS_augN, ↓wS_augI, ↓wS_parL, ↓wS_expr, ↓wS_bm, ↓wS_ret, ↓wS_retN, ↓wS_ite, ↓wFor_cons, ↓wFor_nil, ↓wS_for, ↓wS_brk, ↓wS_cnt, ↓wS_raise, ↓wS_tri, ↓wH_nil, ↓wH_cons0, ↓wH_cons1, ↓tyIs_ref, ↓opBm_appendL, ↓setIL, ↓isL_ref, ↓ob_add, ↓ob_adds, ↓ob_addt, ↓ob_addl, ↓ob_addrl, ↓ob_addlr, ↓ob_addrr, ↓ob_addM, ↓ob_sub, ↓ob_mul, ↓ob_mull, ↓ob_mulM, ↓ob_fdiv, ↓ob_mod, ↓ob_pow, ↓oi_abs, ↓oi_lent, ↓oi_lens, ↓oi_lenr, ↓oi_sortedr, ↓oi_sortedMr, ↓oi_tupler, ↓oi_listr, ↓oi_listMr, ↓oi_sumr, ↓oi_anyr, ↓oi_allr, ↓oi_mxr, ↓oi_mnr, ↓oi_lenl, ↓oi_sortedl, ↓oi_sortedMl, ↓oi_tuplel, ↓oi_listl, ↓oi_listMl, ↓oi_suml, ↓oi_anyl, ↓oi_alll, ↓oi_mxl, ↓oi_mnl, ↓oi_mxt, ↓oi_mnt, ↓oi_max2, ↓oi_min2, ↓oi_int, ↓oi_intb, ↓oi_tuplet, ↓oi_listt, ↓oi_listMt, ↓oi_str, ↓oi_divmod, ↓tru_non, ↓tru_bl, ↓tru_int, ↓tru_str, ↓tru_tup, ↓tru_ref, ↓tru_sl, ↓tyIs_non, ↓tyIs_bl, ↓tyIs_int, ↓tyIs_str, ↓tyIs_tup, ↓tyIs_sl, ↓it_t, ↓it_sr, ↓it_er, ↓it_vr, ↓it_sl, ↓it_el, ↓it_vl, ↓it_z, ↓it_1, ↓it_2, ↓it_3, ↓ltI_i, ↓tl_i, ↓optI_i, ↓osl_t, ↓osl_s, ↓osl_l, ↓osl_r, ↓osl_lM, ↓osl_rM, ↓sq_t, ↓sq_l, ↓getI_i, ↓opIx_tup, ↓opIx_ref, ↓opIx_sl, ↓atQ_0, ↓atQ_1, ↓atQ_2, ↓atQ_3, ↓getL_put, ↓getL_put_ne, ↓getL_put_ne', ↓getL_sl, ↓opC_eq_int, ↓opC_ne_int, ↓opC_eq_bl, ↓opC_ne_bl, ↓opC_eq_t2, ↓opC_ne_t2, ↓opC_eq_t3, ↓opC_ne_t3, ↓opC_eq_t32, ↓opC_ne_t32, ↓opC_lt, ↓opC_le, ↓opC_gt, ↓opC_ge, ↓opC_ne_nil, ↓opC_eq_nil, ↓opC_is, ↓opC_isnot, ↓opC_isb, ↓opC_isnb, ↓opC_isi, ↓opC_isni, ↓opC_ist, ↓opC_isnt, ↓opC_iso, ↓opC_isno, ↓opC_in, ↓opC_notin, ↓finpu_rt, ↓finpu_nx, ↓finpu_ex, ↓finlaw_rt, ↓finlaw_nx, ↓finlaw_ex, ↓finV_rt, ↓finV_nx, ↓finV_ex, ↓finE_rt, ↓finO_rt, ↓finO_ex, ↓finE_ex, ↓finS_rt, ↓finS_ex, ↓finR_ex, ↓finX_rt, ↓finX_nx, ↓finX_ex, put_none, put_put, Val.isNon, intsOf, atI_0, atI_1, atI_2, atI_3, cutG_to, cutG_from, sub_refl_iff, pu_pre, puV_pre, puE_pre, puO_pre, puS_pre, puR_pre, Option.some.injEq, exists_eq_left', exists_eq_left, exists_eq, exists_eq', Val.int.injEq, Val.bl.injEq, Val.str.injEq, Val.tup.injEq, Val.ref.injEq, List.cons.injEq, List.map_cons, List.map_nil, List.length_cons, List.length_nil, List.cons_append, List.nil_append, List.append_nil, Bool.false_eq_true, if_true, if_false, ite_true, ite_false, true_and, and_true, false_and, and_false, Bool.not_true, Bool.not_false, decide_eq_true_eq, bne_iff_ne, ne_eq, beq_iff_eq, put_same, imp_false, false_implies, implies_true, reduceCtorEq, not_false_eq_true, and_self, Bool.or_false, Bool.or_true, Bool.false_or, Bool.true_or, Bool.not_eq_true, Bool.not_eq_eq_eq_not, Bool.decide_eq_false, decide_eq_false_iff_not, Bool.not_eq_true', beq_eq_false_iff_ne, bne_eq_false_iff_eq, List.isEmpty_cons, List.isEmpty_nil, Int.reduceEq, Int.reduceNe, Int.reduceLT, Int.reduceLE, Int.reduceNeg, Int.reduceAdd, Int.reduceSub, Int.reduceMul, Int.reduceToNat, Nat.reduceLT, Nat.reduceLeDiff, Nat.reducePow, Nat.reduceAdd, Nat.reduceSub, ty_bool_bool, ty_bool_int, ty_bool_tuple, ty_bool_list, ty_bool_str, ty_int_bool, ty_int_int, ty_int_tuple, ty_int_list, ty_int_str, ty_tuple_bool, ty_tuple_int, ty_tuple_tuple, ty_tuple_list, ty_tuple_str, ty_list_bool, ty_list_int, ty_list_tuple, ty_list_list, ty_list_str, ty_str_bool, ty_str_int, ty_str_tuple, ty_str_list, ty_str_str, List.set_cons_succ, List.set_cons_zero, wipeE, puX_pre, exn_inj, Nat.reduceEqDiff, List.zip_nil_left, Nat.le_refl, Nat.reduceLeDiff]
  have ht : List.take 63 (ns.map Val.int) = ns.map Val.int := List.take_of_length_le (by rw [List.length_map]; exact hl)
  have e : ns.map Val.int ++ [.int 0, .int 0, .int 0, .int 0, .int 0, .int 0, .int 0, .int 0, .int 0] = (ns ++ [0, 0, 0, 0, 0, 0, 0, 0, 0]).map Val.int := by rw [List.map_append]; rfl
  have hbig := cells_big hb (e := [0, 0, 0, 0, 0, 0, 0, 0, 0]) (by simp)
  have hlen : (ns ++ [0, 0, 0, 0, 0, 0, 0, 0, 0]).length ≤ 72 := by rw [List.length_append]; simp; omega
  rw [ht, e]
  generalize ns ++ [0, 0, 0, 0, 0, 0, 0, 0, 0] = cs at *
  refine ⟨by simp [LIM]; omega, ⟨by decide, by decide, by rw [List.length_map]; omega, by rw [List.length_map]; omega⟩, ?_⟩
  refine for_inv (fun k env S' => ∃ a b c d e f g h i j k l, env = [some (.sl (ns.map .int)), some (.sl (cs.map .int)), a, b, c, d, e, f, g, h, i, j, k, l] ∧ S' = S) ⟨_, _, _, _, _, _, _, _, _, _, _, _, rfl, rfl⟩ ?_ ?_
  · rintro k x env S' hx ⟨a, b, c, d, e, f, g, h, i, j, k', l, rfl, rfl⟩
    obtain ⟨hk, rfl⟩ := getElem_map_range hx
    have hlt := range_lt (by decide) hk
    rw [List.length_map] at hlt
    obtain ⟨c0, m0, f0⟩ := atI_map (cs := cs) (i := 0 + k * 9) (by omega) (by omega)
    obtain ⟨c1, m1, f1⟩ := atI_map (cs := cs) (i := 0 + k * 9 + 1) (by omega) (by omega)
    obtain ⟨c8, m8, f8⟩ := atI_map (cs := cs) (i := 0 + k * 9 + 8) (by omega) (by omega)
    have hcut : cutG (cs.map Val.int) (some (0 + (k : Int) * 9 + 2)) (some (0 + (k : Int) * 9 + 9)) = ((cs.take (k * 9 + 9)).drop (k * 9 + 2)).map Val.int := by
      rw [cutG_both (by omega) (by omega), List.map_drop, List.map_take]
      congr 2 <;> omega
    simp only [↓wE_lit, ↓wE_bin, ↓wE_neg, ↓wE_nott, ↓wE_cmp, ↓wE_chain, ↓wE_andd, ↓wE_orr, ↓wE_ife, ↓wE_nil, ↓wE_cons, ↓wE_tup, ↓wE_lst, ↓wE_idx, ↓wE_slc, ↓wE_fld, ↓wE_meth, ↓wE_new, ↓wE_sup, ↓wE_blt, ↓wE_isty, ↓wE_iscl, ↓wE_dnew, ↓wE_dget, ↓wE_din, ↓wE_dget2, ↓wE_sm, ↓wT_cmp, ↓wT_chain, ↓wT_nott, ↓wT_andd, ↓wT_orr, ↓wT_ife, ↓wT_lit, ↓wT_idx, ↓wT_bin, ↓wT_meth, ↓wT_blt, ↓wT_isty, ↓wT_iscl, ↓wT_fld, ↓wT_din, ↓wT_dget, ↓wT_sm, ↓wT_neg, ↓wT_nil, ↓wT_cons, ↓wT_tup, ↓wT_lst, ↓wT_slc, ↓wT_new, ↓wT_comp, ↓wT_sup, ↓wT_dnew, ↓wT_dget2, ↓wT_dpop, ↓wT_clo, ↓wT_ccall, ↓wA_nil, ↓wA_cons, ↓wO_nil, ↓wO_cons, ↓wE_compK, ↓wE_compF, ↓wE_call0, ↓wT_call0, ↓wE_v0, ↓wE_v1, ↓wE_v2, ↓wE_v3, ↓wE_v4, ↓wE_v5, ↓wE_v6, ↓wE_v7, ↓wE_v8, ↓wE_v9, ↓wE_v10, ↓wE_v11, ↓wE_v12, ↓wE_v13, ↓wE_v14, ↓wE_v15, ↓wE_v16, ↓wE_v17, ↓wE_v18, ↓wE_v19, ↓wE_v20, ↓wE_v21, ↓wE_v22, ↓wE_v23, ↓wE_v24, ↓wE_v25, ↓wE_v26, ↓wE_v27, ↓wE_v28, ↓wE_v29, ↓wT_v0, ↓wT_v1, ↓wT_v2, ↓wT_v3, ↓wT_v4, ↓wT_v5, ↓wT_v6, ↓wT_v7, ↓wT_v8, ↓wT_v9, ↓wT_v10, ↓wT_v11, ↓wT_v12, ↓wT_v13, ↓wT_v14, ↓wT_v15, ↓wT_v16, ↓wT_v17, ↓wT_v18, ↓wT_v19, ↓wT_v20, ↓wT_v21, ↓wT_v22, ↓wT_v23, ↓wT_v24, ↓wT_v25, ↓wT_v26, ↓wT_v27, ↓wT_v28, ↓wT_v29, ↓tgt_0, ↓tgt_1, ↓tgt_2, ↓tgt_3, ↓tgt_4, ↓tgt_5, ↓tgt_6, ↓tgt_7, ↓tgt_8, ↓tgt_9, ↓tgt_10, ↓tgt_11, ↓tgt_12, ↓tgt_13, ↓tgt_14, ↓tgt_15, ↓tgt_16, ↓tgt_17, ↓tgt_18, ↓tgt_19, ↓tgt_20, ↓tgt_21, ↓tgt_22, ↓tgt_23, ↓tgt_24, ↓tgt_25, ↓tgt_26, ↓tgt_27, ↓tgt_28, ↓tgt_29, ↓exI_0, ↓exI_1, ↓exI_2, ↓exI_3, ↓exI_4, ↓exI_5, ↓exI_6, ↓exI_7, ↓exI_8, ↓exI_9, ↓exI_10, ↓exI_11, ↓exI_12, ↓exI_13, ↓exI_14, ↓exI_15, ↓exI_16, ↓exI_17, ↓exI_18, ↓exI_19, ↓exI_20, ↓exI_21, ↓exI_22, ↓exI_23, ↓exI_24, ↓exI_25, ↓exI_26, ↓exI_27, ↓exI_28, ↓exI_29, ↓exT_0, ↓exT_1, ↓exT_2, ↓exT_3, ↓exT_4, ↓exT_5, ↓exT_6, ↓exT_7, ↓exT_8, ↓exT_9, ↓exT_10, ↓exT_11, ↓exT_12, ↓exT_13, ↓exT_14, ↓exT_15, ↓exT_16, ↓exT_17, ↓exT_18, ↓exT_19, ↓exT_20, ↓exT_21, ↓exT_22, ↓exT_23, ↓exT_24, ↓exT_25, ↓exT_26, ↓exT_27, ↓exT_28, ↓exT_29, ↓exF_0, ↓exF_1, ↓exF_2, ↓exF_3, ↓exF_4, ↓exF_5, ↓exF_6, ↓exF_7, ↓exF_8, ↓exF_9, ↓exF_10, ↓exF_11, ↓exF_12, ↓exF_13, ↓exF_14, ↓exF_15, ↓exF_16, ↓exF_17, ↓exF_18, ↓exF_19, ↓exF_20, ↓exF_21, ↓exF_22, ↓exF_23, ↓exF_24, ↓exF_25, ↓exF_26, ↓exF_27, ↓exF_28, ↓exF_29, ↓tgt_tn, ↓tgt_tc, ↓wS_skip, ↓wS_seqL, ↓later_at, ↓wS_asg_var, ↓wS_asg_lit, ↓wS_asg_bin, ↓wS_asg_neg, ↓wS_asg_nott, ↓wS_asg_cmp, ↓wS_asg_chain, ↓wS_asg_andd, ↓wS_asg_orr, ↓wS_asg_ife, ↓wS_asg_tup, ↓wS_asg_lst, ↓wS_asg_idx, ↓wS_asg_slc, ↓wS_asg_fld, ↓wS_asg_call, ↓wS_asg_meth, ↓wS_asg_new, ↓wS_asg_blt, ↓wS_asg_isty, ↓wS_asg_iscl, ↓wS_asg_exis, ↓wS_asg_exfl, ↓wS_asg_dnew, ↓wS_asg_dget, ↓wS_asg_din, ↓wS_asg_nil, ↓wS_asg_comp, ↓wS_asg_compF, ↓nxK_at, ↓wS_asgF, ↓wS_asgI, ↓wS_asgD, ↓wS_augN, ↓wS_augI, ↓wS_parL, ↓wS_expr, ↓wS_bm, ↓wS_ret, ↓wS_retN, ↓wS_ite, ↓wFor_cons, ↓wFor_nil, ↓wS_for, ↓wS_brk, ↓wS_cnt, ↓wS_raise, ↓wS_tri, ↓wH_nil, ↓wH_cons0, ↓wH_cons1, ↓tyIs_ref, ↓opBm_appendL, ↓setIL, ↓isL_ref, ↓ob_add, ↓ob_adds, ↓ob_addt, ↓ob_addl, ↓ob_addrl, ↓ob_addlr, ↓ob_addrr, ↓ob_addM, ↓ob_sub, ↓ob_mul, ↓ob_mull, ↓ob_mulM, ↓ob_fdiv, ↓ob_mod, ↓ob_pow, ↓oi_abs, ↓oi_lent, ↓oi_lens, ↓oi_lenr, ↓oi_sortedr, ↓oi_sortedMr, ↓oi_tupler, ↓oi_listr, ↓oi_listMr, ↓oi_sumr, ↓oi_anyr, ↓oi_allr, ↓oi_mxr, ↓oi_mnr, ↓oi_lenl, ↓oi_sortedl, ↓oi_sortedMl, ↓oi_tuplel, ↓oi_listl, ↓oi_listMl, ↓oi_suml, ↓oi_anyl, ↓oi_alll, ↓oi_mxl, ↓oi_mnl, ↓oi_mxt, ↓oi_mnt, ↓oi_max2, ↓oi_min2, ↓oi_int, ↓oi_intb, ↓oi_tuplet, ↓oi_listt, ↓oi_listMt, ↓oi_str, ↓oi_divmod, ↓tru_non, ↓tru_bl, ↓tru_int, ↓tru_str, ↓tru_tup, ↓tru_ref, ↓tru_sl, ↓tyIs_non, ↓tyIs_bl, ↓tyIs_int, ↓tyIs_str, ↓tyIs_tup, ↓tyIs_sl, ↓it_t, ↓it_sr, ↓it_er, ↓it_vr, ↓it_sl, ↓it_el, ↓it_vl, ↓it_z, ↓it_1, ↓it_2, ↓it_3, ↓ltI_i, ↓tl_i, ↓optI_i, ↓osl_t, ↓osl_s, ↓osl_l, ↓osl_r, ↓osl_lM, ↓osl_rM, ↓sq_t, ↓sq_l, ↓getI_i, ↓opIx_tup, ↓opIx_ref, ↓opIx_sl, ↓atQ_0, ↓atQ_1, ↓atQ_2, ↓atQ_3, ↓getL_put, ↓getL_put_ne, ↓getL_put_ne', ↓getL_sl, ↓opC_eq_int, ↓opC_ne_int, ↓opC_eq_bl, ↓opC_ne_bl, ↓opC_eq_t2, ↓opC_ne_t2, ↓opC_eq_t3, ↓opC_ne_t3, ↓opC_eq_t32, ↓opC_ne_t32, ↓opC_lt, ↓opC_le, ↓opC_gt, ↓opC_ge, ↓opC_ne_nil, ↓opC_eq_nil, ↓opC_is, ↓opC_isnot, ↓opC_isb, ↓opC_isnb, ↓opC_isi, ↓opC_isni, ↓opC_ist, ↓opC_isnt, ↓opC_iso, ↓opC_isno, ↓opC_in, ↓opC_notin, ↓finpu_rt, ↓finpu_nx, ↓finpu_ex, ↓finlaw_rt, ↓finlaw_nx, ↓finlaw_ex, ↓finV_rt, ↓finV_nx, ↓finV_ex, ↓finE_rt, ↓finO_rt, ↓finO_ex, ↓finE_ex, ↓finS_rt, ↓finS_ex, ↓finR_ex, ↓finX_rt, ↓finX_nx, ↓finX_ex, put_none, put_put, Val.isNon, intsOf, atI_0, atI_1, atI_2, atI_3, cutG_to, cutG_from, sub_refl_iff, pu_pre, puV_pre, puE_pre, puO_pre, puS_pre, puR_pre, Option.some.injEq, exists_eq_left', exists_eq_left, exists_eq, exists_eq', Val.int.injEq, Val.bl.injEq, Val.str.injEq, Val.tup.injEq, Val.ref.injEq, List.cons.injEq, List.map_cons, List.map_nil, List.length_cons, List.length_nil, List.cons_append, List.nil_append, List.append_nil, Bool.false_eq_true, if_true, if_false, ite_true, ite_false, true_and, and_true, false_and, and_false, Bool.not_true, Bool.not_false, decide_eq_true_eq, bne_iff_ne, ne_eq, beq_iff_eq, put_same, imp_false, false_implies, implies_true, reduceCtorEq, not_false_eq_true, and_self, Bool.or_false, Bool.or_true, Bool.false_or, Bool.true_or, Bool.not_eq_true, Bool.not_eq_eq_eq_not, Bool.decide_eq_false, decide_eq_false_iff_not, Bool.not_eq_true', beq_eq_false_iff_ne, bne_eq_false_iff_eq, List.isEmpty_cons, List.isEmpty_nil, Int.reduceEq, Int.reduceNe, Int.reduceLT, Int.reduceLE, Int.reduceNeg, Int.reduceAdd, Int.reduceSub, Int.reduceMul, Int.reduceToNat, Nat.reduceLT, Nat.reduceLeDiff, Nat.reducePow, Nat.reduceAdd, Nat.reduceSub, ty_bool_bool, ty_bool_int, ty_bool_tuple, ty_bool_list, ty_bool_str, ty_int_bool, ty_int_int, ty_int_tuple, ty_int_list, ty_int_str, ty_tuple_bool, ty_tuple_int, ty_tuple_tuple, ty_tuple_list, ty_tuple_str, ty_list_bool, ty_list_int, ty_list_tuple, ty_list_list, ty_list_str, ty_str_bool, ty_str_int, ty_str_tuple, ty_str_list, ty_str_str, List.set_cons_succ, List.set_cons_zero, wipeE, puX_pre, exn_inj, Nat.reduceEqDiff, List.zip_nil_left, Nat.le_refl, Nat.reduceLeDiff, ↓call__law_side (T0 := T_law) rfl, ↓call__law_inside (T0 := T_law) rfl, ↓call__law_heading (T0 := T_law) rfl, ↓call__law_number (T0 := T_law) rfl, ↓call_box_at (T0 := T_law) rfl, ↓call__law_spoiled (T0 := T_law) rfl, ↓call__law_refused (T0 := T_law) rfl, ck_0_18, ck_1_18, is_0_18, is_1_18, ↓atQ_at f0, ↓atQ_at f1, ↓atQ_at f8, hcut]
    refine ⟨hbig _ m0, fun wide hwide => ⟨hbig _ m1, fun high hhigh => ?_⟩⟩
    have hcl : ((cs.take (k * 9 + 9)).drop (k * 9 + 2)).length = 7 := by
      rw [List.length_drop, List.length_take]
      omega
    have hcb : ∀ z ∈ (cs.take (k * 9 + 9)).drop (k * 9 + 2), z.natAbs.log2 < 10000000 := fun z hz => hbig z (List.mem_of_mem_take (List.mem_of_mem_drop hz))
    generalize (cs.take (k * 9 + 9)).drop (k * 9 + 2) = part at *
    have hB : B59.natAbs.log2 < 199 := by decide +kernel
    refine frz_rule (fun _ o => ∃ z, o = some (.int z) ∧ z.natAbs.log2 < 199) (fun S' k => .inr rfl) (by simp [LIM]; omega) ?_ ?_
    · intro x hx S2 hk K hK
      obtain ⟨z, hz, rfl⟩ := List.mem_map.mp hx
      simp only [↓wE_lit, ↓wE_bin, ↓wE_neg, ↓wE_nott, ↓wE_cmp, ↓wE_chain, ↓wE_andd, ↓wE_orr, ↓wE_ife, ↓wE_nil, ↓wE_cons, ↓wE_tup, ↓wE_lst, ↓wE_idx, ↓wE_slc, ↓wE_fld, ↓wE_meth, ↓wE_new, ↓wE_sup, ↓wE_blt, ↓wE_isty, ↓wE_iscl, ↓wE_dnew, ↓wE_dget, ↓wE_din, ↓wE_dget2, ↓wE_sm, ↓wT_cmp, ↓wT_chain, ↓wT_nott, ↓wT_andd, ↓wT_orr, ↓wT_ife, ↓wT_lit, ↓wT_idx, ↓wT_bin, ↓wT_meth, ↓wT_blt, ↓wT_isty, ↓wT_iscl, ↓wT_fld, ↓wT_din, ↓wT_dget, ↓wT_sm, ↓wT_neg, ↓wT_nil, ↓wT_cons, ↓wT_tup, ↓wT_lst, ↓wT_slc, ↓wT_new, ↓wT_comp, ↓wT_sup, ↓wT_dnew, ↓wT_dget2, ↓wT_dpop, ↓wT_clo, ↓wT_ccall, ↓wA_nil, ↓wA_cons, ↓wO_nil, ↓wO_cons, ↓wE_compK, ↓wE_compF, ↓wE_call0, ↓wT_call0, ↓wE_v0, ↓wE_v1, ↓wE_v2, ↓wE_v3, ↓wE_v4, ↓wE_v5, ↓wE_v6, ↓wE_v7, ↓wE_v8, ↓wE_v9, ↓wE_v10, ↓wE_v11, ↓wE_v12, ↓wE_v13, ↓wE_v14, ↓wE_v15, ↓wE_v16, ↓wE_v17, ↓wE_v18, ↓wE_v19, ↓wE_v20, ↓wE_v21, ↓wE_v22, ↓wE_v23, ↓wE_v24, ↓wE_v25, ↓wE_v26, ↓wE_v27, ↓wE_v28, ↓wE_v29, ↓wT_v0, ↓wT_v1, ↓wT_v2, ↓wT_v3, ↓wT_v4, ↓wT_v5, ↓wT_v6, ↓wT_v7, ↓wT_v8, ↓wT_v9, ↓wT_v10, ↓wT_v11, ↓wT_v12, ↓wT_v13, ↓wT_v14, ↓wT_v15, ↓wT_v16, ↓wT_v17, ↓wT_v18, ↓wT_v19, ↓wT_v20, ↓wT_v21, ↓wT_v22, ↓wT_v23, ↓wT_v24, ↓wT_v25, ↓wT_v26, ↓wT_v27, ↓wT_v28, ↓wT_v29, ↓tgt_0, ↓tgt_1, ↓tgt_2, ↓tgt_3, ↓tgt_4, ↓tgt_5, ↓tgt_6, ↓tgt_7, ↓tgt_8, ↓tgt_9, ↓tgt_10, ↓tgt_11, ↓tgt_12, ↓tgt_13, ↓tgt_14, ↓tgt_15, ↓tgt_16, ↓tgt_17, ↓tgt_18, ↓tgt_19, ↓tgt_20, ↓tgt_21, ↓tgt_22, ↓tgt_23, ↓tgt_24, ↓tgt_25, ↓tgt_26, ↓tgt_27, ↓tgt_28, ↓tgt_29, ↓exI_0, ↓exI_1, ↓exI_2, ↓exI_3, ↓exI_4, ↓exI_5, ↓exI_6, ↓exI_7, ↓exI_8, ↓exI_9, ↓exI_10, ↓exI_11, ↓exI_12, ↓exI_13, ↓exI_14, ↓exI_15, ↓exI_16, ↓exI_17, ↓exI_18, ↓exI_19, ↓exI_20, ↓exI_21, ↓exI_22, ↓exI_23, ↓exI_24, ↓exI_25, ↓exI_26, ↓exI_27, ↓exI_28, ↓exI_29, ↓exT_0, ↓exT_1, ↓exT_2, ↓exT_3, ↓exT_4, ↓exT_5, ↓exT_6, ↓exT_7, ↓exT_8, ↓exT_9, ↓exT_10, ↓exT_11, ↓exT_12, ↓exT_13, ↓exT_14, ↓exT_15, ↓exT_16, ↓exT_17, ↓exT_18, ↓exT_19, ↓exT_20, ↓exT_21, ↓exT_22, ↓exT_23, ↓exT_24, ↓exT_25, ↓exT_26, ↓exT_27, ↓exT_28, ↓exT_29, ↓exF_0, ↓exF_1, ↓exF_2, ↓exF_3, ↓exF_4, ↓exF_5, ↓exF_6, ↓exF_7, ↓exF_8, ↓exF_9, ↓exF_10, ↓exF_11, ↓exF_12, ↓exF_13, ↓exF_14, ↓exF_15, ↓exF_16, ↓exF_17, ↓exF_18, ↓exF_19, ↓exF_20, ↓exF_21, ↓exF_22, ↓exF_23, ↓exF_24, ↓exF_25, ↓exF_26, ↓exF_27, ↓exF_28, ↓exF_29, ↓tgt_tn, ↓tgt_tc, ↓wS_skip, ↓wS_seqL, ↓later_at, ↓wS_asg_var, ↓wS_asg_lit, ↓wS_asg_bin, ↓wS_asg_neg, ↓wS_asg_nott, ↓wS_asg_cmp, ↓wS_asg_chain, ↓wS_asg_andd, ↓wS_asg_orr, ↓wS_asg_ife, ↓wS_asg_tup, ↓wS_asg_lst, ↓wS_asg_idx, ↓wS_asg_slc, ↓wS_asg_fld, ↓wS_asg_call, ↓wS_asg_meth, ↓wS_asg_new, ↓wS_asg_blt, ↓wS_asg_isty, ↓wS_asg_iscl, ↓wS_asg_exis, ↓wS_asg_exfl, ↓wS_asg_dnew, ↓wS_asg_dget, ↓wS_asg_din, ↓wS_asg_nil, ↓wS_asg_comp, ↓wS_asg_compF, ↓nxK_at, ↓wS_asgF, ↓wS_asgI, ↓wS_asgD, ↓wS_augN, ↓wS_augI, ↓wS_parL, ↓wS_expr, ↓wS_bm, ↓wS_ret, ↓wS_retN, ↓wS_ite, ↓wFor_cons, ↓wFor_nil, ↓wS_for, ↓wS_brk, ↓wS_cnt, ↓wS_raise, ↓wS_tri, ↓wH_nil, ↓wH_cons0, ↓wH_cons1, ↓tyIs_ref, ↓opBm_appendL, ↓setIL, ↓isL_ref, ↓ob_add, ↓ob_adds, ↓ob_addt, ↓ob_addl, ↓ob_addrl, ↓ob_addlr, ↓ob_addrr, ↓ob_addM, ↓ob_sub, ↓ob_mul, ↓ob_mull, ↓ob_mulM, ↓ob_fdiv, ↓ob_mod, ↓ob_pow, ↓oi_abs, ↓oi_lent, ↓oi_lens, ↓oi_lenr, ↓oi_sortedr, ↓oi_sortedMr, ↓oi_tupler, ↓oi_listr, ↓oi_listMr, ↓oi_sumr, ↓oi_anyr, ↓oi_allr, ↓oi_mxr, ↓oi_mnr, ↓oi_lenl, ↓oi_sortedl, ↓oi_sortedMl, ↓oi_tuplel, ↓oi_listl, ↓oi_listMl, ↓oi_suml, ↓oi_anyl, ↓oi_alll, ↓oi_mxl, ↓oi_mnl, ↓oi_mxt, ↓oi_mnt, ↓oi_max2, ↓oi_min2, ↓oi_int, ↓oi_intb, ↓oi_tuplet, ↓oi_listt, ↓oi_listMt, ↓oi_str, ↓oi_divmod, ↓tru_non, ↓tru_bl, ↓tru_int, ↓tru_str, ↓tru_tup, ↓tru_ref, ↓tru_sl, ↓tyIs_non, ↓tyIs_bl, ↓tyIs_int, ↓tyIs_str, ↓tyIs_tup, ↓tyIs_sl, ↓it_t, ↓it_sr, ↓it_er, ↓it_vr, ↓it_sl, ↓it_el, ↓it_vl, ↓it_z, ↓it_1, ↓it_2, ↓it_3, ↓ltI_i, ↓tl_i, ↓optI_i, ↓osl_t, ↓osl_s, ↓osl_l, ↓osl_r, ↓osl_lM, ↓osl_rM, ↓sq_t, ↓sq_l, ↓getI_i, ↓opIx_tup, ↓opIx_ref, ↓opIx_sl, ↓atQ_0, ↓atQ_1, ↓atQ_2, ↓atQ_3, ↓getL_put, ↓getL_put_ne, ↓getL_put_ne', ↓getL_sl, ↓opC_eq_int, ↓opC_ne_int, ↓opC_eq_bl, ↓opC_ne_bl, ↓opC_eq_t2, ↓opC_ne_t2, ↓opC_eq_t3, ↓opC_ne_t3, ↓opC_eq_t32, ↓opC_ne_t32, ↓opC_lt, ↓opC_le, ↓opC_gt, ↓opC_ge, ↓opC_ne_nil, ↓opC_eq_nil, ↓opC_is, ↓opC_isnot, ↓opC_isb, ↓opC_isnb, ↓opC_isi, ↓opC_isni, ↓opC_ist, ↓opC_isnt, ↓opC_iso, ↓opC_isno, ↓opC_in, ↓opC_notin, ↓finpu_rt, ↓finpu_nx, ↓finpu_ex, ↓finlaw_rt, ↓finlaw_nx, ↓finlaw_ex, ↓finV_rt, ↓finV_nx, ↓finV_ex, ↓finE_rt, ↓finO_rt, ↓finO_ex, ↓finE_ex, ↓finS_rt, ↓finS_ex, ↓finR_ex, ↓finX_rt, ↓finX_nx, ↓finX_ex, put_none, put_put, Val.isNon, intsOf, atI_0, atI_1, atI_2, atI_3, cutG_to, cutG_from, sub_refl_iff, pu_pre, puV_pre, puE_pre, puO_pre, puS_pre, puR_pre, Option.some.injEq, exists_eq_left', exists_eq_left, exists_eq, exists_eq', Val.int.injEq, Val.bl.injEq, Val.str.injEq, Val.tup.injEq, Val.ref.injEq, List.cons.injEq, List.map_cons, List.map_nil, List.length_cons, List.length_nil, List.cons_append, List.nil_append, List.append_nil, Bool.false_eq_true, if_true, if_false, ite_true, ite_false, true_and, and_true, false_and, and_false, Bool.not_true, Bool.not_false, decide_eq_true_eq, bne_iff_ne, ne_eq, beq_iff_eq, put_same, imp_false, false_implies, implies_true, reduceCtorEq, not_false_eq_true, and_self, Bool.or_false, Bool.or_true, Bool.false_or, Bool.true_or, Bool.not_eq_true, Bool.not_eq_eq_eq_not, Bool.decide_eq_false, decide_eq_false_iff_not, Bool.not_eq_true', beq_eq_false_iff_ne, bne_eq_false_iff_eq, List.isEmpty_cons, List.isEmpty_nil, Int.reduceEq, Int.reduceNe, Int.reduceLT, Int.reduceLE, Int.reduceNeg, Int.reduceAdd, Int.reduceSub, Int.reduceMul, Int.reduceToNat, Nat.reduceLT, Nat.reduceLeDiff, Nat.reducePow, Nat.reduceAdd, Nat.reduceSub, ty_bool_bool, ty_bool_int, ty_bool_tuple, ty_bool_list, ty_bool_str, ty_int_bool, ty_int_int, ty_int_tuple, ty_int_list, ty_int_str, ty_tuple_bool, ty_tuple_int, ty_tuple_tuple, ty_tuple_list, ty_tuple_str, ty_list_bool, ty_list_int, ty_list_tuple, ty_list_list, ty_list_str, ty_str_bool, ty_str_int, ty_str_tuple, ty_str_list, ty_str_str, List.set_cons_succ, List.set_cons_zero, wipeE, puX_pre, exn_inj, Nat.reduceEqDiff, List.zip_nil_left, Nat.le_refl, Nat.reduceLeDiff, ↓call__law_side (T0 := T_law) rfl, ↓call__law_inside (T0 := T_law) rfl, ↓call__law_heading (T0 := T_law) rfl, ↓call__law_number (T0 := T_law) rfl, ↓call_box_at (T0 := T_law) rfl, ↓call__law_spoiled (T0 := T_law) rfl, ↓call__law_refused (T0 := T_law) rfl, ck_0_18, ck_1_18, is_0_18, is_1_18]
      exact ⟨hcb z hz, fun y hy => hK _ ⟨y, rfl, log2_lt_of (show y.natAbs ≤ B59.natAbs by omega) hB⟩⟩
    intro ys hr
    obtain ⟨zs, rfl, hzl, hzs⟩ := rel_ints hr
    rw [List.length_map, hcl] at hzl
    obtain ⟨z3, n3, g3⟩ := atI_map (cs := zs) (i := 3) (by decide) (by omega)
    obtain ⟨z4, n4, g4⟩ := atI_map (cs := zs) (i := 4) (by decide) (by omega)
    obtain ⟨z5, n5, g5⟩ := atI_map (cs := zs) (i := 5) (by decide) (by omega)
    simp only [↓wE_lit, ↓wE_bin, ↓wE_neg, ↓wE_nott, ↓wE_cmp, ↓wE_chain, ↓wE_andd, ↓wE_orr, ↓wE_ife, ↓wE_nil, ↓wE_cons, ↓wE_tup, ↓wE_lst, ↓wE_idx, ↓wE_slc, ↓wE_fld, ↓wE_meth, ↓wE_new, ↓wE_sup, ↓wE_blt, ↓wE_isty, ↓wE_iscl, ↓wE_dnew, ↓wE_dget, ↓wE_din, ↓wE_dget2, ↓wE_sm, ↓wT_cmp, ↓wT_chain, ↓wT_nott, ↓wT_andd, ↓wT_orr, ↓wT_ife, ↓wT_lit, ↓wT_idx, ↓wT_bin, ↓wT_meth, ↓wT_blt, ↓wT_isty, ↓wT_iscl, ↓wT_fld, ↓wT_din, ↓wT_dget, ↓wT_sm, ↓wT_neg, ↓wT_nil, ↓wT_cons, ↓wT_tup, ↓wT_lst, ↓wT_slc, ↓wT_new, ↓wT_comp, ↓wT_sup, ↓wT_dnew, ↓wT_dget2, ↓wT_dpop, ↓wT_clo, ↓wT_ccall, ↓wA_nil, ↓wA_cons, ↓wO_nil, ↓wO_cons, ↓wE_compK, ↓wE_compF, ↓wE_call0, ↓wT_call0, ↓wE_v0, ↓wE_v1, ↓wE_v2, ↓wE_v3, ↓wE_v4, ↓wE_v5, ↓wE_v6, ↓wE_v7, ↓wE_v8, ↓wE_v9, ↓wE_v10, ↓wE_v11, ↓wE_v12, ↓wE_v13, ↓wE_v14, ↓wE_v15, ↓wE_v16, ↓wE_v17, ↓wE_v18, ↓wE_v19, ↓wE_v20, ↓wE_v21, ↓wE_v22, ↓wE_v23, ↓wE_v24, ↓wE_v25, ↓wE_v26, ↓wE_v27, ↓wE_v28, ↓wE_v29, ↓wT_v0, ↓wT_v1, ↓wT_v2, ↓wT_v3, ↓wT_v4, ↓wT_v5, ↓wT_v6, ↓wT_v7, ↓wT_v8, ↓wT_v9, ↓wT_v10, ↓wT_v11, ↓wT_v12, ↓wT_v13, ↓wT_v14, ↓wT_v15, ↓wT_v16, ↓wT_v17, ↓wT_v18, ↓wT_v19, ↓wT_v20, ↓wT_v21, ↓wT_v22, ↓wT_v23, ↓wT_v24, ↓wT_v25, ↓wT_v26, ↓wT_v27, ↓wT_v28, ↓wT_v29, ↓tgt_0, ↓tgt_1, ↓tgt_2, ↓tgt_3, ↓tgt_4, ↓tgt_5, ↓tgt_6, ↓tgt_7, ↓tgt_8, ↓tgt_9, ↓tgt_10, ↓tgt_11, ↓tgt_12, ↓tgt_13, ↓tgt_14, ↓tgt_15, ↓tgt_16, ↓tgt_17, ↓tgt_18, ↓tgt_19, ↓tgt_20, ↓tgt_21, ↓tgt_22, ↓tgt_23, ↓tgt_24, ↓tgt_25, ↓tgt_26, ↓tgt_27, ↓tgt_28, ↓tgt_29, ↓exI_0, ↓exI_1, ↓exI_2, ↓exI_3, ↓exI_4, ↓exI_5, ↓exI_6, ↓exI_7, ↓exI_8, ↓exI_9, ↓exI_10, ↓exI_11, ↓exI_12, ↓exI_13, ↓exI_14, ↓exI_15, ↓exI_16, ↓exI_17, ↓exI_18, ↓exI_19, ↓exI_20, ↓exI_21, ↓exI_22, ↓exI_23, ↓exI_24, ↓exI_25, ↓exI_26, ↓exI_27, ↓exI_28, ↓exI_29, ↓exT_0, ↓exT_1, ↓exT_2, ↓exT_3, ↓exT_4, ↓exT_5, ↓exT_6, ↓exT_7, ↓exT_8, ↓exT_9, ↓exT_10, ↓exT_11, ↓exT_12, ↓exT_13, ↓exT_14, ↓exT_15, ↓exT_16, ↓exT_17, ↓exT_18, ↓exT_19, ↓exT_20, ↓exT_21, ↓exT_22, ↓exT_23, ↓exT_24, ↓exT_25, ↓exT_26, ↓exT_27, ↓exT_28, ↓exT_29, ↓exF_0, ↓exF_1, ↓exF_2, ↓exF_3, ↓exF_4, ↓exF_5, ↓exF_6, ↓exF_7, ↓exF_8, ↓exF_9, ↓exF_10, ↓exF_11, ↓exF_12, ↓exF_13, ↓exF_14, ↓exF_15, ↓exF_16, ↓exF_17, ↓exF_18, ↓exF_19, ↓exF_20, ↓exF_21, ↓exF_22, ↓exF_23, ↓exF_24, ↓exF_25, ↓exF_26, ↓exF_27, ↓exF_28, ↓exF_29, ↓tgt_tn, ↓tgt_tc, ↓wS_skip, ↓wS_seqL, ↓later_at, ↓wS_asg_var, ↓wS_asg_lit, ↓wS_asg_bin, ↓wS_asg_neg, ↓wS_asg_nott, ↓wS_asg_cmp, ↓wS_asg_chain, ↓wS_asg_andd, ↓wS_asg_orr, ↓wS_asg_ife, ↓wS_asg_tup, ↓wS_asg_lst, ↓wS_asg_idx, ↓wS_asg_slc, ↓wS_asg_fld, ↓wS_asg_call, ↓wS_asg_meth, ↓wS_asg_new, ↓wS_asg_blt, ↓wS_asg_isty, ↓wS_asg_iscl, ↓wS_asg_exis, ↓wS_asg_exfl, ↓wS_asg_dnew, ↓wS_asg_dget, ↓wS_asg_din, ↓wS_asg_nil, ↓wS_asg_comp, ↓wS_asg_compF, ↓nxK_at, ↓wS_asgF, ↓wS_asgI, ↓wS_asgD, ↓wS_augN, ↓wS_augI, ↓wS_parL, ↓wS_expr, ↓wS_bm, ↓wS_ret, ↓wS_retN, ↓wS_ite, ↓wFor_cons, ↓wFor_nil, ↓wS_for, ↓wS_brk, ↓wS_cnt, ↓wS_raise, ↓wS_tri, ↓wH_nil, ↓wH_cons0, ↓wH_cons1, ↓tyIs_ref, ↓opBm_appendL, ↓setIL, ↓isL_ref, ↓ob_add, ↓ob_adds, ↓ob_addt, ↓ob_addl, ↓ob_addrl, ↓ob_addlr, ↓ob_addrr, ↓ob_addM, ↓ob_sub, ↓ob_mul, ↓ob_mull, ↓ob_mulM, ↓ob_fdiv, ↓ob_mod, ↓ob_pow, ↓oi_abs, ↓oi_lent, ↓oi_lens, ↓oi_lenr, ↓oi_sortedr, ↓oi_sortedMr, ↓oi_tupler, ↓oi_listr, ↓oi_listMr, ↓oi_sumr, ↓oi_anyr, ↓oi_allr, ↓oi_mxr, ↓oi_mnr, ↓oi_lenl, ↓oi_sortedl, ↓oi_sortedMl, ↓oi_tuplel, ↓oi_listl, ↓oi_listMl, ↓oi_suml, ↓oi_anyl, ↓oi_alll, ↓oi_mxl, ↓oi_mnl, ↓oi_mxt, ↓oi_mnt, ↓oi_max2, ↓oi_min2, ↓oi_int, ↓oi_intb, ↓oi_tuplet, ↓oi_listt, ↓oi_listMt, ↓oi_str, ↓oi_divmod, ↓tru_non, ↓tru_bl, ↓tru_int, ↓tru_str, ↓tru_tup, ↓tru_ref, ↓tru_sl, ↓tyIs_non, ↓tyIs_bl, ↓tyIs_int, ↓tyIs_str, ↓tyIs_tup, ↓tyIs_sl, ↓it_t, ↓it_sr, ↓it_er, ↓it_vr, ↓it_sl, ↓it_el, ↓it_vl, ↓it_z, ↓it_1, ↓it_2, ↓it_3, ↓ltI_i, ↓tl_i, ↓optI_i, ↓osl_t, ↓osl_s, ↓osl_l, ↓osl_r, ↓osl_lM, ↓osl_rM, ↓sq_t, ↓sq_l, ↓getI_i, ↓opIx_tup, ↓opIx_ref, ↓opIx_sl, ↓atQ_0, ↓atQ_1, ↓atQ_2, ↓atQ_3, ↓getL_put, ↓getL_put_ne, ↓getL_put_ne', ↓getL_sl, ↓opC_eq_int, ↓opC_ne_int, ↓opC_eq_bl, ↓opC_ne_bl, ↓opC_eq_t2, ↓opC_ne_t2, ↓opC_eq_t3, ↓opC_ne_t3, ↓opC_eq_t32, ↓opC_ne_t32, ↓opC_lt, ↓opC_le, ↓opC_gt, ↓opC_ge, ↓opC_ne_nil, ↓opC_eq_nil, ↓opC_is, ↓opC_isnot, ↓opC_isb, ↓opC_isnb, ↓opC_isi, ↓opC_isni, ↓opC_ist, ↓opC_isnt, ↓opC_iso, ↓opC_isno, ↓opC_in, ↓opC_notin, ↓finpu_rt, ↓finpu_nx, ↓finpu_ex, ↓finlaw_rt, ↓finlaw_nx, ↓finlaw_ex, ↓finV_rt, ↓finV_nx, ↓finV_ex, ↓finE_rt, ↓finO_rt, ↓finO_ex, ↓finE_ex, ↓finS_rt, ↓finS_ex, ↓finR_ex, ↓finX_rt, ↓finX_nx, ↓finX_ex, put_none, put_put, Val.isNon, intsOf, atI_0, atI_1, atI_2, atI_3, cutG_to, cutG_from, sub_refl_iff, pu_pre, puV_pre, puE_pre, puO_pre, puS_pre, puR_pre, Option.some.injEq, exists_eq_left', exists_eq_left, exists_eq, exists_eq', Val.int.injEq, Val.bl.injEq, Val.str.injEq, Val.tup.injEq, Val.ref.injEq, List.cons.injEq, List.map_cons, List.map_nil, List.length_cons, List.length_nil, List.cons_append, List.nil_append, List.append_nil, Bool.false_eq_true, if_true, if_false, ite_true, ite_false, true_and, and_true, false_and, and_false, Bool.not_true, Bool.not_false, decide_eq_true_eq, bne_iff_ne, ne_eq, beq_iff_eq, put_same, imp_false, false_implies, implies_true, reduceCtorEq, not_false_eq_true, and_self, Bool.or_false, Bool.or_true, Bool.false_or, Bool.true_or, Bool.not_eq_true, Bool.not_eq_eq_eq_not, Bool.decide_eq_false, decide_eq_false_iff_not, Bool.not_eq_true', beq_eq_false_iff_ne, bne_eq_false_iff_eq, List.isEmpty_cons, List.isEmpty_nil, Int.reduceEq, Int.reduceNe, Int.reduceLT, Int.reduceLE, Int.reduceNeg, Int.reduceAdd, Int.reduceSub, Int.reduceMul, Int.reduceToNat, Nat.reduceLT, Nat.reduceLeDiff, Nat.reducePow, Nat.reduceAdd, Nat.reduceSub, ty_bool_bool, ty_bool_int, ty_bool_tuple, ty_bool_list, ty_bool_str, ty_int_bool, ty_int_int, ty_int_tuple, ty_int_list, ty_int_str, ty_tuple_bool, ty_tuple_int, ty_tuple_tuple, ty_tuple_list, ty_tuple_str, ty_list_bool, ty_list_int, ty_list_tuple, ty_list_list, ty_list_str, ty_str_bool, ty_str_int, ty_str_tuple, ty_str_list, ty_str_str, List.set_cons_succ, List.set_cons_zero, wipeE, puX_pre, exn_inj, Nat.reduceEqDiff, List.zip_nil_left, Nat.le_refl, Nat.reduceLeDiff, ↓call__law_side (T0 := T_law) rfl, ↓call__law_inside (T0 := T_law) rfl, ↓call__law_heading (T0 := T_law) rfl, ↓call__law_number (T0 := T_law) rfl, ↓call_box_at (T0 := T_law) rfl, ↓call__law_spoiled (T0 := T_law) rfl, ↓call__law_refused (T0 := T_law) rfl, ck_0_18, ck_1_18, is_0_18, is_1_18, ↓atQ_at g3, ↓atQ_at g4, ↓atQ_at g5, ↓atQ_at f8]
    have b3 := hzs _ n3
    have b4 := hzs _ n4
    have b5 := abs_log (hzs _ n5)
    have p5 : 0 ≤ (if z5 < 0 then -z5 else z5) := by split <;> omega
    have hB10 : (B59 * 10).natAbs.log2 < 205 := by decide +kernel
    have lw : wide.natAbs.log2 < 205 := log2_lt_of (show wide.natAbs ≤ (B59 * 10).natAbs by omega) hB10
    have lh : high.natAbs.log2 < 205 := log2_lt_of (show high.natAbs ≤ (B59 * 10).natAbs by omega) hB10
    refine ⟨⟨by omega, by omega, by omega, by omega, zs, rfl, hzl, fun z hz => by have := hzs z hz; omega⟩, fun P hP => ⟨⟨by omega, by omega⟩, fun g hg => ?_⟩⟩
    obtain ⟨P1, P2, P3, P4, P5, P6, P7⟩ := hP
    obtain ⟨g1, g2⟩ := hg
    have lP1 : P.1.natAbs.log2 < 420 := log2_lt_of (show P.1.natAbs ≤ (wide * P.2.2).natAbs by omega) (Nat.lt_of_lt_of_le (log2_mul lw P6) (by decide))
    have lP2 : P.2.1.natAbs.log2 < 420 := log2_lt_of (show P.2.1.natAbs ≤ (high * P.2.2).natAbs by omega) (Nat.lt_of_lt_of_le (log2_mul lh P6) (by decide))
    have ho : ¬ Out wide high P.1 P.2.1 P.2.2 := by unfold Out; omega
    refine ⟨⟨P3, by omega, by omega, by omega, by omega, by omega, by omega, by omega, by decide, by decide⟩, fun _ p hp => ?_, ho⟩
    obtain ⟨q1, q2⟩ := hp
    rw [Int.mul_zero, Int.mul_zero, Int.zero_mul, Int.add_zero, Int.add_zero, Int.mul_one, Int.mul_one, Int.mul_one, sw_in P1 P4, sw_in P2 P5] at q1 q2
    have same : p.1 = P := low_uniq q1.pos P3 q1.gcd P7 (by have := q1.ex; exact this) (by have := q1.ey; exact this)
    have t0 := fmod_lo c8 (y := 11) (by decide)
    rw [if_neg (not_not_intro ⟨⟨by rw [same], by rw [same], by rw [same]⟩, by rw [q2], by rw [q2]⟩)]
    split
    · rename_i h10
      refine ⟨⟨t0, h10, p5, by omega, by omega, P3, by omega, by omega, by omega, P6, lP1, lP2⟩, fun Q hQ => ⟨⟨by decide, by decide⟩, ?_⟩⟩
      obtain ⟨o1, o2, o3, o4, o5, o6, o7⟩ := hQ
      refine for_inv (fun i env S2 => ∃ a b, env = [some (.sl (ns.map .int)), some (.sl (cs.map .int)), some (.int (0 + ↑k * 9)), some (.int wide), some (.int high), some (.sl (zs.map .int)), some (tr P), some (pr g), some (.int (c8.fmod 11)), some (.int Q.1.1), some (.int Q.1.2), some (tr Q.2), a, b] ∧ S2 = S') ⟨_, _, rfl, rfl⟩ ?_ ?_
      · rintro i x env S2 hi ⟨a, b, rfl, rfl⟩
        obtain ⟨hi, rfl⟩ := getElem_map_range hi
        simp only [↓wE_lit, ↓wE_bin, ↓wE_neg, ↓wE_nott, ↓wE_cmp, ↓wE_chain, ↓wE_andd, ↓wE_orr, ↓wE_ife, ↓wE_nil, ↓wE_cons, ↓wE_tup, ↓wE_lst, ↓wE_idx, ↓wE_slc, ↓wE_fld, ↓wE_meth, ↓wE_new, ↓wE_sup, ↓wE_blt, ↓wE_isty, ↓wE_iscl, ↓wE_dnew, ↓wE_dget, ↓wE_din, ↓wE_dget2, ↓wE_sm, ↓wT_cmp, ↓wT_chain, ↓wT_nott, ↓wT_andd, ↓wT_orr, ↓wT_ife, ↓wT_lit, ↓wT_idx, ↓wT_bin, ↓wT_meth, ↓wT_blt, ↓wT_isty, ↓wT_iscl, ↓wT_fld, ↓wT_din, ↓wT_dget, ↓wT_sm, ↓wT_neg, ↓wT_nil, ↓wT_cons, ↓wT_tup, ↓wT_lst, ↓wT_slc, ↓wT_new, ↓wT_comp, ↓wT_sup, ↓wT_dnew, ↓wT_dget2, ↓wT_dpop, ↓wT_clo, ↓wT_ccall, ↓wA_nil, ↓wA_cons, ↓wO_nil, ↓wO_cons, ↓wE_compK, ↓wE_compF, ↓wE_call0, ↓wT_call0, ↓wE_v0, ↓wE_v1, ↓wE_v2, ↓wE_v3, ↓wE_v4, ↓wE_v5, ↓wE_v6, ↓wE_v7, ↓wE_v8, ↓wE_v9, ↓wE_v10, ↓wE_v11, ↓wE_v12, ↓wE_v13, ↓wE_v14, ↓wE_v15, ↓wE_v16, ↓wE_v17, ↓wE_v18, ↓wE_v19, ↓wE_v20, ↓wE_v21, ↓wE_v22, ↓wE_v23, ↓wE_v24, ↓wE_v25, ↓wE_v26, ↓wE_v27, ↓wE_v28, ↓wE_v29, ↓wT_v0, ↓wT_v1, ↓wT_v2, ↓wT_v3, ↓wT_v4, ↓wT_v5, ↓wT_v6, ↓wT_v7, ↓wT_v8, ↓wT_v9, ↓wT_v10, ↓wT_v11, ↓wT_v12, ↓wT_v13, ↓wT_v14, ↓wT_v15, ↓wT_v16, ↓wT_v17, ↓wT_v18, ↓wT_v19, ↓wT_v20, ↓wT_v21, ↓wT_v22, ↓wT_v23, ↓wT_v24, ↓wT_v25, ↓wT_v26, ↓wT_v27, ↓wT_v28, ↓wT_v29, ↓tgt_0, ↓tgt_1, ↓tgt_2, ↓tgt_3, ↓tgt_4, ↓tgt_5, ↓tgt_6, ↓tgt_7, ↓tgt_8, ↓tgt_9, ↓tgt_10, ↓tgt_11, ↓tgt_12, ↓tgt_13, ↓tgt_14, ↓tgt_15, ↓tgt_16, ↓tgt_17, ↓tgt_18, ↓tgt_19, ↓tgt_20, ↓tgt_21, ↓tgt_22, ↓tgt_23, ↓tgt_24, ↓tgt_25, ↓tgt_26, ↓tgt_27, ↓tgt_28, ↓tgt_29, ↓exI_0, ↓exI_1, ↓exI_2, ↓exI_3, ↓exI_4, ↓exI_5, ↓exI_6, ↓exI_7, ↓exI_8, ↓exI_9, ↓exI_10, ↓exI_11, ↓exI_12, ↓exI_13, ↓exI_14, ↓exI_15, ↓exI_16, ↓exI_17, ↓exI_18, ↓exI_19, ↓exI_20, ↓exI_21, ↓exI_22, ↓exI_23, ↓exI_24, ↓exI_25, ↓exI_26, ↓exI_27, ↓exI_28, ↓exI_29, ↓exT_0, ↓exT_1, ↓exT_2, ↓exT_3, ↓exT_4, ↓exT_5, ↓exT_6, ↓exT_7, ↓exT_8, ↓exT_9, ↓exT_10, ↓exT_11, ↓exT_12, ↓exT_13, ↓exT_14, ↓exT_15, ↓exT_16, ↓exT_17, ↓exT_18, ↓exT_19, ↓exT_20, ↓exT_21, ↓exT_22, ↓exT_23, ↓exT_24, ↓exT_25, ↓exT_26, ↓exT_27, ↓exT_28, ↓exT_29, ↓exF_0, ↓exF_1, ↓exF_2, ↓exF_3, ↓exF_4, ↓exF_5, ↓exF_6, ↓exF_7, ↓exF_8, ↓exF_9, ↓exF_10, ↓exF_11, ↓exF_12, ↓exF_13, ↓exF_14, ↓exF_15, ↓exF_16, ↓exF_17, ↓exF_18, ↓exF_19, ↓exF_20, ↓exF_21, ↓exF_22, ↓exF_23, ↓exF_24, ↓exF_25, ↓exF_26, ↓exF_27, ↓exF_28, ↓exF_29, ↓tgt_tn, ↓tgt_tc, ↓wS_skip, ↓wS_seqL, ↓later_at, ↓wS_asg_var, ↓wS_asg_lit, ↓wS_asg_bin, ↓wS_asg_neg, ↓wS_asg_nott, ↓wS_asg_cmp, ↓wS_asg_chain, ↓wS_asg_andd, ↓wS_asg_orr, ↓wS_asg_ife, ↓wS_asg_tup, ↓wS_asg_lst, ↓wS_asg_idx, ↓wS_asg_slc, ↓wS_asg_fld, ↓wS_asg_call, ↓wS_asg_meth, ↓wS_asg_new, ↓wS_asg_blt, ↓wS_asg_isty, ↓wS_asg_iscl, ↓wS_asg_exis, ↓wS_asg_exfl, ↓wS_asg_dnew, ↓wS_asg_dget, ↓wS_asg_din, ↓wS_asg_nil, ↓wS_asg_comp, ↓wS_asg_compF, ↓nxK_at, ↓wS_asgF, ↓wS_asgI, ↓wS_asgD, ↓wS_augN, ↓wS_augI, ↓wS_parL, ↓wS_expr, ↓wS_bm, ↓wS_ret, ↓wS_retN, ↓wS_ite, ↓wFor_cons, ↓wFor_nil, ↓wS_for, ↓wS_brk, ↓wS_cnt, ↓wS_raise, ↓wS_tri, ↓wH_nil, ↓wH_cons0, ↓wH_cons1, ↓tyIs_ref, ↓opBm_appendL, ↓setIL, ↓isL_ref, ↓ob_add, ↓ob_adds, ↓ob_addt, ↓ob_addl, ↓ob_addrl, ↓ob_addlr, ↓ob_addrr, ↓ob_addM, ↓ob_sub, ↓ob_mul, ↓ob_mull, ↓ob_mulM, ↓ob_fdiv, ↓ob_mod, ↓ob_pow, ↓oi_abs, ↓oi_lent, ↓oi_lens, ↓oi_lenr, ↓oi_sortedr, ↓oi_sortedMr, ↓oi_tupler, ↓oi_listr, ↓oi_listMr, ↓oi_sumr, ↓oi_anyr, ↓oi_allr, ↓oi_mxr, ↓oi_mnr, ↓oi_lenl, ↓oi_sortedl, ↓oi_sortedMl, ↓oi_tuplel, ↓oi_listl, ↓oi_listMl, ↓oi_suml, ↓oi_anyl, ↓oi_alll, ↓oi_mxl, ↓oi_mnl, ↓oi_mxt, ↓oi_mnt, ↓oi_max2, ↓oi_min2, ↓oi_int, ↓oi_intb, ↓oi_tuplet, ↓oi_listt, ↓oi_listMt, ↓oi_str, ↓oi_divmod, ↓tru_non, ↓tru_bl, ↓tru_int, ↓tru_str, ↓tru_tup, ↓tru_ref, ↓tru_sl, ↓tyIs_non, ↓tyIs_bl, ↓tyIs_int, ↓tyIs_str, ↓tyIs_tup, ↓tyIs_sl, ↓it_t, ↓it_sr, ↓it_er, ↓it_vr, ↓it_sl, ↓it_el, ↓it_vl, ↓it_z, ↓it_1, ↓it_2, ↓it_3, ↓ltI_i, ↓tl_i, ↓optI_i, ↓osl_t, ↓osl_s, ↓osl_l, ↓osl_r, ↓osl_lM, ↓osl_rM, ↓sq_t, ↓sq_l, ↓getI_i, ↓opIx_tup, ↓opIx_ref, ↓opIx_sl, ↓atQ_0, ↓atQ_1, ↓atQ_2, ↓atQ_3, ↓getL_put, ↓getL_put_ne, ↓getL_put_ne', ↓getL_sl, ↓opC_eq_int, ↓opC_ne_int, ↓opC_eq_bl, ↓opC_ne_bl, ↓opC_eq_t2, ↓opC_ne_t2, ↓opC_eq_t3, ↓opC_ne_t3, ↓opC_eq_t32, ↓opC_ne_t32, ↓opC_lt, ↓opC_le, ↓opC_gt, ↓opC_ge, ↓opC_ne_nil, ↓opC_eq_nil, ↓opC_is, ↓opC_isnot, ↓opC_isb, ↓opC_isnb, ↓opC_isi, ↓opC_isni, ↓opC_ist, ↓opC_isnt, ↓opC_iso, ↓opC_isno, ↓opC_in, ↓opC_notin, ↓finpu_rt, ↓finpu_nx, ↓finpu_ex, ↓finlaw_rt, ↓finlaw_nx, ↓finlaw_ex, ↓finV_rt, ↓finV_nx, ↓finV_ex, ↓finE_rt, ↓finO_rt, ↓finO_ex, ↓finE_ex, ↓finS_rt, ↓finS_ex, ↓finR_ex, ↓finX_rt, ↓finX_nx, ↓finX_ex, put_none, put_put, Val.isNon, intsOf, atI_0, atI_1, atI_2, atI_3, cutG_to, cutG_from, sub_refl_iff, pu_pre, puV_pre, puE_pre, puO_pre, puS_pre, puR_pre, Option.some.injEq, exists_eq_left', exists_eq_left, exists_eq, exists_eq', Val.int.injEq, Val.bl.injEq, Val.str.injEq, Val.tup.injEq, Val.ref.injEq, List.cons.injEq, List.map_cons, List.map_nil, List.length_cons, List.length_nil, List.cons_append, List.nil_append, List.append_nil, Bool.false_eq_true, if_true, if_false, ite_true, ite_false, true_and, and_true, false_and, and_false, Bool.not_true, Bool.not_false, decide_eq_true_eq, bne_iff_ne, ne_eq, beq_iff_eq, put_same, imp_false, false_implies, implies_true, reduceCtorEq, not_false_eq_true, and_self, Bool.or_false, Bool.or_true, Bool.false_or, Bool.true_or, Bool.not_eq_true, Bool.not_eq_eq_eq_not, Bool.decide_eq_false, decide_eq_false_iff_not, Bool.not_eq_true', beq_eq_false_iff_ne, bne_eq_false_iff_eq, List.isEmpty_cons, List.isEmpty_nil, Int.reduceEq, Int.reduceNe, Int.reduceLT, Int.reduceLE, Int.reduceNeg, Int.reduceAdd, Int.reduceSub, Int.reduceMul, Int.reduceToNat, Nat.reduceLT, Nat.reduceLeDiff, Nat.reducePow, Nat.reduceAdd, Nat.reduceSub, ty_bool_bool, ty_bool_int, ty_bool_tuple, ty_bool_list, ty_bool_str, ty_int_bool, ty_int_int, ty_int_tuple, ty_int_list, ty_int_str, ty_tuple_bool, ty_tuple_int, ty_tuple_tuple, ty_tuple_list, ty_tuple_str, ty_list_bool, ty_list_int, ty_list_tuple, ty_list_list, ty_list_str, ty_str_bool, ty_str_int, ty_str_tuple, ty_str_list, ty_str_str, List.set_cons_succ, List.set_cons_zero, wipeE, puX_pre, exn_inj, Nat.reduceEqDiff, List.zip_nil_left, Nat.le_refl, Nat.reduceLeDiff, ↓call__law_side (T0 := T_law) rfl, ↓call__law_inside (T0 := T_law) rfl, ↓call__law_heading (T0 := T_law) rfl, ↓call__law_number (T0 := T_law) rfl, ↓call_box_at (T0 := T_law) rfl, ↓call__law_spoiled (T0 := T_law) rfl, ↓call__law_refused (T0 := T_law) rfl, ck_0_18, ck_1_18, is_0_18, is_1_18]
        exact ⟨⟨o2, o3, o4, o5, o6, o7, by omega, by omega, o1⟩, _, _, rfl, rfl⟩
      · rintro env S2 ⟨a, b, rfl, rfl⟩
        exact ⟨trivial, _, _, _, _, _, _, _, _, _, _, _, _, rfl, rfl⟩
    · exact ⟨_, _, _, _, _, _, _, _, _, _, _, _, rfl, rfl, rfl, rfl, rfl, rfl, rfl, rfl, rfl, rfl, rfl, rfl⟩
  · rintro env S' ⟨a, b, c, d, e, f, g, h, i, j, k, l, rfl, rfl⟩
    simp only [↓wE_lit, ↓wE_bin, ↓wE_neg, ↓wE_nott, ↓wE_cmp, ↓wE_chain, ↓wE_andd, ↓wE_orr, ↓wE_ife, ↓wE_nil, ↓wE_cons, ↓wE_tup, ↓wE_lst, ↓wE_idx, ↓wE_slc, ↓wE_fld, ↓wE_meth, ↓wE_new, ↓wE_sup, ↓wE_blt, ↓wE_isty, ↓wE_iscl, ↓wE_dnew, ↓wE_dget, ↓wE_din, ↓wE_dget2, ↓wE_sm, ↓wT_cmp, ↓wT_chain, ↓wT_nott, ↓wT_andd, ↓wT_orr, ↓wT_ife, ↓wT_lit, ↓wT_idx, ↓wT_bin, ↓wT_meth, ↓wT_blt, ↓wT_isty, ↓wT_iscl, ↓wT_fld, ↓wT_din, ↓wT_dget, ↓wT_sm, ↓wT_neg, ↓wT_nil, ↓wT_cons, ↓wT_tup, ↓wT_lst, ↓wT_slc, ↓wT_new, ↓wT_comp, ↓wT_sup, ↓wT_dnew, ↓wT_dget2, ↓wT_dpop, ↓wT_clo, ↓wT_ccall, ↓wA_nil, ↓wA_cons, ↓wO_nil, ↓wO_cons, ↓wE_compK, ↓wE_compF, ↓wE_call0, ↓wT_call0, ↓wE_v0, ↓wE_v1, ↓wE_v2, ↓wE_v3, ↓wE_v4, ↓wE_v5, ↓wE_v6, ↓wE_v7, ↓wE_v8, ↓wE_v9, ↓wE_v10, ↓wE_v11, ↓wE_v12, ↓wE_v13, ↓wE_v14, ↓wE_v15, ↓wE_v16, ↓wE_v17, ↓wE_v18, ↓wE_v19, ↓wE_v20, ↓wE_v21, ↓wE_v22, ↓wE_v23, ↓wE_v24, ↓wE_v25, ↓wE_v26, ↓wE_v27, ↓wE_v28, ↓wE_v29, ↓wT_v0, ↓wT_v1, ↓wT_v2, ↓wT_v3, ↓wT_v4, ↓wT_v5, ↓wT_v6, ↓wT_v7, ↓wT_v8, ↓wT_v9, ↓wT_v10, ↓wT_v11, ↓wT_v12, ↓wT_v13, ↓wT_v14, ↓wT_v15, ↓wT_v16, ↓wT_v17, ↓wT_v18, ↓wT_v19, ↓wT_v20, ↓wT_v21, ↓wT_v22, ↓wT_v23, ↓wT_v24, ↓wT_v25, ↓wT_v26, ↓wT_v27, ↓wT_v28, ↓wT_v29, ↓tgt_0, ↓tgt_1, ↓tgt_2, ↓tgt_3, ↓tgt_4, ↓tgt_5, ↓tgt_6, ↓tgt_7, ↓tgt_8, ↓tgt_9, ↓tgt_10, ↓tgt_11, ↓tgt_12, ↓tgt_13, ↓tgt_14, ↓tgt_15, ↓tgt_16, ↓tgt_17, ↓tgt_18, ↓tgt_19, ↓tgt_20, ↓tgt_21, ↓tgt_22, ↓tgt_23, ↓tgt_24, ↓tgt_25, ↓tgt_26, ↓tgt_27, ↓tgt_28, ↓tgt_29, ↓exI_0, ↓exI_1, ↓exI_2, ↓exI_3, ↓exI_4, ↓exI_5, ↓exI_6, ↓exI_7, ↓exI_8, ↓exI_9, ↓exI_10, ↓exI_11, ↓exI_12, ↓exI_13, ↓exI_14, ↓exI_15, ↓exI_16, ↓exI_17, ↓exI_18, ↓exI_19, ↓exI_20, ↓exI_21, ↓exI_22, ↓exI_23, ↓exI_24, ↓exI_25, ↓exI_26, ↓exI_27, ↓exI_28, ↓exI_29, ↓exT_0, ↓exT_1, ↓exT_2, ↓exT_3, ↓exT_4, ↓exT_5, ↓exT_6, ↓exT_7, ↓exT_8, ↓exT_9, ↓exT_10, ↓exT_11, ↓exT_12, ↓exT_13, ↓exT_14, ↓exT_15, ↓exT_16, ↓exT_17, ↓exT_18, ↓exT_19, ↓exT_20, ↓exT_21, ↓exT_22, ↓exT_23, ↓exT_24, ↓exT_25, ↓exT_26, ↓exT_27, ↓exT_28, ↓exT_29, ↓exF_0, ↓exF_1, ↓exF_2, ↓exF_3, ↓exF_4, ↓exF_5, ↓exF_6, ↓exF_7, ↓exF_8, ↓exF_9, ↓exF_10, ↓exF_11, ↓exF_12, ↓exF_13, ↓exF_14, ↓exF_15, ↓exF_16, ↓exF_17, ↓exF_18, ↓exF_19, ↓exF_20, ↓exF_21, ↓exF_22, ↓exF_23, ↓exF_24, ↓exF_25, ↓exF_26, ↓exF_27, ↓exF_28, ↓exF_29, ↓tgt_tn, ↓tgt_tc, ↓wS_skip, ↓wS_seqL, ↓later_at, ↓wS_asg_var, ↓wS_asg_lit, ↓wS_asg_bin, ↓wS_asg_neg, ↓wS_asg_nott, ↓wS_asg_cmp, ↓wS_asg_chain, ↓wS_asg_andd, ↓wS_asg_orr, ↓wS_asg_ife, ↓wS_asg_tup, ↓wS_asg_lst, ↓wS_asg_idx, ↓wS_asg_slc, ↓wS_asg_fld, ↓wS_asg_call, ↓wS_asg_meth, ↓wS_asg_new, ↓wS_asg_blt, ↓wS_asg_isty, ↓wS_asg_iscl, ↓wS_asg_exis, ↓wS_asg_exfl, ↓wS_asg_dnew, ↓wS_asg_dget, ↓wS_asg_din, ↓wS_asg_nil, ↓wS_asg_comp, ↓wS_asg_compF, ↓nxK_at, ↓wS_asgF, ↓wS_asgI, ↓wS_asgD, ↓wS_augN, ↓wS_augI, ↓wS_parL, ↓wS_expr, ↓wS_bm, ↓wS_ret, ↓wS_retN, ↓wS_ite, ↓wFor_cons, ↓wFor_nil, ↓wS_for, ↓wS_brk, ↓wS_cnt, ↓wS_raise, ↓wS_tri, ↓wH_nil, ↓wH_cons0, ↓wH_cons1, ↓tyIs_ref, ↓opBm_appendL, ↓setIL, ↓isL_ref, ↓ob_add, ↓ob_adds, ↓ob_addt, ↓ob_addl, ↓ob_addrl, ↓ob_addlr, ↓ob_addrr, ↓ob_addM, ↓ob_sub, ↓ob_mul, ↓ob_mull, ↓ob_mulM, ↓ob_fdiv, ↓ob_mod, ↓ob_pow, ↓oi_abs, ↓oi_lent, ↓oi_lens, ↓oi_lenr, ↓oi_sortedr, ↓oi_sortedMr, ↓oi_tupler, ↓oi_listr, ↓oi_listMr, ↓oi_sumr, ↓oi_anyr, ↓oi_allr, ↓oi_mxr, ↓oi_mnr, ↓oi_lenl, ↓oi_sortedl, ↓oi_sortedMl, ↓oi_tuplel, ↓oi_listl, ↓oi_listMl, ↓oi_suml, ↓oi_anyl, ↓oi_alll, ↓oi_mxl, ↓oi_mnl, ↓oi_mxt, ↓oi_mnt, ↓oi_max2, ↓oi_min2, ↓oi_int, ↓oi_intb, ↓oi_tuplet, ↓oi_listt, ↓oi_listMt, ↓oi_str, ↓oi_divmod, ↓tru_non, ↓tru_bl, ↓tru_int, ↓tru_str, ↓tru_tup, ↓tru_ref, ↓tru_sl, ↓tyIs_non, ↓tyIs_bl, ↓tyIs_int, ↓tyIs_str, ↓tyIs_tup, ↓tyIs_sl, ↓it_t, ↓it_sr, ↓it_er, ↓it_vr, ↓it_sl, ↓it_el, ↓it_vl, ↓it_z, ↓it_1, ↓it_2, ↓it_3, ↓ltI_i, ↓tl_i, ↓optI_i, ↓osl_t, ↓osl_s, ↓osl_l, ↓osl_r, ↓osl_lM, ↓osl_rM, ↓sq_t, ↓sq_l, ↓getI_i, ↓opIx_tup, ↓opIx_ref, ↓opIx_sl, ↓atQ_0, ↓atQ_1, ↓atQ_2, ↓atQ_3, ↓getL_put, ↓getL_put_ne, ↓getL_put_ne', ↓getL_sl, ↓opC_eq_int, ↓opC_ne_int, ↓opC_eq_bl, ↓opC_ne_bl, ↓opC_eq_t2, ↓opC_ne_t2, ↓opC_eq_t3, ↓opC_ne_t3, ↓opC_eq_t32, ↓opC_ne_t32, ↓opC_lt, ↓opC_le, ↓opC_gt, ↓opC_ge, ↓opC_ne_nil, ↓opC_eq_nil, ↓opC_is, ↓opC_isnot, ↓opC_isb, ↓opC_isnb, ↓opC_isi, ↓opC_isni, ↓opC_ist, ↓opC_isnt, ↓opC_iso, ↓opC_isno, ↓opC_in, ↓opC_notin, ↓finpu_rt, ↓finpu_nx, ↓finpu_ex, ↓finlaw_rt, ↓finlaw_nx, ↓finlaw_ex, ↓finV_rt, ↓finV_nx, ↓finV_ex, ↓finE_rt, ↓finO_rt, ↓finO_ex, ↓finE_ex, ↓finS_rt, ↓finS_ex, ↓finR_ex, ↓finX_rt, ↓finX_nx, ↓finX_ex, put_none, put_put, Val.isNon, intsOf, atI_0, atI_1, atI_2, atI_3, cutG_to, cutG_from, sub_refl_iff, pu_pre, puV_pre, puE_pre, puO_pre, puS_pre, puR_pre, Option.some.injEq, exists_eq_left', exists_eq_left, exists_eq, exists_eq', Val.int.injEq, Val.bl.injEq, Val.str.injEq, Val.tup.injEq, Val.ref.injEq, List.cons.injEq, List.map_cons, List.map_nil, List.length_cons, List.length_nil, List.cons_append, List.nil_append, List.append_nil, Bool.false_eq_true, if_true, if_false, ite_true, ite_false, true_and, and_true, false_and, and_false, Bool.not_true, Bool.not_false, decide_eq_true_eq, bne_iff_ne, ne_eq, beq_iff_eq, put_same, imp_false, false_implies, implies_true, reduceCtorEq, not_false_eq_true, and_self, Bool.or_false, Bool.or_true, Bool.false_or, Bool.true_or, Bool.not_eq_true, Bool.not_eq_eq_eq_not, Bool.decide_eq_false, decide_eq_false_iff_not, Bool.not_eq_true', beq_eq_false_iff_ne, bne_eq_false_iff_eq, List.isEmpty_cons, List.isEmpty_nil, Int.reduceEq, Int.reduceNe, Int.reduceLT, Int.reduceLE, Int.reduceNeg, Int.reduceAdd, Int.reduceSub, Int.reduceMul, Int.reduceToNat, Nat.reduceLT, Nat.reduceLeDiff, Nat.reducePow, Nat.reduceAdd, Nat.reduceSub, ty_bool_bool, ty_bool_int, ty_bool_tuple, ty_bool_list, ty_bool_str, ty_int_bool, ty_int_int, ty_int_tuple, ty_int_list, ty_int_str, ty_tuple_bool, ty_tuple_int, ty_tuple_tuple, ty_tuple_list, ty_tuple_str, ty_list_bool, ty_list_int, ty_list_tuple, ty_list_list, ty_list_str, ty_str_bool, ty_str_int, ty_str_tuple, ty_str_list, ty_str_str, List.set_cons_succ, List.set_cons_zero, wipeE, puX_pre, exn_inj, Nat.reduceEqDiff, List.zip_nil_left, Nat.le_refl, Nat.reduceLeDiff]
section
variable {P : Program} {w : World} {K : PySem.W.Frag} {mg : Str → Option Value} {base : Heap} {f : Addr} {fd : FuncData} {x q : Str} {a : Arguments}
theorem ok_divisor (F : FunD K x q a (defBody (top 16)) (defScope (top 16)) [] [] f fd) (gt : GdT K T_divisor) (gd : GdC K mg C_divisor.cst C_divisor.exs C_divisor.cls)  : FnOk P w K mg base (L2.CX P w) 1 f fd ["one", "other"] (spOf K sp_divisor) := fn_ok (T := T_divisor) (C := C_divisor) (k := 0) F sc_divisor rfl rfl rfl gt gd ⟨fns_nil, mts_of rfl mts_nil, mks_nil, sups_nil⟩ c_divisor (fun as S h => by unfold sp_divisor at h; split at h <;> first | rfl | exact h.elim) w_divisor
theorem ok_point_of (F : FunD K x q a (defBody (top 17)) (defScope (top 17)) [] [] f fd) (gt : GdT K T_point_of) (gd : GdC K mg C_point_of.cst C_point_of.exs C_point_of.cls) (h_divisor : FnIn P w K mg base 1 "divisor" (sp_divisor) []) : FnOk P w K mg base (L2.CX P w) 2 f fd ["x", "y", "w"] (spOf K sp_point_of) := fn_ok (T := T_point_of) (C := C_point_of) (k := 1) F sc_point_of rfl rfl rfl gt gd ⟨(fns_cons (n := 2) h_divisor fns_nil (by decide)), mts_of rfl mts_nil, mks_nil, sups_nil⟩ c_point_of (fun as S h => by unfold sp_point_of at h; split at h <;> first | rfl | exact h.elim) w_point_of
theorem ok_look_inside (F : FunD K x q a (defBody (top 20)) (defScope (top 20)) [] [] f fd) (gt : GdT K T_look_inside) (gd : GdC K mg C_look_inside.cst C_look_inside.exs C_look_inside.cls)  : FnOk P w K mg base (L2.CX P w) 1 f fd ["wide", "high", "P"] (spOf K sp_look_inside) := fn_ok (T := T_look_inside) (C := C_look_inside) (k := 0) F sc_look_inside rfl rfl rfl gt gd ⟨fns_nil, mts_of rfl mts_nil, mks_nil, sups_nil⟩ c_look_inside (fun as S h => by unfold sp_look_inside at h; split at h <;> first | rfl | exact h.elim) w_look_inside
theorem ok_swung__0 (F : FunD K x q a (defBody (top 21)) (defScope (top 21)) [] [] f fd) (gt : GdT K T_swung__0) (gd : GdC K mg C_swung__0.cst C_swung__0.exs C_swung__0.cls)  : FnOk P w K mg base (L2.CX P w) 1 f fd ["far", "span", "step"] (spOf K sp_swung__0) := fn_ok (T := T_swung__0) (C := C_swung__0) (k := 0) F sc_swung__0 rfl rfl rfl gt gd ⟨fns_nil, mts_of rfl mts_nil, mks_nil, sups_nil⟩ c_swung__0 (fun as S h => by unfold sp_swung__0 at h; split at h <;> first | rfl | exact h.elim) w_swung__0
theorem ok_swung (F : FunD K x q a (defBody (top 21)) (defScope (top 21)) [] [] f fd) (gt : GdT K T_swung) (gd : GdC K mg C_swung.cst C_swung.exs C_swung.cls) (h_swung__0 : FnIn P w K mg base 1 "swung" (sp_swung__0) []) : FnOk P w K mg base (L2.CX P w) 2 f fd ["far", "span", "step"] (spOf K sp_swung) := fn_ok (T := T_swung) (C := C_swung) (k := 1) F sc_swung rfl rfl rfl gt gd ⟨(fns_cons (n := 3) h_swung__0 fns_nil (by decide)), mts_of rfl mts_nil, mks_nil, sups_nil⟩ c_swung (fun as S h => by unfold sp_swung at h; split at h <;> first | rfl | exact h.elim) w_swung
theorem ok_box_at (F : FunD K x q a (defBody (top 22)) (defScope (top 22)) [] [] f fd) (gt : GdT K T_box_at) (gd : GdC K mg C_box_at.cst C_box_at.exs C_box_at.cls) (h_look_inside : FnIn P w K mg base 1 "look_inside" (sp_look_inside) []) (h_swung : FnIn P w K mg base 2 "swung" (sp_swung) []) (h_point_of : FnIn P w K mg base 2 "point_of" (sp_point_of) []) : FnOk P w K mg base (L2.CX P w) 3 f fd ["wide", "high", "P", "heading", "t"] (spOf K sp_box_at) := fn_ok (T := T_box_at) (C := C_box_at) (k := 2) F sc_box_at rfl rfl rfl gt gd ⟨(fns_cons (n := 3) h_look_inside (fns_cons (n := 3) h_swung (fns_cons (n := 3) h_point_of fns_nil (by decide)) (by decide)) (by decide)), mts_of rfl mts_nil, mks_nil, sups_nil⟩ c_box_at (fun as S h => by unfold sp_box_at at h; split at h <;> first | rfl | exact h.elim) w_box_at
theorem ok_box_corner (F : FunD K x q a (defBody (top 24)) (defScope (top 24)) [] [] f fd) (gt : GdT K T_box_corner) (gd : GdC K mg C_box_corner.cst C_box_corner.exs C_box_corner.cls) (h_look_inside : FnIn P w K mg base 1 "look_inside" (sp_look_inside) []) (h_divisor : FnIn P w K mg base 1 "divisor" (sp_divisor) []) : FnOk P w K mg base (L2.CX P w) 2 f fd ["wide", "high", "P", "heading"] (spOf K sp_box_corner) := fn_ok (T := T_box_corner) (C := C_box_corner) (k := 1) F sc_box_corner rfl rfl rfl gt gd ⟨(fns_cons (n := 3) h_look_inside (fns_cons (n := 2) h_divisor fns_nil (by decide)) (by decide)), mts_of rfl mts_nil, mks_nil, sups_nil⟩ c_box_corner (fun as S h => by unfold sp_box_corner at h; split at h <;> first | rfl | exact h.elim) w_box_corner
theorem ok_box_round (F : FunD K x q a (defBody (top 25)) (defScope (top 25)) [] [] f fd) (gt : GdT K T_box_round) (gd : GdC K mg C_box_round.cst C_box_round.exs C_box_round.cls) (h_look_inside : FnIn P w K mg base 1 "look_inside" (sp_look_inside) []) (h_divisor : FnIn P w K mg base 1 "divisor" (sp_divisor) []) : FnOk P w K mg base (L2.CX P w) 2 f fd ["wide", "high", "P", "heading"] (spOf K sp_box_round) := fn_ok (T := T_box_round) (C := C_box_round) (k := 1) F sc_box_round rfl rfl rfl gt gd ⟨(fns_cons (n := 3) h_look_inside (fns_cons (n := 2) h_divisor fns_nil (by decide)) (by decide)), mts_of rfl mts_nil, mks_nil, sups_nil⟩ c_box_round (fun as S h => by unfold sp_box_round at h; split at h <;> first | rfl | exact h.elim) w_box_round
theorem ok__law_number (F : FunD K x q a (defBody (top 27)) (defScope (top 27)) [] [] f fd) (gt : GdT K T__law_number) (gd : GdC K mg C__law_number.cst C__law_number.exs C__law_number.cls)  : FnOk P w K mg base (L2.CX P w) 1 f fd ["cell"] (spOf K sp__law_number) := fn_ok (T := T__law_number) (C := C__law_number) (k := 0) F sc__law_number rfl rfl rfl gt gd ⟨fns_nil, mts_of rfl mts_nil, mks_nil, sups_nil⟩ c__law_number (fun as S h => by unfold sp__law_number at h; split at h <;> first | rfl | exact h.elim) w__law_number
theorem ok__law_side (F : FunD K x q a (defBody (top 28)) (defScope (top 28)) [] [] f fd) (gt : GdT K T__law_side) (gd : GdC K mg C__law_side.cst C__law_side.exs C__law_side.cls)  : FnOk P w K mg base (L2.CX P w) 1 f fd ["cell"] (spOf K sp__law_side) := fn_ok (T := T__law_side) (C := C__law_side) (k := 0) F sc__law_side rfl rfl rfl gt gd ⟨fns_nil, mts_of rfl mts_nil, mks_nil, sups_nil⟩ c__law_side (fun as S h => by unfold sp__law_side at h; split at h <;> first | rfl | exact h.elim) w__law_side
theorem ok__law_measure (F : FunD K x q a (defBody (top 29)) (defScope (top 29)) [] [] f fd) (gt : GdT K T__law_measure) (gd : GdC K mg C__law_measure.cst C__law_measure.exs C__law_measure.cls)  : FnOk P w K mg base (L2.CX P w) 1 f fd ["one", "other"] (spOf K sp__law_measure) := fn_ok (T := T__law_measure) (C := C__law_measure) (k := 0) F sc__law_measure rfl rfl rfl gt gd ⟨fns_nil, mts_of rfl mts_nil, mks_nil, sups_nil⟩ c__law_measure (fun as S h => by unfold sp__law_measure at h; split at h <;> first | rfl | exact h.elim) w__law_measure
theorem ok__law_reduced (F : FunD K x q a (defBody (top 30)) (defScope (top 30)) [] [] f fd) (gt : GdT K T__law_reduced) (gd : GdC K mg C__law_reduced.cst C__law_reduced.exs C__law_reduced.cls) (h__law_measure : FnIn P w K mg base 1 "_law_measure" (sp__law_measure) []) : FnOk P w K mg base (L2.CX P w) 2 f fd ["top", "bottom"] (spOf K sp__law_reduced) := fn_ok (T := T__law_reduced) (C := C__law_reduced) (k := 1) F sc__law_reduced rfl rfl rfl gt gd ⟨(fns_cons (n := 2) h__law_measure fns_nil (by decide)), mts_of rfl mts_nil, mks_nil, sups_nil⟩ c__law_reduced (fun as S h => by unfold sp__law_reduced at h; split at h <;> first | rfl | exact h.elim) w__law_reduced
theorem ok__law_point (F : FunD K x q a (defBody (top 31)) (defScope (top 31)) [] [] f fd) (gt : GdT K T__law_point) (gd : GdC K mg C__law_point.cst C__law_point.exs C__law_point.cls) (h__law_measure : FnIn P w K mg base 1 "_law_measure" (sp__law_measure) []) : FnOk P w K mg base (L2.CX P w) 2 f fd ["x", "y", "w"] (spOf K sp__law_point) := fn_ok (T := T__law_point) (C := C__law_point) (k := 1) F sc__law_point rfl rfl rfl gt gd ⟨(fns_cons (n := 2) h__law_measure fns_nil (by decide)), mts_of rfl mts_nil, mks_nil, sups_nil⟩ c__law_point (fun as S h => by unfold sp__law_point at h; split at h <;> first | rfl | exact h.elim) w__law_point
theorem ok__law_heading (F : FunD K x q a (defBody (top 32)) (defScope (top 32)) [] [] f fd) (gt : GdT K T__law_heading) (gd : GdC K mg C__law_heading.cst C__law_heading.exs C__law_heading.cls) (h__law_reduced : FnIn P w K mg base 2 "_law_reduced" (sp__law_reduced) []) : FnOk P w K mg base (L2.CX P w) 3 f fd ["a", "b"] (spOf K sp__law_heading) := fn_ok (T := T__law_heading) (C := C__law_heading) (k := 2) F sc__law_heading rfl rfl rfl gt gd ⟨(fns_cons (n := 2) h__law_reduced fns_nil (by decide)), mts_of rfl mts_nil, mks_nil, sups_nil⟩ c__law_heading (fun as S h => by unfold sp__law_heading at h; split at h <;> first | rfl | exact h.elim) w__law_heading
theorem ok__law_inside (F : FunD K x q a (defBody (top 33)) (defScope (top 33)) [] [] f fd) (gt : GdT K T__law_inside) (gd : GdC K mg C__law_inside.cst C__law_inside.exs C__law_inside.cls) (h__law_point : FnIn P w K mg base 2 "_law_point" (sp__law_point) []) : FnOk P w K mg base (L2.CX P w) 3 f fd ["wide", "high", "some"] (spOf K sp__law_inside) := fn_ok (T := T__law_inside) (C := C__law_inside) (k := 2) F sc__law_inside rfl rfl rfl gt gd ⟨(fns_cons (n := 3) h__law_point fns_nil (by decide)), mts_of rfl mts_nil, mks_nil, sups_nil⟩ c__law_inside (fun as S h => by unfold sp__law_inside at h; split at h <;> first | rfl | exact h.elim) w__law_inside
theorem ok__law_spoiled (F : FunD K x q a (defBody (top 34)) (defScope (top 34)) [] [] f fd) (gt : GdT K T__law_spoiled) (gd : GdC K mg C__law_spoiled.cst C__law_spoiled.exs C__law_spoiled.cls) (h__law_point : FnIn P w K mg base 2 "_law_point" (sp__law_point) []) : FnOk P w K mg base (L2.CX P w) 3 f fd ["way", "wide", "high", "P", "low"] (spOf K sp__law_spoiled) := fn_ok (T := T__law_spoiled) (C := C__law_spoiled) (k := 2) F sc__law_spoiled rfl rfl rfl gt gd ⟨(fns_cons (n := 3) h__law_point fns_nil (by decide)), mts_of rfl mts_nil, mks_nil, sups_nil⟩ c__law_spoiled (fun as S h => by unfold sp__law_spoiled at h; split at h <;> first | rfl | exact h.elim) w__law_spoiled
theorem ok__law_asked (F : FunD K x q a (defBody (top 35)) (defScope (top 35)) [] [] f fd) (gt : GdT K T__law_asked) (gd : GdC K mg C__law_asked.cst C__law_asked.exs C__law_asked.cls) (h_box_round : FnIn P w K mg base 2 "box_round" (sp_box_round) []) (h_box_at : FnIn P w K mg base 3 "box_at" (sp_box_at) []) (h_box_corner : FnIn P w K mg base 2 "box_corner" (sp_box_corner) []) : FnOk P w K mg base (L2.CX P w) 4 f fd ["number", "wide", "high", "P", "heading"] (spOf K sp__law_asked) := fn_ok (T := T__law_asked) (C := C__law_asked) (k := 3) F sc__law_asked rfl rfl rfl gt gd ⟨(fns_cons (n := 4) h_box_round (fns_cons (n := 5) h_box_at (fns_cons (n := 4) h_box_corner fns_nil (by decide)) (by decide)) (by decide)), mts_of rfl mts_nil, mks_nil, sups_nil⟩ c__law_asked (fun as S h => by unfold sp__law_asked at h; split at h <;> first | rfl | exact h.elim) w__law_asked
theorem ok__law_refused (F : FunD K x q a (defBody (top 36)) (defScope (top 36)) [] [] f fd) (gt : GdT K T__law_refused) (gd : GdC K mg C__law_refused.cst C__law_refused.exs C__law_refused.cls) (h__law_asked : FnIn P w K mg base 4 "_law_asked" (sp__law_asked) []) : FnOk P w K mg base (L2.CX P w) 5 f fd ["number", "wide", "high", "P", "heading"] (spOf K sp__law_refused) := fn_ok (T := T__law_refused) (C := C__law_refused) (k := 4) F sc__law_refused rfl rfl rfl gt gd ⟨(fns_cons (n := 5) h__law_asked fns_nil (by decide)), mts_of rfl mts_nil, mks_nil, sups_nil⟩ c__law_refused (fun as S h => by unfold sp__law_refused at h; split at h <;> first | rfl | exact h.elim) w__law_refused
theorem ok_law (F : FunD K x q a (defBody (top 37)) (defScope (top 37)) [] [] f fd) (gt : GdT K T_law) (gd : GdC K mg C_law.cst C_law.exs C_law.cls) (h__law_side : FnIn P w K mg base 1 "_law_side" (sp__law_side) []) (h__law_inside : FnIn P w K mg base 3 "_law_inside" (sp__law_inside) []) (h__law_heading : FnIn P w K mg base 3 "_law_heading" (sp__law_heading) []) (h__law_number : FnIn P w K mg base 1 "_law_number" (sp__law_number) []) (h_box_at : FnIn P w K mg base 3 "box_at" (sp_box_at) []) (h__law_spoiled : FnIn P w K mg base 3 "_law_spoiled" (sp__law_spoiled) []) (h__law_refused : FnIn P w K mg base 5 "_law_refused" (sp__law_refused) []) : FnOk P w K mg base (L2.CX P w) 6 f fd ["script"] (spOf K sp_law) := fn_ok (T := T_law) (C := C_law) (k := 5) F sc_law rfl rfl rfl gt gd ⟨(fns_cons (n := 1) h__law_side (fns_cons (n := 3) h__law_inside (fns_cons (n := 2) h__law_heading (fns_cons (n := 1) h__law_number (fns_cons (n := 5) h_box_at (fns_cons (n := 5) h__law_spoiled (fns_cons (n := 5) h__law_refused fns_nil (by decide)) (by decide)) (by decide)) (by decide)) (by decide)) (by decide)) (by decide)), mts_of rfl mts_nil, mks_nil, sups_nil⟩ c_law (fun as S ⟨ns, h, _⟩ => by rw [h]; rfl) w_law
end
def fn : List He.DefD := [⟨("divisor", none), "divisor", "divisor", defArgs (top 16), defBody (top 16), defScope (top 16), [], []⟩, ⟨("point_of", none), "point_of", "point_of", defArgs (top 17), defBody (top 17), defScope (top 17), [], []⟩, ⟨("look_inside", none), "look_inside", "look_inside", defArgs (top 20), defBody (top 20), defScope (top 20), [], []⟩, ⟨("swung", none), "swung", "swung", defArgs (top 21), defBody (top 21), defScope (top 21), [], []⟩, ⟨("box_at", none), "box_at", "box_at", defArgs (top 22), defBody (top 22), defScope (top 22), [], []⟩, ⟨("box_corner", none), "box_corner", "box_corner", defArgs (top 24), defBody (top 24), defScope (top 24), [], []⟩, ⟨("box_round", none), "box_round", "box_round", defArgs (top 25), defBody (top 25), defScope (top 25), [], []⟩, ⟨("_law_number", none), "_law_number", "_law_number", defArgs (top 27), defBody (top 27), defScope (top 27), [], []⟩, ⟨("_law_side", none), "_law_side", "_law_side", defArgs (top 28), defBody (top 28), defScope (top 28), [], []⟩, ⟨("_law_measure", none), "_law_measure", "_law_measure", defArgs (top 29), defBody (top 29), defScope (top 29), [], []⟩, ⟨("_law_reduced", none), "_law_reduced", "_law_reduced", defArgs (top 30), defBody (top 30), defScope (top 30), [], []⟩, ⟨("_law_point", none), "_law_point", "_law_point", defArgs (top 31), defBody (top 31), defScope (top 31), [], []⟩, ⟨("_law_heading", none), "_law_heading", "_law_heading", defArgs (top 32), defBody (top 32), defScope (top 32), [], []⟩, ⟨("_law_inside", none), "_law_inside", "_law_inside", defArgs (top 33), defBody (top 33), defScope (top 33), [], []⟩, ⟨("_law_spoiled", none), "_law_spoiled", "_law_spoiled", defArgs (top 34), defBody (top 34), defScope (top 34), [], []⟩, ⟨("_law_asked", none), "_law_asked", "_law_asked", defArgs (top 35), defBody (top 35), defScope (top 35), [], []⟩, ⟨("_law_refused", none), "_law_refused", "_law_refused", defArgs (top 36), defBody (top 36), defScope (top 36), [], []⟩, ⟨("law", none), "law", "law", defArgs (top 37), defBody (top 37), defScope (top 37), [], []⟩]
def fb0 : List Fb := [.fa (.glo "divisor"), .fa (.glo "point_of"), .fa (.glo "look_inside"), .fa (.glo "swung"), .fa (.glo "box_at"), .fa (.glo "box_corner"), .fa (.glo "box_round"), .fa (.glo "_law_number"), .fa (.glo "_law_side"), .fa (.glo "_law_measure"), .fa (.glo "_law_reduced"), .fa (.glo "_law_point"), .fa (.glo "_law_heading"), .fa (.glo "_law_inside"), .fa (.glo "_law_spoiled"), .fa (.glo "_law_asked"), .fa (.glo "_law_refused"), .fa (.glo "law"), .fa (.glo "NoPoint"), .fa (.glo "OutOfBox"), .fa (.glo "BadDrawing"), .fa (.glo "BadWall"), .fa (.glo "NoName"), .fa (.glo "NoRow"), .fa (.glo "NoText"), .fa (.glo "NoWay"), .fa (.glo "OnWall"), .fa (.glo "Over"), .fa (.glo "Overlap"), .fa (.glo "TooLong"), .fa (.glo "TooMany"), .fa (.glo "RoomError"), .fa (.exc "NoPoint"), .fa (.exc "OutOfBox")]
def fb : List Fb := fb0 ++ (bltNames.map (fun x => .fa (.free x)) ++ fbT flL iscL exmL)
abbrev R : PySem.W.OpenRow := PySem.W.OpenLaw.row PySem.Challenge.rw_bouncewise_k85_out_of_the_box
abbrev hk : PySem.W.Hook := hookB 5 fb fn
def ob (s : PySem.W.SharedT) : He.AlD := obsBG 5 fb fn (HandSHeadRun.getT s)
theorem ob_eq (s : PySem.W.SharedT) : ob s = hk.obs s.abs := obsBG_eq (HandSHeadRun.getT_eq s)
theorem run (w : World) : HandSHeadRun.RunEq R (PySem.W.view R.prog [37]) hk ob 12000 ("RoomError" :: "NoPoint" :: "NoWay" :: "BadWall" :: "TooMany" :: "Overlap" :: "OnWall" :: "Over" :: "TooLong" :: "OutOfBox" :: "BadDrawing" :: "NoText" :: "NoName" :: "NoRow" :: "divisor" :: "point_of" :: "time_of" :: "look_inside" :: "swung" :: "box_at" :: "undone" :: "box_corner" :: "box_round" :: "_law_number" :: "_law_side" :: "_law_measure" :: "_law_reduced" :: "_law_point" :: "_law_heading" :: "_law_inside" :: "_law_spoiled" :: "_law_asked" :: "_law_refused" :: [] : List PySem.Str) w := by
  intro os
  kernel_rfl
theorem law_fn {P : Program} {w : World} {K : PySem.W.Frag} {h : Heap} {mg : Str → Option Value} {f : Addr} (X : K.In h) (Gx : h.Ns mainGlobals mg) (hfa : mg ("law" : Str) = some (.ref f)) (c : SaysB fb fn K) :
    ∃ fd : FuncData, noList K = true ∧ (∀ (s : Shared) (v : Value), BindsTo s fd ⟨[v], []⟩ [("script", v)]) ∧ ∀ base : Heap, K.In base → base.Ns mainGlobals mg → FnOk P w K mg base (L2.CX P w) 6 f fd ["script"] (spOf K lawSpec) := by
  obtain ⟨nl, fct, _⟩ := c.parts
  have f0 : ∀ (i : Nat) {g : Fb}, fb0[i]? = some g → g.ok K = true := fun i g e => fct g (List.mem_append_left _ (List.mem_of_getElem? e))
  obtain ⟨fd_0, F_0⟩ := c.def_ 0 rfl
  obtain ⟨fd_1, F_1⟩ := c.def_ 1 rfl
  obtain ⟨fd_2, F_2⟩ := c.def_ 2 rfl
  obtain ⟨fd_3, F_3⟩ := c.def_ 3 rfl
  obtain ⟨fd_4, F_4⟩ := c.def_ 4 rfl
  obtain ⟨fd_5, F_5⟩ := c.def_ 5 rfl
  obtain ⟨fd_6, F_6⟩ := c.def_ 6 rfl
  obtain ⟨fd_7, F_7⟩ := c.def_ 7 rfl
  obtain ⟨fd_8, F_8⟩ := c.def_ 8 rfl
  obtain ⟨fd_9, F_9⟩ := c.def_ 9 rfl
  obtain ⟨fd_10, F_10⟩ := c.def_ 10 rfl
  obtain ⟨fd_11, F_11⟩ := c.def_ 11 rfl
  obtain ⟨fd_12, F_12⟩ := c.def_ 12 rfl
  obtain ⟨fd_13, F_13⟩ := c.def_ 13 rfl
  obtain ⟨fd_14, F_14⟩ := c.def_ 14 rfl
  obtain ⟨fd_15, F_15⟩ := c.def_ 15 rfl
  obtain ⟨fd_16, F_16⟩ := c.def_ 16 rfl
  obtain ⟨fd_17, F_17⟩ := c.def_ 17 rfl
  have bl : ∀ x ∈ bltNames, mg x = none := free_of X Gx fct fun x hx => List.mem_append_right _ (List.mem_append_left _ (List.mem_map.mpr ⟨x, hx, rfl⟩))
  have gt : GdT K T := gdT_of (fl := flL) (isc := iscL) (exm := exmL) rfl rfl rfl fun g hg => fct g (List.mem_append_right _ (List.mem_append_right _ hg))
  have g_divisor : mg "divisor" = some (.ref (He.ga K "divisor")) := He.glo_ok X Gx (show (He.Fa.glo "divisor").ok K = true from (f0 0 rfl))
  have g_point_of : mg "point_of" = some (.ref (He.ga K "point_of")) := He.glo_ok X Gx (show (He.Fa.glo "point_of").ok K = true from (f0 1 rfl))
  have g_look_inside : mg "look_inside" = some (.ref (He.ga K "look_inside")) := He.glo_ok X Gx (show (He.Fa.glo "look_inside").ok K = true from (f0 2 rfl))
  have g_swung : mg "swung" = some (.ref (He.ga K "swung")) := He.glo_ok X Gx (show (He.Fa.glo "swung").ok K = true from (f0 3 rfl))
  have g_box_at : mg "box_at" = some (.ref (He.ga K "box_at")) := He.glo_ok X Gx (show (He.Fa.glo "box_at").ok K = true from (f0 4 rfl))
  have g_box_corner : mg "box_corner" = some (.ref (He.ga K "box_corner")) := He.glo_ok X Gx (show (He.Fa.glo "box_corner").ok K = true from (f0 5 rfl))
  have g_box_round : mg "box_round" = some (.ref (He.ga K "box_round")) := He.glo_ok X Gx (show (He.Fa.glo "box_round").ok K = true from (f0 6 rfl))
  have g__law_number : mg "_law_number" = some (.ref (He.ga K "_law_number")) := He.glo_ok X Gx (show (He.Fa.glo "_law_number").ok K = true from (f0 7 rfl))
  have g__law_side : mg "_law_side" = some (.ref (He.ga K "_law_side")) := He.glo_ok X Gx (show (He.Fa.glo "_law_side").ok K = true from (f0 8 rfl))
  have g__law_measure : mg "_law_measure" = some (.ref (He.ga K "_law_measure")) := He.glo_ok X Gx (show (He.Fa.glo "_law_measure").ok K = true from (f0 9 rfl))
  have g__law_reduced : mg "_law_reduced" = some (.ref (He.ga K "_law_reduced")) := He.glo_ok X Gx (show (He.Fa.glo "_law_reduced").ok K = true from (f0 10 rfl))
  have g__law_point : mg "_law_point" = some (.ref (He.ga K "_law_point")) := He.glo_ok X Gx (show (He.Fa.glo "_law_point").ok K = true from (f0 11 rfl))
  have g__law_heading : mg "_law_heading" = some (.ref (He.ga K "_law_heading")) := He.glo_ok X Gx (show (He.Fa.glo "_law_heading").ok K = true from (f0 12 rfl))
  have g__law_inside : mg "_law_inside" = some (.ref (He.ga K "_law_inside")) := He.glo_ok X Gx (show (He.Fa.glo "_law_inside").ok K = true from (f0 13 rfl))
  have g__law_spoiled : mg "_law_spoiled" = some (.ref (He.ga K "_law_spoiled")) := He.glo_ok X Gx (show (He.Fa.glo "_law_spoiled").ok K = true from (f0 14 rfl))
  have g__law_asked : mg "_law_asked" = some (.ref (He.ga K "_law_asked")) := He.glo_ok X Gx (show (He.Fa.glo "_law_asked").ok K = true from (f0 15 rfl))
  have g__law_refused : mg "_law_refused" = some (.ref (He.ga K "_law_refused")) := He.glo_ok X Gx (show (He.Fa.glo "_law_refused").ok K = true from (f0 16 rfl))
  have g_law : mg "law" = some (.ref (He.ga K "law")) := He.glo_ok X Gx (show (He.Fa.glo "law").ok K = true from (f0 17 rfl))
  have g_NoPoint : mg "NoPoint" = some (.ref (ca K 10)) := glo_of X Gx (show (He.Fa.glo "NoPoint").ok K = true from (f0 18 rfl))
  have g_OutOfBox : mg "OutOfBox" = some (.ref (ca K 18)) := glo_of X Gx (show (He.Fa.glo "OutOfBox").ok K = true from (f0 19 rfl))
  have g_BadDrawing : mg "BadDrawing" = some (.ref (ca K 19)) := glo_of X Gx (show (He.Fa.glo "BadDrawing").ok K = true from (f0 20 rfl))
  have g_BadWall : mg "BadWall" = some (.ref (ca K 12)) := glo_of X Gx (show (He.Fa.glo "BadWall").ok K = true from (f0 21 rfl))
  have g_NoName : mg "NoName" = some (.ref (ca K 21)) := glo_of X Gx (show (He.Fa.glo "NoName").ok K = true from (f0 22 rfl))
  have g_NoRow : mg "NoRow" = some (.ref (ca K 22)) := glo_of X Gx (show (He.Fa.glo "NoRow").ok K = true from (f0 23 rfl))
  have g_NoText : mg "NoText" = some (.ref (ca K 20)) := glo_of X Gx (show (He.Fa.glo "NoText").ok K = true from (f0 24 rfl))
  have g_NoWay : mg "NoWay" = some (.ref (ca K 11)) := glo_of X Gx (show (He.Fa.glo "NoWay").ok K = true from (f0 25 rfl))
  have g_OnWall : mg "OnWall" = some (.ref (ca K 15)) := glo_of X Gx (show (He.Fa.glo "OnWall").ok K = true from (f0 26 rfl))
  have g_Over : mg "Over" = some (.ref (ca K 16)) := glo_of X Gx (show (He.Fa.glo "Over").ok K = true from (f0 27 rfl))
  have g_Overlap : mg "Overlap" = some (.ref (ca K 14)) := glo_of X Gx (show (He.Fa.glo "Overlap").ok K = true from (f0 28 rfl))
  have g_TooLong : mg "TooLong" = some (.ref (ca K 17)) := glo_of X Gx (show (He.Fa.glo "TooLong").ok K = true from (f0 29 rfl))
  have g_TooMany : mg "TooMany" = some (.ref (ca K 13)) := glo_of X Gx (show (He.Fa.glo "TooMany").ok K = true from (f0 30 rfl))
  have g_RoomError : mg "RoomError" = some (.ref (ca K 9)) := glo_of X Gx (show (He.Fa.glo "RoomError").ok K = true from (f0 31 rfl))
  have e := hfa.symm.trans g_law
  cases e
  have b := FunD.bindsA (ps := ["script"]) F_17 fun _ _ _ _ _ _ us hl => match us, hl with | [_], _ => rfl
  refine ⟨fd_17, nl, fun s v => b s [v] rfl, fun base _ _ => ?_⟩
  have h__law_side : FnIn P w K mg base 1 "_law_side" sp__law_side [] := fn_in F_8 g__law_side (ok__law_side F_8 ⟨gt.fl, gt.isc, gt.exm⟩ (⟨bl, cst_nil, (fun q hq => by cases hq), (fun q hq => by cases hq)⟩ : GdC K mg C__law_side.cst C__law_side.exs C__law_side.cls) ) fun _ _ _ _ _ _ us hl => match us, hl with | [_], _ => rfl
  have h__law_measure : FnIn P w K mg base 1 "_law_measure" sp__law_measure [] := fn_in F_9 g__law_measure (ok__law_measure F_9 ⟨gt.fl, gt.isc, gt.exm⟩ (⟨bl, cst_nil, (fun q hq => by cases hq), (fun q hq => by cases hq)⟩ : GdC K mg C__law_measure.cst C__law_measure.exs C__law_measure.cls) ) fun _ _ _ _ _ _ us hl => match us, hl with | [_, _], _ => rfl
  have h__law_point : FnIn P w K mg base 2 "_law_point" sp__law_point [] := fn_in F_11 g__law_point (ok__law_point F_11 ⟨gt.fl, gt.isc, gt.exm⟩ (⟨bl, cst_nil, (fun q hq => by cases hq), (fun q hq => by cases hq)⟩ : GdC K mg C__law_point.cst C__law_point.exs C__law_point.cls) h__law_measure) fun _ _ _ _ _ _ us hl => match us, hl with | [_, _, _], _ => rfl
  have h__law_inside : FnIn P w K mg base 3 "_law_inside" sp__law_inside [] := fn_in F_13 g__law_inside (ok__law_inside F_13 ⟨gt.fl, gt.isc, gt.exm⟩ (⟨bl, cst_nil, (fun q hq => by cases hq), (fun q hq => by cases hq)⟩ : GdC K mg C__law_inside.cst C__law_inside.exs C__law_inside.cls) h__law_point) fun _ _ _ _ _ _ us hl => match us, hl with | [_, _, _], _ => rfl
  have h__law_reduced : FnIn P w K mg base 2 "_law_reduced" sp__law_reduced [] := fn_in F_10 g__law_reduced (ok__law_reduced F_10 ⟨gt.fl, gt.isc, gt.exm⟩ (⟨bl, cst_nil, (fun q hq => by cases hq), (fun q hq => by cases hq)⟩ : GdC K mg C__law_reduced.cst C__law_reduced.exs C__law_reduced.cls) h__law_measure) fun _ _ _ _ _ _ us hl => match us, hl with | [_, _], _ => rfl
  have h__law_heading : FnIn P w K mg base 3 "_law_heading" sp__law_heading [] := fn_in F_12 g__law_heading (ok__law_heading F_12 ⟨gt.fl, gt.isc, gt.exm⟩ (⟨bl, cst_nil, (fun q hq => by cases hq), (fun q hq => by cases hq)⟩ : GdC K mg C__law_heading.cst C__law_heading.exs C__law_heading.cls) h__law_reduced) fun _ _ _ _ _ _ us hl => match us, hl with | [_, _], _ => rfl
  have h__law_number : FnIn P w K mg base 1 "_law_number" sp__law_number [] := fn_in F_7 g__law_number (ok__law_number F_7 ⟨gt.fl, gt.isc, gt.exm⟩ (⟨bl, cst_nil, (fun q hq => by cases hq), (fun q hq => by cases hq)⟩ : GdC K mg C__law_number.cst C__law_number.exs C__law_number.cls) ) fun _ _ _ _ _ _ us hl => match us, hl with | [_], _ => rfl
  have h_look_inside : FnIn P w K mg base 1 "look_inside" sp_look_inside [] := fn_in F_2 g_look_inside (ok_look_inside F_2 ⟨gt.fl, gt.isc, gt.exm⟩ (⟨bl, cst_nil, (by
    intro q hq
    simp only [C_look_inside, List.mem_cons, List.not_mem_nil, or_false] at hq
    rcases hq with rfl
    · exact ⟨g_OutOfBox, He.exc_ok (show (He.Fa.exc "OutOfBox").ok K = true from (f0 33 rfl))⟩), (fun q hq => by cases hq)⟩ : GdC K mg C_look_inside.cst C_look_inside.exs C_look_inside.cls) ) fun _ _ _ _ _ _ us hl => match us, hl with | [_, _, _], _ => rfl
  have h_swung__0 : FnIn P w K mg base 1 "swung" sp_swung__0 [] := fn_in F_3 g_swung (ok_swung__0 F_3 ⟨gt.fl, gt.isc, gt.exm⟩ (⟨bl, cst_nil, (fun q hq => by cases hq), (fun q hq => by cases hq)⟩ : GdC K mg C_swung__0.cst C_swung__0.exs C_swung__0.cls) ) fun _ _ _ _ _ _ us hl => match us, hl with | [_, _, _], _ => rfl
  have h_swung : FnIn P w K mg base 2 "swung" sp_swung [] := fn_in F_3 g_swung (ok_swung F_3 ⟨gt.fl, gt.isc, gt.exm⟩ (⟨bl, cst_nil, (fun q hq => by cases hq), (fun q hq => by cases hq)⟩ : GdC K mg C_swung.cst C_swung.exs C_swung.cls) h_swung__0) fun _ _ _ _ _ _ us hl => match us, hl with | [_, _, _], _ => rfl
  have h_divisor : FnIn P w K mg base 1 "divisor" sp_divisor [] := fn_in F_0 g_divisor (ok_divisor F_0 ⟨gt.fl, gt.isc, gt.exm⟩ (⟨bl, cst_nil, (fun q hq => by cases hq), (fun q hq => by cases hq)⟩ : GdC K mg C_divisor.cst C_divisor.exs C_divisor.cls) ) fun _ _ _ _ _ _ us hl => match us, hl with | [_, _], _ => rfl
  have h_point_of : FnIn P w K mg base 2 "point_of" sp_point_of [] := fn_in F_1 g_point_of (ok_point_of F_1 ⟨gt.fl, gt.isc, gt.exm⟩ (⟨bl, cst_nil, (by
    intro q hq
    simp only [C_point_of, List.mem_cons, List.not_mem_nil, or_false] at hq
    rcases hq with rfl
    · exact ⟨g_NoPoint, He.exc_ok (show (He.Fa.exc "NoPoint").ok K = true from (f0 32 rfl))⟩), (fun q hq => by cases hq)⟩ : GdC K mg C_point_of.cst C_point_of.exs C_point_of.cls) h_divisor) fun _ _ _ _ _ _ us hl => match us, hl with | [_, _, _], _ => rfl
  have h_box_at : FnIn P w K mg base 3 "box_at" sp_box_at [] := fn_in F_4 g_box_at (ok_box_at F_4 ⟨gt.fl, gt.isc, gt.exm⟩ (⟨bl, cst_nil, (fun q hq => by cases hq), (fun q hq => by cases hq)⟩ : GdC K mg C_box_at.cst C_box_at.exs C_box_at.cls) h_look_inside h_swung h_point_of) fun _ _ _ _ _ _ us hl => match us, hl with | [_, _, _, _, _], _ => rfl
  have h__law_spoiled : FnIn P w K mg base 3 "_law_spoiled" sp__law_spoiled [] := fn_in F_14 g__law_spoiled (ok__law_spoiled F_14 ⟨gt.fl, gt.isc, gt.exm⟩ (⟨bl, cst_nil, (fun q hq => by cases hq), (fun q hq => by cases hq)⟩ : GdC K mg C__law_spoiled.cst C__law_spoiled.exs C__law_spoiled.cls) h__law_point) fun _ _ _ _ _ _ us hl => match us, hl with | [_, _, _, _, _], _ => rfl
  have h_box_round : FnIn P w K mg base 2 "box_round" sp_box_round [] := fn_in F_6 g_box_round (ok_box_round F_6 ⟨gt.fl, gt.isc, gt.exm⟩ (⟨bl, cst_nil, (fun q hq => by cases hq), (fun q hq => by cases hq)⟩ : GdC K mg C_box_round.cst C_box_round.exs C_box_round.cls) h_look_inside h_divisor) fun _ _ _ _ _ _ us hl => match us, hl with | [_, _, _, _], _ => rfl
  have h_box_corner : FnIn P w K mg base 2 "box_corner" sp_box_corner [] := fn_in F_5 g_box_corner (ok_box_corner F_5 ⟨gt.fl, gt.isc, gt.exm⟩ (⟨bl, cst_nil, (fun q hq => by cases hq), (fun q hq => by cases hq)⟩ : GdC K mg C_box_corner.cst C_box_corner.exs C_box_corner.cls) h_look_inside h_divisor) fun _ _ _ _ _ _ us hl => match us, hl with | [_, _, _, _], _ => rfl
  have h__law_asked : FnIn P w K mg base 4 "_law_asked" sp__law_asked [] := fn_in F_15 g__law_asked (ok__law_asked F_15 ⟨gt.fl, gt.isc, gt.exm⟩ (⟨bl, cst_nil, (fun q hq => by cases hq), (fun q hq => by cases hq)⟩ : GdC K mg C__law_asked.cst C__law_asked.exs C__law_asked.cls) h_box_round h_box_at h_box_corner) fun _ _ _ _ _ _ us hl => match us, hl with | [_, _, _, _, _], _ => rfl
  have h__law_refused : FnIn P w K mg base 5 "_law_refused" sp__law_refused [] := fn_in F_16 g__law_refused (ok__law_refused F_16 ⟨gt.fl, gt.isc, gt.exm⟩ (⟨bl, cst_nil, (fun q hq => by cases hq), (by
    intro q hq
    simp only [C__law_refused, List.mem_cons, List.not_mem_nil, or_false] at hq
    rcases hq with rfl | rfl | rfl | rfl | rfl | rfl | rfl | rfl | rfl | rfl | rfl | rfl | rfl | rfl | rfl
    · exact .inl ⟨g_BadDrawing, by decide⟩
    · exact .inl ⟨g_BadWall, by decide⟩
    · exact .inl ⟨g_NoName, by decide⟩
    · exact .inl ⟨g_NoPoint, by decide⟩
    · exact .inl ⟨g_NoRow, by decide⟩
    · exact .inl ⟨g_NoText, by decide⟩
    · exact .inl ⟨g_NoWay, by decide⟩
    · exact .inl ⟨g_OnWall, by decide⟩
    · exact .inl ⟨g_Over, by decide⟩
    · exact .inl ⟨g_Overlap, by decide⟩
    · exact .inl ⟨g_TooLong, by decide⟩
    · exact .inl ⟨g_TooMany, by decide⟩
    · exact .inl ⟨g_OutOfBox, by decide⟩
    · exact .inl ⟨g_RoomError, by decide⟩
    · exact .inr ⟨bl _ (by decide), rfl, rfl⟩)⟩ : GdC K mg C__law_refused.cst C__law_refused.exs C__law_refused.cls) h__law_asked) fun _ _ _ _ _ _ us hl => match us, hl with | [_, _, _, _, _], _ => rfl
  exact ok_law F_17 ⟨gt.fl, gt.isc, gt.exm⟩ (⟨bl, cst_nil, (fun q hq => by cases hq), (fun q hq => by cases hq)⟩ : GdC K mg C_law.cst C_law.exs C_law.cls) h__law_side h__law_inside h__law_heading h__law_number h_box_at h__law_spoiled h__law_refused
end BW.Lw
open PySem PySem.W PySem.Calls PyProof.Rows
theorem PySem.Challenge.cw_bouncewise_k85_out_of_the_box_holds : PySem.Challenge.rw_bouncewise_k85_out_of_the_box.Holds := by
  w_on; o_law
  refine HandSHeadRun.head_any (r := OpenLaw.row PySem.Challenge.rw_bouncewise_k85_out_of_the_box) (q := view (OpenLaw.row PySem.Challenge.rw_bouncewise_k85_out_of_the_box).prog [37]) (H := BW.Lw.hk) (ob := BW.Lw.ob) (M := 12000) (loose := ("RoomError" :: "NoPoint" :: "NoWay" :: "BadWall" :: "TooMany" :: "Overlap" :: "OnWall" :: "Over" :: "TooLong" :: "OutOfBox" :: "BadDrawing" :: "NoText" :: "NoName" :: "NoRow" :: "divisor" :: "point_of" :: "time_of" :: "look_inside" :: "swung" :: "box_at" :: "undone" :: "box_corner" :: "box_round" :: "_law_number" :: "_law_side" :: "_law_measure" :: "_law_reduced" :: "_law_point" :: "_law_heading" :: "_law_inside" :: "_law_spoiled" :: "_law_asked" :: "_law_refused" :: [] : List PySem.Str)) (d := HandSHeadRun.topDef (OpenLaw.row PySem.Challenge.rw_bouncewise_k85_out_of_the_box).prog 37) (kwd := []) BW.Lw.ob_eq
    (by kernel_rfl) (fun s => by kernel_rfl) BW.Lw.run (by kernel_rfl) (by kernel_rfl) (by kernel_rfl) (by rfl) (by first | assumption | decide +kernel) (by decide +kernel) ⟨rfl, rfl, rfl, rfl, rfl, by decide +kernel⟩ ?hw ?hc
  case hw => w_witness2
  case hc =>
    refine BW.law_end (l := PySem.Challenge.rw_bouncewise_k85_out_of_the_box) (k := 6) (x := "script") rfl (by kernel_rfl) ⟨rfl, by decide, by decide⟩ ?F
    intro w mg fa h Y G hmg0
    obtain ⟨K, KX, c⟩ := Y
    have hmg : mg ("law" : PySem.Str) = some (.ref fa) := by
      have e : (HandSHeadRun.topDef (OpenLaw.row PySem.Challenge.rw_bouncewise_k85_out_of_the_box).prog 37).name = ("law" : PySem.Str) := by kernel_rfl
      rw [← e]
      exact hmg0
    obtain ⟨fd, nl, hb, hF⟩ := BW.Lw.law_fn (P := (PySem.Challenge.rw_bouncewise_k85_out_of_the_box).prog) (w := w) KX G hmg c
    exact ⟨K, fd, KX, nl, hb, hF⟩
