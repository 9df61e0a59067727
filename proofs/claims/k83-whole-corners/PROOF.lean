import PyProof.Rows.All
import Wide.All
import OpenK.AllK
import Wide.FinOn
import HandS.ForMost
import HandS.ForExc
import HandS.EndBits
import HandS.Wide
import HandS.Deep
import HandS.SortInts
import HandS.IsInst
import HandS.Flow
import HandS.ExcOwn
import HandS.CallSlots
import HandS.HeadHook2
import HandS.Head2
import HandS.Codes
import PySem.Challenge.RW_bouncewise_k83_whole_corners
set_option Elab.async false
set_option linter.all false
set_option maxRecDepth 100000
set_option maxHeartbeats 4000000
/-! BL, part a: values with their tuples, a store of lists and instances, a small syntax, its weakest conditions. -/
namespace BW
open PySem PySem.Spec PyProof.Rows L2

/-! ### values, store -/
inductive Val where
  | non | bl (b : Bool) | int (i : Int) | str (x : Str) | tup (l : List Val) | ref (a : Addr) | sl (l : List Val)
inductive Ob where
  | lst (l : List Val) | ins (c : Nat) (fs : List (Nat × Val))
abbrev Store := Addr → Option Ob
def put (S : Store) (a : Addr) (o : Ob) : Store := fun b => if b = a then some o else S b
theorem put_same {S : Store} {a : Addr} {o : Ob} : put S a o a = some o := if_pos rfl
theorem put_ne {S : Store} {a b : Addr} {o : Ob} (h : b ≠ a) : put S a o b = S b := if_neg h
theorem put_put {S : Store} {a : Addr} {o u : Ob} : put (put S a o) a u = put S a u := by
  funext b; unfold put; split <;> rfl
def Sub (S S' : Store) : Prop := ∀ a o, S a = some o → S' a = some o
theorem Sub.refl {S : Store} : Sub S S := fun _ _ h => h
theorem Sub.trans {S S' S'' : Store} (h : Sub S S') (k : Sub S' S'') : Sub S S'' := fun a o e => k a o (h a o e)
theorem Sub.put {S : Store} {p : Addr} {o : Ob} (h : S p = none) : Sub S (put S p o) := fun a u e => by
  by_cases q : a = p
  · rw [q, h] at e; cases e
  · rw [put_ne q]; exact e
theorem ne_new {S : Store} {a p : Addr} {o : Ob} (h : S a = some o) (k : S p = none) : a ≠ p := fun e => by rw [e, k] at h; cases h
theorem put_old {S : Store} {a p : Addr} {o u : Ob} (h : S a = some o) (k : S p = none) : put S p u a = some o := (put_ne (ne_new h k)).trans h

/-- a list's items: it stands in the store, or is one that never changes -/
def getL (S : Store) : Val → (List Val → Prop) → Prop
  | .ref a, P => (match S a with
    | some (.lst l) => P l
    | _ => False)
  | .sl l, P => P l
  | _, _ => False
def LstAt (S : Store) (v : Val) (l : List Val) : Prop := (∃ a, v = .ref a ∧ S a = some (.lst l)) ∨ v = .sl l
theorem getL_iff {S : Store} {v : Val} {P : List Val → Prop} : getL S v P ↔ ∃ l, LstAt S v l ∧ P l := by
  constructor
  · intro h
    unfold getL at h
    split at h
    · split at h
      · rename_i l e; exact ⟨l, .inl ⟨_, rfl, e⟩, h⟩
      · exact h.elim
    · exact ⟨_, .inr rfl, h⟩
    · exact h.elim
  · rintro ⟨l, ⟨a, rfl, e⟩ | rfl, h⟩
    · unfold getL; simp only [e]; exact h
    · exact h

structure Exn where
  c : Nat
  fs : List (Nat × Val)
structure RSpec where
  pre : Prop
  ret : Val → Store → Prop
  exn : Exn → Store → Prop
abbrev Spec := List Val → Store → RSpec
/-- what the text's names stand for: a function's contract, a class's method, its maker, its fields -/
structure Tb where
  fn : Nat → Spec
  mt : Nat → Nat → Option Nat
  fl : Nat → Nat → Bool
  isc : Nat → Nat → Bool

/-! ### the syntax -/
inductive Bop where | add | sub | mul | fdiv | mod | pow
  deriving DecidableEq
inductive Cop where | eq | ne | lt | le | gt | ge | is | isnot | in_ | notin
  deriving DecidableEq
inductive Bi where | abs | len | max2 | min2 | int | sorted | tuple | list | str | sum | max1 | min1 | any | all | divmod
  deriving DecidableEq
inductive Ty where | bool | int | tuple | list | str
  deriving DecidableEq
inductive Tg where | nm (i : Nat) | tp (is : List Nat)
inductive ItK where | seq | range | enum | zip | rev
  deriving DecidableEq
inductive Ex where
  | var (i : Nat) | lit (v : Val)
  | bin (o : Bop) (a b : Ex) | neg (a : Ex) | nott (a : Ex)
  | cmp (o : Cop) (a b : Ex) | chain (o1 o2 : Cop) (a b c : Ex)
  | andd (a b : Ex) | orr (a b : Ex) | ife (t a b : Ex)
  | nil | cons (a as : Ex)
  | tup (as : Ex) | lst (as : Ex)
  | idx (a i : Ex) | slc (a lo hi : Ex)
  | fld (a : Ex) (f : Nat)
  | call (f : Nat) (as : Ex) (d : List Val)
  | meth (a : Ex) (m : Nat) (as : Ex)
  | new (c : Nat) (as : Ex) (d : List Val)
  | blt (b : Bi) (as : Ex)
  | isty (a : Ex) (t : Ty)
  | iscl (a : Ex) (c : Nat)
  | comp (own : List Nat) (g : Tg) (k : ItK) (as : Ex) (hc : Bool) (cond elt : Ex)

/-! ### the operations -/
def LIM : Nat := 16777216
def MulOk (i j : Int) : Prop := i.natAbs.log2 + j.natAbs.log2 < 100000000
def DivOk (_ j : Int) : Prop := j ≠ 0 ∧ j.natAbs.log2 < 9000
abbrev QV := Val → Store → Prop
def opB : Bop → Val → Val → Store → QV → Prop
  | .add, .int i, .int j, S, Q => Q (.int (i + j)) S
  | .add, .str x, .str y, S, Q => x.length + y.length ≤ LIM ∧ Q (.str (x ++ y)) S
  | .add, .tup a, .tup b, S, Q => a ≠ [] ∧ a.length + b.length ≤ LIM ∧ Q (.tup (a ++ b)) S
  | .add, .ref a, .ref b, S, Q => ∃ l m, S a = some (.lst l) ∧ S b = some (.lst m) ∧ l.length + m.length ≤ LIM ∧ ∀ p, S p = none → Q (.ref p) (put S p (.lst (l ++ m)))
  | .sub, .int i, .int j, S, Q => Q (.int (i - j)) S
  | .mul, .int i, .int j, S, Q => MulOk i j ∧ Q (.int (i * j)) S
  | .fdiv, .int i, .int j, S, Q => DivOk i j ∧ Q (.int (i.fdiv j)) S
  | .mod, .int i, .int j, S, Q => j ≠ 0 ∧ Q (.int (i.fmod j)) S
  | .pow, .int i, .int j, S, Q => (0 ≤ j ∧ j ≤ 1000 ∧ i.natAbs < 2 ^ 64) ∧ Q (.int (i ^ j.toNat)) S
  | _, _, _, _, _ => False

mutual
inductive Dt (S : Store) : Val → PyData → Prop
  | non : Dt S .non .none
  | bl (b : Bool) : Dt S (.bl b) (.bool b)
  | int (i : Int) : Dt S (.int i) (.int i)
  | str (x : Str) : Dt S (.str x) (.str x)
  | tup {l : List Val} {ds : List PyData} : Dts S l ds → Dt S (.tup l) (.tuple ds)
  | lst {v : Val} {l : List Val} {ds : List PyData} : LstAt S v l → Dts S l ds → Dt S v (.list ds)
inductive Dts (S : Store) : List Val → List PyData → Prop
  | nil : Dts S [] []
  | cons {v : Val} {l : List Val} {d : PyData} {ds : List PyData} : Dt S v d → Dts S l ds → Dts S (v :: l) (d :: ds)
end

def Val.isNon : Val → Bool
  | .non => true
  | _ => false
def Val.scalar : Val → Bool
  | .tup _ => false
  | .ref _ => false
  | .sl _ => false
  | _ => true
def Val.ofInt : Val → Option Int
  | .int i => some i
  | _ => none
def ltI : Val → Val → (Bool → Prop) → (Int → Int → Bool) → Prop
  | .int i, .int j, P, f => P (f i j)
  | _, _, _, _ => False
def tupLt : Val → Val → (Bool → Prop) → Prop
  | .tup a, .tup b, P => ∃ ns ms : List Int, a = ns.map .int ∧ b = ms.map .int ∧ P (HT.lexLt ns ms)
  | .int i, .int j, P => P (decide (i < j))
  | .str x, .str y, P => P (decide (x.cps.toList < y.cps.toList))
  | _, _, _ => False
def Val.eqF : Val → Val → Bool
  | .non, .non => true
  | .bl a, .bl b => a == b
  | .int a, .int b => a == b
  | .bl a, .int b => (if a then 1 else 0) == b
  | .int a, .bl b => a == (if b then 1 else 0)
  | .str a, .str b => a == b
  | _, _ => false
/-- the items of a list or tuple -/
def seqOf (S : Store) : Val → (List Val → Prop) → Prop
  | .tup l, P => P l
  | x, P => getL S x P
def inOp (S : Store) (x y : Val) (P : Bool → Prop) : Prop := match x, y with
  | .str c, .str z => P (!(Builtin.Str.occurrences z c 0 z.length 1).isEmpty)
  | x, y => seqOf S y fun l => ∃ d ds, Dt S x d ∧ Dts S l ds ∧ SeqAt.shaped d = true ∧ SeqAt.shaped (.list ds) = true ∧ P (ds.any fun e => PyData.eqv e d)
def opC : Cop → Val → Val → Store → (Bool → Prop) → Prop
  | .eq, x, y, S, P => ∃ d e, Dt S x d ∧ Dt S y e ∧ SeqAt.shaped d = true ∧ SeqAt.shaped e = true ∧ P (PyData.eqv d e)
  | .ne, x, y, S, P => ∃ d e, Dt S x d ∧ Dt S y e ∧ SeqAt.shaped d = true ∧ SeqAt.shaped e = true ∧ P (!PyData.eqv d e)
  | .lt, x, y, _, P => tupLt x y P
  | .le, x, y, _, P => ltI x y P fun i j => decide (i ≤ j)
  | .gt, x, y, _, P => ltI x y P fun i j => decide (j < i)
  | .ge, x, y, _, P => ltI x y P fun i j => decide (j ≤ i)
  | .is, x, y, _, P => y.isNon = true ∧ P x.isNon
  | .isnot, x, y, _, P => y.isNon = true ∧ P (!x.isNon)
  | .in_, x, y, S, P => inOp S x y P
  | .notin, x, y, S, P => inOp S x y fun b => P (!b)
def tru : Val → Store → (Bool → Prop) → Prop
  | .non, _, P => P false
  | .bl b, _, P => P b
  | .int i, _, P => P (i != 0)
  | .str x, _, P => x.length ≤ LIM ∧ P ((x.length : Int) != 0)
  | .tup l, _, P => P (!l.isEmpty)
  | x, S, P => getL S x fun l => P (!l.isEmpty)
def opIx : Val → Val → Store → QV → Prop
  | .tup l, .int i, S, Q => ∃ v, atI l i = some v ∧ Q v S
  | .str z, .int i, S, Q => z.length ≤ LIM ∧ ∃ c, atI z.cps.toList i = some c ∧ Q (.str ⟨#[c]⟩) S
  | x, .int i, S, Q => getL S x fun l => ∃ v, atI l i = some v ∧ Q v S
  | _, _, _, _ => False
def cutG {α : Type} (xs : List α) (lo hi : Option Int) : List α := (xs.drop (HT.sIx xs.length 0 lo)).take (HT.sIx xs.length xs.length hi - HT.sIx xs.length 0 lo)
def opSl (x : Val) (lo hi : Option Int) (S : Store) (Q : QV) : Prop := getL S x fun l => ∀ p, S p = none → Q (.ref p) (put S p (.lst (cutG l lo hi)))
def intsOf : List Val → (List Int → Prop) → Prop := fun l P => ∃ ns : List Int, l = ns.map .int ∧ P ns
def opBi : Bi → List Val → Store → QV → Prop
  | .abs, [.int i], S, Q => Q (.int (if i < 0 then -i else i)) S
  | .len, [.tup l], S, Q => Q (.int l.length) S
  | .len, [.str z], S, Q => z.length ≤ LIM ∧ Q (.int z.length) S
  | .len, [x], S, Q => getL S x fun l => Q (.int l.length) S
  | .max2, [.int i, .int j], S, Q => Q (.int (if j > i then j else i)) S
  | .min2, [.int i, .int j], S, Q => Q (.int (if j < i then j else i)) S
  | .int, [.int i], S, Q => Q (.int i) S
  | .int, [.bl k], S, Q => Q (.int (if k then 1 else 0)) S
  | .sorted, [x], S, Q => getL S x fun l => intsOf l fun ns => ∀ (ns' : List Int) (p : Addr), ns'.Perm ns → ns'.Pairwise (· ≤ ·) → S p = none → Q (.ref p) (put S p (.lst (ns'.map .int)))
  | .tuple, [.tup l], S, Q => Q (.tup l) S
  | .tuple, [x], S, Q => getL S x fun l => Q (.tup l) S
  | .list, [.tup l], S, Q => ∀ p, S p = none → Q (.ref p) (put S p (.lst l))
  | .list, [x], S, Q => getL S x fun l => ∀ p, S p = none → Q (.ref p) (put S p (.lst l))
  | .str, [.int i], S, Q => i.natAbs.log2 < 1920 ∧ Q (.str (toString i)) S
  | .sum, [x], S, Q => getL S x fun l => intsOf l fun ns => Q (.int ns.sum) S
  | .any, [x], S, Q => getL S x fun l => ∃ bs : List Bool, l = bs.map .bl ∧ Q (.bl (bs.any id)) S
  | .all, [x], S, Q => getL S x fun l => ∃ bs : List Bool, l = bs.map .bl ∧ Q (.bl (bs.all id)) S
  | .max1, [x], S, Q => getL S x fun l => intsOf l fun ns => 0 < ns.length ∧ ∀ m, m ∈ ns → (∀ k ∈ ns, k ≤ m) → Q (.int m) S
  | .min1, [x], S, Q => getL S x fun l => intsOf l fun ns => 0 < ns.length ∧ ∀ m, m ∈ ns → (∀ k ∈ ns, m ≤ k) → Q (.int m) S
  | .divmod, [.int i, .int j], S, Q => DivOk i j ∧ Q (.tup [.int (i.fdiv j), .int (i.fmod j)]) S
  | _, _, _, _ => False
def tyIs : Ty → Val → Store → (Bool → Prop) → Prop
  | t, .sl _, _, P => P (t == .list)
  | t, .non, _, P => P false
  | t, .bl _, _, P => P (t == .bool || t == .int)
  | t, .int _, _, P => P (t == .int)
  | t, .str _, _, P => P (t == .str)
  | t, .tup _, _, P => P (t == .tuple)
  | t, .ref a, S, P => match S a with
    | some (.lst _) => P (t == .list)
    | _ => False
def wCall (T : Tb) (f : Nat) (vs : List Val) (S : Store) (Q : QV) (E : Exn → Store → Prop) : Prop :=
  (T.fn f vs S).pre ∧ (∀ v S', (T.fn f vs S).ret v S' → Q v S') ∧ ∀ x S', (T.fn f vs S).exn x S' → E x S'

abbrev Ev := List (Option Val)
def tgt : Tg → Val → Ev → (Ev → Prop) → Prop
  | .nm i, v, env, Q => Q (env.set i (some v))
  | .tp is, .tup l, env, Q => l.length = is.length ∧ Q ((is.zip l).foldl (fun e p => e.set p.1 (some p.2)) env)
  | _, _, _, _ => False
def wipeE (env : Ev) : List Nat → Ev
  | [] => env
  | v :: vs => (wipeE env vs).set v none
/-- what a loop walks: the items, and what must stay of the store meanwhile -/
def itK : ItK → List Val → Store → ((Store → Prop) → List Val → Prop) → Prop
  | .seq, [.tup l], _, R => R (fun _ => True) l
  | .seq, [x], S, R => getL S x fun l => R (fun S' => LstAt S' x l) l
  | .range, [.int j], _, R => (-(2 ^ 62) ≤ j ∧ j < 2 ^ 62) ∧ R (fun _ => True) ((List.range j.toNat).map fun k => .int (k : Nat))
  | .range, [.int i, .int j], _, R => (-(2 ^ 62) ≤ i ∧ i < 2 ^ 62 ∧ -(2 ^ 62) ≤ j ∧ j < 2 ^ 62) ∧ R (fun _ => True) ((List.range (j - i).toNat).map fun k => .int (i + (k : Nat)))
  | .range, [.int i, .int j, .int c], _, R => (-(2 ^ 62) ≤ i ∧ i < 2 ^ 62 ∧ -(2 ^ 62) ≤ j ∧ j < 2 ^ 62 ∧ 0 < c ∧ c < 1073741824) ∧
      R (fun _ => True) ((List.range (Builtin.Range.rangeSize i j c).toNat).map fun k => .int (i + (k : Nat) * c))
  | .enum, [x], S, R => getL S x fun l => R (fun S' => LstAt S' x l) (l.zipIdx.map fun p => .tup [.int (p.2 : Nat), p.1])
  | .zip, [x, y], S, R => getL S x fun l => getL S y fun m => R (fun S' => LstAt S' x l ∧ LstAt S' y m) ((l.zip m).map fun p => .tup [p.1, p.2])
  | .rev, [x], S, R => getL S x fun l => R (fun S' => LstAt S' x l) l.reverse
  | _, _, _, _ => False
/-- a comprehension's turns: D the list that is made -/
def wTurns (G : Store → Prop) (g : Val → (Ev → Prop) → Prop) (c : Ev → Store → (Bool → Store → Prop) → Prop) (e : Ev → Store → QV → Prop) (D : Addr) (Q : QV) : List Val → Store → Prop
  | [], S => G S ∧ Q (.ref D) S
  | x :: r, S => G S ∧ g x fun env => c env S fun b S1 => if b = true then e env S1 fun y S2 => ∃ acc, S2 D = some (.lst acc) ∧ acc.length < LIM ∧ wTurns G g c e D Q r (put S2 D (.lst (acc ++ [y]))) else wTurns G g c e D Q r S1
def optI : Val → (Option Int → Prop) → Prop
  | .int i, P => P (some i)
  | _, _ => False
mutual
def wE (T : Tb) : Ex → Ev → Store → QV → (Exn → Store → Prop) → Prop
  | .var i, env, S, Q, _ => ∃ v, env[i]? = some (some v) ∧ Q v S
  | .lit v, _, S, Q, _ => Q v S
  | .bin o a b, env, S, Q, E => wE T a env S (fun x S1 => wE T b env S1 (fun y S2 => opB o x y S2 Q) E) E
  | .neg a, env, S, Q, E => wE T a env S (fun x S1 => ∃ i, x = .int i ∧ Q (.int (-i)) S1) E
  | .nott a, env, S, Q, E => wT T a env S (fun b S1 => Q (.bl (!b)) S1) E
  | .cmp o a b, env, S, Q, E => wE T a env S (fun x S1 => wE T b env S1 (fun y S2 => opC o x y S2 fun t => Q (.bl t) S2) E) E
  | .chain o1 o2 a b c, env, S, Q, E => wE T a env S (fun x S1 => wE T b env S1 (fun y S2 => opC o1 x y S2 fun t => if t = true then wE T c env S2 (fun z S3 => opC o2 y z S3 fun t => Q (.bl t) S3) E else Q (.bl false) S2) E) E
  | .andd a b, env, S, Q, E => wE T a env S (fun x S1 => tru x S1 fun t => if t = true then wE T b env S1 Q E else Q x S1) E
  | .orr a b, env, S, Q, E => wE T a env S (fun x S1 => tru x S1 fun t => if t = true then Q x S1 else wE T b env S1 Q E) E
  | .ife t a b, env, S, Q, E => wT T t env S (fun c S1 => if c = true then wE T a env S1 Q E else wE T b env S1 Q E) E
  | .nil, _, _, _, _ => False
  | .cons _ _, _, _, _, _ => False
  | .tup as, env, S, Q, E => wA T as env S (fun vs S1 => Q (.tup vs) S1) E
  | .lst as, env, S, Q, E => wA T as env S (fun vs S1 => ∀ p, S1 p = none → Q (.ref p) (put S1 p (.lst vs))) E
  | .idx a i, env, S, Q, E => wE T a env S (fun x S1 => wE T i env S1 (fun y S2 => opIx x y S2 Q) E) E
  | .slc a lo hi, env, S, Q, E => wE T a env S (fun x S1 => wO T lo env S1 (fun l S2 => wO T hi env S2 (fun h S3 => opSl x l h S3 Q) E) E) E
  | .fld a f, env, S, Q, E => wE T a env S (fun x S1 => ∃ p c fs v, x = .ref p ∧ S1 p = some (.ins c fs) ∧ T.fl c f = true ∧ fs.lookup f = some v ∧ Q v S1) E
  | .call f as d, env, S, Q, E => wA T as env S (fun vs S1 => wCall T f (vs ++ d) S1 Q E) E
  | .meth a m as, env, S, Q, E => wE T a env S (fun x S1 => ∃ p c fs g, x = .ref p ∧ S1 p = some (.ins c fs) ∧ T.mt c m = some g ∧ wA T as env S1 (fun vs S2 => wCall T g (x :: vs) S2 Q E) E) E
  | .new c as d, env, S, Q, E => wA T as env S (fun vs S1 => ∃ g, T.mt c 0 = some g ∧ ∀ p, S1 p = none → wCall T g (.ref p :: (vs ++ d)) (put S1 p (.ins c [])) (fun v S2 => v = .non ∧ Q (.ref p) S2) E) E
  | .blt b as, env, S, Q, E => wA T as env S (fun vs S1 => opBi b vs S1 Q) E
  | .isty a t, env, S, Q, E => wE T a env S (fun x S1 => tyIs t x S1 fun b => Q (.bl b) S1) E
  | .iscl a c, env, S, Q, E => wE T a env S (fun x S1 => ∃ p d fs, x = .ref p ∧ S1 p = some (.ins d fs) ∧ Q (.bl (T.isc d c)) S1) E
  | .comp own g k as hc cond elt, env, S, Q, E => wA T as env S (fun vs S1 => itK k vs S1 fun G items => ∀ D, S1 D = none →
      wTurns G (fun x P => tgt g x (wipeE env own) P) (fun e2 S2 P => if hc = true then wT T cond e2 S2 P fun _ _ => False else P true S2) (fun e2 S2 P => wE T elt e2 S2 P fun _ _ => False) D Q items (put S1 D (.lst []))) E
def wT (T : Tb) : Ex → Ev → Store → (Bool → Store → Prop) → (Exn → Store → Prop) → Prop
  | .cmp o a b, env, S, Q, E => wE T a env S (fun x S1 => wE T b env S1 (fun y S2 => opC o x y S2 fun t => Q t S2) E) E
  | .chain o1 o2 a b c, env, S, Q, E => wE T a env S (fun x S1 => wE T b env S1 (fun y S2 => opC o1 x y S2 fun t => if t = true then wE T c env S2 (fun z S3 => opC o2 y z S3 fun t => Q t S3) E else Q false S2) E) E
  | .nott a, env, S, Q, E => wT T a env S (fun b S1 => Q (!b) S1) E
  | .andd a b, env, S, Q, E => wT T a env S (fun t S1 => if t = true then wT T b env S1 Q E else Q false S1) E
  | .orr a b, env, S, Q, E => wT T a env S (fun t S1 => if t = true then Q true S1 else wT T b env S1 Q E) E
  | .ife _ _ _, _, _, _, _ => False
  | .var i, env, S, Q, _ => ∃ v, env[i]? = some (some v) ∧ tru v S fun t => Q t S
  | .lit v, _, S, Q, _ => tru v S fun t => Q t S
  | .idx a i, env, S, Q, E => wE T a env S (fun x S1 => wE T i env S1 (fun y S2 => opIx x y S2 fun v S3 => tru v S3 fun t => Q t S3) E) E
  | .bin o a b, env, S, Q, E => wE T a env S (fun x S1 => wE T b env S1 (fun y S2 => opB o x y S2 fun v S3 => tru v S3 fun t => Q t S3) E) E
  | .call f as d, env, S, Q, E => wA T as env S (fun vs S1 => wCall T f (vs ++ d) S1 (fun v S2 => tru v S2 fun t => Q t S2) E) E
  | .meth a m as, env, S, Q, E => wE T a env S (fun x S1 => ∃ p c fs g, x = .ref p ∧ S1 p = some (.ins c fs) ∧ T.mt c m = some g ∧ wA T as env S1 (fun vs S2 => wCall T g (x :: vs) S2 (fun v S3 => tru v S3 fun t => Q t S3) E) E) E
  | .blt b as, env, S, Q, E => wA T as env S (fun vs S1 => opBi b vs S1 fun v S2 => tru v S2 fun t => Q t S2) E
  | .isty a t, env, S, Q, E => wE T a env S (fun x S1 => tyIs t x S1 fun b => Q b S1) E
  | .iscl a c, env, S, Q, E => wE T a env S (fun x S1 => ∃ p d fs, x = .ref p ∧ S1 p = some (.ins d fs) ∧ Q (T.isc d c) S1) E
  | .fld a f, env, S, Q, E => wE T a env S (fun x S1 => ∃ p c fs v, x = .ref p ∧ S1 p = some (.ins c fs) ∧ T.fl c f = true ∧ fs.lookup f = some v ∧ tru v S1 fun t => Q t S1) E
  | _, _, _, _, _ => False
def wA (T : Tb) : Ex → Ev → Store → (List Val → Store → Prop) → (Exn → Store → Prop) → Prop
  | .nil, _, S, Q, _ => Q [] S
  | .cons a as, env, S, Q, E => wE T a env S (fun x S1 => wA T as env S1 (fun xs S2 => Q (x :: xs) S2) E) E
  | _, _, _, _, _ => False
def wO (T : Tb) : Ex → Ev → Store → (Option Int → Store → Prop) → (Exn → Store → Prop) → Prop
  | .nil, _, S, Q, _ => Q none S
  | .cons a .nil, env, S, Q, E => wE T a env S (fun x S1 => optI x fun o => Q o S1) E
  | _, _, _, _, _ => False
end
end BW
set_option Elab.async false
set_option linter.all false
set_option maxRecDepth 100000
set_option maxHeartbeats 4000000
namespace BW
open PySem PySem.Spec PyProof.Rows L2

/-! ### the equations -/
theorem wE_var {T : Tb} {i : Nat} {env : Ev} {S : Store} {Q : QV} {E : Exn → Store → Prop} : wE T (.var i) env S Q E = (∃ v, env[i]? = some (some v) ∧ Q v S) := rfl
theorem wE_lit {T : Tb} {v : Val} {env : Ev} {S : Store} {Q : QV} {E : Exn → Store → Prop} : wE T (.lit v) env S Q E = (Q v S) := rfl
theorem wE_bin {T : Tb} {o : Bop} {a : Ex} {b : Ex} {env : Ev} {S : Store} {Q : QV} {E : Exn → Store → Prop} : wE T (.bin o a b) env S Q E = (wE T a env S (fun x S1 => wE T b env S1 (fun y S2 => opB o x y S2 Q) E) E) := rfl
theorem wE_neg {T : Tb} {a : Ex} {env : Ev} {S : Store} {Q : QV} {E : Exn → Store → Prop} : wE T (.neg a) env S Q E = (wE T a env S (fun x S1 => ∃ i, x = .int i ∧ Q (.int (-i)) S1) E) := rfl
theorem wE_nott {T : Tb} {a : Ex} {env : Ev} {S : Store} {Q : QV} {E : Exn → Store → Prop} : wE T (.nott a) env S Q E = (wT T a env S (fun b S1 => Q (.bl (!b)) S1) E) := rfl
theorem wE_cmp {T : Tb} {o : Cop} {a : Ex} {b : Ex} {env : Ev} {S : Store} {Q : QV} {E : Exn → Store → Prop} : wE T (.cmp o a b) env S Q E = (wE T a env S (fun x S1 => wE T b env S1 (fun y S2 => opC o x y S2 fun t => Q (.bl t) S2) E) E) := rfl
theorem wE_chain {T : Tb} {o1 : Cop} {o2 : Cop} {a : Ex} {b : Ex} {c : Ex} {env : Ev} {S : Store} {Q : QV} {E : Exn → Store → Prop} : wE T (.chain o1 o2 a b c) env S Q E = (wE T a env S (fun x S1 => wE T b env S1 (fun y S2 => opC o1 x y S2 fun t => if t = true then wE T c env S2 (fun z S3 => opC o2 y z S3 fun t => Q (.bl t) S3) E else Q (.bl false) S2) E) E) := rfl
theorem wE_andd {T : Tb} {a : Ex} {b : Ex} {env : Ev} {S : Store} {Q : QV} {E : Exn → Store → Prop} : wE T (.andd a b) env S Q E = (wE T a env S (fun x S1 => tru x S1 fun t => if t = true then wE T b env S1 Q E else Q x S1) E) := rfl
theorem wE_orr {T : Tb} {a : Ex} {b : Ex} {env : Ev} {S : Store} {Q : QV} {E : Exn → Store → Prop} : wE T (.orr a b) env S Q E = (wE T a env S (fun x S1 => tru x S1 fun t => if t = true then Q x S1 else wE T b env S1 Q E) E) := rfl
theorem wE_ife {T : Tb} {t : Ex} {a : Ex} {b : Ex} {env : Ev} {S : Store} {Q : QV} {E : Exn → Store → Prop} : wE T (.ife t a b) env S Q E = (wT T t env S (fun c S1 => if c = true then wE T a env S1 Q E else wE T b env S1 Q E) E) := rfl
theorem wE_nil {T : Tb}  {env : Ev} {S : Store} {Q : QV} {E : Exn → Store → Prop} : wE T (.nil) env S Q E = (False) := rfl
theorem wE_cons {T : Tb} {x0 : Ex} {x1 : Ex} {env : Ev} {S : Store} {Q : QV} {E : Exn → Store → Prop} : wE T (.cons x0 x1) env S Q E = (False) := rfl
theorem wE_tup {T : Tb} {as : Ex} {env : Ev} {S : Store} {Q : QV} {E : Exn → Store → Prop} : wE T (.tup as) env S Q E = (wA T as env S (fun vs S1 => Q (.tup vs) S1) E) := rfl
theorem wE_lst {T : Tb} {as : Ex} {env : Ev} {S : Store} {Q : QV} {E : Exn → Store → Prop} : wE T (.lst as) env S Q E = (wA T as env S (fun vs S1 => ∀ p, S1 p = none → Q (.ref p) (put S1 p (.lst vs))) E) := rfl
theorem wE_idx {T : Tb} {a : Ex} {i : Ex} {env : Ev} {S : Store} {Q : QV} {E : Exn → Store → Prop} : wE T (.idx a i) env S Q E = (wE T a env S (fun x S1 => wE T i env S1 (fun y S2 => opIx x y S2 Q) E) E) := rfl
theorem wE_slc {T : Tb} {a : Ex} {lo : Ex} {hi : Ex} {env : Ev} {S : Store} {Q : QV} {E : Exn → Store → Prop} : wE T (.slc a lo hi) env S Q E = (wE T a env S (fun x S1 => wO T lo env S1 (fun l S2 => wO T hi env S2 (fun h S3 => opSl x l h S3 Q) E) E) E) := rfl
theorem wE_fld {T : Tb} {a : Ex} {f : Nat} {env : Ev} {S : Store} {Q : QV} {E : Exn → Store → Prop} : wE T (.fld a f) env S Q E = (wE T a env S (fun x S1 => ∃ p c fs v, x = .ref p ∧ S1 p = some (.ins c fs) ∧ T.fl c f = true ∧ fs.lookup f = some v ∧ Q v S1) E) := rfl
theorem wE_call {T : Tb} {f : Nat} {as : Ex} {d : List Val} {env : Ev} {S : Store} {Q : QV} {E : Exn → Store → Prop} : wE T (.call f as d) env S Q E = (wA T as env S (fun vs S1 => wCall T f (vs ++ d) S1 Q E) E) := rfl
theorem wE_meth {T : Tb} {a : Ex} {m : Nat} {as : Ex} {env : Ev} {S : Store} {Q : QV} {E : Exn → Store → Prop} : wE T (.meth a m as) env S Q E = (wE T a env S (fun x S1 => ∃ p c fs g, x = .ref p ∧ S1 p = some (.ins c fs) ∧ T.mt c m = some g ∧ wA T as env S1 (fun vs S2 => wCall T g (x :: vs) S2 Q E) E) E) := rfl
theorem wE_new {T : Tb} {c : Nat} {as : Ex} {d : List Val} {env : Ev} {S : Store} {Q : QV} {E : Exn → Store → Prop} : wE T (.new c as d) env S Q E = (wA T as env S (fun vs S1 => ∃ g, T.mt c 0 = some g ∧ ∀ p, S1 p = none → wCall T g (.ref p :: (vs ++ d)) (put S1 p (.ins c [])) (fun v S2 => v = .non ∧ Q (.ref p) S2) E) E) := rfl
theorem wE_blt {T : Tb} {b : Bi} {as : Ex} {env : Ev} {S : Store} {Q : QV} {E : Exn → Store → Prop} : wE T (.blt b as) env S Q E = (wA T as env S (fun vs S1 => opBi b vs S1 Q) E) := rfl
theorem wE_isty {T : Tb} {a : Ex} {t : Ty} {env : Ev} {S : Store} {Q : QV} {E : Exn → Store → Prop} : wE T (.isty a t) env S Q E = (wE T a env S (fun x S1 => tyIs t x S1 fun b => Q (.bl b) S1) E) := rfl
theorem wE_iscl {T : Tb} {a : Ex} {c : Nat} {env : Ev} {S : Store} {Q : QV} {E : Exn → Store → Prop} : wE T (.iscl a c) env S Q E = (wE T a env S (fun x S1 => ∃ p d fs, x = .ref p ∧ S1 p = some (.ins d fs) ∧ Q (.bl (T.isc d c)) S1) E) := rfl
theorem wE_comp {T : Tb} {own : List Nat} {g : Tg} {k : ItK} {as : Ex} {hc : Bool} {cond : Ex} {elt : Ex} {env : Ev} {S : Store} {Q : QV} {E : Exn → Store → Prop} : wE T (.comp own g k as hc cond elt) env S Q E = (wA T as env S (fun vs S1 => itK k vs S1 fun G items => ∀ D, S1 D = none →
      wTurns G (fun x P => tgt g x (wipeE env own) P) (fun e2 S2 P => if hc = true then wT T cond e2 S2 P fun _ _ => False else P true S2) (fun e2 S2 P => wE T elt e2 S2 P fun _ _ => False) D Q items (put S1 D (.lst []))) E) := rfl
theorem wT_cmp {T : Tb} {o : Cop} {a : Ex} {b : Ex} {env : Ev} {S : Store} {Q : Bool → Store → Prop} {E : Exn → Store → Prop} : wT T (.cmp o a b) env S Q E = (wE T a env S (fun x S1 => wE T b env S1 (fun y S2 => opC o x y S2 fun t => Q t S2) E) E) := rfl
theorem wT_chain {T : Tb} {o1 : Cop} {o2 : Cop} {a : Ex} {b : Ex} {c : Ex} {env : Ev} {S : Store} {Q : Bool → Store → Prop} {E : Exn → Store → Prop} : wT T (.chain o1 o2 a b c) env S Q E = (wE T a env S (fun x S1 => wE T b env S1 (fun y S2 => opC o1 x y S2 fun t => if t = true then wE T c env S2 (fun z S3 => opC o2 y z S3 fun t => Q t S3) E else Q false S2) E) E) := rfl
theorem wT_nott {T : Tb} {a : Ex} {env : Ev} {S : Store} {Q : Bool → Store → Prop} {E : Exn → Store → Prop} : wT T (.nott a) env S Q E = (wT T a env S (fun b S1 => Q (!b) S1) E) := rfl
theorem wT_andd {T : Tb} {a : Ex} {b : Ex} {env : Ev} {S : Store} {Q : Bool → Store → Prop} {E : Exn → Store → Prop} : wT T (.andd a b) env S Q E = (wT T a env S (fun t S1 => if t = true then wT T b env S1 Q E else Q false S1) E) := rfl
theorem wT_orr {T : Tb} {a : Ex} {b : Ex} {env : Ev} {S : Store} {Q : Bool → Store → Prop} {E : Exn → Store → Prop} : wT T (.orr a b) env S Q E = (wT T a env S (fun t S1 => if t = true then Q true S1 else wT T b env S1 Q E) E) := rfl
theorem wT_ife {T : Tb} {x0 : Ex} {x1 : Ex} {x2 : Ex} {env : Ev} {S : Store} {Q : Bool → Store → Prop} {E : Exn → Store → Prop} : wT T (.ife x0 x1 x2) env S Q E = (False) := rfl
theorem wT_var {T : Tb} {i : Nat} {env : Ev} {S : Store} {Q : Bool → Store → Prop} {E : Exn → Store → Prop} : wT T (.var i) env S Q E = (∃ v, env[i]? = some (some v) ∧ tru v S fun t => Q t S) := rfl
theorem wT_lit {T : Tb} {v : Val} {env : Ev} {S : Store} {Q : Bool → Store → Prop} {E : Exn → Store → Prop} : wT T (.lit v) env S Q E = (tru v S fun t => Q t S) := rfl
theorem wT_idx {T : Tb} {a : Ex} {i : Ex} {env : Ev} {S : Store} {Q : Bool → Store → Prop} {E : Exn → Store → Prop} : wT T (.idx a i) env S Q E = (wE T a env S (fun x S1 => wE T i env S1 (fun y S2 => opIx x y S2 fun v S3 => tru v S3 fun t => Q t S3) E) E) := rfl
theorem wT_bin {T : Tb} {o : Bop} {a : Ex} {b : Ex} {env : Ev} {S : Store} {Q : Bool → Store → Prop} {E : Exn → Store → Prop} : wT T (.bin o a b) env S Q E = (wE T a env S (fun x S1 => wE T b env S1 (fun y S2 => opB o x y S2 fun v S3 => tru v S3 fun t => Q t S3) E) E) := rfl
theorem wT_call {T : Tb} {f : Nat} {as : Ex} {d : List Val} {env : Ev} {S : Store} {Q : Bool → Store → Prop} {E : Exn → Store → Prop} : wT T (.call f as d) env S Q E = (wA T as env S (fun vs S1 => wCall T f (vs ++ d) S1 (fun v S2 => tru v S2 fun t => Q t S2) E) E) := rfl
theorem wT_meth {T : Tb} {a : Ex} {m : Nat} {as : Ex} {env : Ev} {S : Store} {Q : Bool → Store → Prop} {E : Exn → Store → Prop} : wT T (.meth a m as) env S Q E = (wE T a env S (fun x S1 => ∃ p c fs g, x = .ref p ∧ S1 p = some (.ins c fs) ∧ T.mt c m = some g ∧ wA T as env S1 (fun vs S2 => wCall T g (x :: vs) S2 (fun v S3 => tru v S3 fun t => Q t S3) E) E) E) := rfl
theorem wT_blt {T : Tb} {b : Bi} {as : Ex} {env : Ev} {S : Store} {Q : Bool → Store → Prop} {E : Exn → Store → Prop} : wT T (.blt b as) env S Q E = (wA T as env S (fun vs S1 => opBi b vs S1 fun v S2 => tru v S2 fun t => Q t S2) E) := rfl
theorem wT_isty {T : Tb} {a : Ex} {t : Ty} {env : Ev} {S : Store} {Q : Bool → Store → Prop} {E : Exn → Store → Prop} : wT T (.isty a t) env S Q E = (wE T a env S (fun x S1 => tyIs t x S1 fun b => Q b S1) E) := rfl
theorem wT_iscl {T : Tb} {a : Ex} {c : Nat} {env : Ev} {S : Store} {Q : Bool → Store → Prop} {E : Exn → Store → Prop} : wT T (.iscl a c) env S Q E = (wE T a env S (fun x S1 => ∃ p d fs, x = .ref p ∧ S1 p = some (.ins d fs) ∧ Q (T.isc d c) S1) E) := rfl
theorem wT_fld {T : Tb} {a : Ex} {f : Nat} {env : Ev} {S : Store} {Q : Bool → Store → Prop} {E : Exn → Store → Prop} : wT T (.fld a f) env S Q E = (wE T a env S (fun x S1 => ∃ p c fs v, x = .ref p ∧ S1 p = some (.ins c fs) ∧ T.fl c f = true ∧ fs.lookup f = some v ∧ tru v S1 fun t => Q t S1) E) := rfl
theorem wT_neg {T : Tb} {x0 : Ex} {env : Ev} {S : Store} {Q : Bool → Store → Prop} {E : Exn → Store → Prop} : wT T (.neg x0) env S Q E = False := rfl
theorem wT_nil {T : Tb}  {env : Ev} {S : Store} {Q : Bool → Store → Prop} {E : Exn → Store → Prop} : wT T (.nil) env S Q E = False := rfl
theorem wT_cons {T : Tb} {x0 : Ex} {x1 : Ex} {env : Ev} {S : Store} {Q : Bool → Store → Prop} {E : Exn → Store → Prop} : wT T (.cons x0 x1) env S Q E = False := rfl
theorem wT_tup {T : Tb} {x0 : Ex} {env : Ev} {S : Store} {Q : Bool → Store → Prop} {E : Exn → Store → Prop} : wT T (.tup x0) env S Q E = False := rfl
theorem wT_lst {T : Tb} {x0 : Ex} {env : Ev} {S : Store} {Q : Bool → Store → Prop} {E : Exn → Store → Prop} : wT T (.lst x0) env S Q E = False := rfl
theorem wT_slc {T : Tb} {x0 : Ex} {x1 : Ex} {x2 : Ex} {env : Ev} {S : Store} {Q : Bool → Store → Prop} {E : Exn → Store → Prop} : wT T (.slc x0 x1 x2) env S Q E = False := rfl
theorem wT_new {T : Tb} {x0 : Nat} {x1 : Ex} {x2 : List Val} {env : Ev} {S : Store} {Q : Bool → Store → Prop} {E : Exn → Store → Prop} : wT T (.new x0 x1 x2) env S Q E = False := rfl
theorem wT_comp {T : Tb} {x0 : List Nat} {x1 : Tg} {x2 : ItK} {x3 : Ex} {x4 : Bool} {x5 : Ex} {x6 : Ex} {env : Ev} {S : Store} {Q : Bool → Store → Prop} {E : Exn → Store → Prop} : wT T (.comp x0 x1 x2 x3 x4 x5 x6) env S Q E = False := rfl
theorem wA_nil {T : Tb}  {env : Ev} {S : Store} {Q : List Val → Store → Prop} {E : Exn → Store → Prop} : wA T (.nil) env S Q E = (Q [] S) := rfl
theorem wA_cons {T : Tb} {a : Ex} {as : Ex} {env : Ev} {S : Store} {Q : List Val → Store → Prop} {E : Exn → Store → Prop} : wA T (.cons a as) env S Q E = (wE T a env S (fun x S1 => wA T as env S1 (fun xs S2 => Q (x :: xs) S2) E) E) := rfl
theorem wA_var {T : Tb} {x0 : Nat} {env : Ev} {S : Store} {Q : List Val → Store → Prop} {E : Exn → Store → Prop} : wA T (.var x0) env S Q E = False := rfl
theorem wA_lit {T : Tb} {x0 : Val} {env : Ev} {S : Store} {Q : List Val → Store → Prop} {E : Exn → Store → Prop} : wA T (.lit x0) env S Q E = False := rfl
theorem wA_bin {T : Tb} {x0 : Bop} {x1 : Ex} {x2 : Ex} {env : Ev} {S : Store} {Q : List Val → Store → Prop} {E : Exn → Store → Prop} : wA T (.bin x0 x1 x2) env S Q E = False := rfl
theorem wA_neg {T : Tb} {x0 : Ex} {env : Ev} {S : Store} {Q : List Val → Store → Prop} {E : Exn → Store → Prop} : wA T (.neg x0) env S Q E = False := rfl
theorem wA_nott {T : Tb} {x0 : Ex} {env : Ev} {S : Store} {Q : List Val → Store → Prop} {E : Exn → Store → Prop} : wA T (.nott x0) env S Q E = False := rfl
theorem wA_cmp {T : Tb} {x0 : Cop} {x1 : Ex} {x2 : Ex} {env : Ev} {S : Store} {Q : List Val → Store → Prop} {E : Exn → Store → Prop} : wA T (.cmp x0 x1 x2) env S Q E = False := rfl
theorem wA_chain {T : Tb} {x0 : Cop} {x1 : Cop} {x2 : Ex} {x3 : Ex} {x4 : Ex} {env : Ev} {S : Store} {Q : List Val → Store → Prop} {E : Exn → Store → Prop} : wA T (.chain x0 x1 x2 x3 x4) env S Q E = False := rfl
theorem wA_andd {T : Tb} {x0 : Ex} {x1 : Ex} {env : Ev} {S : Store} {Q : List Val → Store → Prop} {E : Exn → Store → Prop} : wA T (.andd x0 x1) env S Q E = False := rfl
theorem wA_orr {T : Tb} {x0 : Ex} {x1 : Ex} {env : Ev} {S : Store} {Q : List Val → Store → Prop} {E : Exn → Store → Prop} : wA T (.orr x0 x1) env S Q E = False := rfl
theorem wA_ife {T : Tb} {x0 : Ex} {x1 : Ex} {x2 : Ex} {env : Ev} {S : Store} {Q : List Val → Store → Prop} {E : Exn → Store → Prop} : wA T (.ife x0 x1 x2) env S Q E = False := rfl
theorem wA_tup {T : Tb} {x0 : Ex} {env : Ev} {S : Store} {Q : List Val → Store → Prop} {E : Exn → Store → Prop} : wA T (.tup x0) env S Q E = False := rfl
theorem wA_lst {T : Tb} {x0 : Ex} {env : Ev} {S : Store} {Q : List Val → Store → Prop} {E : Exn → Store → Prop} : wA T (.lst x0) env S Q E = False := rfl
theorem wA_idx {T : Tb} {x0 : Ex} {x1 : Ex} {env : Ev} {S : Store} {Q : List Val → Store → Prop} {E : Exn → Store → Prop} : wA T (.idx x0 x1) env S Q E = False := rfl
theorem wA_slc {T : Tb} {x0 : Ex} {x1 : Ex} {x2 : Ex} {env : Ev} {S : Store} {Q : List Val → Store → Prop} {E : Exn → Store → Prop} : wA T (.slc x0 x1 x2) env S Q E = False := rfl
theorem wA_fld {T : Tb} {x0 : Ex} {x1 : Nat} {env : Ev} {S : Store} {Q : List Val → Store → Prop} {E : Exn → Store → Prop} : wA T (.fld x0 x1) env S Q E = False := rfl
theorem wA_call {T : Tb} {x0 : Nat} {x1 : Ex} {x2 : List Val} {env : Ev} {S : Store} {Q : List Val → Store → Prop} {E : Exn → Store → Prop} : wA T (.call x0 x1 x2) env S Q E = False := rfl
theorem wA_meth {T : Tb} {x0 : Ex} {x1 : Nat} {x2 : Ex} {env : Ev} {S : Store} {Q : List Val → Store → Prop} {E : Exn → Store → Prop} : wA T (.meth x0 x1 x2) env S Q E = False := rfl
theorem wA_new {T : Tb} {x0 : Nat} {x1 : Ex} {x2 : List Val} {env : Ev} {S : Store} {Q : List Val → Store → Prop} {E : Exn → Store → Prop} : wA T (.new x0 x1 x2) env S Q E = False := rfl
theorem wA_blt {T : Tb} {x0 : Bi} {x1 : Ex} {env : Ev} {S : Store} {Q : List Val → Store → Prop} {E : Exn → Store → Prop} : wA T (.blt x0 x1) env S Q E = False := rfl
theorem wA_isty {T : Tb} {x0 : Ex} {x1 : Ty} {env : Ev} {S : Store} {Q : List Val → Store → Prop} {E : Exn → Store → Prop} : wA T (.isty x0 x1) env S Q E = False := rfl
theorem wA_iscl {T : Tb} {x0 : Ex} {x1 : Nat} {env : Ev} {S : Store} {Q : List Val → Store → Prop} {E : Exn → Store → Prop} : wA T (.iscl x0 x1) env S Q E = False := rfl
theorem wA_comp {T : Tb} {x0 : List Nat} {x1 : Tg} {x2 : ItK} {x3 : Ex} {x4 : Bool} {x5 : Ex} {x6 : Ex} {env : Ev} {S : Store} {Q : List Val → Store → Prop} {E : Exn → Store → Prop} : wA T (.comp x0 x1 x2 x3 x4 x5 x6) env S Q E = False := rfl
theorem wO_nil {T : Tb}  {env : Ev} {S : Store} {Q : Option Int → Store → Prop} {E : Exn → Store → Prop} : wO T (.nil) env S Q E = (Q none S) := rfl
theorem wO_cons {T : Tb} {a : Ex} {env : Ev} {S : Store} {Q : Option Int → Store → Prop} {E : Exn → Store → Prop} : wO T (.cons a .nil) env S Q E = (wE T a env S (fun x S1 => optI x fun o => Q o S1) E) := rfl
theorem wO_var {T : Tb} {x0 : Nat} {env : Ev} {S : Store} {Q : Option Int → Store → Prop} {E : Exn → Store → Prop} : wO T (.var x0) env S Q E = False := rfl
theorem wO_lit {T : Tb} {x0 : Val} {env : Ev} {S : Store} {Q : Option Int → Store → Prop} {E : Exn → Store → Prop} : wO T (.lit x0) env S Q E = False := rfl
theorem wO_bin {T : Tb} {x0 : Bop} {x1 : Ex} {x2 : Ex} {env : Ev} {S : Store} {Q : Option Int → Store → Prop} {E : Exn → Store → Prop} : wO T (.bin x0 x1 x2) env S Q E = False := rfl
theorem wO_neg {T : Tb} {x0 : Ex} {env : Ev} {S : Store} {Q : Option Int → Store → Prop} {E : Exn → Store → Prop} : wO T (.neg x0) env S Q E = False := rfl
theorem wO_nott {T : Tb} {x0 : Ex} {env : Ev} {S : Store} {Q : Option Int → Store → Prop} {E : Exn → Store → Prop} : wO T (.nott x0) env S Q E = False := rfl
theorem wO_cmp {T : Tb} {x0 : Cop} {x1 : Ex} {x2 : Ex} {env : Ev} {S : Store} {Q : Option Int → Store → Prop} {E : Exn → Store → Prop} : wO T (.cmp x0 x1 x2) env S Q E = False := rfl
theorem wO_chain {T : Tb} {x0 : Cop} {x1 : Cop} {x2 : Ex} {x3 : Ex} {x4 : Ex} {env : Ev} {S : Store} {Q : Option Int → Store → Prop} {E : Exn → Store → Prop} : wO T (.chain x0 x1 x2 x3 x4) env S Q E = False := rfl
theorem wO_andd {T : Tb} {x0 : Ex} {x1 : Ex} {env : Ev} {S : Store} {Q : Option Int → Store → Prop} {E : Exn → Store → Prop} : wO T (.andd x0 x1) env S Q E = False := rfl
theorem wO_orr {T : Tb} {x0 : Ex} {x1 : Ex} {env : Ev} {S : Store} {Q : Option Int → Store → Prop} {E : Exn → Store → Prop} : wO T (.orr x0 x1) env S Q E = False := rfl
theorem wO_ife {T : Tb} {x0 : Ex} {x1 : Ex} {x2 : Ex} {env : Ev} {S : Store} {Q : Option Int → Store → Prop} {E : Exn → Store → Prop} : wO T (.ife x0 x1 x2) env S Q E = False := rfl
theorem wO_tup {T : Tb} {x0 : Ex} {env : Ev} {S : Store} {Q : Option Int → Store → Prop} {E : Exn → Store → Prop} : wO T (.tup x0) env S Q E = False := rfl
theorem wO_lst {T : Tb} {x0 : Ex} {env : Ev} {S : Store} {Q : Option Int → Store → Prop} {E : Exn → Store → Prop} : wO T (.lst x0) env S Q E = False := rfl
theorem wO_idx {T : Tb} {x0 : Ex} {x1 : Ex} {env : Ev} {S : Store} {Q : Option Int → Store → Prop} {E : Exn → Store → Prop} : wO T (.idx x0 x1) env S Q E = False := rfl
theorem wO_slc {T : Tb} {x0 : Ex} {x1 : Ex} {x2 : Ex} {env : Ev} {S : Store} {Q : Option Int → Store → Prop} {E : Exn → Store → Prop} : wO T (.slc x0 x1 x2) env S Q E = False := rfl
theorem wO_fld {T : Tb} {x0 : Ex} {x1 : Nat} {env : Ev} {S : Store} {Q : Option Int → Store → Prop} {E : Exn → Store → Prop} : wO T (.fld x0 x1) env S Q E = False := rfl
theorem wO_call {T : Tb} {x0 : Nat} {x1 : Ex} {x2 : List Val} {env : Ev} {S : Store} {Q : Option Int → Store → Prop} {E : Exn → Store → Prop} : wO T (.call x0 x1 x2) env S Q E = False := rfl
theorem wO_meth {T : Tb} {x0 : Ex} {x1 : Nat} {x2 : Ex} {env : Ev} {S : Store} {Q : Option Int → Store → Prop} {E : Exn → Store → Prop} : wO T (.meth x0 x1 x2) env S Q E = False := rfl
theorem wO_new {T : Tb} {x0 : Nat} {x1 : Ex} {x2 : List Val} {env : Ev} {S : Store} {Q : Option Int → Store → Prop} {E : Exn → Store → Prop} : wO T (.new x0 x1 x2) env S Q E = False := rfl
theorem wO_blt {T : Tb} {x0 : Bi} {x1 : Ex} {env : Ev} {S : Store} {Q : Option Int → Store → Prop} {E : Exn → Store → Prop} : wO T (.blt x0 x1) env S Q E = False := rfl
theorem wO_isty {T : Tb} {x0 : Ex} {x1 : Ty} {env : Ev} {S : Store} {Q : Option Int → Store → Prop} {E : Exn → Store → Prop} : wO T (.isty x0 x1) env S Q E = False := rfl
theorem wO_iscl {T : Tb} {x0 : Ex} {x1 : Nat} {env : Ev} {S : Store} {Q : Option Int → Store → Prop} {E : Exn → Store → Prop} : wO T (.iscl x0 x1) env S Q E = False := rfl
theorem wO_comp {T : Tb} {x0 : List Nat} {x1 : Tg} {x2 : ItK} {x3 : Ex} {x4 : Bool} {x5 : Ex} {x6 : Ex} {env : Ev} {S : Store} {Q : Option Int → Store → Prop} {E : Exn → Store → Prop} : wO T (.comp x0 x1 x2 x3 x4 x5 x6) env S Q E = False := rfl
/-! ### monotony -/
theorem getL_mono {S : Store} {v : Val} {P P' : List Val → Prop} (k : ∀ l, P l → P' l) (h : getL S v P) : getL S v P' := by
  rw [getL_iff] at *
  obtain ⟨l, e, h⟩ := h
  exact ⟨l, e, k _ h⟩
theorem intsOf_mono {l : List Val} {P P' : List Int → Prop} (k : ∀ l, P l → P' l) (h : intsOf l P) : intsOf l P' := by
  obtain ⟨ns, e, h⟩ := h
  exact ⟨ns, e, k _ h⟩
theorem opB_mono {o : Bop} {x y : Val} {S : Store} {Q Q' : QV} (k : ∀ v S, Q v S → Q' v S) (h : opB o x y S Q) : opB o x y S Q' := by
  fun_cases opB o x y S Q <;> simp only [opB] at h ⊢ <;> first
    | exact k _ _ h
    | exact ⟨h.1, k _ _ h.2⟩
    | exact ⟨h.1, h.2.1, k _ _ h.2.2⟩
    | (obtain ⟨l, m, h1, h2, h3, h⟩ := h; exact ⟨l, m, h1, h2, h3, fun p hp => k _ _ (h p hp)⟩)
    | exact h.elim
theorem seqOf_mono {S : Store} {x : Val} {P P' : List Val → Prop} (k : ∀ l, P l → P' l) (h : seqOf S x P) : seqOf S x P' := by
  cases x <;> simp only [seqOf] at h ⊢ <;> first | exact k _ h | exact getL_mono k h | exact h.elim
theorem inOp_mono {S : Store} {x y : Val} {P P' : Bool → Prop} (k : ∀ b, P b → P' b) (h : inOp S x y P) : inOp S x y P' := by
  unfold inOp at *
  split at h
  · exact k _ h
  · exact seqOf_mono (fun l ⟨d, ds, h1, h2, h3, h4, h5⟩ => ⟨d, ds, h1, h2, h3, h4, k _ h5⟩) h
theorem ltI_mono {x y : Val} {P P' : Bool → Prop} {f : Int → Int → Bool} (k : ∀ b, P b → P' b) (h : ltI x y P f) : ltI x y P' f := by
  unfold ltI at *
  split at h <;> first | exact k _ h | exact h.elim
theorem tupLt_mono {x y : Val} {P P' : Bool → Prop} (k : ∀ b, P b → P' b) (h : tupLt x y P) : tupLt x y P' := by
  unfold tupLt at *
  split at h
  · obtain ⟨ns, ms, e1, e2, h⟩ := h
    exact ⟨ns, ms, e1, e2, k _ h⟩
  · exact k _ h
  · exact k _ h
  · exact h.elim
theorem opC_mono {o : Cop} {x y : Val} {S : Store} {P P' : Bool → Prop} (k : ∀ b, P b → P' b) (h : opC o x y S P) : opC o x y S P' := by
  cases o <;> simp only [opC] at h ⊢ <;> first
    | (obtain ⟨d, e, h1, h2, h3, h4, h⟩ := h; exact ⟨d, e, h1, h2, h3, h4, k _ h⟩)
    | exact tupLt_mono k h
    | exact ltI_mono k h
    | exact ⟨h.1, k _ h.2⟩
    | exact inOp_mono k h
    | exact inOp_mono (fun b => k _) h
theorem tru_mono {x : Val} {S : Store} {P P' : Bool → Prop} (k : ∀ b, P b → P' b) (h : tru x S P) : tru x S P' := by
  cases x <;> simp only [tru] at h ⊢ <;> first | exact k _ h | exact ⟨h.1, k _ h.2⟩ | exact getL_mono (fun l => k _) h
theorem opIx_mono {x y : Val} {S : Store} {Q Q' : QV} (k : ∀ v S, Q v S → Q' v S) (h : opIx x y S Q) : opIx x y S Q' := by
  fun_cases opIx x y S Q <;> simp only [opIx] at h ⊢ <;> first
    | (obtain ⟨v, e, h⟩ := h; exact ⟨v, e, k _ _ h⟩)
    | exact getL_mono (fun l ⟨v, e, h⟩ => ⟨v, e, k _ _ h⟩) h
    | (obtain ⟨z, c, e, h⟩ := h; exact ⟨z, c, e, k _ _ h⟩)
    | exact h.elim
theorem opSl_mono {x : Val} {lo hi : Option Int} {S : Store} {Q Q' : QV} (k : ∀ v S, Q v S → Q' v S) (h : opSl x lo hi S Q) : opSl x lo hi S Q' := by
  exact getL_mono (fun l h p hp => k _ _ (h p hp)) h
theorem opBi_mono {b : Bi} {vs : List Val} {S : Store} {Q Q' : QV} (k : ∀ v S, Q v S → Q' v S) (h : opBi b vs S Q) : opBi b vs S Q' := by
  fun_cases opBi b vs S Q <;> simp only [opBi] at h ⊢ <;> first
    | exact k _ _ h
    | exact getL_mono (fun l => k _ _) h
    | exact ⟨h.1, k _ _ h.2⟩
    | exact getL_mono (fun l h p hp => k _ _ (h p hp)) h
    | exact getL_mono (fun l h => intsOf_mono (fun ns h n p h1 h2 h3 => k _ _ (h n p h1 h2 h3)) h) h
    | exact getL_mono (fun l h => intsOf_mono (fun ns h => ⟨h.1, fun m h1 h2 => k _ _ (h.2 m h1 h2)⟩) h) h
    | exact getL_mono (fun l h => intsOf_mono (fun ns h => k _ _ h) h) h
    | exact getL_mono (fun l ⟨bs, e, h⟩ => ⟨bs, e, k _ _ h⟩) h
    | exact fun p hp => k _ _ (h p hp)
    | exact h.elim
theorem tyIs_mono {t : Ty} {x : Val} {S : Store} {P P' : Bool → Prop} (k : ∀ b, P b → P' b) (h : tyIs t x S P) : tyIs t x S P' := by
  cases x <;> simp only [tyIs] at h ⊢ <;> first | exact k _ h | (split at h <;> first | exact k _ h | exact h.elim)
theorem wCall_mono {T : Tb} {f : Nat} {vs : List Val} {S : Store} {Q Q' : QV} {E E' : Exn → Store → Prop} (k : ∀ v S, Q v S → Q' v S) (l : ∀ x S, E x S → E' x S) (h : wCall T f vs S Q E) : wCall T f vs S Q' E' :=
  ⟨h.1, fun v S' r => k _ _ (h.2.1 v S' r), fun x S' r => l _ _ (h.2.2 x S' r)⟩
theorem tgt_mono {g : Tg} {v : Val} {env : Ev} {Q Q' : Ev → Prop} (k : ∀ e, Q e → Q' e) (h : tgt g v env Q) : tgt g v env Q' := by
  unfold tgt at *
  split at h <;> first | exact k _ h | exact ⟨h.1, k _ h.2⟩ | exact h.elim
theorem itK_mono {b : ItK} {vs : List Val} {S : Store} {R R' : (Store → Prop) → List Val → Prop} (k : ∀ G l, R G l → R' G l) (h : itK b vs S R) : itK b vs S R' := by
  fun_cases itK b vs S R <;> simp only [itK] at h ⊢ <;> first
    | exact k _ _ h
    | exact getL_mono (fun l => k _ _) h
    | exact ⟨h.1, k _ _ h.2⟩
    | exact getL_mono (fun l h => getL_mono (fun m => k _ _) h) h
    | exact h.elim
theorem wTurns_mono {G : Store → Prop} {g g' : Val → (Ev → Prop) → Prop} {c c' : Ev → Store → (Bool → Store → Prop) → Prop} {e e' : Ev → Store → QV → Prop} {D : Addr} {Q Q' : QV}
    (kg : ∀ x P P', (∀ e, P e → P' e) → g x P → g' x P') (kc : ∀ ev S P P', (∀ b S, P b S → P' b S) → c ev S P → c' ev S P') (ke : ∀ ev S P P', (∀ b S, P b S → P' b S) → e ev S P → e' ev S P') (k : ∀ v S, Q v S → Q' v S) :
    ∀ (l : List Val) (S : Store), wTurns G g c e D Q l S → wTurns G g' c' e' D Q' l S
  | [], S, h => ⟨h.1, k _ _ h.2⟩
  | x :: r, S, h => ⟨h.1, kg _ _ _ (fun ev h => kc _ _ _ _ (fun b S1 h => by
      cases b with
      | true => exact ke _ _ _ _ (fun y S2 ⟨acc, h1, h2, h3⟩ => ⟨acc, h1, h2, wTurns_mono kg kc ke k r _ h3⟩) h
      | false => exact wTurns_mono kg kc ke k r _ h) h) h.2⟩
theorem optI_mono {x : Val} {P P' : Option Int → Prop} (k : ∀ o, P o → P' o) (h : optI x P) : optI x P' := by
  cases x <;> first | exact k _ h | exact h.elim
section
variable {T : Tb}
mutual
theorem wE_mono : ∀ (e : Ex) {env : Ev} {S : Store} {Q Q' : QV} {E E' : Exn → Store → Prop}, (∀ v S, Q v S → Q' v S) → (∀ x S, E x S → E' x S) → wE T e env S Q E → wE T e env S Q' E'
  | .var i, _, _, _, _, _, _, k, l, h => by rw [wE_var] at h ⊢; obtain ⟨v, e, h⟩ := h; exact ⟨v, e, k _ _ h⟩
  | .lit v, _, _, _, _, _, _, k, l, h => by rw [wE_lit] at h ⊢; exact k _ _ h
  | .bin o a b, _, _, _, _, _, _, k, l, h => by rw [wE_bin] at h ⊢; exact wE_mono a (fun _ _ h => wE_mono b (fun _ _ h => opB_mono k h) l h) l h
  | .neg a, _, _, _, _, _, _, k, l, h => by rw [wE_neg] at h ⊢; exact wE_mono a (fun _ _ ⟨i, e, h⟩ => ⟨i, e, k _ _ h⟩) l h
  | .nott a, _, _, _, _, _, _, k, l, h => by rw [wE_nott] at h ⊢; exact wT_mono a (fun _ _ h => k _ _ h) l h
  | .cmp o a b, _, _, _, _, _, _, k, l, h => by rw [wE_cmp] at h ⊢; exact wE_mono a (fun _ _ h => wE_mono b (fun _ _ h => opC_mono (fun _ => k _ _) h) l h) l h
  | .chain o1 o2 a b c, _, _, _, _, _, _, k, l, h => by
    rw [wE_chain] at h ⊢
    refine wE_mono a (fun _ _ h => wE_mono b (fun _ _ h => opC_mono (fun t h => ?_) h) l h) l h
    cases t with
    | true => exact wE_mono c (fun _ _ h => opC_mono (fun _ => k _ _) h) l h
    | false => exact k _ _ h
  | .andd a b, _, _, _, _, _, _, k, l, h => by
    rw [wE_andd] at h ⊢
    refine wE_mono a (fun _ _ h => tru_mono (fun t h => ?_) h) l h
    cases t with
    | true => exact wE_mono b k l h
    | false => exact k _ _ h
  | .orr a b, _, _, _, _, _, _, k, l, h => by
    rw [wE_orr] at h ⊢
    refine wE_mono a (fun _ _ h => tru_mono (fun t h => ?_) h) l h
    cases t with
    | true => exact k _ _ h
    | false => exact wE_mono b k l h
  | .ife t a b, _, _, _, _, _, _, k, l, h => by
    rw [wE_ife] at h ⊢
    refine wT_mono t (fun c _ h => ?_) l h
    cases c with
    | true => exact wE_mono a k l h
    | false => exact wE_mono b k l h
  | .nil, _, _, _, _, _, _, k, l, h => by exact h.elim
  | .cons _ _, _, _, _, _, _, _, k, l, h => by exact h.elim
  | .tup as, _, _, _, _, _, _, k, l, h => by rw [wE_tup] at h ⊢; exact wA_mono as (fun _ _ h => k _ _ h) l h
  | .lst as, _, _, _, _, _, _, k, l, h => by rw [wE_lst] at h ⊢; exact wA_mono as (fun _ _ h p hp => k _ _ (h p hp)) l h
  | .idx a i, _, _, _, _, _, _, k, l, h => by rw [wE_idx] at h ⊢; exact wE_mono a (fun _ _ h => wE_mono i (fun _ _ h => opIx_mono k h) l h) l h
  | .slc a lo hi, _, _, _, _, _, _, k, l, h => by rw [wE_slc] at h ⊢; exact wE_mono a (fun _ _ h => wO_mono lo (fun _ _ h => wO_mono hi (fun _ _ h => opSl_mono k h) l h) l h) l h
  | .fld a f, _, _, _, _, _, _, k, l, h => by rw [wE_fld] at h ⊢; exact wE_mono a (fun _ _ ⟨p, c, fs, v, h1, h2, h3, h4, h⟩ => ⟨p, c, fs, v, h1, h2, h3, h4, k _ _ h⟩) l h
  | .call f as d, _, _, _, _, _, _, k, l, h => by rw [wE_call] at h ⊢; exact wA_mono as (fun _ _ h => wCall_mono k l h) l h
  | .meth a m as, _, _, _, _, _, _, k, l, h => by
    rw [wE_meth] at h ⊢
    exact wE_mono a (fun _ _ ⟨p, c, fs, g, h1, h2, h3, h⟩ => ⟨p, c, fs, g, h1, h2, h3, wA_mono as (fun _ _ h => wCall_mono k l h) l h⟩) l h
  | .new c as d, _, _, _, _, _, _, k, l, h => by
    rw [wE_new] at h ⊢
    exact wA_mono as (fun _ _ ⟨g, h1, h⟩ => ⟨g, h1, fun p hp => wCall_mono (fun _ _ h => ⟨h.1, k _ _ h.2⟩) l (h p hp)⟩) l h
  | .blt b as, _, _, _, _, _, _, k, l, h => by rw [wE_blt] at h ⊢; exact wA_mono as (fun _ _ h => opBi_mono k h) l h
  | .isty a t, _, _, _, _, _, _, k, l, h => by rw [wE_isty] at h ⊢; exact wE_mono a (fun _ _ h => tyIs_mono (fun _ => k _ _) h) l h
  | .iscl a c, _, _, _, _, _, _, k, l, h => by rw [wE_iscl] at h ⊢; exact wE_mono a (fun _ _ ⟨p, d, fs, h1, h2, h⟩ => ⟨p, d, fs, h1, h2, k _ _ h⟩) l h
  | .comp own g kk as hc cond elt, _, _, _, _, _, _, k, l, h => by
    rw [wE_comp] at h ⊢
    refine wA_mono as (fun vs S1 h => itK_mono (fun G items h D hD => wTurns_mono ?_ ?_ ?_ k _ _ (h D hD)) h) l h
    · exact fun x P P' kp h => tgt_mono kp h
    · intro ev S2 P P' kp h
      cases hc with
      | false => exact kp _ _ h
      | true => exact wT_mono cond kp (fun _ _ z => z) h
    · exact fun ev S2 P P' kp h => wE_mono elt kp (fun _ _ z => z) h
theorem wT_mono : ∀ (e : Ex) {env : Ev} {S : Store} {Q Q' : Bool → Store → Prop} {E E' : Exn → Store → Prop}, (∀ v S, Q v S → Q' v S) → (∀ x S, E x S → E' x S) → wT T e env S Q E → wT T e env S Q' E'
  | .var i, _, _, _, _, _, _, k, l, h => by rw [wT_var] at h ⊢; obtain ⟨v, e, h⟩ := h; exact ⟨v, e, tru_mono (fun _ => k _ _) h⟩
  | .lit v, _, _, _, _, _, _, k, l, h => by rw [wT_lit] at h ⊢; exact tru_mono (fun _ => k _ _) h
  | .bin o a b, _, _, _, _, _, _, k, l, h => by rw [wT_bin] at h ⊢; exact wE_mono a (fun _ _ h => wE_mono b (fun _ _ h => opB_mono (fun _ _ h => tru_mono (fun _ => k _ _) h) h) l h) l h
  | .neg a, _, _, _, _, _, _, k, l, h => by exact h.elim
  | .nott a, _, _, _, _, _, _, k, l, h => by rw [wT_nott] at h ⊢; exact wT_mono a (fun _ _ h => k _ _ h) l h
  | .cmp o a b, _, _, _, _, _, _, k, l, h => by rw [wT_cmp] at h ⊢; exact wE_mono a (fun _ _ h => wE_mono b (fun _ _ h => opC_mono (fun _ => k _ _) h) l h) l h
  | .chain o1 o2 a b c, _, _, _, _, _, _, k, l, h => by
    rw [wT_chain] at h ⊢
    refine wE_mono a (fun _ _ h => wE_mono b (fun _ _ h => opC_mono (fun t h => ?_) h) l h) l h
    cases t with
    | true => exact wE_mono c (fun _ _ h => opC_mono (fun _ => k _ _) h) l h
    | false => exact k _ _ h
  | .andd a b, _, _, _, _, _, _, k, l, h => by
    rw [wT_andd] at h ⊢
    refine wT_mono a (fun t _ h => ?_) l h
    cases t with
    | true => exact wT_mono b k l h
    | false => exact k _ _ h
  | .orr a b, _, _, _, _, _, _, k, l, h => by
    rw [wT_orr] at h ⊢
    refine wT_mono a (fun t _ h => ?_) l h
    cases t with
    | true => exact k _ _ h
    | false => exact wT_mono b k l h
  | .ife t a b, _, _, _, _, _, _, k, l, h => by exact h.elim
  | .nil, _, _, _, _, _, _, k, l, h => by exact h.elim
  | .cons _ _, _, _, _, _, _, _, k, l, h => by exact h.elim
  | .tup as, _, _, _, _, _, _, k, l, h => by exact h.elim
  | .lst as, _, _, _, _, _, _, k, l, h => by exact h.elim
  | .idx a i, _, _, _, _, _, _, k, l, h => by rw [wT_idx] at h ⊢; exact wE_mono a (fun _ _ h => wE_mono i (fun _ _ h => opIx_mono (fun _ _ h => tru_mono (fun _ => k _ _) h) h) l h) l h
  | .slc a lo hi, _, _, _, _, _, _, k, l, h => by exact h.elim
  | .fld a f, _, _, _, _, _, _, k, l, h => by rw [wT_fld] at h ⊢; exact wE_mono a (fun _ _ ⟨p, c, fs, v, h1, h2, h3, h4, h⟩ => ⟨p, c, fs, v, h1, h2, h3, h4, tru_mono (fun _ => k _ _) h⟩) l h
  | .call f as d, _, _, _, _, _, _, k, l, h => by rw [wT_call] at h ⊢; exact wA_mono as (fun _ _ h => wCall_mono (fun _ _ h => tru_mono (fun _ => k _ _) h) l h) l h
  | .meth a m as, _, _, _, _, _, _, k, l, h => by
    rw [wT_meth] at h ⊢
    exact wE_mono a (fun _ _ ⟨p, c, fs, g, h1, h2, h3, h⟩ => ⟨p, c, fs, g, h1, h2, h3, wA_mono as (fun _ _ h => wCall_mono (fun _ _ h => tru_mono (fun _ => k _ _) h) l h) l h⟩) l h
  | .new c as d, _, _, _, _, _, _, k, l, h => by exact h.elim
  | .blt b as, _, _, _, _, _, _, k, l, h => by rw [wT_blt] at h ⊢; exact wA_mono as (fun _ _ h => opBi_mono (fun _ _ h => tru_mono (fun _ => k _ _) h) h) l h
  | .isty a t, _, _, _, _, _, _, k, l, h => by rw [wT_isty] at h ⊢; exact wE_mono a (fun _ _ h => tyIs_mono (fun _ => k _ _) h) l h
  | .iscl a c, _, _, _, _, _, _, k, l, h => by rw [wT_iscl] at h ⊢; exact wE_mono a (fun _ _ ⟨p, d, fs, h1, h2, h⟩ => ⟨p, d, fs, h1, h2, k _ _ h⟩) l h
  | .comp own g kk as hc cond elt, _, _, _, _, _, _, k, l, h => by exact h.elim
theorem wA_mono : ∀ (e : Ex) {env : Ev} {S : Store} {Q Q' : List Val → Store → Prop} {E E' : Exn → Store → Prop}, (∀ v S, Q v S → Q' v S) → (∀ x S, E x S → E' x S) → wA T e env S Q E → wA T e env S Q' E'
  | .nil, _, _, _, _, _, _, k, l, h => by rw [wA_nil] at h ⊢; exact k _ _ h
  | .cons a as, _, _, _, _, _, _, k, l, h => by rw [wA_cons] at h ⊢; exact wE_mono a (fun _ _ h => wA_mono as (fun _ _ h => k _ _ h) l h) l h
  | .var _, _, _, _, _, _, _, k, l, h | .lit _, _, _, _, _, _, _, k, l, h | .bin _ _ _, _, _, _, _, _, _, k, l, h | .neg _, _, _, _, _, _, _, k, l, h | .nott _, _, _, _, _, _, _, k, l, h
  | .cmp _ _ _, _, _, _, _, _, _, k, l, h | .chain _ _ _ _ _, _, _, _, _, _, _, k, l, h | .andd _ _, _, _, _, _, _, _, k, l, h | .orr _ _, _, _, _, _, _, _, k, l, h | .ife _ _ _, _, _, _, _, _, _, k, l, h
  | .tup _, _, _, _, _, _, _, k, l, h | .lst _, _, _, _, _, _, _, k, l, h | .idx _ _, _, _, _, _, _, _, k, l, h | .slc _ _ _, _, _, _, _, _, _, k, l, h | .fld _ _, _, _, _, _, _, _, k, l, h
  | .call _ _ _, _, _, _, _, _, _, k, l, h | .meth _ _ _, _, _, _, _, _, _, k, l, h | .new _ _ _, _, _, _, _, _, _, k, l, h | .blt _ _, _, _, _, _, _, _, k, l, h | .isty _ _, _, _, _, _, _, _, k, l, h
  | .iscl _ _, _, _, _, _, _, _, k, l, h | .comp _ _ _ _ _ _ _, _, _, _, _, _, _, k, l, h => by exact h.elim
theorem wO_mono : ∀ (e : Ex) {env : Ev} {S : Store} {Q Q' : Option Int → Store → Prop} {E E' : Exn → Store → Prop}, (∀ v S, Q v S → Q' v S) → (∀ x S, E x S → E' x S) → wO T e env S Q E → wO T e env S Q' E'
  | .nil, _, _, _, _, _, _, k, l, h => by rw [wO_nil] at h ⊢; exact k _ _ h
  | .cons a .nil, _, _, _, _, _, _, k, l, h => by rw [wO_cons] at h ⊢; exact wE_mono a (fun _ _ h => optI_mono (fun _ => k _ _) h) l h
  | .cons _ (.var _), _, _, _, _, _, _, k, l, h | .cons _ (.lit _), _, _, _, _, _, _, k, l, h | .cons _ (.bin _ _ _), _, _, _, _, _, _, k, l, h | .cons _ (.neg _), _, _, _, _, _, _, k, l, h | .cons _ (.nott _), _, _, _, _, _, _, k, l, h
  | .cons _ (.cmp _ _ _), _, _, _, _, _, _, k, l, h | .cons _ (.chain _ _ _ _ _), _, _, _, _, _, _, k, l, h | .cons _ (.andd _ _), _, _, _, _, _, _, k, l, h | .cons _ (.orr _ _), _, _, _, _, _, _, k, l, h | .cons _ (.ife _ _ _), _, _, _, _, _, _, k, l, h
  | .cons _ (.tup _), _, _, _, _, _, _, k, l, h | .cons _ (.lst _), _, _, _, _, _, _, k, l, h | .cons _ (.idx _ _), _, _, _, _, _, _, k, l, h | .cons _ (.slc _ _ _), _, _, _, _, _, _, k, l, h | .cons _ (.fld _ _), _, _, _, _, _, _, k, l, h
  | .cons _ (.call _ _ _), _, _, _, _, _, _, k, l, h | .cons _ (.meth _ _ _), _, _, _, _, _, _, k, l, h | .cons _ (.new _ _ _), _, _, _, _, _, _, k, l, h | .cons _ (.blt _ _), _, _, _, _, _, _, k, l, h | .cons _ (.isty _ _), _, _, _, _, _, _, k, l, h
  | .cons _ (.iscl _ _), _, _, _, _, _, _, k, l, h | .cons _ (.comp _ _ _ _ _ _ _), _, _, _, _, _, _, k, l, h | .cons _ (.cons _ _), _, _, _, _, _, _, k, l, h => by exact h.elim
  | .var _, _, _, _, _, _, _, k, l, h | .lit _, _, _, _, _, _, _, k, l, h | .bin _ _ _, _, _, _, _, _, _, k, l, h | .neg _, _, _, _, _, _, _, k, l, h | .nott _, _, _, _, _, _, _, k, l, h
  | .cmp _ _ _, _, _, _, _, _, _, k, l, h | .chain _ _ _ _ _, _, _, _, _, _, _, k, l, h | .andd _ _, _, _, _, _, _, _, k, l, h | .orr _ _, _, _, _, _, _, _, k, l, h | .ife _ _ _, _, _, _, _, _, _, k, l, h
  | .tup _, _, _, _, _, _, _, k, l, h | .lst _, _, _, _, _, _, _, k, l, h | .idx _ _, _, _, _, _, _, _, k, l, h | .slc _ _ _, _, _, _, _, _, _, k, l, h | .fld _ _, _, _, _, _, _, _, k, l, h
  | .call _ _ _, _, _, _, _, _, _, k, l, h | .meth _ _ _, _, _, _, _, _, _, k, l, h | .new _ _ _, _, _, _, _, _, _, k, l, h | .blt _ _, _, _, _, _, _, _, k, l, h | .isty _ _, _, _, _, _, _, _, k, l, h
  | .iscl _ _, _, _, _, _, _, _, k, l, h | .comp _ _ _ _ _ _ _, _, _, _, _, _, _, k, l, h => by exact h.elim
end
end
end BW
set_option Elab.async false
set_option linter.all false
set_option maxRecDepth 100000
set_option maxHeartbeats 4000000
namespace BW
open PySem PySem.Spec PyProof.Rows L2

/-! ### statements -/
inductive Bm where | append | extend | clear | reverse
  deriving DecidableEq
inductive Sx where
  | skip | seq (a b : Sx)
  | asg (g : Tg) (e : Ex) | asgF (o : Ex) (f : Nat) (e : Ex) | asgI (o i e : Ex)
  | augN (i : Nat) (o : Bop) (e : Ex) | augI (o i : Ex) (op : Bop) (e : Ex)
  | par (i j : Nat) (a b : Ex)
  | expr (e : Ex) | bm (m : Bm) (a as : Ex)
  | ret (e : Ex) | retN
  | ite (c : Ex) (a b : Sx) | whl (c : Ex) (b : Sx) | for_ (g : Tg) (k : ItK) (as : Ex) (b : Sx)
  | brk | cnt
  | raise (c : Nat) (as : Ex)
structure Post where
  nx : Ev → Store → Prop
  rt : Val → Store → Prop
  bk : Ev → Store → Prop
  ct : Ev → Store → Prop
  ex : Exn → Ev → Store → Prop
structure Post.Le (D D' : Post) : Prop where
  nx : ∀ e S, D.nx e S → D'.nx e S
  rt : ∀ v S, D.rt v S → D'.rt v S
  bk : ∀ e S, D.bk e S → D'.bk e S
  ct : ∀ e S, D.ct e S → D'.ct e S
  ex : ∀ x e S, D.ex x e S → D'.ex x e S
def setI : Val → Val → Val → Store → (Store → Prop) → Prop
  | .ref p, .int k, v, S, Q => ∃ l j, S p = some (.lst l) ∧ ixN l.length k = some j ∧ Q (put S p (.lst (l.set j v)))
  | _, _, _, _, _ => False
def opBm : Bm → Val → List Val → Store → (Store → Prop) → Prop
  | .append, .ref p, [x], S, Q => ∃ l, S p = some (.lst l) ∧ l.length < LIM ∧ Q (put S p (.lst (l ++ [x])))
  | .extend, .ref p, [.ref q], S, Q => ∃ l m, S p = some (.lst l) ∧ S q = some (.lst m) ∧ l.length + m.length ≤ LIM ∧ Q (put S p (.lst (l ++ m)))
  | .clear, .ref p, [], S, Q => ∃ l, S p = some (.lst l) ∧ Q (put S p (.lst []))
  | .reverse, .ref p, [], S, Q => ∃ l, S p = some (.lst l) ∧ Q (put S p (.lst l.reverse))
  | _, _, _, _, _ => False
def putN (f : Nat) (v : Val) : List (Nat × Val) → List (Nat × Val)
  | [] => [(f, v)]
  | (g, x) :: r => if g = f then (g, v) :: r else (g, x) :: putN f v r
/-- a while: an invariant with its measure -/
def wWhl (c : Ev → Store → (Bool → Store → Prop) → (Exn → Store → Prop) → Prop) (b : Ev → Store → Post → Prop) (env : Ev) (S : Store) (D : Post) : Prop :=
  ∃ W : Nat → Ev → Store → Prop, (∃ m, W m env S) ∧ ∀ m env S, W m env S → c env S (fun t S1 => if t = true then
    b env S1 ⟨fun e' S' => ∃ m', m' < m ∧ W m' e' S', D.rt, D.nx, fun e' S' => ∃ m', m' < m ∧ W m' e' S', D.ex⟩ else D.nx env S1) fun x S' => D.ex x env S'
/-- a for, by the items that are left -/
def wFor (G : Store → Prop) (g : Val → Ev → (Ev → Prop) → Prop) (b : Ev → Store → Post → Prop) (D : Post) : List Val → Ev → Store → Prop
  | [], env, S => G S ∧ D.nx env S
  | x :: r, env, S => G S ∧ g x env fun e1 => b e1 S ⟨wFor G g b D r, D.rt, D.nx, wFor G g b D r, D.ex⟩
def wS (T : Tb) : Sx → Ev → Store → Post → Prop
  | .skip, env, S, D => D.nx env S
  | .seq a b, env, S, D => wS T a env S ⟨fun e' S' => wS T b e' S' D, D.rt, D.bk, D.ct, D.ex⟩
  | .asg g e, env, S, D => wE T e env S (fun v S1 => tgt g v env fun e' => D.nx e' S1) fun x S' => D.ex x env S'
  | .asgF o f e, env, S, D => wE T e env S (fun v S1 => wE T o env S1 (fun x S2 => ∃ p c fs, x = .ref p ∧ S2 p = some (.ins c fs) ∧ T.fl c f = true ∧ fs.length < 900 ∧ D.nx env (put S2 p (.ins c (putN f v fs)))) fun x S' => D.ex x env S') fun x S' => D.ex x env S'
  | .asgI o i e, env, S, D => wE T e env S (fun v S1 => wE T o env S1 (fun x S2 => wE T i env S2 (fun y S3 => setI x y v S3 fun S4 => D.nx env S4) fun x S' => D.ex x env S') fun x S' => D.ex x env S') fun x S' => D.ex x env S'
  | .augN i o e, env, S, D => ∃ a, env[i]? = some (some (.int a)) ∧ wE T e env S (fun y S1 => ∃ b, y = .int b ∧ opB o (.int a) (.int b) S1 fun z S2 => D.nx (env.set i (some z)) S2) fun x S' => D.ex x env S'
  | .augI o i op e, env, S, D => wE T o env S (fun x S1 => wE T i env S1 (fun y S2 => opIx x y S2 fun v S3 => wE T e env S3 (fun z S4 => opB op v z S4 fun u S5 => setI x y u S5 fun S6 => D.nx env S6) fun x S' => D.ex x env S') fun x S' => D.ex x env S') fun x S' => D.ex x env S'
  | .par i j a b, env, S, D => wE T a env S (fun x S1 => wE T b env S1 (fun y S2 => D.nx ((env.set i (some x)).set j (some y)) S2) fun x S' => D.ex x env S') fun x S' => D.ex x env S'
  | .expr e, env, S, D => wE T e env S (fun _ S1 => D.nx env S1) fun x S' => D.ex x env S'
  | .bm m a as, env, S, D => wE T a env S (fun x S1 => (∃ p l, x = .ref p ∧ S1 p = some (.lst l)) ∧ wA T as env S1 (fun vs S2 => opBm m x vs S2 fun S3 => D.nx env S3) fun x S' => D.ex x env S') fun x S' => D.ex x env S'
  | .ret e, env, S, D => wE T e env S D.rt fun x S' => D.ex x env S'
  | .retN, _, S, D => D.rt .non S
  | .ite c a b, env, S, D => wT T c env S (fun t S1 => if t = true then wS T a env S1 D else wS T b env S1 D) fun x S' => D.ex x env S'
  | .whl c b, env, S, D => wWhl (wT T c) (wS T b) env S D
  | .for_ g k as b, env, S, D => wA T as env S (fun vs S1 => itK k vs S1 fun G items => wFor G (tgt g) (wS T b) D items env S1) fun x S' => D.ex x env S'
  | .brk, env, S, D => D.bk env S
  | .cnt, env, S, D => D.ct env S
  | .raise c as, env, S, D => wA T as env S (fun vs S1 => D.ex ⟨c, vs.zipIdx.map fun p => (p.2, p.1)⟩ env S1) fun x S' => D.ex x env S'
section
variable {T : Tb} {env : Ev} {S : Store} {D : Post}
theorem wS_skip : wS T .skip env S D = (D.nx env S) := rfl
theorem wS_seq {a b : Sx} : wS T (.seq a b) env S D = (wS T a env S ⟨fun e' S' => wS T b e' S' D, D.rt, D.bk, D.ct, D.ex⟩) := rfl
theorem wS_asg {g : Tg} {e : Ex} : wS T (.asg g e) env S D = (wE T e env S (fun v S1 => tgt g v env fun e' => D.nx e' S1) fun x S' => D.ex x env S') := rfl
theorem wS_asgF {o e : Ex} {f : Nat} : wS T (.asgF o f e) env S D = (wE T e env S (fun v S1 => wE T o env S1 (fun x S2 => ∃ p c fs, x = .ref p ∧ S2 p = some (.ins c fs) ∧ T.fl c f = true ∧ fs.length < 900 ∧ D.nx env (put S2 p (.ins c (putN f v fs)))) fun x S' => D.ex x env S') fun x S' => D.ex x env S') := rfl
theorem wS_asgI {o i e : Ex} : wS T (.asgI o i e) env S D = (wE T e env S (fun v S1 => wE T o env S1 (fun x S2 => wE T i env S2 (fun y S3 => setI x y v S3 fun S4 => D.nx env S4) fun x S' => D.ex x env S') fun x S' => D.ex x env S') fun x S' => D.ex x env S') := rfl
theorem wS_augN {i : Nat} {o : Bop} {e : Ex} : wS T (.augN i o e) env S D = (∃ a, env[i]? = some (some (.int a)) ∧ wE T e env S (fun y S1 => ∃ b, y = .int b ∧ opB o (.int a) (.int b) S1 fun z S2 => D.nx (env.set i (some z)) S2) fun x S' => D.ex x env S') := rfl
theorem wS_augI {o i e : Ex} {op : Bop} : wS T (.augI o i op e) env S D = (wE T o env S (fun x S1 => wE T i env S1 (fun y S2 => opIx x y S2 fun v S3 => wE T e env S3 (fun z S4 => opB op v z S4 fun u S5 => setI x y u S5 fun S6 => D.nx env S6) fun x S' => D.ex x env S') fun x S' => D.ex x env S') fun x S' => D.ex x env S') := rfl
theorem wS_par {i j : Nat} {a b : Ex} : wS T (.par i j a b) env S D = (wE T a env S (fun x S1 => wE T b env S1 (fun y S2 => D.nx ((env.set i (some x)).set j (some y)) S2) fun x S' => D.ex x env S') fun x S' => D.ex x env S') := rfl
theorem wS_expr {e : Ex} : wS T (.expr e) env S D = (wE T e env S (fun _ S1 => D.nx env S1) fun x S' => D.ex x env S') := rfl
theorem wS_bm {m : Bm} {a as : Ex} : wS T (.bm m a as) env S D = (wE T a env S (fun x S1 => (∃ p l, x = .ref p ∧ S1 p = some (.lst l)) ∧ wA T as env S1 (fun vs S2 => opBm m x vs S2 fun S3 => D.nx env S3) fun x S' => D.ex x env S') fun x S' => D.ex x env S') := rfl
theorem wS_ret {e : Ex} : wS T (.ret e) env S D = (wE T e env S D.rt fun x S' => D.ex x env S') := rfl
theorem wS_retN : wS T .retN env S D = (D.rt .non S) := rfl
theorem wS_ite {c : Ex} {a b : Sx} : wS T (.ite c a b) env S D = (wT T c env S (fun t S1 => if t = true then wS T a env S1 D else wS T b env S1 D) fun x S' => D.ex x env S') := rfl
theorem wS_whl {c : Ex} {b : Sx} : wS T (.whl c b) env S D = (wWhl (wT T c) (wS T b) env S D) := rfl
theorem wS_for {g : Tg} {k : ItK} {as : Ex} {b : Sx} : wS T (.for_ g k as b) env S D = (wA T as env S (fun vs S1 => itK k vs S1 fun G items => wFor G (tgt g) (wS T b) D items env S1) fun x S' => D.ex x env S') := rfl
theorem wS_brk : wS T .brk env S D = (D.bk env S) := rfl
theorem wS_cnt : wS T .cnt env S D = (D.ct env S) := rfl
theorem wS_raise {c : Nat} {as : Ex} : wS T (.raise c as) env S D = (wA T as env S (fun vs S1 => D.ex ⟨c, vs.zipIdx.map fun p => (p.2, p.1)⟩ env S1) fun x S' => D.ex x env S') := rfl
end
theorem Post.Le.refl {D : Post} : Post.Le D D := ⟨fun _ _ h => h, fun _ _ h => h, fun _ _ h => h, fun _ _ h => h, fun _ _ _ h => h⟩
theorem setI_mono {o i v : Val} {S : Store} {Q Q' : Store → Prop} (k : ∀ S, Q S → Q' S) (h : setI o i v S Q) : setI o i v S Q' := by
  unfold setI at *
  split at h
  · obtain ⟨l, j, h1, h2, h⟩ := h
    exact ⟨l, j, h1, h2, k _ h⟩
  · exact h.elim
theorem opBm_mono {m : Bm} {x : Val} {vs : List Val} {S : Store} {Q Q' : Store → Prop} (k : ∀ S, Q S → Q' S) (h : opBm m x vs S Q) : opBm m x vs S Q' := by
  fun_cases opBm m x vs S Q <;> simp only [opBm] at h ⊢ <;> first
    | (obtain ⟨l, h1, h2, h⟩ := h; exact ⟨l, h1, h2, k _ h⟩)
    | (obtain ⟨l, h1, h⟩ := h; exact ⟨l, h1, k _ h⟩)
    | (obtain ⟨l, m, h1, h2, h3, h⟩ := h; exact ⟨l, m, h1, h2, h3, k _ h⟩)
    | exact h.elim
theorem wWhl_mono {T : Tb} {c : Ex} {b : Ev → Store → Post → Prop} (kb : ∀ env S D D', Post.Le D D' → b env S D → b env S D') {env : Ev} {S : Store} {D D' : Post} (k : Post.Le D D') (h : wWhl (wT T c) b env S D) : wWhl (wT T c) b env S D' := by
  obtain ⟨W, h0, h⟩ := h
  refine ⟨W, h0, fun m env S hw => wT_mono c (fun t S1 q => ?_) (fun x S' q => k.ex x env S' q) (h m env S hw)⟩
  cases t with
  | true =>
    refine kb _ _ _ _ ?_ q
    exact ⟨fun _ _ z => z, k.rt, k.nx, fun _ _ z => z, k.ex⟩
  | false => exact k.nx _ _ q
theorem wFor_mono {G : Store → Prop} {g : Val → Ev → (Ev → Prop) → Prop} {b : Ev → Store → Post → Prop} (kg : ∀ x env P P', (∀ e, P e → P' e) → g x env P → g x env P') (kb : ∀ env S D D', Post.Le D D' → b env S D → b env S D') {D D' : Post} (k : Post.Le D D') :
    ∀ (l : List Val) (env : Ev) (S : Store), wFor G g b D l env S → wFor G g b D' l env S
  | [], env, S, h => ⟨h.1, k.nx _ _ h.2⟩
  | x :: r, env, S, h => ⟨h.1, by
    refine kg _ _ _ _ (fun e h => ?_) h.2
    refine kb _ _ _ _ ?_ h
    exact ⟨wFor_mono kg kb k r, k.rt, k.nx, wFor_mono kg kb k r, k.ex⟩⟩
theorem wS_mono {T : Tb} : ∀ (s : Sx) {env : Ev} {S : Store} {D D' : Post}, Post.Le D D' → wS T s env S D → wS T s env S D'
  | .skip, _, _, _, _, k, h => by rw [wS_skip] at h ⊢; exact k.nx _ _ h
  | .seq a b, _, _, _, _, k, h => by rw [wS_seq] at h ⊢; refine wS_mono a ?_ h; exact ⟨fun _ _ h => wS_mono b k h, k.rt, k.bk, k.ct, k.ex⟩
  | .asg g e, _, _, _, _, k, h => by rw [wS_asg] at h ⊢; exact wE_mono e (fun _ _ h => tgt_mono (fun _ => k.nx _ _) h) (fun _ _ => k.ex _ _ _) h
  | .asgF o f e, _, _, _, _, k, h => by
    rw [wS_asgF] at h ⊢
    exact wE_mono e (fun _ _ h => wE_mono o (fun _ _ ⟨p, c, fs, h1, h2, h3, h4, h⟩ => ⟨p, c, fs, h1, h2, h3, h4, k.nx _ _ h⟩) (fun _ _ => k.ex _ _ _) h) (fun _ _ => k.ex _ _ _) h
  | .asgI o i e, _, _, _, _, k, h => by
    rw [wS_asgI] at h ⊢
    exact wE_mono e (fun _ _ h => wE_mono o (fun _ _ h => wE_mono i (fun _ _ h => setI_mono (fun _ => k.nx _ _) h) (fun _ _ => k.ex _ _ _) h) (fun _ _ => k.ex _ _ _) h) (fun _ _ => k.ex _ _ _) h
  | .augN i o e, _, _, _, _, k, h => by
    rw [wS_augN] at h ⊢
    obtain ⟨v, e1, h⟩ := h
    exact ⟨v, e1, wE_mono e (fun _ _ ⟨b, e2, h⟩ => ⟨b, e2, opB_mono (fun _ _ => k.nx _ _) h⟩) (fun _ _ => k.ex _ _ _) h⟩
  | .augI o i op e, _, _, _, _, k, h => by
    rw [wS_augI] at h ⊢
    exact wE_mono o (fun _ _ h => wE_mono i (fun _ _ h => opIx_mono (fun _ _ h => wE_mono e (fun _ _ h => opB_mono (fun _ _ h => setI_mono (fun _ => k.nx _ _) h) h) (fun _ _ => k.ex _ _ _) h) h) (fun _ _ => k.ex _ _ _) h) (fun _ _ => k.ex _ _ _) h
  | .par i j a b, _, _, _, _, k, h => by
    rw [wS_par] at h ⊢
    exact wE_mono a (fun _ _ h => wE_mono b (fun _ _ => k.nx _ _) (fun _ _ => k.ex _ _ _) h) (fun _ _ => k.ex _ _ _) h
  | .expr e, _, _, _, _, k, h => by rw [wS_expr] at h ⊢; exact wE_mono e (fun _ _ => k.nx _ _) (fun _ _ => k.ex _ _ _) h
  | .bm m a as, _, _, _, _, k, h => by
    rw [wS_bm] at h ⊢
    exact wE_mono a (fun _ _ h => ⟨h.1, wA_mono as (fun _ _ h => opBm_mono (fun _ => k.nx _ _) h) (fun _ _ => k.ex _ _ _) h.2⟩) (fun _ _ => k.ex _ _ _) h
  | .ret e, _, _, _, _, k, h => by rw [wS_ret] at h ⊢; exact wE_mono e k.rt (fun _ _ => k.ex _ _ _) h
  | .retN, _, _, _, _, k, h => by rw [wS_retN] at h ⊢; exact k.rt _ _ h
  | .ite c a b, _, _, _, _, k, h => by
    rw [wS_ite] at h ⊢
    refine wT_mono c (fun t _ h => ?_) (fun _ _ => k.ex _ _ _) h
    cases t with
    | true => exact wS_mono a k h
    | false => exact wS_mono b k h
  | .whl c b, _, _, _, _, k, h => by rw [wS_whl] at h ⊢; exact wWhl_mono (b := wS T b) (fun _ _ _ _ k h => wS_mono b k h) k h
  | .for_ g kk as b, _, _, _, _, k, h => by
    rw [wS_for] at h ⊢
    exact wA_mono as (fun _ _ h => itK_mono (fun _ _ h => wFor_mono (g := tgt g) (b := wS T b) (fun _ _ _ _ k h => tgt_mono k h) (fun _ _ _ _ k h => wS_mono b k h) k _ _ _ h) h) (fun _ _ => k.ex _ _ _) h
  | .brk, _, _, _, _, k, h => by rw [wS_brk] at h ⊢; exact k.bk _ _ h
  | .cnt, _, _, _, _, k, h => by rw [wS_cnt] at h ⊢; exact k.ct _ _ h
  | .raise c as, _, _, _, _, k, h => by rw [wS_raise] at h ⊢; exact wA_mono as (fun _ _ => k.ex _ _ _) (fun _ _ => k.ex _ _ _) h
end BW
set_option Elab.async false
set_option linter.all false
set_option maxRecDepth 100000
set_option maxHeartbeats 4000000
namespace BW
open PySem PySem.Spec PyProof.Rows L2

/-! ### what the values, the store mean in the layer's heap -/
structure Gn where
  ca : Nat → Addr
  nm : Nat → Str
def KTup (K : PySem.W.Frag) (a : Addr) (xs : List V) : Prop := ∃ (o : Obj) (its : Array Value) (n : Nat), K.lookup a = some o ∧ o.cls = .type "tuple" ∧ o.data = .seq its n ∧ its.size ≤ sizeLine ∧ Vals xs its.toList
def TupAt (K : PySem.W.Frag) (H : Hp) (a : Addr) (xs : List V) : Prop := H a = some (.tup xs) ∨ KTup K a xs
theorem TupAt.sq {K : PySem.W.Frag} {H : Hp} {a : Addr} {xs : List V} (h : TupAt K H a xs) : SqT K H a xs := h.elim (fun h => .inl (.inl h)) .inr
def KLst (K : PySem.W.Frag) (a : Addr) (xs : List V) : Prop := ∃ (o : Obj) (its : Array Value) (n : Nat), K.lookup a = some o ∧ o.cls = .type "list" ∧ o.dict = none ∧ o.data = .seq its n ∧ its.size ≤ sizeLine ∧ Vals xs its.toList
def SlAt (K : PySem.W.Frag) (H : Hp) (a : Addr) (xs : List V) : Prop := (∃ o, H a = some (.frz o (.lst xs))) ∨ KLst K a xs
theorem SlAt.sq {K : PySem.W.Frag} {H : Hp} {a : Addr} {xs : List V} (h : SlAt K H a xs) : SqL K H a xs := h.elim (fun h => .inl (.inr h)) .inr
/-- what never changes stays -/
structure TM (H H' : Hp) : Prop where
  tup : ∀ b xs, H b = some (.tup xs) → H' b = some (.tup xs)
  frz : ∀ b o u, H b = some (.frz o u) → H' b = some (.frz o u)
theorem TM.refl {H : Hp} : TM H H := ⟨fun _ _ h => h, fun _ _ _ h => h⟩
theorem TM.trans {H H' H'' : Hp} (h : TM H H') (k : TM H' H'') : TM H H'' := ⟨fun b xs e => k.tup b xs (h.tup b xs e), fun b o u e => k.frz b o u (h.frz b o u e)⟩
theorem TM.new {H : Hp} {p : Addr} {o : HO} (h : H p = none) : TM H (upd H p o) := ⟨fun b xs e => by rw [upd_ne (ne_of_none e h)]; exact e, fun b xs u e => by rw [upd_ne (ne_of_none e h)]; exact e⟩
theorem TM.write {H : Hp} {p : Addr} {o u : HO} (h : H p = some u) (hu : ∀ xs, u ≠ .tup xs) (hf : ∀ o x, u ≠ .frz o x) : TM H (upd H p o) := ⟨fun b xs e => by
  rw [upd_ne fun q => ?_]
  · exact e
  · rw [q, h] at e; cases e; exact hu xs rfl, fun b ob x e => by
  rw [upd_ne fun q => ?_]
  · exact e
  · rw [q, h] at e; cases e; exact hf _ _ rfl⟩
theorem TupAt.mono {K : PySem.W.Frag} {H H' : Hp} {a : Addr} {xs : List V} (t : TM H H') (h : TupAt K H a xs) : TupAt K H' a xs := h.elim (fun h => .inl (t.tup _ _ h)) .inr
theorem SlAt.mono {K : PySem.W.Frag} {H H' : Hp} {a : Addr} {xs : List V} (t : TM H H') (h : SlAt K H a xs) : SlAt K H' a xs := h.elim (fun ⟨o, h⟩ => .inl ⟨o, t.frz _ _ _ h⟩) .inr
abbrev St := L2.St
mutual
def RV (K : PySem.W.Frag) (H : Hp) : Val → V → Prop
  | .non, v => v = .non
  | .bl b, v => v = .bl b
  | .int i, v => v = .int i
  | .str x, v => v = .str x
  | .ref a, v => v = .ref a
  | .tup l, v => ∃ a vs, v = .ref a ∧ TupAt K H a vs ∧ RVs K H l vs
  | .sl l, v => ∃ a vs, v = .ref a ∧ SlAt K H a vs ∧ RVs K H l vs
def RVs (K : PySem.W.Frag) (H : Hp) : List Val → List V → Prop
  | [], vs => vs = []
  | x :: l, vs => ∃ v r, vs = v :: r ∧ RV K H x v ∧ RVs K H l r
end
mutual
theorem RV.mono {K : PySem.W.Frag} {H H' : Hp} (t : TM H H') : ∀ {x : Val} {v : V}, RV K H x v → RV K H' x v
  | .non, _, h => h
  | .bl _, _, h => h
  | .int _, _, h => h
  | .str _, _, h => h
  | .ref _, _, h => h
  | .tup l, _, h => by
    obtain ⟨a, vs, e, q, r⟩ := h
    exact ⟨a, vs, e, q.mono t, RVs.mono t r⟩
  | .sl l, _, h => by
    obtain ⟨a, vs, e, q, r⟩ := h
    exact ⟨a, vs, e, q.mono t, RVs.mono t r⟩
theorem RVs.mono {K : PySem.W.Frag} {H H' : Hp} (t : TM H H') : ∀ {l : List Val} {vs : List V}, RVs K H l vs → RVs K H' l vs
  | [], _, h => h
  | x :: l, _, h => by
    obtain ⟨v, r, e, q, z⟩ := h
    exact ⟨v, r, e, RV.mono t q, RVs.mono t z⟩
end
section
variable {K : PySem.W.Frag} {H : Hp}
theorem RVs.length : ∀ {l : List Val} {vs : List V}, RVs K H l vs → l.length = vs.length
  | [], _, h => by cases h; rfl
  | x :: l, _, h => by
    obtain ⟨v, r, rfl, _, z⟩ := h
    rw [List.length_cons, List.length_cons, RVs.length z]
theorem RVs.get : ∀ {l : List Val} {vs : List V} {i : Nat} {x : Val}, RVs K H l vs → l[i]? = some x → ∃ v, vs[i]? = some v ∧ RV K H x v
  | [], _, _, _, _, e => by simp at e
  | x :: l, _, 0, y, h, e => by
    obtain ⟨v, r, rfl, q, z⟩ := h
    simp at e; subst e
    exact ⟨v, rfl, q⟩
  | x :: l, _, i + 1, y, h, e => by
    obtain ⟨v, r, rfl, q, z⟩ := h
    obtain ⟨u, e1, e2⟩ := RVs.get (i := i) z (by simpa using e)
    exact ⟨u, by simpa using e1, e2⟩
theorem RVs.append : ∀ {l m : List Val} {vs us : List V}, RVs K H l vs → RVs K H m us → RVs K H (l ++ m) (vs ++ us)
  | [], _, _, _, h, k => by cases h; exact k
  | x :: l, _, _, _, h, k => by
    obtain ⟨v, r, rfl, q, z⟩ := h
    exact ⟨v, r ++ _, rfl, q, RVs.append z k⟩
theorem RVs.set : ∀ {l : List Val} {vs : List V} {i : Nat} {x : Val} {v : V}, RVs K H l vs → RV K H x v → RVs K H (l.set i x) (vs.set i v)
  | [], _, _, _, _, h, _ => by cases h; exact rfl
  | x :: l, _, 0, _, _, h, k => by
    obtain ⟨v, r, rfl, q, z⟩ := h
    exact ⟨_, r, rfl, k, z⟩
  | x :: l, _, i + 1, _, _, h, k => by
    obtain ⟨v, r, rfl, q, z⟩ := h
    exact ⟨v, _, rfl, q, RVs.set z k⟩
theorem RVs.drop : ∀ {l : List Val} {vs : List V} (n : Nat), RVs K H l vs → RVs K H (l.drop n) (vs.drop n)
  | _, _, 0, h => h
  | [], _, n + 1, h => by cases h; exact rfl
  | x :: l, _, n + 1, h => by
    obtain ⟨v, r, rfl, q, z⟩ := h
    exact RVs.drop n z
theorem RVs.take : ∀ {l : List Val} {vs : List V} (n : Nat), RVs K H l vs → RVs K H (l.take n) (vs.take n)
  | _, _, 0, h => by simp [RVs]
  | [], _, n + 1, h => by cases h; exact rfl
  | x :: l, _, n + 1, h => by
    obtain ⟨v, r, rfl, q, z⟩ := h
    exact ⟨v, _, rfl, q, RVs.take n z⟩
theorem RVs.cut {l : List Val} {vs : List V} {lo hi : Option Int} (h : RVs K H l vs) : RVs K H (cutG l lo hi) (cutV vs lo hi) := by
  unfold cutG cutV
  rw [h.length]
  exact (h.drop _).take _
theorem RVs.reverse : ∀ {l : List Val} {vs : List V}, RVs K H l vs → RVs K H l.reverse vs.reverse
  | [], _, h => by cases h; exact rfl
  | x :: l, _, h => by
    obtain ⟨v, r, rfl, q, z⟩ := h
    rw [List.reverse_cons, List.reverse_cons]
    exact z.reverse.append ⟨v, [], rfl, q, rfl⟩
theorem RVs.ints : ∀ {ns : List Int} {vs : List V}, RVs K H (ns.map .int) vs → vs = ns.map V.int
  | [], _, h => h
  | n :: ns, _, h => by
    obtain ⟨v, r, rfl, q, z⟩ := h
    have q' : v = .int n := q
    subst q'
    rw [RVs.ints z]; rfl
theorem RVs.bls : ∀ {ns : List Bool} {vs : List V}, RVs K H (ns.map .bl) vs → vs = ns.map V.bl
  | [], _, h => h
  | n :: ns, _, h => by
    obtain ⟨v, r, rfl, q, z⟩ := h
    have q' : v = .bl n := q
    subst q'
    rw [RVs.bls z]; rfl
theorem RVs.ofInts : ∀ {ns : List Int}, RVs K H (ns.map .int) (ns.map V.int)
  | [] => rfl
  | n :: ns => ⟨_, _, rfl, rfl, RVs.ofInts⟩
theorem RVs.atI {l : List Val} {vs : List V} {i : Int} {x : Val} (h : RVs K H l vs) (e : atI l i = some x) : ∃ v, atI vs i = some v ∧ RV K H x v := by
  unfold L2.atI at *
  rw [h.length] at e
  cases q : ixN vs.length i with
  | none => rw [q] at e; cases e
  | some j =>
    rw [q] at e
    exact h.get e
theorem RV.nonB {x : Val} {v : V} (h : RV K H x v) : x.isNon = decide (v = .non) := by
  cases x with
  | non => cases h; rfl
  | tup l => obtain ⟨a, vs, rfl, _⟩ := h; rfl
  | sl l => obtain ⟨a, vs, rfl, _⟩ := h; rfl
  | _ => cases h; rfl
end
section
variable {K : PySem.W.Frag} {G : Gn} {H : Hp}
def RO (K : PySem.W.Frag) (G : Gn) (H : Hp) (a : Addr) : Ob → Prop
  | .lst l => ∃ vs, H a = some (.lst vs) ∧ RVs K H l vs
  | .ins c fs => ∃ dx gs, H a = some (.ins (G.ca c) dx gs) ∧ gs.map (·.1) = fs.map (fun p => G.nm p.1) ∧ RVs K H (fs.map (·.2)) (gs.map (·.2))
def RS (K : PySem.W.Frag) (G : Gn) (H : Hp) (S : Store) : Prop := ∀ a o, S a = some o → RO K G H a o
def RE (K : PySem.W.Frag) (H : Hp) (env : Ev) (σ : St) : Prop := env.length = σ.length ∧ ∀ (i : Nat) x, env[i]? = some (some x) → ∃ v, σ[i]? = some (some v) ∧ RV K H x v
theorem RE.mono {H' : Hp} {env : Ev} {σ : St} (t : TM H H') (h : RE K H env σ) : RE K H' env σ := ⟨h.1, fun i x e => let ⟨v, e1, r⟩ := h.2 i x e; ⟨v, e1, r.mono t⟩⟩
theorem RE.set {env : Ev} {σ : St} {i : Nat} {x : Val} {v : V} (h : RE K H env σ) (r : RV K H x v) : RE K H (env.set i (some x)) (σ.set i (some v)) := by
  refine ⟨by simpa using h.1, fun j y e => ?_⟩
  by_cases q : i = j
  · subst q
    by_cases hl : i < env.length
    · rw [List.getElem?_set_self hl] at e
      cases e
      exact ⟨v, List.getElem?_set_self (by rw [← h.1]; exact hl), r⟩
    · rw [List.getElem?_eq_none (by simpa using hl)] at e; cases e
  · rw [List.getElem?_set_ne q] at e
    obtain ⟨u, e1, e2⟩ := h.2 j y e
    exact ⟨u, by rw [List.getElem?_set_ne q]; exact e1, e2⟩
theorem RE.drop {env : Ev} {σ : St} {i : Nat} (h : RE K H env σ) : RE K H (env.set i none) (σ.set i none) := by
  refine ⟨by simpa using h.1, fun j y e => ?_⟩
  by_cases q : i = j
  · subst q
    by_cases hl : i < env.length
    · rw [List.getElem?_set_self hl] at e; cases e
    · rw [List.getElem?_eq_none (by simpa using hl)] at e; cases e
  · rw [List.getElem?_set_ne q] at e
    obtain ⟨u, e1, e2⟩ := h.2 j y e
    exact ⟨u, by rw [List.getElem?_set_ne q]; exact e1, e2⟩
theorem RE.wipe {env : Ev} {σ : St} : ∀ {vs : List Nat}, RE K H env σ → RE K H (wipeE env vs) (wipe σ vs)
  | [], h => h
  | v :: vs, h => (RE.wipe (vs := vs) h).drop
theorem RS.free {p : Addr} {S : Store} (h : RS K G H S) (k : H p = none) : S p = none := by
  cases e : S p with
  | none => rfl
  | some o =>
    have r := h p o e
    cases o with
    | lst l => obtain ⟨vs, q, _⟩ := r; rw [k] at q; cases q
    | ins c fs => obtain ⟨dx, gs, q, _⟩ := r; rw [k] at q; cases q
theorem RS.sub {S S' : Store} (h : RS K G H S') (k : Sub S S') : RS K G H S := fun a o e => h a o (k a o e)
theorem RO.new {p a : Addr} {o : HO} {u : Ob} (h : RO K G H a u) (k : H p = none) : RO K G (upd H p o) a u := by
  have t : TM H (upd H p o) := TM.new k
  cases u with
  | lst l => obtain ⟨vs, q, r⟩ := h; exact ⟨vs, by rw [upd_ne (ne_of_none q k)]; exact q, r.mono t⟩
  | ins c fs => obtain ⟨dx, gs, q, z, r⟩ := h; exact ⟨dx, gs, by rw [upd_ne (ne_of_none q k)]; exact q, z, r.mono t⟩
theorem RS.new {p : Addr} {o : HO} {S : Store} (h : RS K G H S) (k : H p = none) : RS K G (upd H p o) S := fun a u e => (h a u e).new k
theorem RS.alloc {p : Addr} {o : HO} {ob : Ob} {S : Store} (h : RS K G H S) (k : H p = none) (r : RO K G (upd H p o) p ob) : RS K G (upd H p o) (put S p ob) := fun a u e => by
  by_cases q : a = p
  · subst q; rw [put_same] at e; cases e; exact r
  · rw [put_ne q] at e; exact (h a u e).new k
theorem RS.write {p : Addr} {o : HO} {ob : Ob} {S : Store} (h : RS K G H S) (hp : (∃ xs, H p = some (.lst xs)) ∨ ∃ c d f, H p = some (.ins c d f)) (r : RO K G (upd H p o) p ob) : RS K G (upd H p o) (put S p ob) := by
  have t : TM H (upd H p o) := by
    rcases hp with ⟨xs, e⟩ | ⟨c, d, f, e⟩
    · exact TM.write e (fun _ z => by cases z) fun _ _ z => by cases z
    · exact TM.write e (fun _ z => by cases z) fun _ _ z => by cases z
  intro a u e
  by_cases q : a = p
  · subst q; rw [put_same] at e; cases e; exact r
  · rw [put_ne q] at e
    have z := h a u e
    cases u with
    | lst l => obtain ⟨vs, y, r⟩ := z; exact ⟨vs, by rw [upd_ne q]; exact y, r.mono t⟩
    | ins c fs => obtain ⟨dx, gs, y, z, r⟩ := z; exact ⟨dx, gs, by rw [upd_ne q]; exact y, z, r.mono t⟩
theorem TM.wr {p : Addr} {o : HO} (hp : (∃ xs, H p = some (.lst xs)) ∨ ∃ c d f, H p = some (.ins c d f)) : TM H (upd H p o) := by
  rcases hp with ⟨xs, e⟩ | ⟨c, d, f, e⟩
  · exact TM.write e (fun _ z => by cases z) fun _ _ z => by cases z
  · exact TM.write e (fun _ z => by cases z) fun _ _ z => by cases z
/-- a list-like value -/
theorem RV.list {S : Store} {x : Val} {v : V} {l : List Val} (r : RV K H x v) (s : RS K G H S) (h : LstAt S x l) : ∃ a vs, v = .ref a ∧ SqL K H a vs ∧ RVs K H l vs := by
  rcases h with ⟨a, rfl, e⟩ | rfl
  · obtain ⟨vs, q, z⟩ := s a _ e
    exact ⟨a, vs, r, SqL.of q, z⟩
  · obtain ⟨a, vs, e, q, z⟩ := r
    exact ⟨a, vs, e, q.sq, z⟩
end
end BW
set_option Elab.async false
set_option linter.all false
set_option maxRecDepth 100000
set_option maxHeartbeats 4000000
namespace BW
open PySem PySem.Spec PyProof.Rows L2

/-! ### the operations are the layer's -/
def up (K : PySem.W.Frag) (G : Gn) (H : Hp) (Q : VK) : QV := fun v S' => ∀ z H', TM H H' → RS K G H' S' → RV K H' v z → Q z H'
def upB (K : PySem.W.Frag) (G : Gn) (H : Hp) (Q : Bool → Hp → Prop) : Bool → Store → Prop := fun v S' => ∀ H', TM H H' → RS K G H' S' → Q v H'
def bopOf : Bop → Operator
  | .add => .Add | .sub => .Sub | .mul => .Mult | .fdiv => .FloorDiv | .mod => .Mod | .pow => .Pow
def copOf : Cop → CmpOp
  | .eq => .Eq | .ne => .NotEq | .lt => .Lt | .le => .LtE | .gt => .Gt | .ge => .GtE | .is => .Is | .isnot => .IsNot | .in_ => .In | .notin => .NotIn
theorem LIM_eq : LIM = sizeLine := by rw [sizeLine_eq]; rfl
theorem MulOk.ok {i j : Int} (h : MulOk i j) : IntMulOk i j := by
  have b : ∀ x : Int, Builtin.Int.intBits x ≤ x.natAbs.log2 + 1 := fun x => by
    unfold Builtin.Int.intBits
    split <;> omega
  have h1 := b i
  have h2 := b j
  have h3 : i.natAbs.log2 + j.natAbs.log2 < 100000000 := h
  have e : bitsLine = 134217728 := by decide
  unfold IntMulOk
  intro z
  rw [Bool.and_eq_true] at z
  have z2 := z.2
  unfold Builtin.Int.intTooBig at z2
  have z3 := of_decide_eq_true z2
  rw [e] at z3
  omega
section
variable {X : Cx} {G : Gn}
def lift2 (K : PySem.W.Frag) (G : Gn) (f : Val → Val → Store → QV → Prop) : R2 := fun x y H Q => ∃ a b S, RV K H a x ∧ RV K H b y ∧ RS K G H S ∧ f a b S (up K G H Q)
theorem op_mulX : OpR X (binaryOp .Mult) (rI MulOk fun i j => .int (i * j)) := opI fun _ _ _ _ _ _ _ hc q => mul_int q hc.ok
theorem iop_mulX : OpR X (inplaceOp .Mult) (rI MulOk fun i j => .int (i * j)) := opI fun _ _ _ _ _ _ _ hc q => imul_int q hc.ok
theorem op_fdivX : OpR X (binaryOp .FloorDiv) (rI DivOk fun i j => .int (i.fdiv j)) := opI fun i j _ _ _ _ _ hc q => floordiv_int hc.1 q (.inl (PyProof.noPylong_of_log2 hc.2))
theorem up_here {K : PySem.W.Frag} {H : Hp} {Q : VK} {v : Val} {z : V} {S : Store} (h : up K G H Q v S) (s : RS K G H S) (r : RV K H v z) : Q z H := h z H .refl s r
theorem up_new {K : PySem.W.Frag} {H : Hp} {Q : VK} {p : Addr} {o : HO} {ob : Ob} {S : Store} (h : up K G H Q (.ref p) (put S p ob)) (s : RS K G H S) (k : H p = none) (r : RO K G (upd H p o) p ob) : Q (.ref p) (upd H p o) :=
  h _ _ (.new k) (s.alloc k r) rfl
theorem RO.lst {K : PySem.W.Frag} {H : Hp} {p : Addr} {vs : List V} {l : List Val} (k : H p = none) (r : RVs K H l vs) : RO K G (upd H p (.lst vs)) p (.lst l) := ⟨vs, upd_same, r.mono (.new k)⟩
theorem lop (o : Bop) : OpR X (binaryOp (bopOf o)) (lift2 X.K G (opB o)) := by
  intro pins s σ H x y v u Q I rx ry h
  obtain ⟨a, b, S, ra, rb, rs, h⟩ := h
  fun_cases opB o a b S (up X.K G H Q) <;> simp only [opB] at h
  · exact op_add pins s σ H x y v u Q I rx ry ⟨_, _, ra, rb, up_here h rs rfl⟩
  · exact op_add_str pins s σ H x y v u Q I rx ry ⟨_, _, ra, rb, by rw [← LIM_eq]; exact h.1, up_here h.2 rs rfl⟩
  · obtain ⟨h1, h2, h⟩ := h
    obtain ⟨a1, xs, rfl, ta, va⟩ := ra
    obtain ⟨b1, ys, rfl, tb, vb⟩ := rb
    refine op_catT pins s σ H _ _ v u Q I rx ry ⟨a1, b1, xs, ys, rfl, rfl, ta.sq, tb.sq, fun e => h1 ?_, by rw [← LIM_eq, ← va.length, ← vb.length]; exact h2, fun e => ?_, fun e p hp => ?_⟩
    · have := va.length
      rw [e] at this
      exact List.eq_nil_of_length_eq_zero this
    · subst e
      refine up_here h rs ⟨a1, xs, rfl, ta, ?_⟩
      have := va.append vb
      rw [List.append_nil] at this
      exact this
    · exact h _ _ (.new hp) (rs.new hp) ⟨p, _, rfl, .inl upd_same, (va.append vb).mono (.new hp)⟩
  · obtain ⟨l, m, h1, h2, h3, h⟩ := h
    obtain ⟨xs, ea, va⟩ := rs _ _ h1
    obtain ⟨ys, eb, vb⟩ := rs _ _ h2
    exact op_cat pins s σ H _ _ v u Q I rx ry ⟨_, _, xs, ys, ra, rb, ea, eb, by rw [← LIM_eq, ← va.length, ← vb.length]; exact h3, fun p hp => up_new (h p (rs.free hp)) rs hp (.lst hp (va.append vb))⟩
  · exact op_sub pins s σ H x y v u Q I rx ry ⟨_, _, ra, rb, up_here h rs rfl⟩
  · exact op_mulX pins s σ H x y v u Q I rx ry ⟨_, _, ra, rb, h.1, up_here h.2 rs rfl⟩
  · exact op_fdivX pins s σ H x y v u Q I rx ry ⟨_, _, ra, rb, h.1, up_here h.2 rs rfl⟩
  · exact op_modN pins s σ H x y v u Q I rx ry ⟨_, _, ra, rb, h.1, up_here h.2 rs rfl⟩
  · exact op_pow pins s σ H x y v u Q I rx ry ⟨_, _, ra, rb, ⟨h.1.1, by have := h.1.2.1; omega, h.1.2.2⟩, up_here h.2 rs rfl⟩
mutual
theorem Dt.dp {K : PySem.W.Frag} {H : Hp} {S : Store} (s : RS K G H S) : ∀ {x : Val} {d : PyData} {v : V}, Dt S x d → RV K H x v → Dp K H v d
  | _, _, _, .non, r => by cases r; exact .non
  | _, _, _, .bl b, r => by cases r; exact .bl b
  | _, _, _, .int i, r => by cases r; exact .int i
  | _, _, _, .str i, r => by cases r; exact .str i
  | _, _, _, .tup h, r => by
    obtain ⟨a, vs, rfl, t, z⟩ := r
    exact .tup t.sq (Dts.dp s h z)
  | _, _, _, .lst h k, r => by
    obtain ⟨a, vs, rfl, t, z⟩ := r.list s h
    exact .lst t (Dts.dp s k z)
theorem Dts.dp {K : PySem.W.Frag} {H : Hp} {S : Store} (s : RS K G H S) : ∀ {l : List Val} {ds : List PyData} {vs : List V}, Dts S l ds → RVs K H l vs → DpAll K H vs ds
  | _, _, _, .nil, r => by cases r; exact .nil
  | _, _, _, .cons h k, r => by
    obtain ⟨v, q, rfl, r1, r2⟩ := r
    exact .cons (Dt.dp s h r1) (Dts.dp s k r2)
end
theorem op_inT (hu : X.A.units + 65 < cLine) : OpR X (compareOp .In) (fun x y H Q => ∃ d ds, Dp X.K H x d ∧ Dp X.K H y (.tuple ds) ∧ SeqAt.shaped d = true ∧ SeqAt.shaped (.list ds) = true ∧ Q (.bl (ds.any fun z => PyData.eqv z d)) H) := by
  intro pins s σ H x y v u Q I rx ry h
  obtain ⟨d, ds, hd, he, sd, se, q⟩ := h
  obtain ⟨as, r1⟩ := Dp.reads I d x v hd rx
  obtain ⟨bs, r2⟩ := Dp.reads I (.tuple ds) y u he ry
  exact SeqAt.in_tuple_reads r2 r1 (SeqAt.canLay_of_shaped se) (SeqAt.canLay_of_shaped sd) (room_in_shaped sd hu) ⟨.bl _, H, I, rfl, q⟩
theorem op_notInT (hu : X.A.units + 65 < cLine) : OpR X (compareOp .NotIn) (fun x y H Q => ∃ d ds, Dp X.K H x d ∧ Dp X.K H y (.tuple ds) ∧ SeqAt.shaped d = true ∧ SeqAt.shaped (.list ds) = true ∧ Q (.bl (!ds.any fun z => PyData.eqv z d)) H) := by
  intro pins s σ H x y v u Q I rx ry h
  obtain ⟨d, ds, hd, he, sd, se, q⟩ := h
  obtain ⟨as, r1⟩ := Dp.reads I d x v hd rx
  obtain ⟨bs, r2⟩ := Dp.reads I (.tuple ds) y u he ry
  exact SeqAt.notIn_tuple_reads r2 r1 (SeqAt.canLay_of_shaped se) (SeqAt.canLay_of_shaped sd) (room_in_shaped sd hu) ⟨.bl _, H, I, rfl, q⟩
def lift2B (K : PySem.W.Frag) (G : Gn) (f : Val → Val → Store → (Bool → Prop) → Prop) : R2 := fun x y H Q => ∃ a b S, RV K H a x ∧ RV K H b y ∧ RS K G H S ∧ f a b S fun t => upB K G H (fun t H' => Q (.bl t) H') t S
theorem upB_here {K : PySem.W.Frag} {H : Hp} {Q : Bool → Hp → Prop} {t : Bool} {S : Store} (h : upB K G H Q t S) (s : RS K G H S) : Q t H := h H .refl s
theorem ltI_ok {K : PySem.W.Frag} {H : Hp} {a b : Val} {x y : V} {P : Bool → Prop} {f : Int → Int → Bool} (ra : RV K H a x) (rb : RV K H b y) (h : ltI a b P f) : ∃ i j, x = .int i ∧ y = .int j ∧ P (f i j) := by
  unfold ltI at h
  split at h
  · exact ⟨_, _, ra, rb, h⟩
  · exact h.elim
theorem seqOf_ok {K : PySem.W.Frag} {H : Hp} {S : Store} {a : Val} {x : V} {P : List Val → Prop} (s : RS K G H S) (ra : RV K H a x) (h : seqOf S a P) :
    ∃ p l vs, x = .ref p ∧ RVs K H l vs ∧ P l ∧ (SqL K H p vs ∨ SqT K H p vs) := by
  unfold seqOf at h
  split at h
  · obtain ⟨p, vs, e, t, z⟩ := ra
    exact ⟨p, _, vs, e, z, h, .inr t.sq⟩
  · rw [getL_iff] at h
    obtain ⟨l, hl, h⟩ := h
    obtain ⟨p, vs, e, t, z⟩ := ra.list s hl
    exact ⟨p, l, vs, e, z, h, .inl t⟩
theorem lin (hu : X.A.units + 65 < cLine) (n : Bool) : OpR X (compareOp (if n then .NotIn else .In)) (lift2B X.K G fun a b S P => inOp S a b fun t => P (if n then !t else t)) := by
  intro pins s σ H x y v u Q I rx ry h
  obtain ⟨a, b, S, ra, rb, rs, h⟩ := h
  unfold inOp at h
  split at h
  · cases n
    · exact op_in_str pins s σ H x y v u Q I rx ry ⟨_, _, ra, rb, upB_here h rs⟩
    · exact op_notin_str pins s σ H x y v u Q I rx ry ⟨_, _, ra, rb, upB_here h rs⟩
  · obtain ⟨p, l, vs, rfl, z, ⟨d, ds, h1, h2, h3, h4, h⟩, t⟩ := seqOf_ok rs rb h
    have e1 := h1.dp rs ra
    have e2 := h2.dp rs z
    rcases t with t | t
    · cases n
      · exact op_inD hu pins s σ H x _ v u Q I rx ry ⟨d, ds, e1, .lst t e2, h3, h4, upB_here h rs⟩
      · exact op_notInD hu pins s σ H x _ v u Q I rx ry ⟨d, ds, e1, .lst t e2, h3, h4, upB_here h rs⟩
    · cases n
      · exact op_inT hu pins s σ H x _ v u Q I rx ry ⟨d, ds, e1, .tup t e2, h3, h4, upB_here h rs⟩
      · exact op_notInT hu pins s σ H x _ v u Q I rx ry ⟨d, ds, e1, .tup t e2, h3, h4, upB_here h rs⟩
theorem loc (hu : X.A.units + 65 < cLine) (o : Cop) : OpR X (compareOp (copOf o)) (lift2B X.K G (opC o)) := by
  cases o with
  | in_ => exact lin hu false
  | notin => exact lin hu true
  | _ =>
    intro pins s σ H x y v u Q I rx ry h
    obtain ⟨a, b, S, ra, rb, rs, h⟩ := h
    simp only [opC] at h
    first
      | (obtain ⟨d, e, h1, h2, h3, h4, h⟩ := h
         first
          | exact op_eqD (by omega) pins s σ H x y v u Q I rx ry ⟨d, e, h1.dp rs ra, h2.dp rs rb, h3, h4, upB_here h rs⟩
          | exact op_neD (by omega) pins s σ H x y v u Q I rx ry ⟨d, e, h1.dp rs ra, h2.dp rs rb, h3, h4, upB_here h rs⟩)
      | (obtain ⟨i, j, e1, e2, h⟩ := ltI_ok ra rb h
         first
          | exact op_le pins s σ H x y v u Q I rx ry ⟨i, j, e1, e2, upB_here h rs⟩
          | exact op_gt pins s σ H x y v u Q I rx ry ⟨i, j, e1, e2, upB_here h rs⟩
          | exact op_ge pins s σ H x y v u Q I rx ry ⟨i, j, e1, e2, upB_here h rs⟩)
      | (obtain ⟨h1, h⟩ := h
         have hy : y = .non := by
           rw [rb.nonB] at h1
           exact of_decide_eq_true h1
         rw [ra.nonB] at h
         first
          | exact op_isN pins s σ H x y v u Q I rx ry ⟨hy, upB_here h rs⟩
          | exact op_notN pins s σ H x y v u Q I rx ry ⟨hy, upB_here h rs⟩)
      | (unfold tupLt at h
         split at h
         · obtain ⟨ns, ms, rfl, rfl, h⟩ := h
           obtain ⟨p, vs, rfl, t1, z1⟩ := ra
           obtain ⟨q, us, rfl, t2, z2⟩ := rb
           have e1 := z1.ints
           have e2 := z2.ints
           subst e1 e2
           exact op_ltT (by omega) pins s σ H _ _ v u Q I rx ry ⟨p, q, ns, ms, rfl, rfl, t1.sq, t2.sq, upB_here h rs⟩
         · exact op_lt pins s σ H x y v u Q I rx ry ⟨_, _, ra, rb, upB_here h rs⟩
         · exact op_lt_str pins s σ H x y v u Q I rx ry ⟨_, _, ra, rb, upB_here h rs⟩
         · exact h.elim)
end
end BW
set_option Elab.async false
set_option linter.all false
set_option maxRecDepth 100000
set_option maxHeartbeats 4000000
namespace BW
open PySem PySem.Spec PyProof.Rows L2
section
variable {X : Cx} {G : Gn}
theorem tru_of {K : PySem.W.Frag} {H : Hp} {S : Store} {a : Val} {x : V} {P : Bool → Prop} (s : RS K G H S) (ra : RV K H a x) (h : tru a S P) : ∃ k, TruV K x H k ∧ P k := by
  unfold tru at h
  split at h
  · cases ra; exact ⟨_, rfl, h⟩
  · cases ra; exact ⟨_, rfl, h⟩
  · cases ra; exact ⟨_, rfl, h⟩
  · cases ra; exact ⟨_, ⟨by rw [← LIM_eq]; exact h.1, rfl⟩, h.2⟩
  · obtain ⟨p, vs, rfl, t, z⟩ := ra
    refine ⟨_, .inr (.inl ⟨vs, t.sq, rfl⟩), ?_⟩
    have e := z.length
    rename_i l
    have q : (!vs.isEmpty) = (!l.isEmpty) := by
      cases vs <;> cases l <;> first | rfl | (simp at e)
    rw [q]; exact h
  · rw [getL_iff] at h
    obtain ⟨l, hl, h⟩ := h
    obtain ⟨p, vs, rfl, t, z⟩ := ra.list s hl
    refine ⟨_, .inl ⟨vs, t, rfl⟩, ?_⟩
    have e := z.length
    have q : (!vs.isEmpty) = (!l.isEmpty) := by
      cases vs <;> cases l <;> first | rfl | (simp at e)
    rw [q]; exact h
theorem lix : IxR X (lift2 X.K G opIx) := by
  intro value slice pins s σ H x y v u Q I rx ry h hs
  obtain ⟨a, b, S, ra, rb, rs, h⟩ := h
  unfold opIx at h
  split at h
  · obtain ⟨w, e, h⟩ := h
    obtain ⟨p, vs, rfl, t, z⟩ := ra
    obtain ⟨z1, e1, r1⟩ := z.atI e
    exact ix_tup value slice pins s σ H _ _ v u Q I rx ry ⟨p, vs, _, z1, rfl, rb, t.sq, e1, up_here h rs r1⟩ hs
  · obtain ⟨z, c, e, h⟩ := h
    exact ix_str value slice pins s σ H _ _ v u Q I rx ry ⟨_, _, c, ra, rb, by rw [← LIM_eq]; exact z, e, up_here h rs rfl⟩ hs
  · rw [getL_iff] at h
    obtain ⟨l, hl, w, e, h⟩ := h
    obtain ⟨p, vs, rfl, t, z⟩ := ra.list rs hl
    obtain ⟨z1, e1, r1⟩ := z.atI e
    exact ix_list value slice pins s σ H _ _ v u Q I rx ry ⟨p, vs, _, z1, rfl, rb, t, e1, up_here h rs r1⟩ hs
  · exact h.elim
def liftSl (K : PySem.W.Frag) (G : Gn) : V → Option Int → Option Int → Hp → VK → Prop := fun x lo hi H Q => ∃ a S, RV K H a x ∧ RS K G H S ∧ opSl a lo hi S (up K G H Q)
theorem lsl : SlR X (liftSl X.K G) := by
  intro pins s σ H x v vl vu lo hi sl Q I rx hs pl pu h
  obtain ⟨a, S, ra, rs, h⟩ := h
  unfold opSl at h
  rw [getL_iff] at h
  obtain ⟨l, hl, h⟩ := h
  obtain ⟨p, vs, rfl, t, z⟩ := ra.list rs hl
  exact sl_list pins s σ H _ v vl vu lo hi sl Q I rx hs pl pu ⟨p, vs, rfl, t, fun q hq => up_new (h q (rs.free hq)) rs hq (.lst hq z.cut)⟩
def Bi.val : Bi → Value
  | .abs => .builtin "abs" | .len => .builtin "len" | .max2 => .builtin "max" | .min2 => .builtin "min" | .int => .type "int" | .sorted => .builtin "sorted" | .tuple => .type "tuple" | .list => .type "list"
  | .str => .type "str" | .sum => .builtin "sum" | .max1 => .builtin "max" | .min1 => .builtin "min" | .any => .builtin "any" | .all => .builtin "all" | .divmod => .builtin "divmod"
def Bi.nm : Bi → Str
  | .abs => "abs" | .len => "len" | .max2 => "max" | .min2 => "min" | .int => "int" | .sorted => "sorted" | .tuple => "tuple" | .list => "list"
  | .str => "str" | .sum => "sum" | .max1 => "max" | .min1 => "min" | .any => "any" | .all => "all" | .divmod => "divmod"
def Bi.hot : Bi → Bool
  | .int => true | .abs => true | .len => true
  | _ => false
def liftA (K : PySem.W.Frag) (G : Gn) (f : List Val → Store → QV → Prop) : List V → Hp → VK → Prop := fun vs H Q => ∃ as S, RVs K H as vs ∧ RS K G H S ∧ f as S (up K G H Q)
theorem RVs.one {K : PySem.W.Frag} {H : Hp} {a : Val} {vs : List V} (h : RVs K H [a] vs) : ∃ v, vs = [v] ∧ RV K H a v := by
  obtain ⟨v, r, rfl, q, z⟩ := h
  cases z
  exact ⟨v, rfl, q⟩
theorem RVs.two {K : PySem.W.Frag} {H : Hp} {a b : Val} {vs : List V} (h : RVs K H [a, b] vs) : ∃ v u, vs = [v, u] ∧ RV K H a v ∧ RV K H b u := by
  obtain ⟨v, r, rfl, q, z⟩ := h
  obtain ⟨u, rfl, q2⟩ := z.one
  exact ⟨v, u, rfl, q, q2⟩
theorem RVs.three {K : PySem.W.Frag} {H : Hp} {a b c : Val} {vs : List V} (h : RVs K H [a, b, c] vs) : ∃ v u w, vs = [v, u, w] ∧ RV K H a v ∧ RV K H b u ∧ RV K H c w := by
  obtain ⟨v, r, rfl, q, z⟩ := h
  obtain ⟨u, w, rfl, q2, q3⟩ := z.two
  exact ⟨v, u, w, rfl, q, q2, q3⟩
theorem call_divmodX : CallR X (.builtin "divmod") (fun xs H Q => ∃ i j, xs = [.int i, .int j] ∧ DivOk i j ∧ ∀ p, H p = none → Q (.ref p) (upd H p (.tup [.int (i.fdiv j), .int (i.fmod j)]))) := by
  intro pins s σ H xs us Q I r h
  obtain ⟨i, j, rfl, ⟨h1, h2⟩, q⟩ := h
  obtain ⟨u, w', rfl, ⟨t, rfl⟩, ⟨t', rfl⟩⟩ := vals2 r
  refine divmod_int (by omega) ?_ (.inl (PyProof.noPylong_of_log2 h2))
  have hn : H s.heap.objs.size = none := I.hok.fresh (Nat.le_refl _)
  refine ⟨.ref s.heap.objs.size, _, ?_, rfl, q _ hn⟩
  refine I.laid (fun b o e => Heap.get?_push_of_some _ e) (Nat.le_refl _) ⟨by simp only [List.length_cons, List.length_nil]; rw [sizeLine_eq]; decide, [.int (i.fdiv j) s.toks, .int (i.fmod j) (s.toks + 1)], .cons ⟨_, rfl⟩ (.cons ⟨_, rfl⟩ .nil), ?_⟩
  exact ⟨_, Heap.get?_push_size s.heap rfl, rfl, 0, rfl⟩
theorem ints_of {K : PySem.W.Frag} {H : Hp} {S : Store} {a : Val} {x : V} {P : List Int → Prop} (s : RS K G H S) (ra : RV K H a x) (h : getL S a fun l => intsOf l P) : ∃ p ns, x = .ref p ∧ SqL K H p (ns.map V.int) ∧ P ns := by
  rw [getL_iff] at h
  obtain ⟨l, hl, ns, rfl, h⟩ := h
  obtain ⟨p, vs, rfl, t, z⟩ := ra.list s hl
  have e := z.ints
  subst e
  exact ⟨p, ns, rfl, t, h⟩
theorem lbi (b : Bi) (hc : b.hot = true ∨ X.calm = true) : CallR X b.val (liftA X.K G (opBi b)) := by
  intro pins s σ H xs us Q I r h
  obtain ⟨as, S, ra, rs, h⟩ := h
  have hc' : b.hot = false → X.calm = true := fun e => hc.resolve_left (by rw [e]; exact Bool.false_ne_true)
  fun_cases opBi b as S (up X.K G H Q) <;> simp only [opBi] at h
  -- abs
  · obtain ⟨x, rfl, r1⟩ := ra.one
    cases r1
    exact call_abs pins s σ H _ us Q I r ⟨_, rfl, up_here h rs rfl⟩
  -- len
  · obtain ⟨x, rfl, r1⟩ := ra.one
    obtain ⟨p, vs, rfl, t, z⟩ := r1
    exact call_len pins s σ H _ us Q I r ⟨_, _, rfl, .inr ⟨vs, t.sq, rfl⟩, by rw [← z.length]; exact up_here h rs rfl⟩
  · obtain ⟨x, rfl, r1⟩ := ra.one
    cases r1
    exact call_len pins s σ H _ us Q I r ⟨_, _, rfl, ⟨by rw [← LIM_eq]; exact h.1, rfl⟩, up_here h.2 rs rfl⟩
  · obtain ⟨x, rfl, r1⟩ := ra.one
    rw [getL_iff] at h
    obtain ⟨l, hl, h⟩ := h
    obtain ⟨p, vs, rfl, t, z⟩ := r1.list rs hl
    exact call_len pins s σ H _ us Q I r ⟨_, _, rfl, .inl ⟨vs, t, rfl⟩, by rw [← z.length]; exact up_here h rs rfl⟩
  -- max2, min2
  · obtain ⟨x, y, rfl, r1, r2⟩ := ra.two
    cases r1; cases r2
    exact call_max2 (hc' rfl) pins s σ H _ us Q I r ⟨_, _, rfl, up_here h rs rfl⟩
  · obtain ⟨x, y, rfl, r1, r2⟩ := ra.two
    cases r1; cases r2
    exact call_min2 (hc' rfl) pins s σ H _ us Q I r ⟨_, _, rfl, up_here h rs rfl⟩
  -- int
  · obtain ⟨x, rfl, r1⟩ := ra.one
    cases r1
    exact call_int1 pins s σ H _ us Q I r (.inl ⟨_, rfl, up_here h rs rfl⟩)
  · obtain ⟨x, rfl, r1⟩ := ra.one
    cases r1
    exact call_int1 pins s σ H _ us Q I r (.inr ⟨_, rfl, up_here h rs rfl⟩)
  -- sorted
  · obtain ⟨x, rfl, r1⟩ := ra.one
    obtain ⟨p, ns, rfl, t, h⟩ := ints_of rs r1 h
    exact cr_sortedI pins s σ H _ us Q I r ⟨p, ns, rfl, t, fun ns' q h1 h2 hq => up_new (h ns' q h1 h2 (rs.free hq)) rs hq (.lst hq .ofInts)⟩
  -- tuple
  · obtain ⟨x, rfl, r1⟩ := ra.one
    have r1' := r1
    obtain ⟨p, vs, rfl, t, z⟩ := r1
    exact call_tupleT pins s σ H _ us Q I r ⟨p, vs, rfl, t.sq, up_here h rs r1'⟩
  · obtain ⟨x, rfl, r1⟩ := ra.one
    rw [getL_iff] at h
    obtain ⟨l, hl, h⟩ := h
    obtain ⟨p, vs, rfl, t, z⟩ := r1.list rs hl
    exact call_tuple_of pins s σ H _ us Q I r ⟨p, vs, rfl, .inl ⟨t, fun q hq => h _ _ (.new hq) (rs.new hq) ⟨q, vs, rfl, .inl upd_same, z.mono (.new hq)⟩⟩⟩
  -- list
  · obtain ⟨x, rfl, r1⟩ := ra.one
    obtain ⟨p, vs, rfl, t, z⟩ := r1
    exact call_list_of pins s σ H _ us Q I r ⟨p, vs, rfl, .inr t.sq, fun q hq => up_new (h q (rs.free hq)) rs hq (.lst hq z)⟩
  · obtain ⟨x, rfl, r1⟩ := ra.one
    rw [getL_iff] at h
    obtain ⟨l, hl, h⟩ := h
    obtain ⟨p, vs, rfl, t, z⟩ := r1.list rs hl
    exact call_list_of pins s σ H _ us Q I r ⟨p, vs, rfl, .inl t, fun q hq => up_new (h q (rs.free hq)) rs hq (.lst hq z)⟩
  -- str
  · obtain ⟨x, rfl, r1⟩ := ra.one
    cases r1
    exact call_str_int pins s σ H _ us Q I r ⟨_, rfl, h.1, up_here h.2 rs rfl⟩
  -- sum
  · obtain ⟨x, rfl, r1⟩ := ra.one
    obtain ⟨p, ns, rfl, t, h⟩ := ints_of rs r1 h
    exact cr_sum (hc' rfl) pins s σ H _ us Q I r ⟨p, ns, rfl, t, up_here h rs rfl⟩
  -- any, all
  · obtain ⟨x, rfl, r1⟩ := ra.one
    rw [getL_iff] at h
    obtain ⟨l, hl, bs, rfl, h⟩ := h
    obtain ⟨p, vs, rfl, t, z⟩ := r1.list rs hl
    have e := z.bls
    subst e
    exact cr_any (hc' rfl) pins s σ H _ us Q I r ⟨p, bs, rfl, t, up_here h rs rfl⟩
  · obtain ⟨x, rfl, r1⟩ := ra.one
    rw [getL_iff] at h
    obtain ⟨l, hl, bs, rfl, h⟩ := h
    obtain ⟨p, vs, rfl, t, z⟩ := r1.list rs hl
    have e := z.bls
    subst e
    exact cr_all (hc' rfl) pins s σ H _ us Q I r ⟨p, bs, rfl, t, up_here h rs rfl⟩
  -- max1, min1
  · obtain ⟨x, rfl, r1⟩ := ra.one
    obtain ⟨p, ns, rfl, t, h⟩ := ints_of rs r1 h
    exact cr_max (hc' rfl) pins s σ H _ us Q I r ⟨p, ns, rfl, t, h.1, fun m h1 h2 => up_here (h.2 m h1 h2) rs rfl⟩
  · obtain ⟨x, rfl, r1⟩ := ra.one
    obtain ⟨p, ns, rfl, t, h⟩ := ints_of rs r1 h
    exact cr_min (hc' rfl) pins s σ H _ us Q I r ⟨p, ns, rfl, t, h.1, fun m h1 h2 => up_here (h.2 m h1 h2) rs rfl⟩
  -- divmod
  · obtain ⟨x, y, rfl, r1, r2⟩ := ra.two
    cases r1; cases r2
    exact call_divmodX pins s σ H _ us Q I r ⟨_, _, rfl, h.1, fun p hp => h.2 _ _ (.new hp) (rs.new hp) ⟨p, _, rfl, .inl upd_same, ⟨_, _, rfl, rfl, _, _, rfl, rfl, rfl⟩⟩⟩
def Ty.ty : Ty → String
  | .bool => "bool" | .int => "int" | .tuple => "tuple" | .list => "list" | .str => "str"
theorem tyIs_of {K : PySem.W.Frag} {H : Hp} {S : Store} {a : Val} {x : V} {P : Bool → Prop} {t : Ty} (s : RS K G H S) (ra : RV K H a x) (h : tyIs t a S P) : ∃ (n : Value) (b : Bool), TyX K H x n ∧ PySem.W.kitOne K n (.type t.ty) = some b ∧ P b := by
  have kt : ∀ (n : String) (b : Bool), kitB n t.ty = some b → PySem.W.kitOne K (.type n) (.type t.ty) = some b := fun n b e => kit_ty e
  cases a with
  | non => simp only [tyIs] at h; cases ra; exact ⟨_, _, .base .non, kt _ false (by cases t <;> decide +kernel), h⟩
  | bl b => simp only [tyIs] at h; cases ra; exact ⟨_, _, .base (.bl _), kt _ (t == .bool || t == .int) (by cases t <;> decide +kernel), h⟩
  | int i => simp only [tyIs] at h; cases ra; exact ⟨_, _, .base (.int _), kt _ (t == .int) (by cases t <;> decide +kernel), h⟩
  | str i => simp only [tyIs] at h; cases ra; exact ⟨_, _, .base (.str _), kt _ (t == .str) (by cases t <;> decide +kernel), h⟩
  | tup l =>
    simp only [tyIs] at h
    obtain ⟨p, vs, rfl, z, _⟩ := ra
    rcases z with z | ⟨o, its, n, z, c, _⟩
    · exact ⟨_, _, .base (.tup z), kt _ (t == .tuple) (by cases t <;> decide +kernel), h⟩
    · exact ⟨_, _, .kTuple z c, kt _ (t == .tuple) (by cases t <;> decide +kernel), h⟩
  | sl l =>
    simp only [tyIs] at h
    obtain ⟨p, vs, rfl, z, _⟩ := ra
    rcases z with ⟨o, z⟩ | ⟨o, its, n, z, c, _⟩
    · exact ⟨_, _, .base (.frz z), kt _ (t == .list) (by cases t <;> decide +kernel), h⟩
    · exact ⟨_, _, .kList z c, kt _ (t == .list) (by cases t <;> decide +kernel), h⟩
  | ref a =>
    simp only [tyIs] at h
    split at h
    · rename_i e
      obtain ⟨vs, z, _⟩ := s _ _ e
      cases ra
      exact ⟨_, _, .base (.lst z), kt _ (t == .list) (by cases t <;> decide +kernel), h⟩
    · exact h.elim
end
end BW
set_option Elab.async false
set_option linter.all false
set_option maxRecDepth 100000
set_option maxHeartbeats 4000000
namespace BW
open PySem PySem.Spec PyProof.Rows L2
/-! ### what is walked -/
structure Wk (K : PySem.W.Frag) (G : Gn) (Gd : Store → Prop) (items : List Val) (J : It) (H0 : Hp) : Prop where
  go : ∀ H S (i : Nat), TM H0 H → RS K G H S → Gd S → i < items.length → J.go i H
  stop : ∀ H S, TM H0 H → RS K G H S → Gd S → J.stop items.length H
  yld : ∀ H S (i : Nat) x H' v, TM H0 H → RS K G H S → Gd S → J.yld i H x H' → items[i]? = some v → TM H H' ∧ RS K G H' S ∧ RV K H' v x
theorem _root_.L2.PI.imp {X : Cx} {tg it : Expr} {wi wi' : TI} (h : PI X tg it wi) (k : ∀ σ H R, wi' σ H R → wi σ H R) : PI X tg it wi' := ⟨fun pins s σ H R I q => h.run pins s σ H R I (k _ _ _ q)⟩
theorem _root_.L2.PE.imp {X : Cx} {e : Expr} {t t' : TE} (h : PE X e t) (k : ∀ σ H Q, t' σ H Q → t σ H Q) : PE X e t' := ⟨fun pins s σ H Q I q => h.run pins s σ H Q I (k _ _ _ q)⟩
theorem _root_.L2.PT.imp {X : Cx} {e : Expr} {t t' : TT} (h : PT X e t) (k : ∀ σ H Q, t' σ H Q → t σ H Q) : PT X e t' := ⟨fun pins s σ H Q I q => h.run pins s σ H Q I (k _ _ _ q)⟩
theorem _root_.L2.PA.imp {X : Cx} {e : List Expr} {t t' : TA} (h : PA X e t) (k : ∀ σ H Q, t' σ H Q → t σ H Q) : PA X e t' := ⟨fun pos pins s σ H Q I q => h.run pos pins s σ H Q I (k _ _ _ q)⟩
theorem _root_.L2.PS.imp {X : Cx} {e : Stmt} {t t' : TS} (h : PS X e t) (k : ∀ D σ H, t' D σ H → t D σ H) : PS X e t' := ⟨fun pins s σ H D I q => h.run pins s σ H D I (k _ _ _ q)⟩
theorem _root_.L2.PSs.imp {X : Cx} {e : List Stmt} {t t' : TS} (h : PSs X e t) (k : ∀ D σ H, t' D σ H → t D σ H) : PSs X e t' := ⟨fun pins s σ H D I q => h.run pins s σ H D I (k _ _ _ q)⟩
section
variable {K : PySem.W.Frag} {G : Gn} {H0 : Hp}
theorem lstAt_sq {S : Store} {H : Hp} {x : Val} {v : V} {l : List Val} (r : RV K H0 x v) (t : TM H0 H) (s : RS K G H S) (h : LstAt S x l) : ∃ a vs, v = .ref a ∧ SqL K H a vs ∧ RVs K H l vs := (r.mono t).list s h
theorem wk_list {x : Val} {a : Addr} {l : List Val} (r : RV K H0 x (.ref a)) : Wk K G (fun S => LstAt S x l) l (Itl K a) H0 where
  go := fun H S i t s g hi => by
    obtain ⟨b, vs, e, q, z⟩ := lstAt_sq r t s g
    cases e
    obtain ⟨u, h1, _⟩ := z.get (List.getElem?_eq_getElem hi)
    exact ⟨vs, u, q, h1⟩
  stop := fun H S t s g => by
    obtain ⟨b, vs, e, q, z⟩ := lstAt_sq r t s g
    cases e
    exact ⟨vs, q, by rw [z.length]; exact Nat.le_refl _⟩
  yld := fun H S i y H' v t s g h hv => by
    obtain ⟨b, vs, e, q, z⟩ := lstAt_sq r t s g
    cases e
    obtain ⟨rfl, h⟩ := h
    obtain ⟨u, h1, h2⟩ := z.get hv
    have e2 := h vs q
    rw [h1] at e2
    cases e2
    exact ⟨.refl, s, h2⟩
theorem wk_tup {l : List Val} {a : Addr} {vs : List V} (q0 : TupAt K H0 a vs) (z0 : RVs K H0 l vs) : Wk K G (fun _ => True) l (Itt K a) H0 where
  go := fun H S i t s g hi => by
    obtain ⟨u, h1, _⟩ := (z0.mono t).get (List.getElem?_eq_getElem hi)
    exact ⟨vs, u, (q0.mono t).sq, h1⟩
  stop := fun H S t s g => ⟨vs, (q0.mono t).sq, by rw [z0.length]; exact Nat.le_refl _⟩
  yld := fun H S i y H' v t s g h hv => by
    obtain ⟨rfl, h⟩ := h
    obtain ⟨u, h1, h2⟩ := (z0.mono t).get hv
    have e2 := h vs (q0.mono t).sq
    rw [h1] at e2
    cases e2
    exact ⟨.refl, s, h2⟩
theorem wk_range {lo : Int} {n : Nat} : Wk K G (fun _ => True) ((List.range n).map fun k => .int (lo + (k : Nat))) (Itr lo n) H0 where
  go := fun H S i t s g hi => by
    have : i < n := by simpa using hi
    exact this
  stop := fun H S t s g => by
    have : n ≤ ((List.range n).map fun k => Val.int (lo + (k : Nat))).length := by simp
    exact this
  yld := fun H S i y H' v t s g h hv => by
    obtain ⟨rfl, rfl⟩ := h
    rw [List.getElem?_map] at hv
    cases e : (List.range n)[i]? with
    | none => rw [e] at hv; cases hv
    | some k =>
      rw [e] at hv
      obtain ⟨h1, h2⟩ := List.getElem?_eq_some_iff.mp e
      rw [List.getElem_range] at h2
      subst h2
      cases hv
      exact ⟨.refl, s, rfl⟩
theorem wk_rangeC {lo c : Int} {n : Nat} : Wk K G (fun _ => True) ((List.range n).map fun k => .int (lo + (k : Nat) * c)) (Itc lo c n) H0 where
  go := fun H S i t s g hi => by
    have : i < n := by simpa using hi
    exact this
  stop := fun H S t s g => by
    have : n ≤ ((List.range n).map fun k => Val.int (lo + (k : Nat) * c)).length := by simp
    exact this
  yld := fun H S i y H' v t s g h hv => by
    obtain ⟨rfl, rfl⟩ := h
    rw [List.getElem?_map] at hv
    cases e : (List.range n)[i]? with
    | none => rw [e] at hv; cases hv
    | some k =>
      rw [e] at hv
      obtain ⟨h1, h2⟩ := List.getElem?_eq_some_iff.mp e
      rw [List.getElem_range] at h2
      subst h2
      cases hv
      exact ⟨.refl, s, rfl⟩
theorem wk_enum {x : Val} {a : Addr} {l : List Val} (r : RV K H0 x (.ref a)) : Wk K G (fun S => LstAt S x l) (l.zipIdx.map fun p => .tup [.int (p.2 : Nat), p.1]) (Ite K a) H0 where
  go := fun H S i t s g hi => by
    obtain ⟨b, vs, e, q, z⟩ := lstAt_sq r t s g
    cases e
    have hi' : i < l.length := by simpa using hi
    obtain ⟨u, h1, _⟩ := z.get (List.getElem?_eq_getElem hi')
    exact ⟨vs, u, q, h1⟩
  stop := fun H S t s g => by
    obtain ⟨b, vs, e, q, z⟩ := lstAt_sq r t s g
    cases e
    exact ⟨vs, q, by rw [← z.length]; simp⟩
  yld := fun H S i y H' v t s g h hv => by
    obtain ⟨b, vs, e, q, z⟩ := lstAt_sq r t s g
    cases e
    obtain ⟨T, u, rfl, hT, rfl, h⟩ := h
    rw [List.getElem?_map, List.getElem?_zipIdx] at hv
    cases e : l[i]? with
    | none => rw [e] at hv; cases hv
    | some w =>
      rw [e] at hv
      have hv' : some (Val.tup [.int ((0 + i : Nat)), w]) = some v := hv
      cases hv'
      obtain ⟨u', h1, h2⟩ := z.get e
      have e2 := h vs q
      rw [h1] at e2
      cases e2
      refine ⟨.new hT, s.new hT, ⟨T, _, rfl, .inl upd_same, ⟨_, _, rfl, ?_, _, _, rfl, h2.mono (.new hT), rfl⟩⟩⟩
      show V.int _ = V.int _
      rw [Nat.zero_add]
theorem wk_zip {x y : Val} {a b : Addr} {l m : List Val} (r : RV K H0 x (.ref a)) (r2 : RV K H0 y (.ref b)) : Wk K G (fun S => LstAt S x l ∧ LstAt S y m) ((l.zip m).map fun p => .tup [p.1, p.2]) (Itz K a b) H0 where
  go := fun H S i t s g hi => by
    obtain ⟨b, vs, e, q, z⟩ := lstAt_sq r t s g.1
    cases e
    obtain ⟨b, us, e, q2, z2⟩ := lstAt_sq r2 t s g.2
    cases e
    have hi' : i < l.length ∧ i < m.length := by
      rw [List.length_map, List.length_zip] at hi
      omega
    obtain ⟨u, h1, _⟩ := z.get (List.getElem?_eq_getElem hi'.1)
    obtain ⟨w, h2, _⟩ := z2.get (List.getElem?_eq_getElem hi'.2)
    exact ⟨vs, us, u, w, q, q2, h1, h2⟩
  stop := fun H S t s g => by
    obtain ⟨b, vs, e, q, z⟩ := lstAt_sq r t s g.1
    cases e
    obtain ⟨b, us, e, q2, z2⟩ := lstAt_sq r2 t s g.2
    cases e
    refine ⟨vs, us, q, q2, ?_⟩
    rw [← z.length, ← z2.length, List.length_map, List.length_zip]
    omega
  yld := fun H S i w H' v t s g h hv => by
    obtain ⟨b, vs, e, q, z⟩ := lstAt_sq r t s g.1
    cases e
    obtain ⟨b, us, e, q2, z2⟩ := lstAt_sq r2 t s g.2
    cases e
    obtain ⟨T, u, u2, rfl, hT, rfl, h, h'⟩ := h
    rw [List.getElem?_map] at hv
    cases e : (l.zip m)[i]? with
    | none => rw [e] at hv; cases hv
    | some p =>
      rw [e] at hv
      have hv' : some (Val.tup [p.1, p.2]) = some v := hv
      cases hv'
      rw [List.getElem?_zip_eq_some] at e
      obtain ⟨w1, h1, h2⟩ := z.get e.1
      obtain ⟨w2, h3, h4⟩ := z2.get e.2
      have e2 := h vs q
      rw [h1] at e2
      cases e2
      have e3 := h' us q2
      rw [h3] at e3
      cases e3
      exact ⟨.new hT, s.new hT, ⟨T, _, rfl, .inl upd_same, ⟨_, _, rfl, h2.mono (.new hT), _, _, rfl, h4.mono (.new hT), rfl⟩⟩⟩
theorem wk_rev {x : Val} {a : Addr} {l : List Val} (r : RV K H0 x (.ref a)) : Wk K G (fun S => LstAt S x l) l.reverse (Itv K a l.length) H0 where
  go := fun H S i t s g hi => by
    obtain ⟨b, vs, e, q, z⟩ := lstAt_sq r t s g
    cases e
    have hi' : i < l.length := by simpa using hi
    obtain ⟨u, h1, _⟩ := z.get (List.getElem?_eq_getElem (show l.length - 1 - i < l.length by omega))
    exact ⟨hi', vs, u, q, h1⟩
  stop := fun H S t s g => by
    show l.length ≤ l.reverse.length
    simp
  yld := fun H S i y H' v t s g h hv => by
    obtain ⟨b, vs, e, q, z⟩ := lstAt_sq r t s g
    cases e
    obtain ⟨rfl, h⟩ := h
    have hl : i < l.length := by
      have := (List.getElem?_eq_some_iff.mp hv).1
      simpa using this
    rw [List.getElem?_reverse hl] at hv
    obtain ⟨u, h1, h2⟩ := z.get hv
    have e2 := h vs q
    rw [h1] at e2
    cases e2
    exact ⟨.refl, s, h2⟩
end
section
variable {X : Cx} {tg : Expr}
/-- a list or a tuple, by its value -/
theorem pi_seq {l : Expr} {tl : TE} (hl : PE X l tl) : PI X tg l (fun σ H R => tl σ H fun x H1 => ∃ a, x = .ref a ∧ (((∃ xs, SqL X.K H1 a xs) ∧ R (Itl X.K a) H1) ∨ ((∃ xs, SqT X.K H1 a xs) ∧ R (Itt X.K a) H1))) := by
  refine ⟨fun pins s σ H R I h => ?_⟩
  refine thn (hl.run pins s σ H _ I h) fun v s1 ⟨x, H1, I1, r1, a, e, q⟩ => ?_
  subst e
  cases r1
  have kp : ∀ (ob : Obj) b o, s1.heap.get? b = some o → (s1.heap.push ob).get? b = some o := fun ob b o z => Heap.get?_push_of_some _ z
  have fr : ∀ b ∈ [s1.heap.objs.size], FpOk X pins H1 b := fun b hb => by
    rw [List.mem_singleton.mp hb]
    exact I1.fpOk (Nat.le_refl _) (I1.hok.fresh (Nat.le_refl _))
  rcases q with ⟨⟨xs, hq⟩, q⟩ | ⟨⟨xs, hq⟩, q⟩
  · obtain ⟨its, _, p, _⟩ := I1.list hq
    exact wpAny_pyIter_list p.isList ⟨_, [s1.heap.objs.size], _, _, H1, rfl, I1.kept (t' := s1.toks) (kp _), turn_list a _, ⟨_, Heap.get?_push_size _ rfl, rfl, rfl⟩, fr, q⟩
  · obtain ⟨its, _, p, _⟩ := I1.tuple hq
    exact wpAny_pyIter_tuple (show s1.heap.IsTuple a its.toArray from p) ⟨_, [s1.heap.objs.size], _, _, H1, rfl, I1.kept (t' := s1.toks) (kp _), turn_tuple a _, ⟨_, Heap.get?_push_size _ rfl, rfl, rfl⟩, fr, q⟩
end
end BW
set_option Elab.async false
set_option linter.all false
set_option maxRecDepth 100000
set_option maxHeartbeats 4000000
namespace BW
open PySem PySem.Spec PyProof.Rows L2
/-! ### from the text to the syntax -/
structure Cc where
  N : List Str
  sc : Scope
  fns : List ((Str × Nat) × (Nat × List Val))
  cst : List (Str × Val)
  st : List Str
  hot : Bool := false
def ixOf (x : Str) : List Str → Option Nat
  | [] => none
  | y :: r => if x = y then some 0 else (ixOf x r).map (· + 1)
theorem ixOf_ok {x : Str} : ∀ {l : List Str} {i : Nat}, ixOf x l = some i → l[i]? = some x
  | [], _, h => by cases h
  | y :: r, i, h => by
    unfold ixOf at h
    split at h
    · cases h; rename_i e; rw [e]; rfl
    · cases e : ixOf x r with
      | none => rw [e] at h; cases h
      | some j => rw [e] at h; cases h; exact (ixOf_ok (l := r) e)
def bopIn : Operator → Option Bop
  | .Add => some .add | .Sub => some .sub | .Mult => some .mul | .FloorDiv => some .fdiv | .Mod => some .mod | .Pow => some .pow
  | _ => none
theorem bopIn_ok {o : Operator} {b : Bop} (h : bopIn o = some b) : bopOf b = o := by
  cases o <;> first | (cases h; rfl) | cases h
def copIn : CmpOp → Cop
  | .Eq => .eq | .NotEq => .ne | .Lt => .lt | .LtE => .le | .Gt => .gt | .GtE => .ge | .Is => .is | .IsNot => .isnot | .In => .in_ | .NotIn => .notin
theorem copIn_ok (o : CmpOp) : copOf (copIn o) = o := by cases o <;> rfl
def constIn : Const → Option Val
  | .none => some .non
  | .bool b => some (.bl b)
  | .int i => some (.int i)
  | .str x => some (.str x)
  | _ => none
def biTab : List ((Str × Nat) × Bi) := [(("abs", 1), .abs), (("len", 1), .len), (("max", 2), .max2), (("min", 2), .min2), (("int", 1), .int), (("sorted", 1), .sorted), (("tuple", 1), .tuple), (("list", 1), .list), (("str", 1), .str), (("sum", 1), .sum), (("max", 1), .max1), (("min", 1), .min1), (("any", 1), .any), (("all", 1), .all), (("divmod", 2), .divmod)]
def tyTab : List (Str × Ty) := [("bool", .bool), ("int", .int), ("tuple", .tuple), ("list", .list), ("str", .str)]
def dbg : Str := "__debug__"
def okName (x : Str) : Bool := !(x == dbg) && !(x == ("__classdict__" : Str)) && !(x == ("__name__" : Str))
def isSlice : Expr → Bool
  | .Slice _ _ _ _ => true
  | _ => false
def cL (f : Expr → Option Ex) : List Expr → Option Ex
  | [] => some .nil
  | e :: es => match f e, cL f es with
    | some a, some as => some (.cons a as)
    | _, _ => none
def cO (f : Expr → Option Ex) : Option Expr → Option Ex
  | none => some .nil
  | some e => (f e).map fun a => .cons a .nil
def cB (f : Expr → Option Ex) (mk : Ex → Ex → Ex) : List Expr → Option Ex
  | [] => none
  | [e] => f e
  | e :: es => match f e, cB f mk es with
    | some a, some b => some (mk a b)
    | _, _ => none
def cName (C : Cc) (x : Str) : Option Ex := match okName x with
  | false => none
  | true => match C.sc.names.lookup x with
    | some .globalImplicit => (C.cst.lookup x).map .lit
    | some .local => (ixOf x C.N).map .var
    | some .cell => (ixOf x C.N).map .var
    | some .free => (ixOf x C.N).map .var
    | _ => none
def isGl (C : Cc) (x : Str) : Bool := okName x && decide (C.sc.names.lookup x = some .globalImplicit)
/-- isinstance(a, T) -/
def cIs (C : Cc) (f : Expr → Option Ex) : List Expr → Option Ex
  | [a, .Name t _] => match isGl C t && decide (C.fns.lookup (t, 1) = none), tyTab.lookup t, f a with
    | true, some ty, some x => some (.isty x ty)
    | _, _, _ => none
  | _ => none
def cCall (C : Cc) (f : Expr → Option Ex) (x : Str) (args : List Expr) : Option Ex := match isGl C x with
  | false => none
  | true => match x == ("isinstance" : Str) with
    | true => cIs C f args
    | false => match C.fns.lookup (x, args.length) with
      | some q => match C.hot, cL f args with
        | false, some as => some (.call q.1 as q.2)
        | _, _ => none
      | none => match biTab.lookup (x, args.length), cL f args with
        | some b, some as => match b.hot || !C.hot with
          | true => some (.blt b as)
          | false => none
        | _, _ => none
def cTn (C : Cc) (x : Str) : Option Nat := match C.sc.names.lookup x with
  | some .local => ixOf x C.N
  | some .cell => if C.st.contains x then ixOf x C.N else none
  | _ => none
def cTns (C : Cc) : List Expr → Option (List Nat)
  | [] => some []
  | .Name x _ :: r => match cTn C x, cTns C r with
    | some i, some is => some (i :: is)
    | _, _ => none
  | _ => none
def cTg (C : Cc) : Expr → Option Tg
  | .Name x _ => (cTn C x).map .nm
  | .Tuple es _ _ => match C.hot with
    | false => (cTns C es).map .tp
    | true => none
  | _ => none
def Tg.slots : Tg → List Nat
  | .nm i => [i]
  | .tp is => is
def isTup : Expr → Bool
  | .Tuple _ _ _ => true
  | _ => false
def isSet : Expr → Bool
  | .Set _ _ _ => true
  | _ => false
/-- what a loop walks -/
def cIt (C : Cc) (f : Expr → Option Ex) (tup : Bool) (e : Expr) : Option (ItK × Ex) := match e with
  | .Call (.Name x _) [a] [] _ => match isGl C x && decide (C.fns.lookup (x, 1) = none), f a with
    | true, some y => match x == ("range" : Str), x == ("enumerate" : Str), x == ("reversed" : Str) with
      | true, _, _ => some (.range, .cons y .nil)
      | false, true, _ => match tup with
        | true => some (.enum, .cons y .nil)
        | false => none
      | false, false, true => some (.rev, .cons y .nil)
      | false, false, false => (f e).map fun z => (.seq, .cons z .nil)
    | _, _ => (f e).map fun z => (.seq, .cons z .nil)
  | .Call (.Name x _) [a, b] [] _ => match isGl C x && decide (C.fns.lookup (x, 2) = none), f a, f b with
    | true, some y, some z => match x == ("range" : Str), x == ("zip" : Str) with
      | true, _ => some (.range, .cons y (.cons z .nil))
      | false, true => match tup with
        | true => some (.zip, .cons y (.cons z .nil))
        | false => none
      | false, false => (f e).map fun z => (.seq, .cons z .nil)
    | _, _, _ => (f e).map fun z => (.seq, .cons z .nil)
  | .Call (.Name x _) [a, b, c] [] _ => match isGl C x && decide (C.fns.lookup (x, 3) = none), f a, f b, f c with
    | true, some y, some z, some u => match x == ("range" : Str) with
      | true => some (.range, .cons y (.cons z (.cons u .nil)))
      | false => (f e).map fun z => (.seq, .cons z .nil)
    | _, _, _, _ => (f e).map fun z => (.seq, .cons z .nil)
  | _ => match isSet e with
    | true => none
    | false => (f e).map fun z => (.seq, .cons z .nil)
def ownOf (C : Cc) (scope : Scope) : List (Str × Nat) := scope.names.filterMap fun q => match q.2 with
  | .local => (ixOf q.1 C.N).map fun i => (q.1, i)
  | .cell => (ixOf q.1 C.N).map fun i => (q.1, i)
  | _ => none
def blkCc (C : Cc) (scope : Scope) : Cc := { C with sc := relS scope C.sc, st := (scope.names.filter fun q => q.2 == .cell).map (·.1) }
/-! ### plain forms -/
def plainE : Expr → Bool
  | .Starred _ _ => false
  | .Slice _ _ _ _ => false
  | .Set _ _ _ => false
  | _ => true
/-- what is not known here stands for a place that is never come to -/
def orDead (e : Expr) : Option Ex → Option Ex
  | some x => some x
  | none => match plainE e with
    | true => some .nil
    | false => none
theorem orDead_some {e : Expr} {o : Option Ex} {x : Ex} (h : orDead e o = some x) : o = some x ∨ (x = .nil ∧ plainE e = true) := by
  unfold orDead at h
  split at h
  · exact .inl h
  · split at h
    · cases h; exact .inr ⟨rfl, ‹_›⟩
    · cases h
def cE : Nat → Cc → Expr → Option Ex
  | 0, _, _ => none
  | n + 1, C, e => orDead e (match e with
    | .Name x _ => cName C x
    | .Constant c _ _ => (constIn c).map .lit
    | .BinOp a op b _ => match bopIn op, cE n C a, cE n C b with
      | some o, some x, some y => some (.bin o x y)
      | _, _, _ => none
    | .UnaryOp .USub a _ => (cE n C a).map .neg
    | .UnaryOp .Not a _ => (cE n C a).map .nott
    | .BoolOp .And (a :: b :: r) _ => cB (cE n C) .andd (a :: b :: r)
    | .BoolOp .Or (a :: b :: r) _ => cB (cE n C) .orr (a :: b :: r)
    | .Compare a [op] [b] _ => match cE n C a, cE n C b with
      | some x, some y => some (.cmp (copIn op) x y)
      | _, _ => none
    | .Compare a [op, op'] [b, c] _ => match cE n C a, cE n C b, cE n C c with
      | some x, some y, some z => some (.chain (copIn op) (copIn op') x y z)
      | _, _, _ => none
    | .IfExp t a b _ => match cE n C t, cE n C a, cE n C b with
      | some x, some y, some z => some (.ife x y z)
      | _, _, _ => none
    | .Call (.Name x _) (a :: as) [] _ => cCall C (cE n C) x (a :: as)
    | .Subscript a (.Slice lo hi none _) _ => match cE n C a, cO (cE n C) lo, cO (cE n C) hi with
      | some x, some l, some h => some (.slc x l h)
      | _, _, _ => none
    | .Subscript a i _ => match isSlice i, cE n C a, cE n C i with
      | false, some x, some y => some (.idx x y)
      | _, _, _ => none
    | .List es _ => match decide (es.length ≤ 1000), cL (cE n C) es with
      | true, some as => some (.lst as)
      | _, _ => none
    | .Tuple es _ _ => match decide (es.length ≤ 1000), cL (cE n C) es with
      | true, some as => some (.tup as)
      | _, _ => none
    | .ListComp elt [⟨tg, iter, ifs, 0⟩] scope _ => match C.hot || !blkC C.N C.sc scope (ownOf C scope) || isSet iter with
      | true => none
      | false => match cIt C (cE n C) (isTup tg) iter, cTg (blkCc C scope) tg, cE n (blkCc C scope) elt with
        | some (k, as), some g, some x => if (g.slots.all fun i => ((ownOf C scope).map (·.2)).contains i) = true then match ifs with
          | [] => some (.comp ((ownOf C scope).map (·.2)) g k as false .nil x)
          | [c] => (cE n (blkCc C scope) c).map fun y => .comp ((ownOf C scope).map (·.2)) g k as true y x
          | _ => none
          else none
        | _, _, _ => none
    | _ => none)
/-! ### the contracts in the layer's words -/
section
variable (K : PySem.W.Frag) (G : Gn) (T : Tb)
/-- what an exception carries -/
def RX (H : Hp) (cls : Value) (d : Option Addr) (x : Exn) : Prop := cls = .ref (G.ca x.c) ∧ ((x.fs = [] ∧ d = none) ∨ ∃ dd gs, d = some dd ∧ H dd = some (.xd gs) ∧ gs.map (·.1) = x.fs.map (fun p => G.nm p.1) ∧ RVs K H (x.fs.map (·.2)) (gs.map (·.2)))
def spOf (c : Spec) : Sp := fun vs H Q E => ∃ as S, RVs K H as vs ∧ RS K G H S ∧ (c as S).pre ∧ (∀ v S', (c as S).ret v S' → up K G H Q v S') ∧ ∀ x S', (c as S).exn x S' → ∀ cls d H', TM H H' → RS K G H' S' → RX K G H' cls d x → E cls d H'
abbrev EE := Exn → Ev → Store → Prop
def WX (E : EE) : L2.WX := fun cls d σ H => ∃ x env S, RX K G H cls d x ∧ RE K H env σ ∧ RS K G H S ∧ E x env S
def TE (e : Ex) (E : EE) : L2.TE := fun σ H Q => ∃ env S, RE K H env σ ∧ RS K G H S ∧ wE T e env S (up K G H Q) fun x S' => E x env S'
def TT (e : Ex) (E : EE) : L2.TT := fun σ H Q => ∃ env S, RE K H env σ ∧ RS K G H S ∧ wT T e env S (upB K G H Q) fun x S' => E x env S'
def upA (H : Hp) (Q : List V → Hp → Prop) : List Val → Store → Prop := fun vs S' => ∀ zs H', TM H H' → RS K G H' S' → RVs K H' vs zs → Q zs H'
def TA (e : Ex) (E : EE) : L2.TA := fun σ H Q => ∃ env S, RE K H env σ ∧ RS K G H S ∧ wA T e env S (upA K G H Q) fun x S' => E x env S'
def upO (H : Hp) (Q : Option Int → Hp → Prop) : Option Int → Store → Prop := fun o S' => ∀ H', TM H H' → RS K G H' S' → Q o H'
def TO (e : Ex) (E : EE) : L2.TO := fun σ H Q => ∃ env S, RE K H env σ ∧ RS K G H S ∧ wO T e env S (upO K G H Q) fun x S' => E x env S'
end
/-- the def x, called with n values: it keeps its contract -/
def FnIn (P : Program) (w : World) (K : PySem.W.Frag) (mg : Str → Option Value) (base : Heap) (G : Gn) (k : Nat) (x : Str) (c : Spec) (d : List Val) : Prop :=
  ∃ addr fd ps ds dV, FnOk P w K mg base (L2.CX P w) k addr fd ps (spOf K G c) ∧ mg x = some (.ref addr) ∧ PySem.W.keepIn K (.ref addr) = true ∧ Binds K fd ps ds ∧ Vals dV ds ∧ ∀ H, RVs K H d dV
theorem FnIn.mono {P : Program} {w : World} {K : PySem.W.Frag} {mg : Str → Option Value} {base : Heap} {G : Gn} {j k : Nat} {x : Str} {c : Spec} {d : List Val} (h : FnIn P w K mg base G j x c d) (l : j ≤ k) : FnIn P w K mg base G k x c d := by
  obtain ⟨addr, fd, ps, ds, dV, h1, h2⟩ := h
  exact ⟨addr, fd, ps, ds, dV, h1.mono l, h2⟩
def bltNames : List Str := biTab.map (·.1.1) ++ tyTab.map (·.1) ++ (["isinstance", "range", "enumerate", "zip", "reversed"] : List Str)
structure CtxOk (G : Gn) (T : Tb) (C : Cc) (X : Cx) : Prop where
  hN : X.N = C.N
  nd : C.N.Nodup
  sc : X.env.scope = C.sc
  calm : C.hot = false → X.calm = true
  room : C.hot = false → ∃ k, Room k X.A ∧ ∀ q ∈ C.fns, FnIn X.prog X.w X.K X.mg X.base G k q.1.1 (T.fn q.2.1) q.2.2
  un : X.A.units + 65 < cLine
  cst : ∀ q ∈ C.cst, ∃ u v, X.mg q.1 = some u ∧ RelV v u ∧ ∀ H, RV X.K H q.2 v
  blt : ∀ x ∈ bltNames, X.mg x = none
  st : ∀ x ∈ C.st, X.fn x = true
  kind : C.sc.kind = .function
section
variable {X : Cx} {G : Gn} {T : Tb} {C : Cc}
theorem up_tm {K : PySem.W.Frag} {H H' : Hp} {Q : VK} {v : Val} {S : Store} (t : TM H H') (h : up K G H Q v S) : up K G H' Q v S := fun z H2 t2 s r => h z H2 (t.trans t2) s r
theorem upB_tm {K : PySem.W.Frag} {H H' : Hp} {Q : Bool → Hp → Prop} {v : Bool} {S : Store} (t : TM H H') (h : upB K G H Q v S) : upB K G H' Q v S := fun H2 t2 s => h H2 (t.trans t2) s
theorem upA_tm {K : PySem.W.Frag} {H H' : Hp} {Q : List V → Hp → Prop} {v : List Val} {S : Store} (t : TM H H') (h : upA K G H Q v S) : upA K G H' Q v S := fun z H2 t2 s r => h z H2 (t.trans t2) s r
theorem idE {E E' : Exn → Store → Prop} (h : E = E') : ∀ x S, E x S → E' x S := fun _ _ z => h ▸ z
theorem RX.tm {K : PySem.W.Frag} {H H' : Hp} {cls : Value} {d : Option Addr} {x : Exn} (h : RX K G H cls d x) (e : H = H') : RX K G H' cls d x := e ▸ h
/-- truth and value -/
def TVal (S : Store) : Val → Bool → Prop
  | .non, b => b = false
  | .bl c, b => b = c
  | .int i, b => b = (i != 0)
  | .str x, b => x.length ≤ LIM ∧ b = ((x.length : Int) != 0)
  | .tup l, b => b = !l.isEmpty
  | .ref a, b => ∃ l, S a = some (.lst l) ∧ b = !l.isEmpty
  | .sl l, b => b = !l.isEmpty
theorem tru_iff {x : Val} {S : Store} {P : Bool → Prop} : tru x S P ↔ ∃ b, TVal S x b ∧ P b := by
  cases x with
  | str z => exact ⟨fun h => ⟨_, ⟨h.1, rfl⟩, h.2⟩, fun ⟨b, e, h⟩ => ⟨e.1, e.2 ▸ h⟩⟩
  | ref a =>
    simp only [tru, getL_iff]
    constructor
    · rintro ⟨l, ⟨c, e, hl⟩ | e, h⟩
      · cases e; exact ⟨_, ⟨l, hl, rfl⟩, h⟩
      · cases e
    · rintro ⟨b, ⟨l, hl, rfl⟩, h⟩
      exact ⟨l, .inl ⟨a, rfl, hl⟩, h⟩
  | _ => exact ⟨fun h => ⟨_, rfl, h⟩, fun ⟨b, e, h⟩ => by cases e; exact h⟩
theorem tru_twice {x : Val} {S : Store} {A B : Prop} {Q : Bool → Prop} (h : tru x S fun t => if t = true then A else Q false) (k : A → B) : tru x S fun t => if t = true then B else tru x S fun t' => Q t' := by
  rw [tru_iff] at h ⊢
  obtain ⟨b, e, h⟩ := h
  refine ⟨b, e, ?_⟩
  cases b with
  | true => exact k h
  | false =>
    rw [if_neg Bool.false_ne_true, tru_iff]
    exact ⟨_, e, h⟩
theorem tru_twice' {x : Val} {S : Store} {A B : Prop} {Q : Bool → Prop} (h : tru x S fun t => if t = true then Q true else A) (k : A → B) : tru x S fun t => if t = true then (tru x S fun t' => Q t') else B := by
  rw [tru_iff] at h ⊢
  obtain ⟨b, e, h⟩ := h
  refine ⟨b, e, ?_⟩
  cases b with
  | false => exact k h
  | true =>
    rw [if_pos rfl, tru_iff]
    exact ⟨_, e, h⟩
theorem wT_wE : ∀ (e : Ex) {env : Ev} {S : Store} {Q : Bool → Store → Prop} {E : Exn → Store → Prop}, wT T e env S Q E → wE T e env S (fun v S' => tru v S' fun t => Q t S') E
  | .var i, _, _, _, _, h => h
  | .lit v, _, _, _, _, h => h
  | .bin o a b, _, _, _, _, h => h
  | .neg a, _, _, _, _, h => h.elim
  | .nott a, _, _, _, _, h => h
  | .cmp o a b, _, _, _, _, h => h
  | .chain o1 o2 a b c, _, _, _, _, h => h
  | .andd a b, _, _, _, _, h => by
    rw [wT_andd] at h
    rw [wE_andd]
    exact wE_mono a (fun _ _ h => tru_twice h (wT_wE b)) (fun _ _ z => z) (wT_wE a h)
  | .orr a b, _, _, _, _, h => by
    rw [wT_orr] at h
    rw [wE_orr]
    exact wE_mono a (fun _ _ h => tru_twice' h (wT_wE b)) (fun _ _ z => z) (wT_wE a h)
  | .ife t a b, _, _, _, _, h => h.elim
  | .nil, _, _, _, _, h => h.elim
  | .cons _ _, _, _, _, _, h => h.elim
  | .tup as, _, _, _, _, h => h.elim
  | .lst as, _, _, _, _, h => h.elim
  | .idx a i, _, _, _, _, h => h
  | .slc a lo hi, _, _, _, _, h => h.elim
  | .fld a f, _, _, _, _, h => h
  | .call f as d, _, _, _, _, h => h
  | .meth a m as, _, _, _, _, h => h
  | .new c as d, _, _, _, _, h => h.elim
  | .blt b as, _, _, _, _, h => h
  | .isty a t, _, _, _, _, h => h
  | .iscl a c, _, _, _, _, h => h
  | .comp own g kk as hc cond elt, _, _, _, _, h => h.elim
theorem kindOf_eq {X : Cx} (h : X.env.scope = C.sc) (x : Str) : X.env.kindOf x = C.sc.names.lookup x := by
  show X.env.scope.names.lookup x = _
  rw [h]
theorem okName_ok {x : Str} (h : okName x = true) : (x == ("__debug__" : Str)) = false ∧ (x == ("__classdict__" : Str)) = false ∧ x ≠ "__name__" := by
  unfold okName at h
  simp only [Bool.and_eq_true, Bool.not_eq_true'] at h
  exact ⟨h.1.1, h.1.2, beq_eq_false_iff_ne.mp h.2⟩
theorem isGl_ok {x : Str} (O : CtxOk G T C X) (h : isGl C x = true) : Gl X x ∧ (x == ("__debug__" : Str)) = false ∧ x ≠ "__name__" := by
  unfold isGl at h
  rw [Bool.and_eq_true] at h
  have z := okName_ok h.1
  exact ⟨(kindOf_eq O.sc x).trans (of_decide_eq_true h.2), z.1, z.2.2⟩
theorem var_pe {x : Str} {i : Nat} {pos : Pos} {E : EE} (O : CtxOk G T C X) (hx : okName x = true) (e : ixOf x C.N = some i) (v : Vis X.env.scope x) : PE X (.Name x pos) (TE X.K G T (.var i) E) := by
  have z := okName_ok hx
  refine (pe_var (i := i) (by rw [O.hN]; exact ixOf_ok e) v z.1 z.2.1).imp ?_
  rintro σ H Q ⟨env, S, re, rs, v, ev, h⟩
  obtain ⟨u, e1, r⟩ := re.2 i v ev
  exact ⟨u, e1, up_here h rs r⟩
theorem name_pe {x : Str} {ex : Ex} {pos : Pos} {E : EE} (O : CtxOk G T C X) (h : cName C x = some ex) : PE X (.Name x pos) (TE X.K G T ex E) := by
  unfold cName at h
  split at h
  · cases h
  · rename_i hx
    split at h
    · rename_i hl
      cases e : C.cst.lookup x with
      | none => rw [e] at h; cases h
      | some v =>
        rw [e] at h
        cases h
        obtain ⟨u, z, h1, h2, h3⟩ := O.cst (x, v) (PySem.mem_of_lookup e)
        refine (pe_glob (v := z) ((kindOf_eq O.sc x).trans hl) h1 h2 (okName_ok hx).1).imp ?_
        rintro σ H Q ⟨env, S, re, rs, h⟩
        exact up_here h rs (h3 H)
    all_goals first
      | (rename_i hl
         cases e : ixOf x C.N with
         | none => rw [e] at h; cases h
         | some i =>
           rw [e] at h
           cases h
           refine var_pe O hx e ?_
           rw [← O.sc] at hl
           first | exact .inl hl | exact .inr (.inl hl) | exact .inr (.inr hl))
      | cases h
theorem const_pe {c : Const} {v : Val} {k : Nat} {pos : Pos} {E : EE} (h : constIn c = some v) : PE X (.Constant c k pos) (TE X.K G T (.lit v) E) := by
  cases c <;> first
    | (cases h; exact pe_int.imp fun σ H Q ⟨_, _, _, rs, h⟩ => up_here h rs rfl)
    | (cases h; exact pe_bl.imp fun σ H Q ⟨_, _, _, rs, h⟩ => up_here h rs rfl)
    | (cases h; exact pe_non.imp fun σ H Q ⟨_, _, _, rs, h⟩ => up_here h rs rfl)
    | (cases h; exact pe_str.imp fun σ H Q ⟨_, _, _, rs, h⟩ => up_here h rs rfl)
    | cases h
/-- two parts, one operation -/
theorem TE.two {a b : Ex} {E : EE} {σ : St} {H : Hp} {f : Val → Val → Store → Prop} {R : V → V → Hp → Prop}
    (h : ∃ env S, RE X.K H env σ ∧ RS X.K G H S ∧ wE T a env S (fun x S1 => wE T b env S1 (fun y S2 => f x y S2) fun x S' => E x env S') fun x S' => E x env S')
    (k : ∀ x y S2 u v H2, TM H H2 → RS X.K G H2 S2 → RV X.K H2 x u → RV X.K H2 y v → f x y S2 → R u v H2) : TE X.K G T a E σ H fun u H1 => TE X.K G T b E σ H1 fun v H2 => R u v H2 := by
  obtain ⟨env, S, re, rs, h⟩ := h
  refine ⟨env, S, re, rs, wE_mono a (fun x S1 h1 u H1 t1 s1 r1 => ⟨env, S1, re.mono t1, s1, ?_⟩) (fun _ _ z => z) h⟩
  exact wE_mono b (fun y S2 h2 v H2 t2 s2 r2 => k x y S2 u v H2 (t1.trans t2) s2 (r1.mono t2) r2 h2) (fun _ _ z => z) h1
theorem TE.one {a : Ex} {E : EE} {σ : St} {H : Hp} {f : Val → Store → Prop} {R : V → Hp → Prop} (h : ∃ env S, RE X.K H env σ ∧ RS X.K G H S ∧ wE T a env S f fun x S' => E x env S')
    (k : ∀ x S1 u H1, TM H H1 → RS X.K G H1 S1 → RV X.K H1 x u → f x S1 → R u H1) : TE X.K G T a E σ H R := by
  obtain ⟨env, S, re, rs, h⟩ := h
  exact ⟨env, S, re, rs, wE_mono a (fun x S1 h1 u H1 t1 s1 r1 => k x S1 u H1 t1 s1 r1 h1) (fun _ _ z => z) h⟩
theorem bin_pe {a b : Expr} {x y : Ex} {o : Bop} {pos : Pos} {E : EE} (ha : PE X a (TE X.K G T x E)) (hb : PE X b (TE X.K G T y E)) : PE X (.BinOp a (bopOf o) b pos) (TE X.K G T (.bin o x y) E) := by
  refine (pe_op (lop (G := G) o) ha hb).imp ?_
  rintro σ H Q h
  exact TE.two h fun v w S2 z u H2 t s r1 r2 q => ⟨v, w, S2, r1, r2, s, opB_mono (fun _ _ => up_tm t) q⟩
theorem idx_pe {a i : Expr} {x y : Ex} {pos : Pos} {E : EE} (hs : isSlice i = false) (ha : PE X a (TE X.K G T x E)) (hb : PE X i (TE X.K G T y E)) : PE X (.Subscript a i pos) (TE X.K G T (.idx x y) E) := by
  have pl : PlainIx i := fun _ _ => by cases i <;> first | rfl | cases hs
  refine (pe_ix (lix (G := G)) ha hb pl).imp ?_
  rintro σ H Q h
  exact TE.two h fun v w S2 z u H2 t s r1 r2 q => ⟨v, w, S2, r1, r2, s, opIx_mono (fun _ _ => up_tm t) q⟩
theorem cmp_pe {a b : Expr} {x y : Ex} {o : CmpOp} {pos : Pos} {E : EE} (O : CtxOk G T C X) (hm : behindInMarks o b = false) (ha : PE X a (TE X.K G T x E)) (hb : PE X b (TE X.K G T y E)) :
    PE X (.Compare a [o] [b] pos) (TE X.K G T (.cmp (copIn o) x y) E) ∧ PT X (.Compare a [o] [b] pos) (TT X.K G T (.cmp (copIn o) x y) E) := by
  have l := loc (X := X) (G := G) O.un (copIn o)
  rw [copIn_ok] at l
  refine ⟨(pe_cmpR l ha hb hm).imp ?_, (pt_cmpR l ha hb hm).imp ?_⟩
  · rintro σ H Q h
    exact TE.two h fun v w S2 z u H2 t s r1 r2 q => ⟨v, w, S2, r1, r2, s, opC_mono (fun k (q : up X.K G H Q (.bl k) S2) H3 t3 s3 => q _ _ (t.trans t3) s3 rfl) q⟩
  · rintro σ H Q h
    exact TE.two h fun v w S2 z u H2 t s r1 r2 q => ⟨v, w, S2, r1, r2, s, opC_mono (fun k (q : upB X.K G H Q k S2) H3 t3 s3 => ⟨k, rfl, q _ (t.trans t3) s3⟩) q⟩
end
end BW
set_option Elab.async false
set_option linter.all false
set_option maxRecDepth 100000
set_option maxHeartbeats 4000000
namespace BW
open PySem PySem.Spec PyProof.Rows L2
section
variable {X : Cx} {G : Gn} {T : Tb} {C : Cc}
def exLen : Ex → Nat
  | .cons _ as => exLen as + 1
  | _ => 0
theorem wA_len : ∀ (as : Ex) {env : Ev} {S : Store} {Q : List Val → Store → Prop} {E : Exn → Store → Prop}, wA T as env S Q E → wA T as env S (fun vs S' => vs.length = exLen as ∧ Q vs S') E
  | .nil, _, _, _, _, h => ⟨rfl, h⟩
  | .cons a as, _, _, _, _, h => by
    rw [wA_cons] at h ⊢
    exact wE_mono a (fun x S1 h => wA_mono as (fun vs S2 h => ⟨congrArg (· + 1) h.1, h.2⟩) (fun _ _ z => z) (wA_len as h)) (fun _ _ z => z) h
theorem cL_len {f : Expr → Option Ex} : ∀ {es : List Expr} {as : Ex}, cL f es = some as → exLen as = es.length
  | [], _, h => by cases h; rfl
  | e :: es, _, h => by
    unfold cL at h
    split at h
    · cases h
      rename_i h2
      show exLen _ + 1 = _
      rw [cL_len h2]; rfl
    · cases h
theorem cE_plain {n : Nat} {e : Expr} {x : Ex} (h : cE n C e = some x) : plainE e = true := by
  cases n with
  | zero => cases h
  | succ n => cases e <;> first | rfl | cases h
theorem star_cons {e : Expr} {es : List Expr} {env : Env} (h : plainE e = true) : starEach (e :: es) env = (false, eval e env) :: starEach es env := by
  cases e <;> first | rfl | cases h
theorem star_any {pos : Pos} {env : Env} : ∀ {es : List Expr}, (∀ e ∈ es, plainE e = true) → (backTo pos (starEach es env)).any (·.1) = false
  | [], _ => rfl
  | e :: es, h => by
    rw [star_cons (h e List.mem_cons_self)]
    show (false || (backTo pos (starEach es env)).any (·.1)) = false
    rw [star_any fun a ha => h a (List.mem_cons_of_mem _ ha)]
    rfl
theorem mark_plain {e : Expr} {o : CmpOp} (h : plainE e = true) : behindInMarks o e = false := by
  cases e <;> first | rfl | cases h
theorem fold_plain {e : Expr} {env : Env} (h : isSet e = false) : ∀ x, foldedSetIterable e env x = pure x := by
  intro x
  cases e <;> first | rfl | cases h
/-- the argument list -/
theorem args_pa {f : Expr → Option Ex} {E : EE} : ∀ {es : List Expr} {as : Ex}, cL f es = some as → (∀ e ∈ es, ∀ x, f e = some x → plainE e = true ∧ PE X e (TE X.K G T x E)) → PA X es (TA X.K G T as E) ∧ ∀ e ∈ es, plainE e = true
  | [], _, h, _ => by
    cases h
    exact ⟨pa_nil.imp fun σ H Q ⟨env, S, re, rs, h⟩ => h [] H .refl rs rfl, fun e he => by cases he⟩
  | e :: es, _, h, k => by
    unfold cL at h
    split at h
    · cases h
      rename_i a as h1 h2
      obtain ⟨p, he⟩ := k e List.mem_cons_self a h1
      obtain ⟨hr, hp⟩ := args_pa h2 fun e he => k e (List.mem_cons_of_mem _ he)
      refine ⟨(pa_cons he hr (star_cons p)).imp ?_, fun e' he' => (List.mem_cons.mp he').elim (fun z => z ▸ p) (hp e')⟩
      rintro σ H Q ⟨env, S, re, rs, h⟩
      refine ⟨env, S, re, rs, wE_mono a (fun x S1 h1 u H1 t1 s1 r1 => ⟨env, S1, re.mono t1, s1, ?_⟩) (fun _ _ z => z) h⟩
      exact wA_mono as (fun vs S2 h2 us H2 t2 s2 r2 => h2 _ _ (t1.trans t2) s2 ⟨u, us, rfl, r1.mono t2, r2⟩) (fun _ _ z => z) h1
    · cases h
theorem part_po {f : Expr → Option Ex} {E : EE} {e : Option Expr} {a : Ex} (h : cO f e = some a) (k : ∀ b x, e = some b → f b = some x → PE X b (TE X.K G T x E)) : PO X e (TO X.K G T a E) := by
  cases e with
  | none =>
    cases h
    refine ⟨fun pins s σ H Q I h => po_none.run pins s σ H Q I ?_⟩
    obtain ⟨env, S, re, rs, h⟩ := h
    exact h H .refl rs
  | some b =>
    unfold cO at h
    dsimp only at h
    cases q : f b with
    | none => rw [q] at h; cases h
    | some x =>
      rw [q] at h
      cases h
      refine ⟨fun pins s σ H Q I h => (po_some (k b x rfl q)).run pins s σ H Q I ?_⟩
      obtain ⟨env, S, re, rs, h⟩ := h
      refine ⟨env, S, re, rs, wE_mono x (fun y S1 h1 u H1 t1 s1 r1 => ?_) (fun _ _ z => z) h⟩
      unfold optI at h1
      split at h1
      · exact ⟨_, r1, h1 _ t1 s1⟩
      · exact h1.elim
theorem TA.two {as : Ex} {E : EE} {σ : St} {H : Hp} {f : List Val → Store → Prop} {R : List V → Hp → Prop} (h : ∃ env S, RE X.K H env σ ∧ RS X.K G H S ∧ wA T as env S f fun x S' => E x env S')
    (k : ∀ xs S1 us H1, TM H H1 → RS X.K G H1 S1 → RVs X.K H1 xs us → f xs S1 → R us H1) : TA X.K G T as E σ H R := by
  obtain ⟨env, S, re, rs, h⟩ := h
  exact ⟨env, S, re, rs, wA_mono as (fun x S1 h1 u H1 t1 s1 r1 => k x S1 u H1 t1 s1 r1 h1) (fun _ _ z => z) h⟩
/-- where the exceptions go -/
abbrev TakesB (X : Cx) (G : Gn) (E : EE) : Prop := Takes X (WX X.K G E)
/-- f(..): the callee's contract -/
theorem wCall_sp {f : Nat} {vs d : List Val} {S : Store} {H : Hp} {Q : VK} {E : EE} {env : Ev} {σ : St} {us dV : List V} (re : RE X.K H env σ) (rs : RS X.K G H S) (r : RVs X.K H vs us) (rd : RVs X.K H d dV)
    (h : wCall T f (vs ++ d) S (up X.K G H Q) fun x S' => E x env S') : spOf X.K G (T.fn f) (us ++ dV) H Q (WE (WX X.K G E) σ) :=
  ⟨vs ++ d, S, r.append rd, rs, h.1, h.2.1, fun x S' q cls dd H' t s rx => ⟨x, env, S', rx, re.mono t, s, h.2.2 x S' q⟩⟩
theorem call_pe {f : Nat} {d : List Val} {x : Str} {e : Expr} {es : List Expr} {as : Ex} {p pos : Pos} {E : EE} {k : Nat} (hr : Room k X.A) (F : FnIn X.prog X.w X.K X.mg X.base G k x (T.fn f) d) (tk : TakesB X G E) (hg : L2.Gl X x) (hd : (x == ("__debug__" : Str)) = false)
    (ha : PA X (e :: es) (TA X.K G T as E)) (hp : ∀ a ∈ e :: es, plainE a = true) : PE X (.Call (.Name x p) (e :: es) [] pos) (TE X.K G T (.call f as d) E) := by
  obtain ⟨addr, fd, ps, ds, dV, F, hm, hk, hb, hv, hdV⟩ := F
  refine (pe_callSD (E := WE (WX X.K G E)) F hr hg hm hk hb hv (fun σ => passAt tk σ) ha hd (star_cons (hp e List.mem_cons_self)) (star_any fun a h => hp a (List.mem_cons_of_mem _ h))).imp ?_
  rintro σ H Q ⟨env, S, re, rs, h⟩
  refine ⟨env, S, re, rs, wA_mono as (fun vs S1 h1 us H1 t1 s1 r1 => ?_) (fun _ _ z => z) h⟩
  exact wCall_sp (re.mono t1) s1 r1 (hdV H1) (wCall_mono (fun _ _ => up_tm t1) (fun _ _ z => z) h1)
theorem mem_blt {x : Str} (h : x ∈ bltNames) (O : CtxOk G T C X) : X.mg x = none := O.blt x h
theorem lkMem {α β : Type} [BEq α] [LawfulBEq α] {a : α} {b : β} : ∀ {l : List (α × β)}, l.lookup a = some b → (a, b) ∈ l
  | [], h => by cases h
  | (x, y) :: r, h => by
    unfold List.lookup at h
    split at h
    · rename_i e
      cases h
      rw [beq_iff_eq.mp e]
      exact List.mem_cons_self
    · exact List.mem_cons_of_mem _ (lkMem h)
theorem boot_bi : ∀ b : Bi, bootBuiltins b.nm = some b.val := by intro b; cases b <;> decide +kernel
theorem lookup_bi {x : Str} {n : Nat} {b : Bi} (h : biTab.lookup (x, n) = some b) : x = b.nm ∧ x ∈ bltNames := by
  have hm := lkMem h
  refine ⟨?_, List.mem_append_left _ (List.mem_append_left _ (List.mem_map.mpr ⟨_, hm, rfl⟩))⟩
  revert hm
  unfold biTab
  intro hm
  simp only [List.mem_cons, Prod.mk.injEq, List.not_mem_nil, or_false] at hm
  rcases hm with h | h | h | h | h | h | h | h | h | h | h | h | h | h | h <;> (obtain ⟨⟨rfl, _⟩, rfl⟩ := h; rfl)
theorem blt_pe {b : Bi} {x : Str} {e : Expr} {es : List Expr} {as : Ex} {p pos : Pos} {E : EE} {n : Nat} (O : CtxOk G T C X) (hl : biTab.lookup (x, n) = some b) (hc : (b.hot || !C.hot) = true) (hg : isGl C x = true)
    (ha : PA X (e :: es) (TA X.K G T as E)) (hp : ∀ a ∈ e :: es, plainE a = true) : PE X (.Call (.Name x p) (e :: es) [] pos) (TE X.K G T (.blt b as) E) := by
  obtain ⟨g1, g2, g3⟩ := isGl_ok O hg
  obtain ⟨ex, em⟩ := lookup_bi hl
  have hm := O.blt x em
  have hc' : b.hot = true ∨ X.calm = true := by
    cases q : b.hot with
    | true => exact .inl rfl
    | false =>
      rw [q] at hc
      refine .inr (O.calm ?_)
      cases z : C.hot with
      | true => rw [z] at hc; cases hc
      | false => rfl
  have hv := boot_bi b
  rw [← ex] at hv
  have cr := lbi (X := X) (G := G) b hc'
  have key : ∀ σ H Q, TE X.K G T (.blt b as) E σ H Q → tCB (liftA X.K G (opBi b)) (TA X.K G T as E) σ H Q := by
    rintro σ H Q ⟨env, S, re, rs, h⟩
    exact ⟨env, S, re, rs, wA_mono as (fun vs S1 h1 us H1 t1 s1 r1 => ⟨vs, S1, r1, s1, opBi_mono (fun _ _ => up_tm t1) h1⟩) (fun _ _ z => z) h⟩
  have s1 := star_cons (es := es) (env := X.env) (hp e List.mem_cons_self)
  have s2 := star_any (pos := pos) (env := X.env) fun a h => hp a (List.mem_cons_of_mem e h)
  cases b <;> first
    | exact (pe_callB cr g1 hm hv ha g3 g2 s1 s2).imp key
    | exact (pe_callTy cr g1 hm hv ha g3 g2 s1 s2).imp key
theorem lookup_ty {x : Str} {t : Ty} (h : tyTab.lookup x = some t) : bootBuiltins x = some (.type t.ty) ∧ x ∈ bltNames := by
  have hm := lkMem h
  refine ⟨?_, List.mem_append_left _ (List.mem_append_right _ (List.mem_map.mpr ⟨_, hm, rfl⟩))⟩
  revert hm
  unfold tyTab
  intro hm
  simp only [List.mem_cons, Prod.mk.injEq, List.not_mem_nil, or_false] at hm
  rcases hm with h | h | h | h | h <;> (obtain ⟨rfl, rfl⟩ := h; decide +kernel)
theorem isty_pe {x : Str} {a : Expr} {y : Ex} {t : Ty} {p p2 pos : Pos} {E : EE} (O : CtxOk G T C X) (hl : tyTab.lookup x = some t) (hg : isGl C x = true) (hi : isGl C "isinstance" = true) (hp : plainE a = true)
    (ha : PE X a (TE X.K G T y E)) : PE X (.Call (.Name "isinstance" p) [a, .Name x p2] [] pos) (TE X.K G T (.isty y t) E) := by
  obtain ⟨g1, g2, g3⟩ := isGl_ok O hg
  obtain ⟨i1, i2, i3⟩ := isGl_ok O hi
  obtain ⟨hv, hm⟩ := lookup_ty hl
  have hm' := O.blt x hm
  have mi : X.mg "isinstance" = none := O.blt _ (List.mem_append_right _ List.mem_cons_self)
  have pn : PE X (.Name x p2) (tC (.ty t.ty)) := pe_bltn g1 hm' hv rfl g3 g2
  refine (pe_callB call_isi i1 mi (by decide +kernel) (pa_cons ha (pa_cons pn pa_nil) (star_cons hp)) i3 i2 (star_cons hp) rfl).imp ?_
  rintro σ H Q ⟨env, S, re, rs, h⟩
  refine ⟨env, S, re, rs, wE_mono y (fun v S1 h1 u H1 t1 s1 r1 => ?_) (fun _ _ z => z) h⟩
  obtain ⟨n, b, h2, h3, h4⟩ := tyIs_of s1 r1 h1
  exact ⟨u, _, n, _, b, rfl, .ty _, h2, h3, h4 _ _ t1 s1 rfl⟩
end
end BW
set_option Elab.async false
set_option linter.all false
set_option maxRecDepth 100000
set_option maxHeartbeats 4000000
namespace BW
open PySem PySem.Spec PyProof.Rows L2
section
variable {X : Cx} {G : Gn} {T : Tb} {C : Cc}
/-! ### targets -/
theorem tn_ok {x : Str} {i : Nat} (O : CtxOk G T C X) (h : cTn C x = some i) : X.N[i]? = some x ∧ Loc X.env.scope x ∧ (X.fn x = true ∨ X.env.scope.names.lookup x = some .local) := by
  unfold cTn at h
  rw [O.hN]
  split at h
  · rename_i e
    rw [← O.sc] at e
    exact ⟨ixOf_ok h, .inl e, .inr e⟩
  · rename_i e
    split at h
    · rename_i q
      rw [← O.sc] at e
      exact ⟨ixOf_ok h, .inr e, .inl (O.st x (List.contains_iff_mem.mp q))⟩
    · cases h
  · cases h
def GT (K : PySem.W.Frag) (g : Tg) : TG := fun v σ H Q => ∃ x env, RV K H x v ∧ RE K H env σ ∧ tgt g x env fun env' => ∀ σ', RE K H env' σ' → (∀ vs, (∀ i ∈ g.slots, i ∈ vs) → wipe σ' vs = wipe σ vs) → Q σ' H
theorem wipe_set {σ : St} {i : Nat} {o : Option V} : ∀ {vs : List Nat}, i ∈ vs → wipe (σ.set i o) vs = wipe σ vs
  | [], h => by cases h
  | v :: vs, h => by
    show (wipe (σ.set i o) vs).set v none = (wipe σ vs).set v none
    by_cases hm : i ∈ vs
    · rw [wipe_set hm]
    · have e : i = v := (List.mem_cons.mp h).resolve_right hm
      subst e
      have key : ∀ {us : List Nat}, i ∉ us → wipe (σ.set i o) us = (wipe σ us).set i o := by
        intro us
        induction us with
        | nil => intro _; rfl
        | cons u us ih =>
          intro h
          show (wipe (σ.set i o) us).set u none = ((wipe σ us).set u none).set i o
          rw [ih fun z => h (List.mem_cons_of_mem _ z), List.set_comm _ _ fun z => h (by rw [z]; exact List.mem_cons_self)]
      rw [key hm, List.set_set]
theorem wipe_twice {σ : St} {vs : List Nat} : wipe (wipe σ vs) vs = wipe σ vs := by
  have key : ∀ {us : List Nat}, (∀ i ∈ us, i ∈ vs) → wipe (wipe σ us) vs = wipe σ vs := by
    intro us
    induction us with
    | nil => intro _; rfl
    | cons u us ih =>
      intro h
      show wipe ((wipe σ us).set u none) vs = _
      rw [wipe_set (h u List.mem_cons_self), ih fun i hi => h i (List.mem_cons_of_mem _ hi)]
  exact key fun _ h => h
theorem _root_.L2.PG.imp {X : Cx} {tg : Expr} {t t' : TG} (h : PG X tg t) (k : ∀ v σ H Q, t' v σ H Q → t v σ H Q) : PG X tg t' := ⟨fun pins s σ H v u Q I r q => h.run pins s σ H v u Q I r (k _ _ _ _ q)⟩
def gNames : List Nat → TGs
  | [] => gNil
  | i :: is => gCons (gName i) (gNames is)
theorem names_ok {K : PySem.W.Frag} {H : Hp} {Q : St → Hp → Prop} : ∀ {is : List Nat} {l : List Val} {vs : List V} {env : Ev} {σ : St}, RVs K H l vs → RE K H env σ → l.length = is.length →
    (∀ σ', RE K H ((is.zip l).foldl (fun e p => e.set p.1 (some p.2)) env) σ' → (∀ vs, (∀ i ∈ is, i ∈ vs) → wipe σ' vs = wipe σ vs) → Q σ' H) → gNames is vs σ H Q
  | [], [], _, env, σ, r, e, _, k => by cases r; exact ⟨rfl, k σ e fun _ _ => rfl⟩
  | [], _ :: _, _, _, _, _, _, h, _ => by cases h
  | _ :: _, [], _, _, _, _, _, h, _ => by cases h
  | i :: is, x :: l, _, env, σ, r, e, h, k => by
    obtain ⟨v, q, rfl, r1, r2⟩ := r
    refine ⟨v, q, rfl, names_ok (l := l) r2 (e.set r1) (Nat.succ.inj h) fun σ' re w => k σ' re fun vs hv => ?_⟩
    rw [w vs fun j hj => hv j (List.mem_cons_of_mem _ hj), wipe_set (hv i List.mem_cons_self)]
theorem tns_ok (O : CtxOk G T C X) : ∀ {es : List Expr} {is : List Nat}, cTns C es = some is → PGs X es (gNames is) ∧ (assignEach es X.env).length = is.length ∧ (assignEach es X.env).findIdx? (·.1) = none
  | [], _, h => by cases h; exact ⟨pgs_nil, rfl, rfl⟩
  | e :: r, is, h => by
    cases e <;> first
      | (rename_i x p
         unfold cTns at h
         split at h
         · rename_i i js h1 h2
           cases h
           obtain ⟨a, b, c⟩ := tns_ok O h2
           obtain ⟨z1, z2, z3⟩ := tn_ok O h1
           refine ⟨pgs_cons (pg_name (by rw [O.hN]; exact O.nd) z1 z2 z3) a rfl, congrArg Nat.succ b, ?_⟩
           show ((false, assign (.Name x p) X.env) :: assignEach r X.env).findIdx? (·.1) = none
           rw [List.findIdx?_cons, c]
           rfl
         · cases h)
      | cases h
theorem tg_pg {tg : Expr} {g : Tg} (O : CtxOk G T C X) (h : cTg C tg = some g) : PG X tg (GT X.K g) := by
  have nd : X.N.Nodup := by rw [O.hN]; exact O.nd
  cases tg <;> first
    | (rename_i x p
       cases e : cTn C x with
       | none =>
         have h' : (cTn C x).map Tg.nm = some g := h
         rw [e] at h'
         cases h'
       | some i =>
         have h' : (cTn C x).map Tg.nm = some g := h
         rw [e] at h'
         cases h'
         obtain ⟨z1, z2, z3⟩ := tn_ok O e
         refine (pg_name nd z1 z2 z3).imp ?_
         rintro v σ H Q ⟨y, env, r, re, h⟩
         exact h _ (re.set r) fun vs hv => wipe_set (hv i List.mem_cons_self))
    | (rename_i es k p
       unfold cTg at h
       dsimp only at h
       split at h
       · rename_i hh
         cases e : cTns C es with
         | none => rw [e] at h; cases h
         | some is =>
           rw [e] at h
           cases h
           obtain ⟨a, b, c⟩ := tns_ok O e
           refine (pg_tup (O.calm hh) a b c).imp ?_
           rintro v σ H Q ⟨y, env, r, re, h⟩
           unfold tgt at h
           split at h
           · rename_i e; cases e
           · rename_i is' l e1
             cases e1
             obtain ⟨q, vs, rfl, t, z⟩ := r
             exact ⟨q, vs, rfl, t.sq, by rw [← z.length]; exact h.1, names_ok z re h.1 h.2⟩
           · exact h.elim
       · cases h)
    | cases h
/-! ### iterables -/
def TI (K : PySem.W.Frag) (G : Gn) (T : Tb) (k : ItK) (as : Ex) (E : EE) : L2.TI := fun σ H R => ∃ env S, RE K H env σ ∧ RS K G H S ∧ wA T as env S (fun vs S1 => itK k vs S1 fun Gd items => ∀ H1 J, TM H H1 → RS K G H1 S1 → Wk K G Gd items J H1 → R J H1) fun x S' => E x env S'
theorem small_pos {a b c : Int} (ha : -(2 ^ 62) ≤ a) (ha' : a < 2 ^ 62) (hb : -(2 ^ 62) ≤ b) (hb' : b < 2 ^ 62) (hc : 0 < c) (hc' : c < 1073741824) : Builtin.Range.small a b c = true := by
  have d : 0 ≤ Builtin.Range.rangeSize a b c ∧ Builtin.Range.rangeSize a b c < 2 ^ 63 := by
    unfold Builtin.Range.rangeSize
    rw [if_pos hc]
    split
    · have h1 : 0 ≤ (b - a - 1) / c := Int.ediv_nonneg (by omega) (by omega)
      have h2 : (b - a - 1) / c ≤ b - a - 1 := Int.ediv_le_self _ (by omega)
      omega
    · omega
  unfold Builtin.Range.small
  simp only [Builtin.Range.rangeFitsLong, Bool.and_eq_true, Bool.or_eq_true, decide_eq_true_eq, beq_iff_eq, show (c > 0) from hc, if_true]
  omega
theorem seq_pi {tg e : Expr} {x : Ex} {E : EE} (h : PE X e (TE X.K G T x E)) : PI X tg e (TI X.K G T .seq (.cons x .nil) E) := by
  refine (pi_seq h).imp ?_
  rintro σ H R ⟨env, S, re, rs, h⟩
  refine ⟨env, S, re, rs, wE_mono x (fun v S1 h1 u H1 t1 s1 r1 => ?_) (fun _ _ z => z) h⟩
  simp only [wA_nil] at h1
  unfold itK at h1
  split at h1
  · rename_i e1 e2
    cases e2
    obtain ⟨a, vs, rfl, q, z⟩ := r1
    exact ⟨a, rfl, .inr ⟨⟨vs, q.sq⟩, h1 _ _ t1 s1 (wk_tup q z)⟩⟩
  · rename_i e1 e2 e3
    cases e3
    rw [getL_iff] at h1
    obtain ⟨l, hl, h1⟩ := h1
    obtain ⟨a, vs, rfl, q, z⟩ := r1.list s1 hl
    exact ⟨a, rfl, .inl ⟨⟨vs, q⟩, h1 _ _ t1 s1 (wk_list r1)⟩⟩
  all_goals first | (rename_i e1 e2; cases e1) | exact h1.elim
theorem mg_range (O : CtxOk G T C X) : X.mg "range" = none := O.blt _ (List.mem_append_right _ (List.mem_cons_of_mem _ List.mem_cons_self))
theorem mg_enum (O : CtxOk G T C X) : X.mg "enumerate" = none := O.blt _ (List.mem_append_right _ (List.mem_cons_of_mem _ (List.mem_cons_of_mem _ List.mem_cons_self)))
theorem mg_zip (O : CtxOk G T C X) : X.mg "zip" = none := O.blt _ (List.mem_append_right _ (List.mem_cons_of_mem _ (List.mem_cons_of_mem _ (List.mem_cons_of_mem _ List.mem_cons_self))))
theorem mg_rev (O : CtxOk G T C X) : X.mg "reversed" = none := O.blt _ (List.mem_append_right _ (List.mem_cons_of_mem _ (List.mem_cons_of_mem _ (List.mem_cons_of_mem _ (List.mem_cons_of_mem _ List.mem_cons_self)))))
/-- an iterable whose arguments are walked as they come -/
theorem ta_it {as : Ex} {E : EE} {k : ItK} {σ : St} {H : Hp} {R : It → Hp → Prop} {F : List V → Hp → Prop} (h : TI X.K G T k as E σ H R)
    (f : ∀ vs S1 us H1, vs.length = exLen as → TM H H1 → RS X.K G H1 S1 → RVs X.K H1 vs us → itK k vs S1 (fun Gd items => ∀ J, Wk X.K G Gd items J H1 → R J H1) → F us H1) : TA X.K G T as E σ H F := by
  obtain ⟨env, S, re, rs, h⟩ := h
  exact ⟨env, S, re, rs, wA_mono as (fun vs S1 h1 us H1 t1 s1 r1 => f vs S1 us H1 h1.1 t1 s1 r1 (itK_mono (fun Gd items h J w => h H1 J t1 s1 w) h1.2)) (fun _ _ z => z) (wA_len as h)⟩
theorem range_0 (n : Nat) : ((List.range n).map fun k => Val.int (0 + (k : Nat))) = (List.range n).map fun k => .int (k : Nat) := by simp
theorem vs1 {vs : List Val} {y : Ex} (h : vs.length = exLen (.cons y .nil)) : ∃ a, vs = [a] := by
  match vs, h with
  | [a], _ => exact ⟨a, rfl⟩
theorem vs2 {vs : List Val} {y z : Ex} (h : vs.length = exLen (.cons y (.cons z .nil))) : ∃ a b, vs = [a, b] := by
  match vs, h with
  | [a, b], _ => exact ⟨a, b, rfl⟩
theorem vs3 {vs : List Val} {y z u : Ex} (h : vs.length = exLen (.cons y (.cons z (.cons u .nil)))) : ∃ a b c, vs = [a, b, c] := by
  match vs, h with
  | [a, b, c], _ => exact ⟨a, b, c, rfl⟩
section
variable {tg a b c : Expr} {y z u : Ex} {p pos : Pos} {E : EE}
theorem range1_pi (O : CtxOk G T C X) (hg : L2.Gl X "range") (hp : plainE a = true) (ha : PA X [a] (TA X.K G T (.cons y .nil) E)) : PI X tg (.Call (.Name "range" p) [a] [] pos) (TI X.K G T .range (.cons y .nil) E) := by
  refine (pi_range1 hg (mg_range O) ha (star_cons hp)).imp ?_
  intro σ H R h
  refine ta_it h fun vs S1 us H1 hl t s r q => ?_
  obtain ⟨x, rfl⟩ := vs1 hl
  obtain ⟨u, rfl, r1⟩ := r.one
  cases x <;> first
    | (cases r1; exact ⟨_, rfl, q.1.1, q.1.2, q.2 _ (by rw [← range_0]; exact wk_range)⟩)
    | exact q.elim
theorem range2_pi (O : CtxOk G T C X) (hg : L2.Gl X "range") (hp : plainE a = true) (hp2 : plainE b = true) (ha : PA X [a, b] (TA X.K G T (.cons y (.cons z .nil)) E)) : PI X tg (.Call (.Name "range" p) [a, b] [] pos) (TI X.K G T .range (.cons y (.cons z .nil)) E) := by
  refine (pi_range2 hg (mg_range O) ha (by rw [star_cons hp, star_cons hp2]; rfl) (star_cons hp2)).imp ?_
  intro σ H R h
  refine ta_it h fun vs S1 us H1 hl t s r q => ?_
  obtain ⟨x, x2, rfl⟩ := vs2 hl
  obtain ⟨u, u2, rfl, r1, r2⟩ := r.two
  cases x <;> cases x2 <;> first
    | (cases r1; cases r2; exact ⟨_, _, rfl, q.1, q.2 _ wk_range⟩)
    | exact q.elim
theorem range3_pi (O : CtxOk G T C X) (hg : L2.Gl X "range") (hp : plainE a = true) (hp2 : plainE b = true) (hp3 : plainE c = true) (ha : PA X [a, b, c] (TA X.K G T (.cons y (.cons z (.cons u .nil))) E)) :
    PI X tg (.Call (.Name "range" p) [a, b, c] [] pos) (TI X.K G T .range (.cons y (.cons z (.cons u .nil))) E) := by
  refine (pi_range3 hg (mg_range O) ha (star_cons hp) (star_any fun e he => ?_)).imp ?_
  · rcases List.mem_cons.mp he with rfl | he
    · exact hp2
    · rw [List.mem_singleton.mp he]; exact hp3
  intro σ H R h
  refine ta_it h fun vs S1 us H1 hl t s r q => ?_
  obtain ⟨x, x2, x3, rfl⟩ := vs3 hl
  obtain ⟨u, u2, u3, rfl, r1, r2, r3⟩ := r.three
  cases x <;> cases x2 <;> cases x3 <;> first
    | (cases r1; cases r2; cases r3
       obtain ⟨⟨q1, q2, q3, q4, q5, q6⟩, q⟩ := q
       exact ⟨_, _, _, _, rfl, ⟨by omega, by omega, small_pos q1 q2 q3 q4 q5 q6, rangeSize_toNat _ _ _⟩, q _ wk_rangeC⟩)
    | exact q.elim
theorem enum_pi {es : List Expr} {kk : Nat} {tp : Pos} (O : CtxOk G T C X) (hg : L2.Gl X "enumerate") (hp : plainE a = true) (ha : PA X [a] (TA X.K G T (.cons y .nil) E)) : PI X (.Tuple es kk tp) (.Call (.Name "enumerate" p) [a] [] pos) (TI X.K G T .enum (.cons y .nil) E) := by
  refine (pi_enum hg (mg_enum O) ha (star_cons hp)).imp ?_
  intro σ H R h
  refine ta_it h fun vs S1 us H1 hl t s r q => ?_
  obtain ⟨x, rfl⟩ := vs1 hl
  obtain ⟨u, rfl, r1⟩ := r.one
  have q' : getL S1 x fun l => _ := q
  rw [getL_iff] at q'
  obtain ⟨l, hl, q'⟩ := q'
  obtain ⟨d, ws, rfl, q1, z1⟩ := r1.list s hl
  exact ⟨_, ws, rfl, q1, q' _ (wk_enum r1)⟩
theorem rev_pi (O : CtxOk G T C X) (hg : L2.Gl X "reversed") (hp : plainE a = true) (ha : PA X [a] (TA X.K G T (.cons y .nil) E)) : PI X tg (.Call (.Name "reversed" p) [a] [] pos) (TI X.K G T .rev (.cons y .nil) E) := by
  refine (pi_reversed hg (mg_rev O) ha (star_cons hp)).imp ?_
  intro σ H R h
  refine ta_it h fun vs S1 us H1 hl t s r q => ?_
  obtain ⟨x, rfl⟩ := vs1 hl
  obtain ⟨u, rfl, r1⟩ := r.one
  have q' : getL S1 x fun l => _ := q
  rw [getL_iff] at q'
  obtain ⟨l, hl, q'⟩ := q'
  obtain ⟨d, ws, rfl, q1, z1⟩ := r1.list s hl
  exact ⟨_, ws, rfl, q1, by rw [← z1.length]; exact q' _ (wk_rev r1)⟩
theorem zip_pi {es : List Expr} {kk : Nat} {tp : Pos} (O : CtxOk G T C X) (hg : L2.Gl X "zip") (hp : plainE a = true) (hp2 : plainE b = true) (ha : PA X [a, b] (TA X.K G T (.cons y (.cons z .nil)) E)) :
    PI X (.Tuple es kk tp) (.Call (.Name "zip" p) [a, b] [] pos) (TI X.K G T .zip (.cons y (.cons z .nil)) E) := by
  refine (pi_zip hg (mg_zip O) ha (star_cons hp) (star_any fun e he => by rw [List.mem_singleton.mp he]; exact hp2)).imp ?_
  intro σ H R h
  refine ta_it h fun vs S1 us H1 hl t s r q => ?_
  obtain ⟨x, x2, rfl⟩ := vs2 hl
  obtain ⟨u, u2, rfl, r1, r2⟩ := r.two
  have q' : getL S1 x fun l => getL S1 x2 fun m => _ := q
  rw [getL_iff] at q'
  obtain ⟨l, hl, q'⟩ := q'
  rw [getL_iff] at q'
  obtain ⟨m, hm, q'⟩ := q'
  obtain ⟨d, ws, rfl, q1, z1⟩ := r1.list s hl
  obtain ⟨d2, ws2, rfl, q2, z2⟩ := r2.list s hm
  exact ⟨_, _, ws, ws2, rfl, q1, q2, q' _ (wk_zip r1 r2)⟩
end
theorem args_of {f : Expr → Option Ex} {E : EE} (IH : ∀ e x, f e = some x → plainE e = true ∧ PE X e (TE X.K G T x E)) {es : List Expr} {as : Ex} (h : cL f es = some as) : PA X es (TA X.K G T as E) ∧ ∀ e ∈ es, plainE e = true :=
  args_pa h fun e _ x hx => IH e x hx
theorem cL1 {f : Expr → Option Ex} {a : Expr} {x : Ex} (h : f a = some x) : cL f [a] = some (.cons x .nil) := by unfold cL; rw [h]; rfl
theorem cL2 {f : Expr → Option Ex} {a b : Expr} {x y : Ex} (h : f a = some x) (h2 : f b = some y) : cL f [a, b] = some (.cons x (.cons y .nil)) := by unfold cL; rw [h, cL1 h2]
theorem cL3 {f : Expr → Option Ex} {a b c : Expr} {x y z : Ex} (h : f a = some x) (h2 : f b = some y) (h3 : f c = some z) : cL f [a, b, c] = some (.cons x (.cons y (.cons z .nil))) := by unfold cL; rw [h, cL2 h2 h3]
theorem seq_of {f : Expr → Option Ex} {E : EE} (IH : ∀ e x, f e = some x → plainE e = true ∧ PE X e (TE X.K G T x E)) {tg e : Expr} {k : ItK} {as : Ex} (h : ((f e).map fun z => (ItK.seq, Ex.cons z .nil)) = some (k, as)) : PI X tg e (TI X.K G T k as E) := by
  cases q : f e with
  | none => rw [q] at h; cases h
  | some z =>
    rw [q] at h
    cases h
    exact seq_pi (IH e z q).2
theorem it_ok {f : Expr → Option Ex} {E : EE} (O : CtxOk G T C X) (IH : ∀ e x, f e = some x → plainE e = true ∧ PE X e (TE X.K G T x E)) {tg e : Expr} {k : ItK} {as : Ex} (h : cIt C f (isTup tg) e = some (k, as)) :
    PI X tg e (TI X.K G T k as E) := by
  unfold cIt at h
  split at h
  · rename_i x p a pos
    split at h
    · rename_i y hg hy
      rw [Bool.and_eq_true] at hg
      obtain ⟨g1, g2, g3⟩ := isGl_ok O hg.1
      obtain ⟨pa, pl⟩ := args_of IH (cL1 hy)
      split at h
      · rename_i e
        cases h
        have e := beq_iff_eq.mp e
        subst e
        exact range1_pi O g1 (pl _ List.mem_cons_self) pa
      · rename_i e
        split at h
        · rename_i ht
          cases h
          have e := beq_iff_eq.mp e
          subst e
          cases tg <;> first
            | exact enum_pi O g1 (pl _ List.mem_cons_self) pa
            | cases ht
        · cases h
      · rename_i e
        cases h
        have e := beq_iff_eq.mp e
        subst e
        exact rev_pi O g1 (pl _ List.mem_cons_self) pa
      · exact seq_of IH h
    · exact seq_of IH h
  · rename_i x p a b pos
    split at h
    · rename_i y z hg hy hz
      rw [Bool.and_eq_true] at hg
      obtain ⟨g1, g2, g3⟩ := isGl_ok O hg.1
      obtain ⟨pa, pl⟩ := args_of IH (cL2 hy hz)
      split at h
      · rename_i e
        cases h
        have e := beq_iff_eq.mp e
        subst e
        exact range2_pi O g1 (pl _ List.mem_cons_self) (pl _ (List.mem_cons_of_mem _ List.mem_cons_self)) pa
      · rename_i e
        split at h
        · rename_i ht
          cases h
          have e := beq_iff_eq.mp e
          subst e
          cases tg <;> first
            | exact zip_pi O g1 (pl _ List.mem_cons_self) (pl _ (List.mem_cons_of_mem _ List.mem_cons_self)) pa
            | cases ht
        · cases h
      · exact seq_of IH h
    · exact seq_of IH h
  · rename_i x p a b c pos
    split at h
    · rename_i y z u hg hy hz hu
      rw [Bool.and_eq_true] at hg
      obtain ⟨g1, g2, g3⟩ := isGl_ok O hg.1
      obtain ⟨pa, pl⟩ := args_of IH (cL3 hy hz hu)
      split at h
      · rename_i e
        cases h
        have e := beq_iff_eq.mp e
        subst e
        exact range3_pi O g1 (pl _ List.mem_cons_self) (pl _ (List.mem_cons_of_mem _ List.mem_cons_self)) (pl _ (List.mem_cons_of_mem _ (List.mem_cons_of_mem _ List.mem_cons_self))) pa
      · exact seq_of IH h
    · exact seq_of IH h
  · split at h
    · cases h
    · exact seq_of IH h
end
end BW
set_option Elab.async false
set_option linter.all false
set_option maxRecDepth 100000
set_option maxHeartbeats 4000000
namespace BW
open PySem PySem.Spec PyProof.Rows L2
section
variable {X : Cx} {G : Gn} {T : Tb} {C : Cc}
abbrev E0 : EE := fun _ _ _ => False
theorem takes_E0 {X : Cx} : TakesB X G E0 := fun _ _ ⟨_, _, _, _, _, _, _, _, _, _, _, _, _, _, _, _, ⟨_, _, _, _, _, _, z⟩⟩ => z.elim
/-- a test of the clause, where there is one -/
def TC (K : PySem.W.Frag) (G : Gn) (T : Tb) (hc : Bool) (c : Ex) : L2.TT := fun σ H Q => ∃ env S, RE K H env σ ∧ RS K G H S ∧ (if hc = true then wT T c env S (upB K G H Q) fun _ _ => False else upB K G H Q true S)
theorem comp_tlc {own : List Nat} {g : Tg} {k : ItK} {as cond elt : Ex} {hc : Bool} {E : EE} {σ : St} {H : Hp} {Q : VK} (hs : ∀ i ∈ g.slots, i ∈ own) (h : TE X.K G T (.comp own g k as hc cond elt) E σ H Q) :
    tLc (TI X.K G T k as E) (GT X.K g) (TC X.K G T hc cond) (TE X.K G T elt E0) own σ H Q := by
  obtain ⟨env, S, re, rs, h⟩ := h
  refine ⟨env, S, re, rs, wA_mono as (fun vs S1 h1 => itK_mono (fun Gd items hh H1 J t1 s1 wk => ?_) h1) (fun _ _ z => z) h⟩
  intro D hD
  have hS := hh D (s1.free hD)
  have tD : TM H1 (upd H1 D (.lst [])) := .new hD
  refine ⟨fun i m H' => m = items.length - i ∧ i ≤ items.length ∧ TM H1 H' ∧ ∃ S', RS X.K G H' S' ∧ wTurns Gd (fun x P => tgt g x (wipeE env own) P) (fun e2 S2 P => if hc = true then wT T cond e2 S2 P fun _ _ => False else P true S2) (fun e2 S2 P => wE T elt e2 S2 P fun _ _ => False) D (up X.K G H Q) (items.drop i) S',
    ⟨_, rfl, Nat.zero_le _, tD, _, s1.alloc hD (RO.lst (l := []) (vs := []) hD rfl), hS⟩, ?_⟩
  rintro i m H' ⟨rfl, hi, tH, S', rs', w⟩
  by_cases hlt : i < items.length
  · rw [List.drop_eq_getElem_cons hlt] at w
    obtain ⟨gd, w⟩ := w
    refine .inr ⟨wk.go H' S' i tH rs' gd hlt, fun H'' => TM H1 H'' ∧ ∃ S'', RS X.K G H'' S'' ∧ wTurns Gd (fun x P => tgt g x (wipeE env own) P) (fun e2 S2 P => if hc = true then wT T cond e2 S2 P fun _ _ => False else P true S2) (fun e2 S2 P => wE T elt e2 S2 P fun _ _ => False) D (up X.K G H Q) (items.drop (i + 1)) S'',
      fun H'' ⟨t2, S2, r2, w2⟩ => ⟨_, by omega, rfl, hlt, t2, S2, r2, w2⟩, fun x H2 y => ?_⟩
    obtain ⟨t2, rs2, rv⟩ := wk.yld H' S' i x H2 _ tH rs' gd y (List.getElem?_eq_getElem hlt)
    have tt := (t1.trans tH).trans t2
    refine ⟨_, _, rv, (re.mono tt).wipe, tgt_mono (fun e2 hc2 σ2 re2 hw => ?_) w⟩
    refine ⟨by rw [hw own hs, wipe_twice], e2, S', re2, rs2, ?_⟩
    have after : ∀ b H3 S3, TM H2 H3 → RS X.K G H3 S3 →
        (if b = true then wE T elt e2 S3 (fun y S4 => ∃ acc, S4 D = some (.lst acc) ∧ acc.length < LIM ∧ wTurns Gd (fun x P => tgt g x (wipeE env own) P) (fun e2 S2 P => if hc = true then wT T cond e2 S2 P fun _ _ => False else P true S2) (fun e2 S2 P => wE T elt e2 S2 P fun _ _ => False) D (up X.K G H Q) (items.drop (i + 1)) (put S4 D (.lst (acc ++ [y])))) (fun _ _ => False)
          else wTurns Gd (fun x P => tgt g x (wipeE env own) P) (fun e2 S2 P => if hc = true then wT T cond e2 S2 P fun _ _ => False else P true S2) (fun e2 S2 P => wE T elt e2 S2 P fun _ _ => False) D (up X.K G H Q) (items.drop (i + 1)) S3) →
        (if b = true then TE X.K G T elt E0 σ2 H3 fun y H4 => ∃ acc, H4 D = some (.lst acc) ∧ acc.length < sizeLine ∧ (TM H1 (upd H4 D (.lst (acc ++ [y]))) ∧ ∃ S'', RS X.K G (upd H4 D (.lst (acc ++ [y]))) S'' ∧ wTurns Gd (fun x P => tgt g x (wipeE env own) P) (fun e2 S2 P => if hc = true then wT T cond e2 S2 P fun _ _ => False else P true S2) (fun e2 S2 P => wE T elt e2 S2 P fun _ _ => False) D (up X.K G H Q) (items.drop (i + 1)) S'')
          else (TM H1 H3 ∧ ∃ S'', RS X.K G H3 S'' ∧ wTurns Gd (fun x P => tgt g x (wipeE env own) P) (fun e2 S2 P => if hc = true then wT T cond e2 S2 P fun _ _ => False else P true S2) (fun e2 S2 P => wE T elt e2 S2 P fun _ _ => False) D (up X.K G H Q) (items.drop (i + 1)) S'')) := by
      intro b H3 S3 t3 s3 h3
      cases b with
      | false => exact ⟨(tH.trans t2).trans t3, S3, s3, h3⟩
      | true =>
        refine ⟨e2, S3, re2.mono t3, s3, wE_mono elt (fun y S4 h4 z H4 t4 s4 r4 => ?_) (fun _ _ z => z) h3⟩
        obtain ⟨acc, a1, a2, a3⟩ := h4
        obtain ⟨vs, b1, b2⟩ := s4 D _ a1
        have tw : TM H4 (upd H4 D (.lst (vs ++ [z]))) := .wr (.inl ⟨_, b1⟩)
        exact ⟨vs, b1, by rw [← LIM_eq, ← b2.length]; exact a2, (((tH.trans t2).trans t3).trans t4).trans tw, _, s4.write (ob := .lst (acc ++ [y])) (.inl ⟨_, b1⟩) ⟨_, upd_same, (b2.append (m := [y]) ⟨z, [], rfl, r4, rfl⟩).mono tw⟩, a3⟩
    cases hc with
    | false => exact fun H3 t3 s3 => after true H3 S' t3 s3 hc2
    | true => exact wT_mono cond (fun b S3 h3 H3 t3 s3 => after b H3 S3 t3 s3 h3) (fun _ _ z => z) hc2
  · have e : i = items.length := by omega
    subst e
    rw [List.drop_length] at w
    exact .inl ⟨wk.stop H' S' tH rs' w.1, w.2 _ _ (t1.trans tH) rs' rfl⟩
/-- the block's context -/
theorem blk_ok {scope : Scope} (O : CtxOk G T C X) (hh : C.hot = false) (b : BlkOk C.N C.sc scope (ownOf C scope)) (s : Shared) (H : Hp) (A : Addr) (cl : List (Str × Addr)) (fp : List Addr) : CtxOk G T (blkCc C scope) (X.blk s H scope (compEnvC scope cl A X.env) fp) where
  hN := O.hN
  nd := O.nd
  sc := by
    show relabel scope X.env = relS scope C.sc
    unfold relabel relS
    rw [← O.sc]
    rfl
  calm := O.calm
  room := O.room
  un := O.un
  cst := O.cst
  blt := O.blt
  st := fun x hx => by
    obtain ⟨q, hq, rfl⟩ := List.mem_map.mp hx
    obtain ⟨h1, h2⟩ := List.mem_filter.mp hq
    have e := b.uniq q h1
    show (scope.names.lookup q.1 == some .cell) = true
    rw [e, beq_iff_eq.mp h2]
    rfl
  kind := b.kind
theorem comp_pe {scope : Scope} {g : Tg} {k : ItK} {as cond elt : Ex} {hc : Bool} {tg iter el : Expr} {ifs : List Expr} {pos : Pos} {E : EE} (O : CtxOk G T C X) (hh : C.hot = false) (b : BlkOk C.N C.sc scope (ownOf C scope))
    (hs : ∀ i ∈ g.slots, i ∈ (ownOf C scope).map (·.2)) (hi : PI X tg iter (TI X.K G T k as E)) (hset : isSet iter = false)
    (hg : ∀ Y, CtxOk G T (blkCc C scope) Y → Y.K = X.K → PG Y tg (GT X.K g)) (ht : ∀ Y, CtxOk G T (blkCc C scope) Y → Y.K = X.K → PTs Y ifs (TC X.K G T hc cond)) (he : ∀ Y, CtxOk G T (blkCc C scope) Y → Y.K = X.K → PE Y el (TE X.K G T elt E0)) :
    PE X (.ListComp el [⟨tg, iter, ifs, 0⟩] scope pos) (TE X.K G T (.comp ((ownOf C scope).map (·.2)) g k as hc cond elt) E) := by
  have b' : BlkOk X.N X.env.scope scope (ownOf C scope) := by rw [O.hN, O.sc]; exact b
  exact (pe_lc (O.calm hh) (by rw [O.hN]; exact O.nd) hi b' (fun s H A cl fp => hg _ (blk_ok O hh b s H A cl fp) rfl) (fun s H A cl fp => ht _ (blk_ok O hh b s H A cl fp) rfl) (fun s H A cl fp => he _ (blk_ok O hh b s H A cl fp) rfl) (fold_plain hset)).imp fun σ H Q h => comp_tlc hs h
end
end BW
set_option Elab.async false
set_option linter.all false
set_option maxRecDepth 100000
set_option maxHeartbeats 4000000
namespace BW
open PySem PySem.Spec PyProof.Rows L2
section
variable {X : Cx} {G : Gn} {T : Tb} {C : Cc} {E : EE}
theorem pt_of_pe {e : Expr} {x : Ex} (h : PE X e (TE X.K G T x E)) (he : ∀ whole, isTrue e X.env whole = (do let v ← whole; standAt e.pos; holding [v] (truthy v))) : PT X e (TT X.K G T x E) := by
  refine (pt_truth h he).imp ?_
  rintro σ H Q ⟨env, S, re, rs, h⟩
  refine ⟨env, S, re, rs, wE_mono x (fun v S1 h1 u H1 t1 s1 r1 => ?_) (fun _ _ z => z) (wT_wE x h)⟩
  obtain ⟨k, a, b⟩ := tru_of s1 r1 h1
  exact ⟨k, a, b _ t1 s1⟩
theorem neg_pe {a : Expr} {x : Ex} {pos : Pos} (ha : PE X a (TE X.K G T x E)) : PE X (.UnaryOp .USub a pos) (TE X.K G T (.neg x) E) := by
  refine (pe_un un_neg ha).imp ?_
  rintro σ H Q h
  refine TE.one h fun v S1 u H1 t s r q => ?_
  obtain ⟨i, rfl, q⟩ := q
  exact ⟨i, r, q _ _ t s rfl⟩
theorem not_pe {a : Expr} {x : Ex} {pos : Pos} (ha : PE X a (TE X.K G T x E)) (hb : PT X a (TT X.K G T x E)) : PE X (.UnaryOp .Not a pos) (TE X.K G T (.nott x) E) ∧ PT X (.UnaryOp .Not a pos) (TT X.K G T (.nott x) E) := by
  refine ⟨(pe_notT ha).imp ?_, (pt_not hb).imp ?_⟩
  · rintro σ H Q ⟨env, S, re, rs, h⟩
    refine ⟨env, S, re, rs, wE_mono x (fun v S1 h1 u H1 t1 s1 r1 => ?_) (fun _ _ z => z) (wT_wE x h)⟩
    obtain ⟨k, a, b⟩ := tru_of s1 r1 h1
    exact ⟨k, a, b _ _ t1 s1 rfl⟩
  · rintro σ H Q ⟨env, S, re, rs, h⟩
    exact ⟨env, S, re, rs, wT_mono x (fun b S1 h1 H1 t1 s1 => h1 _ t1 s1) (fun _ _ z => z) h⟩
theorem ife_pe {t a b : Expr} {x y z : Ex} {pos : Pos} (ht : PT X t (TT X.K G T x E)) (ha : PE X a (TE X.K G T y E)) (hb : PE X b (TE X.K G T z E)) : PE X (.IfExp t a b pos) (TE X.K G T (.ife x y z) E) := by
  refine (pe_ifExp ht ha hb).imp ?_
  rintro σ H Q ⟨env, S, re, rs, h⟩
  refine ⟨env, S, re, rs, wT_mono x (fun c S1 h1 H1 t1 s1 => ?_) (fun _ _ z => z) h⟩
  cases c with
  | true => exact ⟨env, S1, re.mono t1, s1, wE_mono y (fun _ _ => up_tm t1) (fun _ _ z => z) h1⟩
  | false => exact ⟨env, S1, re.mono t1, s1, wE_mono z (fun _ _ => up_tm t1) (fun _ _ z => z) h1⟩
theorem tup_pe {es : List Expr} {as : Ex} {k : Nat} {pos : Pos} (hl : exLen as ≤ 1000) (ha : PA X es (TA X.K G T as E)) : PE X (.Tuple es k pos) (TE X.K G T (.tup as) E) := by
  refine (pe_tup ha).imp ?_
  rintro σ H Q ⟨env, S, re, rs, h⟩
  refine TA.two ⟨env, S, re, rs, wA_len as h⟩ fun xs S1 us H1 t s r q => ⟨?_, fun p hp => ?_⟩
  · rw [← r.length, q.1, sizeLine_eq]; omega
  · exact q.2 _ _ (t.trans (.new hp)) (s.new hp) ⟨p, us, rfl, .inl upd_same, r.mono (.new hp)⟩
theorem lst_pe {es : List Expr} {as : Ex} {pos : Pos} (hl : exLen as ≤ 1000) (ha : PA X es (TA X.K G T as E)) : PE X (.List es pos) (TE X.K G T (.lst as) E) := by
  refine (pe_lst ha).imp ?_
  rintro σ H Q ⟨env, S, re, rs, h⟩
  refine TA.two ⟨env, S, re, rs, wA_len as h⟩ fun xs S1 us H1 t s r q => ⟨?_, fun p hp => ?_⟩
  · rw [← r.length, q.1, sizeLine_eq]; omega
  · exact q.2 p (s.free hp) _ _ (t.trans (.new hp)) (s.alloc hp (.lst hp r)) rfl
theorem slc_pe {a : Expr} {lo hi : Option Expr} {x l h : Ex} {p2 pos : Pos} (ha : PE X a (TE X.K G T x E)) (hl : PO X lo (TO X.K G T l E)) (hh : PO X hi (TO X.K G T h E)) : PE X (.Subscript a (.Slice lo hi none p2) pos) (TE X.K G T (.slc x l h) E) := by
  refine (pe_slice (lsl (G := G)) ha hl hh).imp ?_
  rintro σ H Q ⟨env, S, re, rs, w⟩
  refine ⟨env, S, re, rs, wE_mono x (fun v S1 h1 u H1 t1 s1 r1 => ?_) (fun _ _ z => z) w⟩
  refine ⟨env, S1, re.mono t1, s1, wO_mono l (fun o S2 h2 H2 t2 s2 => ?_) (fun _ _ z => z) h1⟩
  refine ⟨env, S2, re.mono (t1.trans t2), s2, wO_mono h (fun o2 S3 h3 H3 t3 s3 => ?_) (fun _ _ z => z) h2⟩
  exact ⟨v, S3, r1.mono (t2.trans t3), s3, opSl_mono (fun _ _ => up_tm ((t1.trans t2).trans t3)) h3⟩
theorem chain_pe {a b c : Expr} {x y z : Ex} {o o' : CmpOp} {pos : Pos} (O : CtxOk G T C X) (hm : behindInMarks o' c = false) (ha : PE X a (TE X.K G T x E)) (hb : PE X b (TE X.K G T y E)) (hc : PE X c (TE X.K G T z E)) :
    PE X (.Compare a [o, o'] [b, c] pos) (TE X.K G T (.chain (copIn o) (copIn o') x y z) E) ∧ PT X (.Compare a [o, o'] [b, c] pos) (TT X.K G T (.chain (copIn o) (copIn o') x y z) E) := by
  have l := loc (X := X) (G := G) O.un (copIn o)
  have l' := loc (X := X) (G := G) O.un (copIn o')
  rw [copIn_ok] at l l'
  refine ⟨(pe_chain l l' ha hb hc hm).imp ?_, (pt_chain l l' ha hb hc hm).imp ?_⟩
  · rintro σ H Q ⟨env, S, re, rs, h⟩
    refine TE.two ⟨env, S, re, rs, h⟩ fun v w S2 p q H2 t s r1 r2 h => ⟨v, w, S2, r1, r2, s, opC_mono (fun k h H3 t3 s3 => ⟨k, rfl, ?_⟩) h⟩
    cases k with
    | false => exact h _ _ (t.trans t3) s3 rfl
    | true =>
      refine ⟨env, S2, re.mono (t.trans t3), s3, wE_mono z (fun w' S4 h4 u4 H4 t4 s4 r4 => ?_) (fun _ _ z => z) h⟩
      exact ⟨w, w', S4, r2.mono (t3.trans t4), r4, s4, opC_mono (fun k h H5 t5 s5 => h _ _ (((t.trans t3).trans t4).trans t5) s5 rfl) h4⟩
  · rintro σ H Q ⟨env, S, re, rs, h⟩
    refine TE.two ⟨env, S, re, rs, h⟩ fun v w S2 p q H2 t s r1 r2 h => ⟨v, w, S2, r1, r2, s, opC_mono (fun k h H3 t3 s3 => ⟨k, rfl, ?_⟩) h⟩
    cases k with
    | false => exact ⟨false, rfl, h _ (t.trans t3) s3⟩
    | true =>
      refine ⟨env, S2, re.mono (t.trans t3), s3, wE_mono z (fun w' S4 h4 u4 H4 t4 s4 r4 => ?_) (fun _ _ z => z) h⟩
      exact ⟨w, w', S4, r2.mono (t3.trans t4), r4, s4, opC_mono (fun k h H5 t5 s5 => ⟨k, rfl, h _ (((t.trans t3).trans t4).trans t5) s5⟩) h4⟩
theorem and_pe {f : Expr → Option Ex} {pos : Pos} : ∀ {es : List Expr} {x : Ex}, (∀ e ∈ es, ∀ y, f e = some y → PE X e (TE X.K G T y E) ∧ PT X e (TT X.K G T y E)) → cB f .andd es = some x →
    PE X (.BoolOp .And es pos) (TE X.K G T x E) ∧ PW X (.BoolOp .And es pos) (TT X.K G T x E)
  | [], _, _, h => by cases h
  | [e], x, k, h => by
    obtain ⟨a, b⟩ := k e List.mem_cons_self x h
    exact ⟨pe_one a, pw_and1 b⟩
  | e :: e2 :: es, _, k, h => by
    unfold cB at h
    split at h
    · cases h
      rename_i x y h1 h2
      obtain ⟨a, b⟩ := k e List.mem_cons_self x h1
      obtain ⟨a2, b2⟩ := and_pe (es := e2 :: es) (fun e he => k e (List.mem_cons_of_mem _ he)) h2
      refine ⟨(pe_andT a a2).imp ?_, ?_⟩
      · rintro σ H Q ⟨env, S, re, rs, h⟩
        refine ⟨env, S, re, rs, wE_mono x (fun v S1 h1 u H1 t1 s1 r1 => ?_) (fun _ _ z => z) h⟩
        obtain ⟨k, p, q⟩ := tru_of s1 r1 h1
        refine ⟨k, p, ?_⟩
        cases k with
        | true => exact ⟨env, S1, re.mono t1, s1, wE_mono y (fun _ _ => up_tm t1) (fun _ _ z => z) q⟩
        | false => exact q _ _ t1 s1 r1
      · refine ⟨fun wh pins s σ H Q I h => (pw_and b b2).run wh pins s σ H Q I ?_⟩
        obtain ⟨env, S, re, rs, h⟩ := h
        refine ⟨env, S, re, rs, wT_mono x (fun v S1 h1 H1 t1 s1 => ?_) (fun _ _ z => z) h⟩
        cases v with
        | true => exact ⟨env, S1, re.mono t1, s1, wT_mono y (fun _ _ => upB_tm t1) (fun _ _ z => z) h1⟩
        | false => exact h1 _ t1 s1
    · cases h
theorem or_pe {f : Expr → Option Ex} {pos : Pos} : ∀ {es : List Expr} {x : Ex}, (∀ e ∈ es, ∀ y, f e = some y → PE X e (TE X.K G T y E) ∧ PT X e (TT X.K G T y E)) → cB f .orr es = some x →
    PE X (.BoolOp .Or es pos) (TE X.K G T x E) ∧ PW X (.BoolOp .Or es pos) (TT X.K G T x E)
  | [], _, _, h => by cases h
  | [e], x, k, h => by
    obtain ⟨a, b⟩ := k e List.mem_cons_self x h
    exact ⟨pe_one a, pw_or1 b⟩
  | e :: e2 :: es, _, k, h => by
    unfold cB at h
    split at h
    · cases h
      rename_i x y h1 h2
      obtain ⟨a, b⟩ := k e List.mem_cons_self x h1
      obtain ⟨a2, b2⟩ := or_pe (es := e2 :: es) (fun e he => k e (List.mem_cons_of_mem _ he)) h2
      refine ⟨(pe_orT a a2).imp ?_, ?_⟩
      · rintro σ H Q ⟨env, S, re, rs, h⟩
        refine ⟨env, S, re, rs, wE_mono x (fun v S1 h1 u H1 t1 s1 r1 => ?_) (fun _ _ z => z) h⟩
        obtain ⟨k, p, q⟩ := tru_of s1 r1 h1
        refine ⟨k, p, ?_⟩
        cases k with
        | false => exact ⟨env, S1, re.mono t1, s1, wE_mono y (fun _ _ => up_tm t1) (fun _ _ z => z) q⟩
        | true => exact q _ _ t1 s1 r1
      · refine ⟨fun wh pins s σ H Q I h => (pw_or b b2).run wh pins s σ H Q I ?_⟩
        obtain ⟨env, S, re, rs, h⟩ := h
        refine ⟨env, S, re, rs, wT_mono x (fun v S1 h1 H1 t1 s1 => ?_) (fun _ _ z => z) h⟩
        cases v with
        | false => exact ⟨env, S1, re.mono t1, s1, wT_mono y (fun _ _ => upB_tm t1) (fun _ _ z => z) h1⟩
        | true => exact h1 _ t1 s1
    · cases h
theorem E_K {Y : Cx} {e : Expr} {x : Ex} (hK : Y.K = X.K) (h : PE Y e (TE Y.K G T x E)) : PE Y e (TE X.K G T x E) := hK ▸ h
theorem T_K {Y : Cx} {e : Expr} {x : Ex} (hK : Y.K = X.K) (h : PT Y e (TT Y.K G T x E)) : PT Y e (TT X.K G T x E) := hK ▸ h
theorem G_K {Y : Cx} {e : Expr} {g : Tg} (hK : Y.K = X.K) (h : PG Y e (GT Y.K g)) : PG Y e (GT X.K g) := hK ▸ h
end
theorem call_ok {X : Cx} {G : Gn} {T : Tb} {C : Cc} {E : EE} (O : CtxOk G T C X) (tk : TakesB X G E) {f : Expr → Option Ex} (IH : ∀ e x, f e = some x → plainE e = true ∧ PE X e (TE X.K G T x E)) {x : Str} {a : Expr} {as : List Expr} {ex : Ex} {p pos : Pos}
    (h : cCall C f x (a :: as) = some ex) : PE X (.Call (.Name x p) (a :: as) [] pos) (TE X.K G T ex E) := by
  unfold cCall at h
  split at h
  · cases h
  · rename_i hg
    obtain ⟨g1, g2, g3⟩ := isGl_ok O hg
    split at h
    · rename_i hx
      have hx := beq_iff_eq.mp hx
      subst hx
      unfold cIs at h
      split at h
      · rename_i b t p2 e
        split at h
        · rename_i ty y h1 h2 h3
          cases h
          cases e
          rw [Bool.and_eq_true] at h1
          obtain ⟨pl, pe⟩ := IH _ _ h3
          exact isty_pe O h2 h1.1 hg pl pe
        · cases h
      · cases h
    · split at h
      · rename_i q hq
        split at h
        · rename_i as' hh ha
          cases h
          obtain ⟨pa, pl⟩ := args_of IH ha
          obtain ⟨k, hr, F⟩ := O.room hh
          exact call_pe hr (F _ (lkMem hq)) tk g1 g2 pa pl
        · cases h
      · split at h
        · rename_i b as' hb ha
          split at h
          · rename_i hc
            cases h
            obtain ⟨pa, pl⟩ := args_of IH ha
            exact blt_pe O hb hc hg pa pl
          · cases h
        · cases h
theorem cE_ok {G : Gn} {T : Tb} : ∀ (n : Nat) {C : Cc} {X : Cx} {e : Expr} {x : Ex} {E : EE}, CtxOk G T C X → TakesB X G E → cE n C e = some x → PE X e (TE X.K G T x E) ∧ PT X e (TT X.K G T x E)
  | 0, _, _, _, _, _, _, _, h => by cases h
  | n + 1, C, X, e, x, E, O, tk, h => by
    have IH : ∀ (e : Expr) (x : Ex), cE n C e = some x → PE X e (TE X.K G T x E) ∧ PT X e (TT X.K G T x E) := fun e x h => cE_ok n O tk h
    have IHp : ∀ e x, cE n C e = some x → plainE e = true ∧ PE X e (TE X.K G T x E) := fun e x h => ⟨cE_plain h, (IH e x h).1⟩
    have both : ∀ {e : Expr}, PE X e (TE X.K G T x E) → (∀ whole, isTrue e X.env whole = (do let v ← whole; standAt e.pos; holding [v] (truthy v))) → PE X e (TE X.K G T x E) ∧ PT X e (TT X.K G T x E) := fun h he => ⟨h, pt_of_pe h he⟩
    unfold cE at h
    have h0 := orDead_some h
    clear h
    rcases h0 with h | ⟨rfl, _⟩
    rotate_left
    · exact ⟨⟨fun _ _ _ _ _ _ ⟨_, _, _, _, z⟩ => z.elim⟩, ⟨fun _ _ _ _ _ _ ⟨_, _, _, _, z⟩ => z.elim⟩⟩
    split at h
    · exact both (name_pe O h) fun _ => rfl
    · rename_i c k p
      cases q : constIn c with
      | none => rw [q] at h; cases h
      | some v =>
        rw [q] at h
        cases h
        exact both (const_pe q) fun _ => rfl
    · rename_i a op b p
      split at h
      · rename_i o y z h1 h2 h3
        cases h
        rw [← bopIn_ok h1]
        exact both (bin_pe (IH _ _ h2).1 (IH _ _ h3).1) fun _ => rfl
      · cases h
    · rename_i a p
      cases q : cE n C a with
      | none => rw [q] at h; cases h
      | some y =>
        rw [q] at h
        cases h
        exact both (neg_pe (IH _ _ q).1) fun _ => rfl
    · rename_i a p
      cases q : cE n C a with
      | none => rw [q] at h; cases h
      | some y =>
        rw [q] at h
        cases h
        exact not_pe (IH _ _ q).1 (IH _ _ q).2
    · rename_i a b r p
      obtain ⟨h1, h2⟩ := and_pe (pos := p) (fun e _ y hy => IH e y hy) h
      exact ⟨h1, h2.pt⟩
    · rename_i a b r p
      obtain ⟨h1, h2⟩ := or_pe (pos := p) (fun e _ y hy => IH e y hy) h
      exact ⟨h1, h2.pt⟩
    · rename_i a op b p
      split at h
      · rename_i y z h1 h2
        cases h
        exact cmp_pe O (mark_plain (cE_plain h2)) (IH _ _ h1).1 (IH _ _ h2).1
      · cases h
    · rename_i a op op' b c p
      split at h
      · rename_i y z u h1 h2 h3
        cases h
        exact chain_pe O (mark_plain (cE_plain h3)) (IH _ _ h1).1 (IH _ _ h2).1 (IH _ _ h3).1
      · cases h
    · rename_i t a b p
      split at h
      · rename_i y z u h1 h2 h3
        cases h
        refine ⟨ife_pe (IH _ _ h1).2 (IH _ _ h2).1 (IH _ _ h3).1, ⟨fun pins s σ H Q I ⟨_, _, _, _, w⟩ => w.elim⟩⟩
      · cases h
    · rename_i x' p a as pos
      exact both (call_ok O tk IHp h) fun _ => rfl
    · rename_i a lo hi p2 p
      split at h
      · rename_i y l u h1 h2 h3
        cases h
        exact both (slc_pe (IH _ _ h1).1 (part_po h2 fun b x _ hb => (IH _ _ hb).1) (part_po h3 fun b x _ hb => (IH _ _ hb).1)) fun _ => rfl
      · cases h
    · rename_i a i p _
      split at h
      · rename_i y z h1 h2 h3
        cases h
        exact both (idx_pe h1 (IH _ _ h2).1 (IH _ _ h3).1) fun _ => rfl
      · cases h
    · rename_i es p
      split at h
      · rename_i as h1 h2
        cases h
        exact both (lst_pe (by rw [cL_len h2]; exact of_decide_eq_true h1) (args_of IHp h2).1) fun _ => rfl
      · cases h
    · rename_i es k p
      split at h
      · rename_i as h1 h2
        cases h
        exact both (tup_pe (by rw [cL_len h2]; exact of_decide_eq_true h1) (args_of IHp h2).1) fun _ => rfl
      · cases h
    · rename_i elt tg iter ifs scope p
      split at h
      · cases h
      · rename_i hz
        simp only [Bool.or_eq_false_iff, Bool.not_eq_false'] at hz
        obtain ⟨⟨hh, hb⟩, hset⟩ := hz
        split at h
        · rename_i k as g y h1 h2 h3
          split at h
          · rename_i hs
            have hs' : ∀ i ∈ g.slots, i ∈ (ownOf C scope).map (·.2) := fun i hi => List.contains_iff_mem.mp (List.all_eq_true.mp hs i hi)
            have hbk := blkOk_by hb
            have pg : ∀ Y, CtxOk G T (blkCc C scope) Y → Y.K = X.K → PG Y tg (GT X.K g) := fun Y OY hK => G_K hK (tg_pg OY h2)
            have pe : ∀ Y, CtxOk G T (blkCc C scope) Y → Y.K = X.K → PE Y elt (TE X.K G T y E0) := fun Y OY hK => E_K hK (cE_ok n OY takes_E0 h3).1
            split at h
            · cases h
              refine both (comp_pe O hh hbk hs' (it_ok O IHp h1) hset pg (fun Y OY hK => ⟨fun pins s σ H Q I q => pts_nil.run pins s σ H Q I ?_⟩) pe) fun _ => rfl
              obtain ⟨_, _, _, rs, q⟩ := q
              exact q _ .refl rs
            · rename_i c
              cases q : cE n (blkCc C scope) c with
              | none => rw [q] at h; cases h
              | some z =>
                rw [q] at h
                cases h
                exact both (comp_pe O hh hbk hs' (it_ok O IHp h1) hset pg (fun Y OY hK => pts_one (T_K hK (cE_ok n OY takes_E0 q).2)) pe) fun _ => rfl
            · cases h
          · cases h
        · cases h
    · cases h
end BW
set_option Elab.async false
set_option linter.all false
set_option maxRecDepth 100000
set_option maxHeartbeats 4000000
namespace BW
open PySem PySem.Spec PyProof.Rows L2
/-! ### statements of the text -/
def isComp : Expr → Bool
  | .ListComp _ _ _ _ => true
  | .SetComp _ _ _ _ => true
  | .DictComp _ _ _ _ _ => true
  | _ => false
def bmTab : List ((Str × Nat) × Bm) := [(("append", 1), .append), (("extend", 1), .extend), (("clear", 0), .clear), (("reverse", 0), .reverse)]
def baseOk : Expr → Bool
  | .Call (.Name _ _) [] [] _ => false
  | _ => true
def isTupE : Expr → Bool
  | .Tuple _ _ _ => true
  | _ => false
/-- the comprehension's list goes to a name of the def's own -/
def swB (C : Cc) (x : Str) (px : Pos) (e : Expr) : Bool := match e with
  | .ListComp _ _ scope pos => decide (C.sc.names.lookup x = some .local) && px.line == pos.line && !(scope.names.any fun q => q.1 == x && (q.2 == .local || q.2 == .cell))
  | _ => false
def cSs (f : Stmt → Option Sx) : List Stmt → Option Sx
  | [] => some .skip
  | [s] => f s
  | s :: r => match f s, cSs f r with
    | some a, some b => some (.seq a b)
    | _, _ => none
def augOk : Operator → Option Bop
  | .Add => some .add
  | .Mult => some .mul
  | _ => none
def parB (C : Cc) (x y : Str) (px py : Pos) (a b : Expr) : Bool := decide (C.sc.names.lookup x = some .local) && decide (C.sc.names.lookup y = some .local) && py.line == px.line && !(x == y) && !([a, b].all (foldedForSure 8)) && !([a, b].all (constantsAlone 8))
def cExS (C : Cc) (f : Expr → Option Ex) (e : Expr) : Option Sx := match isComp e with
  | true => none
  | false => (f e).map .expr
def cBm (C : Cc) (f : Expr → Option Ex) (m : Str) (o : Expr) (args : List Expr) (b : Bool) : Option Sx := match bmTab.lookup (m, args.length), baseOk o && b with
  | some b, true => match f o, cL f args with
    | some x, some as => some (.bm b x as)
    | _, _ => none
  | _, _ => none
def isBm (m : Str) (n : Nat) : Bool := (bmTab.lookup (m, n)).isSome
def cExpr (C : Cc) (f : Expr → Option Ex) (e : Expr) : Option Sx := match e with
  | .Call (.Attribute o m apos) args [] cpos => match isBm m args.length with
    | true => cBm C f m o args (apos.endLine == cpos.line)
    | false => cExS C f (.Call (.Attribute o m apos) args [] cpos)
  | e => cExS C f e
def cAsgN (C : Cc) (f : Expr → Option Ex) (x : Str) (px : Pos) (e : Expr) (pos : Pos) : Option Sx := match cTn C x, f e with
  | some i, some y => match swB C x px e && (px.line == pos.line) with
    | true => some (.asg (.nm i) y)
    | false => match isComp e with
      | true => none
      | false => some (.asg (.nm i) y)
  | _, _ => none
def cPar (C : Cc) (f : Expr → Option Ex) : List Expr → List Expr → Option Sx
  | [.Name x px, .Name y py], [a, b] => match parB C x y px py a b && !C.hot with
    | true => match ixOf x C.N, ixOf y C.N, f a, f b with
      | some i, some j, some u, some v => some (.par i j u v)
      | _, _, _, _ => none
    | false => none
  | _, _ => none
def tupOf : Expr → Option (List Expr)
  | .Tuple es _ _ => some es
  | _ => none
def cAsgT (C : Cc) (f : Expr → Option Ex) (tg : Expr) (e : Expr) : Option Sx := match isComp e with
  | true => none
  | false => match cTg C tg, f e with
    | some g, some y => some (.asg g y)
    | _, _ => none
def cAsg (C : Cc) (f : Expr → Option Ex) (ts : List Expr) (e : Expr) (pos : Pos) : Option Sx := match ts with
  | [.Name x px] => cAsgN C f x px e pos
  | [.Tuple ts k p] => match tupOf e with
    | some es => cPar C f ts es
    | none => cAsgT C f (.Tuple ts k p) e
  | _ => none
def cAug (C : Cc) (f : Expr → Option Ex) (t : Expr) (op : Operator) (e : Expr) : Option Sx := match t with
  | .Name x _ => match cTn C x, augOk op, f e with
    | some i, some o, some y => some (.augN i o y)
    | _, _, _ => none
  | _ => none
def cIf (c : Option Ex) (a b : Option Sx) : Option Sx := match c, a, b with
  | some x, some y, some z => some (.ite x y z)
  | _, _, _ => none
def cWhl (c : Option Ex) (a : Option Sx) (b : List Stmt) : Option Sx := match b, c, a with
  | [], some x, some y => some (.whl x y)
  | _, _, _ => none
def cFor (C : Cc) (f : Expr → Option Ex) (tg it : Expr) (a : Option Sx) (b : List Stmt) : Option Sx := match C.hot || isSet it with
  | true => none
  | false => match b, cIt C f (isTup tg) it, cTg C tg, a with
    | [], some (k, as), some g, some y => some (.for_ g k as y)
    | _, _, _, _ => none
def cRet (f : Expr → Option Ex) : Option Expr → Option Sx
  | none => some .retN
  | some e => (f e).map .ret
def orDeadS : Option Sx → Option Sx
  | some x => some x
  | none => some (.expr .nil)
theorem orDeadS_some {o : Option Sx} {x : Sx} (h : orDeadS o = some x) : o = some x ∨ x = .expr .nil := by
  unfold orDeadS at h
  split at h
  · exact .inl h
  · cases h; exact .inr rfl
def cS : Nat → Cc → Stmt → Option Sx
  | 0, _, _ => none
  | n + 1, C, st => orDeadS (match st with
    | .Pass _ => some .skip
    | .Break _ => some .brk
    | .Continue _ => some .cnt
    | .Return e _ => cRet (cE n C) e
    | .Expr e _ => cExpr C (cE n C) e
    | .Assign ts e pos => cAsg C (cE n C) ts e pos
    | .AugAssign t op e _ => cAug C (cE n C) t op e
    | .If c a b _ => cIf (cE n C c) (cSs (cS n C) a) (cSs (cS n C) b)
    | .While c b el _ => cWhl (cE n C c) (cSs (cS n C) b) el
    | .For tg it b el _ => cFor C (cE n C) tg it (cSs (cS n C) b) el
    | _ => none)
/-! ### what a statement means -/
def low (K : PySem.W.Frag) (G : Gn) (H : Hp) (D : Ends) (E : EE) : Post where
  nx := fun env S' => ∀ σ' H', TM H H' → RS K G H' S' → RE K H' env σ' → D.nx σ' H'
  rt := fun v S' => ∀ z H', TM H H' → RS K G H' S' → RV K H' v z → D.rt z H'
  bk := fun env S' => ∀ σ' H', TM H H' → RS K G H' S' → RE K H' env σ' → D.bk σ' H'
  ct := fun env S' => ∀ σ' H', TM H H' → RS K G H' S' → RE K H' env σ' → D.ct σ' H'
  ex := E
def TSx (K : PySem.W.Frag) (G : Gn) (T : Tb) (s : Sx) (E : EE) : L2.TS := fun D σ H => ∃ env S, RE K H env σ ∧ RS K G H S ∧ wS T s env S (low K G H D E)
theorem low_tm {K : PySem.W.Frag} {G : Gn} {H H' : Hp} {D : Ends} {E : EE} (t : TM H H') : Post.Le (low K G H D E) (low K G H' D E) :=
  ⟨fun _ _ h σ H2 t2 => h σ H2 (t.trans t2), fun _ _ h z H2 t2 => h z H2 (t.trans t2), fun _ _ h σ H2 t2 => h σ H2 (t.trans t2), fun _ _ h σ H2 t2 => h σ H2 (t.trans t2), fun _ _ _ h => h⟩
section
variable {X : Cx} {G : Gn} {T : Tb} {C : Cc} {E : EE}
theorem skip_ps {st : Stmt} (h : PS X st tNext) : PS X st (TSx X.K G T .skip E) := h.imp fun D σ H ⟨env, S, re, rs, h⟩ => h σ H .refl rs re
theorem ret_ps {e : Expr} {x : Ex} {pos : Pos} (h : PE X e (TE X.K G T x E)) : PS X (.Return (some e) pos) (TSx X.K G T (.ret x) E) := (ps_ret h).imp fun D σ H h => h
theorem retN_ps {pos : Pos} : PS X (.Return none pos) (TSx X.K G T .retN E) := ps_retN.imp fun D σ H ⟨env, S, re, rs, h⟩ => h .non H .refl rs rfl
theorem brk_ps {pos : Pos} : PS X (.Break pos) (TSx X.K G T .brk E) := ps_break.imp fun D σ H ⟨env, S, re, rs, h⟩ => h σ H .refl rs re
theorem cnt_ps {pos : Pos} : PS X (.Continue pos) (TSx X.K G T .cnt E) := ps_continue.imp fun D σ H ⟨env, S, re, rs, h⟩ => h σ H .refl rs re
theorem seq_pss {st : Stmt} {r : List Stmt} {a b : Sx} (h1 : PS X st (TSx X.K G T a E)) (h2 : PSs X r (TSx X.K G T b E)) : PSs X (st :: r) (TSx X.K G T (.seq a b) E) := by
  refine (pss_cons h1 h2).imp ?_
  rintro D σ H ⟨env, S, re, rs, h⟩
  refine ⟨env, S, re, rs, wS_mono a ?_ h⟩
  exact ⟨fun env' S' h σ' H' t s r => ⟨env', S', r, s, wS_mono b (low_tm t) h⟩, fun _ _ h => h, fun _ _ h => h, fun _ _ h => h, fun _ _ _ h => h⟩
theorem block_pss {f : Stmt → Option Sx} : ∀ {l : List Stmt} {s : Sx}, (∀ st ∈ l, ∀ x, f st = some x → PS X st (TSx X.K G T x E)) → cSs f l = some s → PSs X l (TSx X.K G T s E)
  | [], _, _, h => by cases h; exact pss_nil.imp fun D σ H ⟨env, S, re, rs, h⟩ => h σ H .refl rs re
  | [st], s, k, h => pss_one (k st List.mem_cons_self s h)
  | st :: s2 :: r, s, k, h => by
    unfold cSs at h
    split at h
    · cases h
      rename_i a b h1 h2
      exact seq_pss (k st List.mem_cons_self a h1) (block_pss (fun q hq => k q (List.mem_cons_of_mem _ hq)) h2)
    · cases h
theorem ite_ps {c : Expr} {x : Ex} {a b : List Stmt} {y z : Sx} {pos : Pos} (hc : PT X c (TT X.K G T x E)) (ha : PSs X a (TSx X.K G T y E)) (hb : PSs X b (TSx X.K G T z E)) : PS X (.If c a b pos) (TSx X.K G T (.ite x y z) E) := by
  refine (ps_if hc ha hb).imp ?_
  rintro D σ H ⟨env, S, re, rs, h⟩
  refine ⟨env, S, re, rs, wT_mono x (fun t S1 h1 H1 t1 s1 => ?_) (fun _ _ z => z) h⟩
  cases t with
  | true => exact ⟨env, S1, re.mono t1, s1, wS_mono y (low_tm t1) h1⟩
  | false => exact ⟨env, S1, re.mono t1, s1, wS_mono z (low_tm t1) h1⟩
theorem whl_ps {c : Expr} {x : Ex} {b : List Stmt} {y : Sx} {pos : Pos} (po : PassesOwn (model X.prog X.w) X.A X.env X.xe) (hc : PT X c (TT X.K G T x E)) (hb : PSs X b (TSx X.K G T y E)) : PS X (.While c b [] pos) (TSx X.K G T (.whl x y) E) := by
  refine (ps_while po hc hb).imp ?_
  rintro D σ H ⟨env, S, re, rs, W, ⟨m0, w0⟩, h⟩
  refine ⟨fun m σ' H' => TM H H' ∧ ∃ env S, RE X.K H' env σ' ∧ RS X.K G H' S ∧ W m env S, ⟨m0, .refl, env, S, re, rs, w0⟩, ?_⟩
  rintro m σ' H' ⟨t, env', S', re', rs', w⟩
  refine ⟨env', S', re', rs', wT_mono x (fun b S1 h1 H1 t1 s1 => ?_) (fun _ _ z => z) (h m env' S' w)⟩
  cases b with
  | false => exact h1 _ _ (t.trans t1) s1 (re'.mono t1)
  | true =>
    refine ⟨fun σ2 H2 => ∃ m', m' < m ∧ TM H H2 ∧ ∃ env S, RE X.K H2 env σ2 ∧ RS X.K G H2 S ∧ W m' env S, fun σ2 H2 h => h, env', S1, re'.mono t1, s1, wS_mono y ?_ h1⟩
    have tt := t.trans t1
    exact ⟨fun e2 S2 ⟨m', hm, w2⟩ σ2 H2 t2 s2 r2 => ⟨m', hm, tt.trans t2, e2, S2, r2, s2, w2⟩, fun _ _ q z H2 t2 => q z H2 (tt.trans t2), fun _ _ q σ2 H2 t2 => q σ2 H2 (tt.trans t2), fun e2 S2 ⟨m', hm, w2⟩ σ2 H2 t2 s2 r2 => ⟨m', hm, tt.trans t2, e2, S2, r2, s2, w2⟩, fun _ _ _ q => q⟩
theorem for_ps {tg it : Expr} {g : Tg} {k : ItK} {as : Ex} {b : List Stmt} {y : Sx} {pos : Pos} (po : PassesOwn (model X.prog X.w) X.A X.env X.xe) (hc : X.calm = true) (hset : isSet it = false) (hi : PI X tg it (TI X.K G T k as E)) (hg : PG X tg (GT X.K g))
    (hb : PSs X b (TSx X.K G T y E)) : PS X (.For tg it b [] pos) (TSx X.K G T (.for_ g k as y) E) := by
  refine (ps_for po hc hi hg hb (fold_plain hset)).imp ?_
  rintro D σ H ⟨env, S, re, rs, h⟩
  refine ⟨env, S, re, rs, wA_mono as (fun vs S1 h1 => itK_mono (fun Gd items hh H1 J t1 s1 wk => ?_) h1) (fun _ _ z => z) h⟩
  refine ⟨fun i m σ' H' => m = items.length - i ∧ i ≤ items.length ∧ TM H1 H' ∧ ∃ env' S', RE X.K H' env' σ' ∧ RS X.K G H' S' ∧ wFor Gd (tgt g) (wS T y) (low X.K G H D E) (items.drop i) env' S', ⟨_, rfl, Nat.zero_le _, .refl, env, S1, re.mono t1, s1, hh⟩, ?_⟩
  rintro i m σ' H' ⟨rfl, hi, tH, env', S', re', rs', w⟩
  by_cases hlt : i < items.length
  · rw [List.drop_eq_getElem_cons hlt] at w
    obtain ⟨gd, w⟩ := w
    refine .inr ⟨wk.go H' S' i tH rs' gd hlt, fun σ2 H2 => ∃ m', m' < items.length - i ∧ m' = items.length - (i + 1) ∧ i + 1 ≤ items.length ∧ TM H1 H2 ∧ ∃ env' S', RE X.K H2 env' σ2 ∧ RS X.K G H2 S' ∧ wFor Gd (tgt g) (wS T y) (low X.K G H D E) (items.drop (i + 1)) env' S', fun _ _ h => h, fun x H2 yy => ?_⟩
    obtain ⟨t2, rs2, rv⟩ := wk.yld H' S' i x H2 _ tH rs' gd yy (List.getElem?_eq_getElem hlt)
    refine ⟨_, _, rv, re'.mono t2, tgt_mono (fun e2 h2 σ3 re3 _ => ⟨e2, S', re3, rs2, wS_mono y ?_ h2⟩) w⟩
    have tt := tH.trans t2
    have t0 := t1.trans tt
    exact ⟨fun e4 S4 w4 σ4 H4 t4 s4 r4 => ⟨_, by omega, rfl, hlt, tt.trans t4, e4, S4, r4, s4, w4⟩, fun _ _ q z H4 t4 => q z H4 (t0.trans t4), fun _ _ q σ4 H4 t4 => q σ4 H4 (t0.trans t4), fun e4 S4 w4 σ4 H4 t4 s4 r4 => ⟨_, by omega, rfl, hlt, tt.trans t4, e4, S4, r4, s4, w4⟩, fun _ _ _ q => q⟩
  · have e : i = items.length := by omega
    subst e
    rw [List.drop_length] at w
    exact .inl ⟨wk.stop H' S' tH rs' w.1, w.2 _ _ (t1.trans tH) rs' re'⟩
/-! ### stores -/
theorem swaps_plain {e : Expr} {t : Option Expr} {l : Nat} {env : Env} (h : isComp e = false) : swapsWith e t l env = pure false := by
  cases e <;> first | rfl | cases h
theorem asg_red {g : Tg} {x : Ex} {D : Ends} {σ : St} {H : Hp} (h : TSx X.K G T (.asg g x) E D σ H) : tAsg (TE X.K G T x E) (GT X.K g) D σ H := by
  obtain ⟨env, S, re, rs, h⟩ := h
  refine ⟨env, S, re, rs, wE_mono x (fun v S1 h1 u H1 t1 s1 r1 => ?_) (fun _ _ z => z) h⟩
  exact ⟨v, env, r1, re.mono t1, tgt_mono (fun e2 h2 σ2 re2 _ => h2 _ _ t1 s1 re2) h1⟩
theorem asg_nm_red {i : Nat} {x : Ex} {D : Ends} {σ : St} {H : Hp} (h : TSx X.K G T (.asg (.nm i) x) E D σ H) : tAsg (TE X.K G T x E) (gName i) D σ H := by
  obtain ⟨env, S, re, rs, h⟩ := h
  exact ⟨env, S, re, rs, wE_mono x (fun v S1 h1 u H1 t1 s1 r1 => h1 _ _ t1 s1 ((re.mono t1).set r1)) (fun _ _ z => z) h⟩
theorem set_ps {x : Str} {i : Nat} {e : Expr} {y : Ex} {px pos : Pos} (O : CtxOk G T C X) (hi : cTn C x = some i) (hs : swapsWith e (some (.Name x px)) pos.line X.env = pure false) (he : PE X e (TE X.K G T y E)) : PS X (.Assign [.Name x px] e pos) (TSx X.K G T (.asg (.nm i) y) E) := by
  obtain ⟨z1, z2, z3⟩ := tn_ok O hi
  exact (ps_set (by rw [O.hN]; exact O.nd) z1 z2 he hs z3).imp fun D σ H h => asg_nm_red h
theorem tup_ps {ts : List Expr} {k : Nat} {p pos : Pos} {e : Expr} {y : Ex} {g : Tg} (O : CtxOk G T C X) (ht : isTupE e = false) (hc : isComp e = false) (hg : cTg C (.Tuple ts k p) = some g) (he : PE X e (TE X.K G T y E)) : PS X (.Assign [.Tuple ts k p] e pos) (TSx X.K G T (.asg g y) E) := by
  have hw : swappedStores [.Tuple ts k p] e X.env = pure none := by
    cases e <;> first | rfl | cases ht
  have hs : swapsWithSole [.Tuple ts k p] e pos.line X.env = pure false := by
    unfold swapsWithSole
    exact swaps_plain hc
  exact (ps_asg he (tg_pg O hg) hs hw rfl).imp fun D σ H h => asg_red h
theorem swapped2 {x y : Str} {px py pt pt2 : Pos} {kt k2 : Nat} {a b : Expr} {env : Env} (hk : env.scope.kind = .function) (hx : env.scope.names.lookup x = some .local) (hy : env.scope.names.lookup y = some .local) (hl : (py.line == px.line) = true) (hxy : (x == y) = false)
    (ha : plainE a = true) (hb : plainE b = true) (hf : ([a, b].all (foldedForSure 8)) = false) (hc : ([a, b].all (constantsAlone 8)) = false) : swappedStores [.Tuple [.Name x px, .Name y py] kt pt] (.Tuple [a, b] k2 pt2) env = pure (some [x, y]) := by
  have st : ([a, b].any fun | .Starred .. => true | _ => false) = false := by
    have q : ∀ {e : Expr}, plainE e = true → (match e with | .Starred .. => true | _ => false) = false := by
      intro e h
      cases e <;> first | rfl | (cases h; done)
    simp only [List.any_cons, List.any_nil, Bool.or_false, Bool.or_eq_false_iff]
    exact ⟨q ha, q hb⟩
  have kx : (env.kindOf x == some .local) = true := by show (env.scope.names.lookup x == some .local) = true; rw [hx]; rfl
  have ky : (env.kindOf y == some .local) = true := by show (env.scope.names.lookup y == some .local) = true; rw [hy]; rfl
  have bk : (env.blockKind != .function) = false := by
    unfold Env.blockKind
    rw [hk]
    rfl
  have ed : ([x, y] : List Str).eraseDups.length = 2 := by
    have hyx : (y == x) = false := by
      rw [beq_eq_false_iff_ne] at hxy ⊢
      exact fun e => hxy e.symm
    simp [List.eraseDups, List.eraseDupsBy, List.eraseDupsBy.loop, hyx]
  unfold swappedStores
  dsimp only
  rw [bk]
  refine (if_neg (by intro h; cases h)).trans ((if_neg (fun h => Bool.noConfusion (st.symm.trans h))).trans ?_)
  simp only [List.length_cons, List.length_nil, bne_self_eq_false, Bool.or_false, List.head?_cons, Option.map_some, Option.getD_some]
  simp only [List.filterMap_cons, List.filterMap_nil, kx, ky, hl, hf, hc, Expr.pos]
  simp [ed, hl]
theorem par_ps {x y : Str} {i j : Nat} {px py pt pt2 pos : Pos} {kt k2 : Nat} {a b : Expr} {u v : Ex} (O : CtxOk G T C X) (hot : C.hot = false) (h : parB C x y px py a b = true) (hi : ixOf x C.N = some i) (hj : ixOf y C.N = some j) (pa : plainE a = true) (pb : plainE b = true)
    (ha : PE X a (TE X.K G T u E)) (hb : PE X b (TE X.K G T v E)) : PS X (.Assign [.Tuple [.Name x px, .Name y py] kt pt] (.Tuple [a, b] k2 pt2) pos) (TSx X.K G T (.par i j u v) E) := by
  unfold parB at h
  simp only [Bool.and_eq_true, Bool.not_eq_true', decide_eq_true_eq] at h
  obtain ⟨⟨⟨⟨⟨h1, h2⟩, h3⟩, h4⟩, h5⟩, h6⟩ := h
  rw [← O.sc] at h1 h2
  have hij : i ≠ j := by
    rintro rfl
    have e1 := ixOf_ok hi
    rw [ixOf_ok hj] at e1
    cases e1
    simp at h4
  have hw := swapped2 (px := px) (py := py) (pt := pt) (pt2 := pt2) (kt := kt) (k2 := k2) (env := X.env) (by rw [O.sc]; exact O.kind) h1 h2 h3 h4 pa pb h5 h6
  refine (ps_par (O.calm hot) (by rw [O.hN]; exact O.nd) (by rw [O.hN]; exact ixOf_ok hi) (by rw [O.hN]; exact ixOf_ok hj) hij h1 h2 (pa_cons ha (pa_cons hb pa_nil (star_cons pb)) (star_cons pa)) hw rfl).imp ?_
  rintro D σ H ⟨env, S, re, rs, h⟩
  refine TE.two (f := fun x y S2 => (low X.K G H D E).nx ((env.set i (some x)).set j (some y)) S2) ⟨env, S, re, rs, h⟩ fun v w S2 z1 z2 H2 t s r1 r2 h => ⟨z1, z2, rfl, ?_⟩
  exact h _ _ t s (((re.mono t).set r1).set r2)
end
end BW
set_option Elab.async false
set_option linter.all false
set_option maxRecDepth 100000
set_option maxHeartbeats 4000000
namespace BW
open PySem PySem.Spec PyProof.Rows L2
section
variable {X : Cx} {G : Gn} {T : Tb} {C : Cc} {E : EE}
/-! ### name = [..] with a comprehension -/
theorem asg_comp {i : Nat} {own : List Nat} {g : Tg} {k : ItK} {as cond elt : Ex} {hc : Bool} {D : Ends} {σ : St} {H : Hp} (hs : ∀ j ∈ g.slots, j ∈ own) (h : TSx X.K G T (.asg (.nm i) (.comp own g k as hc cond elt)) E D σ H) :
    tAsg (tLc (TI X.K G T k as E) (GT X.K g) (TC X.K G T hc cond) (TE X.K G T elt E0) own) (gName i) D σ H := comp_tlc hs (asg_nm_red h)
theorem comp_set {scope : Scope} {g : Tg} {k : ItK} {as cond elt : Ex} {hc : Bool} {tg iter el : Expr} {ifs : List Expr} {pos px spos : Pos} {x : Str} {i : Nat} (O : CtxOk G T C X) (hh : C.hot = false) (b : BlkOk C.N C.sc scope (ownOf C scope))
    (hi0 : cTn C x = some i) (hsw : swB C x px (.ListComp el [⟨tg, iter, ifs, 0⟩] scope pos) = true)
    (hs : ∀ i ∈ g.slots, i ∈ (ownOf C scope).map (·.2)) (hi : PI X tg iter (TI X.K G T k as E)) (hset : isSet iter = false)
    (hg : ∀ Y, CtxOk G T (blkCc C scope) Y → Y.K = X.K → PG Y tg (GT X.K g)) (ht : ∀ Y, CtxOk G T (blkCc C scope) Y → Y.K = X.K → PTs Y ifs (TC X.K G T hc cond)) (he : ∀ Y, CtxOk G T (blkCc C scope) Y → Y.K = X.K → PE Y el (TE X.K G T elt E0))
    (hl : (px.line == spos.line) = true := by rfl) :
    PS X (.Assign [.Name x px] (.ListComp el [⟨tg, iter, ifs, 0⟩] scope pos) spos) (TSx X.K G T (.asg (.nm i) (.comp ((ownOf C scope).map (·.2)) g k as hc cond elt)) E) := by
  have b' : BlkOk X.N X.env.scope scope (ownOf C scope) := by rw [O.hN, O.sc]; exact b
  unfold swB at hsw
  simp only [Bool.and_eq_true, Bool.not_eq_true', decide_eq_true_eq] at hsw
  obtain ⟨⟨h1, h2⟩, h3⟩ := hsw
  have h1' : X.env.scope.names.lookup x = some .local := by rw [O.sc]; exact h1
  have sw := sw_true (elt := el) (gs := [⟨tg, iter, ifs, 0⟩]) (scope := scope) (pos := pos) (py := px) (y := x) (l := spos.line) (env := X.env) (by rw [O.sc]; exact O.kind) h1' h2 h3
  obtain ⟨z1, _, _⟩ := tn_ok O hi0
  exact (ps_setLc (O.calm hh) (by rw [O.hN]; exact O.nd) z1 h1' sw hi b' (fun s H A cl fp => hg _ (blk_ok O hh b s H A cl fp) rfl) (fun s H A cl fp => ht _ (blk_ok O hh b s H A cl fp) rfl) (fun s H A cl fp => he _ (blk_ok O hh b s H A cl fp) rfl) (fold_plain hset)).imp fun D σ H h => asg_comp hs h
theorem cE_comp {n : Nat} {elt tg iter : Expr} {ifs : List Expr} {scope : Scope} {p : Pos} : cE (n + 1) C (.ListComp elt [⟨tg, iter, ifs, 0⟩] scope p) = orDead (.ListComp elt [⟨tg, iter, ifs, 0⟩] scope p) (match C.hot || !blkC C.N C.sc scope (ownOf C scope) || isSet iter with
      | true => none
      | false => match cIt C (cE n C) (isTup tg) iter, cTg (blkCc C scope) tg, cE n (blkCc C scope) elt with
        | some (k, as), some g, some x => if (g.slots.all fun i => ((ownOf C scope).map (·.2)).contains i) = true then match ifs with
          | [] => some (.comp ((ownOf C scope).map (·.2)) g k as false .nil x)
          | [c] => (cE n (blkCc C scope) c).map fun y => .comp ((ownOf C scope).map (·.2)) g k as true y x
          | _ => none
          else none
        | _, _, _ => none) := rfl
theorem set_comp (n : Nat) {scope : Scope} {tg iter el : Expr} {ifs : List Expr} {pos px spos : Pos} {x : Str} {i : Nat} {y : Ex} (O : CtxOk G T C X) (tk : TakesB X G E) (hi0 : cTn C x = some i) (hsw : swB C x px (.ListComp el [⟨tg, iter, ifs, 0⟩] scope pos) = true)
    (h : cE n C (.ListComp el [⟨tg, iter, ifs, 0⟩] scope pos) = some y) (hl : (px.line == spos.line) = true := by rfl) : PS X (.Assign [.Name x px] (.ListComp el [⟨tg, iter, ifs, 0⟩] scope pos) spos) (TSx X.K G T (.asg (.nm i) y) E) := by
  cases n with
  | zero => cases h
  | succ n =>
  have IHp : ∀ e x, cE n C e = some x → plainE e = true ∧ PE X e (TE X.K G T x E) := fun e x q => ⟨cE_plain q, (cE_ok n O tk q).1⟩
  rw [cE_comp] at h
  have h0 := orDead_some h
  clear h
  rcases h0 with h | ⟨rfl, _⟩
  rotate_left
  · exact ⟨fun _ _ _ _ _ _ ⟨_, _, _, _, z⟩ => z.elim⟩
  split at h
  · cases h
  · rename_i hz
    simp only [Bool.or_eq_false_iff, Bool.not_eq_false'] at hz
    obtain ⟨⟨hh, hb⟩, hset⟩ := hz
    split at h
    · rename_i k as g y h1 h2 h3
      split at h
      · rename_i hs
        have hs' : ∀ i ∈ g.slots, i ∈ (ownOf C scope).map (·.2) := fun i hi => List.contains_iff_mem.mp (List.all_eq_true.mp hs i hi)
        have hbk := blkOk_by hb
        have pg : ∀ Y, CtxOk G T (blkCc C scope) Y → Y.K = X.K → PG Y tg (GT X.K g) := fun Y OY hK => G_K hK (tg_pg OY h2)
        have pe : ∀ Y, CtxOk G T (blkCc C scope) Y → Y.K = X.K → PE Y el (TE X.K G T y E0) := fun Y OY hK => E_K hK (cE_ok n OY takes_E0 h3).1
        split at h
        · cases h
          refine comp_set O hh hbk hi0 hsw hs' (it_ok O IHp h1) hset pg (fun Y OY hK => ⟨fun pins s σ H Q I q => pts_nil.run pins s σ H Q I ?_⟩) pe hl
          obtain ⟨_, _, _, rs, q⟩ := q
          exact q _ .refl rs
        · rename_i c
          cases q : cE n (blkCc C scope) c with
          | none => rw [q] at h; cases h
          | some z =>
            rw [q] at h
            cases h
            exact comp_set O hh hbk hi0 hsw hs' (it_ok O IHp h1) hset pg (fun Y OY hK => pts_one (T_K hK (cE_ok n OY takes_E0 q).2)) pe hl
        · cases h
      · cases h
    · cases h
/-! ### name op= e -/
theorem pip_aug {op : Operator} {o : Bop} (h : augOk op = some o) : PIp X op (fun x y H Q => ∃ i j S, x = .int i ∧ y = .int j ∧ RS X.K G H S ∧ opB o (.int i) (.int j) S (up X.K G H Q)) := by
  intro pins s σ H x y v u Q I rx ry ⟨i, j, S, ex, ey, rs, q⟩
  cases op <;> first
    | (cases h; exact ip_add pins s σ H x y v u Q I rx ry ⟨i, j, ex, ey, up_here q rs rfl⟩)
    | (cases h; exact iop_mulX pins s σ H x y v u Q I rx ry ⟨i, j, ex, ey, q.1, up_here q.2 rs rfl⟩)
    | cases h
theorem aug_ps {x : Str} {i : Nat} {e : Expr} {y : Ex} {op : Operator} {o : Bop} {p pos : Pos} (O : CtxOk G T C X) (hi : cTn C x = some i) (ho : augOk op = some o) (he : PE X e (TE X.K G T y E)) : PS X (.AugAssign (.Name x p) op e pos) (TSx X.K G T (.augN i o y) E) := by
  obtain ⟨z1, z2, z3⟩ := tn_ok O hi
  refine (ps_aug (by rw [O.hN]; exact O.nd) z1 z2 he (pip_aug (G := G) ho) z3).imp ?_
  rintro D σ H ⟨env, S, re, rs, a, ea, h⟩
  obtain ⟨v, e1, r⟩ := re.2 i _ ea
  cases r
  refine ⟨_, e1, env, S, re, rs, wE_mono y (fun v2 S1 h1 u H1 t1 s1 r1 => ?_) (fun _ _ z => z) h⟩
  obtain ⟨b, rfl, h1⟩ := h1
  cases r1
  refine ⟨_, _, S1, rfl, rfl, s1, opB_mono (fun z S2 hz w H2 t2 s2 r2 => ?_) h1⟩
  exact hz _ _ (t1.trans t2) s2 ((re.mono (t1.trans t2)).set r2)
/-! ### the methods of a list -/
theorem base_plain {o : Expr} {m : Str} {env : Env} {pl : Sem Value} (h : baseOk o = true) : attributeBase o m env pl = pl := by
  unfold attributeBase
  split
  · cases h
  · rfl
def Bm.nm : Bm → String
  | .append => "append" | .extend => "extend" | .clear => "clear" | .reverse => "reverse"
def rBm (K : PySem.W.Frag) (G : Gn) (b : Bm) : V → List V → Hp → VK → Prop := fun x xs H Q => ∃ v vs S, RV K H v x ∧ RVs K H vs xs ∧ RS K G H S ∧ opBm b v vs S fun S' => up K G H Q .non S'
theorem mtBm {b : Bm} {id : String} {r : V → List V → Hp → VK → Prop} (h : MtM X id r) (k : ∀ x xs H Q, rBm X.K G b x xs H Q → r x xs H Q) : MtR X id (rBm X.K G b) := fun pins s σ H x xs v us Q I r1 r2 q => h pins s σ H x xs v us Q I r1 r2 (k _ _ _ _ q)

theorem RV.lst {H : Hp} {S : Store} {K : PySem.W.Frag} {p : Nat} {l : List Val} {x : V} (rs : RS K G H S) (r : RV K H (.ref p) x) (e : S p = some (.lst l)) : x = .ref p ∧ ∃ xs, H p = some (.lst xs) ∧ RVs K H l xs := by
  cases r
  exact ⟨rfl, rs p _ e⟩
theorem RVs.one1 {H : Hp} {K : PySem.W.Frag} {v : Val} {xs : List V} (r : RVs K H [v] xs) : ∃ x, xs = [x] ∧ RV K H v x := by
  obtain ⟨x, r2, rfl, h1, h2⟩ := r
  cases h2
  exact ⟨x, rfl, h1⟩
theorem RVs.zero1 {H : Hp} {K : PySem.W.Frag} {xs : List V} (r : RVs K H [] xs) : xs = [] := r
theorem up_wr {H : Hp} {S : Store} {Q : VK} {p : Nat} {xs ys : List V} {m : List Val} {K : PySem.W.Frag} (rs : RS K G H S) (e : H p = some (.lst xs)) (r : RVs K H m ys) (h : up K G H Q .non (put S p (.lst m))) : Q .non (upd H p (.lst ys)) :=
  h _ _ (.wr (.inl ⟨_, e⟩)) (rs.write (ob := .lst m) (.inl ⟨_, e⟩) ⟨_, upd_same, r.mono (.wr (.inl ⟨_, e⟩))⟩) rfl
theorem opBm_shape {b : Bm} {v : Val} {vs : List Val} {S : Store} {Q : Store → Prop} (h : opBm b v vs S Q) : ∃ p l, v = .ref p ∧ S p = some (.lst l) ∧ match b with
    | .append => ∃ x, vs = [x] ∧ l.length < LIM ∧ Q (put S p (.lst (l ++ [x])))
    | .extend => ∃ q m, vs = [.ref q] ∧ S q = some (.lst m) ∧ l.length + m.length ≤ LIM ∧ Q (put S p (.lst (l ++ m)))
    | .clear => vs = [] ∧ Q (put S p (.lst []))
    | .reverse => vs = [] ∧ Q (put S p (.lst l.reverse)) := by
  unfold opBm at h
  split at h
  · obtain ⟨l, h1, h2, h⟩ := h; exact ⟨_, l, rfl, h1, _, rfl, h2, h⟩
  · obtain ⟨l, m, h1, h2, h3, h⟩ := h; exact ⟨_, l, rfl, h1, _, m, rfl, h2, h3, h⟩
  · obtain ⟨l, h1, h⟩ := h; exact ⟨_, l, rfl, h1, rfl, h⟩
  · obtain ⟨l, h1, h⟩ := h; exact ⟨_, l, rfl, h1, rfl, h⟩
  · exact h.elim
theorem bm_append {x : V} {xs : List V} {H : Hp} {Q : VK} (h : rBm X.K G .append x xs H Q) : rAppend x xs H Q := by
  obtain ⟨v, vs, S, r1, r2, rs, h⟩ := h
  obtain ⟨p, l, rfl, h1, z, rfl, h2, h'⟩ := opBm_shape h
  obtain ⟨rfl, ys, e, ry⟩ := RV.lst rs r1 h1
  obtain ⟨y, rfl, r3⟩ := r2.one
  exact ⟨_, ys, y, rfl, rfl, e, by rw [← LIM_eq, ← ry.length]; exact h2, up_wr rs e (ry.append (m := [z]) ⟨y, [], rfl, r3, rfl⟩) h'⟩
theorem bm_extend {x : V} {xs : List V} {H : Hp} {Q : VK} (h : rBm X.K G .extend x xs H Q) : rExtend x xs H Q := by
  obtain ⟨v, vs, S, r1, r2, rs, h⟩ := h
  obtain ⟨p, l, rfl, h1, z, m, rfl, h2, h3, h'⟩ := opBm_shape h
  obtain ⟨rfl, ys, e, ry⟩ := RV.lst rs r1 h1
  obtain ⟨y, rfl, r3⟩ := r2.one
  obtain ⟨rfl, zs, e2, rz⟩ := RV.lst rs r3 h2
  exact ⟨_, _, ys, zs, rfl, rfl, e, e2, by rw [← LIM_eq, ← ry.length, ← rz.length]; exact h3, up_wr rs e (ry.append rz) h'⟩
theorem bm_clear {x : V} {xs : List V} {H : Hp} {Q : VK} (h : rBm X.K G .clear x xs H Q) : rClear x xs H Q := by
  obtain ⟨v, vs, S, r1, r2, rs, h⟩ := h
  obtain ⟨p, l, rfl, h1, rfl, h'⟩ := opBm_shape h
  obtain ⟨rfl, ys, e, ry⟩ := RV.lst rs r1 h1
  exact ⟨_, ys, rfl, r2.zero1, e, up_wr (m := []) (ys := []) rs e rfl h'⟩
theorem bm_reverse {x : V} {xs : List V} {H : Hp} {Q : VK} (h : rBm X.K G .reverse x xs H Q) : rReverse x xs H Q := by
  obtain ⟨v, vs, S, r1, r2, rs, h⟩ := h
  obtain ⟨p, l, rfl, h1, rfl, h'⟩ := opBm_shape h
  obtain ⟨rfl, ys, e, ry⟩ := RV.lst rs r1 h1
  exact ⟨_, ys, rfl, r2.zero1, e, up_wr rs e ry.reverse h'⟩
/-- the call's meaning -/
def TBm (K : PySem.W.Frag) (G : Gn) (T : Tb) (b : Bm) (a as : Ex) (E : EE) : L2.TE := fun σ H Q => ∃ env S, RE K H env σ ∧ RS K G H S ∧ wE T a env S (fun x S1 => (∃ p l, x = .ref p ∧ S1 p = some (.lst l)) ∧ wA T as env S1 (fun vs S2 => opBm b x vs S2 fun S3 => up K G H Q .non S3) fun x S' => E x env S') fun x S' => E x env S'
theorem tbm_red {b : Bm} {a as : Ex} {σ : St} {H : Hp} {Q : VK} (h : TBm X.K G T b a as E σ H Q) : tBM X.K "list" (rBm X.K G b) (TE X.K G T a E) (TA X.K G T as E) σ H Q := by
  obtain ⟨env, S, re, rs, h⟩ := h
  refine ⟨env, S, re, rs, wE_mono a (fun v S1 h1 u H1 t1 s1 r1 => ?_) (fun _ _ z => z) h⟩
  obtain ⟨⟨p, l, rfl, hl⟩, h1⟩ := h1
  obtain ⟨rfl, ys, e, ry⟩ := RV.lst s1 r1 hl
  refine ⟨.inl ⟨rfl, _, SqL.of e⟩, env, S1, re.mono t1, s1, wA_mono as (fun vs S2 h2 us H2 t2 s2 r2 => ?_) (fun _ _ z => z) h1⟩
  exact ⟨.ref _, vs, S2, rfl, r2, s2, opBm_mono (fun S3 h3 => up_tm (t1.trans t2) h3) h2⟩
theorem tbm0_red {b : Bm} {a : Ex} {σ : St} {H : Hp} {Q : VK} (h : TBm X.K G T b a .nil E σ H Q) : tBM0 X.K "list" (rBm X.K G b) (TE X.K G T a E) σ H Q := by
  obtain ⟨env, S, re, rs, h⟩ := h
  refine ⟨env, S, re, rs, wE_mono a (fun v S1 h1 u H1 t1 s1 r1 => ?_) (fun _ _ z => z) h⟩
  obtain ⟨⟨p, l, rfl, hl⟩, h1⟩ := h1
  obtain ⟨rfl, ys, e, ry⟩ := RV.lst s1 r1 hl
  refine ⟨.inl ⟨rfl, _, SqL.of e⟩, .ref _, [], S1, rfl, rfl, s1, ?_⟩
  exact opBm_mono (fun S3 h3 => up_tm t1 h3) h1
theorem all1 {e : Expr} {cpos : Pos} {env : Env} (h : plainE e = true) : ((backTo cpos (starEach [e] env)).all (fun x => !x.1) && (backToKw cpos (keywordEach [] env)).all (fun x => x.1.isSome) && decide ([e].length + ([] : List Keyword).length + (if ([] : List Keyword).isEmpty then 0 else 1) < 30)) = true := by
  rw [star_cons h]
  rfl
theorem bm_pe {b : Bm} {o : Expr} {m : Str} {args : List Expr} {x as : Ex} {apos cpos : Pos} {f : Expr → Option Ex} (hl : bmTab.lookup (m, args.length) = some b) (hb : baseOk o = true) (hln : (apos.endLine == cpos.line) = true)
    (ho : PE X o (TE X.K G T x E)) (has : cL f args = some as) (IH : ∀ e x, f e = some x → plainE e = true ∧ PE X e (TE X.K G T x E)) : PE X (.Call (.Attribute o m apos) args [] cpos) (TBm X.K G T b x as E) := by
  have hm := lkMem hl
  unfold bmTab at hm
  simp only [List.mem_cons, Prod.mk.injEq, List.not_mem_nil, or_false] at hm
  obtain ⟨pa, pl⟩ := args_of (E := E) IH has
  have z0 : ∀ {l : List Expr}, l.length = 0 → l = [] := fun h => List.eq_nil_of_length_eq_zero h
  have z1 : ∀ {l : List Expr}, l.length = 1 → ∃ e, l = [e] := fun {l} h => by
    match l, h with
    | [e], _ => exact ⟨e, rfl⟩
  rcases hm with ⟨⟨rfl, h1⟩, rfl⟩ | ⟨⟨rfl, h1⟩, rfl⟩ | ⟨⟨rfl, h1⟩, rfl⟩ | ⟨⟨rfl, h1⟩, rfl⟩
  · obtain ⟨e, rfl⟩ := z1 h1
    exact (pe_bm PySem.F.plainAttrs_list PySem.F.slot_list_append PySem.F.type_list_append (mtBm mt_append fun _ _ _ _ => bm_append) ho pa (base_plain hb) (all1 (pl e List.mem_cons_self)) hln (star_cons (pl e List.mem_cons_self)) rfl).imp fun σ H Q h => tbm_red h
  · obtain ⟨e, rfl⟩ := z1 h1
    exact (pe_bm PySem.F.plainAttrs_list PySem.F.slot_list_extend PySem.F.type_list_extend (mtBm mt_extend fun _ _ _ _ => bm_extend) ho pa (base_plain hb) (all1 (pl e List.mem_cons_self)) hln (star_cons (pl e List.mem_cons_self)) rfl).imp fun σ H Q h => tbm_red h
  · obtain rfl := z0 h1
    cases has
    exact (pe_bm0 PySem.F.plainAttrs_list PySem.F.slot_list_clear PySem.F.type_list_clear (mtBm mt_clear fun _ _ _ _ => bm_clear) ho (base_plain hb) hln).imp fun σ H Q h => tbm0_red h
  · obtain rfl := z0 h1
    cases has
    exact (pe_bm0 PySem.F.plainAttrs_list PySem.F.slot_list_reverse PySem.F.type_list_reverse (mtBm mt_reverse fun _ _ _ _ => bm_reverse) ho (base_plain hb) hln).imp fun σ H Q h => tbm0_red h
theorem bm_ps {b : Bm} {x as : Ex} {e : Expr} {pos : Pos} (hc : isComp e = false) (h : PE X e (TBm X.K G T b x as E)) : PS X (.Expr e pos) (TSx X.K G T (.bm b x as) E) := by
  refine (ps_expr h (swaps_plain hc)).imp ?_
  rintro D σ H ⟨env, S, re, rs, h⟩
  refine ⟨env, S, re, rs, wE_mono x (fun v S1 h1 => ⟨h1.1, wA_mono as (fun vs S2 h2 => opBm_mono (fun S3 h3 => ?_) h2) (fun _ _ z => z) h1.2⟩) (fun _ _ z => z) h⟩
  exact fun z H2 t2 s2 r2 => h3 _ _ t2 s2 (re.mono t2)
theorem expr_ps {e : Expr} {x : Ex} {pos : Pos} (hc : isComp e = false) (h : PE X e (TE X.K G T x E)) : PS X (.Expr e pos) (TSx X.K G T (.expr x) E) := by
  refine (ps_expr h (swaps_plain hc)).imp ?_
  rintro D σ H ⟨env, S, re, rs, h⟩
  exact ⟨env, S, re, rs, wE_mono x (fun v S1 h1 z H2 t2 s2 r2 => h1 _ _ t2 s2 (re.mono t2)) (fun _ _ z => z) h⟩
end
end BW
set_option Elab.async false
set_option linter.all false
set_option maxRecDepth 100000
set_option maxHeartbeats 4000000
namespace BW
open PySem PySem.Spec PyProof.Rows L2
section
variable {X : Cx} {G : Gn} {T : Tb} {C : Cc} {E : EE} {n : Nat} {s : Sx}
theorem exS_ok (O : CtxOk G T C X) (tk : TakesB X G E) {e : Expr} {pos : Pos} (h : cExS C (cE n C) e = some s) : PS X (.Expr e pos) (TSx X.K G T s E) := by
  unfold cExS at h
  split at h
  · cases h
  · rename_i hc
    cases q : cE n C e with
    | none => rw [q] at h; cases h
    | some y =>
      rw [q] at h
      cases h
      exact expr_ps hc (cE_ok n O tk q).1
theorem ret_ok (O : CtxOk G T C X) (tk : TakesB X G E) {e : Option Expr} {pos : Pos} (h : cRet (cE n C) e = some s) : PS X (.Return e pos) (TSx X.K G T s E) := by
  cases e with
  | none => cases h; exact retN_ps
  | some e =>
    change (cE n C e).map Sx.ret = some s at h
    cases q : cE n C e with
    | none => rw [q] at h; cases h
    | some y =>
      rw [q] at h
      cases h
      exact ret_ps (cE_ok n O tk q).1
theorem expr_ok (O : CtxOk G T C X) (tk : TakesB X G E) {e : Expr} {pos : Pos} (h : cExpr C (cE n C) e = some s) : PS X (.Expr e pos) (TSx X.K G T s E) := by
  unfold cExpr at h
  split at h
  · split at h
    · unfold cBm at h
      split at h
      · rename_i hl hb
        rw [Bool.and_eq_true] at hb
        split at h
        · rename_i h1 h2
          cases h
          exact bm_ps rfl (bm_pe hl hb.1 hb.2 (cE_ok n O tk h1).1 h2 fun e x q => ⟨cE_plain q, (cE_ok n O tk q).1⟩)
        · cases h
      · cases h
    · exact exS_ok O tk h
  · exact exS_ok O tk h
theorem isComp_lc {x : Str} {px : Pos} {e : Expr} (h : swB C x px e = true) : ∃ a b c d, e = .ListComp a b c d := by
  unfold swB at h
  split at h
  · exact ⟨_, _, _, _, rfl⟩
  · cases h
theorem comp_shape {el : Expr} {gs : List Comprehension} {sc : Scope} {pos : Pos} {y : Ex} (h : cE n C (.ListComp el gs sc pos) = some y) : (∃ tg iter ifs, gs = [⟨tg, iter, ifs, 0⟩]) ∨ y = .nil := by
  cases n with
  | zero => cases h
  | succ n =>
  match gs, h with
  | [⟨tg, iter, ifs, .ofNat 0⟩], _ => exact .inl ⟨tg, iter, ifs, rfl⟩
  | [], h => cases h; exact .inr rfl
  | [⟨tg, iter, ifs, .ofNat (k + 1)⟩], h => cases h; exact .inr rfl
  | [⟨tg, iter, ifs, .negSucc k⟩], h => cases h; exact .inr rfl
  | ⟨tg, iter, ifs, .ofNat 0⟩ :: b :: r, h => cases h; exact .inr rfl
  | ⟨tg, iter, ifs, .ofNat (k + 1)⟩ :: b :: r, h => cases h; exact .inr rfl
  | ⟨tg, iter, ifs, .negSucc k⟩ :: b :: r, h => cases h; exact .inr rfl
theorem asgN_ok (O : CtxOk G T C X) (tk : TakesB X G E) {x : Str} {px : Pos} {e : Expr} {pos : Pos} (h : cAsgN C (cE n C) x px e pos = some s) : PS X (.Assign [.Name x px] e pos) (TSx X.K G T s E) := by
  unfold cAsgN at h
  split at h
  · rename_i i y h1 h2
    split at h
    · rename_i hb
      rw [Bool.and_eq_true] at hb
      cases h
      obtain ⟨a, b, c, d, rfl⟩ := isComp_lc hb.1
      rcases comp_shape h2 with ⟨tg, iter, ifs, rfl⟩ | rfl
      · exact set_comp n O tk h1 hb.1 h2 hb.2
      · exact ⟨fun _ _ _ _ _ _ ⟨_, _, _, _, z⟩ => z.elim⟩
    · split at h
      · cases h
      · rename_i hc
        cases h
        exact set_ps O h1 (swaps_plain hc) (cE_ok n O tk h2).1
  · cases h
theorem asgT_ok (O : CtxOk G T C X) (tk : TakesB X G E) {ts : List Expr} {k : Nat} {p : Pos} {e : Expr} {pos : Pos} (ht : tupOf e = none) (h : cAsgT C (cE n C) (.Tuple ts k p) e = some s) : PS X (.Assign [.Tuple ts k p] e pos) (TSx X.K G T s E) := by
  unfold cAsgT at h
  split at h
  · cases h
  · rename_i hc
    split at h
    · rename_i h1 h2
      cases h
      exact tup_ps O (by cases e <;> first | rfl | cases ht) hc h1 (cE_ok n O tk h2).1
    · cases h
theorem par_ok (O : CtxOk G T C X) (tk : TakesB X G E) {ts es : List Expr} {k k2 : Nat} {p p2 : Pos} {pos : Pos} (h : cPar C (cE n C) ts es = some s) : PS X (.Assign [.Tuple ts k p] (.Tuple es k2 p2) pos) (TSx X.K G T s E) := by
  unfold cPar at h
  split at h
  · split at h
    · rename_i hb
      rw [Bool.and_eq_true] at hb
      split at h
      · rename_i h1 h2 h3 h4
        cases h
        exact par_ps O (by simpa using hb.2) hb.1 h1 h2 (cE_plain h3) (cE_plain h4) (cE_ok n O tk h3).1 (cE_ok n O tk h4).1
      · cases h
    · cases h
  · cases h
theorem asg_ok (O : CtxOk G T C X) (tk : TakesB X G E) {ts : List Expr} {e : Expr} {pos : Pos} (h : cAsg C (cE n C) ts e pos = some s) : PS X (.Assign ts e pos) (TSx X.K G T s E) := by
  unfold cAsg at h
  split at h
  · exact asgN_ok O tk h
  · split at h
    · rename_i ht
      cases e <;> first
        | (cases ht; exact par_ok O tk h)
        | cases ht
    · rename_i ht
      exact asgT_ok O tk ht h
  · cases h
theorem aug_ok (O : CtxOk G T C X) (tk : TakesB X G E) {t e : Expr} {op : Operator} {pos : Pos} (h : cAug C (cE n C) t op e = some s) : PS X (.AugAssign t op e pos) (TSx X.K G T s E) := by
  unfold cAug at h
  split at h
  · split at h
    · rename_i h1 h2 h3
      cases h
      exact aug_ps O h1 h2 (cE_ok n O tk h3).1
    · cases h
  · cases h
theorem if_ok (O : CtxOk G T C X) (tk : TakesB X G E) {c : Expr} {a b : List Stmt} {y z : Option Sx} {pos : Pos} (ha : ∀ s, y = some s → PSs X a (TSx X.K G T s E)) (hb : ∀ s, z = some s → PSs X b (TSx X.K G T s E)) (h : cIf (cE n C c) y z = some s) : PS X (.If c a b pos) (TSx X.K G T s E) := by
  unfold cIf at h
  split at h
  · rename_i h1
    cases h
    exact ite_ps (cE_ok n O tk h1).2 (ha _ rfl) (hb _ rfl)
  · cases h
theorem whl_ok (O : CtxOk G T C X) (tk : TakesB X G E) (po : PassesOwn (model X.prog X.w) X.A X.env X.xe) {c : Expr} {a b : List Stmt} {y : Option Sx} {pos : Pos} (ha : ∀ s, y = some s → PSs X a (TSx X.K G T s E)) (h : cWhl (cE n C c) y b = some s) : PS X (.While c a b pos) (TSx X.K G T s E) := by
  unfold cWhl at h
  split at h
  · rename_i h1
    cases h
    exact whl_ps po (cE_ok n O tk h1).2 (ha _ rfl)
  · cases h
theorem for_ok (O : CtxOk G T C X) (tk : TakesB X G E) (po : PassesOwn (model X.prog X.w) X.A X.env X.xe) {tg it : Expr} {a b : List Stmt} {y : Option Sx} {pos : Pos} (ha : ∀ s, y = some s → PSs X a (TSx X.K G T s E)) (h : cFor C (cE n C) tg it y b = some s) : PS X (.For tg it a b pos) (TSx X.K G T s E) := by
  unfold cFor at h
  split at h
  · cases h
  · rename_i hz
    rw [Bool.or_eq_false_iff] at hz
    split at h
    · rename_i h1 h2
      cases h
      exact for_ps po (O.calm hz.1) hz.2 (it_ok O (fun e x q => ⟨cE_plain q, (cE_ok n O tk q).1⟩) h1) (tg_pg O h2) (ha _ rfl)
    · cases h
end
/-! ### all statements -/
theorem cS_ok {X : Cx} {G : Gn} {T : Tb} {C : Cc} {E : EE} (O : CtxOk G T C X) (tk : TakesB X G E) (po : PassesOwn (model X.prog X.w) X.A X.env X.xe) : ∀ (n : Nat) {st : Stmt} {s : Sx}, cS n C st = some s → PS X st (TSx X.K G T s E)
  | 0, _, _, h => by cases h
  | n + 1, st, s, h => by
    have IB : ∀ {l} s, cSs (cS n C) l = some s → PSs X l (TSx X.K G T s E) := fun s q => block_pss (fun st _ x hx => cS_ok O tk po n hx) q
    unfold cS at h
    have h0 := orDeadS_some h
    clear h
    rcases h0 with h | rfl
    rotate_left
    · exact ⟨fun _ _ _ _ _ _ ⟨_, _, _, _, z⟩ => z.elim⟩
    cases st with
    | Pass => cases h; exact skip_ps ps_pass
    | Break => cases h; exact brk_ps
    | Continue => cases h; exact cnt_ps
    | Return e p => exact ret_ok O tk h
    | Expr e p => exact expr_ok O tk h
    | Assign ts e p => exact asg_ok O tk h
    | AugAssign t op e p => exact aug_ok O tk h
    | If c a b p => exact if_ok O tk IB IB h
    | While c a b p => exact whl_ok O tk po IB h
    | For tg it a b p => exact for_ok O tk po IB h
    | _ => cases h
theorem cSs_ok {X : Cx} {G : Gn} {T : Tb} {C : Cc} {E : EE} (O : CtxOk G T C X) (tk : TakesB X G E) (po : PassesOwn (model X.prog X.w) X.A X.env X.xe) (n : Nat) {l : List Stmt} {s : Sx} (h : cSs (cS n C) l = some s) : PSs X l (TSx X.K G T s E) := block_pss (fun st _ x hx => cS_ok O tk po n hx) h
end BW
set_option Elab.async false
set_option linter.all false
set_option maxRecDepth 100000
set_option maxHeartbeats 4000000
namespace BW
open PySem PySem.Spec PyProof.Rows L2
/-! ### a def keeps its contract -/
theorem takes_and {X : Cx} {W : L2.WX} (t : Takes X fun c d σ H => W c d σ H ∧ TM X.H_0 H) : Takes X W := fun u s' ⟨a, B, sI, pins, σ, H, cls, d, e, I, nb, up, sky, na, os, ag, w⟩ =>
  t u s' ⟨a, B, sI, pins, σ, H, cls, d, e, I, nb, up, sky, na, os, ag, w, ⟨I.base.tups, I.base.frzs⟩⟩
def startE (N : List Str) (as : List Val) : Ev := as.map some ++ List.replicate (N.length - as.length) none
theorem re_start {K : PySem.W.Frag} {H : Hp} {N : List Str} {as : List Val} {vs : List V} (r : RVs K H as vs) : RE K H (startE N as) (L2.start N vs) := by
  have hl := r.length
  refine ⟨?_, fun i x e => ?_⟩
  · unfold startE L2.start
    simp only [List.length_append, List.length_map, List.length_replicate, hl]
  · unfold startE at e
    unfold L2.start
    by_cases hi : i < as.length
    · rw [List.getElem?_append_left (by simpa using hi), List.getElem?_map] at e
      cases q : as[i]? with
      | none => rw [q] at e; cases e
      | some y =>
        rw [q] at e
        cases e
        obtain ⟨v, e1, rv⟩ := r.get q
        exact ⟨v, by rw [List.getElem?_append_left (by simpa [← hl] using hi), List.getElem?_map, e1]; rfl, rv⟩
    · rw [List.getElem?_append_right (by simpa using hi), List.getElem?_replicate] at e
      split at e <;> cases e
/-- the end of a body -/
def fin (r : RSpec) : Post where
  nx := fun _ S' => ∃ S1, Sub S1 S' ∧ r.ret .non S1
  rt := fun v S' => ∃ S1, Sub S1 S' ∧ r.ret v S1
  bk := fun _ _ => False
  ct := fun _ _ => False
  ex := fun x _ S' => ∃ S1, Sub S1 S' ∧ r.exn x S1
def FnsOk (P : Program) (w : World) (K : PySem.W.Frag) (mg : Str → Option Value) (base : Heap) (G : Gn) (T : Tb) (k : Nat) (l : List ((Str × Nat) × (Nat × List Val))) : Prop := ∀ q ∈ l, FnIn P w K mg base G k q.1.1 (T.fn q.2.1) q.2.2
section
variable {P : Program} {w : World} {K : PySem.W.Frag} {mg : Str → Option Value} {base : Heap} {G : Gn} {T : Tb} {k : Nat}
theorem fns_nil : FnsOk P w K mg base G T k [] := fun _ h => by cases h
theorem fns_cons {x : Str} {n i j : Nat} {d : List Val} {l : List ((Str × Nat) × (Nat × List Val))} (h : FnIn P w K mg base G j x (T.fn i) d) (r : FnsOk P w K mg base G T k l) (hj : j ≤ k := by omega) : FnsOk P w K mg base G T k (((x, n), (i, d)) :: l) := fun q hq => by
  rcases List.mem_cons.mp hq with rfl | hq
  · exact h.mono hj
  · exact r q hq
/-- the names of the module that no def has -/
structure Gd (K : PySem.W.Frag) (mg : Str → Option Value) (cst : List (Str × Val)) : Prop where
  blt : ∀ x ∈ bltNames, mg x = none
  cst : ∀ q ∈ cst, ∃ u v, mg q.1 = some u ∧ RelV v u ∧ ∀ H, RV K H q.2 v
def cellsOf (sc : Scope) : List Str := (sc.names.filter fun q => q.2 == .cell).map (·.1)
theorem fn_ok {x : Str} {N ps : List Str} {fns : List ((Str × Nat) × (Nat × List Val))} {cst : List (Str × Val)} {n : Nat} {s : Sx} {c : Spec} {args : Arguments} {body : List Stmt} {sc : Scope} {f : Addr} {fd : FuncData} {dvs : List V} {kws : List (Str × V)}
    (F : FunD K x x args body sc dvs kws f fd) (S : FnScope N ps sc) (gd : Gd K mg cst) (hf : FnsOk P w K mg base G T k fns)
    (hc : cSs (cS n { N := N, sc := sc, fns := fns, cst := cst, st := cellsOf sc }) body = some s) (len : ∀ as S, (c as S).pre → as.length = ps.length)
    (hb : ∀ as S, (c as S).pre → wS T s (startE N as) S (fin (c as S))) : FnOk P w K mg base (L2.CX P w) (k + 1) f fd ps (spOf K G c) := by
  refine F.ok S ?_ ?_
  · rintro vs H Q E ⟨as, S, r, _, pre, _⟩
    rw [← r.length]
    exact len as S pre
  · rintro cdv A outer s0 H vs Q E hr ⟨as, S0, r, rs, pre, ret, exn⟩
    have O : CtxOk G T { N := N, sc := sc, fns := fns, cst := cst, st := cellsOf sc } (cxOf (CX P w) P w K mg base N x sc f cdv A outer s0 H E) := ⟨rfl, S.nd, rfl, fun _ => rfl, fun _ => ⟨k, hr, hf⟩, by have := hr.un; show (A.deeper (envOfC x sc s0.heap.objs.size f cdv)).units + 65 < cLine; omega, gd.cst, gd.blt, fun _ _ => rfl, S.kind⟩
    have tk : TakesB (cxOf (CX P w) P w K mg base N x sc f cdv A outer s0 H E) G fun x' _ S' => ∃ S1, Sub S1 S' ∧ (c as S0).exn x' S1 := by
      refine takes_and ((takes_of (X := cxOf (CX P w) P w K mg base N x sc f cdv A outer s0 H E) (E := E) rfl rfl rfl rfl).imp ?_)
      rintro cls dd σ H' ⟨⟨x', env, S', rx, _, rs', S1, sb, q⟩, t⟩
      exact exn x' S1 q cls dd H' t (rs'.sub sb) rx
    refine ⟨TSx K G T s fun x' _ S' => ∃ S1, Sub S1 S' ∧ (c as S0).exn x' S1, cSs_ok O tk (passes_of rfl) n hc, ?_⟩
    refine ⟨startE N as, S0, re_start r, rs, wS_mono s ?_ (hb as S0 pre)⟩
    exact ⟨fun e S' ⟨S1, sb, q⟩ σ H' t s' _ => ret _ _ q .non H' t (s'.sub sb) rfl, fun v S' ⟨S1, sb, q⟩ z H' t s' rv => ret _ _ q z H' t (s'.sub sb) rv, fun _ _ z => z.elim, fun _ _ z => z.elim, fun _ _ _ z => z⟩
theorem fn_in {x : Str} {N ps : List Str} {fns : List ((Str × Nat) × (Nat × List Val))} {cst : List (Str × Val)} {n : Nat} {s : Sx} {c : Spec} {args : Arguments} {body : List Stmt} {sc : Scope} {f : Addr} {fd : FuncData}
    (F : FunD K x x args body sc [] [] f fd) (hm : mg x = some (.ref f)) (S : FnScope N ps sc) (gd : Gd K mg cst) (hf : FnsOk P w K mg base G T k fns)
    (hc : cSs (cS n { N := N, sc := sc, fns := fns, cst := cst, st := cellsOf sc }) body = some s) (len : ∀ as S, (c as S).pre → as.length = ps.length)
    (hb : ∀ as S, (c as S).pre → wS T s (startE N as) S (fin (c as S)))
    (hbd : ∀ (kV doc pm : Value) (an : Option Addr) (cdv ct : Value) (us : List Value), us.length = ps.length → bindArgs (PySem.W.fnOf x x args body sc .none kV doc pm an cdv ct) ⟨us, []⟩ = pure (ps.zip us)) : FnIn P w K mg base G (k + 1) x c [] :=
  ⟨f, fd, ps, [], [], fn_ok F S gd hf hc len hb, hm, F.kp, F.bindsN hbd, .nil, fun _ => rfl⟩
end
/-! ### the law's end -/
def RSpec.no : RSpec := ⟨False, fun _ _ => True, fun _ _ => True⟩
/-- a value, nothing else -/
def RSpec.pu (S : Store) (p : Prop) (r : Val → Prop) : RSpec := ⟨p, fun v S' => r v ∧ S' = S, fun _ _ => False⟩
theorem fin_pu {S S' : Store} {p : Prop} {r : Val → Prop} {v : Val} (h : r v) (sb : Sub S S') : (fin (.pu S p r)).rt v S' := ⟨S, sb, h, rfl⟩
def lawSpec : Spec := fun as _ => { pre := ∃ ns : List Int, as = [.sl (ns.map .int)] ∧ ns.length ≤ 63 ∧ ∀ z ∈ ns, Builtin.Int.intBits z ≤ 1048576, ret := fun v _ => v = .bl true, exn := fun _ _ => False }
theorem sl_of {K : PySem.W.Frag} {H : Hp} {a : Addr} {xs : List V} (hO : Only H) (h : SqL K H a xs) : SlAt K H a xs := by
  rcases h with (h | ⟨o, h⟩) | h
  · rcases hO a with e | ⟨o, ys, e⟩ <;> rw [e] at h <;> cases h
  · exact .inl ⟨o, h⟩
  · exact .inr h
theorem law_end {l : PySem.W.OpenLaw} {k : Nat} {q : Program} {loose : List Str} {XP : (Str → Option Value) → Heap → Prop} {YP : World → Heap → Prop} {d : DefRec} {x : Str}
    (hn : l.most = some 63) (hdf : d.params.defaults = []) (hr : Room k callerA)
    (F : ∀ (w : World) (mg : Str → Option Value) (fa : Addr) (h : Heap), YP w h → h.Ns mainGlobals mg → mg d.name = some (.ref fa) →
      ∃ (K : PySem.W.Frag) (fd : FuncData) (G : Gn), K.In h ∧ (∀ (s : Shared) (u : Value), BindsTo s fd ⟨[u], []⟩ [(x, u)]) ∧
        ∀ base : Heap, K.In base → base.Ns mainGlobals mg → FnOk l.prog w K mg base (L2.CX l.prog w) k fa fd [x] (spOf K G lawSpec)) :
    PySem.W.WalkO q loose XP YP l.row.toRowW d [] (fun f vs => PySem.call f vs) := by
  refine Att.attach_callB hn hdf fun w s₀ s₁ mg mb fa o pm cd doc a vs ns G Y ho hd hcd hmg hobj hints hlen hbits hg => ?_
  obtain ⟨K, fd, G', KX, hb, hF⟩ := F w mg fa _ Y G.T.g hmg
  refine law_call KX G.T.g G.T.b G.T.builtins G.T.nolimit hg hobj hints (Nat.le_trans hlen (by decide)) hr hF hb (fun H hO hS => ?_) fun H e s' ⟨_, _, _, _, _, _, _, _, _, _, _, _, z⟩ => z
  refine ⟨[.sl (ns.map .int)], fun _ => none, ⟨.ref a, [], rfl, ⟨a, ns.map V.int, rfl, sl_of hO hS, RVs.ofInts⟩, rfl⟩, (fun a o e => by cases e), ⟨ns, rfl, hlen, hbits⟩, fun v S' e z H' _ _ rv => ?_, fun _ _ z => z.elim⟩
  cases e
  exact rv
section
variable {K : PySem.W.Frag} {h : Heap} {mg : Str → Option Value} {fa : List He.Fa} {fn : List He.DefD}
theorem fact_of (c : He.SaysD fa fn K) {f : He.Fa} (h : f ∈ fa) : f.ok K = true := by
  obtain ⟨i, e⟩ := List.mem_iff_getElem?.mp h
  exact c.fact i e
theorem free_of (X : K.In h) (Gx : h.Ns mainGlobals mg) (c : He.SaysD fa fn K) {l : List Str} (k : ∀ x ∈ l, He.Fa.free x ∈ fa) : ∀ x ∈ l, mg x = none := fun x hx => He.free_ok X Gx (fact_of c (k x hx))
theorem cst_nil : ∀ q ∈ ([] : List (Str × Val)), ∃ u v, mg q.1 = some u ∧ RelV v u ∧ ∀ H, RV K H q.2 v := fun _ h => by cases h
theorem cst_int {x : Str} {i : Int} {l : List (Str × Val)} (X : K.In h) (Gx : h.Ns mainGlobals mg) (c : (He.Fa.int x i).ok K = true) (r : ∀ q ∈ l, ∃ u v, mg q.1 = some u ∧ RelV v u ∧ ∀ H, RV K H q.2 v) : ∀ q ∈ ((x, .int i) :: l), ∃ u v, mg q.1 = some u ∧ RelV v u ∧ ∀ H, RV K H q.2 v := fun q hq => by
  rcases List.mem_cons.mp hq with rfl | hq
  · obtain ⟨t, e⟩ := He.int_ok X Gx c
    exact ⟨_, .int i, e, ⟨t, rfl⟩, fun _ => rfl⟩
  · exact r q hq
end
/-! ### the operations at known values -/
section
variable {S : Store} {P : Bool → Prop} {Q : QV}
theorem dt_int {i : Int} {d : PyData} : Dt S (.int i) d ↔ d = .int i := by
  constructor
  · intro h
    cases h with
    | int => rfl
    | lst a _ => rcases a with ⟨_, e, _⟩ | e <;> cases e
  · rintro rfl; exact .int i
theorem dt_bl {i : Bool} {d : PyData} : Dt S (.bl i) d ↔ d = .bool i := by
  constructor
  · intro h
    cases h with
    | bl => rfl
    | lst a _ => rcases a with ⟨_, e, _⟩ | e <;> cases e
  · rintro rfl; exact .bl i
theorem dt_non {d : PyData} : Dt S .non d ↔ d = .none := by
  constructor
  · intro h
    cases h with
    | non => rfl
    | lst a _ => rcases a with ⟨_, e, _⟩ | e <;> cases e
  · rintro rfl; exact .non
theorem dt_tup {l : List Val} {d : PyData} : Dt S (.tup l) d ↔ ∃ ds, d = .tuple ds ∧ Dts S l ds := by
  constructor
  · intro h
    cases h with
    | tup h => exact ⟨_, rfl, h⟩
    | lst a _ => rcases a with ⟨_, e, _⟩ | e <;> cases e
  · rintro ⟨ds, rfl, h⟩; exact .tup h
theorem dts_nil {d : List PyData} : Dts S [] d ↔ d = [] := ⟨fun h => by cases h; rfl, fun h => h ▸ .nil⟩
theorem dts_cons {x : Val} {l : List Val} {d : List PyData} : Dts S (x :: l) d ↔ ∃ e ds, d = e :: ds ∧ Dt S x e ∧ Dts S l ds := ⟨fun h => by cases h with | cons a b => exact ⟨_, _, rfl, a, b⟩, fun ⟨e, ds, h, a, b⟩ => h ▸ .cons a b⟩
theorem eqv_int {a b : Int} : PyData.eqv (.int a) (.int b) = (a == b) := by
  first
    | rfl
    | (unfold PyData.eqv; rfl)
    | simp [PyData.eqv]
theorem opC_eq_int {a b : Int} : opC .eq (.int a) (.int b) S P ↔ P (a == b) := by
  simp only [opC, dt_int]
  constructor
  · rintro ⟨d, e, rfl, rfl, _, _, h⟩; rw [eqv_int] at h; exact h
  · intro h; exact ⟨_, _, rfl, rfl, rfl, rfl, by rw [eqv_int]; exact h⟩
theorem opC_ne_int {a b : Int} : opC .ne (.int a) (.int b) S P ↔ P (a != b) := by
  simp only [opC, dt_int]
  constructor
  · rintro ⟨d, e, rfl, rfl, _, _, h⟩; rw [eqv_int] at h; exact h
  · intro h; exact ⟨_, _, rfl, rfl, rfl, rfl, by rw [eqv_int]; exact h⟩
end
end BW
set_option Elab.async false
set_option linter.all false
set_option maxRecDepth 100000
set_option maxHeartbeats 4000000
namespace BW
open PySem PySem.Spec PyProof.Rows L2
/-! ### how a body is gone through -/
def Later (T : Tb) (b : Sx) (D : Post) : Ev → Store → Prop := fun e S => wS T b e S D
theorem later_at {T : Tb} {b : Sx} {D : Post} {e : Ev} {S : Store} : Later T b D e S = wS T b e S D := rfl
theorem wS_seqL {T : Tb} {a b : Sx} {env : Ev} {S : Store} {D : Post} : wS T (.seq a b) env S D = wS T a env S ⟨Later T b D, D.rt, D.bk, D.ct, D.ex⟩ := rfl
section
variable {S S' : Store} {p : Prop} {r : Val → Prop} {v : Val} {x : Exn}
theorem pu_pre : (RSpec.pu S p r).pre = p := rfl
theorem pu_ret : (RSpec.pu S p r).ret v S' = (r v ∧ S' = S) := rfl
theorem pu_exn : (RSpec.pu S p r).exn x S' = False := rfl
theorem finpu_rt : (fin (.pu S p r)).rt v S' ↔ (r v ∧ Sub S S') := ⟨fun ⟨_, a, b, c⟩ => ⟨b, c ▸ a⟩, fun ⟨b, a⟩ => ⟨S, a, b, rfl⟩⟩
theorem finpu_nx {e : Ev} : (fin (.pu S p r)).nx e S' ↔ (r .non ∧ Sub S S') := ⟨fun ⟨_, a, b, c⟩ => ⟨b, c ▸ a⟩, fun ⟨b, a⟩ => ⟨S, a, b, rfl⟩⟩
theorem finpu_ex {e : Ev} : (fin (.pu S p r)).ex x e S' ↔ False := ⟨fun ⟨_, _, h⟩ => h, fun h => h.elim⟩
end
section
variable {S : Store} {P : Bool → Prop} {Q : QV} {x y : Val}
theorem opC_lt : opC .lt x y S P = tupLt x y P := rfl
theorem opC_le : opC .le x y S P = ltI x y P fun i j => decide (i ≤ j) := rfl
theorem opC_gt : opC .gt x y S P = ltI x y P fun i j => decide (j < i) := rfl
theorem opC_ge : opC .ge x y S P = ltI x y P fun i j => decide (j ≤ i) := rfl
theorem opC_is : opC .is x y S P = (y.isNon = true ∧ P x.isNon) := rfl
theorem opC_isnot : opC .isnot x y S P = (y.isNon = true ∧ P (!x.isNon)) := rfl
theorem opC_in : opC .in_ x y S P = inOp S x y P := rfl
theorem opC_notin : opC .notin x y S P = inOp S x y fun b => P (!b) := rfl
/-- the lists of the store -/
theorem getL_ref {a : Addr} {R : List Val → Prop} {l : List Val} (h : S a = some (.lst l)) : getL S (.ref a) R ↔ R l := by simp only [getL, h]
theorem getL_sl {R : List Val → Prop} {l : List Val} : getL S (.sl l) R ↔ R l := Iff.rfl
theorem getL_put {a : Addr} {R : List Val → Prop} {l : List Val} : getL (put S a (.lst l)) (.ref a) R ↔ R l := getL_ref put_same
end
theorem atI_0 {α : Type} {x : α} {l : List α} : atI (x :: l) 0 = some x := by
  have h : ixN (x :: l).length 0 = some 0 := by simp [ixN]
  show (ixN (x :: l).length 0).bind _ = _
  rw [h]
  rfl
theorem atI_nat {α : Type} {l : List α} {k : Nat} (h : k < l.length) : atI l (k : Int) = l[k]? := by
  have h2 : ixN l.length (k : Int) = some k := by
    unfold ixN
    rw [if_pos (Int.natCast_nonneg k)]
    simp [h]
  show (ixN l.length k).bind _ = _
  rw [h2]
  rfl
theorem atI_1 {α : Type} {x y : α} {l : List α} : atI (x :: y :: l) 1 = some y := atI_nat (l := x :: y :: l) (k := 1) (by simp)
theorem atI_2 {α : Type} {x y z : α} {l : List α} : atI (x :: y :: z :: l) 2 = some z := atI_nat (l := x :: y :: z :: l) (k := 2) (by simp)
theorem atI_3 {α : Type} {x y z u : α} {l : List α} : atI (x :: y :: z :: u :: l) 3 = some u := atI_nat (l := x :: y :: z :: u :: l) (k := 3) (by simp)
/-- a loop over items by an invariant -/
theorem wFor_inv {G : Store → Prop} {g : Val → Ev → (Ev → Prop) → Prop} {b : Ev → Store → Post → Prop} {D : Post} (kg : ∀ x env P P', (∀ e, P e → P' e) → g x env P → g x env P') (kb : ∀ env S D D', Post.Le D D' → b env S D → b env S D') {items : List Val} (I : Nat → Ev → Store → Prop)
    (hs : ∀ k x env S, items[k]? = some x → I k env S → G S ∧ g x env fun e1 => b e1 S ⟨I (k + 1), D.rt, D.nx, I (k + 1), D.ex⟩) (he : ∀ env S, I items.length env S → G S ∧ D.nx env S) :
    ∀ (n k : Nat) (env : Ev) (S : Store), n + k = items.length → I k env S → wFor G g b D (items.drop k) env S
  | 0, k, env, S, hk, h => by
    have e : k = items.length := by omega
    subst e
    rw [List.drop_length]
    exact he env S h
  | n + 1, k, env, S, hk, h => by
    have hl : k < items.length := by omega
    rw [List.drop_eq_getElem_cons hl]
    obtain ⟨h1, h2⟩ := hs k _ env S (List.getElem?_eq_getElem hl) h
    refine ⟨h1, kg _ _ _ _ (fun e1 h3 => kb _ _ _ _ ?_ h3) h2⟩
    have ih : ∀ e S, I (k + 1) e S → wFor G g b D (items.drop (k + 1)) e S := fun e S => wFor_inv kg kb I hs he n (k + 1) e S (by omega)
    exact ⟨ih, fun _ _ z => z, fun _ _ z => z, ih, fun _ _ _ z => z⟩
theorem for_inv {T : Tb} {G : Store → Prop} {g : Tg} {b : Sx} {D : Post} {items : List Val} {env : Ev} {S : Store} (I : Nat → Ev → Store → Prop) (h0 : I 0 env S)
    (hs : ∀ k x env S, items[k]? = some x → I k env S → G S ∧ tgt g x env fun e1 => wS T b e1 S ⟨I (k + 1), D.rt, D.nx, I (k + 1), D.ex⟩) (he : ∀ env S, I items.length env S → G S ∧ D.nx env S) : wFor G (tgt g) (wS T b) D items env S :=
  wFor_inv (g := tgt g) (b := wS T b) (fun _ _ _ _ k h => tgt_mono k h) (fun _ _ _ _ k h => wS_mono b k h) I hs he items.length 0 env S rfl h0
theorem whl_inv {T : Tb} {c : Ex} {b : Sx} {D : Post} {env : Ev} {S : Store} (W : Nat → Ev → Store → Prop) (m : Nat) (h0 : W m env S)
    (hs : ∀ m env S, W m env S → wT T c env S (fun t S1 => if t = true then wS T b env S1 ⟨fun e' S' => ∃ m', m' < m ∧ W m' e' S', D.rt, D.nx, fun e' S' => ∃ m', m' < m ∧ W m' e' S', D.ex⟩ else D.nx env S1) fun x S' => D.ex x env S') : wS T (.whl c b) env S D := ⟨W, ⟨m, h0⟩, hs⟩

theorem ty_bool_bool : (Ty.bool == Ty.bool) = true := rfl
theorem ty_bool_int : (Ty.bool == Ty.int) = false := rfl
theorem ty_bool_tuple : (Ty.bool == Ty.tuple) = false := rfl
theorem ty_bool_list : (Ty.bool == Ty.list) = false := rfl
theorem ty_bool_str : (Ty.bool == Ty.str) = false := rfl
theorem ty_int_bool : (Ty.int == Ty.bool) = false := rfl
theorem ty_int_int : (Ty.int == Ty.int) = true := rfl
theorem ty_int_tuple : (Ty.int == Ty.tuple) = false := rfl
theorem ty_int_list : (Ty.int == Ty.list) = false := rfl
theorem ty_int_str : (Ty.int == Ty.str) = false := rfl
theorem ty_tuple_bool : (Ty.tuple == Ty.bool) = false := rfl
theorem ty_tuple_int : (Ty.tuple == Ty.int) = false := rfl
theorem ty_tuple_tuple : (Ty.tuple == Ty.tuple) = true := rfl
theorem ty_tuple_list : (Ty.tuple == Ty.list) = false := rfl
theorem ty_tuple_str : (Ty.tuple == Ty.str) = false := rfl
theorem ty_list_bool : (Ty.list == Ty.bool) = false := rfl
theorem ty_list_int : (Ty.list == Ty.int) = false := rfl
theorem ty_list_tuple : (Ty.list == Ty.tuple) = false := rfl
theorem ty_list_list : (Ty.list == Ty.list) = true := rfl
theorem ty_list_str : (Ty.list == Ty.str) = false := rfl
theorem ty_str_bool : (Ty.str == Ty.bool) = false := rfl
theorem ty_str_int : (Ty.str == Ty.int) = false := rfl
theorem ty_str_tuple : (Ty.str == Ty.tuple) = false := rfl
theorem ty_str_list : (Ty.str == Ty.list) = false := rfl
theorem ty_str_str : (Ty.str == Ty.str) = true := rfl
theorem wE_v0 {T : Tb} {v : Val} {env : Ev} {S : Store} {Q : QV} {E : Exn → Store → Prop} : wE T (.var 0) (some v :: env) S Q E = Q v S := propext ⟨fun ⟨_, e, h⟩ => by cases e; exact h, fun h => ⟨v, rfl, h⟩⟩
theorem wT_v0 {T : Tb} {v : Val} {env : Ev} {S : Store} {Q : Bool → Store → Prop} {E : Exn → Store → Prop} : wT T (.var 0) (some v :: env) S Q E = tru v S (fun t => Q t S) := propext ⟨fun ⟨_, e, h⟩ => by cases e; exact h, fun h => ⟨v, rfl, h⟩⟩
theorem tgt_0 {x : Option Val} {v : Val} {env : Ev} {P : Ev → Prop} : tgt (.nm 0) v (x :: env) P = P (some v :: env) := rfl
theorem wE_v1 {T : Tb} {a0 : Option Val} {v : Val} {env : Ev} {S : Store} {Q : QV} {E : Exn → Store → Prop} : wE T (.var 1) (a0 :: some v :: env) S Q E = Q v S := propext ⟨fun ⟨_, e, h⟩ => by cases e; exact h, fun h => ⟨v, rfl, h⟩⟩
theorem wT_v1 {T : Tb} {a0 : Option Val} {v : Val} {env : Ev} {S : Store} {Q : Bool → Store → Prop} {E : Exn → Store → Prop} : wT T (.var 1) (a0 :: some v :: env) S Q E = tru v S (fun t => Q t S) := propext ⟨fun ⟨_, e, h⟩ => by cases e; exact h, fun h => ⟨v, rfl, h⟩⟩
theorem tgt_1 {a0 : Option Val} {x : Option Val} {v : Val} {env : Ev} {P : Ev → Prop} : tgt (.nm 1) v (a0 :: x :: env) P = P (a0 :: some v :: env) := rfl
theorem wE_v2 {T : Tb} {a0 a1 : Option Val} {v : Val} {env : Ev} {S : Store} {Q : QV} {E : Exn → Store → Prop} : wE T (.var 2) (a0 :: a1 :: some v :: env) S Q E = Q v S := propext ⟨fun ⟨_, e, h⟩ => by cases e; exact h, fun h => ⟨v, rfl, h⟩⟩
theorem wT_v2 {T : Tb} {a0 a1 : Option Val} {v : Val} {env : Ev} {S : Store} {Q : Bool → Store → Prop} {E : Exn → Store → Prop} : wT T (.var 2) (a0 :: a1 :: some v :: env) S Q E = tru v S (fun t => Q t S) := propext ⟨fun ⟨_, e, h⟩ => by cases e; exact h, fun h => ⟨v, rfl, h⟩⟩
theorem tgt_2 {a0 a1 : Option Val} {x : Option Val} {v : Val} {env : Ev} {P : Ev → Prop} : tgt (.nm 2) v (a0 :: a1 :: x :: env) P = P (a0 :: a1 :: some v :: env) := rfl
theorem wE_v3 {T : Tb} {a0 a1 a2 : Option Val} {v : Val} {env : Ev} {S : Store} {Q : QV} {E : Exn → Store → Prop} : wE T (.var 3) (a0 :: a1 :: a2 :: some v :: env) S Q E = Q v S := propext ⟨fun ⟨_, e, h⟩ => by cases e; exact h, fun h => ⟨v, rfl, h⟩⟩
theorem wT_v3 {T : Tb} {a0 a1 a2 : Option Val} {v : Val} {env : Ev} {S : Store} {Q : Bool → Store → Prop} {E : Exn → Store → Prop} : wT T (.var 3) (a0 :: a1 :: a2 :: some v :: env) S Q E = tru v S (fun t => Q t S) := propext ⟨fun ⟨_, e, h⟩ => by cases e; exact h, fun h => ⟨v, rfl, h⟩⟩
theorem tgt_3 {a0 a1 a2 : Option Val} {x : Option Val} {v : Val} {env : Ev} {P : Ev → Prop} : tgt (.nm 3) v (a0 :: a1 :: a2 :: x :: env) P = P (a0 :: a1 :: a2 :: some v :: env) := rfl
theorem wE_v4 {T : Tb} {a0 a1 a2 a3 : Option Val} {v : Val} {env : Ev} {S : Store} {Q : QV} {E : Exn → Store → Prop} : wE T (.var 4) (a0 :: a1 :: a2 :: a3 :: some v :: env) S Q E = Q v S := propext ⟨fun ⟨_, e, h⟩ => by cases e; exact h, fun h => ⟨v, rfl, h⟩⟩
theorem wT_v4 {T : Tb} {a0 a1 a2 a3 : Option Val} {v : Val} {env : Ev} {S : Store} {Q : Bool → Store → Prop} {E : Exn → Store → Prop} : wT T (.var 4) (a0 :: a1 :: a2 :: a3 :: some v :: env) S Q E = tru v S (fun t => Q t S) := propext ⟨fun ⟨_, e, h⟩ => by cases e; exact h, fun h => ⟨v, rfl, h⟩⟩
theorem tgt_4 {a0 a1 a2 a3 : Option Val} {x : Option Val} {v : Val} {env : Ev} {P : Ev → Prop} : tgt (.nm 4) v (a0 :: a1 :: a2 :: a3 :: x :: env) P = P (a0 :: a1 :: a2 :: a3 :: some v :: env) := rfl
theorem wE_v5 {T : Tb} {a0 a1 a2 a3 a4 : Option Val} {v : Val} {env : Ev} {S : Store} {Q : QV} {E : Exn → Store → Prop} : wE T (.var 5) (a0 :: a1 :: a2 :: a3 :: a4 :: some v :: env) S Q E = Q v S := propext ⟨fun ⟨_, e, h⟩ => by cases e; exact h, fun h => ⟨v, rfl, h⟩⟩
theorem wT_v5 {T : Tb} {a0 a1 a2 a3 a4 : Option Val} {v : Val} {env : Ev} {S : Store} {Q : Bool → Store → Prop} {E : Exn → Store → Prop} : wT T (.var 5) (a0 :: a1 :: a2 :: a3 :: a4 :: some v :: env) S Q E = tru v S (fun t => Q t S) := propext ⟨fun ⟨_, e, h⟩ => by cases e; exact h, fun h => ⟨v, rfl, h⟩⟩
theorem tgt_5 {a0 a1 a2 a3 a4 : Option Val} {x : Option Val} {v : Val} {env : Ev} {P : Ev → Prop} : tgt (.nm 5) v (a0 :: a1 :: a2 :: a3 :: a4 :: x :: env) P = P (a0 :: a1 :: a2 :: a3 :: a4 :: some v :: env) := rfl
theorem wE_v6 {T : Tb} {a0 a1 a2 a3 a4 a5 : Option Val} {v : Val} {env : Ev} {S : Store} {Q : QV} {E : Exn → Store → Prop} : wE T (.var 6) (a0 :: a1 :: a2 :: a3 :: a4 :: a5 :: some v :: env) S Q E = Q v S := propext ⟨fun ⟨_, e, h⟩ => by cases e; exact h, fun h => ⟨v, rfl, h⟩⟩
theorem wT_v6 {T : Tb} {a0 a1 a2 a3 a4 a5 : Option Val} {v : Val} {env : Ev} {S : Store} {Q : Bool → Store → Prop} {E : Exn → Store → Prop} : wT T (.var 6) (a0 :: a1 :: a2 :: a3 :: a4 :: a5 :: some v :: env) S Q E = tru v S (fun t => Q t S) := propext ⟨fun ⟨_, e, h⟩ => by cases e; exact h, fun h => ⟨v, rfl, h⟩⟩
theorem tgt_6 {a0 a1 a2 a3 a4 a5 : Option Val} {x : Option Val} {v : Val} {env : Ev} {P : Ev → Prop} : tgt (.nm 6) v (a0 :: a1 :: a2 :: a3 :: a4 :: a5 :: x :: env) P = P (a0 :: a1 :: a2 :: a3 :: a4 :: a5 :: some v :: env) := rfl
theorem wE_v7 {T : Tb} {a0 a1 a2 a3 a4 a5 a6 : Option Val} {v : Val} {env : Ev} {S : Store} {Q : QV} {E : Exn → Store → Prop} : wE T (.var 7) (a0 :: a1 :: a2 :: a3 :: a4 :: a5 :: a6 :: some v :: env) S Q E = Q v S := propext ⟨fun ⟨_, e, h⟩ => by cases e; exact h, fun h => ⟨v, rfl, h⟩⟩
theorem wT_v7 {T : Tb} {a0 a1 a2 a3 a4 a5 a6 : Option Val} {v : Val} {env : Ev} {S : Store} {Q : Bool → Store → Prop} {E : Exn → Store → Prop} : wT T (.var 7) (a0 :: a1 :: a2 :: a3 :: a4 :: a5 :: a6 :: some v :: env) S Q E = tru v S (fun t => Q t S) := propext ⟨fun ⟨_, e, h⟩ => by cases e; exact h, fun h => ⟨v, rfl, h⟩⟩
theorem tgt_7 {a0 a1 a2 a3 a4 a5 a6 : Option Val} {x : Option Val} {v : Val} {env : Ev} {P : Ev → Prop} : tgt (.nm 7) v (a0 :: a1 :: a2 :: a3 :: a4 :: a5 :: a6 :: x :: env) P = P (a0 :: a1 :: a2 :: a3 :: a4 :: a5 :: a6 :: some v :: env) := rfl
theorem wE_v8 {T : Tb} {a0 a1 a2 a3 a4 a5 a6 a7 : Option Val} {v : Val} {env : Ev} {S : Store} {Q : QV} {E : Exn → Store → Prop} : wE T (.var 8) (a0 :: a1 :: a2 :: a3 :: a4 :: a5 :: a6 :: a7 :: some v :: env) S Q E = Q v S := propext ⟨fun ⟨_, e, h⟩ => by cases e; exact h, fun h => ⟨v, rfl, h⟩⟩
theorem wT_v8 {T : Tb} {a0 a1 a2 a3 a4 a5 a6 a7 : Option Val} {v : Val} {env : Ev} {S : Store} {Q : Bool → Store → Prop} {E : Exn → Store → Prop} : wT T (.var 8) (a0 :: a1 :: a2 :: a3 :: a4 :: a5 :: a6 :: a7 :: some v :: env) S Q E = tru v S (fun t => Q t S) := propext ⟨fun ⟨_, e, h⟩ => by cases e; exact h, fun h => ⟨v, rfl, h⟩⟩
theorem tgt_8 {a0 a1 a2 a3 a4 a5 a6 a7 : Option Val} {x : Option Val} {v : Val} {env : Ev} {P : Ev → Prop} : tgt (.nm 8) v (a0 :: a1 :: a2 :: a3 :: a4 :: a5 :: a6 :: a7 :: x :: env) P = P (a0 :: a1 :: a2 :: a3 :: a4 :: a5 :: a6 :: a7 :: some v :: env) := rfl
theorem wE_v9 {T : Tb} {a0 a1 a2 a3 a4 a5 a6 a7 a8 : Option Val} {v : Val} {env : Ev} {S : Store} {Q : QV} {E : Exn → Store → Prop} : wE T (.var 9) (a0 :: a1 :: a2 :: a3 :: a4 :: a5 :: a6 :: a7 :: a8 :: some v :: env) S Q E = Q v S := propext ⟨fun ⟨_, e, h⟩ => by cases e; exact h, fun h => ⟨v, rfl, h⟩⟩
theorem wT_v9 {T : Tb} {a0 a1 a2 a3 a4 a5 a6 a7 a8 : Option Val} {v : Val} {env : Ev} {S : Store} {Q : Bool → Store → Prop} {E : Exn → Store → Prop} : wT T (.var 9) (a0 :: a1 :: a2 :: a3 :: a4 :: a5 :: a6 :: a7 :: a8 :: some v :: env) S Q E = tru v S (fun t => Q t S) := propext ⟨fun ⟨_, e, h⟩ => by cases e; exact h, fun h => ⟨v, rfl, h⟩⟩
theorem tgt_9 {a0 a1 a2 a3 a4 a5 a6 a7 a8 : Option Val} {x : Option Val} {v : Val} {env : Ev} {P : Ev → Prop} : tgt (.nm 9) v (a0 :: a1 :: a2 :: a3 :: a4 :: a5 :: a6 :: a7 :: a8 :: x :: env) P = P (a0 :: a1 :: a2 :: a3 :: a4 :: a5 :: a6 :: a7 :: a8 :: some v :: env) := rfl
theorem wE_v10 {T : Tb} {a0 a1 a2 a3 a4 a5 a6 a7 a8 a9 : Option Val} {v : Val} {env : Ev} {S : Store} {Q : QV} {E : Exn → Store → Prop} : wE T (.var 10) (a0 :: a1 :: a2 :: a3 :: a4 :: a5 :: a6 :: a7 :: a8 :: a9 :: some v :: env) S Q E = Q v S := propext ⟨fun ⟨_, e, h⟩ => by cases e; exact h, fun h => ⟨v, rfl, h⟩⟩
theorem wT_v10 {T : Tb} {a0 a1 a2 a3 a4 a5 a6 a7 a8 a9 : Option Val} {v : Val} {env : Ev} {S : Store} {Q : Bool → Store → Prop} {E : Exn → Store → Prop} : wT T (.var 10) (a0 :: a1 :: a2 :: a3 :: a4 :: a5 :: a6 :: a7 :: a8 :: a9 :: some v :: env) S Q E = tru v S (fun t => Q t S) := propext ⟨fun ⟨_, e, h⟩ => by cases e; exact h, fun h => ⟨v, rfl, h⟩⟩
theorem tgt_10 {a0 a1 a2 a3 a4 a5 a6 a7 a8 a9 : Option Val} {x : Option Val} {v : Val} {env : Ev} {P : Ev → Prop} : tgt (.nm 10) v (a0 :: a1 :: a2 :: a3 :: a4 :: a5 :: a6 :: a7 :: a8 :: a9 :: x :: env) P = P (a0 :: a1 :: a2 :: a3 :: a4 :: a5 :: a6 :: a7 :: a8 :: a9 :: some v :: env) := rfl
theorem wE_v11 {T : Tb} {a0 a1 a2 a3 a4 a5 a6 a7 a8 a9 a10 : Option Val} {v : Val} {env : Ev} {S : Store} {Q : QV} {E : Exn → Store → Prop} : wE T (.var 11) (a0 :: a1 :: a2 :: a3 :: a4 :: a5 :: a6 :: a7 :: a8 :: a9 :: a10 :: some v :: env) S Q E = Q v S := propext ⟨fun ⟨_, e, h⟩ => by cases e; exact h, fun h => ⟨v, rfl, h⟩⟩
theorem wT_v11 {T : Tb} {a0 a1 a2 a3 a4 a5 a6 a7 a8 a9 a10 : Option Val} {v : Val} {env : Ev} {S : Store} {Q : Bool → Store → Prop} {E : Exn → Store → Prop} : wT T (.var 11) (a0 :: a1 :: a2 :: a3 :: a4 :: a5 :: a6 :: a7 :: a8 :: a9 :: a10 :: some v :: env) S Q E = tru v S (fun t => Q t S) := propext ⟨fun ⟨_, e, h⟩ => by cases e; exact h, fun h => ⟨v, rfl, h⟩⟩
theorem tgt_11 {a0 a1 a2 a3 a4 a5 a6 a7 a8 a9 a10 : Option Val} {x : Option Val} {v : Val} {env : Ev} {P : Ev → Prop} : tgt (.nm 11) v (a0 :: a1 :: a2 :: a3 :: a4 :: a5 :: a6 :: a7 :: a8 :: a9 :: a10 :: x :: env) P = P (a0 :: a1 :: a2 :: a3 :: a4 :: a5 :: a6 :: a7 :: a8 :: a9 :: a10 :: some v :: env) := rfl
theorem wE_v12 {T : Tb} {a0 a1 a2 a3 a4 a5 a6 a7 a8 a9 a10 a11 : Option Val} {v : Val} {env : Ev} {S : Store} {Q : QV} {E : Exn → Store → Prop} : wE T (.var 12) (a0 :: a1 :: a2 :: a3 :: a4 :: a5 :: a6 :: a7 :: a8 :: a9 :: a10 :: a11 :: some v :: env) S Q E = Q v S := propext ⟨fun ⟨_, e, h⟩ => by cases e; exact h, fun h => ⟨v, rfl, h⟩⟩
theorem wT_v12 {T : Tb} {a0 a1 a2 a3 a4 a5 a6 a7 a8 a9 a10 a11 : Option Val} {v : Val} {env : Ev} {S : Store} {Q : Bool → Store → Prop} {E : Exn → Store → Prop} : wT T (.var 12) (a0 :: a1 :: a2 :: a3 :: a4 :: a5 :: a6 :: a7 :: a8 :: a9 :: a10 :: a11 :: some v :: env) S Q E = tru v S (fun t => Q t S) := propext ⟨fun ⟨_, e, h⟩ => by cases e; exact h, fun h => ⟨v, rfl, h⟩⟩
theorem tgt_12 {a0 a1 a2 a3 a4 a5 a6 a7 a8 a9 a10 a11 : Option Val} {x : Option Val} {v : Val} {env : Ev} {P : Ev → Prop} : tgt (.nm 12) v (a0 :: a1 :: a2 :: a3 :: a4 :: a5 :: a6 :: a7 :: a8 :: a9 :: a10 :: a11 :: x :: env) P = P (a0 :: a1 :: a2 :: a3 :: a4 :: a5 :: a6 :: a7 :: a8 :: a9 :: a10 :: a11 :: some v :: env) := rfl
theorem wE_v13 {T : Tb} {a0 a1 a2 a3 a4 a5 a6 a7 a8 a9 a10 a11 a12 : Option Val} {v : Val} {env : Ev} {S : Store} {Q : QV} {E : Exn → Store → Prop} : wE T (.var 13) (a0 :: a1 :: a2 :: a3 :: a4 :: a5 :: a6 :: a7 :: a8 :: a9 :: a10 :: a11 :: a12 :: some v :: env) S Q E = Q v S := propext ⟨fun ⟨_, e, h⟩ => by cases e; exact h, fun h => ⟨v, rfl, h⟩⟩
theorem wT_v13 {T : Tb} {a0 a1 a2 a3 a4 a5 a6 a7 a8 a9 a10 a11 a12 : Option Val} {v : Val} {env : Ev} {S : Store} {Q : Bool → Store → Prop} {E : Exn → Store → Prop} : wT T (.var 13) (a0 :: a1 :: a2 :: a3 :: a4 :: a5 :: a6 :: a7 :: a8 :: a9 :: a10 :: a11 :: a12 :: some v :: env) S Q E = tru v S (fun t => Q t S) := propext ⟨fun ⟨_, e, h⟩ => by cases e; exact h, fun h => ⟨v, rfl, h⟩⟩
theorem tgt_13 {a0 a1 a2 a3 a4 a5 a6 a7 a8 a9 a10 a11 a12 : Option Val} {x : Option Val} {v : Val} {env : Ev} {P : Ev → Prop} : tgt (.nm 13) v (a0 :: a1 :: a2 :: a3 :: a4 :: a5 :: a6 :: a7 :: a8 :: a9 :: a10 :: a11 :: a12 :: x :: env) P = P (a0 :: a1 :: a2 :: a3 :: a4 :: a5 :: a6 :: a7 :: a8 :: a9 :: a10 :: a11 :: a12 :: some v :: env) := rfl
theorem wE_v14 {T : Tb} {a0 a1 a2 a3 a4 a5 a6 a7 a8 a9 a10 a11 a12 a13 : Option Val} {v : Val} {env : Ev} {S : Store} {Q : QV} {E : Exn → Store → Prop} : wE T (.var 14) (a0 :: a1 :: a2 :: a3 :: a4 :: a5 :: a6 :: a7 :: a8 :: a9 :: a10 :: a11 :: a12 :: a13 :: some v :: env) S Q E = Q v S := propext ⟨fun ⟨_, e, h⟩ => by cases e; exact h, fun h => ⟨v, rfl, h⟩⟩
theorem wT_v14 {T : Tb} {a0 a1 a2 a3 a4 a5 a6 a7 a8 a9 a10 a11 a12 a13 : Option Val} {v : Val} {env : Ev} {S : Store} {Q : Bool → Store → Prop} {E : Exn → Store → Prop} : wT T (.var 14) (a0 :: a1 :: a2 :: a3 :: a4 :: a5 :: a6 :: a7 :: a8 :: a9 :: a10 :: a11 :: a12 :: a13 :: some v :: env) S Q E = tru v S (fun t => Q t S) := propext ⟨fun ⟨_, e, h⟩ => by cases e; exact h, fun h => ⟨v, rfl, h⟩⟩
theorem tgt_14 {a0 a1 a2 a3 a4 a5 a6 a7 a8 a9 a10 a11 a12 a13 : Option Val} {x : Option Val} {v : Val} {env : Ev} {P : Ev → Prop} : tgt (.nm 14) v (a0 :: a1 :: a2 :: a3 :: a4 :: a5 :: a6 :: a7 :: a8 :: a9 :: a10 :: a11 :: a12 :: a13 :: x :: env) P = P (a0 :: a1 :: a2 :: a3 :: a4 :: a5 :: a6 :: a7 :: a8 :: a9 :: a10 :: a11 :: a12 :: a13 :: some v :: env) := rfl
theorem wE_v15 {T : Tb} {a0 a1 a2 a3 a4 a5 a6 a7 a8 a9 a10 a11 a12 a13 a14 : Option Val} {v : Val} {env : Ev} {S : Store} {Q : QV} {E : Exn → Store → Prop} : wE T (.var 15) (a0 :: a1 :: a2 :: a3 :: a4 :: a5 :: a6 :: a7 :: a8 :: a9 :: a10 :: a11 :: a12 :: a13 :: a14 :: some v :: env) S Q E = Q v S := propext ⟨fun ⟨_, e, h⟩ => by cases e; exact h, fun h => ⟨v, rfl, h⟩⟩
theorem wT_v15 {T : Tb} {a0 a1 a2 a3 a4 a5 a6 a7 a8 a9 a10 a11 a12 a13 a14 : Option Val} {v : Val} {env : Ev} {S : Store} {Q : Bool → Store → Prop} {E : Exn → Store → Prop} : wT T (.var 15) (a0 :: a1 :: a2 :: a3 :: a4 :: a5 :: a6 :: a7 :: a8 :: a9 :: a10 :: a11 :: a12 :: a13 :: a14 :: some v :: env) S Q E = tru v S (fun t => Q t S) := propext ⟨fun ⟨_, e, h⟩ => by cases e; exact h, fun h => ⟨v, rfl, h⟩⟩
theorem tgt_15 {a0 a1 a2 a3 a4 a5 a6 a7 a8 a9 a10 a11 a12 a13 a14 : Option Val} {x : Option Val} {v : Val} {env : Ev} {P : Ev → Prop} : tgt (.nm 15) v (a0 :: a1 :: a2 :: a3 :: a4 :: a5 :: a6 :: a7 :: a8 :: a9 :: a10 :: a11 :: a12 :: a13 :: a14 :: x :: env) P = P (a0 :: a1 :: a2 :: a3 :: a4 :: a5 :: a6 :: a7 :: a8 :: a9 :: a10 :: a11 :: a12 :: a13 :: a14 :: some v :: env) := rfl
theorem wE_v16 {T : Tb} {a0 a1 a2 a3 a4 a5 a6 a7 a8 a9 a10 a11 a12 a13 a14 a15 : Option Val} {v : Val} {env : Ev} {S : Store} {Q : QV} {E : Exn → Store → Prop} : wE T (.var 16) (a0 :: a1 :: a2 :: a3 :: a4 :: a5 :: a6 :: a7 :: a8 :: a9 :: a10 :: a11 :: a12 :: a13 :: a14 :: a15 :: some v :: env) S Q E = Q v S := propext ⟨fun ⟨_, e, h⟩ => by cases e; exact h, fun h => ⟨v, rfl, h⟩⟩
theorem wT_v16 {T : Tb} {a0 a1 a2 a3 a4 a5 a6 a7 a8 a9 a10 a11 a12 a13 a14 a15 : Option Val} {v : Val} {env : Ev} {S : Store} {Q : Bool → Store → Prop} {E : Exn → Store → Prop} : wT T (.var 16) (a0 :: a1 :: a2 :: a3 :: a4 :: a5 :: a6 :: a7 :: a8 :: a9 :: a10 :: a11 :: a12 :: a13 :: a14 :: a15 :: some v :: env) S Q E = tru v S (fun t => Q t S) := propext ⟨fun ⟨_, e, h⟩ => by cases e; exact h, fun h => ⟨v, rfl, h⟩⟩
theorem tgt_16 {a0 a1 a2 a3 a4 a5 a6 a7 a8 a9 a10 a11 a12 a13 a14 a15 : Option Val} {x : Option Val} {v : Val} {env : Ev} {P : Ev → Prop} : tgt (.nm 16) v (a0 :: a1 :: a2 :: a3 :: a4 :: a5 :: a6 :: a7 :: a8 :: a9 :: a10 :: a11 :: a12 :: a13 :: a14 :: a15 :: x :: env) P = P (a0 :: a1 :: a2 :: a3 :: a4 :: a5 :: a6 :: a7 :: a8 :: a9 :: a10 :: a11 :: a12 :: a13 :: a14 :: a15 :: some v :: env) := rfl
theorem wE_v17 {T : Tb} {a0 a1 a2 a3 a4 a5 a6 a7 a8 a9 a10 a11 a12 a13 a14 a15 a16 : Option Val} {v : Val} {env : Ev} {S : Store} {Q : QV} {E : Exn → Store → Prop} : wE T (.var 17) (a0 :: a1 :: a2 :: a3 :: a4 :: a5 :: a6 :: a7 :: a8 :: a9 :: a10 :: a11 :: a12 :: a13 :: a14 :: a15 :: a16 :: some v :: env) S Q E = Q v S := propext ⟨fun ⟨_, e, h⟩ => by cases e; exact h, fun h => ⟨v, rfl, h⟩⟩
theorem wT_v17 {T : Tb} {a0 a1 a2 a3 a4 a5 a6 a7 a8 a9 a10 a11 a12 a13 a14 a15 a16 : Option Val} {v : Val} {env : Ev} {S : Store} {Q : Bool → Store → Prop} {E : Exn → Store → Prop} : wT T (.var 17) (a0 :: a1 :: a2 :: a3 :: a4 :: a5 :: a6 :: a7 :: a8 :: a9 :: a10 :: a11 :: a12 :: a13 :: a14 :: a15 :: a16 :: some v :: env) S Q E = tru v S (fun t => Q t S) := propext ⟨fun ⟨_, e, h⟩ => by cases e; exact h, fun h => ⟨v, rfl, h⟩⟩
theorem tgt_17 {a0 a1 a2 a3 a4 a5 a6 a7 a8 a9 a10 a11 a12 a13 a14 a15 a16 : Option Val} {x : Option Val} {v : Val} {env : Ev} {P : Ev → Prop} : tgt (.nm 17) v (a0 :: a1 :: a2 :: a3 :: a4 :: a5 :: a6 :: a7 :: a8 :: a9 :: a10 :: a11 :: a12 :: a13 :: a14 :: a15 :: a16 :: x :: env) P = P (a0 :: a1 :: a2 :: a3 :: a4 :: a5 :: a6 :: a7 :: a8 :: a9 :: a10 :: a11 :: a12 :: a13 :: a14 :: a15 :: a16 :: some v :: env) := rfl
theorem wE_v18 {T : Tb} {a0 a1 a2 a3 a4 a5 a6 a7 a8 a9 a10 a11 a12 a13 a14 a15 a16 a17 : Option Val} {v : Val} {env : Ev} {S : Store} {Q : QV} {E : Exn → Store → Prop} : wE T (.var 18) (a0 :: a1 :: a2 :: a3 :: a4 :: a5 :: a6 :: a7 :: a8 :: a9 :: a10 :: a11 :: a12 :: a13 :: a14 :: a15 :: a16 :: a17 :: some v :: env) S Q E = Q v S := propext ⟨fun ⟨_, e, h⟩ => by cases e; exact h, fun h => ⟨v, rfl, h⟩⟩
theorem wT_v18 {T : Tb} {a0 a1 a2 a3 a4 a5 a6 a7 a8 a9 a10 a11 a12 a13 a14 a15 a16 a17 : Option Val} {v : Val} {env : Ev} {S : Store} {Q : Bool → Store → Prop} {E : Exn → Store → Prop} : wT T (.var 18) (a0 :: a1 :: a2 :: a3 :: a4 :: a5 :: a6 :: a7 :: a8 :: a9 :: a10 :: a11 :: a12 :: a13 :: a14 :: a15 :: a16 :: a17 :: some v :: env) S Q E = tru v S (fun t => Q t S) := propext ⟨fun ⟨_, e, h⟩ => by cases e; exact h, fun h => ⟨v, rfl, h⟩⟩
theorem tgt_18 {a0 a1 a2 a3 a4 a5 a6 a7 a8 a9 a10 a11 a12 a13 a14 a15 a16 a17 : Option Val} {x : Option Val} {v : Val} {env : Ev} {P : Ev → Prop} : tgt (.nm 18) v (a0 :: a1 :: a2 :: a3 :: a4 :: a5 :: a6 :: a7 :: a8 :: a9 :: a10 :: a11 :: a12 :: a13 :: a14 :: a15 :: a16 :: a17 :: x :: env) P = P (a0 :: a1 :: a2 :: a3 :: a4 :: a5 :: a6 :: a7 :: a8 :: a9 :: a10 :: a11 :: a12 :: a13 :: a14 :: a15 :: a16 :: a17 :: some v :: env) := rfl
theorem wE_v19 {T : Tb} {a0 a1 a2 a3 a4 a5 a6 a7 a8 a9 a10 a11 a12 a13 a14 a15 a16 a17 a18 : Option Val} {v : Val} {env : Ev} {S : Store} {Q : QV} {E : Exn → Store → Prop} : wE T (.var 19) (a0 :: a1 :: a2 :: a3 :: a4 :: a5 :: a6 :: a7 :: a8 :: a9 :: a10 :: a11 :: a12 :: a13 :: a14 :: a15 :: a16 :: a17 :: a18 :: some v :: env) S Q E = Q v S := propext ⟨fun ⟨_, e, h⟩ => by cases e; exact h, fun h => ⟨v, rfl, h⟩⟩
theorem wT_v19 {T : Tb} {a0 a1 a2 a3 a4 a5 a6 a7 a8 a9 a10 a11 a12 a13 a14 a15 a16 a17 a18 : Option Val} {v : Val} {env : Ev} {S : Store} {Q : Bool → Store → Prop} {E : Exn → Store → Prop} : wT T (.var 19) (a0 :: a1 :: a2 :: a3 :: a4 :: a5 :: a6 :: a7 :: a8 :: a9 :: a10 :: a11 :: a12 :: a13 :: a14 :: a15 :: a16 :: a17 :: a18 :: some v :: env) S Q E = tru v S (fun t => Q t S) := propext ⟨fun ⟨_, e, h⟩ => by cases e; exact h, fun h => ⟨v, rfl, h⟩⟩
theorem tgt_19 {a0 a1 a2 a3 a4 a5 a6 a7 a8 a9 a10 a11 a12 a13 a14 a15 a16 a17 a18 : Option Val} {x : Option Val} {v : Val} {env : Ev} {P : Ev → Prop} : tgt (.nm 19) v (a0 :: a1 :: a2 :: a3 :: a4 :: a5 :: a6 :: a7 :: a8 :: a9 :: a10 :: a11 :: a12 :: a13 :: a14 :: a15 :: a16 :: a17 :: a18 :: x :: env) P = P (a0 :: a1 :: a2 :: a3 :: a4 :: a5 :: a6 :: a7 :: a8 :: a9 :: a10 :: a11 :: a12 :: a13 :: a14 :: a15 :: a16 :: a17 :: a18 :: some v :: env) := rfl
theorem wE_v20 {T : Tb} {a0 a1 a2 a3 a4 a5 a6 a7 a8 a9 a10 a11 a12 a13 a14 a15 a16 a17 a18 a19 : Option Val} {v : Val} {env : Ev} {S : Store} {Q : QV} {E : Exn → Store → Prop} : wE T (.var 20) (a0 :: a1 :: a2 :: a3 :: a4 :: a5 :: a6 :: a7 :: a8 :: a9 :: a10 :: a11 :: a12 :: a13 :: a14 :: a15 :: a16 :: a17 :: a18 :: a19 :: some v :: env) S Q E = Q v S := propext ⟨fun ⟨_, e, h⟩ => by cases e; exact h, fun h => ⟨v, rfl, h⟩⟩
theorem wT_v20 {T : Tb} {a0 a1 a2 a3 a4 a5 a6 a7 a8 a9 a10 a11 a12 a13 a14 a15 a16 a17 a18 a19 : Option Val} {v : Val} {env : Ev} {S : Store} {Q : Bool → Store → Prop} {E : Exn → Store → Prop} : wT T (.var 20) (a0 :: a1 :: a2 :: a3 :: a4 :: a5 :: a6 :: a7 :: a8 :: a9 :: a10 :: a11 :: a12 :: a13 :: a14 :: a15 :: a16 :: a17 :: a18 :: a19 :: some v :: env) S Q E = tru v S (fun t => Q t S) := propext ⟨fun ⟨_, e, h⟩ => by cases e; exact h, fun h => ⟨v, rfl, h⟩⟩
theorem tgt_20 {a0 a1 a2 a3 a4 a5 a6 a7 a8 a9 a10 a11 a12 a13 a14 a15 a16 a17 a18 a19 : Option Val} {x : Option Val} {v : Val} {env : Ev} {P : Ev → Prop} : tgt (.nm 20) v (a0 :: a1 :: a2 :: a3 :: a4 :: a5 :: a6 :: a7 :: a8 :: a9 :: a10 :: a11 :: a12 :: a13 :: a14 :: a15 :: a16 :: a17 :: a18 :: a19 :: x :: env) P = P (a0 :: a1 :: a2 :: a3 :: a4 :: a5 :: a6 :: a7 :: a8 :: a9 :: a10 :: a11 :: a12 :: a13 :: a14 :: a15 :: a16 :: a17 :: a18 :: a19 :: some v :: env) := rfl
theorem wE_v21 {T : Tb} {a0 a1 a2 a3 a4 a5 a6 a7 a8 a9 a10 a11 a12 a13 a14 a15 a16 a17 a18 a19 a20 : Option Val} {v : Val} {env : Ev} {S : Store} {Q : QV} {E : Exn → Store → Prop} : wE T (.var 21) (a0 :: a1 :: a2 :: a3 :: a4 :: a5 :: a6 :: a7 :: a8 :: a9 :: a10 :: a11 :: a12 :: a13 :: a14 :: a15 :: a16 :: a17 :: a18 :: a19 :: a20 :: some v :: env) S Q E = Q v S := propext ⟨fun ⟨_, e, h⟩ => by cases e; exact h, fun h => ⟨v, rfl, h⟩⟩
theorem wT_v21 {T : Tb} {a0 a1 a2 a3 a4 a5 a6 a7 a8 a9 a10 a11 a12 a13 a14 a15 a16 a17 a18 a19 a20 : Option Val} {v : Val} {env : Ev} {S : Store} {Q : Bool → Store → Prop} {E : Exn → Store → Prop} : wT T (.var 21) (a0 :: a1 :: a2 :: a3 :: a4 :: a5 :: a6 :: a7 :: a8 :: a9 :: a10 :: a11 :: a12 :: a13 :: a14 :: a15 :: a16 :: a17 :: a18 :: a19 :: a20 :: some v :: env) S Q E = tru v S (fun t => Q t S) := propext ⟨fun ⟨_, e, h⟩ => by cases e; exact h, fun h => ⟨v, rfl, h⟩⟩
theorem tgt_21 {a0 a1 a2 a3 a4 a5 a6 a7 a8 a9 a10 a11 a12 a13 a14 a15 a16 a17 a18 a19 a20 : Option Val} {x : Option Val} {v : Val} {env : Ev} {P : Ev → Prop} : tgt (.nm 21) v (a0 :: a1 :: a2 :: a3 :: a4 :: a5 :: a6 :: a7 :: a8 :: a9 :: a10 :: a11 :: a12 :: a13 :: a14 :: a15 :: a16 :: a17 :: a18 :: a19 :: a20 :: x :: env) P = P (a0 :: a1 :: a2 :: a3 :: a4 :: a5 :: a6 :: a7 :: a8 :: a9 :: a10 :: a11 :: a12 :: a13 :: a14 :: a15 :: a16 :: a17 :: a18 :: a19 :: a20 :: some v :: env) := rfl
theorem wE_v22 {T : Tb} {a0 a1 a2 a3 a4 a5 a6 a7 a8 a9 a10 a11 a12 a13 a14 a15 a16 a17 a18 a19 a20 a21 : Option Val} {v : Val} {env : Ev} {S : Store} {Q : QV} {E : Exn → Store → Prop} : wE T (.var 22) (a0 :: a1 :: a2 :: a3 :: a4 :: a5 :: a6 :: a7 :: a8 :: a9 :: a10 :: a11 :: a12 :: a13 :: a14 :: a15 :: a16 :: a17 :: a18 :: a19 :: a20 :: a21 :: some v :: env) S Q E = Q v S := propext ⟨fun ⟨_, e, h⟩ => by cases e; exact h, fun h => ⟨v, rfl, h⟩⟩
theorem wT_v22 {T : Tb} {a0 a1 a2 a3 a4 a5 a6 a7 a8 a9 a10 a11 a12 a13 a14 a15 a16 a17 a18 a19 a20 a21 : Option Val} {v : Val} {env : Ev} {S : Store} {Q : Bool → Store → Prop} {E : Exn → Store → Prop} : wT T (.var 22) (a0 :: a1 :: a2 :: a3 :: a4 :: a5 :: a6 :: a7 :: a8 :: a9 :: a10 :: a11 :: a12 :: a13 :: a14 :: a15 :: a16 :: a17 :: a18 :: a19 :: a20 :: a21 :: some v :: env) S Q E = tru v S (fun t => Q t S) := propext ⟨fun ⟨_, e, h⟩ => by cases e; exact h, fun h => ⟨v, rfl, h⟩⟩
theorem tgt_22 {a0 a1 a2 a3 a4 a5 a6 a7 a8 a9 a10 a11 a12 a13 a14 a15 a16 a17 a18 a19 a20 a21 : Option Val} {x : Option Val} {v : Val} {env : Ev} {P : Ev → Prop} : tgt (.nm 22) v (a0 :: a1 :: a2 :: a3 :: a4 :: a5 :: a6 :: a7 :: a8 :: a9 :: a10 :: a11 :: a12 :: a13 :: a14 :: a15 :: a16 :: a17 :: a18 :: a19 :: a20 :: a21 :: x :: env) P = P (a0 :: a1 :: a2 :: a3 :: a4 :: a5 :: a6 :: a7 :: a8 :: a9 :: a10 :: a11 :: a12 :: a13 :: a14 :: a15 :: a16 :: a17 :: a18 :: a19 :: a20 :: a21 :: some v :: env) := rfl
theorem wE_v23 {T : Tb} {a0 a1 a2 a3 a4 a5 a6 a7 a8 a9 a10 a11 a12 a13 a14 a15 a16 a17 a18 a19 a20 a21 a22 : Option Val} {v : Val} {env : Ev} {S : Store} {Q : QV} {E : Exn → Store → Prop} : wE T (.var 23) (a0 :: a1 :: a2 :: a3 :: a4 :: a5 :: a6 :: a7 :: a8 :: a9 :: a10 :: a11 :: a12 :: a13 :: a14 :: a15 :: a16 :: a17 :: a18 :: a19 :: a20 :: a21 :: a22 :: some v :: env) S Q E = Q v S := propext ⟨fun ⟨_, e, h⟩ => by cases e; exact h, fun h => ⟨v, rfl, h⟩⟩
theorem wT_v23 {T : Tb} {a0 a1 a2 a3 a4 a5 a6 a7 a8 a9 a10 a11 a12 a13 a14 a15 a16 a17 a18 a19 a20 a21 a22 : Option Val} {v : Val} {env : Ev} {S : Store} {Q : Bool → Store → Prop} {E : Exn → Store → Prop} : wT T (.var 23) (a0 :: a1 :: a2 :: a3 :: a4 :: a5 :: a6 :: a7 :: a8 :: a9 :: a10 :: a11 :: a12 :: a13 :: a14 :: a15 :: a16 :: a17 :: a18 :: a19 :: a20 :: a21 :: a22 :: some v :: env) S Q E = tru v S (fun t => Q t S) := propext ⟨fun ⟨_, e, h⟩ => by cases e; exact h, fun h => ⟨v, rfl, h⟩⟩
theorem tgt_23 {a0 a1 a2 a3 a4 a5 a6 a7 a8 a9 a10 a11 a12 a13 a14 a15 a16 a17 a18 a19 a20 a21 a22 : Option Val} {x : Option Val} {v : Val} {env : Ev} {P : Ev → Prop} : tgt (.nm 23) v (a0 :: a1 :: a2 :: a3 :: a4 :: a5 :: a6 :: a7 :: a8 :: a9 :: a10 :: a11 :: a12 :: a13 :: a14 :: a15 :: a16 :: a17 :: a18 :: a19 :: a20 :: a21 :: a22 :: x :: env) P = P (a0 :: a1 :: a2 :: a3 :: a4 :: a5 :: a6 :: a7 :: a8 :: a9 :: a10 :: a11 :: a12 :: a13 :: a14 :: a15 :: a16 :: a17 :: a18 :: a19 :: a20 :: a21 :: a22 :: some v :: env) := rfl
theorem wE_v24 {T : Tb} {a0 a1 a2 a3 a4 a5 a6 a7 a8 a9 a10 a11 a12 a13 a14 a15 a16 a17 a18 a19 a20 a21 a22 a23 : Option Val} {v : Val} {env : Ev} {S : Store} {Q : QV} {E : Exn → Store → Prop} : wE T (.var 24) (a0 :: a1 :: a2 :: a3 :: a4 :: a5 :: a6 :: a7 :: a8 :: a9 :: a10 :: a11 :: a12 :: a13 :: a14 :: a15 :: a16 :: a17 :: a18 :: a19 :: a20 :: a21 :: a22 :: a23 :: some v :: env) S Q E = Q v S := propext ⟨fun ⟨_, e, h⟩ => by cases e; exact h, fun h => ⟨v, rfl, h⟩⟩
theorem wT_v24 {T : Tb} {a0 a1 a2 a3 a4 a5 a6 a7 a8 a9 a10 a11 a12 a13 a14 a15 a16 a17 a18 a19 a20 a21 a22 a23 : Option Val} {v : Val} {env : Ev} {S : Store} {Q : Bool → Store → Prop} {E : Exn → Store → Prop} : wT T (.var 24) (a0 :: a1 :: a2 :: a3 :: a4 :: a5 :: a6 :: a7 :: a8 :: a9 :: a10 :: a11 :: a12 :: a13 :: a14 :: a15 :: a16 :: a17 :: a18 :: a19 :: a20 :: a21 :: a22 :: a23 :: some v :: env) S Q E = tru v S (fun t => Q t S) := propext ⟨fun ⟨_, e, h⟩ => by cases e; exact h, fun h => ⟨v, rfl, h⟩⟩
theorem tgt_24 {a0 a1 a2 a3 a4 a5 a6 a7 a8 a9 a10 a11 a12 a13 a14 a15 a16 a17 a18 a19 a20 a21 a22 a23 : Option Val} {x : Option Val} {v : Val} {env : Ev} {P : Ev → Prop} : tgt (.nm 24) v (a0 :: a1 :: a2 :: a3 :: a4 :: a5 :: a6 :: a7 :: a8 :: a9 :: a10 :: a11 :: a12 :: a13 :: a14 :: a15 :: a16 :: a17 :: a18 :: a19 :: a20 :: a21 :: a22 :: a23 :: x :: env) P = P (a0 :: a1 :: a2 :: a3 :: a4 :: a5 :: a6 :: a7 :: a8 :: a9 :: a10 :: a11 :: a12 :: a13 :: a14 :: a15 :: a16 :: a17 :: a18 :: a19 :: a20 :: a21 :: a22 :: a23 :: some v :: env) := rfl
theorem wE_v25 {T : Tb} {a0 a1 a2 a3 a4 a5 a6 a7 a8 a9 a10 a11 a12 a13 a14 a15 a16 a17 a18 a19 a20 a21 a22 a23 a24 : Option Val} {v : Val} {env : Ev} {S : Store} {Q : QV} {E : Exn → Store → Prop} : wE T (.var 25) (a0 :: a1 :: a2 :: a3 :: a4 :: a5 :: a6 :: a7 :: a8 :: a9 :: a10 :: a11 :: a12 :: a13 :: a14 :: a15 :: a16 :: a17 :: a18 :: a19 :: a20 :: a21 :: a22 :: a23 :: a24 :: some v :: env) S Q E = Q v S := propext ⟨fun ⟨_, e, h⟩ => by cases e; exact h, fun h => ⟨v, rfl, h⟩⟩
theorem wT_v25 {T : Tb} {a0 a1 a2 a3 a4 a5 a6 a7 a8 a9 a10 a11 a12 a13 a14 a15 a16 a17 a18 a19 a20 a21 a22 a23 a24 : Option Val} {v : Val} {env : Ev} {S : Store} {Q : Bool → Store → Prop} {E : Exn → Store → Prop} : wT T (.var 25) (a0 :: a1 :: a2 :: a3 :: a4 :: a5 :: a6 :: a7 :: a8 :: a9 :: a10 :: a11 :: a12 :: a13 :: a14 :: a15 :: a16 :: a17 :: a18 :: a19 :: a20 :: a21 :: a22 :: a23 :: a24 :: some v :: env) S Q E = tru v S (fun t => Q t S) := propext ⟨fun ⟨_, e, h⟩ => by cases e; exact h, fun h => ⟨v, rfl, h⟩⟩
theorem tgt_25 {a0 a1 a2 a3 a4 a5 a6 a7 a8 a9 a10 a11 a12 a13 a14 a15 a16 a17 a18 a19 a20 a21 a22 a23 a24 : Option Val} {x : Option Val} {v : Val} {env : Ev} {P : Ev → Prop} : tgt (.nm 25) v (a0 :: a1 :: a2 :: a3 :: a4 :: a5 :: a6 :: a7 :: a8 :: a9 :: a10 :: a11 :: a12 :: a13 :: a14 :: a15 :: a16 :: a17 :: a18 :: a19 :: a20 :: a21 :: a22 :: a23 :: a24 :: x :: env) P = P (a0 :: a1 :: a2 :: a3 :: a4 :: a5 :: a6 :: a7 :: a8 :: a9 :: a10 :: a11 :: a12 :: a13 :: a14 :: a15 :: a16 :: a17 :: a18 :: a19 :: a20 :: a21 :: a22 :: a23 :: a24 :: some v :: env) := rfl
theorem wE_v26 {T : Tb} {a0 a1 a2 a3 a4 a5 a6 a7 a8 a9 a10 a11 a12 a13 a14 a15 a16 a17 a18 a19 a20 a21 a22 a23 a24 a25 : Option Val} {v : Val} {env : Ev} {S : Store} {Q : QV} {E : Exn → Store → Prop} : wE T (.var 26) (a0 :: a1 :: a2 :: a3 :: a4 :: a5 :: a6 :: a7 :: a8 :: a9 :: a10 :: a11 :: a12 :: a13 :: a14 :: a15 :: a16 :: a17 :: a18 :: a19 :: a20 :: a21 :: a22 :: a23 :: a24 :: a25 :: some v :: env) S Q E = Q v S := propext ⟨fun ⟨_, e, h⟩ => by cases e; exact h, fun h => ⟨v, rfl, h⟩⟩
theorem wT_v26 {T : Tb} {a0 a1 a2 a3 a4 a5 a6 a7 a8 a9 a10 a11 a12 a13 a14 a15 a16 a17 a18 a19 a20 a21 a22 a23 a24 a25 : Option Val} {v : Val} {env : Ev} {S : Store} {Q : Bool → Store → Prop} {E : Exn → Store → Prop} : wT T (.var 26) (a0 :: a1 :: a2 :: a3 :: a4 :: a5 :: a6 :: a7 :: a8 :: a9 :: a10 :: a11 :: a12 :: a13 :: a14 :: a15 :: a16 :: a17 :: a18 :: a19 :: a20 :: a21 :: a22 :: a23 :: a24 :: a25 :: some v :: env) S Q E = tru v S (fun t => Q t S) := propext ⟨fun ⟨_, e, h⟩ => by cases e; exact h, fun h => ⟨v, rfl, h⟩⟩
theorem tgt_26 {a0 a1 a2 a3 a4 a5 a6 a7 a8 a9 a10 a11 a12 a13 a14 a15 a16 a17 a18 a19 a20 a21 a22 a23 a24 a25 : Option Val} {x : Option Val} {v : Val} {env : Ev} {P : Ev → Prop} : tgt (.nm 26) v (a0 :: a1 :: a2 :: a3 :: a4 :: a5 :: a6 :: a7 :: a8 :: a9 :: a10 :: a11 :: a12 :: a13 :: a14 :: a15 :: a16 :: a17 :: a18 :: a19 :: a20 :: a21 :: a22 :: a23 :: a24 :: a25 :: x :: env) P = P (a0 :: a1 :: a2 :: a3 :: a4 :: a5 :: a6 :: a7 :: a8 :: a9 :: a10 :: a11 :: a12 :: a13 :: a14 :: a15 :: a16 :: a17 :: a18 :: a19 :: a20 :: a21 :: a22 :: a23 :: a24 :: a25 :: some v :: env) := rfl
theorem wE_v27 {T : Tb} {a0 a1 a2 a3 a4 a5 a6 a7 a8 a9 a10 a11 a12 a13 a14 a15 a16 a17 a18 a19 a20 a21 a22 a23 a24 a25 a26 : Option Val} {v : Val} {env : Ev} {S : Store} {Q : QV} {E : Exn → Store → Prop} : wE T (.var 27) (a0 :: a1 :: a2 :: a3 :: a4 :: a5 :: a6 :: a7 :: a8 :: a9 :: a10 :: a11 :: a12 :: a13 :: a14 :: a15 :: a16 :: a17 :: a18 :: a19 :: a20 :: a21 :: a22 :: a23 :: a24 :: a25 :: a26 :: some v :: env) S Q E = Q v S := propext ⟨fun ⟨_, e, h⟩ => by cases e; exact h, fun h => ⟨v, rfl, h⟩⟩
theorem wT_v27 {T : Tb} {a0 a1 a2 a3 a4 a5 a6 a7 a8 a9 a10 a11 a12 a13 a14 a15 a16 a17 a18 a19 a20 a21 a22 a23 a24 a25 a26 : Option Val} {v : Val} {env : Ev} {S : Store} {Q : Bool → Store → Prop} {E : Exn → Store → Prop} : wT T (.var 27) (a0 :: a1 :: a2 :: a3 :: a4 :: a5 :: a6 :: a7 :: a8 :: a9 :: a10 :: a11 :: a12 :: a13 :: a14 :: a15 :: a16 :: a17 :: a18 :: a19 :: a20 :: a21 :: a22 :: a23 :: a24 :: a25 :: a26 :: some v :: env) S Q E = tru v S (fun t => Q t S) := propext ⟨fun ⟨_, e, h⟩ => by cases e; exact h, fun h => ⟨v, rfl, h⟩⟩
theorem tgt_27 {a0 a1 a2 a3 a4 a5 a6 a7 a8 a9 a10 a11 a12 a13 a14 a15 a16 a17 a18 a19 a20 a21 a22 a23 a24 a25 a26 : Option Val} {x : Option Val} {v : Val} {env : Ev} {P : Ev → Prop} : tgt (.nm 27) v (a0 :: a1 :: a2 :: a3 :: a4 :: a5 :: a6 :: a7 :: a8 :: a9 :: a10 :: a11 :: a12 :: a13 :: a14 :: a15 :: a16 :: a17 :: a18 :: a19 :: a20 :: a21 :: a22 :: a23 :: a24 :: a25 :: a26 :: x :: env) P = P (a0 :: a1 :: a2 :: a3 :: a4 :: a5 :: a6 :: a7 :: a8 :: a9 :: a10 :: a11 :: a12 :: a13 :: a14 :: a15 :: a16 :: a17 :: a18 :: a19 :: a20 :: a21 :: a22 :: a23 :: a24 :: a25 :: a26 :: some v :: env) := rfl
theorem wE_v28 {T : Tb} {a0 a1 a2 a3 a4 a5 a6 a7 a8 a9 a10 a11 a12 a13 a14 a15 a16 a17 a18 a19 a20 a21 a22 a23 a24 a25 a26 a27 : Option Val} {v : Val} {env : Ev} {S : Store} {Q : QV} {E : Exn → Store → Prop} : wE T (.var 28) (a0 :: a1 :: a2 :: a3 :: a4 :: a5 :: a6 :: a7 :: a8 :: a9 :: a10 :: a11 :: a12 :: a13 :: a14 :: a15 :: a16 :: a17 :: a18 :: a19 :: a20 :: a21 :: a22 :: a23 :: a24 :: a25 :: a26 :: a27 :: some v :: env) S Q E = Q v S := propext ⟨fun ⟨_, e, h⟩ => by cases e; exact h, fun h => ⟨v, rfl, h⟩⟩
theorem wT_v28 {T : Tb} {a0 a1 a2 a3 a4 a5 a6 a7 a8 a9 a10 a11 a12 a13 a14 a15 a16 a17 a18 a19 a20 a21 a22 a23 a24 a25 a26 a27 : Option Val} {v : Val} {env : Ev} {S : Store} {Q : Bool → Store → Prop} {E : Exn → Store → Prop} : wT T (.var 28) (a0 :: a1 :: a2 :: a3 :: a4 :: a5 :: a6 :: a7 :: a8 :: a9 :: a10 :: a11 :: a12 :: a13 :: a14 :: a15 :: a16 :: a17 :: a18 :: a19 :: a20 :: a21 :: a22 :: a23 :: a24 :: a25 :: a26 :: a27 :: some v :: env) S Q E = tru v S (fun t => Q t S) := propext ⟨fun ⟨_, e, h⟩ => by cases e; exact h, fun h => ⟨v, rfl, h⟩⟩
theorem tgt_28 {a0 a1 a2 a3 a4 a5 a6 a7 a8 a9 a10 a11 a12 a13 a14 a15 a16 a17 a18 a19 a20 a21 a22 a23 a24 a25 a26 a27 : Option Val} {x : Option Val} {v : Val} {env : Ev} {P : Ev → Prop} : tgt (.nm 28) v (a0 :: a1 :: a2 :: a3 :: a4 :: a5 :: a6 :: a7 :: a8 :: a9 :: a10 :: a11 :: a12 :: a13 :: a14 :: a15 :: a16 :: a17 :: a18 :: a19 :: a20 :: a21 :: a22 :: a23 :: a24 :: a25 :: a26 :: a27 :: x :: env) P = P (a0 :: a1 :: a2 :: a3 :: a4 :: a5 :: a6 :: a7 :: a8 :: a9 :: a10 :: a11 :: a12 :: a13 :: a14 :: a15 :: a16 :: a17 :: a18 :: a19 :: a20 :: a21 :: a22 :: a23 :: a24 :: a25 :: a26 :: a27 :: some v :: env) := rfl
theorem wE_v29 {T : Tb} {a0 a1 a2 a3 a4 a5 a6 a7 a8 a9 a10 a11 a12 a13 a14 a15 a16 a17 a18 a19 a20 a21 a22 a23 a24 a25 a26 a27 a28 : Option Val} {v : Val} {env : Ev} {S : Store} {Q : QV} {E : Exn → Store → Prop} : wE T (.var 29) (a0 :: a1 :: a2 :: a3 :: a4 :: a5 :: a6 :: a7 :: a8 :: a9 :: a10 :: a11 :: a12 :: a13 :: a14 :: a15 :: a16 :: a17 :: a18 :: a19 :: a20 :: a21 :: a22 :: a23 :: a24 :: a25 :: a26 :: a27 :: a28 :: some v :: env) S Q E = Q v S := propext ⟨fun ⟨_, e, h⟩ => by cases e; exact h, fun h => ⟨v, rfl, h⟩⟩
theorem wT_v29 {T : Tb} {a0 a1 a2 a3 a4 a5 a6 a7 a8 a9 a10 a11 a12 a13 a14 a15 a16 a17 a18 a19 a20 a21 a22 a23 a24 a25 a26 a27 a28 : Option Val} {v : Val} {env : Ev} {S : Store} {Q : Bool → Store → Prop} {E : Exn → Store → Prop} : wT T (.var 29) (a0 :: a1 :: a2 :: a3 :: a4 :: a5 :: a6 :: a7 :: a8 :: a9 :: a10 :: a11 :: a12 :: a13 :: a14 :: a15 :: a16 :: a17 :: a18 :: a19 :: a20 :: a21 :: a22 :: a23 :: a24 :: a25 :: a26 :: a27 :: a28 :: some v :: env) S Q E = tru v S (fun t => Q t S) := propext ⟨fun ⟨_, e, h⟩ => by cases e; exact h, fun h => ⟨v, rfl, h⟩⟩
theorem tgt_29 {a0 a1 a2 a3 a4 a5 a6 a7 a8 a9 a10 a11 a12 a13 a14 a15 a16 a17 a18 a19 a20 a21 a22 a23 a24 a25 a26 a27 a28 : Option Val} {x : Option Val} {v : Val} {env : Ev} {P : Ev → Prop} : tgt (.nm 29) v (a0 :: a1 :: a2 :: a3 :: a4 :: a5 :: a6 :: a7 :: a8 :: a9 :: a10 :: a11 :: a12 :: a13 :: a14 :: a15 :: a16 :: a17 :: a18 :: a19 :: a20 :: a21 :: a22 :: a23 :: a24 :: a25 :: a26 :: a27 :: a28 :: x :: env) P = P (a0 :: a1 :: a2 :: a3 :: a4 :: a5 :: a6 :: a7 :: a8 :: a9 :: a10 :: a11 :: a12 :: a13 :: a14 :: a15 :: a16 :: a17 :: a18 :: a19 :: a20 :: a21 :: a22 :: a23 :: a24 :: a25 :: a26 :: a27 :: a28 :: some v :: env) := rfl
theorem tgt_tn {env : Ev} {P : Ev → Prop} : tgt (.tp []) (.tup []) env P = P env := propext ⟨fun h => h.2, fun h => ⟨rfl, h⟩⟩
theorem tgt_tc {i : Nat} {is : List Nat} {x : Val} {l : List Val} {env : Ev} {P : Ev → Prop} : tgt (.tp (i :: is)) (.tup (x :: l)) env P = tgt (.nm i) x env fun e => tgt (.tp is) (.tup l) e P := propext ⟨fun h => ⟨Nat.succ.inj h.1, h.2⟩, fun h => ⟨congrArg (· + 1) h.1, h.2⟩⟩
theorem wS_parL {T : Tb} {i j : Nat} {a b : Ex} {env : Ev} {S : Store} {D : Post} : wS T (.par i j a b) env S D = (wE T a env S (fun x S1 => wE T b env S1 (fun y S2 => tgt (.nm i) x env fun e => tgt (.nm j) y e fun e => D.nx e S2) fun x S' => D.ex x env S') fun x S' => D.ex x env S') := rfl
theorem wE_call0 {T : Tb} {f : Nat} {as : Ex} {env : Ev} {S : Store} {Q : QV} {E : Exn → Store → Prop} : wE T (.call f as []) env S Q E = wA T as env S (fun vs S1 => wCall T f vs S1 Q E) E := by
  rw [wE_call]; simp only [List.append_nil]
theorem wT_call0 {T : Tb} {f : Nat} {as : Ex} {env : Ev} {S : Store} {Q : Bool → Store → Prop} {E : Exn → Store → Prop} : wT T (.call f as []) env S Q E = wA T as env S (fun vs S1 => wCall T f vs S1 (fun v S2 => tru v S2 fun t => Q t S2) E) E := by
  rw [wT_call]; simp only [List.append_nil]
/-- a known value; a value of a known shape -/
def RSpec.puV (S : Store) (p : Prop) (v0 : Val) : RSpec := ⟨p, fun v S' => v = v0 ∧ S' = S, fun _ _ => False⟩
def RSpec.puE {α : Type} (S : Store) (p : Prop) (g : α → Val) (r : α → Prop) : RSpec := ⟨p, fun v S' => ∃ a, v = g a ∧ r a ∧ S' = S, fun _ _ => False⟩
section
variable {T : Tb} {f : Nat} {vs : List Val} {S S' : Store} {Q : QV} {E : Exn → Store → Prop} {p : Prop} {v0 v : Val} {α : Type} {g : α → Val} {r : α → Prop} {x : Exn}
theorem wCall_puV (h : T.fn f vs S = .puV S p v0) : wCall T f vs S Q E = (p ∧ Q v0 S) := propext ⟨fun ⟨a, b, _⟩ => by rw [h] at a b; exact ⟨a, b v0 S ⟨rfl, rfl⟩⟩, fun ⟨a, b⟩ => by unfold wCall; rw [h]; exact ⟨a, fun v S' ⟨e, e2⟩ => by rw [e, e2]; exact b, fun _ _ z => z.elim⟩⟩
theorem wCall_puE (h : T.fn f vs S = .puE S p g r) : wCall T f vs S Q E = (p ∧ ∀ a, r a → Q (g a) S) := propext ⟨fun ⟨a, b, _⟩ => by rw [h] at a b; exact ⟨a, fun z hz => b (g z) S ⟨z, rfl, hz, rfl⟩⟩, fun ⟨a, b⟩ => by unfold wCall; rw [h]; exact ⟨a, fun v S' ⟨z, e, hz, e2⟩ => by rw [e, e2]; exact b z hz, fun _ _ z => z.elim⟩⟩
theorem puV_pre : (RSpec.puV S p v0).pre = p := rfl
theorem puE_pre : (RSpec.puE S p g r).pre = p := rfl
theorem finV_rt : (fin (.puV S p v0)).rt v S' = (v = v0 ∧ Sub S S') := propext ⟨fun ⟨_, a, b, c⟩ => ⟨b, c ▸ a⟩, fun ⟨b, a⟩ => ⟨S, a, b, rfl⟩⟩
theorem finE_rt : (fin (.puE S p g r)).rt v S' = ((∃ a, v = g a ∧ r a) ∧ Sub S S') := propext ⟨fun ⟨_, a, z, b, c, d⟩ => ⟨⟨z, b, c⟩, d ▸ a⟩, fun ⟨⟨z, b, c⟩, a⟩ => ⟨S, a, z, b, c, rfl⟩⟩
theorem finV_nx {e : Ev} : (fin (.puV S p v0)).nx e S' = (.non = v0 ∧ Sub S S') := propext ⟨fun ⟨_, a, b, c⟩ => ⟨b, c ▸ a⟩, fun ⟨b, a⟩ => ⟨S, a, b, rfl⟩⟩
theorem finV_ex {e : Ev} : (fin (.puV S p v0)).ex x e S' = False := propext ⟨fun ⟨_, _, h⟩ => h, fun h => h.elim⟩
theorem finE_ex {e : Ev} : (fin (.puE S p g r)).ex x e S' = False := propext ⟨fun ⟨_, _, h⟩ => h, fun h => h.elim⟩
theorem sub_refl_iff : Sub S S ↔ True := ⟨fun _ => trivial, fun _ => Sub.refl⟩
end
/-! ### opcases -/
theorem ob_add {S : Store} {Q : QV} {i j : Int} : opB .add (.int i) (.int j) S Q = (Q (.int (i + j)) S) := rfl
theorem ob_adds {S : Store} {Q : QV} {x y : Str} : opB .add (.str x) (.str y) S Q = (x.length + y.length ≤ LIM ∧ Q (.str (x ++ y)) S) := rfl
theorem ob_addt {S : Store} {Q : QV} {a b : List Val} : opB .add (.tup a) (.tup b) S Q = (a ≠ [] ∧ a.length + b.length ≤ LIM ∧ Q (.tup (a ++ b)) S) := rfl
theorem ob_sub {S : Store} {Q : QV} {i j : Int} : opB .sub (.int i) (.int j) S Q = (Q (.int (i - j)) S) := rfl
theorem ob_mul {S : Store} {Q : QV} {i j : Int} : opB .mul (.int i) (.int j) S Q = (MulOk i j ∧ Q (.int (i * j)) S) := rfl
theorem ob_fdiv {S : Store} {Q : QV} {i j : Int} : opB .fdiv (.int i) (.int j) S Q = (DivOk i j ∧ Q (.int (i.fdiv j)) S) := rfl
theorem ob_mod {S : Store} {Q : QV} {i j : Int} : opB .mod (.int i) (.int j) S Q = (j ≠ 0 ∧ Q (.int (i.fmod j)) S) := rfl
theorem ob_pow {S : Store} {Q : QV} {i j : Int} : opB .pow (.int i) (.int j) S Q = ((0 ≤ j ∧ j ≤ 1000 ∧ i.natAbs < 2 ^ 64) ∧ Q (.int (i ^ j.toNat)) S) := rfl
theorem oi_abs {S : Store} {Q : QV} {i : Int} : opBi .abs [.int i] S Q = (Q (.int (if i < 0 then -i else i)) S) := rfl
theorem oi_lent {S : Store} {Q : QV} {l : List Val} : opBi .len [.tup l] S Q = (Q (.int l.length) S) := rfl
theorem oi_lens {S : Store} {Q : QV} {z : Str} : opBi .len [.str z] S Q = (z.length ≤ LIM ∧ Q (.int z.length) S) := rfl
theorem oi_lenr {S : Store} {Q : QV} {p : Addr} : opBi .len [.ref p] S Q = (getL S (.ref p) fun l => Q (.int l.length) S) := rfl
theorem oi_sortedr {S : Store} {Q : QV} {p : Addr} : opBi .sorted [.ref p] S Q = (getL S (.ref p) fun l => intsOf l fun ns => ∀ (ns' : List Int) (p : Addr), ns'.Perm ns → ns'.Pairwise (· ≤ ·) → S p = none → Q (.ref p) (put S p (.lst (ns'.map .int)))) := rfl
theorem oi_tupler {S : Store} {Q : QV} {p : Addr} : opBi .tuple [.ref p] S Q = (getL S (.ref p) fun l => Q (.tup l) S) := rfl
theorem oi_listr {S : Store} {Q : QV} {p : Addr} : opBi .list [.ref p] S Q = (getL S (.ref p) fun l => ∀ p, S p = none → Q (.ref p) (put S p (.lst l))) := rfl
theorem oi_sumr {S : Store} {Q : QV} {p : Addr} : opBi .sum [.ref p] S Q = (getL S (.ref p) fun l => intsOf l fun ns => Q (.int ns.sum) S) := rfl
theorem oi_anyr {S : Store} {Q : QV} {p : Addr} : opBi .any [.ref p] S Q = (getL S (.ref p) fun l => ∃ bs : List Bool, l = bs.map .bl ∧ Q (.bl (bs.any id)) S) := rfl
theorem oi_allr {S : Store} {Q : QV} {p : Addr} : opBi .all [.ref p] S Q = (getL S (.ref p) fun l => ∃ bs : List Bool, l = bs.map .bl ∧ Q (.bl (bs.all id)) S) := rfl
theorem oi_mxr {S : Store} {Q : QV} {p : Addr} : opBi .max1 [.ref p] S Q = (getL S (.ref p) fun l => intsOf l fun ns => 0 < ns.length ∧ ∀ m, m ∈ ns → (∀ k ∈ ns, k ≤ m) → Q (.int m) S) := rfl
theorem oi_mnr {S : Store} {Q : QV} {p : Addr} : opBi .min1 [.ref p] S Q = (getL S (.ref p) fun l => intsOf l fun ns => 0 < ns.length ∧ ∀ m, m ∈ ns → (∀ k ∈ ns, m ≤ k) → Q (.int m) S) := rfl
theorem oi_lenl {S : Store} {Q : QV} {m : List Val} : opBi .len [.sl m] S Q = (getL S (.sl m) fun l => Q (.int l.length) S) := rfl
theorem oi_sortedl {S : Store} {Q : QV} {m : List Val} : opBi .sorted [.sl m] S Q = (getL S (.sl m) fun l => intsOf l fun ns => ∀ (ns' : List Int) (p : Addr), ns'.Perm ns → ns'.Pairwise (· ≤ ·) → S p = none → Q (.ref p) (put S p (.lst (ns'.map .int)))) := rfl
theorem oi_tuplel {S : Store} {Q : QV} {m : List Val} : opBi .tuple [.sl m] S Q = (getL S (.sl m) fun l => Q (.tup l) S) := rfl
theorem oi_listl {S : Store} {Q : QV} {m : List Val} : opBi .list [.sl m] S Q = (getL S (.sl m) fun l => ∀ p, S p = none → Q (.ref p) (put S p (.lst l))) := rfl
theorem oi_suml {S : Store} {Q : QV} {m : List Val} : opBi .sum [.sl m] S Q = (getL S (.sl m) fun l => intsOf l fun ns => Q (.int ns.sum) S) := rfl
theorem oi_anyl {S : Store} {Q : QV} {m : List Val} : opBi .any [.sl m] S Q = (getL S (.sl m) fun l => ∃ bs : List Bool, l = bs.map .bl ∧ Q (.bl (bs.any id)) S) := rfl
theorem oi_alll {S : Store} {Q : QV} {m : List Val} : opBi .all [.sl m] S Q = (getL S (.sl m) fun l => ∃ bs : List Bool, l = bs.map .bl ∧ Q (.bl (bs.all id)) S) := rfl
theorem oi_mxl {S : Store} {Q : QV} {m : List Val} : opBi .max1 [.sl m] S Q = (getL S (.sl m) fun l => intsOf l fun ns => 0 < ns.length ∧ ∀ m, m ∈ ns → (∀ k ∈ ns, k ≤ m) → Q (.int m) S) := rfl
theorem oi_mnl {S : Store} {Q : QV} {m : List Val} : opBi .min1 [.sl m] S Q = (getL S (.sl m) fun l => intsOf l fun ns => 0 < ns.length ∧ ∀ m, m ∈ ns → (∀ k ∈ ns, m ≤ k) → Q (.int m) S) := rfl
theorem oi_max2 {S : Store} {Q : QV} {i j : Int} : opBi .max2 [.int i, .int j] S Q = (Q (.int (if j > i then j else i)) S) := rfl
theorem oi_min2 {S : Store} {Q : QV} {i j : Int} : opBi .min2 [.int i, .int j] S Q = (Q (.int (if j < i then j else i)) S) := rfl
theorem oi_int {S : Store} {Q : QV} {i : Int} : opBi .int [.int i] S Q = (Q (.int i) S) := rfl
theorem oi_intb {S : Store} {Q : QV} {k : Bool} : opBi .int [.bl k] S Q = (Q (.int (if k then 1 else 0)) S) := rfl
theorem oi_tuplet {S : Store} {Q : QV} {l : List Val} : opBi .tuple [.tup l] S Q = (Q (.tup l) S) := rfl
theorem oi_listt {S : Store} {Q : QV} {l : List Val} : opBi .list [.tup l] S Q = (∀ p, S p = none → Q (.ref p) (put S p (.lst l))) := rfl
theorem oi_str {S : Store} {Q : QV} {i : Int} : opBi .str [.int i] S Q = (i.natAbs.log2 < 1920 ∧ Q (.str (toString i)) S) := rfl
theorem oi_divmod {S : Store} {Q : QV} {i j : Int} : opBi .divmod [.int i, .int j] S Q = (DivOk i j ∧ Q (.tup [.int (i.fdiv j), .int (i.fmod j)]) S) := rfl
theorem tru_non {S : Store} {Q : QV}  {P : Bool → Prop} : tru (.non) S P = (P false) := rfl
theorem tru_bl {S : Store} {Q : QV} {k : Bool} {P : Bool → Prop} : tru (.bl k) S P = (P k) := rfl
theorem tru_int {S : Store} {Q : QV} {i : Int} {P : Bool → Prop} : tru (.int i) S P = (P (i != 0)) := rfl
theorem tru_str {S : Store} {Q : QV} {x : Str} {P : Bool → Prop} : tru (.str x) S P = (x.length ≤ LIM ∧ P ((x.length : Int) != 0)) := rfl
theorem tru_tup {S : Store} {Q : QV} {l : List Val} {P : Bool → Prop} : tru (.tup l) S P = (P (!l.isEmpty)) := rfl
theorem tru_ref {S : Store} {Q : QV} {p : Addr} {P : Bool → Prop} : tru (.ref p) S P = (getL S (.ref p) fun l => P (!l.isEmpty)) := rfl
theorem tru_sl {S : Store} {Q : QV} {m : List Val} {P : Bool → Prop} : tru (.sl m) S P = (P (!m.isEmpty)) := rfl
theorem tyIs_non {S : Store} {Q : QV}  {t : Ty} {P : Bool → Prop} : tyIs t (.non) S P = (P false) := rfl
theorem tyIs_bl {S : Store} {Q : QV} {k : Bool} {t : Ty} {P : Bool → Prop} : tyIs t (.bl k) S P = (P (t == .bool || t == .int)) := rfl
theorem tyIs_int {S : Store} {Q : QV} {i : Int} {t : Ty} {P : Bool → Prop} : tyIs t (.int i) S P = (P (t == .int)) := rfl
theorem tyIs_str {S : Store} {Q : QV} {x : Str} {t : Ty} {P : Bool → Prop} : tyIs t (.str x) S P = (P (t == .str)) := rfl
theorem tyIs_tup {S : Store} {Q : QV} {l : List Val} {t : Ty} {P : Bool → Prop} : tyIs t (.tup l) S P = (P (t == .tuple)) := rfl
theorem tyIs_sl {S : Store} {Q : QV} {m : List Val} {t : Ty} {P : Bool → Prop} : tyIs t (.sl m) S P = (P (t == .list)) := rfl
theorem it_t {S : Store} {Q : QV} {R : (Store → Prop) → List Val → Prop} {l : List Val} : itK .seq [.tup l] S R = (R (fun _ => True) l) := rfl
theorem it_sr {S : Store} {Q : QV} {R : (Store → Prop) → List Val → Prop}{p : Addr} : itK .seq [.ref p] S R = (getL S (.ref p) fun l => R (fun S' => LstAt S' (.ref p) l) l) := rfl
theorem it_er {S : Store} {Q : QV} {R : (Store → Prop) → List Val → Prop}{p : Addr} : itK .enum [.ref p] S R = (getL S (.ref p) fun l => R (fun S' => LstAt S' (.ref p) l) (l.zipIdx.map fun p => .tup [.int (p.2 : Nat), p.1])) := rfl
theorem it_vr {S : Store} {Q : QV} {R : (Store → Prop) → List Val → Prop}{p : Addr} : itK .rev [.ref p] S R = (getL S (.ref p) fun l => R (fun S' => LstAt S' (.ref p) l) l.reverse) := rfl
theorem it_sl {S : Store} {Q : QV} {R : (Store → Prop) → List Val → Prop}{m : List Val} : itK .seq [.sl m] S R = (getL S (.sl m) fun l => R (fun S' => LstAt S' (.sl m) l) l) := rfl
theorem it_el {S : Store} {Q : QV} {R : (Store → Prop) → List Val → Prop}{m : List Val} : itK .enum [.sl m] S R = (getL S (.sl m) fun l => R (fun S' => LstAt S' (.sl m) l) (l.zipIdx.map fun p => .tup [.int (p.2 : Nat), p.1])) := rfl
theorem it_vl {S : Store} {Q : QV} {R : (Store → Prop) → List Val → Prop}{m : List Val} : itK .rev [.sl m] S R = (getL S (.sl m) fun l => R (fun S' => LstAt S' (.sl m) l) l.reverse) := rfl
theorem it_z {S : Store} {Q : QV} {R : (Store → Prop) → List Val → Prop}{x y : Val} : itK .zip [x, y] S R = (getL S x fun l => getL S y fun m => R (fun S' => LstAt S' x l ∧ LstAt S' y m) ((l.zip m).map fun p => .tup [p.1, p.2])) := rfl
theorem it_1 {S : Store} {Q : QV} {R : (Store → Prop) → List Val → Prop}{j : Int} : itK .range [.int j] S R = ((-(2 ^ 62) ≤ j ∧ j < 2 ^ 62) ∧ R (fun _ => True) ((List.range j.toNat).map fun k => .int (k : Nat))) := rfl
theorem it_2 {S : Store} {Q : QV} {R : (Store → Prop) → List Val → Prop}{i j : Int} : itK .range [.int i, .int j] S R = ((-(2 ^ 62) ≤ i ∧ i < 2 ^ 62 ∧ -(2 ^ 62) ≤ j ∧ j < 2 ^ 62) ∧ R (fun _ => True) ((List.range (j - i).toNat).map fun k => .int (i + (k : Nat)))) := rfl
theorem it_3 {S : Store} {Q : QV} {R : (Store → Prop) → List Val → Prop}{i j c : Int} : itK .range [.int i, .int j, .int c] S R = ((-(2 ^ 62) ≤ i ∧ i < 2 ^ 62 ∧ -(2 ^ 62) ≤ j ∧ j < 2 ^ 62 ∧ 0 < c ∧ c < 1073741824) ∧ R (fun _ => True) ((List.range (Builtin.Range.rangeSize i j c).toNat).map fun k => .int (i + (k : Nat) * c))) := rfl
theorem ltI_i {S : Store} {Q : QV} {i j : Int}{P : Bool → Prop} {f : Int → Int → Bool} : ltI (.int i) (.int j) P f = (P (f i j)) := rfl
theorem tl_i {S : Store} {Q : QV} {i j : Int}{P : Bool → Prop} : tupLt (.int i) (.int j) P = (P (decide (i < j))) := rfl
theorem optI_i {S : Store} {Q : QV} {i : Int} {P : Option Int → Prop} : optI (.int i) P = (P (some i)) := rfl
theorem osl {S : Store} {Q : QV} {x : Val} {lo hi : Option Int} : opSl x lo hi S Q = (getL S x fun l => ∀ p, S p = none → Q (.ref p) (put S p (.lst (cutG l lo hi)))) := rfl
end BW
set_option Elab.async false
set_option linter.all false
set_option maxRecDepth 100000
set_option maxHeartbeats 4000000
namespace BW
open PySem PySem.Spec PyProof.Rows L2
/-! ### numbers -/
theorem gcd_fmod (x y : Int) : Int.gcd y (x.fmod y) = Int.gcd x y := by
  rw [Int.fmod_def, Int.gcd_sub_mul_left_right, Int.gcd_comm]
theorem natAbs_fmod_lt (x : Int) {y : Int} (h : y ≠ 0) : (x.fmod y).natAbs < y.natAbs := by
  have e := Int.fmod_eq_emod (a := x) (b := y)
  have h1 := Int.emod_nonneg x h
  have h2 := Int.emod_lt x h
  rw [e]
  split
  · omega
  · rename_i h3
    have h4 : x % y ≠ 0 := fun q => h3 (.inr (Int.dvd_of_emod_eq_zero q))
    have h5 : ¬ 0 ≤ y := fun q => h3 (.inl q)
    omega
theorem fmod_lo (x : Int) {y : Int} (h : 0 < y) : 0 ≤ x.fmod y := by
  rw [Int.fmod_eq_emod_of_nonneg x (by omega)]
  exact Int.emod_nonneg x (by omega)
theorem fmod_hi (x : Int) {y : Int} (h : 0 < y) : x.fmod y < y := Int.fmod_lt_of_pos x h
theorem log2_mono {a b : Nat} (h : a ≤ b) : a.log2 ≤ b.log2 := by
  rcases Nat.eq_zero_or_pos a with e | e
  · subst e
    rw [Nat.log2_zero]
    exact Nat.zero_le _
  · have hb : b ≠ 0 := by omega
    exact (Nat.le_log2 hb).mpr (Nat.le_trans ((Nat.le_log2 (by omega)).mp (Nat.le_refl _)) h)
theorem log2_lt_of {a b k : Nat} (h : a ≤ b) (k1 : b.log2 < k) : a.log2 < k := Nat.lt_of_le_of_lt (log2_mono h) k1
theorem natAbs_fdiv_le (x : Int) {y : Int} (h : 0 < y) : (x.fdiv y).natAbs ≤ x.natAbs := by
  rw [Int.fdiv_eq_ediv_of_nonneg x (by omega)]
  have h1 := Int.mul_ediv_add_emod x y
  have h2 := Int.emod_nonneg x (b := y) (by omega)
  have h3 := Int.emod_lt_of_pos x h
  rcases (by omega : x < 0 ∨ 0 ≤ x) with hx | hx
  · have h4 : x / y < 0 := Int.ediv_neg_of_neg_of_pos hx h
    have h5 : x ≤ x / y := by
      have h6 := Int.mul_le_mul_of_nonneg_left (show (1 : Int) ≤ -(x / y) by omega) (show (0 : Int) ≤ y - 1 by omega)
      have h7 : (y - 1) * -(x / y) = -(y * (x / y)) + x / y := by grind
      omega
    omega
  · have h4 : 0 ≤ x / y := Int.ediv_nonneg hx (by omega)
    have h5 : x / y ≤ x := Int.ediv_le_self y hx
    omega
theorem log2_fdiv {x y : Int} {k : Nat} (h : 0 < y) (k1 : x.natAbs.log2 < k) : (x.fdiv y).natAbs.log2 < k := log2_lt_of (natAbs_fdiv_le x h) k1
theorem bits_log2 {z : Int} {n : Nat} (h : Builtin.Int.intBits z ≤ n) : z.natAbs.log2 < n + 1 := by
  unfold Builtin.Int.intBits at h
  by_cases e : z = 0
  · subst e
    exact Nat.succ_pos _
  · rw [if_neg (by simpa using e)] at h
    omega
theorem mul_log2 (a b : Nat) : (a * b).log2 ≤ a.log2 + b.log2 + 1 := by
  rcases Nat.eq_zero_or_pos (a * b) with e | e
  · rw [e, Nat.log2_zero]; exact Nat.zero_le _
  · have ha : a ≠ 0 := by rintro rfl; simp at e
    have hb : b ≠ 0 := by rintro rfl; simp at e
    have h1 : a < 2 ^ (a.log2 + 1) := Nat.lt_log2_self
    have h2 : b < 2 ^ (b.log2 + 1) := Nat.lt_log2_self
    have h3 : a * b < 2 ^ (a.log2 + 1) * 2 ^ (b.log2 + 1) := Nat.mul_lt_mul'' h1 h2
    rw [← Nat.pow_add] at h3
    have := (Nat.log2_lt (by omega)).mpr h3
    omega
theorem perm_two {a b : Int} {l : List Int} (h : l.Perm [a, b]) : l = [a, b] ∨ l = [b, a] := by
  have hl := h.length_eq
  match l, hl with
  | [x, y], _ =>
    have hx : x ∈ [a, b] := h.mem_iff.mp (by simp)
    simp only [List.mem_cons, List.not_mem_nil, or_false] at hx
    rcases hx with rfl | rfl
    · have := List.perm_singleton.mp ((List.perm_cons x).mp h)
      simp at this
      exact .inl (by rw [this])
    · have := List.perm_singleton.mp ((List.perm_cons x).mp (h.trans (List.Perm.swap _ _ _)))
      simp at this
      exact .inr (by rw [this])
/-! ### lists -/
theorem cutG_to {α : Type} {l : List α} {n : Int} (h : 0 ≤ n) : cutG l none (some n) = l.take n.toNat := by
  have e : ¬ n < 0 := by omega
  simp only [cutG, HT.sIx, if_neg e, List.drop_zero, Nat.sub_zero]
  rcases Nat.le_total n.toNat l.length with q | q
  · rw [Nat.min_eq_left q]
  · rw [Nat.min_eq_right q, List.take_length, List.take_of_length_le q]
theorem cutG_from {α : Type} {l : List α} {n : Int} (h : 0 ≤ n) : cutG l (some n) none = l.drop n.toNat := by
  have e : ¬ n < 0 := by omega
  simp only [cutG, HT.sIx, if_neg e]
  rcases Nat.le_total n.toNat l.length with q | q
  · rw [Nat.min_eq_left q]
    exact List.take_of_length_le (by rw [List.length_drop]; omega)
  · rw [Nat.min_eq_right q, Nat.sub_self, List.take_zero, List.drop_of_length_le q]
theorem finlaw_rt {as : List Val} {S S' : Store} {v : Val} : (fin (lawSpec as S)).rt v S' ↔ v = .bl true := ⟨fun ⟨_, _, h⟩ => h, fun h => ⟨S', Sub.refl, h⟩⟩
theorem finlaw_nx {as : List Val} {S S' : Store} {e : Ev} : (fin (lawSpec as S)).nx e S' ↔ False := ⟨fun ⟨_, _, h⟩ => (by cases h), fun h => h.elim⟩
theorem finlaw_ex {as : List Val} {S S' : Store} {x : Exn} {e : Ev} : (fin (lawSpec as S)).ex x e S' ↔ False := ⟨fun ⟨_, _, h⟩ => h, fun h => h.elim⟩
theorem atI_int {α : Type} {l : List α} {i : Int} (h : 0 ≤ i) (h2 : i < l.length) : atI l i = l[i.toNat]? := by
  have e : ((i.toNat : Nat) : Int) = i := Int.toNat_of_nonneg h
  rw [← e]
  exact atI_nat (by omega)
theorem atI_map {cs : List Int} {i : Int} (h : 0 ≤ i) (h2 : i < cs.length) : ∃ z ∈ cs, atI (cs.map Val.int) i = some (.int z) := by
  have hl : i.toNat < cs.length := by omega
  refine ⟨cs[i.toNat], List.getElem_mem hl, ?_⟩
  rw [atI_int h (by rw [List.length_map]; exact h2), List.getElem?_map, List.getElem?_eq_getElem hl]
  rfl
theorem range_lt {i j c : Int} {k : Nat} (hc : 0 < c) (h : k < (Builtin.Range.rangeSize i j c).toNat) : i + k * c < j := by
  unfold Builtin.Range.rangeSize at h
  split at h
  · split at h
    · rename_i h2
      have h3 := Int.mul_ediv_add_emod (j - i - 1) c
      have h5 := Int.emod_nonneg (j - i - 1) (b := c) (by omega)
      have h4 : (k : Int) ≤ (j - i - 1) / c := by omega
      have h6 := Int.mul_le_mul_of_nonneg_left h4 (show (0 : Int) ≤ c by omega)
      rw [Int.mul_comm] at h6
      omega
    · simp at h
  · omega
theorem getElem_map_range {n k : Nat} {f : Nat → Val} {x : Val} (h : ((List.range n).map f)[k]? = some x) : k < n ∧ x = f k := by
  rw [List.getElem?_map] at h
  by_cases hk : k < n
  · rw [List.getElem?_eq_getElem (by simpa using hk), List.getElem_range] at h
    cases h
    exact ⟨hk, rfl⟩
  · rw [List.getElem?_eq_none (by simpa using hk)] at h
    cases h
theorem gcd_le (a b : Int) : Int.gcd a b ≤ a.natAbs + b.natAbs := by
  rcases Nat.eq_zero_or_pos a.natAbs with h | h
  · have e : a = 0 := Int.natAbs_eq_zero.mp h
    subst e
    simp
  · have := Nat.gcd_le_left b.natAbs h
    show Nat.gcd a.natAbs b.natAbs ≤ _
    omega
end BW
set_option Elab.async false
set_option linter.all false
set_option maxRecDepth 100000
set_option maxHeartbeats 4000000
namespace BW
open PySem PySem.Spec PyProof.Rows L2
/-! ### comparisons of data -/
theorem LstAt.inj {S : Store} {v : Val} {l m : List Val} (a : LstAt S v l) (b : LstAt S v m) : l = m := by
  rcases a with ⟨p, rfl, e⟩ | rfl
  · rcases b with ⟨q, h, e'⟩ | h
    · cases h; rw [e] at e'; cases e'; rfl
    · cases h
  · rcases b with ⟨q, h, e'⟩ | h
    · cases h
    · cases h; rfl
mutual
theorem dt_inj {S : Store} : ∀ {v : Val} {d e : PyData}, Dt S v d → Dt S v e → d = e
  | _, _, _, .non, h => (dt_non.mp h).symm
  | _, _, _, .bl b, h => (dt_bl.mp h).symm
  | _, _, _, .int i, h => (dt_int.mp h).symm
  | _, _, _, .str x, h => by
    cases h with
    | str => rfl
    | lst a _ => rcases a with ⟨_, e, _⟩ | e <;> cases e
  | _, _, _, .tup k, h => by
    obtain ⟨ds, rfl, h2⟩ := dt_tup.mp h
    rw [dts_inj k h2]
  | _, _, _, .lst a k, h => by
    cases h with
    | lst b m =>
      have e := a.inj b
      subst e
      rw [dts_inj k m]
    | _ => rcases a with ⟨_, e, _⟩ | e <;> cases e
theorem dts_inj {S : Store} : ∀ {l : List Val} {d e : List PyData}, Dts S l d → Dts S l e → d = e
  | _, _, _, .nil, h => (dts_nil.mp h).symm
  | _, _, _, .cons a b, h => by
    obtain ⟨x, y, rfl, h1, h2⟩ := dts_cons.mp h
    rw [dt_inj a h1, dts_inj b h2]
end
section
variable {S : Store} {P : Bool → Prop} {x y : Val} {d e : PyData}
theorem opC_eq_dt (hx : Dt S x d) (hy : Dt S y e) (sx : SeqAt.shaped d = true := by rfl) (sy : SeqAt.shaped e = true := by rfl) : opC .eq x y S P = P (PyData.eqv d e) := propext ⟨fun ⟨_, _, h1, h2, _, _, h⟩ => by rw [dt_inj hx h1, dt_inj hy h2]; exact h, fun h => ⟨_, _, hx, hy, sx, sy, h⟩⟩
theorem opC_ne_dt (hx : Dt S x d) (hy : Dt S y e) (sx : SeqAt.shaped d = true := by rfl) (sy : SeqAt.shaped e = true := by rfl) : opC .ne x y S P = P (!PyData.eqv d e) := propext ⟨fun ⟨_, _, h1, h2, _, _, h⟩ => by rw [dt_inj hx h1, dt_inj hy h2]; exact h, fun h => ⟨_, _, hx, hy, sx, sy, h⟩⟩
theorem dt2 {a b : Int} : Dt S (.tup [.int a, .int b]) (.tuple [.int a, .int b]) := .tup (.cons (.int a) (.cons (.int b) .nil))
theorem dt3 {a b c : Int} : Dt S (.tup [.int a, .int b, .int c]) (.tuple [.int a, .int b, .int c]) := .tup (.cons (.int a) (.cons (.int b) (.cons (.int c) .nil)))
theorem opC_eq_bl {a b : Bool} : opC .eq (.bl a) (.bl b) S P = P (a == b) := by
  rw [opC_eq_dt (.bl a) (.bl b)]
  simp [PyData.eqv]
theorem opC_ne_bl {a b : Bool} : opC .ne (.bl a) (.bl b) S P = P (!(a == b)) := by
  rw [opC_ne_dt (.bl a) (.bl b)]
  simp [PyData.eqv]
theorem opC_eq_t2 {a b c d : Int} : opC .eq (.tup [.int a, .int b]) (.tup [.int c, .int d]) S P = P (decide (a = c ∧ b = d)) := by
  rw [opC_eq_dt dt2 dt2]
  congr 1
  rw [Bool.eq_iff_iff]
  simp [PyData.eqv, PyData.eqvAll, Decidable.not_and_iff_or_not]
theorem opC_ne_t2 {a b c d : Int} : opC .ne (.tup [.int a, .int b]) (.tup [.int c, .int d]) S P = P (!decide (a = c ∧ b = d)) := by
  rw [opC_ne_dt dt2 dt2]
  congr 1
  rw [Bool.eq_iff_iff]
  simp [PyData.eqv, PyData.eqvAll, Decidable.not_and_iff_or_not]
theorem opC_eq_t3 {a b c x y z : Int} : opC .eq (.tup [.int a, .int b, .int c]) (.tup [.int x, .int y, .int z]) S P = P (decide (a = x ∧ b = y ∧ c = z)) := by
  rw [opC_eq_dt dt3 dt3]
  congr 1
  rw [Bool.eq_iff_iff]
  simp [PyData.eqv, PyData.eqvAll, Decidable.not_and_iff_or_not]
theorem opC_ne_t3 {a b c x y z : Int} : opC .ne (.tup [.int a, .int b, .int c]) (.tup [.int x, .int y, .int z]) S P = P (!decide (a = x ∧ b = y ∧ c = z)) := by
  rw [opC_ne_dt dt3 dt3]
  congr 1
  rw [Bool.eq_iff_iff]
  simp [PyData.eqv, PyData.eqvAll, Decidable.not_and_iff_or_not]
/-- two empty lists -/
theorem opC_ne_l {p q : Addr} {l m : List Val} {ds es : List PyData} (hp : S p = some (.lst l)) (hq : S q = some (.lst m)) (hl : Dts S l ds) (hm : Dts S m es) (sx : SeqAt.shaped (.list ds) = true := by rfl) (sy : SeqAt.shaped (.list es) = true := by rfl) :
    opC .ne (.ref p) (.ref q) S P = P (!PyData.eqvAll ds es) := by
  rw [opC_ne_dt (.lst (.inl ⟨p, rfl, hp⟩) hl) (.lst (.inl ⟨q, rfl, hq⟩) hm) sx sy]
  simp [PyData.eqv]
end
/-! ### pairs and triples of ints in a list -/
abbrev pr (p : Int × Int) : Val := .tup [.int p.1, .int p.2]
theorem dts_prs {S : Store} : ∀ (l : List (Int × Int)), Dts S (l.map pr) (l.map fun p => .tuple [.int p.1, .int p.2])
  | [] => .nil
  | p :: l => .cons dt2 (dts_prs l)
theorem shaped_prs (l : List (Int × Int)) : SeqAt.shaped (.list (l.map fun p => .tuple [.int p.1, .int p.2])) = true := by
  have h1 : ∀ l : List (Int × Int), PyData.canLayAll0 (l.map fun p => .tuple [.int p.1, .int p.2]) = true := by
    intro l
    induction l with
    | nil => rfl
    | cons a l ih => exact ih
  have h2 : ∀ l : List (Int × Int), PyData.depthAll (l.map fun p => .tuple [.int p.1, .int p.2]) ≤ 1 := by
    intro l
    induction l with
    | nil => exact Nat.zero_le _
    | cons a l ih => exact Nat.max_le.mpr ⟨Nat.le_refl _, ih⟩
  show (PyData.canLayAll0 _ && decide (PyData.depthAll _ + 1 ≤ 64)) = true
  rw [h1 l, Bool.true_and, decide_eq_true_eq]
  have := h2 l
  omega
theorem in_prs {S : Store} {m : Addr} {l : List (Int × Int)} {p : Int × Int} {P : Bool → Prop} (h : S m = some (.lst (l.map pr))) : inOp S (pr p) (.ref m) P = P (l.contains p) := by
  have e : (l.map fun p => PyData.tuple [.int p.1, .int p.2]).any (fun e => PyData.eqv e (.tuple [.int p.1, .int p.2])) = l.contains p := by
    rw [Bool.eq_iff_iff]
    simp only [List.any_map, List.any_eq_true, List.contains_iff_mem, Function.comp]
    constructor
    · rintro ⟨q, hq, h⟩
      have : q = p := by
        simp [PyData.eqv, PyData.eqvAll] at h
        exact Prod.ext h.1 h.2
      exact this ▸ hq
    · intro hq
      exact ⟨p, hq, by simp [PyData.eqv, PyData.eqvAll]⟩
  refine propext ?_
  show (seqOf S (.ref m) fun l' => _) ↔ _
  show (getL S (.ref m) fun l' => _) ↔ _
  rw [getL_ref h]
  constructor
  · rintro ⟨d, ds, h1, h2, _, _, h3⟩
    rw [dt_inj h1 dt2, dts_inj h2 (dts_prs l), e] at h3
    exact h3
  · intro h3
    exact ⟨_, _, dt2, dts_prs l, rfl, shaped_prs l, by rw [e]; exact h3⟩
/-! ### comprehensions -/
def Rel (R : Val → Option Val → Prop) : List Val → List Val → Prop
  | [], ys => ys = []
  | x :: l, ys => (R x none ∧ Rel R l ys) ∨ ∃ y ys', ys = y :: ys' ∧ R x (some y) ∧ Rel R l ys'
theorem rel_map {f : Val → Val} : ∀ {l ys : List Val}, Rel (fun x o => o = some (f x)) l ys → ys = l.map f
  | [], _, h => h
  | x :: l, ys, h => by
    rcases h with ⟨h, _⟩ | ⟨y, ys', rfl, h, h2⟩
    · cases h
    · cases h; rw [rel_map h2]; rfl
theorem rel_filter {p : Val → Bool} : ∀ {l ys : List Val}, Rel (fun x o => o = if p x = true then some x else none) l ys → ys = l.filter p
  | [], _, h => h
  | x :: l, ys, h => by
    rcases h with ⟨h, h2⟩ | ⟨y, ys', rfl, h, h2⟩
    · split at h
      · cases h
      · rename_i hp
        rw [rel_filter h2, List.filter_cons_of_neg hp]
    · split at h
      · rename_i hp
        cases h
        rw [rel_filter h2, List.filter_cons_of_pos hp]
      · cases h
theorem Rel.imp {R R' : Val → Option Val → Prop} (k : ∀ x o, R x o → R' x o) : ∀ {l ys : List Val}, Rel R l ys → Rel R' l ys
  | [], _, h => h
  | x :: l, ys, h => by
    rcases h with ⟨h, h2⟩ | ⟨y, ys', rfl, h, h2⟩
    · exact .inl ⟨k _ _ h, Rel.imp k h2⟩
    · exact .inr ⟨y, ys', rfl, k _ _ h, Rel.imp k h2⟩
theorem LstAt.sub {S S' : Store} {x : Val} {l : List Val} (h : LstAt S x l) (k : Sub S S') : LstAt S' x l := h.imp (fun ⟨a, e, h⟩ => ⟨a, e, k _ _ h⟩) id
theorem Sub.put_new {S S2 : Store} {D : Addr} {o : Ob} (h : S D = none) (k : Sub S S2) : Sub S (BW.put S2 D o) := fun a u e => by
  have hne : a ≠ D := fun q => by rw [q, h] at e; cases e
  rw [put_ne hne]
  exact k a u e
theorem comp_go {T : Tb} {own : List Nat} {g : Tg} {hc : Bool} {cond elt : Ex} {env : Ev} {G : Store → Prop} {D : Addr} {Q : QV} {S0 : Store} {all : List Val} (R : Val → Option Val → Prop) (hS0 : S0 D = none) (hG : ∀ S, Sub S0 S → G S)
    (hs : ∀ x ∈ all, ∀ acc S, S D = some (.lst acc) → Sub S0 S → ∀ K : Option Val → Store → Prop, (∀ o S2, R x o → S2 D = some (.lst acc) → Sub S0 S2 → K o S2) →
      tgt g x (wipeE env own) fun e2 => if hc = true then wT T cond e2 S (fun b S1 => if b = true then wE T elt e2 S1 (fun y S2 => K (some y) S2) (fun _ _ => False) else K none S1) (fun _ _ => False) else wE T elt e2 S (fun y S2 => K (some y) S2) fun _ _ => False)
    (hQ : ∀ ys S, Rel R all ys → S D = some (.lst ys) → Sub S0 S → Q (.ref D) S) :
    ∀ (items acc : List Val) (S : Store), (∀ x ∈ items, x ∈ all) → acc.length + items.length ≤ LIM → (∀ ys, Rel R items ys → Rel R all (acc ++ ys)) → S D = some (.lst acc) → Sub S0 S →
      wTurns G (fun x P => tgt g x (wipeE env own) P) (fun e2 S2 P => if hc = true then wT T cond e2 S2 P fun _ _ => False else P true S2) (fun e2 S2 P => wE T elt e2 S2 P fun _ _ => False) D Q items S
  | [], acc, S, _, _, hr, hD, hsub => ⟨hG S hsub, hQ acc S (by have := hr [] rfl; rwa [List.append_nil] at this) hD hsub⟩
  | x :: l, acc, S, hm, hl, hr, hD, hsub => by
    refine ⟨hG S hsub, ?_⟩
    simp only [List.length_cons] at hl
    have step := hs x (hm x List.mem_cons_self) acc S hD hsub (fun o S2 => R x o ∧ S2 D = some (.lst acc) ∧ Sub S0 S2) fun o S2 a b c => ⟨a, b, c⟩
    have no : ∀ S1, R x none ∧ S1 D = some (.lst acc) ∧ Sub S0 S1 → wTurns G (fun x P => tgt g x (wipeE env own) P) (fun e2 S2 P => if hc = true then wT T cond e2 S2 P fun _ _ => False else P true S2) (fun e2 S2 P => wE T elt e2 S2 P fun _ _ => False) D Q l S1 := fun S1 ⟨a, b, c⟩ =>
      comp_go R hS0 hG hs hQ l acc S1 (fun y hy => hm y (List.mem_cons_of_mem _ hy)) (by omega) (fun ys hy => hr ys (.inl ⟨a, hy⟩)) b c
    have yes : ∀ y S2, R x (some y) ∧ S2 D = some (.lst acc) ∧ Sub S0 S2 → ∃ acc, S2 D = some (.lst acc) ∧ acc.length < LIM ∧ wTurns G (fun x P => tgt g x (wipeE env own) P) (fun e2 S2 P => if hc = true then wT T cond e2 S2 P fun _ _ => False else P true S2) (fun e2 S2 P => wE T elt e2 S2 P fun _ _ => False) D Q l (put S2 D (.lst (acc ++ [y]))) := fun y S2 ⟨a, b, c⟩ =>
      ⟨acc, b, by omega, comp_go R hS0 hG hs hQ l (acc ++ [y]) _ (fun y hy => hm y (List.mem_cons_of_mem _ hy)) (by rw [List.length_append]; simp only [List.length_cons, List.length_nil]; omega)
        (fun ys hy => by rw [List.append_assoc]; exact hr _ (.inr ⟨y, ys, rfl, a, hy⟩)) put_same (Sub.put_new hS0 c)⟩
    refine tgt_mono (fun e2 h2 => ?_) step
    cases hc with
    | true =>
      refine wT_mono cond (fun b S1 h => ?_) (fun _ _ z => z) h2
      cases b with
      | true => exact wE_mono elt yes (fun _ _ z => z) h
      | false => exact no S1 h
    | false => exact wE_mono elt yes (fun _ _ z => z) h2
theorem comp_gen {T : Tb} {own : List Nat} {g : Tg} {hc : Bool} {cond elt : Ex} {env : Ev} {G : Store → Prop} {D : Addr} {Q : QV} {S0 : Store} {items : List Val} (R : Val → Option Val → Prop) (hS0 : S0 D = none) (hG : ∀ S, Sub S0 S → G S) (hl : items.length ≤ LIM)
    (hs : ∀ x ∈ items, ∀ acc S, S D = some (.lst acc) → Sub S0 S → ∀ K : Option Val → Store → Prop, (∀ o S2, R x o → S2 D = some (.lst acc) → Sub S0 S2 → K o S2) →
      tgt g x (wipeE env own) fun e2 => if hc = true then wT T cond e2 S (fun b S1 => if b = true then wE T elt e2 S1 (fun y S2 => K (some y) S2) (fun _ _ => False) else K none S1) (fun _ _ => False) else wE T elt e2 S (fun y S2 => K (some y) S2) fun _ _ => False)
    (hQ : ∀ ys S, Rel R items ys → S D = some (.lst ys) → Sub S0 S → Q (.ref D) S) :
    wTurns G (fun x P => tgt g x (wipeE env own) P) (fun e2 S2 P => if hc = true then wT T cond e2 S2 P fun _ _ => False else P true S2) (fun e2 S2 P => wE T elt e2 S2 P fun _ _ => False) D Q items (put S0 D (.lst [])) :=
  comp_go R hS0 hG hs hQ items [] _ (fun _ h => h) (by simpa using hl) (fun _ h => h) put_same (Sub.put hS0)
/-! ### reads behind writes -/
section
variable {S : Store} {Q : QV} {R : List Val → Prop} {p q : Addr} {o : Ob} {x v : Val} {k : Int} {P : Store → Prop}
theorem put_none : (put S p o q = none) = (¬ q = p ∧ S q = none) := propext ⟨fun h => by
  by_cases e : q = p
  · rw [e, put_same] at h; cases h
  · rw [put_ne e] at h; exact ⟨e, h⟩, fun ⟨e, h⟩ => by rw [put_ne e]; exact h⟩
theorem getL_put_ne (h : ¬ q = p) : getL (put S q o) (.ref p) R = getL S (.ref p) R := by
  simp only [getL, put_ne (o := o) (show p ≠ q from fun e => h e.symm)]
theorem getL_put_ne' (h : ¬ p = q) : getL (put S q o) (.ref p) R = getL S (.ref p) R := by
  simp only [getL, put_ne (o := o) (show p ≠ q from h)]
theorem opB_addL : opB .add (.ref p) (.ref q) S Q = getL S (.ref p) fun l => getL S (.ref q) fun m => l.length + m.length ≤ LIM ∧ ∀ r, S r = none → Q (.ref r) (put S r (.lst (l ++ m))) := by
  refine propext ?_
  simp only [opB, getL]
  constructor
  · rintro ⟨l, m, h1, h2, h3⟩
    simp only [h1, h2]
    exact h3
  · intro h
    split at h
    · rename_i l e
      split at h
      · rename_i m e2
        exact ⟨l, m, e, e2, h⟩
      · exact h.elim
    · exact h.elim
theorem opBm_appendL : opBm .append (.ref p) [x] S P = getL S (.ref p) fun l => l.length < LIM ∧ P (put S p (.lst (l ++ [x]))) := by
  refine propext ?_
  simp only [opBm, getL]
  constructor
  · rintro ⟨l, h1, h3⟩
    simp only [h1]
    exact h3
  · intro h
    split at h
    · rename_i l e
      exact ⟨l, e, h⟩
    · exact h.elim
theorem setIL : setI (.ref p) (.int k) v S P = getL S (.ref p) fun l => ∃ j, ixN l.length k = some j ∧ P (put S p (.lst (l.set j v))) := by
  refine propext ?_
  simp only [setI, getL]
  constructor
  · rintro ⟨l, j, h1, h2, h3⟩
    simp only [h1]
    exact ⟨j, h2, h3⟩
  · intro h
    split at h
    · rename_i l e
      obtain ⟨j, h1, h2⟩ := h
      exact ⟨l, j, e, h1, h2⟩
    · exact h.elim
theorem isL_ref : (∃ (a : Addr) (l : List Val), Val.ref p = .ref a ∧ S a = some (.lst l)) = getL S (.ref p) fun _ => True := by
  refine propext ?_
  simp only [getL]
  constructor
  · rintro ⟨a, l, e, h⟩
    cases e
    simp only [h]
  · intro h
    split at h
    · rename_i l e
      exact ⟨p, l, rfl, e⟩
    · exact h.elim
end
theorem mulOk_of {a b : Int} (h : a.natAbs.log2 < 50000000) (k : b.natAbs.log2 < 50000000) : MulOk a b := by unfold MulOk; omega
/-! ### assignments by their heads -/
section
variable {T : Tb} {g : Tg} {env : Ev} {S : Store} {D : Post}
theorem wS_asg_var {i : Nat} : wS T (.asg g (.var i)) env S D = (wE T (.var i) env S (fun v S1 => tgt g v env fun e' => D.nx e' S1) fun x S' => D.ex x env S') := rfl
theorem wS_asg_lit {v : Val} : wS T (.asg g (.lit v)) env S D = (wE T (.lit v) env S (fun v S1 => tgt g v env fun e' => D.nx e' S1) fun x S' => D.ex x env S') := rfl
theorem wS_asg_bin {o : Bop} {a b : Ex} : wS T (.asg g (.bin o a b)) env S D = (wE T (.bin o a b) env S (fun v S1 => tgt g v env fun e' => D.nx e' S1) fun x S' => D.ex x env S') := rfl
theorem wS_asg_neg {a : Ex} : wS T (.asg g (.neg a)) env S D = (wE T (.neg a) env S (fun v S1 => tgt g v env fun e' => D.nx e' S1) fun x S' => D.ex x env S') := rfl
theorem wS_asg_nott {a : Ex} : wS T (.asg g (.nott a)) env S D = (wE T (.nott a) env S (fun v S1 => tgt g v env fun e' => D.nx e' S1) fun x S' => D.ex x env S') := rfl
theorem wS_asg_cmp {o : Cop} {a b : Ex} : wS T (.asg g (.cmp o a b)) env S D = (wE T (.cmp o a b) env S (fun v S1 => tgt g v env fun e' => D.nx e' S1) fun x S' => D.ex x env S') := rfl
theorem wS_asg_chain {o1 o2 : Cop} {a b c : Ex} : wS T (.asg g (.chain o1 o2 a b c)) env S D = (wE T (.chain o1 o2 a b c) env S (fun v S1 => tgt g v env fun e' => D.nx e' S1) fun x S' => D.ex x env S') := rfl
theorem wS_asg_andd {a b : Ex} : wS T (.asg g (.andd a b)) env S D = (wE T (.andd a b) env S (fun v S1 => tgt g v env fun e' => D.nx e' S1) fun x S' => D.ex x env S') := rfl
theorem wS_asg_orr {a b : Ex} : wS T (.asg g (.orr a b)) env S D = (wE T (.orr a b) env S (fun v S1 => tgt g v env fun e' => D.nx e' S1) fun x S' => D.ex x env S') := rfl
theorem wS_asg_ife {t a b : Ex} : wS T (.asg g (.ife t a b)) env S D = (wE T (.ife t a b) env S (fun v S1 => tgt g v env fun e' => D.nx e' S1) fun x S' => D.ex x env S') := rfl
theorem wS_asg_tup {as : Ex} : wS T (.asg g (.tup as)) env S D = (wE T (.tup as) env S (fun v S1 => tgt g v env fun e' => D.nx e' S1) fun x S' => D.ex x env S') := rfl
theorem wS_asg_lst {as : Ex} : wS T (.asg g (.lst as)) env S D = (wE T (.lst as) env S (fun v S1 => tgt g v env fun e' => D.nx e' S1) fun x S' => D.ex x env S') := rfl
theorem wS_asg_idx {a i : Ex} : wS T (.asg g (.idx a i)) env S D = (wE T (.idx a i) env S (fun v S1 => tgt g v env fun e' => D.nx e' S1) fun x S' => D.ex x env S') := rfl
theorem wS_asg_slc {a lo hi : Ex} : wS T (.asg g (.slc a lo hi)) env S D = (wE T (.slc a lo hi) env S (fun v S1 => tgt g v env fun e' => D.nx e' S1) fun x S' => D.ex x env S') := rfl
theorem wS_asg_fld {a : Ex} {f : Nat} : wS T (.asg g (.fld a f)) env S D = (wE T (.fld a f) env S (fun v S1 => tgt g v env fun e' => D.nx e' S1) fun x S' => D.ex x env S') := rfl
theorem wS_asg_call {f : Nat} {as : Ex} {d : List Val} : wS T (.asg g (.call f as d)) env S D = (wE T (.call f as d) env S (fun v S1 => tgt g v env fun e' => D.nx e' S1) fun x S' => D.ex x env S') := rfl
theorem wS_asg_meth {a : Ex} {m : Nat} {as : Ex} : wS T (.asg g (.meth a m as)) env S D = (wE T (.meth a m as) env S (fun v S1 => tgt g v env fun e' => D.nx e' S1) fun x S' => D.ex x env S') := rfl
theorem wS_asg_new {c : Nat} {as : Ex} {d : List Val} : wS T (.asg g (.new c as d)) env S D = (wE T (.new c as d) env S (fun v S1 => tgt g v env fun e' => D.nx e' S1) fun x S' => D.ex x env S') := rfl
theorem wS_asg_blt {b : Bi} {as : Ex} : wS T (.asg g (.blt b as)) env S D = (wE T (.blt b as) env S (fun v S1 => tgt g v env fun e' => D.nx e' S1) fun x S' => D.ex x env S') := rfl
theorem wS_asg_isty {a : Ex} {t : Ty} : wS T (.asg g (.isty a t)) env S D = (wE T (.isty a t) env S (fun v S1 => tgt g v env fun e' => D.nx e' S1) fun x S' => D.ex x env S') := rfl
theorem wS_asg_iscl {a : Ex} {c : Nat} : wS T (.asg g (.iscl a c)) env S D = (wE T (.iscl a c) env S (fun v S1 => tgt g v env fun e' => D.nx e' S1) fun x S' => D.ex x env S') := rfl
theorem wS_asg_nil  : wS T (.asg g .nil) env S D = (wE T .nil env S (fun v S1 => tgt g v env fun e' => D.nx e' S1) fun x S' => D.ex x env S') := rfl
/-- what comes behind name = [..] -/
def NxK (i : Nat) (D : Post) (env : Ev) : QV := fun v S1 => tgt (.nm i) v env fun e => D.nx e S1
theorem nxK_at {i : Nat} {v : Val} : NxK i D env v S = tgt (.nm i) v env fun e => D.nx e S := rfl
def wComp (T : Tb) (own : List Nat) (g : Tg) (hc : Bool) (cond elt : Ex) (env : Ev) (G : Store → Prop) (p : Addr) (K : QV) (items : List Val) (S : Store) : Prop :=
  wTurns G (fun x P => tgt g x (wipeE env own) P) (fun e2 S2 P => if hc = true then wT T cond e2 S2 P fun _ _ => False else P true S2) (fun e2 S2 P => wE T elt e2 S2 P fun _ _ => False) p K items (put S p (.lst []))
theorem wS_asg_comp {i : Nat} {own : List Nat} {gg : Tg} {k : ItK} {as cond elt : Ex} {hc : Bool} : wS T (.asg (.nm i) (.comp own gg k as hc cond elt)) env S D = (wA T as env S (fun vs S1 => itK k vs S1 fun G items => ∀ p, S1 p = none → wComp T own gg hc cond elt env G p (NxK i D env) items S1) fun x S' => D.ex x env S') := rfl
theorem wE_compK {own : List Nat} {gg : Tg} {k : ItK} {as cond elt : Ex} {hc : Bool} {Q : QV} {E : Exn → Store → Prop} : wE T (.comp own gg k as hc cond elt) env S Q E = (wA T as env S (fun vs S1 => itK k vs S1 fun G items => ∀ p, S1 p = none → wComp T own gg hc cond elt env G p Q items S1) E) := rfl
end
/-- an item by its place -/
def atQ (l : List Val) (i : Int) (Q : Val → Prop) : Prop := ∃ v, atI l i = some v ∧ Q v
section
variable {l : List Val} {i : Int} {Q : Val → Prop} {x y z u v : Val} {S : Store} {K : QV} {p : Addr}
theorem atQ_at (h : atI l i = some v) : atQ l i Q = Q v := propext ⟨fun ⟨w, e, q⟩ => by rw [h] at e; cases e; exact q, fun q => ⟨v, h, q⟩⟩
theorem atQ_0 : atQ (x :: l) 0 Q = Q x := atQ_at atI_0
theorem atQ_1 : atQ (x :: y :: l) 1 Q = Q y := atQ_at atI_1
theorem atQ_2 : atQ (x :: y :: z :: l) 2 Q = Q z := atQ_at atI_2
theorem atQ_3 : atQ (x :: y :: z :: u :: l) 3 Q = Q u := atQ_at atI_3
theorem opIx_tup : opIx (.tup l) (.int i) S K = atQ l i fun v => K v S := rfl
theorem opIx_ref : opIx (.ref p) (.int i) S K = getL S (.ref p) fun l => atQ l i fun v => K v S := rfl
theorem opIx_sl : opIx (.sl l) (.int i) S K = atQ l i fun v => K v S := rfl
end
theorem comp_rule {T : Tb} {own : List Nat} {g : Tg} {hc : Bool} {cond elt : Ex} {env : Ev} {G : Store → Prop} {D : Addr} {Q : QV} {S0 : Store} {items : List Val} (R : Val → Option Val → Prop) (hS0 : S0 D = none) (hG : ∀ S, Sub S0 S → G S) (hl : items.length ≤ LIM)
    (hs : ∀ x ∈ items, ∀ acc S, S D = some (.lst acc) → Sub S0 S → ∀ K : Option Val → Store → Prop, (∀ o S2, R x o → S2 D = some (.lst acc) → Sub S0 S2 → K o S2) →
      tgt g x (wipeE env own) fun e2 => if hc = true then wT T cond e2 S (fun b S1 => if b = true then wE T elt e2 S1 (fun y S2 => K (some y) S2) (fun _ _ => False) else K none S1) (fun _ _ => False) else wE T elt e2 S (fun y S2 => K (some y) S2) fun _ _ => False)
    (hQ : ∀ ys S, Rel R items ys → S D = some (.lst ys) → Sub S0 S → Q (.ref D) S) : wComp T own g hc cond elt env G D Q items S0 := comp_gen R hS0 hG hl hs hQ
theorem cutG_both {α : Type} {l : List α} {a b : Int} (ha : 0 ≤ a) (hb : 0 ≤ b) : cutG l (some a) (some b) = (l.take b.toNat).drop a.toNat := by
  have e : ¬ a < 0 := by omega
  have e' : ¬ b < 0 := by omega
  simp only [cutG, HT.sIx, if_neg e, if_neg e']
  rw [List.drop_take]
  rcases Nat.le_total a.toNat l.length with q | q
  · rw [Nat.min_eq_left q]
    rcases Nat.le_total b.toNat l.length with q2 | q2
    · rw [Nat.min_eq_left q2]
    · rw [Nat.min_eq_right q2, List.take_of_length_le (by rw [List.length_drop]; omega), List.take_of_length_le (by rw [List.length_drop]; omega)]
  · rw [Nat.min_eq_right q, List.drop_of_length_le (Nat.le_refl _), List.drop_of_length_le q]
    simp
/-- no more than the places there are -/
theorem nodup_len {α : Type} [DecidableEq α] : ∀ {l m : List α}, l.Nodup → (∀ x ∈ l, x ∈ m) → l.length ≤ m.length
  | [], _, _, _ => Nat.zero_le _
  | x :: l, m, hn, hs => by
    rw [List.nodup_cons] at hn
    have hx := hs x List.mem_cons_self
    have := nodup_len (l := l) (m := m.erase x) hn.2 fun y hy => (List.mem_erase_of_ne (show y ≠ x from fun e => hn.1 (by rw [← e]; exact hy))).mpr (hs y (List.mem_cons_of_mem _ hy))
    have h2 := List.length_erase_of_mem hx
    have h3 : 0 < m.length := List.length_pos_of_mem hx
    simp only [List.length_cons]
    omega
/-- a list of whole numbers, its first items -/
theorem atI_app {cs : List Int} {l : List Val} {i : Int} (h : l = cs.map Val.int) (h0 : 0 ≤ i) (h2 : i < cs.length) : ∃ z ∈ cs, atI l i = some (.int z) := h ▸ atI_map h0 h2
theorem put_skip {S : Store} {p q : Addr} {o x : Ob} (h : ¬ q = p) (e : S p = some x) : put S q o p = some x := (put_ne fun z => h z.symm).trans e
theorem put_skip' {S : Store} {p q : Addr} {o x : Ob} (h : ¬ p = q) (e : S p = some x) : put S q o p = some x := (put_ne h).trans e
section
variable {G : Store → Prop} {g : Val → Ev → (Ev → Prop) → Prop} {b : Ev → Store → Post → Prop} {D : Post} {x : Val} {r : List Val} {env : Ev} {S : Store}
theorem wFor_cons : wFor G g b D (x :: r) env S = (G S ∧ g x env fun e1 => b e1 S ⟨wFor G g b D r, D.rt, D.nx, wFor G g b D r, D.ex⟩) := rfl
theorem wFor_nil : wFor G g b D [] env S = (G S ∧ D.nx env S) := rfl
end
theorem wCall_gen {T : Tb} {f : Nat} {vs : List Val} {S : Store} {Q : QV} {E : Exn → Store → Prop} {c : RSpec} (h : T.fn f vs S = c) (hp : c.pre) (hq : ∀ v S', c.ret v S' → Q v S') (he : ∀ x S', c.exn x S' → E x S') : wCall T f vs S Q E := by
  unfold wCall
  rw [h]
  exact ⟨hp, hq, he⟩
theorem lstAt_put {S : Store} {p : Addr} {l : List Val} : LstAt (put S p (.lst l)) (.ref p) l := .inl ⟨p, rfl, put_same⟩
/-! ### gcds -/
theorem gcd_log {a b : Int} {n : Nat} (hb : b ≠ 0) (h : b.natAbs.log2 < n) : (↑(Int.gcd a b) : Int).natAbs.log2 < n := by
  refine log2_lt_of ?_ h
  rw [Int.natAbs_natCast]
  exact Nat.gcd_le_right _ (by omega)
/-- p is t / b in lowest terms -/
structure IsT (t b : Int) (p : Int × Int) : Prop where
  eq : p.1 * b = t * p.2
  pos : 0 < p.2
  gcd : Int.gcd p.1 p.2 = 1
  le1 : p.1.natAbs ≤ t.natAbs
  le2 : p.2.natAbs ≤ b.natAbs
theorem gcd_pos {a b : Int} (hb : b ≠ 0) : 0 < Int.gcd a b := Nat.pos_of_ne_zero fun h => hb (Int.gcd_eq_zero_iff.mp h).2
theorem natAbs_fdiv_neg {a g : Int} (hg : 0 < g) (hd : g ∣ a) : a.fdiv (-g) = -(a.fdiv g) := by
  rw [Int.fdiv_eq_ediv_of_dvd (Int.neg_dvd.mpr hd), Int.fdiv_eq_ediv_of_dvd hd, Int.ediv_neg]
theorem isT_pos {t b : Int} (hb : 0 < b) : IsT t b (t.fdiv ↑(Int.gcd t b), b.fdiv ↑(Int.gcd t b)) := by
  have hg : 0 < Int.gcd t b := gcd_pos (by omega)
  have h1 := Int.gcd_dvd_left t b
  have h2 := Int.gcd_dvd_right t b
  have e1 := Int.ediv_mul_cancel h1
  have e2 := Int.ediv_mul_cancel h2
  have hgp : (0 : Int) < ↑(Int.gcd t b) := by omega
  refine ⟨?_, ?_, ?_, natAbs_fdiv_le t hgp, natAbs_fdiv_le b hgp⟩
  all_goals simp only [Int.fdiv_eq_ediv_of_dvd h1, Int.fdiv_eq_ediv_of_dvd h2]
  · generalize hx : t / ↑(Int.gcd t b) = x at *
    generalize hy : b / ↑(Int.gcd t b) = y at *
    generalize (↑(Int.gcd t b) : Int) = g at *
    rw [← e1, ← e2]
    grind
  · exact Int.ediv_pos_of_pos_of_dvd hb (by omega) h2
  · exact Int.gcd_ediv_gcd_ediv_gcd hg
theorem isT_neg {t b : Int} (hb : b < 0) : IsT t b (t.fdiv (-↑(Int.gcd t b)), b.fdiv (-↑(Int.gcd t b))) := by
  have z := isT_pos (t := -t) (b := -b) (by omega)
  rw [Int.neg_gcd, Int.gcd_neg] at z
  have hgp : (0 : Int) < ↑(Int.gcd t b) := by have := gcd_pos (a := t) (b := b) (by omega); omega
  have h1 := Int.gcd_dvd_left t b
  have h2 := Int.gcd_dvd_right t b
  have e1 : t.fdiv (-↑(Int.gcd t b)) = (-t).fdiv ↑(Int.gcd t b) := by
    rw [natAbs_fdiv_neg hgp h1, Int.fdiv_eq_ediv_of_dvd h1, Int.fdiv_eq_ediv_of_dvd (Int.dvd_neg.mpr h1), Int.neg_ediv_of_dvd h1]
  have e2 : b.fdiv (-↑(Int.gcd t b)) = (-b).fdiv ↑(Int.gcd t b) := by
    rw [natAbs_fdiv_neg hgp h2, Int.fdiv_eq_ediv_of_dvd h2, Int.fdiv_eq_ediv_of_dvd (Int.dvd_neg.mpr h2), Int.neg_ediv_of_dvd h2]
  rw [e1, e2]
  obtain ⟨a1, a2, a3, a4, a5⟩ := z
  simp only [Int.natAbs_neg] at a4 a5
  exact ⟨by grind, a2, a3, a4, a5⟩
theorem tyIs_ref {t : Ty} {p : Addr} {S : Store} {P : Bool → Prop} : tyIs t (.ref p) S P = getL S (.ref p) fun _ => P (t == .list) := by
  simp only [tyIs, getL]
/-- a fact on sizes -/
theorem log2_mul {a b : Int} {n m : Nat} (h : a.natAbs.log2 < n) (k : b.natAbs.log2 < m) : (a * b).natAbs.log2 < n + m := by
  rw [Int.natAbs_mul]
  have := mul_log2 a.natAbs b.natAbs
  omega
theorem log2_add {a b : Int} {n : Nat} (h : a.natAbs.log2 < n) (k : b.natAbs.log2 < n) : (a + b).natAbs.log2 < n + 1 := by
  have h1 : a.natAbs < 2 ^ n := by
    by_cases e : a.natAbs = 0
    · rw [e]; exact Nat.pow_pos (by decide)
    · exact (Nat.log2_lt e).mp h
  have h2 : b.natAbs < 2 ^ n := by
    by_cases e : b.natAbs = 0
    · rw [e]; exact Nat.pow_pos (by decide)
    · exact (Nat.log2_lt e).mp k
  by_cases e : (a + b).natAbs = 0
  · rw [e, Nat.log2_zero]; omega
  · refine (Nat.log2_lt e).mpr ?_
    rw [Nat.pow_succ]
    omega
/-- a known value, a longer store; a value of a known shape, a longer store -/
def RSpec.puS (S : Store) (p : Prop) (v0 : Val) : RSpec := ⟨p, fun v S' => v = v0 ∧ Sub S S', fun _ _ => False⟩
def RSpec.puR {α : Type} (S : Store) (p : Prop) (g : α → Val) (r : α → Store → Prop) : RSpec := ⟨p, fun v S' => ∃ a, v = g a ∧ r a S' ∧ Sub S S', fun _ _ => False⟩
section
variable {T : Tb} {f : Nat} {vs : List Val} {S S' : Store} {Q : QV} {E : Exn → Store → Prop} {p : Prop} {v0 v : Val} {α : Type} {g : α → Val} {r : α → Store → Prop} {x : Exn}
theorem wCall_puS (h : T.fn f vs S = .puS S p v0) : wCall T f vs S Q E = (p ∧ ∀ S', Sub S S' → Q v0 S') := propext ⟨fun ⟨a, b, _⟩ => by rw [h] at a b; exact ⟨a, fun S' k => b v0 S' ⟨rfl, k⟩⟩, fun ⟨a, b⟩ => by unfold wCall; rw [h]; exact ⟨a, fun v S' ⟨e, e2⟩ => by rw [e]; exact b S' e2, fun _ _ z => z.elim⟩⟩
theorem wCall_puR (h : T.fn f vs S = .puR S p g r) : wCall T f vs S Q E = (p ∧ ∀ a S', r a S' → Sub S S' → Q (g a) S') := propext ⟨fun ⟨a, b, _⟩ => by rw [h] at a b; exact ⟨a, fun z S' hz k => b (g z) S' ⟨z, rfl, hz, k⟩⟩, fun ⟨a, b⟩ => by unfold wCall; rw [h]; exact ⟨a, fun v S' ⟨z, e, hz, e2⟩ => by rw [e]; exact b z S' hz e2, fun _ _ z => z.elim⟩⟩
theorem puS_pre : (RSpec.puS S p v0).pre = p := rfl
theorem puR_pre : (RSpec.puR S p g r).pre = p := rfl
theorem finS_rt : (fin (.puS S p v0)).rt v S' = (v = v0 ∧ Sub S S') := propext ⟨fun ⟨_, a, b, c⟩ => ⟨b, c.trans a⟩, fun ⟨b, a⟩ => ⟨S, Sub.refl.trans a, b, Sub.refl⟩⟩
theorem finS_ex {e : Ev} : (fin (.puS S p v0)).ex x e S' = False := propext ⟨fun ⟨_, _, h⟩ => h, fun h => h.elim⟩
theorem finR_rt : (fin (.puR S p g r)).rt v S' = (∃ S1, Sub S1 S' ∧ ∃ a, v = g a ∧ r a S1 ∧ Sub S S1) := rfl
theorem finR_of {a : α} (h : r a S') (k : Sub S S') : (fin (.puR S p g r)).rt (g a) S' := ⟨S', Sub.refl, a, rfl, h, k⟩
theorem finR_ex {e : Ev} : (fin (.puR S p g r)).ex x e S' = False := propext ⟨fun ⟨_, _, h⟩ => h, fun h => h.elim⟩
end
theorem cop_dvd {a b c : Int} (h : a ∣ b * c) (g : Int.gcd a b = 1) : a ∣ c := by
  have h' := Int.natAbs_dvd_natAbs.mpr h
  rw [Int.natAbs_mul] at h'
  exact Int.natAbs_dvd_natAbs.mp (Nat.Coprime.dvd_of_dvd_mul_left g h')
theorem dvd_le {a b : Int} (h : a ∣ b) (g : b ≠ 0) : a.natAbs ≤ b.natAbs := Nat.le_of_dvd (by omega) (Int.natAbs_dvd_natAbs.mpr h)
theorem isT_of {t b : Int} {p : Int × Int} (hb : 0 < b) (e : p.1 * b = t * p.2) (h2 : 0 < p.2) (hg : Int.gcd p.1 p.2 = 1) : IsT t b p := by
  refine ⟨e, h2, hg, ?_, ?_⟩
  · by_cases ht : t = 0
    · subst ht
      rw [Int.zero_mul] at e
      rcases Int.mul_eq_zero.mp e with q | q
      · rw [q]; decide
      · omega
    · refine dvd_le (cop_dvd (b := p.2) ?_ hg) ht
      exact ⟨b, by rw [Int.mul_comm, ← e]⟩
  · refine dvd_le (cop_dvd (b := p.1) ?_ (by rw [Int.gcd_comm]; exact hg)) (by omega)
    exact ⟨t, by rw [e, Int.mul_comm]⟩
end BW
set_option Elab.async false
set_option linter.all false
set_option maxRecDepth 100000
set_option maxHeartbeats 4000000
namespace BW
open PySem PySem.Spec PyProof.Rows L2
/-! ### points in lowest terms -/
abbrev tr (p : Int × Int × Int) : Val := .tup [.int p.1, .int p.2.1, .int p.2.2]
structure IsP (x y w : Int) (p : Int × Int × Int) : Prop where
  ex : p.1 * w = x * p.2.2
  ey : p.2.1 * w = y * p.2.2
  pos : 0 < p.2.2
  gcd : Int.gcd (Int.gcd p.1 p.2.1) p.2.2 = 1
  le1 : p.1.natAbs ≤ x.natAbs
  le2 : p.2.1.natAbs ≤ y.natAbs
  le3 : p.2.2.natAbs ≤ w.natAbs
theorem gcd3_div {x y w : Int} {g : Int} (hg : 0 < g) (h1 : g ∣ x) (h2 : g ∣ y) (h3 : g ∣ w) (e : Int.gcd (Int.gcd x y) w = g.natAbs) : Int.gcd (Int.gcd (x / g) (y / g)) (w / g) = 1 := by
  obtain ⟨a, rfl⟩ := h1
  obtain ⟨b, rfl⟩ := h2
  obtain ⟨c, rfl⟩ := h3
  rw [Int.mul_ediv_cancel_left _ (by omega), Int.mul_ediv_cancel_left _ (by omega), Int.mul_ediv_cancel_left _ (by omega)]
  rw [Int.gcd_mul_left, Int.natCast_mul, Int.natAbs_of_nonneg (by omega : 0 ≤ g), Int.gcd_mul_left] at e
  have : 0 < g.natAbs := by omega
  exact Nat.eq_of_mul_eq_mul_left this (by rw [e, Nat.mul_one])
theorem gcd3_dvd (x y w : Int) : (↑(Int.gcd (Int.gcd x y) w) : Int) ∣ x ∧ (↑(Int.gcd (Int.gcd x y) w) : Int) ∣ y ∧ (↑(Int.gcd (Int.gcd x y) w) : Int) ∣ w :=
  ⟨Int.dvd_trans (Int.gcd_dvd_left _ _) (Int.gcd_dvd_left x y), Int.dvd_trans (Int.gcd_dvd_left _ _) (Int.gcd_dvd_right x y), Int.gcd_dvd_right _ _⟩
theorem isP_pos {x y w : Int} (hw : 0 < w) : IsP x y w (x.fdiv ↑(Int.gcd (Int.gcd x y) w), y.fdiv ↑(Int.gcd (Int.gcd x y) w), w.fdiv ↑(Int.gcd (Int.gcd x y) w)) := by
  have hg : 0 < Int.gcd (Int.gcd x y) w := gcd_pos (by omega)
  obtain ⟨h1, h2, h3⟩ := gcd3_dvd x y w
  have e1 := Int.ediv_mul_cancel h1
  have e2 := Int.ediv_mul_cancel h2
  have e3 := Int.ediv_mul_cancel h3
  have hgp : (0 : Int) < ↑(Int.gcd (Int.gcd x y) w) := by omega
  have hgc := gcd3_div hgp h1 h2 h3 (Int.natAbs_natCast _).symm
  refine ⟨?_, ?_, ?_, ?_, natAbs_fdiv_le x hgp, natAbs_fdiv_le y hgp, natAbs_fdiv_le w hgp⟩
  all_goals simp only [Int.fdiv_eq_ediv_of_dvd h1, Int.fdiv_eq_ediv_of_dvd h2, Int.fdiv_eq_ediv_of_dvd h3]
  · generalize hx : x / ↑(Int.gcd (Int.gcd x y) w) = a at *
    generalize hy : w / ↑(Int.gcd (Int.gcd x y) w) = b at *
    generalize (↑(Int.gcd (Int.gcd x y) w) : Int) = g at *
    rw [← e1, ← e3]
    grind
  · generalize hx : y / ↑(Int.gcd (Int.gcd x y) w) = a at *
    generalize hy : w / ↑(Int.gcd (Int.gcd x y) w) = b at *
    generalize (↑(Int.gcd (Int.gcd x y) w) : Int) = g at *
    rw [← e2, ← e3]
    grind
  · exact Int.ediv_pos_of_pos_of_dvd hw (by omega) h3
  · exact hgc
theorem fdiv_neg_dvd {a g : Int} (hg : 0 < g) (h : g ∣ a) : a.fdiv (-g) = (-a).fdiv g := by
  rw [natAbs_fdiv_neg hg h, Int.fdiv_eq_ediv_of_dvd h, Int.fdiv_eq_ediv_of_dvd (Int.dvd_neg.mpr h), Int.neg_ediv_of_dvd h]
theorem isP_neg {x y w : Int} (hw : w < 0) : IsP x y w (x.fdiv (-↑(Int.gcd (Int.gcd x y) w)), y.fdiv (-↑(Int.gcd (Int.gcd x y) w)), w.fdiv (-↑(Int.gcd (Int.gcd x y) w))) := by
  have z := isP_pos (x := -x) (y := -y) (w := -w) (by omega)
  rw [Int.neg_gcd, Int.gcd_neg, Int.gcd_neg] at z
  have hgp : (0 : Int) < ↑(Int.gcd (Int.gcd x y) w) := by have := gcd_pos (a := ↑(Int.gcd x y)) (b := w) (by omega); omega
  obtain ⟨h1, h2, h3⟩ := gcd3_dvd x y w
  rw [fdiv_neg_dvd hgp h1, fdiv_neg_dvd hgp h2, fdiv_neg_dvd hgp h3]
  obtain ⟨a1, a2, a3, a4, a5, a6, a7⟩ := z
  simp only [Int.natAbs_neg] at a5 a6 a7
  exact ⟨by grind, by grind, a3, a4, a5, a6, a7⟩
/-- lowest terms are one -/
theorem third_dvd {p q : Int × Int × Int} (hp : 0 < p.2.2) (hq : 0 < q.2.2) (g : Int.gcd (Int.gcd p.1 p.2.1) p.2.2 = 1) (e1 : p.1 * q.2.2 = q.1 * p.2.2) (e2 : p.2.1 * q.2.2 = q.2.1 * p.2.2) : p.2.2 ∣ q.2.2 := by
  have d1 : p.2.2 ∣ p.1 * q.2.2 := ⟨q.1, by rw [e1, Int.mul_comm]⟩
  have d2 : p.2.2 ∣ p.2.1 * q.2.2 := ⟨q.2.1, by rw [e2, Int.mul_comm]⟩
  have d3 : p.2.2 ∣ p.2.2 * q.2.2 := ⟨q.2.2, rfl⟩
  have h1 := Int.dvd_coe_gcd d1 d2
  have h2 := Int.dvd_coe_gcd h1 d3
  have e : Int.gcd ↑(Int.gcd (p.1 * q.2.2) (p.2.1 * q.2.2)) (p.2.2 * q.2.2) = q.2.2.natAbs := by
    have : q.2.2 = ↑q.2.2.natAbs := by omega
    rw [Int.gcd_mul_right, Int.natCast_mul, ← this, Int.gcd_mul_right, g, Nat.one_mul]
  rw [e] at h2
  have : (↑q.2.2.natAbs : Int) = q.2.2 := by omega
  rwa [this] at h2
theorem low_uniq {p q : Int × Int × Int} (hp : 0 < p.2.2) (hq : 0 < q.2.2) (gp : Int.gcd (Int.gcd p.1 p.2.1) p.2.2 = 1) (gq : Int.gcd (Int.gcd q.1 q.2.1) q.2.2 = 1) (e1 : p.1 * q.2.2 = q.1 * p.2.2) (e2 : p.2.1 * q.2.2 = q.2.1 * p.2.2) : p = q := by
  have h1 := Int.le_of_dvd hq (third_dvd hp hq gp e1 e2)
  have h2 := Int.le_of_dvd hp (third_dvd hq hp gq e1.symm e2.symm)
  have e : p.2.2 = q.2.2 := by omega
  obtain ⟨a, b, c⟩ := p
  obtain ⟨a', b', c'⟩ := q
  simp only at e e1 e2 hp hq
  subst e
  rw [Int.eq_of_mul_eq_mul_right (by omega) e1, Int.eq_of_mul_eq_mul_right (by omega) e2]
/-- the spot behind two times -/
theorem spot_sum {x w a t d s d' qx qw u1 u2 A A' B B' : Int} (hw : w ≠ 0) (hd : d ≠ 0) (hd' : d' ≠ 0) (hq : qw ≠ 0) (hu : u2 ≠ 0) (h1 : qx * (w * d) = (x * d + a * t * w) * qw) (h2 : A * (qw * d') = (qx * d' + a * s * qw) * A')
    (h3 : u1 * (d * d') = (t * d' + s * d) * u2) (h4 : B * (w * u2) = (x * u2 + a * u1 * w) * B') : A * B' = B * A' := by
  have k1 : A * (w * d * d') = (x * d * d' + a * w * (t * d' + s * d)) * A' := by
    refine Int.eq_of_mul_eq_mul_left hq ?_
    have e1 : qw * (A * (w * d * d')) = (A * (qw * d')) * (w * d) := by grind
    have e2 : (qx * d' + a * s * qw) * A' * (w * d) = (qx * (w * d)) * d' * A' + a * s * qw * (w * d) * A' := by grind
    rw [e1, h2, e2, h1]
    grind
  have k2 : B * (w * d * d') = (x * d * d' + a * w * (t * d' + s * d)) * B' := by
    refine Int.eq_of_mul_eq_mul_left hu ?_
    have e1 : u2 * (B * (w * d * d')) = (B * (w * u2)) * (d * d') := by grind
    have e2 : (x * u2 + a * u1 * w) * B' * (d * d') = x * u2 * B' * (d * d') + a * w * B' * (u1 * (d * d')) := by grind
    rw [e1, h4, e2, h3]
    grind
  have hn : w * d * d' ≠ 0 := fun h => by
    rcases Int.mul_eq_zero.mp h with h | h
    · rcases Int.mul_eq_zero.mp h with h | h
      · exact hw h
      · exact hd h
    · exact hd' h
  refine Int.eq_of_mul_eq_mul_left hn ?_
  have e1 : w * d * d' * (A * B') = (A * (w * d * d')) * B' := by grind
  have e2 : w * d * d' * (B * A') = (B * (w * d * d')) * A' := by grind
  rw [e1, e2, k1, k2]
  grind
/-- lists of whole numbers with a bound -/
theorem rel_ints {P : Int → Prop} : ∀ {l ys : List Val}, Rel (fun _ o => ∃ z, o = some (.int z) ∧ P z) l ys → ∃ zs : List Int, ys = zs.map Val.int ∧ zs.length = l.length ∧ ∀ z ∈ zs, P z
  | [], _, h => ⟨[], h, rfl, fun z h => by cases h⟩
  | x :: l, ys, h => by
    rcases h with ⟨⟨z, h, _⟩, _⟩ | ⟨y, ys', rfl, ⟨z, h, hp⟩, h2⟩
    · cases h
    · cases h
      obtain ⟨zs, rfl, hl, ha⟩ := rel_ints h2
      exact ⟨z :: zs, rfl, by simp [hl], fun w hw => (List.mem_cons.mp hw).elim (fun e => e ▸ hp) (ha w)⟩
theorem opC_ne_empty {S : Store} {P : Bool → Prop} {p q : Addr} (hp : S p = some (.lst [])) (hq : S q = some (.lst [])) : opC .ne (.ref p) (.ref q) S P = P false := opC_ne_l hp hq .nil .nil
theorem map_int_inj : ∀ {a b : List Int}, a.map Val.int = b.map Val.int → a = b
  | [], [], _ => rfl
  | [], _ :: _, h => by cases h
  | _ :: _, [], h => by cases h
  | x :: a, y :: b, h => by
    rw [List.map_cons, List.map_cons] at h
    injection h with h1 h2
    injection h1 with h1
    rw [h1, map_int_inj h2]
theorem ints_inj {S : Store} {p : Addr} {a b : List Int} (h : S p = some (.lst (a.map Val.int))) (k : S p = some (.lst (b.map Val.int))) : a = b := by
  rw [h] at k
  injection k with k
  injection k with k
  exact map_int_inj k
theorem dt32 {S : Store} {a b c d e : Int} : Dt S (.tup [.tup [.int a, .int b, .int c], .tup [.int d, .int e]]) (.tuple [.tuple [.int a, .int b, .int c], .tuple [.int d, .int e]]) := .tup (.cons dt3 (.cons dt2 .nil))
theorem opC_eq_t32 {S : Store} {P : Bool → Prop} {a b c d e a' b' c' d' e' : Int} : opC .eq (.tup [.tup [.int a, .int b, .int c], .tup [.int d, .int e]]) (.tup [.tup [.int a', .int b', .int c'], .tup [.int d', .int e']]) S P = P (decide ((a = a' ∧ b = b' ∧ c = c') ∧ d = d' ∧ e = e')) := by
  rw [opC_eq_dt dt32 dt32]
  congr 1
  rw [Bool.eq_iff_iff]
  simp [PyData.eqv, PyData.eqvAll]
theorem opC_ne_t32 {S : Store} {P : Bool → Prop} {a b c d e a' b' c' d' e' : Int} : opC .ne (.tup [.tup [.int a, .int b, .int c], .tup [.int d, .int e]]) (.tup [.tup [.int a', .int b', .int c'], .tup [.int d', .int e']]) S P = P (!decide ((a = a' ∧ b = b' ∧ c = c') ∧ d = d' ∧ e = e')) := by
  rw [opC_ne_dt dt32 dt32]
  congr 1
  rw [Bool.eq_iff_iff]
  simp [PyData.eqv, PyData.eqvAll]
theorem ne_old {S : Store} {r p : Addr} {o : Ob} (h : S r = some o) (k : S p = none) : (p = r) = False := propext ⟨fun e => (by rw [e, h] at k; cases k), fun z => z.elim⟩
/-- the common begin of a law: the cells, filled up -/
theorem cells_big {ns : List Int} (hb : ∀ z ∈ ns, Builtin.Int.intBits z ≤ 1048576) {e : List Int} (he : ∀ z ∈ e, z = 0) : ∀ z ∈ ns ++ e, z.natAbs.log2 < 10000000 := by
  intro z hz
  rcases List.mem_append.mp hz with h | h
  · have := bits_log2 (hb z h); omega
  · rw [he z h]; decide
/-- None, or a value of a known shape -/
def RSpec.puO {α : Type} (S : Store) (p : Prop) (n : Prop) (g : α → Val) (r : α → Prop) : RSpec := ⟨p, fun v S' => ((v = .non ∧ n) ∨ ∃ a, v = g a ∧ r a) ∧ S' = S, fun _ _ => False⟩
section
variable {T : Tb} {f : Nat} {vs : List Val} {S S' : Store} {Q : QV} {E : Exn → Store → Prop} {p n : Prop} {v : Val} {α : Type} {g : α → Val} {r : α → Prop} {x : Exn}
theorem wCall_puO (h : T.fn f vs S = .puO S p n g r) : wCall T f vs S Q E = (p ∧ (n → Q .non S) ∧ ∀ a, r a → Q (g a) S) := propext ⟨fun ⟨a, b, _⟩ => by rw [h] at a b; exact ⟨a, fun hn => b .non S ⟨.inl ⟨rfl, hn⟩, rfl⟩, fun z hz => b (g z) S ⟨.inr ⟨z, rfl, hz⟩, rfl⟩⟩,
  fun ⟨a, b, c⟩ => by
    unfold wCall
    rw [h]
    refine ⟨a, fun v S' hv => ?_, fun _ _ z => z.elim⟩
    obtain ⟨hv, e2⟩ := hv
    rw [e2]
    rcases hv with ⟨e, hn⟩ | ⟨z, e, hz⟩
    · rw [e]; exact b hn
    · rw [e]; exact c z hz⟩
theorem puO_pre : (RSpec.puO S p n g r).pre = p := rfl
theorem finO_rt : (fin (.puO S p n g r)).rt v S' = (((v = .non ∧ n) ∨ ∃ a, v = g a ∧ r a) ∧ Sub S S') := propext ⟨fun ⟨_, a, b, c⟩ => ⟨b, c ▸ a⟩, fun ⟨b, a⟩ => ⟨S, a, b, rfl⟩⟩
theorem finO_ex {e : Ev} : (fin (.puO S p n g r)).ex x e S' = False := propext ⟨fun ⟨_, _, h⟩ => h, fun h => h.elim⟩
end
end BW
set_option Elab.async false
set_option linter.all false
set_option maxRecDepth 100000
set_option maxHeartbeats 4000000
namespace BW.Lw
open PySem PySem.Spec PyProof.Rows L2 BW
def top (i : Nat) : Stmt := PySem.Challenge.pw_bouncewise_k83_whole_corners.main.body.getD i (.Pass ⟨0, 0, 0, 0⟩)
def s_divisor : Sx := .seq (.whl (.cmp (.ne) (.var 1) (.lit (.int 0))) (.seq (.asg (.nm 2) (.bin (.mod) (.var 0) (.var 1))) (.seq (.asg (.nm 0) (.var 1)) (.asg (.nm 1) (.var 2))))) (.ret (.blt (.abs) (.cons (.var 0) (.nil))))
theorem c_divisor : cSs (cS 60 { N := ["one", "other", "rest"], sc := defScope (top 5), fns := [], cst := [], st := cellsOf (defScope (top 5)) }) (defBody (top 5)) = some s_divisor := by kernel_rfl
theorem sc_divisor : FnScope ["one", "other", "rest"] ["one", "other"] (defScope (top 5)) := C8.fnScope_by (by decide +kernel)
def s_time_of : Sx := .seq (.ite (.cmp (.eq) (.var 1) (.lit (.int 0))) (.expr (.nil)) (.skip)) (.seq (.asg (.nm 2) (.call 0 (.cons (.var 0) (.cons (.var 1) (.nil))) [])) (.seq (.ite (.cmp (.lt) (.var 1) (.lit (.int 0))) (.asg (.nm 2) (.neg (.var 2))) (.skip)) (.ret (.tup (.cons (.bin (.fdiv) (.var 0) (.var 2)) (.cons (.bin (.fdiv) (.var 1) (.var 2)) (.nil)))))))
theorem c_time_of : cSs (cS 60 { N := ["top", "bottom", "share"], sc := defScope (top 6), fns := [(("divisor", 2), (0, []))], cst := [], st := cellsOf (defScope (top 6)) }) (defBody (top 6)) = some s_time_of := by kernel_rfl
theorem sc_time_of : FnScope ["top", "bottom", "share"] ["top", "bottom"] (defScope (top 6)) := C8.fnScope_by (by decide +kernel)
def s_look_inside : Sx := .seq (.asg (.tp [3, 4, 5]) (.var 2)) (.seq (.ite (.orr (.cmp (.lt) (.var 0) (.lit (.int 1))) (.cmp (.lt) (.var 1) (.lit (.int 1)))) (.expr (.nil)) (.skip)) (.ite (.orr (.cmp (.le) (.var 3) (.lit (.int 0))) (.orr (.cmp (.le) (.var 4) (.lit (.int 0))) (.orr (.cmp (.ge) (.var 3) (.bin (.mul) (.var 0) (.var 5))) (.cmp (.ge) (.var 4) (.bin (.mul) (.var 1) (.var 5)))))) (.expr (.nil)) (.skip)))
theorem c_look_inside : cSs (cS 60 { N := ["wide", "high", "P", "x", "y", "w"], sc := defScope (top 8), fns := [], cst := [], st := cellsOf (defScope (top 8)) }) (defBody (top 8)) = some s_look_inside := by kernel_rfl
theorem sc_look_inside : FnScope ["wide", "high", "P", "x", "y", "w"] ["wide", "high", "P"] (defScope (top 8)) := C8.fnScope_by (by decide +kernel)
def s_undone : Sx := .seq (.asg (.nm 2) (.tup (.cons (.var 1) (.cons (.lit (.int 0)) (.nil))))) (.seq (.asg (.nm 3) (.tup (.cons (.bin (.mod) (.var 0) (.var 1)) (.cons (.lit (.int 1)) (.nil))))) (.seq (.whl (.cmp (.gt) (.idx (.var 3) (.lit (.int 0))) (.lit (.int 0))) (.seq (.asg (.nm 4) (.bin (.fdiv) (.idx (.var 2) (.lit (.int 0))) (.idx (.var 3) (.lit (.int 0))))) (.seq (.asg (.nm 5) (.tup (.cons (.bin (.sub) (.idx (.var 2) (.lit (.int 0))) (.bin (.mul) (.var 4) (.idx (.var 3) (.lit (.int 0))))) (.cons (.bin (.sub) (.idx (.var 2) (.lit (.int 1))) (.bin (.mul) (.var 4) (.idx (.var 3) (.lit (.int 1))))) (.nil))))) (.seq (.asg (.nm 2) (.var 3)) (.asg (.nm 3) (.var 5)))))) (.ret (.bin (.mod) (.idx (.var 2) (.lit (.int 1))) (.var 1)))))
theorem c_undone : cSs (cS 60 { N := ["one", "other", "ahead", "now", "many", "then"], sc := defScope (top 9), fns := [], cst := [], st := cellsOf (defScope (top 9)) }) (defBody (top 9)) = some s_undone := by kernel_rfl
theorem sc_undone : FnScope ["one", "other", "ahead", "now", "many", "then"] ["one", "other"] (defScope (top 9)) := C8.fnScope_by (by decide +kernel)
def s_box_corner : Sx := .seq (.expr (.call 2 (.cons (.var 0) (.cons (.var 1) (.cons (.var 2) (.nil)))) [])) (.seq (.asg (.tp [4, 5, 6]) (.var 2)) (.seq (.asg (.tp [7, 8]) (.var 3)) (.seq (.asg (.nm 9) (.call 0 (.cons (.bin (.mul) (.var 0) (.var 8)) (.cons (.bin (.mul) (.var 1) (.var 7)) (.nil))) [])) (.seq (.asg (.nm 10) (.bin (.sub) (.bin (.mul) (.var 8) (.var 4)) (.bin (.mul) (.var 7) (.var 5)))) (.seq (.ite (.cmp (.ne) (.bin (.mod) (.var 10) (.bin (.mul) (.var 9) (.var 6))) (.lit (.int 0))) (.ret (.lit (.non))) (.skip)) (.seq (.asg (.nm 11) (.bin (.fdiv) (.bin (.mul) (.var 1) (.blt (.abs) (.cons (.var 7) (.nil)))) (.var 9))) (.seq (.asg (.nm 12) (.bin (.mod) (.bin (.mul) (.bin (.fdiv) (.var 10) (.bin (.mul) (.var 9) (.var 6))) (.call 3 (.cons (.bin (.fdiv) (.bin (.mul) (.var 0) (.var 8)) (.var 9)) (.cons (.var 11) (.nil))) [])) (.var 11))) (.seq (.asg (.nm 13) (.call 1 (.cons (.bin (.sub) (.bin (.mul) (.bin (.mul) (.var 12) (.var 0)) (.var 6)) (.var 4)) (.cons (.bin (.mul) (.var 7) (.var 6)) (.nil))) [])) (.ret (.call 1 (.cons (.bin (.mod) (.idx (.var 13) (.lit (.int 0))) (.bin (.mul) (.bin (.fdiv) (.bin (.mul) (.var 0) (.var 1)) (.var 9)) (.idx (.var 13) (.lit (.int 1))))) (.cons (.idx (.var 13) (.lit (.int 1))) (.nil))) []))))))))))
theorem c_box_corner : cSs (cS 60 { N := ["wide", "high", "P", "heading", "x", "y", "w", "a", "b", "share", "off", "cycle", "turns", "early"], sc := defScope (top 10), fns := [(("look_inside", 3), (2, [])), (("divisor", 2), (0, [])), (("time_of", 2), (1, [])), (("undone", 2), (3, []))], cst := [], st := cellsOf (defScope (top 10)) }) (defBody (top 10)) = some s_box_corner := by kernel_rfl
theorem sc_box_corner : FnScope ["wide", "high", "P", "heading", "x", "y", "w", "a", "b", "share", "off", "cycle", "turns", "early"] ["wide", "high", "P", "heading"] (defScope (top 10)) := C8.fnScope_by (by decide +kernel)
def s__law_is_int : Sx := .ret (.andd (.nott (.isty (.var 0) (.bool))) (.isty (.var 0) (.int)))
theorem c__law_is_int : cSs (cS 60 { N := ["found"], sc := defScope (top 12), fns := [], cst := [], st := cellsOf (defScope (top 12)) }) (defBody (top 12)) = some s__law_is_int := by kernel_rfl
theorem sc__law_is_int : FnScope ["found"] ["found"] (defScope (top 12)) := C8.fnScope_by (by decide +kernel)
def s__law_number : Sx := .seq (.asg (.nm 1) (.bin (.mod) (.var 0) (.lit (.int 5)))) (.seq (.ite (.cmp (.lt) (.var 1) (.lit (.int 2))) (.ret (.bin (.sub) (.bin (.mod) (.bin (.mul) (.bin (.fdiv) (.var 0) (.lit (.int 5))) (.bin (.add) (.bin (.fdiv) (.bin (.pow) (.lit (.int 10)) (.lit (.int 59))) (.lit (.int 7))) (.lit (.int 48271)))) (.bin (.add) (.bin (.mul) (.lit (.int 2)) (.bin (.pow) (.lit (.int 10)) (.lit (.int 59)))) (.lit (.int 1)))) (.bin (.pow) (.lit (.int 10)) (.lit (.int 59))))) (.skip)) (.seq (.ite (.cmp (.eq) (.var 1) (.lit (.int 2))) (.ret (.bin (.sub) (.bin (.mod) (.bin (.fdiv) (.var 0) (.lit (.int 5))) (.lit (.int 2001))) (.lit (.int 1000)))) (.skip)) (.ret (.bin (.sub) (.bin (.mod) (.bin (.fdiv) (.var 0) (.lit (.int 5))) (.lit (.int 13))) (.lit (.int 6))))))
theorem c__law_number : cSs (cS 60 { N := ["cell", "way"], sc := defScope (top 13), fns := [], cst := [], st := cellsOf (defScope (top 13)) }) (defBody (top 13)) = some s__law_number := by kernel_rfl
theorem sc__law_number : FnScope ["cell", "way"] ["cell"] (defScope (top 13)) := C8.fnScope_by (by decide +kernel)
def s__law_side : Sx := .seq (.asg (.nm 1) (.bin (.mod) (.var 0) (.lit (.int 4)))) (.seq (.ite (.cmp (.eq) (.var 1) (.lit (.int 1))) (.ret (.bin (.add) (.lit (.int 1)) (.bin (.mod) (.bin (.mul) (.bin (.fdiv) (.var 0) (.lit (.int 4))) (.bin (.add) (.bin (.fdiv) (.bin (.pow) (.lit (.int 10)) (.lit (.int 59))) (.lit (.int 11))) (.lit (.int 104729)))) (.bin (.sub) (.bin (.pow) (.lit (.int 10)) (.lit (.int 60))) (.lit (.int 1)))))) (.skip)) (.seq (.ite (.cmp (.eq) (.var 1) (.lit (.int 2))) (.ret (.bin (.add) (.lit (.int 1)) (.bin (.mod) (.bin (.fdiv) (.var 0) (.lit (.int 4))) (.lit (.int 1000))))) (.skip)) (.ret (.bin (.add) (.lit (.int 1)) (.bin (.mod) (.bin (.fdiv) (.var 0) (.lit (.int 4))) (.lit (.int 9)))))))
theorem c__law_side : cSs (cS 60 { N := ["cell", "way"], sc := defScope (top 14), fns := [], cst := [], st := cellsOf (defScope (top 14)) }) (defBody (top 14)) = some s__law_side := by kernel_rfl
theorem sc__law_side : FnScope ["cell", "way"] ["cell"] (defScope (top 14)) := C8.fnScope_by (by decide +kernel)
def s__law_measure : Sx := .seq (.asg (.nm 2) (.blt (.sorted) (.cons (.lst (.cons (.blt (.abs) (.cons (.var 0) (.nil))) (.cons (.blt (.abs) (.cons (.var 1) (.nil))) (.nil)))) (.nil)))) (.seq (.whl (.cmp (.gt) (.idx (.var 2) (.lit (.int 0))) (.lit (.int 0))) (.asg (.nm 2) (.lst (.cons (.bin (.mod) (.idx (.var 2) (.lit (.int 1))) (.idx (.var 2) (.lit (.int 0)))) (.cons (.idx (.var 2) (.lit (.int 0))) (.nil)))))) (.ret (.idx (.var 2) (.lit (.int 1)))))
theorem c__law_measure : cSs (cS 60 { N := ["one", "other", "pair"], sc := defScope (top 15), fns := [], cst := [], st := cellsOf (defScope (top 15)) }) (defBody (top 15)) = some s__law_measure := by kernel_rfl
theorem sc__law_measure : FnScope ["one", "other", "pair"] ["one", "other"] (defScope (top 15)) := C8.fnScope_by (by decide +kernel)
def s__law_reduced : Sx := .seq (.asg (.nm 2) (.call 8 (.cons (.var 1) (.cons (.var 0) (.nil))) [])) (.ret (.blt (.tuple) (.cons (.comp [3] (.nm 3) (.seq) (.cons (.tup (.cons (.var 0) (.cons (.var 1) (.nil)))) (.nil)) false (.nil) (.bin (.fdiv) (.var 3) (.var 2))) (.nil))))
theorem c__law_reduced : cSs (cS 60 { N := ["top", "bottom", "size", "part"], sc := defScope (top 16), fns := [(("_law_measure", 2), (8, []))], cst := [], st := cellsOf (defScope (top 16)) }) (defBody (top 16)) = some s__law_reduced := by kernel_rfl
theorem sc__law_reduced : FnScope ["top", "bottom", "size", "part"] ["top", "bottom"] (defScope (top 16)) := C8.fnScope_by (by decide +kernel)
def s__law_point : Sx := .seq (.asg (.nm 3) (.call 8 (.cons (.var 2) (.cons (.call 8 (.cons (.var 0) (.cons (.var 1) (.nil))) []) (.nil))) [])) (.ret (.blt (.tuple) (.cons (.comp [4] (.nm 4) (.seq) (.cons (.tup (.cons (.var 0) (.cons (.var 1) (.cons (.var 2) (.nil))))) (.nil)) false (.nil) (.bin (.fdiv) (.var 4) (.var 3))) (.nil))))
theorem c__law_point : cSs (cS 60 { N := ["x", "y", "w", "size", "part"], sc := defScope (top 17), fns := [(("_law_measure", 2), (8, []))], cst := [], st := cellsOf (defScope (top 17)) }) (defBody (top 17)) = some s__law_point := by kernel_rfl
theorem sc__law_point : FnScope ["x", "y", "w", "size", "part"] ["x", "y", "w"] (defScope (top 17)) := C8.fnScope_by (by decide +kernel)
def s__law_heading : Sx := .seq (.ite (.andd (.cmp (.eq) (.var 0) (.lit (.int 0))) (.cmp (.eq) (.var 1) (.lit (.int 0)))) (.ret (.tup (.cons (.lit (.int 2)) (.cons (.lit (.int 1)) (.nil))))) (.skip)) (.ret (.call 9 (.cons (.var 0) (.cons (.var 1) (.nil))) []))
theorem c__law_heading : cSs (cS 60 { N := ["a", "b"], sc := defScope (top 18), fns := [(("_law_reduced", 2), (9, []))], cst := [], st := cellsOf (defScope (top 18)) }) (defBody (top 18)) = some s__law_heading := by kernel_rfl
theorem sc__law_heading : FnScope ["a", "b"] ["a", "b"] (defScope (top 18)) := C8.fnScope_by (by decide +kernel)
def s__law_inside : Sx := .seq (.asg (.nm 3) (.bin (.add) (.lit (.int 2)) (.blt (.abs) (.cons (.idx (.var 2) (.lit (.int 2))) (.nil))))) (.ret (.call 10 (.cons (.bin (.add) (.lit (.int 1)) (.bin (.mod) (.idx (.var 2) (.lit (.int 0))) (.bin (.sub) (.bin (.mul) (.var 0) (.var 3)) (.lit (.int 1))))) (.cons (.bin (.add) (.lit (.int 1)) (.bin (.mod) (.idx (.var 2) (.lit (.int 1))) (.bin (.sub) (.bin (.mul) (.var 1) (.var 3)) (.lit (.int 1))))) (.cons (.var 3) (.nil)))) []))
theorem c__law_inside : cSs (cS 60 { N := ["wide", "high", "some", "w"], sc := defScope (top 19), fns := [(("_law_point", 3), (10, []))], cst := [], st := cellsOf (defScope (top 19)) }) (defBody (top 19)) = some s__law_inside := by kernel_rfl
theorem sc__law_inside : FnScope ["wide", "high", "some", "w"] ["wide", "high", "some"] (defScope (top 19)) := C8.fnScope_by (by decide +kernel)
def s__law_put : Sx := .seq (.asg (.nm 5) (.bin (.mod) (.bin (.mul) (.neg (.idx (.var 3) (.lit (.int 0)))) (.idx (.var 4) (.lit (.int 0)))) (.bin (.mul) (.var 0) (.idx (.var 4) (.lit (.int 1)))))) (.seq (.asg (.nm 6) (.bin (.mod) (.bin (.mul) (.neg (.idx (.var 3) (.lit (.int 1)))) (.idx (.var 4) (.lit (.int 0)))) (.bin (.mul) (.var 1) (.idx (.var 4) (.lit (.int 1)))))) (.seq (.ite (.andd (.cmp (.gt) (.var 5) (.lit (.int 0))) (.cmp (.gt) (.var 6) (.lit (.int 0)))) (.ret (.call 10 (.cons (.var 5) (.cons (.var 6) (.cons (.idx (.var 4) (.lit (.int 1))) (.nil)))) [])) (.skip)) (.ret (.var 2))))
theorem c__law_put : cSs (cS 60 { N := ["wide", "high", "P", "heading", "t", "x", "y"], sc := defScope (top 20), fns := [(("_law_point", 3), (10, []))], cst := [], st := cellsOf (defScope (top 20)) }) (defBody (top 20)) = some s__law_put := by kernel_rfl
theorem sc__law_put : FnScope ["wide", "high", "P", "heading", "t", "x", "y"] ["wide", "high", "P", "heading", "t"] (defScope (top 20)) := C8.fnScope_by (by decide +kernel)
def s__law_is_corner : Sx := .seq (.ite (.orr (.nott (.isty (.var 4) (.tuple))) (.orr (.cmp (.ne) (.blt (.len) (.cons (.var 4) (.nil))) (.lit (.int 2))) (.orr (.nott (.call 5 (.cons (.idx (.var 4) (.lit (.int 0))) (.nil)) [])) (.nott (.call 5 (.cons (.idx (.var 4) (.lit (.int 1))) (.nil)) []))))) (.ret (.lit (.bl false))) (.skip)) (.seq (.ite (.orr (.cmp (.lt) (.idx (.var 4) (.lit (.int 0))) (.lit (.int 1))) (.orr (.cmp (.lt) (.idx (.var 4) (.lit (.int 1))) (.lit (.int 1))) (.cmp (.ne) (.call 8 (.cons (.idx (.var 4) (.lit (.int 0))) (.cons (.idx (.var 4) (.lit (.int 1))) (.nil))) []) (.lit (.int 1))))) (.ret (.lit (.bl false))) (.skip)) (.seq (.asg (.nm 5) (.bin (.mul) (.idx (.var 2) (.lit (.int 2))) (.idx (.var 4) (.lit (.int 1))))) (.seq (.asg (.nm 6) (.bin (.add) (.bin (.mul) (.idx (.var 2) (.lit (.int 0))) (.idx (.var 4) (.lit (.int 1)))) (.bin (.mul) (.bin (.mul) (.idx (.var 3) (.lit (.int 0))) (.idx (.var 4) (.lit (.int 0)))) (.idx (.var 2) (.lit (.int 2)))))) (.seq (.asg (.nm 7) (.bin (.add) (.bin (.mul) (.idx (.var 2) (.lit (.int 1))) (.idx (.var 4) (.lit (.int 1)))) (.bin (.mul) (.bin (.mul) (.idx (.var 3) (.lit (.int 1))) (.idx (.var 4) (.lit (.int 0)))) (.idx (.var 2) (.lit (.int 2)))))) (.ret (.andd (.cmp (.eq) (.bin (.mod) (.var 6) (.bin (.mul) (.var 0) (.var 5))) (.lit (.int 0))) (.cmp (.eq) (.bin (.mod) (.var 7) (.bin (.mul) (.var 1) (.var 5))) (.lit (.int 0)))))))))
theorem c__law_is_corner : cSs (cS 60 { N := ["wide", "high", "P", "heading", "t", "w", "right", "up"], sc := defScope (top 21), fns := [(("_law_is_int", 1), (5, [])), (("_law_measure", 2), (8, []))], cst := [], st := cellsOf (defScope (top 21)) }) (defBody (top 21)) = some s__law_is_corner := by kernel_rfl
theorem sc__law_is_corner : FnScope ["wide", "high", "P", "heading", "t", "w", "right", "up"] ["wide", "high", "P", "heading", "t"] (defScope (top 21)) := C8.fnScope_by (by decide +kernel)
def s__law_right : Sx := .seq (.asg (.nm 4) (.call 8 (.cons (.bin (.mul) (.var 0) (.idx (.var 3) (.lit (.int 1)))) (.cons (.bin (.mul) (.var 1) (.idx (.var 3) (.lit (.int 0)))) (.nil))) [])) (.seq (.asg (.nm 5) (.call 4 (.cons (.var 0) (.cons (.var 1) (.cons (.var 2) (.cons (.var 3) (.nil))))) [])) (.seq (.ite (.cmp (.is) (.var 5) (.lit (.non))) (.ret (.cmp (.ne) (.bin (.mod) (.bin (.sub) (.bin (.mul) (.idx (.var 3) (.lit (.int 1))) (.idx (.var 2) (.lit (.int 0)))) (.bin (.mul) (.idx (.var 3) (.lit (.int 0))) (.idx (.var 2) (.lit (.int 1))))) (.bin (.mul) (.var 4) (.idx (.var 2) (.lit (.int 2))))) (.lit (.int 0)))) (.skip)) (.seq (.ite (.nott (.call 14 (.cons (.var 0) (.cons (.var 1) (.cons (.var 2) (.cons (.var 3) (.cons (.var 5) (.nil)))))) [])) (.ret (.lit (.bl false))) (.skip)) (.ret (.cmp (.le) (.bin (.mul) (.idx (.var 5) (.lit (.int 0))) (.var 4)) (.bin (.mul) (.bin (.mul) (.var 0) (.var 1)) (.idx (.var 5) (.lit (.int 1)))))))))
theorem c__law_right : cSs (cS 60 { N := ["wide", "high", "P", "heading", "share", "found"], sc := defScope (top 22), fns := [(("_law_measure", 2), (8, [])), (("box_corner", 4), (4, [])), (("_law_is_corner", 5), (14, []))], cst := [], st := cellsOf (defScope (top 22)) }) (defBody (top 22)) = some s__law_right := by kernel_rfl
theorem sc__law_right : FnScope ["wide", "high", "P", "heading", "share", "found"] ["wide", "high", "P", "heading"] (defScope (top 22)) := C8.fnScope_by (by decide +kernel)
def s__law_any : Sx := .seq (.asg (.nm 1) (.bin (.pow) (.lit (.int 10)) (.lit (.int 59)))) (.seq (.asg (.nm 2) (.bin (.add) (.lit (.int 1)) (.bin (.mod) (.bin (.fdiv) (.idx (.var 0) (.lit (.int 0))) (.lit (.int 2))) (.bin (.sub) (.bin (.mul) (.lit (.int 10)) (.var 1)) (.lit (.int 1)))))) (.seq (.asg (.nm 3) (.bin (.add) (.lit (.int 1)) (.bin (.mod) (.idx (.var 0) (.lit (.int 1))) (.bin (.sub) (.bin (.mul) (.lit (.int 10)) (.var 1)) (.lit (.int 1)))))) (.seq (.asg (.nm 4) (.call 12 (.cons (.var 2) (.cons (.var 3) (.cons (.lst (.cons (.idx (.var 0) (.lit (.int 2))) (.cons (.idx (.var 0) (.lit (.int 3))) (.cons (.bin (.mod) (.idx (.var 0) (.lit (.int 4))) (.var 1)) (.nil))))) (.nil)))) [])) (.seq (.asg (.nm 5) (.bin (.add) (.bin (.sub) (.bin (.mod) (.idx (.var 0) (.lit (.int 5))) (.bin (.sub) (.bin (.mul) (.bin (.mul) (.lit (.int 2)) (.var 1)) (.var 1)) (.lit (.int 1)))) (.bin (.mul) (.var 1) (.var 1))) (.lit (.int 1)))) (.seq (.asg (.nm 6) (.bin (.add) (.bin (.sub) (.bin (.mod) (.idx (.var 0) (.lit (.int 6))) (.bin (.sub) (.bin (.mul) (.bin (.mul) (.lit (.int 2)) (.var 1)) (.var 1)) (.lit (.int 1)))) (.bin (.mul) (.var 1) (.var 1))) (.lit (.int 1)))) (.seq (.asg (.nm 7) (.call 9 (.cons (.bin (.add) (.lit (.int 1)) (.bin (.mod) (.idx (.var 0) (.lit (.int 7))) (.var 1))) (.cons (.bin (.add) (.lit (.int 1)) (.bin (.mod) (.idx (.var 0) (.lit (.int 8))) (.var 1))) (.nil))) [])) (.ret (.tup (.cons (.var 2) (.cons (.var 3) (.cons (.var 4) (.cons (.call 11 (.cons (.var 5) (.cons (.var 6) (.nil))) []) (.cons (.var 7) (.nil))))))))))))))
theorem c__law_any : cSs (cS 60 { N := ["cells", "great", "wide", "high", "P", "a", "b", "t"], sc := defScope (top 23), fns := [(("_law_inside", 3), (12, [])), (("_law_reduced", 2), (9, [])), (("_law_heading", 2), (11, []))], cst := [], st := cellsOf (defScope (top 23)) }) (defBody (top 23)) = some s__law_any := by kernel_rfl
theorem sc__law_any : FnScope ["cells", "great", "wide", "high", "P", "a", "b", "t"] ["cells"] (defScope (top 23)) := C8.fnScope_by (by decide +kernel)
def s__law_drawn : Sx := .seq (.asg (.nm 1) (.call 7 (.cons (.bin (.fdiv) (.idx (.var 0) (.lit (.int 0))) (.lit (.int 2))) (.nil)) [])) (.seq (.asg (.nm 2) (.call 7 (.cons (.idx (.var 0) (.lit (.int 1))) (.nil)) [])) (.seq (.asg (.nm 3) (.comp [6] (.nm 6) (.seq) (.cons (.slc (.var 0) (.cons (.lit (.int 2)) (.nil)) (.cons (.lit (.int 9)) (.nil))) (.nil)) false (.nil) (.call 6 (.cons (.var 6) (.nil)) []))) (.seq (.asg (.nm 4) (.call 12 (.cons (.var 1) (.cons (.var 2) (.cons (.var 3) (.nil)))) [])) (.seq (.asg (.nm 5) (.call 9 (.cons (.bin (.add) (.lit (.int 1)) (.blt (.abs) (.cons (.idx (.var 3) (.lit (.int 5))) (.nil)))) (.cons (.bin (.add) (.lit (.int 1)) (.blt (.abs) (.cons (.idx (.var 3) (.lit (.int 6))) (.nil)))) (.nil))) [])) (.ret (.tup (.cons (.var 1) (.cons (.var 2) (.cons (.var 4) (.cons (.call 11 (.cons (.idx (.var 3) (.lit (.int 3))) (.cons (.idx (.var 3) (.lit (.int 4))) (.nil))) []) (.cons (.var 5) (.nil))))))))))))
theorem c__law_drawn : cSs (cS 60 { N := ["cells", "wide", "high", "some", "P", "t", "cell"], sc := defScope (top 24), fns := [(("_law_side", 1), (7, [])), (("_law_inside", 3), (12, [])), (("_law_reduced", 2), (9, [])), (("_law_number", 1), (6, [])), (("_law_heading", 2), (11, []))], cst := [], st := cellsOf (defScope (top 24)) }) (defBody (top 24)) = some s__law_drawn := by kernel_rfl
theorem sc__law_drawn : FnScope ["cells", "wide", "high", "some", "P", "t", "cell"] ["cells"] (defScope (top 24)) := C8.fnScope_by (by decide +kernel)
def s_law : Sx := .seq (.asg (.nm 1) (.bin (.add) (.slc (.var 0) (.nil) (.cons (.lit (.int 63)) (.nil))) (.lst (.cons (.lit (.int 0)) (.cons (.lit (.int 0)) (.cons (.lit (.int 0)) (.cons (.lit (.int 0)) (.cons (.lit (.int 0)) (.cons (.lit (.int 0)) (.cons (.lit (.int 0)) (.cons (.lit (.int 0)) (.cons (.lit (.int 0)) (.nil))))))))))))) (.seq (.for_ (.nm 2) (.range) (.cons (.lit (.int 0)) (.cons (.bin (.sub) (.blt (.len) (.cons (.var 1) (.nil))) (.lit (.int 8))) (.cons (.lit (.int 9)) (.nil)))) (.seq (.ite (.cmp (.eq) (.bin (.mod) (.idx (.var 1) (.var 2)) (.lit (.int 2))) (.lit (.int 1))) (.asg (.tp [3, 4, 5, 6, 7]) (.call 16 (.cons (.slc (.var 1) (.cons (.var 2) (.nil)) (.cons (.bin (.add) (.var 2) (.lit (.int 9))) (.nil))) (.nil)) [])) (.asg (.tp [3, 4, 5, 6, 7]) (.call 17 (.cons (.slc (.var 1) (.cons (.var 2) (.nil)) (.cons (.bin (.add) (.var 2) (.lit (.int 9))) (.nil))) (.nil)) []))) (.seq (.ite (.nott (.call 15 (.cons (.var 3) (.cons (.var 4) (.cons (.var 5) (.cons (.var 6) (.nil))))) [])) (.ret (.lit (.bl false))) (.skip)) (.ite (.nott (.call 15 (.cons (.var 3) (.cons (.var 4) (.cons (.call 13 (.cons (.var 3) (.cons (.var 4) (.cons (.var 5) (.cons (.var 6) (.cons (.var 7) (.nil)))))) []) (.cons (.var 6) (.nil))))) [])) (.ret (.lit (.bl false))) (.skip))))) (.ret (.lit (.bl true))))
theorem c_law : cSs (cS 60 { N := ["script", "cells", "k", "wide", "high", "P", "heading", "t"], sc := defScope (top 25), fns := [(("_law_any", 1), (16, [])), (("_law_drawn", 1), (17, [])), (("_law_right", 4), (15, [])), (("_law_put", 5), (13, []))], cst := [], st := cellsOf (defScope (top 25)) }) (defBody (top 25)) = some s_law := by kernel_rfl
theorem sc_law : FnScope ["script", "cells", "k", "wide", "high", "P", "heading", "t"] ["script"] (defScope (top 25)) := C8.fnScope_by (by decide +kernel)
def B59 : Int := 10 ^ 59
abbrev Sm (x : Int) : Prop := x.natAbs.log2 < 2000
/-- the room that is asked of a box and a begin -/
structure In (u v x y w : Int) : Prop where
  hu : 0 < u
  hv : 0 < v
  hx : 0 < x
  hy : 0 < y
  hxu : x < u * w
  hyv : y < v * w
  hw : 0 < w
  lu : u.natAbs.log2 < 200
  lv : v.natAbs.log2 < 200
  lw : w.natAbs.log2 < 200
/-- a corner at the time p -/
structure Cor (u v x y w a b : Int) (p : Int × Int) : Prop where
  p1 : 0 < p.1
  p2 : 0 < p.2
  g : Int.gcd p.1 p.2 = 1
  ex : ∃ k, x * p.2 + a * p.1 * w = u * (w * p.2) * k
  ey : ∃ k, y * p.2 + b * p.1 * w = v * (w * p.2) * k
  le : p.1 * ↑(Int.gcd (u * b) (v * a)) ≤ u * v * p.2
  l1 : p.1.natAbs.log2 < 1200
  l2 : p.2.natAbs.log2 < 1200
abbrev five (q : Int × Int × (Int × Int × Int) × (Int × Int) × (Int × Int)) : Val := .tup [.int q.1, .int q.2.1, tr q.2.2.1, pr q.2.2.2.1, pr q.2.2.2.2]
def sp_divisor : Spec := fun as S => match as with
  | [.int a, .int b] => .puV S (True) (.int (Int.gcd a b))
  | _ => .no
def sp_time_of : Spec := fun as S => match as with
  | [.int a, .int b] => .puE S (b ≠ 0 ∧ b.natAbs.log2 < 8000) (pr) (fun p => IsT a b p)
  | _ => .no
def sp_look_inside : Spec := fun as S => match as with
  | [.int u, .int v, .tup [.int x, .int y, .int w]] => .puV S (0 < u ∧ 0 < v ∧ 0 < x ∧ 0 < y ∧ x < u * w ∧ y < v * w ∧ Sm u ∧ Sm v ∧ Sm w) (.non)
  | _ => .no
def sp_undone : Spec := fun as S => match as with
  | [.int e, .int o] => .puE S (0 < o ∧ Int.gcd e o = 1 ∧ e.natAbs.log2 < 1000 ∧ o.natAbs.log2 < 1000) (Val.int) (fun r => 0 ≤ r ∧ r < o ∧ ∃ k, e * r - 1 = o * k)
  | _ => .no
def sp_box_corner : Spec := fun as S => match as with
  | [.int u, .int v, .tup [.int x, .int y, .int w], .tup [.int a, .int b]] => .puO S (In u v x y w ∧ Int.gcd a b = 1 ∧ a.natAbs.log2 < 400 ∧ b.natAbs.log2 < 400) (¬(b * x - a * y).fmod (↑(Int.gcd (u * b) (v * a)) * w) = 0) (pr) (fun p => Cor u v x y w a b p)
  | _ => .no
def sp__law_is_int : Spec := fun as S => match as with
  | [.int a] => .puV S (True) (.bl true)
  | _ => .no
def sp__law_number : Spec := fun as S => match as with
  | [.int c] => .puE S (c.natAbs.log2 < 10000000) (Val.int) (fun x => -B59 ≤ x ∧ x ≤ B59)
  | _ => .no
def sp__law_side : Spec := fun as S => match as with
  | [.int c] => .puE S (c.natAbs.log2 < 10000000) (Val.int) (fun x => 1 ≤ x ∧ x ≤ 10 * B59)
  | _ => .no
def sp__law_measure : Spec := fun as S => match as with
  | [.int a, .int b] => .puV S (True) (.int (Int.gcd a b))
  | _ => .no
def sp__law_reduced : Spec := fun as S => match as with
  | [.int a, .int b] => .puV S (¬(a = 0 ∧ b = 0) ∧ a.natAbs.log2 < 1000 ∧ b.natAbs.log2 < 1000) (pr (a.fdiv ↑(Int.gcd b a), b.fdiv ↑(Int.gcd b a)))
  | _ => .no
def sp__law_point : Spec := fun as S => match as with
  | [.int x, .int y, .int w] => .puE S (0 < w ∧ w.natAbs.log2 < 8000) (tr) (fun p => IsP x y w p)
  | _ => .no
def sp__law_heading : Spec := fun as S => match as with
  | [.int a, .int b] => .puE S (a.natAbs.log2 < 399 ∧ b.natAbs.log2 < 399) (pr) (fun p => Int.gcd p.1 p.2 = 1 ∧ p.1.natAbs.log2 < 400 ∧ p.2.natAbs.log2 < 400)
  | _ => .no
def sp__law_inside : Spec := fun as S => match as with
  | [.int u, .int v, .ref q] => .puE S (0 < u ∧ 0 < v ∧ u.natAbs.log2 < 200 ∧ v.natAbs.log2 < 200 ∧ ∃ zs : List Int, S q = some (.lst (zs.map .int)) ∧ 3 ≤ zs.length ∧ (∀ z ∈ zs, z.natAbs.log2 < 10000000) ∧ ∃ z2, atI (zs.map Val.int) 2 = some (.int z2) ∧ z2.natAbs.log2 < 198) (tr) (fun p => In u v p.1 p.2.1 p.2.2 ∧ Int.gcd (Int.gcd p.1 p.2.1) p.2.2 = 1)
  | _ => .no
def sp__law_put : Spec := fun as S => match as with
  | [.int u, .int v, .tup [.int x, .int y, .int w], .tup [.int a, .int b], .tup [.int t, .int d]] => .puE S (In u v x y w ∧ a.natAbs.log2 < 400 ∧ b.natAbs.log2 < 400 ∧ 0 < d ∧ t.natAbs.log2 < 200 ∧ d.natAbs.log2 < 200) (tr) (fun p => In u v p.1 p.2.1 p.2.2)
  | _ => .no
def sp__law_is_corner : Spec := fun as S => match as with
  | [.int u, .int v, .tup [.int x, .int y, .int w], .tup [.int a, .int b], .tup [.int p, .int q]] => .puV S (In u v x y w ∧ a.natAbs.log2 < 400 ∧ b.natAbs.log2 < 400 ∧ Cor u v x y w a b (p, q)) (.bl true)
  | _ => .no
def sp__law_right : Spec := fun as S => match as with
  | [.int u, .int v, .tup [.int x, .int y, .int w], .tup [.int a, .int b]] => .puV S (In u v x y w ∧ Int.gcd a b = 1 ∧ a.natAbs.log2 < 400 ∧ b.natAbs.log2 < 400) (.bl true)
  | _ => .no
def sp__law_any : Spec := fun as S => match as with
  | [.ref r] => .puE S (∃ zs : List Int, S r = some (.lst (zs.map .int)) ∧ zs.length = 9 ∧ ∀ z ∈ zs, z.natAbs.log2 < 10000000) (five) (fun q => In q.1 q.2.1 q.2.2.1.1 q.2.2.1.2.1 q.2.2.1.2.2 ∧ Int.gcd q.2.2.2.1.1 q.2.2.2.1.2 = 1 ∧ q.2.2.2.1.1.natAbs.log2 < 400 ∧ q.2.2.2.1.2.natAbs.log2 < 400 ∧ 0 < q.2.2.2.2.2 ∧ q.2.2.2.2.1.natAbs.log2 < 200 ∧ q.2.2.2.2.2.natAbs.log2 < 200)
  | _ => .no
def sp__law_drawn : Spec := fun as S => match as with
  | [.ref r] => .puE S (∃ zs : List Int, S r = some (.lst (zs.map .int)) ∧ zs.length = 9 ∧ ∀ z ∈ zs, z.natAbs.log2 < 10000000) (five) (fun q => In q.1 q.2.1 q.2.2.1.1 q.2.2.1.2.1 q.2.2.1.2.2 ∧ Int.gcd q.2.2.2.1.1 q.2.2.2.1.2 = 1 ∧ q.2.2.2.1.1.natAbs.log2 < 400 ∧ q.2.2.2.1.2.natAbs.log2 < 400 ∧ 0 < q.2.2.2.2.2 ∧ q.2.2.2.2.1.natAbs.log2 < 200 ∧ q.2.2.2.2.2.natAbs.log2 < 200)
  | _ => .no
def sp_law : Spec := lawSpec
def T : Tb where
  fn := fun i => match i with
    | 0 => sp_divisor
    | 1 => sp_time_of
    | 2 => sp_look_inside
    | 3 => sp_undone
    | 4 => sp_box_corner
    | 5 => sp__law_is_int
    | 6 => sp__law_number
    | 7 => sp__law_side
    | 8 => sp__law_measure
    | 9 => sp__law_reduced
    | 10 => sp__law_point
    | 11 => sp__law_heading
    | 12 => sp__law_inside
    | 13 => sp__law_put
    | 14 => sp__law_is_corner
    | 15 => sp__law_right
    | 16 => sp__law_any
    | 17 => sp__law_drawn
    | 18 => sp_law
    | _ => fun _ _ => ⟨False, fun _ _ => True, fun _ _ => True⟩
  mt := fun _ _ => none
  fl := fun _ _ => false
  isc := fun _ _ => false
theorem T_0 : T.fn 0 = sp_divisor := rfl
theorem T_1 : T.fn 1 = sp_time_of := rfl
theorem T_2 : T.fn 2 = sp_look_inside := rfl
theorem T_3 : T.fn 3 = sp_undone := rfl
theorem T_4 : T.fn 4 = sp_box_corner := rfl
theorem T_5 : T.fn 5 = sp__law_is_int := rfl
theorem T_6 : T.fn 6 = sp__law_number := rfl
theorem T_7 : T.fn 7 = sp__law_side := rfl
theorem T_8 : T.fn 8 = sp__law_measure := rfl
theorem T_9 : T.fn 9 = sp__law_reduced := rfl
theorem T_10 : T.fn 10 = sp__law_point := rfl
theorem T_11 : T.fn 11 = sp__law_heading := rfl
theorem T_12 : T.fn 12 = sp__law_inside := rfl
theorem T_13 : T.fn 13 = sp__law_put := rfl
theorem T_14 : T.fn 14 = sp__law_is_corner := rfl
theorem T_15 : T.fn 15 = sp__law_right := rfl
theorem T_16 : T.fn 16 = sp__law_any := rfl
theorem T_17 : T.fn 17 = sp__law_drawn := rfl
theorem T_18 : T.fn 18 = sp_law := rfl
def call_divisor {a b : Int} {S : Store} {Q : QV} {E : Exn → Store → Prop} := wCall_puV (T := T) (f := 0) (vs := [.int a, .int b]) (S := S) (Q := Q) (E := E) rfl
def call_time_of {a b : Int} {S : Store} {Q : QV} {E : Exn → Store → Prop} := wCall_puE (T := T) (f := 1) (vs := [.int a, .int b]) (S := S) (Q := Q) (E := E) rfl
def call_look_inside {u v x y w : Int} {S : Store} {Q : QV} {E : Exn → Store → Prop} := wCall_puV (T := T) (f := 2) (vs := [.int u, .int v, .tup [.int x, .int y, .int w]]) (S := S) (Q := Q) (E := E) rfl
def call_undone {e o : Int} {S : Store} {Q : QV} {E : Exn → Store → Prop} := wCall_puE (T := T) (f := 3) (vs := [.int e, .int o]) (S := S) (Q := Q) (E := E) rfl
def call_box_corner {u v x y w a b : Int} {S : Store} {Q : QV} {E : Exn → Store → Prop} := wCall_puO (T := T) (f := 4) (vs := [.int u, .int v, .tup [.int x, .int y, .int w], .tup [.int a, .int b]]) (S := S) (Q := Q) (E := E) rfl
def call__law_is_int {a : Int} {S : Store} {Q : QV} {E : Exn → Store → Prop} := wCall_puV (T := T) (f := 5) (vs := [.int a]) (S := S) (Q := Q) (E := E) rfl
def call__law_number {c : Int} {S : Store} {Q : QV} {E : Exn → Store → Prop} := wCall_puE (T := T) (f := 6) (vs := [.int c]) (S := S) (Q := Q) (E := E) rfl
def call__law_side {c : Int} {S : Store} {Q : QV} {E : Exn → Store → Prop} := wCall_puE (T := T) (f := 7) (vs := [.int c]) (S := S) (Q := Q) (E := E) rfl
def call__law_measure {a b : Int} {S : Store} {Q : QV} {E : Exn → Store → Prop} := wCall_puV (T := T) (f := 8) (vs := [.int a, .int b]) (S := S) (Q := Q) (E := E) rfl
def call__law_reduced {a b : Int} {S : Store} {Q : QV} {E : Exn → Store → Prop} := wCall_puV (T := T) (f := 9) (vs := [.int a, .int b]) (S := S) (Q := Q) (E := E) rfl
def call__law_point {x y w : Int} {S : Store} {Q : QV} {E : Exn → Store → Prop} := wCall_puE (T := T) (f := 10) (vs := [.int x, .int y, .int w]) (S := S) (Q := Q) (E := E) rfl
def call__law_heading {a b : Int} {S : Store} {Q : QV} {E : Exn → Store → Prop} := wCall_puE (T := T) (f := 11) (vs := [.int a, .int b]) (S := S) (Q := Q) (E := E) rfl
def call__law_inside {u v : Int} {q : Addr} {S : Store} {Q : QV} {E : Exn → Store → Prop} := wCall_puE (T := T) (f := 12) (vs := [.int u, .int v, .ref q]) (S := S) (Q := Q) (E := E) rfl
def call__law_put {u v x y w a b t d : Int} {S : Store} {Q : QV} {E : Exn → Store → Prop} := wCall_puE (T := T) (f := 13) (vs := [.int u, .int v, .tup [.int x, .int y, .int w], .tup [.int a, .int b], .tup [.int t, .int d]]) (S := S) (Q := Q) (E := E) rfl
def call__law_is_corner {u v x y w a b p q : Int} {S : Store} {Q : QV} {E : Exn → Store → Prop} := wCall_puV (T := T) (f := 14) (vs := [.int u, .int v, .tup [.int x, .int y, .int w], .tup [.int a, .int b], .tup [.int p, .int q]]) (S := S) (Q := Q) (E := E) rfl
def call__law_right {u v x y w a b : Int} {S : Store} {Q : QV} {E : Exn → Store → Prop} := wCall_puV (T := T) (f := 15) (vs := [.int u, .int v, .tup [.int x, .int y, .int w], .tup [.int a, .int b]]) (S := S) (Q := Q) (E := E) rfl
def call__law_any {r : Addr} {S : Store} {Q : QV} {E : Exn → Store → Prop} := wCall_puE (T := T) (f := 16) (vs := [.ref r]) (S := S) (Q := Q) (E := E) rfl
def call__law_drawn {r : Addr} {S : Store} {Q : QV} {E : Exn → Store → Prop} := wCall_puE (T := T) (f := 17) (vs := [.ref r]) (S := S) (Q := Q) (E := E) rfl
theorem w_divisor : ∀ as S, (sp_divisor as S).pre → wS T s_divisor (startE ["one", "other", "rest"] as) S (fin (sp_divisor as S)) := by
  intro as S h
  unfold sp_divisor at h ⊢
  split at h
  · rename_i a b
    change wS T s_divisor [some (.int a), some (.int b), none] S _
    unfold s_divisor
    simp only [↓wE_lit, ↓wE_bin, ↓wE_neg, ↓wE_nott, ↓wE_cmp, ↓wE_chain, ↓wE_andd, ↓wE_orr, ↓wE_ife, ↓wE_nil, ↓wE_cons, ↓wE_tup, ↓wE_lst, ↓wE_idx, ↓wE_slc, ↓wE_fld, ↓wE_meth, ↓wE_new, ↓wE_blt, ↓wE_isty, ↓wE_iscl, ↓wT_cmp, ↓wT_chain, ↓wT_nott, ↓wT_andd, ↓wT_orr, ↓wT_ife, ↓wT_lit, ↓wT_idx, ↓wT_bin, ↓wT_meth, ↓wT_blt, ↓wT_isty, ↓wT_iscl, ↓wT_fld, ↓wT_neg, ↓wT_nil, ↓wT_cons, ↓wT_tup, ↓wT_lst, ↓wT_slc, ↓wT_new, ↓wT_comp, ↓wA_nil, ↓wA_cons, ↓wO_nil, ↓wO_cons, ↓wE_compK, ↓wE_call0, ↓wT_call0, ↓wE_v0, ↓wE_v1, ↓wE_v2, ↓wE_v3, ↓wE_v4, ↓wE_v5, ↓wE_v6, ↓wE_v7, ↓wE_v8, ↓wE_v9, ↓wE_v10, ↓wE_v11, ↓wE_v12, ↓wE_v13, ↓wE_v14, ↓wE_v15, ↓wE_v16, ↓wE_v17, ↓wE_v18, ↓wE_v19, ↓wE_v20, ↓wE_v21, ↓wE_v22, ↓wE_v23, ↓wE_v24, ↓wE_v25, ↓wE_v26, ↓wE_v27, ↓wE_v28, ↓wE_v29, ↓wT_v0, ↓wT_v1, ↓wT_v2, ↓wT_v3, ↓wT_v4, ↓wT_v5, ↓wT_v6, ↓wT_v7, ↓wT_v8, ↓wT_v9, ↓wT_v10, ↓wT_v11, ↓wT_v12, ↓wT_v13, ↓wT_v14, ↓wT_v15, ↓wT_v16, ↓wT_v17, ↓wT_v18, ↓wT_v19, ↓wT_v20, ↓wT_v21, ↓wT_v22, ↓wT_v23, ↓wT_v24, ↓wT_v25, ↓wT_v26, ↓wT_v27, ↓wT_v28, ↓wT_v29, ↓tgt_0, ↓tgt_1, ↓tgt_2, ↓tgt_3, ↓tgt_4, ↓tgt_5, ↓tgt_6, ↓tgt_7, ↓tgt_8, ↓tgt_9, ↓tgt_10, ↓tgt_11, ↓tgt_12, ↓tgt_13, ↓tgt_14, ↓tgt_15, ↓tgt_16, ↓tgt_17, ↓tgt_18, ↓tgt_19, ↓tgt_20, ↓tgt_21, ↓tgt_22, ↓tgt_23, ↓tgt_24, ↓tgt_25, ↓tgt_26, ↓tgt_27, ↓tgt_28, ↓tgt_29, ↓tgt_tn, ↓tgt_tc, ↓wS_skip, ↓wS_seqL, ↓later_at, ↓wS_asg_var, ↓wS_asg_lit, ↓wS_asg_bin, ↓wS_asg_neg, ↓wS_asg_nott, ↓wS_asg_cmp, ↓wS_asg_chain, ↓wS_asg_andd, ↓wS_asg_orr, ↓wS_asg_ife, ↓wS_asg_tup, ↓wS_asg_lst, ↓wS_asg_idx, ↓wS_asg_slc, ↓wS_asg_fld, ↓wS_asg_call, ↓wS_asg_meth, ↓wS_asg_new, ↓wS_asg_blt, ↓wS_asg_isty, ↓wS_asg_iscl, ↓wS_asg_nil, ↓wS_asg_comp, ↓nxK_at, ↓wS_asgF, ↓wS_asgI, ↓wS_augN, ↓wS_augI, ↓wS_parL, ↓wS_expr, ↓wS_bm, ↓wS_ret, ↓wS_retN, ↓wS_ite, ↓wFor_cons, ↓wFor_nil, ↓wS_for, ↓wS_brk, ↓wS_cnt, ↓wS_raise, ↓tyIs_ref, ↓opB_addL, ↓opBm_appendL, ↓setIL, ↓isL_ref, ↓ob_add, ↓ob_adds, ↓ob_addt, ↓ob_sub, ↓ob_mul, ↓ob_fdiv, ↓ob_mod, ↓ob_pow, ↓oi_abs, ↓oi_lent, ↓oi_lens, ↓oi_lenr, ↓oi_sortedr, ↓oi_tupler, ↓oi_listr, ↓oi_sumr, ↓oi_anyr, ↓oi_allr, ↓oi_mxr, ↓oi_mnr, ↓oi_lenl, ↓oi_sortedl, ↓oi_tuplel, ↓oi_listl, ↓oi_suml, ↓oi_anyl, ↓oi_alll, ↓oi_mxl, ↓oi_mnl, ↓oi_max2, ↓oi_min2, ↓oi_int, ↓oi_intb, ↓oi_tuplet, ↓oi_listt, ↓oi_str, ↓oi_divmod, ↓tru_non, ↓tru_bl, ↓tru_int, ↓tru_str, ↓tru_tup, ↓tru_ref, ↓tru_sl, ↓tyIs_non, ↓tyIs_bl, ↓tyIs_int, ↓tyIs_str, ↓tyIs_tup, ↓tyIs_sl, ↓it_t, ↓it_sr, ↓it_er, ↓it_vr, ↓it_sl, ↓it_el, ↓it_vl, ↓it_z, ↓it_1, ↓it_2, ↓it_3, ↓ltI_i, ↓tl_i, ↓optI_i, ↓osl, ↓opIx_tup, ↓opIx_ref, ↓opIx_sl, ↓atQ_0, ↓atQ_1, ↓atQ_2, ↓atQ_3, ↓getL_put, ↓getL_put_ne, ↓getL_put_ne', ↓getL_sl, ↓opC_eq_int, ↓opC_ne_int, ↓opC_eq_bl, ↓opC_ne_bl, ↓opC_eq_t2, ↓opC_ne_t2, ↓opC_eq_t3, ↓opC_eq_t32, ↓opC_ne_t32, ↓opC_ne_t3, ↓opC_lt, ↓opC_le, ↓opC_gt, ↓opC_ge, ↓opC_is, ↓opC_isnot, ↓opC_in, ↓opC_notin, ↓finpu_rt, ↓finpu_nx, ↓finpu_ex, ↓finlaw_rt, ↓finlaw_nx, ↓finlaw_ex, ↓finV_rt, ↓finV_nx, ↓finV_ex, ↓finE_rt, ↓finO_rt, ↓finO_ex, ↓finE_ex, ↓finS_rt, ↓finS_ex, ↓finR_ex, put_none, put_put, Val.isNon, intsOf, atI_0, atI_1, atI_2, atI_3, cutG_to, cutG_from, sub_refl_iff, pu_pre, puV_pre, puE_pre, puO_pre, puS_pre, puR_pre, Option.some.injEq, exists_eq_left', exists_eq_left, exists_eq, exists_eq', Val.int.injEq, Val.bl.injEq, Val.str.injEq, Val.tup.injEq, Val.ref.injEq, List.cons.injEq, List.map_cons, List.map_nil, List.length_cons, List.length_nil, List.cons_append, List.nil_append, List.append_nil, Bool.false_eq_true, if_true, if_false, ite_true, ite_false, true_and, and_true, false_and, and_false, Bool.not_true, Bool.not_false, decide_eq_true_eq, bne_iff_ne, ne_eq, beq_iff_eq, put_same, imp_false, false_implies, implies_true, reduceCtorEq, not_false_eq_true, and_self, Bool.or_false, Bool.or_true, Bool.false_or, Bool.true_or, Bool.not_eq_true, Bool.not_eq_eq_eq_not, Bool.decide_eq_false, decide_eq_false_iff_not, Bool.not_eq_true', beq_eq_false_iff_ne, bne_eq_false_iff_eq, List.isEmpty_cons, List.isEmpty_nil, Int.reduceEq, Int.reduceNe, Int.reduceLT, Int.reduceLE, Int.reduceNeg, Int.reduceAdd, Int.reduceSub, Int.reduceMul, Int.reduceToNat, Nat.reduceLT, Nat.reduceLeDiff, Nat.reducePow, Nat.reduceAdd, Nat.reduceSub, ty_bool_bool, ty_bool_int, ty_bool_tuple, ty_bool_list, ty_bool_str, ty_int_bool, ty_int_int, ty_int_tuple, ty_int_list, ty_int_str, ty_tuple_bool, ty_tuple_int, ty_tuple_tuple, ty_tuple_list, ty_tuple_str, ty_list_bool, ty_list_int, ty_list_tuple, ty_list_list, ty_list_str, ty_str_bool, ty_str_int, ty_str_tuple, ty_str_list, ty_str_str]
    refine whl_inv (fun m env S' => ∃ x y r, env = [some (.int x), some (.int y), r] ∧ S' = S ∧ m = y.natAbs ∧ Int.gcd x y = Int.gcd a b) b.natAbs ⟨a, b, none, rfl, rfl, rfl, rfl⟩ ?_
    rintro m env S' ⟨x, y, r, rfl, rfl, rfl, hg⟩
    simp only [↓wE_lit, ↓wE_bin, ↓wE_neg, ↓wE_nott, ↓wE_cmp, ↓wE_chain, ↓wE_andd, ↓wE_orr, ↓wE_ife, ↓wE_nil, ↓wE_cons, ↓wE_tup, ↓wE_lst, ↓wE_idx, ↓wE_slc, ↓wE_fld, ↓wE_meth, ↓wE_new, ↓wE_blt, ↓wE_isty, ↓wE_iscl, ↓wT_cmp, ↓wT_chain, ↓wT_nott, ↓wT_andd, ↓wT_orr, ↓wT_ife, ↓wT_lit, ↓wT_idx, ↓wT_bin, ↓wT_meth, ↓wT_blt, ↓wT_isty, ↓wT_iscl, ↓wT_fld, ↓wT_neg, ↓wT_nil, ↓wT_cons, ↓wT_tup, ↓wT_lst, ↓wT_slc, ↓wT_new, ↓wT_comp, ↓wA_nil, ↓wA_cons, ↓wO_nil, ↓wO_cons, ↓wE_compK, ↓wE_call0, ↓wT_call0, ↓wE_v0, ↓wE_v1, ↓wE_v2, ↓wE_v3, ↓wE_v4, ↓wE_v5, ↓wE_v6, ↓wE_v7, ↓wE_v8, ↓wE_v9, ↓wE_v10, ↓wE_v11, ↓wE_v12, ↓wE_v13, ↓wE_v14, ↓wE_v15, ↓wE_v16, ↓wE_v17, ↓wE_v18, ↓wE_v19, ↓wE_v20, ↓wE_v21, ↓wE_v22, ↓wE_v23, ↓wE_v24, ↓wE_v25, ↓wE_v26, ↓wE_v27, ↓wE_v28, ↓wE_v29, ↓wT_v0, ↓wT_v1, ↓wT_v2, ↓wT_v3, ↓wT_v4, ↓wT_v5, ↓wT_v6, ↓wT_v7, ↓wT_v8, ↓wT_v9, ↓wT_v10, ↓wT_v11, ↓wT_v12, ↓wT_v13, ↓wT_v14, ↓wT_v15, ↓wT_v16, ↓wT_v17, ↓wT_v18, ↓wT_v19, ↓wT_v20, ↓wT_v21, ↓wT_v22, ↓wT_v23, ↓wT_v24, ↓wT_v25, ↓wT_v26, ↓wT_v27, ↓wT_v28, ↓wT_v29, ↓tgt_0, ↓tgt_1, ↓tgt_2, ↓tgt_3, ↓tgt_4, ↓tgt_5, ↓tgt_6, ↓tgt_7, ↓tgt_8, ↓tgt_9, ↓tgt_10, ↓tgt_11, ↓tgt_12, ↓tgt_13, ↓tgt_14, ↓tgt_15, ↓tgt_16, ↓tgt_17, ↓tgt_18, ↓tgt_19, ↓tgt_20, ↓tgt_21, ↓tgt_22, ↓tgt_23, ↓tgt_24, ↓tgt_25, ↓tgt_26, ↓tgt_27, ↓tgt_28, ↓tgt_29, ↓tgt_tn, ↓tgt_tc, ↓wS_skip, ↓wS_seqL, ↓later_at, ↓wS_asg_var, ↓wS_asg_lit, ↓wS_asg_bin, ↓wS_asg_neg, ↓wS_asg_nott, ↓wS_asg_cmp, ↓wS_asg_chain, ↓wS_asg_andd, ↓wS_asg_orr, ↓wS_asg_ife, ↓wS_asg_tup, ↓wS_asg_lst, ↓wS_asg_idx, ↓wS_asg_slc, ↓wS_asg_fld, ↓wS_asg_call, ↓wS_asg_meth, ↓wS_asg_new, ↓wS_asg_blt, ↓wS_asg_isty, ↓wS_asg_iscl, ↓wS_asg_nil, ↓wS_asg_comp, ↓nxK_at, ↓wS_asgF, ↓wS_asgI, ↓wS_augN, ↓wS_augI, ↓wS_parL, ↓wS_expr, ↓wS_bm, ↓wS_ret, ↓wS_retN, ↓wS_ite, ↓wFor_cons, ↓wFor_nil, ↓wS_for, ↓wS_brk, ↓wS_cnt, ↓wS_raise, ↓tyIs_ref, ↓opB_addL, ↓opBm_appendL, ↓setIL, ↓isL_ref, ↓ob_add, ↓ob_adds, ↓ob_addt, ↓ob_sub, ↓ob_mul, ↓ob_fdiv, ↓ob_mod, ↓ob_pow, ↓oi_abs, ↓oi_lent, ↓oi_lens, ↓oi_lenr, ↓oi_sortedr, ↓oi_tupler, ↓oi_listr, ↓oi_sumr, ↓oi_anyr, ↓oi_allr, ↓oi_mxr, ↓oi_mnr, ↓oi_lenl, ↓oi_sortedl, ↓oi_tuplel, ↓oi_listl, ↓oi_suml, ↓oi_anyl, ↓oi_alll, ↓oi_mxl, ↓oi_mnl, ↓oi_max2, ↓oi_min2, ↓oi_int, ↓oi_intb, ↓oi_tuplet, ↓oi_listt, ↓oi_str, ↓oi_divmod, ↓tru_non, ↓tru_bl, ↓tru_int, ↓tru_str, ↓tru_tup, ↓tru_ref, ↓tru_sl, ↓tyIs_non, ↓tyIs_bl, ↓tyIs_int, ↓tyIs_str, ↓tyIs_tup, ↓tyIs_sl, ↓it_t, ↓it_sr, ↓it_er, ↓it_vr, ↓it_sl, ↓it_el, ↓it_vl, ↓it_z, ↓it_1, ↓it_2, ↓it_3, ↓ltI_i, ↓tl_i, ↓optI_i, ↓osl, ↓opIx_tup, ↓opIx_ref, ↓opIx_sl, ↓atQ_0, ↓atQ_1, ↓atQ_2, ↓atQ_3, ↓getL_put, ↓getL_put_ne, ↓getL_put_ne', ↓getL_sl, ↓opC_eq_int, ↓opC_ne_int, ↓opC_eq_bl, ↓opC_ne_bl, ↓opC_eq_t2, ↓opC_ne_t2, ↓opC_eq_t3, ↓opC_eq_t32, ↓opC_ne_t32, ↓opC_ne_t3, ↓opC_lt, ↓opC_le, ↓opC_gt, ↓opC_ge, ↓opC_is, ↓opC_isnot, ↓opC_in, ↓opC_notin, ↓finpu_rt, ↓finpu_nx, ↓finpu_ex, ↓finlaw_rt, ↓finlaw_nx, ↓finlaw_ex, ↓finV_rt, ↓finV_nx, ↓finV_ex, ↓finE_rt, ↓finO_rt, ↓finO_ex, ↓finE_ex, ↓finS_rt, ↓finS_ex, ↓finR_ex, put_none, put_put, Val.isNon, intsOf, atI_0, atI_1, atI_2, atI_3, cutG_to, cutG_from, sub_refl_iff, pu_pre, puV_pre, puE_pre, puO_pre, puS_pre, puR_pre, Option.some.injEq, exists_eq_left', exists_eq_left, exists_eq, exists_eq', Val.int.injEq, Val.bl.injEq, Val.str.injEq, Val.tup.injEq, Val.ref.injEq, List.cons.injEq, List.map_cons, List.map_nil, List.length_cons, List.length_nil, List.cons_append, List.nil_append, List.append_nil, Bool.false_eq_true, if_true, if_false, ite_true, ite_false, true_and, and_true, false_and, and_false, Bool.not_true, Bool.not_false, decide_eq_true_eq, bne_iff_ne, ne_eq, beq_iff_eq, put_same, imp_false, false_implies, implies_true, reduceCtorEq, not_false_eq_true, and_self, Bool.or_false, Bool.or_true, Bool.false_or, Bool.true_or, Bool.not_eq_true, Bool.not_eq_eq_eq_not, Bool.decide_eq_false, decide_eq_false_iff_not, Bool.not_eq_true', beq_eq_false_iff_ne, bne_eq_false_iff_eq, List.isEmpty_cons, List.isEmpty_nil, Int.reduceEq, Int.reduceNe, Int.reduceLT, Int.reduceLE, Int.reduceNeg, Int.reduceAdd, Int.reduceSub, Int.reduceMul, Int.reduceToNat, Nat.reduceLT, Nat.reduceLeDiff, Nat.reducePow, Nat.reduceAdd, Nat.reduceSub, ty_bool_bool, ty_bool_int, ty_bool_tuple, ty_bool_list, ty_bool_str, ty_int_bool, ty_int_int, ty_int_tuple, ty_int_list, ty_int_str, ty_tuple_bool, ty_tuple_int, ty_tuple_tuple, ty_tuple_list, ty_tuple_str, ty_list_bool, ty_list_int, ty_list_tuple, ty_list_list, ty_list_str, ty_str_bool, ty_str_int, ty_str_tuple, ty_str_list, ty_str_str]
    split
    · rename_i hy
      exact ⟨hy, _, natAbs_fmod_lt x hy, y, x.fmod y, _, ⟨rfl, rfl, rfl⟩, rfl, (gcd_fmod x y).trans hg⟩
    · rename_i hy
      have hy : y = 0 := by omega
      subst hy
      rw [← hg, Int.gcd_zero_right]
      split <;> omega
  · exact h.elim
theorem w_time_of : ∀ as S, (sp_time_of as S).pre → wS T s_time_of (startE ["top", "bottom", "share"] as) S (fin (sp_time_of as S)) := by
  intro as S h
  unfold sp_time_of at h ⊢
  split at h
  rotate_left
  · exact h.elim
  rename_i a b
  change wS T s_time_of [some (.int a), some (.int b), none] S _
  unfold s_time_of
  simp only [↓wE_lit, ↓wE_bin, ↓wE_neg, ↓wE_nott, ↓wE_cmp, ↓wE_chain, ↓wE_andd, ↓wE_orr, ↓wE_ife, ↓wE_nil, ↓wE_cons, ↓wE_tup, ↓wE_lst, ↓wE_idx, ↓wE_slc, ↓wE_fld, ↓wE_meth, ↓wE_new, ↓wE_blt, ↓wE_isty, ↓wE_iscl, ↓wT_cmp, ↓wT_chain, ↓wT_nott, ↓wT_andd, ↓wT_orr, ↓wT_ife, ↓wT_lit, ↓wT_idx, ↓wT_bin, ↓wT_meth, ↓wT_blt, ↓wT_isty, ↓wT_iscl, ↓wT_fld, ↓wT_neg, ↓wT_nil, ↓wT_cons, ↓wT_tup, ↓wT_lst, ↓wT_slc, ↓wT_new, ↓wT_comp, ↓wA_nil, ↓wA_cons, ↓wO_nil, ↓wO_cons, ↓wE_compK, ↓wE_call0, ↓wT_call0, ↓wE_v0, ↓wE_v1, ↓wE_v2, ↓wE_v3, ↓wE_v4, ↓wE_v5, ↓wE_v6, ↓wE_v7, ↓wE_v8, ↓wE_v9, ↓wE_v10, ↓wE_v11, ↓wE_v12, ↓wE_v13, ↓wE_v14, ↓wE_v15, ↓wE_v16, ↓wE_v17, ↓wE_v18, ↓wE_v19, ↓wE_v20, ↓wE_v21, ↓wE_v22, ↓wE_v23, ↓wE_v24, ↓wE_v25, ↓wE_v26, ↓wE_v27, ↓wE_v28, ↓wE_v29, ↓wT_v0, ↓wT_v1, ↓wT_v2, ↓wT_v3, ↓wT_v4, ↓wT_v5, ↓wT_v6, ↓wT_v7, ↓wT_v8, ↓wT_v9, ↓wT_v10, ↓wT_v11, ↓wT_v12, ↓wT_v13, ↓wT_v14, ↓wT_v15, ↓wT_v16, ↓wT_v17, ↓wT_v18, ↓wT_v19, ↓wT_v20, ↓wT_v21, ↓wT_v22, ↓wT_v23, ↓wT_v24, ↓wT_v25, ↓wT_v26, ↓wT_v27, ↓wT_v28, ↓wT_v29, ↓tgt_0, ↓tgt_1, ↓tgt_2, ↓tgt_3, ↓tgt_4, ↓tgt_5, ↓tgt_6, ↓tgt_7, ↓tgt_8, ↓tgt_9, ↓tgt_10, ↓tgt_11, ↓tgt_12, ↓tgt_13, ↓tgt_14, ↓tgt_15, ↓tgt_16, ↓tgt_17, ↓tgt_18, ↓tgt_19, ↓tgt_20, ↓tgt_21, ↓tgt_22, ↓tgt_23, ↓tgt_24, ↓tgt_25, ↓tgt_26, ↓tgt_27, ↓tgt_28, ↓tgt_29, ↓tgt_tn, ↓tgt_tc, ↓wS_skip, ↓wS_seqL, ↓later_at, ↓wS_asg_var, ↓wS_asg_lit, ↓wS_asg_bin, ↓wS_asg_neg, ↓wS_asg_nott, ↓wS_asg_cmp, ↓wS_asg_chain, ↓wS_asg_andd, ↓wS_asg_orr, ↓wS_asg_ife, ↓wS_asg_tup, ↓wS_asg_lst, ↓wS_asg_idx, ↓wS_asg_slc, ↓wS_asg_fld, ↓wS_asg_call, ↓wS_asg_meth, ↓wS_asg_new, ↓wS_asg_blt, ↓wS_asg_isty, ↓wS_asg_iscl, ↓wS_asg_nil, ↓wS_asg_comp, ↓nxK_at, ↓wS_asgF, ↓wS_asgI, ↓wS_augN, ↓wS_augI, ↓wS_parL, ↓wS_expr, ↓wS_bm, ↓wS_ret, ↓wS_retN, ↓wS_ite, ↓wFor_cons, ↓wFor_nil, ↓wS_for, ↓wS_brk, ↓wS_cnt, ↓wS_raise, ↓tyIs_ref, ↓opB_addL, ↓opBm_appendL, ↓setIL, ↓isL_ref, ↓ob_add, ↓ob_adds, ↓ob_addt, ↓ob_sub, ↓ob_mul, ↓ob_fdiv, ↓ob_mod, ↓ob_pow, ↓oi_abs, ↓oi_lent, ↓oi_lens, ↓oi_lenr, ↓oi_sortedr, ↓oi_tupler, ↓oi_listr, ↓oi_sumr, ↓oi_anyr, ↓oi_allr, ↓oi_mxr, ↓oi_mnr, ↓oi_lenl, ↓oi_sortedl, ↓oi_tuplel, ↓oi_listl, ↓oi_suml, ↓oi_anyl, ↓oi_alll, ↓oi_mxl, ↓oi_mnl, ↓oi_max2, ↓oi_min2, ↓oi_int, ↓oi_intb, ↓oi_tuplet, ↓oi_listt, ↓oi_str, ↓oi_divmod, ↓tru_non, ↓tru_bl, ↓tru_int, ↓tru_str, ↓tru_tup, ↓tru_ref, ↓tru_sl, ↓tyIs_non, ↓tyIs_bl, ↓tyIs_int, ↓tyIs_str, ↓tyIs_tup, ↓tyIs_sl, ↓it_t, ↓it_sr, ↓it_er, ↓it_vr, ↓it_sl, ↓it_el, ↓it_vl, ↓it_z, ↓it_1, ↓it_2, ↓it_3, ↓ltI_i, ↓tl_i, ↓optI_i, ↓osl, ↓opIx_tup, ↓opIx_ref, ↓opIx_sl, ↓atQ_0, ↓atQ_1, ↓atQ_2, ↓atQ_3, ↓getL_put, ↓getL_put_ne, ↓getL_put_ne', ↓getL_sl, ↓opC_eq_int, ↓opC_ne_int, ↓opC_eq_bl, ↓opC_ne_bl, ↓opC_eq_t2, ↓opC_ne_t2, ↓opC_eq_t3, ↓opC_eq_t32, ↓opC_ne_t32, ↓opC_ne_t3, ↓opC_lt, ↓opC_le, ↓opC_gt, ↓opC_ge, ↓opC_is, ↓opC_isnot, ↓opC_in, ↓opC_notin, ↓finpu_rt, ↓finpu_nx, ↓finpu_ex, ↓finlaw_rt, ↓finlaw_nx, ↓finlaw_ex, ↓finV_rt, ↓finV_nx, ↓finV_ex, ↓finE_rt, ↓finO_rt, ↓finO_ex, ↓finE_ex, ↓finS_rt, ↓finS_ex, ↓finR_ex, put_none, put_put, Val.isNon, intsOf, atI_0, atI_1, atI_2, atI_3, cutG_to, cutG_from, sub_refl_iff, pu_pre, puV_pre, puE_pre, puO_pre, puS_pre, puR_pre, Option.some.injEq, exists_eq_left', exists_eq_left, exists_eq, exists_eq', Val.int.injEq, Val.bl.injEq, Val.str.injEq, Val.tup.injEq, Val.ref.injEq, List.cons.injEq, List.map_cons, List.map_nil, List.length_cons, List.length_nil, List.cons_append, List.nil_append, List.append_nil, Bool.false_eq_true, if_true, if_false, ite_true, ite_false, true_and, and_true, false_and, and_false, Bool.not_true, Bool.not_false, decide_eq_true_eq, bne_iff_ne, ne_eq, beq_iff_eq, put_same, imp_false, false_implies, implies_true, reduceCtorEq, not_false_eq_true, and_self, Bool.or_false, Bool.or_true, Bool.false_or, Bool.true_or, Bool.not_eq_true, Bool.not_eq_eq_eq_not, Bool.decide_eq_false, decide_eq_false_iff_not, Bool.not_eq_true', beq_eq_false_iff_ne, bne_eq_false_iff_eq, List.isEmpty_cons, List.isEmpty_nil, Int.reduceEq, Int.reduceNe, Int.reduceLT, Int.reduceLE, Int.reduceNeg, Int.reduceAdd, Int.reduceSub, Int.reduceMul, Int.reduceToNat, Nat.reduceLT, Nat.reduceLeDiff, Nat.reducePow, Nat.reduceAdd, Nat.reduceSub, ty_bool_bool, ty_bool_int, ty_bool_tuple, ty_bool_list, ty_bool_str, ty_int_bool, ty_int_int, ty_int_tuple, ty_int_list, ty_int_str, ty_tuple_bool, ty_tuple_int, ty_tuple_tuple, ty_tuple_list, ty_tuple_str, ty_list_bool, ty_list_int, ty_list_tuple, ty_list_list, ty_list_str, ty_str_bool, ty_str_int, ty_str_tuple, ty_str_list, ty_str_str, ↓call_divisor]
  obtain ⟨hb, hl⟩ := h
  rw [if_neg hb]
  have hg := gcd_pos (a := a) hb
  have hgl := gcd_log (a := a) hb hl
  split
  · rename_i hn
    have z := isT_neg (t := a) hn
    exact ⟨⟨by omega, by rw [Int.natAbs_neg]; omega⟩, ⟨by omega, by rw [Int.natAbs_neg]; omega⟩, _, ⟨rfl, rfl⟩, z⟩
  · have z := isT_pos (t := a) (b := b) (by omega)
    exact ⟨⟨by omega, by omega⟩, ⟨by omega, by omega⟩, _, ⟨rfl, rfl⟩, z⟩
theorem w_look_inside : ∀ as S, (sp_look_inside as S).pre → wS T s_look_inside (startE ["wide", "high", "P", "x", "y", "w"] as) S (fin (sp_look_inside as S)) := by
  intro as S h
  unfold sp_look_inside at h ⊢
  split at h
  rotate_left
  · exact h.elim
  rename_i u v x y w
  change wS T s_look_inside [some (.int u), some (.int v), some (.tup [.int x, .int y, .int w]), none, none, none] S _
  unfold s_look_inside
  simp only [↓wE_lit, ↓wE_bin, ↓wE_neg, ↓wE_nott, ↓wE_cmp, ↓wE_chain, ↓wE_andd, ↓wE_orr, ↓wE_ife, ↓wE_nil, ↓wE_cons, ↓wE_tup, ↓wE_lst, ↓wE_idx, ↓wE_slc, ↓wE_fld, ↓wE_meth, ↓wE_new, ↓wE_blt, ↓wE_isty, ↓wE_iscl, ↓wT_cmp, ↓wT_chain, ↓wT_nott, ↓wT_andd, ↓wT_orr, ↓wT_ife, ↓wT_lit, ↓wT_idx, ↓wT_bin, ↓wT_meth, ↓wT_blt, ↓wT_isty, ↓wT_iscl, ↓wT_fld, ↓wT_neg, ↓wT_nil, ↓wT_cons, ↓wT_tup, ↓wT_lst, ↓wT_slc, ↓wT_new, ↓wT_comp, ↓wA_nil, ↓wA_cons, ↓wO_nil, ↓wO_cons, ↓wE_compK, ↓wE_call0, ↓wT_call0, ↓wE_v0, ↓wE_v1, ↓wE_v2, ↓wE_v3, ↓wE_v4, ↓wE_v5, ↓wE_v6, ↓wE_v7, ↓wE_v8, ↓wE_v9, ↓wE_v10, ↓wE_v11, ↓wE_v12, ↓wE_v13, ↓wE_v14, ↓wE_v15, ↓wE_v16, ↓wE_v17, ↓wE_v18, ↓wE_v19, ↓wE_v20, ↓wE_v21, ↓wE_v22, ↓wE_v23, ↓wE_v24, ↓wE_v25, ↓wE_v26, ↓wE_v27, ↓wE_v28, ↓wE_v29, ↓wT_v0, ↓wT_v1, ↓wT_v2, ↓wT_v3, ↓wT_v4, ↓wT_v5, ↓wT_v6, ↓wT_v7, ↓wT_v8, ↓wT_v9, ↓wT_v10, ↓wT_v11, ↓wT_v12, ↓wT_v13, ↓wT_v14, ↓wT_v15, ↓wT_v16, ↓wT_v17, ↓wT_v18, ↓wT_v19, ↓wT_v20, ↓wT_v21, ↓wT_v22, ↓wT_v23, ↓wT_v24, ↓wT_v25, ↓wT_v26, ↓wT_v27, ↓wT_v28, ↓wT_v29, ↓tgt_0, ↓tgt_1, ↓tgt_2, ↓tgt_3, ↓tgt_4, ↓tgt_5, ↓tgt_6, ↓tgt_7, ↓tgt_8, ↓tgt_9, ↓tgt_10, ↓tgt_11, ↓tgt_12, ↓tgt_13, ↓tgt_14, ↓tgt_15, ↓tgt_16, ↓tgt_17, ↓tgt_18, ↓tgt_19, ↓tgt_20, ↓tgt_21, ↓tgt_22, ↓tgt_23, ↓tgt_24, ↓tgt_25, ↓tgt_26, ↓tgt_27, ↓tgt_28, ↓tgt_29, ↓tgt_tn, ↓tgt_tc, ↓wS_skip, ↓wS_seqL, ↓later_at, ↓wS_asg_var, ↓wS_asg_lit, ↓wS_asg_bin, ↓wS_asg_neg, ↓wS_asg_nott, ↓wS_asg_cmp, ↓wS_asg_chain, ↓wS_asg_andd, ↓wS_asg_orr, ↓wS_asg_ife, ↓wS_asg_tup, ↓wS_asg_lst, ↓wS_asg_idx, ↓wS_asg_slc, ↓wS_asg_fld, ↓wS_asg_call, ↓wS_asg_meth, ↓wS_asg_new, ↓wS_asg_blt, ↓wS_asg_isty, ↓wS_asg_iscl, ↓wS_asg_nil, ↓wS_asg_comp, ↓nxK_at, ↓wS_asgF, ↓wS_asgI, ↓wS_augN, ↓wS_augI, ↓wS_parL, ↓wS_expr, ↓wS_bm, ↓wS_ret, ↓wS_retN, ↓wS_ite, ↓wFor_cons, ↓wFor_nil, ↓wS_for, ↓wS_brk, ↓wS_cnt, ↓wS_raise, ↓tyIs_ref, ↓opB_addL, ↓opBm_appendL, ↓setIL, ↓isL_ref, ↓ob_add, ↓ob_adds, ↓ob_addt, ↓ob_sub, ↓ob_mul, ↓ob_fdiv, ↓ob_mod, ↓ob_pow, ↓oi_abs, ↓oi_lent, ↓oi_lens, ↓oi_lenr, ↓oi_sortedr, ↓oi_tupler, ↓oi_listr, ↓oi_sumr, ↓oi_anyr, ↓oi_allr, ↓oi_mxr, ↓oi_mnr, ↓oi_lenl, ↓oi_sortedl, ↓oi_tuplel, ↓oi_listl, ↓oi_suml, ↓oi_anyl, ↓oi_alll, ↓oi_mxl, ↓oi_mnl, ↓oi_max2, ↓oi_min2, ↓oi_int, ↓oi_intb, ↓oi_tuplet, ↓oi_listt, ↓oi_str, ↓oi_divmod, ↓tru_non, ↓tru_bl, ↓tru_int, ↓tru_str, ↓tru_tup, ↓tru_ref, ↓tru_sl, ↓tyIs_non, ↓tyIs_bl, ↓tyIs_int, ↓tyIs_str, ↓tyIs_tup, ↓tyIs_sl, ↓it_t, ↓it_sr, ↓it_er, ↓it_vr, ↓it_sl, ↓it_el, ↓it_vl, ↓it_z, ↓it_1, ↓it_2, ↓it_3, ↓ltI_i, ↓tl_i, ↓optI_i, ↓osl, ↓opIx_tup, ↓opIx_ref, ↓opIx_sl, ↓atQ_0, ↓atQ_1, ↓atQ_2, ↓atQ_3, ↓getL_put, ↓getL_put_ne, ↓getL_put_ne', ↓getL_sl, ↓opC_eq_int, ↓opC_ne_int, ↓opC_eq_bl, ↓opC_ne_bl, ↓opC_eq_t2, ↓opC_ne_t2, ↓opC_eq_t3, ↓opC_eq_t32, ↓opC_ne_t32, ↓opC_ne_t3, ↓opC_lt, ↓opC_le, ↓opC_gt, ↓opC_ge, ↓opC_is, ↓opC_isnot, ↓opC_in, ↓opC_notin, ↓finpu_rt, ↓finpu_nx, ↓finpu_ex, ↓finlaw_rt, ↓finlaw_nx, ↓finlaw_ex, ↓finV_rt, ↓finV_nx, ↓finV_ex, ↓finE_rt, ↓finO_rt, ↓finO_ex, ↓finE_ex, ↓finS_rt, ↓finS_ex, ↓finR_ex, put_none, put_put, Val.isNon, intsOf, atI_0, atI_1, atI_2, atI_3, cutG_to, cutG_from, sub_refl_iff, pu_pre, puV_pre, puE_pre, puO_pre, puS_pre, puR_pre, Option.some.injEq, exists_eq_left', exists_eq_left, exists_eq, exists_eq', Val.int.injEq, Val.bl.injEq, Val.str.injEq, Val.tup.injEq, Val.ref.injEq, List.cons.injEq, List.map_cons, List.map_nil, List.length_cons, List.length_nil, List.cons_append, List.nil_append, List.append_nil, Bool.false_eq_true, if_true, if_false, ite_true, ite_false, true_and, and_true, false_and, and_false, Bool.not_true, Bool.not_false, decide_eq_true_eq, bne_iff_ne, ne_eq, beq_iff_eq, put_same, imp_false, false_implies, implies_true, reduceCtorEq, not_false_eq_true, and_self, Bool.or_false, Bool.or_true, Bool.false_or, Bool.true_or, Bool.not_eq_true, Bool.not_eq_eq_eq_not, Bool.decide_eq_false, decide_eq_false_iff_not, Bool.not_eq_true', beq_eq_false_iff_ne, bne_eq_false_iff_eq, List.isEmpty_cons, List.isEmpty_nil, Int.reduceEq, Int.reduceNe, Int.reduceLT, Int.reduceLE, Int.reduceNeg, Int.reduceAdd, Int.reduceSub, Int.reduceMul, Int.reduceToNat, Nat.reduceLT, Nat.reduceLeDiff, Nat.reducePow, Nat.reduceAdd, Nat.reduceSub, ty_bool_bool, ty_bool_int, ty_bool_tuple, ty_bool_list, ty_bool_str, ty_int_bool, ty_int_int, ty_int_tuple, ty_int_list, ty_int_str, ty_tuple_bool, ty_tuple_int, ty_tuple_tuple, ty_tuple_list, ty_tuple_str, ty_list_bool, ty_list_int, ty_list_tuple, ty_list_list, ty_list_str, ty_str_bool, ty_str_int, ty_str_tuple, ty_str_list, ty_str_str]
  obtain ⟨h1, h2, h3, h4, h5, h6, h7, h8, h9⟩ := h
  rw [if_neg (by omega), if_neg (by omega), if_neg (by omega), if_neg (by omega)]
  refine ⟨mulOk_of (by omega) (by omega), ?_⟩
  rw [if_neg (by omega)]
  refine ⟨mulOk_of (by omega) (by omega), ?_⟩
  rw [if_neg (by omega)]
  trivial
theorem In.lx {u v x y w : Int} (h : In u v x y w) : x.natAbs.log2 < 400 ∧ y.natAbs.log2 < 400 := by
  have h1 := h.hx
  have h2 := h.hxu
  have h3 := h.hy
  have h4 := h.hyv
  exact ⟨log2_lt_of (show x.natAbs ≤ (u * w).natAbs by omega) (log2_mul h.lu h.lw), log2_lt_of (show y.natAbs ≤ (v * w).natAbs by omega) (log2_mul h.lv h.lw)⟩
theorem ab_log {z : Int} {n : Nat} (h : z.natAbs.log2 < n) : (if z < 0 then -z else z).natAbs.log2 < n := by
  split
  · rw [Int.natAbs_neg]; exact h
  · exact h
/-- the divisor of both ways across -/
theorem gp {u v a b : Int} (hu : 0 < u) (hv : 0 < v) (g : Int.gcd a b = 1) : 0 < Int.gcd (u * b) (v * a) := by
  refine Nat.pos_of_ne_zero fun h => ?_
  obtain ⟨h1, h2⟩ := Int.gcd_eq_zero_iff.mp h
  have e1 : b = 0 := by rcases Int.mul_eq_zero.mp h1 with h | h <;> omega
  have e2 : a = 0 := by rcases Int.mul_eq_zero.mp h2 with h | h <;> omega
  subst e1 e2
  simp at g
theorem g_uv {u v a b : Int} (g : Int.gcd a b = 1) : (↑(Int.gcd (u * b) (v * a)) : Int) ∣ u * v := by
  have h1 : (↑(Int.gcd (u * b) (v * a)) : Int) ∣ u * v * b := Int.dvd_trans (Int.gcd_dvd_left _ _) ⟨v, by grind⟩
  have h2 : (↑(Int.gcd (u * b) (v * a)) : Int) ∣ u * v * a := Int.dvd_trans (Int.gcd_dvd_right _ _) ⟨u, by grind⟩
  have h3 := Int.dvd_coe_gcd h2 h1
  rw [Int.gcd_mul_left, g, Nat.mul_one] at h3
  exact Int.dvd_natAbs.mp h3
theorem fdiv_exact {n g : Int} (h : g ∣ n) (hg : g ≠ 0) : n.fdiv g * g = n := by
  rw [Int.fdiv_eq_ediv_of_dvd h]
  exact Int.ediv_mul_cancel h
theorem dvd_ab {g z : Int} (h : g ∣ z) : g ∣ (if z < 0 then -z else z) := by
  split
  · exact Int.dvd_neg.mpr h
  · exact h
theorem g_across {u v a b : Int} : (↑(Int.gcd (u * b) (v * a)) : Int) ∣ 2 * (v * (if a < 0 then -a else a) + u * (if b < 0 then -b else b)) := by
  have h1 := Int.gcd_dvd_left (u * b) (v * a)
  have h2 := Int.gcd_dvd_right (u * b) (v * a)
  refine Int.dvd_trans (Int.dvd_add (a := ↑(Int.gcd (u * b) (v * a))) ?_ ?_) ⟨2, Int.mul_comm _ _⟩
  · split
    · rw [Int.mul_neg]; exact Int.dvd_neg.mpr h2
    · exact h2
  · split
    · rw [Int.mul_neg]; exact Int.dvd_neg.mpr h1
    · exact h1
theorem lgo {x B : Int} {n : Nat} (hB : B.natAbs.log2 < n) (h0 : 0 ≤ x) (h1 : x ≤ B) : x.natAbs.log2 < n := log2_lt_of (show x.natAbs ≤ B.natAbs by omega) hB
/-- the pairs of the walk back -/
structure Un (e o g0 s0 g1 s1 : Int) : Prop where
  p0 : 0 < g0
  p1 : 0 ≤ g1
  c0 : ∃ k, g0 - e * s0 = o * k
  c1 : ∃ k, g1 - e * s1 = o * k
  g : Int.gcd g0 g1 = 1
  b0 : g0 ≤ o
  b1 : g1 < g0
  al : (0 ≤ s0 ∧ s1 ≤ 0 ∧ g1 * s0 - g0 * s1 = o) ∨ (s0 ≤ 0 ∧ 0 ≤ s1 ∧ g0 * s1 - g1 * s0 = o)
theorem Un.s1 {e o g0 s0 g1 s1 : Int} (h : Un e o g0 s0 g1 s1) : s1.natAbs ≤ o.natAbs := by
  have p0 := h.p0
  have p1 := h.p1
  rcases h.al with ⟨a, b, c⟩ | ⟨a, b, c⟩
  · have h1 := Int.mul_nonneg p1 a
    have h2 := Int.mul_le_mul_of_nonneg_right (show (1 : Int) ≤ g0 by omega) (show (0 : Int) ≤ -s1 by omega)
    have h3 : g0 * -s1 = -(g0 * s1) := by grind
    omega
  · have h1 := Int.mul_nonneg p1 (show (0 : Int) ≤ -s0 by omega)
    have h2 := Int.mul_le_mul_of_nonneg_right (show (1 : Int) ≤ g0 by omega) b
    have h3 : g1 * -s0 = -(g1 * s0) := by grind
    omega
theorem Un.step {e o g0 s0 g1 s1 : Int} (h : Un e o g0 s0 g1 s1) (hp : 0 < g1) : Un e o g1 s1 (g0 - g0.fdiv g1 * g1) (s0 - g0.fdiv g1 * s1) ∧ 0 ≤ g0.fdiv g1 ∧ g0.fdiv g1 ≤ o ∧ g0 - g0.fdiv g1 * g1 = g0.fmod g1 ∧ g1 ≤ o := by
  have hm := Int.mul_fdiv_add_fmod g0 g1
  have f0 := fmod_lo g0 hp
  have f1 := fmod_hi g0 hp
  have p0 := h.p0
  have hq : 0 ≤ g0.fdiv g1 := by rw [Int.fdiv_eq_ediv_of_nonneg g0 (by omega)]; exact Int.ediv_nonneg (by omega) (by omega)
  have hq2 : g0.fdiv g1 ≤ g0 := by rw [Int.fdiv_eq_ediv_of_nonneg g0 (by omega)]; exact Int.ediv_le_self g1 (by omega)
  have e1 : g0 - g0.fdiv g1 * g1 = g0.fmod g1 := by rw [Int.mul_comm (g0.fdiv g1)]; omega
  have b0 := h.b0
  have b1 := h.b1
  have hg1 : g1 ≤ o := by omega
  refine ⟨⟨hp, by omega, h.c1, ?_, ?_, hg1, by omega, ?_⟩, hq, by omega, e1, hg1⟩
  · obtain ⟨k0, h0⟩ := h.c0
    obtain ⟨k1, h1⟩ := h.c1
    refine ⟨k0 - g0.fdiv g1 * k1, ?_⟩
    generalize g0.fdiv g1 = q at *
    have : g0 - q * g1 - e * (s0 - q * s1) = (g0 - e * s0) - q * (g1 - e * s1) := by grind
    rw [this, h0, h1]
    grind
  · rw [e1, gcd_fmod]; exact h.g
  · generalize g0.fdiv g1 = q at *
    rcases h.al with ⟨a, b, c⟩ | ⟨a, b, c⟩
    · refine .inr ⟨b, ?_, ?_⟩
      · have := Int.mul_nonneg hq (show (0 : Int) ≤ -s1 by omega)
        have e : q * -s1 = -(q * s1) := by grind
        omega
      · rw [← c]; grind
    · refine .inl ⟨b, ?_, ?_⟩
      · have := Int.mul_nonneg hq b
        omega
      · rw [← c]; grind
theorem w_undone : ∀ as S, (sp_undone as S).pre → wS T s_undone (startE ["one", "other", "ahead", "now", "many", "then"] as) S (fin (sp_undone as S)) := by
  intro as S h
  unfold sp_undone at h ⊢
  split at h
  rotate_left
  · exact h.elim
  rename_i e o
  change wS T s_undone [some (.int e), some (.int o), none, none, none, none] S _
  unfold s_undone
  simp only [↓wE_lit, ↓wE_bin, ↓wE_neg, ↓wE_nott, ↓wE_cmp, ↓wE_chain, ↓wE_andd, ↓wE_orr, ↓wE_ife, ↓wE_nil, ↓wE_cons, ↓wE_tup, ↓wE_lst, ↓wE_idx, ↓wE_slc, ↓wE_fld, ↓wE_meth, ↓wE_new, ↓wE_blt, ↓wE_isty, ↓wE_iscl, ↓wT_cmp, ↓wT_chain, ↓wT_nott, ↓wT_andd, ↓wT_orr, ↓wT_ife, ↓wT_lit, ↓wT_idx, ↓wT_bin, ↓wT_meth, ↓wT_blt, ↓wT_isty, ↓wT_iscl, ↓wT_fld, ↓wT_neg, ↓wT_nil, ↓wT_cons, ↓wT_tup, ↓wT_lst, ↓wT_slc, ↓wT_new, ↓wT_comp, ↓wA_nil, ↓wA_cons, ↓wO_nil, ↓wO_cons, ↓wE_compK, ↓wE_call0, ↓wT_call0, ↓wE_v0, ↓wE_v1, ↓wE_v2, ↓wE_v3, ↓wE_v4, ↓wE_v5, ↓wE_v6, ↓wE_v7, ↓wE_v8, ↓wE_v9, ↓wE_v10, ↓wE_v11, ↓wE_v12, ↓wE_v13, ↓wE_v14, ↓wE_v15, ↓wE_v16, ↓wE_v17, ↓wE_v18, ↓wE_v19, ↓wE_v20, ↓wE_v21, ↓wE_v22, ↓wE_v23, ↓wE_v24, ↓wE_v25, ↓wE_v26, ↓wE_v27, ↓wE_v28, ↓wE_v29, ↓wT_v0, ↓wT_v1, ↓wT_v2, ↓wT_v3, ↓wT_v4, ↓wT_v5, ↓wT_v6, ↓wT_v7, ↓wT_v8, ↓wT_v9, ↓wT_v10, ↓wT_v11, ↓wT_v12, ↓wT_v13, ↓wT_v14, ↓wT_v15, ↓wT_v16, ↓wT_v17, ↓wT_v18, ↓wT_v19, ↓wT_v20, ↓wT_v21, ↓wT_v22, ↓wT_v23, ↓wT_v24, ↓wT_v25, ↓wT_v26, ↓wT_v27, ↓wT_v28, ↓wT_v29, ↓tgt_0, ↓tgt_1, ↓tgt_2, ↓tgt_3, ↓tgt_4, ↓tgt_5, ↓tgt_6, ↓tgt_7, ↓tgt_8, ↓tgt_9, ↓tgt_10, ↓tgt_11, ↓tgt_12, ↓tgt_13, ↓tgt_14, ↓tgt_15, ↓tgt_16, ↓tgt_17, ↓tgt_18, ↓tgt_19, ↓tgt_20, ↓tgt_21, ↓tgt_22, ↓tgt_23, ↓tgt_24, ↓tgt_25, ↓tgt_26, ↓tgt_27, ↓tgt_28, ↓tgt_29, ↓tgt_tn, ↓tgt_tc, ↓wS_skip, ↓wS_seqL, ↓later_at, ↓wS_asg_var, ↓wS_asg_lit, ↓wS_asg_bin, ↓wS_asg_neg, ↓wS_asg_nott, ↓wS_asg_cmp, ↓wS_asg_chain, ↓wS_asg_andd, ↓wS_asg_orr, ↓wS_asg_ife, ↓wS_asg_tup, ↓wS_asg_lst, ↓wS_asg_idx, ↓wS_asg_slc, ↓wS_asg_fld, ↓wS_asg_call, ↓wS_asg_meth, ↓wS_asg_new, ↓wS_asg_blt, ↓wS_asg_isty, ↓wS_asg_iscl, ↓wS_asg_nil, ↓wS_asg_comp, ↓nxK_at, ↓wS_asgF, ↓wS_asgI, ↓wS_augN, ↓wS_augI, ↓wS_parL, ↓wS_expr, ↓wS_bm, ↓wS_ret, ↓wS_retN, ↓wS_ite, ↓wFor_cons, ↓wFor_nil, ↓wS_for, ↓wS_brk, ↓wS_cnt, ↓wS_raise, ↓tyIs_ref, ↓opB_addL, ↓opBm_appendL, ↓setIL, ↓isL_ref, ↓ob_add, ↓ob_adds, ↓ob_addt, ↓ob_sub, ↓ob_mul, ↓ob_fdiv, ↓ob_mod, ↓ob_pow, ↓oi_abs, ↓oi_lent, ↓oi_lens, ↓oi_lenr, ↓oi_sortedr, ↓oi_tupler, ↓oi_listr, ↓oi_sumr, ↓oi_anyr, ↓oi_allr, ↓oi_mxr, ↓oi_mnr, ↓oi_lenl, ↓oi_sortedl, ↓oi_tuplel, ↓oi_listl, ↓oi_suml, ↓oi_anyl, ↓oi_alll, ↓oi_mxl, ↓oi_mnl, ↓oi_max2, ↓oi_min2, ↓oi_int, ↓oi_intb, ↓oi_tuplet, ↓oi_listt, ↓oi_str, ↓oi_divmod, ↓tru_non, ↓tru_bl, ↓tru_int, ↓tru_str, ↓tru_tup, ↓tru_ref, ↓tru_sl, ↓tyIs_non, ↓tyIs_bl, ↓tyIs_int, ↓tyIs_str, ↓tyIs_tup, ↓tyIs_sl, ↓it_t, ↓it_sr, ↓it_er, ↓it_vr, ↓it_sl, ↓it_el, ↓it_vl, ↓it_z, ↓it_1, ↓it_2, ↓it_3, ↓ltI_i, ↓tl_i, ↓optI_i, ↓osl, ↓opIx_tup, ↓opIx_ref, ↓opIx_sl, ↓atQ_0, ↓atQ_1, ↓atQ_2, ↓atQ_3, ↓getL_put, ↓getL_put_ne, ↓getL_put_ne', ↓getL_sl, ↓opC_eq_int, ↓opC_ne_int, ↓opC_eq_bl, ↓opC_ne_bl, ↓opC_eq_t2, ↓opC_ne_t2, ↓opC_eq_t3, ↓opC_eq_t32, ↓opC_ne_t32, ↓opC_ne_t3, ↓opC_lt, ↓opC_le, ↓opC_gt, ↓opC_ge, ↓opC_is, ↓opC_isnot, ↓opC_in, ↓opC_notin, ↓finpu_rt, ↓finpu_nx, ↓finpu_ex, ↓finlaw_rt, ↓finlaw_nx, ↓finlaw_ex, ↓finV_rt, ↓finV_nx, ↓finV_ex, ↓finE_rt, ↓finO_rt, ↓finO_ex, ↓finE_ex, ↓finS_rt, ↓finS_ex, ↓finR_ex, put_none, put_put, Val.isNon, intsOf, atI_0, atI_1, atI_2, atI_3, cutG_to, cutG_from, sub_refl_iff, pu_pre, puV_pre, puE_pre, puO_pre, puS_pre, puR_pre, Option.some.injEq, exists_eq_left', exists_eq_left, exists_eq, exists_eq', Val.int.injEq, Val.bl.injEq, Val.str.injEq, Val.tup.injEq, Val.ref.injEq, List.cons.injEq, List.map_cons, List.map_nil, List.length_cons, List.length_nil, List.cons_append, List.nil_append, List.append_nil, Bool.false_eq_true, if_true, if_false, ite_true, ite_false, true_and, and_true, false_and, and_false, Bool.not_true, Bool.not_false, decide_eq_true_eq, bne_iff_ne, ne_eq, beq_iff_eq, put_same, imp_false, false_implies, implies_true, reduceCtorEq, not_false_eq_true, and_self, Bool.or_false, Bool.or_true, Bool.false_or, Bool.true_or, Bool.not_eq_true, Bool.not_eq_eq_eq_not, Bool.decide_eq_false, decide_eq_false_iff_not, Bool.not_eq_true', beq_eq_false_iff_ne, bne_eq_false_iff_eq, List.isEmpty_cons, List.isEmpty_nil, Int.reduceEq, Int.reduceNe, Int.reduceLT, Int.reduceLE, Int.reduceNeg, Int.reduceAdd, Int.reduceSub, Int.reduceMul, Int.reduceToNat, Nat.reduceLT, Nat.reduceLeDiff, Nat.reducePow, Nat.reduceAdd, Nat.reduceSub, ty_bool_bool, ty_bool_int, ty_bool_tuple, ty_bool_list, ty_bool_str, ty_int_bool, ty_int_int, ty_int_tuple, ty_int_list, ty_int_str, ty_tuple_bool, ty_tuple_int, ty_tuple_tuple, ty_tuple_list, ty_tuple_str, ty_list_bool, ty_list_int, ty_list_tuple, ty_list_list, ty_list_str, ty_str_bool, ty_str_int, ty_str_tuple, ty_str_list, ty_str_str]
  obtain ⟨ho, hg, le, lo⟩ := h
  have i0 := fmod_lo e ho
  have i1 := fmod_hi e ho
  refine ⟨by omega, ?_⟩
  have start : Un e o o 0 (e.fmod o) 1 := ⟨ho, i0, ⟨1, by grind⟩, ⟨-e.fdiv o, by rw [Int.fmod_def]; grind⟩, by rw [gcd_fmod]; exact hg, by omega, i1, .inr ⟨by decide, by decide, by grind⟩⟩
  refine whl_inv (fun m env S' => ∃ g0 s0 g1 s1 x y, env = [some (.int e), some (.int o), some (.tup [.int g0, .int s0]), some (.tup [.int g1, .int s1]), x, y] ∧ S' = S ∧ m = g1.natAbs ∧ Un e o g0 s0 g1 s1) _ ⟨o, 0, e.fmod o, 1, _, _, rfl, rfl, rfl, start⟩ ?_
  rintro m env S' ⟨g0, s0, g1, s1, x, y, rfl, rfl, rfl, hU⟩
  simp only [↓wE_lit, ↓wE_bin, ↓wE_neg, ↓wE_nott, ↓wE_cmp, ↓wE_chain, ↓wE_andd, ↓wE_orr, ↓wE_ife, ↓wE_nil, ↓wE_cons, ↓wE_tup, ↓wE_lst, ↓wE_idx, ↓wE_slc, ↓wE_fld, ↓wE_meth, ↓wE_new, ↓wE_blt, ↓wE_isty, ↓wE_iscl, ↓wT_cmp, ↓wT_chain, ↓wT_nott, ↓wT_andd, ↓wT_orr, ↓wT_ife, ↓wT_lit, ↓wT_idx, ↓wT_bin, ↓wT_meth, ↓wT_blt, ↓wT_isty, ↓wT_iscl, ↓wT_fld, ↓wT_neg, ↓wT_nil, ↓wT_cons, ↓wT_tup, ↓wT_lst, ↓wT_slc, ↓wT_new, ↓wT_comp, ↓wA_nil, ↓wA_cons, ↓wO_nil, ↓wO_cons, ↓wE_compK, ↓wE_call0, ↓wT_call0, ↓wE_v0, ↓wE_v1, ↓wE_v2, ↓wE_v3, ↓wE_v4, ↓wE_v5, ↓wE_v6, ↓wE_v7, ↓wE_v8, ↓wE_v9, ↓wE_v10, ↓wE_v11, ↓wE_v12, ↓wE_v13, ↓wE_v14, ↓wE_v15, ↓wE_v16, ↓wE_v17, ↓wE_v18, ↓wE_v19, ↓wE_v20, ↓wE_v21, ↓wE_v22, ↓wE_v23, ↓wE_v24, ↓wE_v25, ↓wE_v26, ↓wE_v27, ↓wE_v28, ↓wE_v29, ↓wT_v0, ↓wT_v1, ↓wT_v2, ↓wT_v3, ↓wT_v4, ↓wT_v5, ↓wT_v6, ↓wT_v7, ↓wT_v8, ↓wT_v9, ↓wT_v10, ↓wT_v11, ↓wT_v12, ↓wT_v13, ↓wT_v14, ↓wT_v15, ↓wT_v16, ↓wT_v17, ↓wT_v18, ↓wT_v19, ↓wT_v20, ↓wT_v21, ↓wT_v22, ↓wT_v23, ↓wT_v24, ↓wT_v25, ↓wT_v26, ↓wT_v27, ↓wT_v28, ↓wT_v29, ↓tgt_0, ↓tgt_1, ↓tgt_2, ↓tgt_3, ↓tgt_4, ↓tgt_5, ↓tgt_6, ↓tgt_7, ↓tgt_8, ↓tgt_9, ↓tgt_10, ↓tgt_11, ↓tgt_12, ↓tgt_13, ↓tgt_14, ↓tgt_15, ↓tgt_16, ↓tgt_17, ↓tgt_18, ↓tgt_19, ↓tgt_20, ↓tgt_21, ↓tgt_22, ↓tgt_23, ↓tgt_24, ↓tgt_25, ↓tgt_26, ↓tgt_27, ↓tgt_28, ↓tgt_29, ↓tgt_tn, ↓tgt_tc, ↓wS_skip, ↓wS_seqL, ↓later_at, ↓wS_asg_var, ↓wS_asg_lit, ↓wS_asg_bin, ↓wS_asg_neg, ↓wS_asg_nott, ↓wS_asg_cmp, ↓wS_asg_chain, ↓wS_asg_andd, ↓wS_asg_orr, ↓wS_asg_ife, ↓wS_asg_tup, ↓wS_asg_lst, ↓wS_asg_idx, ↓wS_asg_slc, ↓wS_asg_fld, ↓wS_asg_call, ↓wS_asg_meth, ↓wS_asg_new, ↓wS_asg_blt, ↓wS_asg_isty, ↓wS_asg_iscl, ↓wS_asg_nil, ↓wS_asg_comp, ↓nxK_at, ↓wS_asgF, ↓wS_asgI, ↓wS_augN, ↓wS_augI, ↓wS_parL, ↓wS_expr, ↓wS_bm, ↓wS_ret, ↓wS_retN, ↓wS_ite, ↓wFor_cons, ↓wFor_nil, ↓wS_for, ↓wS_brk, ↓wS_cnt, ↓wS_raise, ↓tyIs_ref, ↓opB_addL, ↓opBm_appendL, ↓setIL, ↓isL_ref, ↓ob_add, ↓ob_adds, ↓ob_addt, ↓ob_sub, ↓ob_mul, ↓ob_fdiv, ↓ob_mod, ↓ob_pow, ↓oi_abs, ↓oi_lent, ↓oi_lens, ↓oi_lenr, ↓oi_sortedr, ↓oi_tupler, ↓oi_listr, ↓oi_sumr, ↓oi_anyr, ↓oi_allr, ↓oi_mxr, ↓oi_mnr, ↓oi_lenl, ↓oi_sortedl, ↓oi_tuplel, ↓oi_listl, ↓oi_suml, ↓oi_anyl, ↓oi_alll, ↓oi_mxl, ↓oi_mnl, ↓oi_max2, ↓oi_min2, ↓oi_int, ↓oi_intb, ↓oi_tuplet, ↓oi_listt, ↓oi_str, ↓oi_divmod, ↓tru_non, ↓tru_bl, ↓tru_int, ↓tru_str, ↓tru_tup, ↓tru_ref, ↓tru_sl, ↓tyIs_non, ↓tyIs_bl, ↓tyIs_int, ↓tyIs_str, ↓tyIs_tup, ↓tyIs_sl, ↓it_t, ↓it_sr, ↓it_er, ↓it_vr, ↓it_sl, ↓it_el, ↓it_vl, ↓it_z, ↓it_1, ↓it_2, ↓it_3, ↓ltI_i, ↓tl_i, ↓optI_i, ↓osl, ↓opIx_tup, ↓opIx_ref, ↓opIx_sl, ↓atQ_0, ↓atQ_1, ↓atQ_2, ↓atQ_3, ↓getL_put, ↓getL_put_ne, ↓getL_put_ne', ↓getL_sl, ↓opC_eq_int, ↓opC_ne_int, ↓opC_eq_bl, ↓opC_ne_bl, ↓opC_eq_t2, ↓opC_ne_t2, ↓opC_eq_t3, ↓opC_eq_t32, ↓opC_ne_t32, ↓opC_ne_t3, ↓opC_lt, ↓opC_le, ↓opC_gt, ↓opC_ge, ↓opC_is, ↓opC_isnot, ↓opC_in, ↓opC_notin, ↓finpu_rt, ↓finpu_nx, ↓finpu_ex, ↓finlaw_rt, ↓finlaw_nx, ↓finlaw_ex, ↓finV_rt, ↓finV_nx, ↓finV_ex, ↓finE_rt, ↓finO_rt, ↓finO_ex, ↓finE_ex, ↓finS_rt, ↓finS_ex, ↓finR_ex, put_none, put_put, Val.isNon, intsOf, atI_0, atI_1, atI_2, atI_3, cutG_to, cutG_from, sub_refl_iff, pu_pre, puV_pre, puE_pre, puO_pre, puS_pre, puR_pre, Option.some.injEq, exists_eq_left', exists_eq_left, exists_eq, exists_eq', Val.int.injEq, Val.bl.injEq, Val.str.injEq, Val.tup.injEq, Val.ref.injEq, List.cons.injEq, List.map_cons, List.map_nil, List.length_cons, List.length_nil, List.cons_append, List.nil_append, List.append_nil, Bool.false_eq_true, if_true, if_false, ite_true, ite_false, true_and, and_true, false_and, and_false, Bool.not_true, Bool.not_false, decide_eq_true_eq, bne_iff_ne, ne_eq, beq_iff_eq, put_same, imp_false, false_implies, implies_true, reduceCtorEq, not_false_eq_true, and_self, Bool.or_false, Bool.or_true, Bool.false_or, Bool.true_or, Bool.not_eq_true, Bool.not_eq_eq_eq_not, Bool.decide_eq_false, decide_eq_false_iff_not, Bool.not_eq_true', beq_eq_false_iff_ne, bne_eq_false_iff_eq, List.isEmpty_cons, List.isEmpty_nil, Int.reduceEq, Int.reduceNe, Int.reduceLT, Int.reduceLE, Int.reduceNeg, Int.reduceAdd, Int.reduceSub, Int.reduceMul, Int.reduceToNat, Nat.reduceLT, Nat.reduceLeDiff, Nat.reducePow, Nat.reduceAdd, Nat.reduceSub, ty_bool_bool, ty_bool_int, ty_bool_tuple, ty_bool_list, ty_bool_str, ty_int_bool, ty_int_int, ty_int_tuple, ty_int_list, ty_int_str, ty_tuple_bool, ty_tuple_int, ty_tuple_tuple, ty_tuple_list, ty_tuple_str, ty_list_bool, ty_list_int, ty_list_tuple, ty_list_list, ty_list_str, ty_str_bool, ty_str_int, ty_str_tuple, ty_str_list, ty_str_str]
  have hs := hU.s1
  split
  · rename_i hp
    obtain ⟨hU2, q0, q1, e1, q2⟩ := hU.step hp
    have l1 := lgo lo (show 0 ≤ g1 by omega) q2
    have l2 := lgo lo q0 q1
    have l3 := log2_lt_of hs lo
    have hf := natAbs_fmod_lt g0 (show g1 ≠ 0 by omega)
    exact ⟨⟨by omega, by omega⟩, mulOk_of (by omega) (by omega), mulOk_of (by omega) (by omega), (g0 - g0.fdiv g1 * g1).natAbs, by rw [e1]; exact hf, g1, s1, _, _, _, _, ⟨⟨rfl, rfl⟩, ⟨rfl, rfl⟩, rfl, rfl⟩, rfl, hU2⟩
  · rename_i hp
    have z : g1 = 0 := by have := hU.p1; omega
    subst z
    have hg := hU.g
    rw [Int.gcd_zero_right] at hg
    have p0 := hU.p0
    have g1 : g0 = 1 := by omega
    subst g1
    obtain ⟨k, hk⟩ := hU.c0
    have hm := Int.mul_fdiv_add_fmod s0 o
    refine ⟨by omega, fmod_lo s0 ho, fmod_hi s0 ho, -k - e * s0.fdiv o, ?_⟩
    have e1 : s0.fmod o = s0 - o * s0.fdiv o := by omega
    rw [e1]
    have : e * (s0 - o * s0.fdiv o) - 1 = -(1 - e * s0) - o * (e * s0.fdiv o) := by grind
    rw [this, hk]
    grind
theorem cor_math {u v x y w a b g α β m c r j j2 tn L e1 e2 k R f1 f2 : Int} (hx : 0 < x) (hxu : x < u * w) (hu : 0 < u) (hw : 0 < w) (hg : 0 < g) (ha : a ≠ 0) (hβ : u * b = g * β) (hα : v * a = g * α) (hoff : b * x - a * y = g * w * m) (hc : α = c ∨ α = -c) (hr : β * r - 1 = c * j) (htn : tn = m * r - c * j2)
    (hL : u * v = g * L) (hL0 : 0 < L) (he2 : 0 < e2) (he : e1 * (a * w) = (tn * u * w - x) * e2) (hR : R = e1 - L * e2 * k) (R0 : 0 ≤ R) (R1 : R < L * e2) (hf2 : 0 < f2) (hf : f1 * e2 = R * f2) :
    0 < f1 ∧ (∃ k, x * f2 + a * f1 * w = u * (w * f2) * k) ∧ (∃ k, y * f2 + b * f1 * w = v * (w * f2) * k) ∧ f1 * g ≤ u * v * f2 := by
  have aL : a * L = u * α := by
    refine Int.eq_of_mul_eq_mul_left (show g ≠ 0 by omega) ?_
    rw [show g * (a * L) = a * (g * L) by grind, ← hL, show g * (u * α) = u * (g * α) by grind, ← hα]
    grind
  have awR : a * w * R = (tn * u * w - x) * e2 - w * (u * α) * e2 * k := by
    rw [hR, show a * w * (e1 - L * e2 * k) = e1 * (a * w) - w * (a * L) * e2 * k by grind, he, aL]
  have ex : x * f2 + a * f1 * w = u * (w * f2) * (tn - α * k) := by
    refine Int.eq_of_mul_eq_mul_right (show e2 ≠ 0 by omega) ?_
    rw [show (x * f2 + a * f1 * w) * e2 = x * f2 * e2 + a * w * (f1 * e2) by grind, hf, show x * f2 * e2 + a * w * (R * f2) = f2 * (x * e2 + a * w * R) by grind, awR]
    grind
  have hn : ∃ n, β * tn - m = α * n := by
    have e0 : β * tn - m = c * (m * j - β * j2) := by
      rw [htn, show β * (m * r - c * j2) - m = m * (β * r - 1) - β * c * j2 by grind, hr]
      grind
    rcases hc with h | h
    · exact ⟨m * j - β * j2, by rw [e0, h]⟩
    · exact ⟨-(m * j - β * j2), by rw [e0, h]; grind⟩
  obtain ⟨n, hn⟩ := hn
  have ey : y * f2 + b * f1 * w = v * (w * f2) * (n - β * k) := by
    refine Int.eq_of_mul_eq_mul_right (show e2 ≠ 0 by omega) ?_
    refine Int.eq_of_mul_eq_mul_left ha ?_
    have s1 : a * ((y * f2 + b * f1 * w) * e2) = f2 * (a * y * e2) + b * (a * w) * (f1 * e2) := by grind
    have s2 : f2 * (a * y * e2) + b * (a * w) * (R * f2) = f2 * (a * y * e2 + b * (a * w * R)) := by grind
    have s3 : a * y * e2 + b * ((tn * u * w - x) * e2 - w * (u * α) * e2 * k) = e2 * (w * (u * b) * tn - (b * x - a * y) - w * (u * b) * α * k) := by grind
    have s4 : e2 * (w * (g * β) * tn - g * w * m - w * (g * β) * α * k) = e2 * w * g * ((β * tn - m) - β * α * k) := by grind
    have s5 : e2 * w * g * (α * n - β * α * k) = e2 * w * (g * α) * (n - β * k) := by grind
    rw [s1, hf, s2, awR, s3, hβ, hoff, s4, hn, s5, ← hα]
    grind
  have f0 : 0 ≤ f1 := by
    rcases (by omega : f1 < 0 ∨ 0 ≤ f1) with h | h
    · have h1 := Int.mul_neg_of_neg_of_pos h he2
      have h2 := Int.mul_nonneg R0 (show (0 : Int) ≤ f2 by omega)
      omega
    · exact h
  have fn : f1 ≠ 0 := by
    rintro rfl
    have e3 : x = u * w * (tn - α * k) := by
      refine Int.eq_of_mul_eq_mul_right (show f2 ≠ 0 by omega) ?_
      have : x * f2 + a * 0 * w = x * f2 := by grind
      rw [← this, ex]
      grind
    have huw := Int.mul_pos hu hw
    generalize tn - α * k = z at *
    rcases (by omega : z ≤ 0 ∨ 1 ≤ z) with h | h
    · have := Int.mul_nonneg (show (0 : Int) ≤ u * w by omega) (show (0 : Int) ≤ -z by omega)
      have e : u * w * -z = -(u * w * z) := by grind
      omega
    · have := Int.mul_le_mul_of_nonneg_left h (show (0 : Int) ≤ u * w by omega)
      omega
  refine ⟨by omega, ⟨_, ex⟩, ⟨_, ey⟩, ?_⟩
  have l1 : f1 ≤ L * f2 := by
    rcases (by omega : f1 ≤ L * f2 ∨ L * f2 < f1) with h | h
    · exact h
    · have h1 := Int.mul_lt_mul_of_pos_right h he2
      have h2 := Int.mul_lt_mul_of_pos_right R1 hf2
      have h3 : L * f2 * e2 = L * e2 * f2 := by grind
      omega
  have l2 := Int.mul_le_mul_of_nonneg_right l1 (show (0 : Int) ≤ g by omega)
  rw [hL]
  have : L * f2 * g = g * L * f2 := by grind
  omega
theorem w_box_corner : ∀ as S, (sp_box_corner as S).pre → wS T s_box_corner (startE ["wide", "high", "P", "heading", "x", "y", "w", "a", "b", "share", "off", "cycle", "turns", "early"] as) S (fin (sp_box_corner as S)) := by
  intro as S h
  unfold sp_box_corner at h ⊢
  split at h
  rotate_left
  · exact h.elim
  rename_i u v x y w a b
  change wS T s_box_corner [some (.int u), some (.int v), some (.tup [.int x, .int y, .int w]), some (.tup [.int a, .int b]), none, none, none, none, none, none, none, none, none, none] S _
  unfold s_box_corner
  simp only [↓wE_lit, ↓wE_bin, ↓wE_neg, ↓wE_nott, ↓wE_cmp, ↓wE_chain, ↓wE_andd, ↓wE_orr, ↓wE_ife, ↓wE_nil, ↓wE_cons, ↓wE_tup, ↓wE_lst, ↓wE_idx, ↓wE_slc, ↓wE_fld, ↓wE_meth, ↓wE_new, ↓wE_blt, ↓wE_isty, ↓wE_iscl, ↓wT_cmp, ↓wT_chain, ↓wT_nott, ↓wT_andd, ↓wT_orr, ↓wT_ife, ↓wT_lit, ↓wT_idx, ↓wT_bin, ↓wT_meth, ↓wT_blt, ↓wT_isty, ↓wT_iscl, ↓wT_fld, ↓wT_neg, ↓wT_nil, ↓wT_cons, ↓wT_tup, ↓wT_lst, ↓wT_slc, ↓wT_new, ↓wT_comp, ↓wA_nil, ↓wA_cons, ↓wO_nil, ↓wO_cons, ↓wE_compK, ↓wE_call0, ↓wT_call0, ↓wE_v0, ↓wE_v1, ↓wE_v2, ↓wE_v3, ↓wE_v4, ↓wE_v5, ↓wE_v6, ↓wE_v7, ↓wE_v8, ↓wE_v9, ↓wE_v10, ↓wE_v11, ↓wE_v12, ↓wE_v13, ↓wE_v14, ↓wE_v15, ↓wE_v16, ↓wE_v17, ↓wE_v18, ↓wE_v19, ↓wE_v20, ↓wE_v21, ↓wE_v22, ↓wE_v23, ↓wE_v24, ↓wE_v25, ↓wE_v26, ↓wE_v27, ↓wE_v28, ↓wE_v29, ↓wT_v0, ↓wT_v1, ↓wT_v2, ↓wT_v3, ↓wT_v4, ↓wT_v5, ↓wT_v6, ↓wT_v7, ↓wT_v8, ↓wT_v9, ↓wT_v10, ↓wT_v11, ↓wT_v12, ↓wT_v13, ↓wT_v14, ↓wT_v15, ↓wT_v16, ↓wT_v17, ↓wT_v18, ↓wT_v19, ↓wT_v20, ↓wT_v21, ↓wT_v22, ↓wT_v23, ↓wT_v24, ↓wT_v25, ↓wT_v26, ↓wT_v27, ↓wT_v28, ↓wT_v29, ↓tgt_0, ↓tgt_1, ↓tgt_2, ↓tgt_3, ↓tgt_4, ↓tgt_5, ↓tgt_6, ↓tgt_7, ↓tgt_8, ↓tgt_9, ↓tgt_10, ↓tgt_11, ↓tgt_12, ↓tgt_13, ↓tgt_14, ↓tgt_15, ↓tgt_16, ↓tgt_17, ↓tgt_18, ↓tgt_19, ↓tgt_20, ↓tgt_21, ↓tgt_22, ↓tgt_23, ↓tgt_24, ↓tgt_25, ↓tgt_26, ↓tgt_27, ↓tgt_28, ↓tgt_29, ↓tgt_tn, ↓tgt_tc, ↓wS_skip, ↓wS_seqL, ↓later_at, ↓wS_asg_var, ↓wS_asg_lit, ↓wS_asg_bin, ↓wS_asg_neg, ↓wS_asg_nott, ↓wS_asg_cmp, ↓wS_asg_chain, ↓wS_asg_andd, ↓wS_asg_orr, ↓wS_asg_ife, ↓wS_asg_tup, ↓wS_asg_lst, ↓wS_asg_idx, ↓wS_asg_slc, ↓wS_asg_fld, ↓wS_asg_call, ↓wS_asg_meth, ↓wS_asg_new, ↓wS_asg_blt, ↓wS_asg_isty, ↓wS_asg_iscl, ↓wS_asg_nil, ↓wS_asg_comp, ↓nxK_at, ↓wS_asgF, ↓wS_asgI, ↓wS_augN, ↓wS_augI, ↓wS_parL, ↓wS_expr, ↓wS_bm, ↓wS_ret, ↓wS_retN, ↓wS_ite, ↓wFor_cons, ↓wFor_nil, ↓wS_for, ↓wS_brk, ↓wS_cnt, ↓wS_raise, ↓tyIs_ref, ↓opB_addL, ↓opBm_appendL, ↓setIL, ↓isL_ref, ↓ob_add, ↓ob_adds, ↓ob_addt, ↓ob_sub, ↓ob_mul, ↓ob_fdiv, ↓ob_mod, ↓ob_pow, ↓oi_abs, ↓oi_lent, ↓oi_lens, ↓oi_lenr, ↓oi_sortedr, ↓oi_tupler, ↓oi_listr, ↓oi_sumr, ↓oi_anyr, ↓oi_allr, ↓oi_mxr, ↓oi_mnr, ↓oi_lenl, ↓oi_sortedl, ↓oi_tuplel, ↓oi_listl, ↓oi_suml, ↓oi_anyl, ↓oi_alll, ↓oi_mxl, ↓oi_mnl, ↓oi_max2, ↓oi_min2, ↓oi_int, ↓oi_intb, ↓oi_tuplet, ↓oi_listt, ↓oi_str, ↓oi_divmod, ↓tru_non, ↓tru_bl, ↓tru_int, ↓tru_str, ↓tru_tup, ↓tru_ref, ↓tru_sl, ↓tyIs_non, ↓tyIs_bl, ↓tyIs_int, ↓tyIs_str, ↓tyIs_tup, ↓tyIs_sl, ↓it_t, ↓it_sr, ↓it_er, ↓it_vr, ↓it_sl, ↓it_el, ↓it_vl, ↓it_z, ↓it_1, ↓it_2, ↓it_3, ↓ltI_i, ↓tl_i, ↓optI_i, ↓osl, ↓opIx_tup, ↓opIx_ref, ↓opIx_sl, ↓atQ_0, ↓atQ_1, ↓atQ_2, ↓atQ_3, ↓getL_put, ↓getL_put_ne, ↓getL_put_ne', ↓getL_sl, ↓opC_eq_int, ↓opC_ne_int, ↓opC_eq_bl, ↓opC_ne_bl, ↓opC_eq_t2, ↓opC_ne_t2, ↓opC_eq_t3, ↓opC_eq_t32, ↓opC_ne_t32, ↓opC_ne_t3, ↓opC_lt, ↓opC_le, ↓opC_gt, ↓opC_ge, ↓opC_is, ↓opC_isnot, ↓opC_in, ↓opC_notin, ↓finpu_rt, ↓finpu_nx, ↓finpu_ex, ↓finlaw_rt, ↓finlaw_nx, ↓finlaw_ex, ↓finV_rt, ↓finV_nx, ↓finV_ex, ↓finE_rt, ↓finO_rt, ↓finO_ex, ↓finE_ex, ↓finS_rt, ↓finS_ex, ↓finR_ex, put_none, put_put, Val.isNon, intsOf, atI_0, atI_1, atI_2, atI_3, cutG_to, cutG_from, sub_refl_iff, pu_pre, puV_pre, puE_pre, puO_pre, puS_pre, puR_pre, Option.some.injEq, exists_eq_left', exists_eq_left, exists_eq, exists_eq', Val.int.injEq, Val.bl.injEq, Val.str.injEq, Val.tup.injEq, Val.ref.injEq, List.cons.injEq, List.map_cons, List.map_nil, List.length_cons, List.length_nil, List.cons_append, List.nil_append, List.append_nil, Bool.false_eq_true, if_true, if_false, ite_true, ite_false, true_and, and_true, false_and, and_false, Bool.not_true, Bool.not_false, decide_eq_true_eq, bne_iff_ne, ne_eq, beq_iff_eq, put_same, imp_false, false_implies, implies_true, reduceCtorEq, not_false_eq_true, and_self, Bool.or_false, Bool.or_true, Bool.false_or, Bool.true_or, Bool.not_eq_true, Bool.not_eq_eq_eq_not, Bool.decide_eq_false, decide_eq_false_iff_not, Bool.not_eq_true', beq_eq_false_iff_ne, bne_eq_false_iff_eq, List.isEmpty_cons, List.isEmpty_nil, Int.reduceEq, Int.reduceNe, Int.reduceLT, Int.reduceLE, Int.reduceNeg, Int.reduceAdd, Int.reduceSub, Int.reduceMul, Int.reduceToNat, Nat.reduceLT, Nat.reduceLeDiff, Nat.reducePow, Nat.reduceAdd, Nat.reduceSub, ty_bool_bool, ty_bool_int, ty_bool_tuple, ty_bool_list, ty_bool_str, ty_int_bool, ty_int_int, ty_int_tuple, ty_int_list, ty_int_str, ty_tuple_bool, ty_tuple_int, ty_tuple_tuple, ty_tuple_list, ty_tuple_str, ty_list_bool, ty_list_int, ty_list_tuple, ty_list_list, ty_list_str, ty_str_bool, ty_str_int, ty_str_tuple, ty_str_list, ty_str_str, ↓call_look_inside, ↓call_divisor, ↓call_time_of, ↓call_undone]
  obtain ⟨hI, hg, la, lb⟩ := h
  obtain ⟨lx, ly⟩ := hI.lx
  have lw := hI.lw
  have lu := hI.lu
  have lv := hI.lv
  have hw := hI.hw
  have hgp := gp hI.hu hI.hv hg
  have l1 := log2_mul lu lb
  have l2 := log2_mul lv la
  have l3 := log2_mul lu lv
  have gl : (↑(Int.gcd (u * b) (v * a)) : Int).natAbs.log2 < 800 := by
    by_cases e : v * a = 0
    · rw [e, Int.gcd_zero_right, Int.natAbs_natCast]; omega
    · have := gcd_log (a := u * b) e l2; omega
  have guv := g_uv (u := u) (v := v) (a := a) (b := b) hg
  have d1 := Int.gcd_dvd_left (u * b) (v * a)
  have d2 := Int.gcd_dvd_right (u * b) (v * a)
  have cop := Int.gcd_ediv_gcd_ediv_gcd hgp
  have hgi : (0 : Int) < ↑(Int.gcd (u * b) (v * a)) := by omega
  have ga0 : a = 0 → ↑(Int.gcd (u * b) (v * a)) = u := by
    rintro rfl
    rw [Int.mul_zero, Int.gcd_zero_right]
    rw [Int.gcd_comm, Int.gcd_zero_right] at hg
    rw [Int.natAbs_mul, hg, Nat.mul_one]
    have := hI.hu
    omega
  generalize hG : (↑(Int.gcd (u * b) (v * a)) : Int) = g at *
  have gw := Int.mul_pos hgi hw
  have lgw := log2_mul gl lw
  refine ⟨⟨hI.hu, hI.hv, hI.hx, hI.hy, hI.hxu, hI.hyv, by omega, by omega, by omega⟩, mulOk_of (by omega) (by omega), mulOk_of (by omega) (by omega), mulOk_of (by omega) (by omega), mulOk_of (by omega) (by omega), mulOk_of (by omega) (by omega), by omega, ?_⟩
  by_cases hz : (b * x - a * y).fmod (g * w) = 0
  rotate_left
  · rw [if_pos hz]
    exact .inl hz
  rw [if_neg (by simpa using hz)]
  have hoff : b * x - a * y = g * w * (b * x - a * y).fdiv (g * w) := by
    have := Int.mul_fdiv_add_fmod (b * x - a * y) (g * w)
    omega
  have ha : a ≠ 0 := by
    intro e
    have e2 := ga0 e
    subst e
    rw [Int.gcd_comm, Int.gcd_zero_right] at hg
    have hx := hI.hx
    have hxu := hI.hxu
    rw [e2] at hoff
    generalize (b * x - 0 * y).fdiv (u * w) = z at hoff
    have huw := Int.mul_pos hI.hu hw
    obtain hb | hb : b = 1 ∨ b = -1 := by omega
    all_goals
      subst hb
      rcases (by omega : z ≤ -1 ∨ z = 0 ∨ 1 ≤ z) with q | q | q
      · have := Int.mul_le_mul_of_nonneg_left q (show (0 : Int) ≤ u * w by omega)
        omega
      · rw [q] at hoff; omega
      · have := Int.mul_le_mul_of_nonneg_left q (show (0 : Int) ≤ u * w by omega)
        omega
  obtain ⟨β, hβ⟩ := d1
  obtain ⟨α, hα⟩ := d2
  obtain ⟨L, hL⟩ := guv
  have eβ : (u * b).fdiv g = β := by rw [Int.fdiv_eq_ediv_of_dvd ⟨β, hβ⟩]; exact Int.ediv_eq_of_eq_mul_right (by omega) hβ
  have eα : v * a / g = α := Int.ediv_eq_of_eq_mul_right (by omega) hα
  have eL : (u * v).fdiv g = L := by rw [Int.fdiv_eq_ediv_of_dvd ⟨L, hL⟩]; exact Int.ediv_eq_of_eq_mul_right (by omega) hL
  have eβ2 : u * b / g = β := Int.ediv_eq_of_eq_mul_right (by omega) hβ
  rw [eα, eβ2] at cop
  have hL0 : 0 < L := by
    have h1 := Int.mul_pos hI.hu hI.hv
    rcases (by omega : L ≤ 0 ∨ 0 < L) with h | h
    · have := Int.mul_nonneg (show (0 : Int) ≤ g by omega) (show (0 : Int) ≤ -L by omega)
      have e : g * -L = -(g * L) := by grind
      omega
    · exact h
  have hα0 : α ≠ 0 := by
    rintro rfl
    rw [Int.mul_zero] at hα
    rcases Int.mul_eq_zero.mp hα with h | h
    · have := hI.hv; omega
    · exact ha h
  -- the number of turns of one side
  have ec : (v * (if a < 0 then -a else a)).fdiv g = (if α < 0 then -α else α) := by
    have hv := hI.hv
    have sgn : (a < 0 ↔ α < 0) := by
      constructor
      · intro h
        have := Int.mul_neg_of_pos_of_neg hv h
        rcases (by omega : α < 0 ∨ 0 ≤ α) with q | q
        · exact q
        · have := Int.mul_nonneg (show (0 : Int) ≤ g by omega) q; omega
      · intro h
        have := Int.mul_neg_of_pos_of_neg hgi h
        rcases (by omega : a < 0 ∨ 0 ≤ a) with q | q
        · exact q
        · have := Int.mul_nonneg (show (0 : Int) ≤ v by omega) q; omega
    by_cases h : a < 0
    · rw [if_pos h, if_pos (sgn.mp h)]
      have e : v * -a = g * -α := by rw [Int.mul_neg, hα, Int.mul_neg]
      rw [Int.fdiv_eq_ediv_of_dvd ⟨-α, e⟩]
      exact Int.ediv_eq_of_eq_mul_right (by omega) e
    · rw [if_neg h, if_neg (fun q => h (sgn.mpr q)), Int.fdiv_eq_ediv_of_dvd ⟨α, hα⟩]
      exact Int.ediv_eq_of_eq_mul_right (by omega) hα
  rw [ec, eβ, eL]
  have hc : α = (if α < 0 then -α else α) ∨ α = -(if α < 0 then -α else α) := by split <;> omega
  have hc0 : 0 < (if α < 0 then -α else α) := by split <;> omega
  have cop2 : Int.gcd β (if α < 0 then -α else α) = 1 := by
    split
    · rw [Int.gcd_neg]; exact cop
    · exact cop
  have lβ : β.natAbs.log2 < 601 := by rw [← eβ]; have := log2_fdiv hgi l1; omega
  have lc : (if α < 0 then -α else α).natAbs.log2 < 601 := by
    rw [← ec]
    have := log2_fdiv hgi (log2_mul lv (ab_log la))
    omega
  have lL : L.natAbs.log2 < 401 := by rw [← eL]; have := log2_fdiv hgi l3; omega
  have lo := log2_add (n := 810) (a := b * x) (b := -(a * y)) (Nat.lt_of_lt_of_le (log2_mul lb lx) (by omega)) (by rw [Int.natAbs_neg]; exact Nat.lt_of_lt_of_le (log2_mul la ly) (by omega))
  rw [show b * x + -(a * y) = b * x - a * y by omega] at lo
  have lm := log2_fdiv gw lo
  generalize (b * x - a * y).fdiv (g * w) = m at *
  generalize hcc : (if α < 0 then -α else α) = c at *
  have law' := log2_mul la lw
  have law2 := ab_log la
  refine ⟨mulOk_of (by omega) (by omega), ⟨by omega, by omega⟩, mulOk_of (by omega) (by omega), ⟨by omega, by omega⟩, mulOk_of (by omega) (by omega), ⟨by omega, by omega⟩, ⟨hc0, cop2, by omega, by omega⟩, fun r hr => ?_⟩
  obtain ⟨r0, r1, j, hj⟩ := hr
  have lr := lgo lc r0 (show r ≤ c by omega)
  have tm := Int.mul_fdiv_add_fmod (m * r) c
  have t0 := fmod_lo (m * r) hc0
  have t1 := fmod_hi (m * r) hc0
  have ltn := lgo lc t0 (show (m * r).fmod c ≤ c by omega)
  generalize htn : (m * r).fmod c = tn at *
  have l5 := log2_mul ltn lu
  have l6 := log2_mul l5 lw
  have awn : a * w ≠ 0 := fun h => by rcases Int.mul_eq_zero.mp h with h | h <;> omega
  refine ⟨mulOk_of (by omega) (by omega), by omega, mulOk_of (by omega) (by omega), mulOk_of (by omega) (by omega), mulOk_of (by omega) (by omega), ⟨awn, by omega⟩, fun e he => ?_⟩
  have le2 := log2_lt_of he.le2 law'
  have l7 := log2_mul lL le2
  have ep := he.pos
  have Le := Int.mul_pos hL0 ep
  refine ⟨mulOk_of (by omega) (by omega), ⟨by omega, by omega⟩, mulOk_of (by omega) (by omega), by omega, ⟨by omega, by omega⟩, fun f hf => .inr ⟨f, ⟨rfl, rfl⟩, ?_⟩⟩
  have R0 := fmod_lo e.1 Le
  have R1 := fmod_hi e.1 Le
  have Rm := Int.mul_fdiv_add_fmod e.1 (L * e.2)
  have lR := lgo l7 R0 (show e.1.fmod (L * e.2) ≤ L * e.2 by omega)
  obtain ⟨c1, c2, c3, c4⟩ := cor_math (j2 := (m * r).fdiv c) (k := e.1.fdiv (L * e.2)) hI.hx hI.hxu hI.hu hw hgi ha hβ hα hoff hc hj (by omega) hL hL0 ep he.eq (by omega) R0 R1 hf.pos hf.eq
  exact ⟨c1, hf.pos, hf.gcd, c2, c3, by rw [hG]; exact c4, by have := log2_lt_of hf.le1 lR; omega, by have := log2_lt_of hf.le2 le2; omega⟩
theorem w__law_is_int : ∀ as S, (sp__law_is_int as S).pre → wS T s__law_is_int (startE ["found"] as) S (fin (sp__law_is_int as S)) := by
  intro as S h
  unfold sp__law_is_int at h ⊢
  split at h
  rotate_left
  · exact h.elim
  rename_i a
  change wS T s__law_is_int [some (.int a)] S _
  unfold s__law_is_int
  simp only [↓wE_lit, ↓wE_bin, ↓wE_neg, ↓wE_nott, ↓wE_cmp, ↓wE_chain, ↓wE_andd, ↓wE_orr, ↓wE_ife, ↓wE_nil, ↓wE_cons, ↓wE_tup, ↓wE_lst, ↓wE_idx, ↓wE_slc, ↓wE_fld, ↓wE_meth, ↓wE_new, ↓wE_blt, ↓wE_isty, ↓wE_iscl, ↓wT_cmp, ↓wT_chain, ↓wT_nott, ↓wT_andd, ↓wT_orr, ↓wT_ife, ↓wT_lit, ↓wT_idx, ↓wT_bin, ↓wT_meth, ↓wT_blt, ↓wT_isty, ↓wT_iscl, ↓wT_fld, ↓wT_neg, ↓wT_nil, ↓wT_cons, ↓wT_tup, ↓wT_lst, ↓wT_slc, ↓wT_new, ↓wT_comp, ↓wA_nil, ↓wA_cons, ↓wO_nil, ↓wO_cons, ↓wE_compK, ↓wE_call0, ↓wT_call0, ↓wE_v0, ↓wE_v1, ↓wE_v2, ↓wE_v3, ↓wE_v4, ↓wE_v5, ↓wE_v6, ↓wE_v7, ↓wE_v8, ↓wE_v9, ↓wE_v10, ↓wE_v11, ↓wE_v12, ↓wE_v13, ↓wE_v14, ↓wE_v15, ↓wE_v16, ↓wE_v17, ↓wE_v18, ↓wE_v19, ↓wE_v20, ↓wE_v21, ↓wE_v22, ↓wE_v23, ↓wE_v24, ↓wE_v25, ↓wE_v26, ↓wE_v27, ↓wE_v28, ↓wE_v29, ↓wT_v0, ↓wT_v1, ↓wT_v2, ↓wT_v3, ↓wT_v4, ↓wT_v5, ↓wT_v6, ↓wT_v7, ↓wT_v8, ↓wT_v9, ↓wT_v10, ↓wT_v11, ↓wT_v12, ↓wT_v13, ↓wT_v14, ↓wT_v15, ↓wT_v16, ↓wT_v17, ↓wT_v18, ↓wT_v19, ↓wT_v20, ↓wT_v21, ↓wT_v22, ↓wT_v23, ↓wT_v24, ↓wT_v25, ↓wT_v26, ↓wT_v27, ↓wT_v28, ↓wT_v29, ↓tgt_0, ↓tgt_1, ↓tgt_2, ↓tgt_3, ↓tgt_4, ↓tgt_5, ↓tgt_6, ↓tgt_7, ↓tgt_8, ↓tgt_9, ↓tgt_10, ↓tgt_11, ↓tgt_12, ↓tgt_13, ↓tgt_14, ↓tgt_15, ↓tgt_16, ↓tgt_17, ↓tgt_18, ↓tgt_19, ↓tgt_20, ↓tgt_21, ↓tgt_22, ↓tgt_23, ↓tgt_24, ↓tgt_25, ↓tgt_26, ↓tgt_27, ↓tgt_28, ↓tgt_29, ↓tgt_tn, ↓tgt_tc, ↓wS_skip, ↓wS_seqL, ↓later_at, ↓wS_asg_var, ↓wS_asg_lit, ↓wS_asg_bin, ↓wS_asg_neg, ↓wS_asg_nott, ↓wS_asg_cmp, ↓wS_asg_chain, ↓wS_asg_andd, ↓wS_asg_orr, ↓wS_asg_ife, ↓wS_asg_tup, ↓wS_asg_lst, ↓wS_asg_idx, ↓wS_asg_slc, ↓wS_asg_fld, ↓wS_asg_call, ↓wS_asg_meth, ↓wS_asg_new, ↓wS_asg_blt, ↓wS_asg_isty, ↓wS_asg_iscl, ↓wS_asg_nil, ↓wS_asg_comp, ↓nxK_at, ↓wS_asgF, ↓wS_asgI, ↓wS_augN, ↓wS_augI, ↓wS_parL, ↓wS_expr, ↓wS_bm, ↓wS_ret, ↓wS_retN, ↓wS_ite, ↓wFor_cons, ↓wFor_nil, ↓wS_for, ↓wS_brk, ↓wS_cnt, ↓wS_raise, ↓tyIs_ref, ↓opB_addL, ↓opBm_appendL, ↓setIL, ↓isL_ref, ↓ob_add, ↓ob_adds, ↓ob_addt, ↓ob_sub, ↓ob_mul, ↓ob_fdiv, ↓ob_mod, ↓ob_pow, ↓oi_abs, ↓oi_lent, ↓oi_lens, ↓oi_lenr, ↓oi_sortedr, ↓oi_tupler, ↓oi_listr, ↓oi_sumr, ↓oi_anyr, ↓oi_allr, ↓oi_mxr, ↓oi_mnr, ↓oi_lenl, ↓oi_sortedl, ↓oi_tuplel, ↓oi_listl, ↓oi_suml, ↓oi_anyl, ↓oi_alll, ↓oi_mxl, ↓oi_mnl, ↓oi_max2, ↓oi_min2, ↓oi_int, ↓oi_intb, ↓oi_tuplet, ↓oi_listt, ↓oi_str, ↓oi_divmod, ↓tru_non, ↓tru_bl, ↓tru_int, ↓tru_str, ↓tru_tup, ↓tru_ref, ↓tru_sl, ↓tyIs_non, ↓tyIs_bl, ↓tyIs_int, ↓tyIs_str, ↓tyIs_tup, ↓tyIs_sl, ↓it_t, ↓it_sr, ↓it_er, ↓it_vr, ↓it_sl, ↓it_el, ↓it_vl, ↓it_z, ↓it_1, ↓it_2, ↓it_3, ↓ltI_i, ↓tl_i, ↓optI_i, ↓osl, ↓opIx_tup, ↓opIx_ref, ↓opIx_sl, ↓atQ_0, ↓atQ_1, ↓atQ_2, ↓atQ_3, ↓getL_put, ↓getL_put_ne, ↓getL_put_ne', ↓getL_sl, ↓opC_eq_int, ↓opC_ne_int, ↓opC_eq_bl, ↓opC_ne_bl, ↓opC_eq_t2, ↓opC_ne_t2, ↓opC_eq_t3, ↓opC_eq_t32, ↓opC_ne_t32, ↓opC_ne_t3, ↓opC_lt, ↓opC_le, ↓opC_gt, ↓opC_ge, ↓opC_is, ↓opC_isnot, ↓opC_in, ↓opC_notin, ↓finpu_rt, ↓finpu_nx, ↓finpu_ex, ↓finlaw_rt, ↓finlaw_nx, ↓finlaw_ex, ↓finV_rt, ↓finV_nx, ↓finV_ex, ↓finE_rt, ↓finO_rt, ↓finO_ex, ↓finE_ex, ↓finS_rt, ↓finS_ex, ↓finR_ex, put_none, put_put, Val.isNon, intsOf, atI_0, atI_1, atI_2, atI_3, cutG_to, cutG_from, sub_refl_iff, pu_pre, puV_pre, puE_pre, puO_pre, puS_pre, puR_pre, Option.some.injEq, exists_eq_left', exists_eq_left, exists_eq, exists_eq', Val.int.injEq, Val.bl.injEq, Val.str.injEq, Val.tup.injEq, Val.ref.injEq, List.cons.injEq, List.map_cons, List.map_nil, List.length_cons, List.length_nil, List.cons_append, List.nil_append, List.append_nil, Bool.false_eq_true, if_true, if_false, ite_true, ite_false, true_and, and_true, false_and, and_false, Bool.not_true, Bool.not_false, decide_eq_true_eq, bne_iff_ne, ne_eq, beq_iff_eq, put_same, imp_false, false_implies, implies_true, reduceCtorEq, not_false_eq_true, and_self, Bool.or_false, Bool.or_true, Bool.false_or, Bool.true_or, Bool.not_eq_true, Bool.not_eq_eq_eq_not, Bool.decide_eq_false, decide_eq_false_iff_not, Bool.not_eq_true', beq_eq_false_iff_ne, bne_eq_false_iff_eq, List.isEmpty_cons, List.isEmpty_nil, Int.reduceEq, Int.reduceNe, Int.reduceLT, Int.reduceLE, Int.reduceNeg, Int.reduceAdd, Int.reduceSub, Int.reduceMul, Int.reduceToNat, Nat.reduceLT, Nat.reduceLeDiff, Nat.reducePow, Nat.reduceAdd, Nat.reduceSub, ty_bool_bool, ty_bool_int, ty_bool_tuple, ty_bool_list, ty_bool_str, ty_int_bool, ty_int_int, ty_int_tuple, ty_int_list, ty_int_str, ty_tuple_bool, ty_tuple_int, ty_tuple_tuple, ty_tuple_list, ty_tuple_str, ty_list_bool, ty_list_int, ty_list_tuple, ty_list_list, ty_list_str, ty_str_bool, ty_str_int, ty_str_tuple, ty_str_list, ty_str_str]
theorem num_59 : (10 : Int) ^ 59 = B59 := rfl
theorem w__law_number : ∀ as S, (sp__law_number as S).pre → wS T s__law_number (startE ["cell", "way"] as) S (fin (sp__law_number as S)) := by
  intro as S h
  unfold sp__law_number at h ⊢
  split at h
  rotate_left
  · exact h.elim
  rename_i c
  change wS T s__law_number [some (.int c), none] S _
  unfold s__law_number
  simp only [↓wE_lit, ↓wE_bin, ↓wE_neg, ↓wE_nott, ↓wE_cmp, ↓wE_chain, ↓wE_andd, ↓wE_orr, ↓wE_ife, ↓wE_nil, ↓wE_cons, ↓wE_tup, ↓wE_lst, ↓wE_idx, ↓wE_slc, ↓wE_fld, ↓wE_meth, ↓wE_new, ↓wE_blt, ↓wE_isty, ↓wE_iscl, ↓wT_cmp, ↓wT_chain, ↓wT_nott, ↓wT_andd, ↓wT_orr, ↓wT_ife, ↓wT_lit, ↓wT_idx, ↓wT_bin, ↓wT_meth, ↓wT_blt, ↓wT_isty, ↓wT_iscl, ↓wT_fld, ↓wT_neg, ↓wT_nil, ↓wT_cons, ↓wT_tup, ↓wT_lst, ↓wT_slc, ↓wT_new, ↓wT_comp, ↓wA_nil, ↓wA_cons, ↓wO_nil, ↓wO_cons, ↓wE_compK, ↓wE_call0, ↓wT_call0, ↓wE_v0, ↓wE_v1, ↓wE_v2, ↓wE_v3, ↓wE_v4, ↓wE_v5, ↓wE_v6, ↓wE_v7, ↓wE_v8, ↓wE_v9, ↓wE_v10, ↓wE_v11, ↓wE_v12, ↓wE_v13, ↓wE_v14, ↓wE_v15, ↓wE_v16, ↓wE_v17, ↓wE_v18, ↓wE_v19, ↓wE_v20, ↓wE_v21, ↓wE_v22, ↓wE_v23, ↓wE_v24, ↓wE_v25, ↓wE_v26, ↓wE_v27, ↓wE_v28, ↓wE_v29, ↓wT_v0, ↓wT_v1, ↓wT_v2, ↓wT_v3, ↓wT_v4, ↓wT_v5, ↓wT_v6, ↓wT_v7, ↓wT_v8, ↓wT_v9, ↓wT_v10, ↓wT_v11, ↓wT_v12, ↓wT_v13, ↓wT_v14, ↓wT_v15, ↓wT_v16, ↓wT_v17, ↓wT_v18, ↓wT_v19, ↓wT_v20, ↓wT_v21, ↓wT_v22, ↓wT_v23, ↓wT_v24, ↓wT_v25, ↓wT_v26, ↓wT_v27, ↓wT_v28, ↓wT_v29, ↓tgt_0, ↓tgt_1, ↓tgt_2, ↓tgt_3, ↓tgt_4, ↓tgt_5, ↓tgt_6, ↓tgt_7, ↓tgt_8, ↓tgt_9, ↓tgt_10, ↓tgt_11, ↓tgt_12, ↓tgt_13, ↓tgt_14, ↓tgt_15, ↓tgt_16, ↓tgt_17, ↓tgt_18, ↓tgt_19, ↓tgt_20, ↓tgt_21, ↓tgt_22, ↓tgt_23, ↓tgt_24, ↓tgt_25, ↓tgt_26, ↓tgt_27, ↓tgt_28, ↓tgt_29, ↓tgt_tn, ↓tgt_tc, ↓wS_skip, ↓wS_seqL, ↓later_at, ↓wS_asg_var, ↓wS_asg_lit, ↓wS_asg_bin, ↓wS_asg_neg, ↓wS_asg_nott, ↓wS_asg_cmp, ↓wS_asg_chain, ↓wS_asg_andd, ↓wS_asg_orr, ↓wS_asg_ife, ↓wS_asg_tup, ↓wS_asg_lst, ↓wS_asg_idx, ↓wS_asg_slc, ↓wS_asg_fld, ↓wS_asg_call, ↓wS_asg_meth, ↓wS_asg_new, ↓wS_asg_blt, ↓wS_asg_isty, ↓wS_asg_iscl, ↓wS_asg_nil, ↓wS_asg_comp, ↓nxK_at, ↓wS_asgF, ↓wS_asgI, ↓wS_augN, ↓wS_augI, ↓wS_parL, ↓wS_expr, ↓wS_bm, ↓wS_ret, ↓wS_retN, ↓wS_ite, ↓wFor_cons, ↓wFor_nil, ↓wS_for, ↓wS_brk, ↓wS_cnt, ↓wS_raise, ↓tyIs_ref, ↓opB_addL, ↓opBm_appendL, ↓setIL, ↓isL_ref, ↓ob_add, ↓ob_adds, ↓ob_addt, ↓ob_sub, ↓ob_mul, ↓ob_fdiv, ↓ob_mod, ↓ob_pow, ↓oi_abs, ↓oi_lent, ↓oi_lens, ↓oi_lenr, ↓oi_sortedr, ↓oi_tupler, ↓oi_listr, ↓oi_sumr, ↓oi_anyr, ↓oi_allr, ↓oi_mxr, ↓oi_mnr, ↓oi_lenl, ↓oi_sortedl, ↓oi_tuplel, ↓oi_listl, ↓oi_suml, ↓oi_anyl, ↓oi_alll, ↓oi_mxl, ↓oi_mnl, ↓oi_max2, ↓oi_min2, ↓oi_int, ↓oi_intb, ↓oi_tuplet, ↓oi_listt, ↓oi_str, ↓oi_divmod, ↓tru_non, ↓tru_bl, ↓tru_int, ↓tru_str, ↓tru_tup, ↓tru_ref, ↓tru_sl, ↓tyIs_non, ↓tyIs_bl, ↓tyIs_int, ↓tyIs_str, ↓tyIs_tup, ↓tyIs_sl, ↓it_t, ↓it_sr, ↓it_er, ↓it_vr, ↓it_sl, ↓it_el, ↓it_vl, ↓it_z, ↓it_1, ↓it_2, ↓it_3, ↓ltI_i, ↓tl_i, ↓optI_i, ↓osl, ↓opIx_tup, ↓opIx_ref, ↓opIx_sl, ↓atQ_0, ↓atQ_1, ↓atQ_2, ↓atQ_3, ↓getL_put, ↓getL_put_ne, ↓getL_put_ne', ↓getL_sl, ↓opC_eq_int, ↓opC_ne_int, ↓opC_eq_bl, ↓opC_ne_bl, ↓opC_eq_t2, ↓opC_ne_t2, ↓opC_eq_t3, ↓opC_eq_t32, ↓opC_ne_t32, ↓opC_ne_t3, ↓opC_lt, ↓opC_le, ↓opC_gt, ↓opC_ge, ↓opC_is, ↓opC_isnot, ↓opC_in, ↓opC_notin, ↓finpu_rt, ↓finpu_nx, ↓finpu_ex, ↓finlaw_rt, ↓finlaw_nx, ↓finlaw_ex, ↓finV_rt, ↓finV_nx, ↓finV_ex, ↓finE_rt, ↓finO_rt, ↓finO_ex, ↓finE_ex, ↓finS_rt, ↓finS_ex, ↓finR_ex, put_none, put_put, Val.isNon, intsOf, atI_0, atI_1, atI_2, atI_3, cutG_to, cutG_from, sub_refl_iff, pu_pre, puV_pre, puE_pre, puO_pre, puS_pre, puR_pre, Option.some.injEq, exists_eq_left', exists_eq_left, exists_eq, exists_eq', Val.int.injEq, Val.bl.injEq, Val.str.injEq, Val.tup.injEq, Val.ref.injEq, List.cons.injEq, List.map_cons, List.map_nil, List.length_cons, List.length_nil, List.cons_append, List.nil_append, List.append_nil, Bool.false_eq_true, if_true, if_false, ite_true, ite_false, true_and, and_true, false_and, and_false, Bool.not_true, Bool.not_false, decide_eq_true_eq, bne_iff_ne, ne_eq, beq_iff_eq, put_same, imp_false, false_implies, implies_true, reduceCtorEq, not_false_eq_true, and_self, Bool.or_false, Bool.or_true, Bool.false_or, Bool.true_or, Bool.not_eq_true, Bool.not_eq_eq_eq_not, Bool.decide_eq_false, decide_eq_false_iff_not, Bool.not_eq_true', beq_eq_false_iff_ne, bne_eq_false_iff_eq, List.isEmpty_cons, List.isEmpty_nil, Int.reduceEq, Int.reduceNe, Int.reduceLT, Int.reduceLE, Int.reduceNeg, Int.reduceAdd, Int.reduceSub, Int.reduceMul, Int.reduceToNat, Nat.reduceLT, Nat.reduceLeDiff, Nat.reducePow, Nat.reduceAdd, Nat.reduceSub, ty_bool_bool, ty_bool_int, ty_bool_tuple, ty_bool_list, ty_bool_str, ty_int_bool, ty_int_int, ty_int_tuple, ty_int_list, ty_int_str, ty_tuple_bool, ty_tuple_int, ty_tuple_tuple, ty_tuple_list, ty_tuple_str, ty_list_bool, ty_list_int, ty_list_tuple, ty_list_list, ty_list_str, ty_str_bool, ty_str_int, ty_str_tuple, ty_str_list, ty_str_str, num_59]
  have hd : DivOk c 5 := ⟨by decide, by decide⟩
  have h5 : (c.fdiv 5).natAbs.log2 < 10000000 := log2_fdiv (by decide) h
  have bp : (2000 : Int) < B59 := by decide +kernel
  split
  · have z := fmod_lo (c.fdiv 5 * (B59.fdiv 7 + 48271)) (y := 2 * B59 + 1) (by omega)
    have z2 := fmod_hi (c.fdiv 5 * (B59.fdiv 7 + 48271)) (y := 2 * B59 + 1) (by omega)
    have hm : (B59.fdiv 7 + 48271).natAbs.log2 < 1000 := by decide +kernel
    exact ⟨hd, by decide, ⟨by decide, by decide⟩, by unfold MulOk; omega, by decide, by unfold MulOk; decide +kernel, by omega, by decide, by omega, by omega⟩
  · split
    · have z := fmod_lo (c.fdiv 5) (y := 2001) (by decide)
      have z2 := fmod_hi (c.fdiv 5) (y := 2001) (by decide)
      exact ⟨hd, by omega, by omega⟩
    · have z := fmod_lo (c.fdiv 5) (y := 13) (by decide)
      have z2 := fmod_hi (c.fdiv 5) (y := 13) (by decide)
      exact ⟨hd, by omega, by omega⟩
theorem w__law_side : ∀ as S, (sp__law_side as S).pre → wS T s__law_side (startE ["cell", "way"] as) S (fin (sp__law_side as S)) := by
  intro as S h
  unfold sp__law_side at h ⊢
  split at h
  rotate_left
  · exact h.elim
  rename_i c
  change wS T s__law_side [some (.int c), none] S _
  unfold s__law_side
  simp only [↓wE_lit, ↓wE_bin, ↓wE_neg, ↓wE_nott, ↓wE_cmp, ↓wE_chain, ↓wE_andd, ↓wE_orr, ↓wE_ife, ↓wE_nil, ↓wE_cons, ↓wE_tup, ↓wE_lst, ↓wE_idx, ↓wE_slc, ↓wE_fld, ↓wE_meth, ↓wE_new, ↓wE_blt, ↓wE_isty, ↓wE_iscl, ↓wT_cmp, ↓wT_chain, ↓wT_nott, ↓wT_andd, ↓wT_orr, ↓wT_ife, ↓wT_lit, ↓wT_idx, ↓wT_bin, ↓wT_meth, ↓wT_blt, ↓wT_isty, ↓wT_iscl, ↓wT_fld, ↓wT_neg, ↓wT_nil, ↓wT_cons, ↓wT_tup, ↓wT_lst, ↓wT_slc, ↓wT_new, ↓wT_comp, ↓wA_nil, ↓wA_cons, ↓wO_nil, ↓wO_cons, ↓wE_compK, ↓wE_call0, ↓wT_call0, ↓wE_v0, ↓wE_v1, ↓wE_v2, ↓wE_v3, ↓wE_v4, ↓wE_v5, ↓wE_v6, ↓wE_v7, ↓wE_v8, ↓wE_v9, ↓wE_v10, ↓wE_v11, ↓wE_v12, ↓wE_v13, ↓wE_v14, ↓wE_v15, ↓wE_v16, ↓wE_v17, ↓wE_v18, ↓wE_v19, ↓wE_v20, ↓wE_v21, ↓wE_v22, ↓wE_v23, ↓wE_v24, ↓wE_v25, ↓wE_v26, ↓wE_v27, ↓wE_v28, ↓wE_v29, ↓wT_v0, ↓wT_v1, ↓wT_v2, ↓wT_v3, ↓wT_v4, ↓wT_v5, ↓wT_v6, ↓wT_v7, ↓wT_v8, ↓wT_v9, ↓wT_v10, ↓wT_v11, ↓wT_v12, ↓wT_v13, ↓wT_v14, ↓wT_v15, ↓wT_v16, ↓wT_v17, ↓wT_v18, ↓wT_v19, ↓wT_v20, ↓wT_v21, ↓wT_v22, ↓wT_v23, ↓wT_v24, ↓wT_v25, ↓wT_v26, ↓wT_v27, ↓wT_v28, ↓wT_v29, ↓tgt_0, ↓tgt_1, ↓tgt_2, ↓tgt_3, ↓tgt_4, ↓tgt_5, ↓tgt_6, ↓tgt_7, ↓tgt_8, ↓tgt_9, ↓tgt_10, ↓tgt_11, ↓tgt_12, ↓tgt_13, ↓tgt_14, ↓tgt_15, ↓tgt_16, ↓tgt_17, ↓tgt_18, ↓tgt_19, ↓tgt_20, ↓tgt_21, ↓tgt_22, ↓tgt_23, ↓tgt_24, ↓tgt_25, ↓tgt_26, ↓tgt_27, ↓tgt_28, ↓tgt_29, ↓tgt_tn, ↓tgt_tc, ↓wS_skip, ↓wS_seqL, ↓later_at, ↓wS_asg_var, ↓wS_asg_lit, ↓wS_asg_bin, ↓wS_asg_neg, ↓wS_asg_nott, ↓wS_asg_cmp, ↓wS_asg_chain, ↓wS_asg_andd, ↓wS_asg_orr, ↓wS_asg_ife, ↓wS_asg_tup, ↓wS_asg_lst, ↓wS_asg_idx, ↓wS_asg_slc, ↓wS_asg_fld, ↓wS_asg_call, ↓wS_asg_meth, ↓wS_asg_new, ↓wS_asg_blt, ↓wS_asg_isty, ↓wS_asg_iscl, ↓wS_asg_nil, ↓wS_asg_comp, ↓nxK_at, ↓wS_asgF, ↓wS_asgI, ↓wS_augN, ↓wS_augI, ↓wS_parL, ↓wS_expr, ↓wS_bm, ↓wS_ret, ↓wS_retN, ↓wS_ite, ↓wFor_cons, ↓wFor_nil, ↓wS_for, ↓wS_brk, ↓wS_cnt, ↓wS_raise, ↓tyIs_ref, ↓opB_addL, ↓opBm_appendL, ↓setIL, ↓isL_ref, ↓ob_add, ↓ob_adds, ↓ob_addt, ↓ob_sub, ↓ob_mul, ↓ob_fdiv, ↓ob_mod, ↓ob_pow, ↓oi_abs, ↓oi_lent, ↓oi_lens, ↓oi_lenr, ↓oi_sortedr, ↓oi_tupler, ↓oi_listr, ↓oi_sumr, ↓oi_anyr, ↓oi_allr, ↓oi_mxr, ↓oi_mnr, ↓oi_lenl, ↓oi_sortedl, ↓oi_tuplel, ↓oi_listl, ↓oi_suml, ↓oi_anyl, ↓oi_alll, ↓oi_mxl, ↓oi_mnl, ↓oi_max2, ↓oi_min2, ↓oi_int, ↓oi_intb, ↓oi_tuplet, ↓oi_listt, ↓oi_str, ↓oi_divmod, ↓tru_non, ↓tru_bl, ↓tru_int, ↓tru_str, ↓tru_tup, ↓tru_ref, ↓tru_sl, ↓tyIs_non, ↓tyIs_bl, ↓tyIs_int, ↓tyIs_str, ↓tyIs_tup, ↓tyIs_sl, ↓it_t, ↓it_sr, ↓it_er, ↓it_vr, ↓it_sl, ↓it_el, ↓it_vl, ↓it_z, ↓it_1, ↓it_2, ↓it_3, ↓ltI_i, ↓tl_i, ↓optI_i, ↓osl, ↓opIx_tup, ↓opIx_ref, ↓opIx_sl, ↓atQ_0, ↓atQ_1, ↓atQ_2, ↓atQ_3, ↓getL_put, ↓getL_put_ne, ↓getL_put_ne', ↓getL_sl, ↓opC_eq_int, ↓opC_ne_int, ↓opC_eq_bl, ↓opC_ne_bl, ↓opC_eq_t2, ↓opC_ne_t2, ↓opC_eq_t3, ↓opC_eq_t32, ↓opC_ne_t32, ↓opC_ne_t3, ↓opC_lt, ↓opC_le, ↓opC_gt, ↓opC_ge, ↓opC_is, ↓opC_isnot, ↓opC_in, ↓opC_notin, ↓finpu_rt, ↓finpu_nx, ↓finpu_ex, ↓finlaw_rt, ↓finlaw_nx, ↓finlaw_ex, ↓finV_rt, ↓finV_nx, ↓finV_ex, ↓finE_rt, ↓finO_rt, ↓finO_ex, ↓finE_ex, ↓finS_rt, ↓finS_ex, ↓finR_ex, put_none, put_put, Val.isNon, intsOf, atI_0, atI_1, atI_2, atI_3, cutG_to, cutG_from, sub_refl_iff, pu_pre, puV_pre, puE_pre, puO_pre, puS_pre, puR_pre, Option.some.injEq, exists_eq_left', exists_eq_left, exists_eq, exists_eq', Val.int.injEq, Val.bl.injEq, Val.str.injEq, Val.tup.injEq, Val.ref.injEq, List.cons.injEq, List.map_cons, List.map_nil, List.length_cons, List.length_nil, List.cons_append, List.nil_append, List.append_nil, Bool.false_eq_true, if_true, if_false, ite_true, ite_false, true_and, and_true, false_and, and_false, Bool.not_true, Bool.not_false, decide_eq_true_eq, bne_iff_ne, ne_eq, beq_iff_eq, put_same, imp_false, false_implies, implies_true, reduceCtorEq, not_false_eq_true, and_self, Bool.or_false, Bool.or_true, Bool.false_or, Bool.true_or, Bool.not_eq_true, Bool.not_eq_eq_eq_not, Bool.decide_eq_false, decide_eq_false_iff_not, Bool.not_eq_true', beq_eq_false_iff_ne, bne_eq_false_iff_eq, List.isEmpty_cons, List.isEmpty_nil, Int.reduceEq, Int.reduceNe, Int.reduceLT, Int.reduceLE, Int.reduceNeg, Int.reduceAdd, Int.reduceSub, Int.reduceMul, Int.reduceToNat, Nat.reduceLT, Nat.reduceLeDiff, Nat.reducePow, Nat.reduceAdd, Nat.reduceSub, ty_bool_bool, ty_bool_int, ty_bool_tuple, ty_bool_list, ty_bool_str, ty_int_bool, ty_int_int, ty_int_tuple, ty_int_list, ty_int_str, ty_tuple_bool, ty_tuple_int, ty_tuple_tuple, ty_tuple_list, ty_tuple_str, ty_list_bool, ty_list_int, ty_list_tuple, ty_list_list, ty_list_str, ty_str_bool, ty_str_int, ty_str_tuple, ty_str_list, ty_str_str, num_59]
  have hd : DivOk c 4 := ⟨by decide, by decide⟩
  have h5 : (c.fdiv 4).natAbs.log2 < 10000000 := log2_fdiv (by decide) h
  have hb : (2000 : Int) < B59 := by decide
  have h6 : (10 : Int) ^ 60 - 1 = 10 * B59 - 1 := by decide +kernel
  rw [h6]
  split
  · have z := fmod_lo (c.fdiv 4 * (B59.fdiv 11 + 104729)) (y := 10 * B59 - 1) (by omega)
    have z2 := fmod_hi (c.fdiv 4 * (B59.fdiv 11 + 104729)) (y := 10 * B59 - 1) (by omega)
    have hm : (B59.fdiv 11 + 104729).natAbs.log2 < 1000 := by decide +kernel
    exact ⟨hd, by decide, ⟨by decide, by decide⟩, mulOk_of (by omega) (by omega), by decide, by omega, by omega, by omega⟩
  · split
    · have z := fmod_lo (c.fdiv 4) (y := 1000) (by decide)
      have z2 := fmod_hi (c.fdiv 4) (y := 1000) (by decide)
      exact ⟨hd, by omega, by omega⟩
    · have z := fmod_lo (c.fdiv 4) (y := 9) (by decide)
      have z2 := fmod_hi (c.fdiv 4) (y := 9) (by decide)
      exact ⟨hd, by omega, by omega⟩
theorem w__law_measure : ∀ as S, (sp__law_measure as S).pre → wS T s__law_measure (startE ["one", "other", "pair"] as) S (fin (sp__law_measure as S)) := by
  intro as S h
  unfold sp__law_measure at h ⊢
  split at h
  rotate_left
  · exact h.elim
  rename_i a b
  change wS T s__law_measure [some (.int a), some (.int b), none] S _
  unfold s__law_measure
  simp only [↓wE_lit, ↓wE_bin, ↓wE_neg, ↓wE_nott, ↓wE_cmp, ↓wE_chain, ↓wE_andd, ↓wE_orr, ↓wE_ife, ↓wE_nil, ↓wE_cons, ↓wE_tup, ↓wE_lst, ↓wE_idx, ↓wE_slc, ↓wE_fld, ↓wE_meth, ↓wE_new, ↓wE_blt, ↓wE_isty, ↓wE_iscl, ↓wT_cmp, ↓wT_chain, ↓wT_nott, ↓wT_andd, ↓wT_orr, ↓wT_ife, ↓wT_lit, ↓wT_idx, ↓wT_bin, ↓wT_meth, ↓wT_blt, ↓wT_isty, ↓wT_iscl, ↓wT_fld, ↓wT_neg, ↓wT_nil, ↓wT_cons, ↓wT_tup, ↓wT_lst, ↓wT_slc, ↓wT_new, ↓wT_comp, ↓wA_nil, ↓wA_cons, ↓wO_nil, ↓wO_cons, ↓wE_compK, ↓wE_call0, ↓wT_call0, ↓wE_v0, ↓wE_v1, ↓wE_v2, ↓wE_v3, ↓wE_v4, ↓wE_v5, ↓wE_v6, ↓wE_v7, ↓wE_v8, ↓wE_v9, ↓wE_v10, ↓wE_v11, ↓wE_v12, ↓wE_v13, ↓wE_v14, ↓wE_v15, ↓wE_v16, ↓wE_v17, ↓wE_v18, ↓wE_v19, ↓wE_v20, ↓wE_v21, ↓wE_v22, ↓wE_v23, ↓wE_v24, ↓wE_v25, ↓wE_v26, ↓wE_v27, ↓wE_v28, ↓wE_v29, ↓wT_v0, ↓wT_v1, ↓wT_v2, ↓wT_v3, ↓wT_v4, ↓wT_v5, ↓wT_v6, ↓wT_v7, ↓wT_v8, ↓wT_v9, ↓wT_v10, ↓wT_v11, ↓wT_v12, ↓wT_v13, ↓wT_v14, ↓wT_v15, ↓wT_v16, ↓wT_v17, ↓wT_v18, ↓wT_v19, ↓wT_v20, ↓wT_v21, ↓wT_v22, ↓wT_v23, ↓wT_v24, ↓wT_v25, ↓wT_v26, ↓wT_v27, ↓wT_v28, ↓wT_v29, ↓tgt_0, ↓tgt_1, ↓tgt_2, ↓tgt_3, ↓tgt_4, ↓tgt_5, ↓tgt_6, ↓tgt_7, ↓tgt_8, ↓tgt_9, ↓tgt_10, ↓tgt_11, ↓tgt_12, ↓tgt_13, ↓tgt_14, ↓tgt_15, ↓tgt_16, ↓tgt_17, ↓tgt_18, ↓tgt_19, ↓tgt_20, ↓tgt_21, ↓tgt_22, ↓tgt_23, ↓tgt_24, ↓tgt_25, ↓tgt_26, ↓tgt_27, ↓tgt_28, ↓tgt_29, ↓tgt_tn, ↓tgt_tc, ↓wS_skip, ↓wS_seqL, ↓later_at, ↓wS_asg_var, ↓wS_asg_lit, ↓wS_asg_bin, ↓wS_asg_neg, ↓wS_asg_nott, ↓wS_asg_cmp, ↓wS_asg_chain, ↓wS_asg_andd, ↓wS_asg_orr, ↓wS_asg_ife, ↓wS_asg_tup, ↓wS_asg_lst, ↓wS_asg_idx, ↓wS_asg_slc, ↓wS_asg_fld, ↓wS_asg_call, ↓wS_asg_meth, ↓wS_asg_new, ↓wS_asg_blt, ↓wS_asg_isty, ↓wS_asg_iscl, ↓wS_asg_nil, ↓wS_asg_comp, ↓nxK_at, ↓wS_asgF, ↓wS_asgI, ↓wS_augN, ↓wS_augI, ↓wS_parL, ↓wS_expr, ↓wS_bm, ↓wS_ret, ↓wS_retN, ↓wS_ite, ↓wFor_cons, ↓wFor_nil, ↓wS_for, ↓wS_brk, ↓wS_cnt, ↓wS_raise, ↓tyIs_ref, ↓opB_addL, ↓opBm_appendL, ↓setIL, ↓isL_ref, ↓ob_add, ↓ob_adds, ↓ob_addt, ↓ob_sub, ↓ob_mul, ↓ob_fdiv, ↓ob_mod, ↓ob_pow, ↓oi_abs, ↓oi_lent, ↓oi_lens, ↓oi_lenr, ↓oi_sortedr, ↓oi_tupler, ↓oi_listr, ↓oi_sumr, ↓oi_anyr, ↓oi_allr, ↓oi_mxr, ↓oi_mnr, ↓oi_lenl, ↓oi_sortedl, ↓oi_tuplel, ↓oi_listl, ↓oi_suml, ↓oi_anyl, ↓oi_alll, ↓oi_mxl, ↓oi_mnl, ↓oi_max2, ↓oi_min2, ↓oi_int, ↓oi_intb, ↓oi_tuplet, ↓oi_listt, ↓oi_str, ↓oi_divmod, ↓tru_non, ↓tru_bl, ↓tru_int, ↓tru_str, ↓tru_tup, ↓tru_ref, ↓tru_sl, ↓tyIs_non, ↓tyIs_bl, ↓tyIs_int, ↓tyIs_str, ↓tyIs_tup, ↓tyIs_sl, ↓it_t, ↓it_sr, ↓it_er, ↓it_vr, ↓it_sl, ↓it_el, ↓it_vl, ↓it_z, ↓it_1, ↓it_2, ↓it_3, ↓ltI_i, ↓tl_i, ↓optI_i, ↓osl, ↓opIx_tup, ↓opIx_ref, ↓opIx_sl, ↓atQ_0, ↓atQ_1, ↓atQ_2, ↓atQ_3, ↓getL_put, ↓getL_put_ne, ↓getL_put_ne', ↓getL_sl, ↓opC_eq_int, ↓opC_ne_int, ↓opC_eq_bl, ↓opC_ne_bl, ↓opC_eq_t2, ↓opC_ne_t2, ↓opC_eq_t3, ↓opC_eq_t32, ↓opC_ne_t32, ↓opC_ne_t3, ↓opC_lt, ↓opC_le, ↓opC_gt, ↓opC_ge, ↓opC_is, ↓opC_isnot, ↓opC_in, ↓opC_notin, ↓finpu_rt, ↓finpu_nx, ↓finpu_ex, ↓finlaw_rt, ↓finlaw_nx, ↓finlaw_ex, ↓finV_rt, ↓finV_nx, ↓finV_ex, ↓finE_rt, ↓finO_rt, ↓finO_ex, ↓finE_ex, ↓finS_rt, ↓finS_ex, ↓finR_ex, put_none, put_put, Val.isNon, intsOf, atI_0, atI_1, atI_2, atI_3, cutG_to, cutG_from, sub_refl_iff, pu_pre, puV_pre, puE_pre, puO_pre, puS_pre, puR_pre, Option.some.injEq, exists_eq_left', exists_eq_left, exists_eq, exists_eq', Val.int.injEq, Val.bl.injEq, Val.str.injEq, Val.tup.injEq, Val.ref.injEq, List.cons.injEq, List.map_cons, List.map_nil, List.length_cons, List.length_nil, List.cons_append, List.nil_append, List.append_nil, Bool.false_eq_true, if_true, if_false, ite_true, ite_false, true_and, and_true, false_and, and_false, Bool.not_true, Bool.not_false, decide_eq_true_eq, bne_iff_ne, ne_eq, beq_iff_eq, put_same, imp_false, false_implies, implies_true, reduceCtorEq, not_false_eq_true, and_self, Bool.or_false, Bool.or_true, Bool.false_or, Bool.true_or, Bool.not_eq_true, Bool.not_eq_eq_eq_not, Bool.decide_eq_false, decide_eq_false_iff_not, Bool.not_eq_true', beq_eq_false_iff_ne, bne_eq_false_iff_eq, List.isEmpty_cons, List.isEmpty_nil, Int.reduceEq, Int.reduceNe, Int.reduceLT, Int.reduceLE, Int.reduceNeg, Int.reduceAdd, Int.reduceSub, Int.reduceMul, Int.reduceToNat, Nat.reduceLT, Nat.reduceLeDiff, Nat.reducePow, Nat.reduceAdd, Nat.reduceSub, ty_bool_bool, ty_bool_int, ty_bool_tuple, ty_bool_list, ty_bool_str, ty_int_bool, ty_int_int, ty_int_tuple, ty_int_list, ty_int_str, ty_tuple_bool, ty_tuple_int, ty_tuple_tuple, ty_tuple_list, ty_tuple_str, ty_list_bool, ty_list_int, ty_list_tuple, ty_list_list, ty_list_str, ty_str_bool, ty_str_int, ty_str_tuple, ty_str_list, ty_str_str]
  intro p hp
  refine ⟨[if a < 0 then -a else a, if b < 0 then -b else b], rfl, ?_⟩
  intro ns' q hperm hsort hqp
  have s1 : Sub S (put (put S p (.lst [.int (if a < 0 then -a else a), .int (if b < 0 then -b else b)])) q (.lst (ns'.map .int))) := (Sub.put hp).trans (Sub.put (by rw [put_none]; exact hqp))
  have start : ∃ x y : Int, ns' = [x, y] ∧ 0 ≤ x ∧ 0 ≤ y ∧ Int.gcd x y = Int.gcd a b := by
    have ea : Int.gcd (if a < 0 then -a else a) (if b < 0 then -b else b) = Int.gcd a b := by
      split <;> split <;> simp [Int.gcd_neg, Int.neg_gcd]
    rcases perm_two hperm with rfl | rfl
    · exact ⟨_, _, rfl, by split <;> omega, by split <;> omega, ea⟩
    · exact ⟨_, _, rfl, by split <;> omega, by split <;> omega, by rw [Int.gcd_comm]; exact ea⟩
  obtain ⟨x0, y0, rfl, hx0, hy0, hg0⟩ := start
  refine whl_inv (fun m env S' => ∃ (p : Addr) (x y : Int), env = [some (.int a), some (.int b), some (.ref p)] ∧ S' p = some (.lst [.int x, .int y]) ∧ Sub S S' ∧ 0 ≤ x ∧ 0 ≤ y ∧ m = x.natAbs ∧ Int.gcd x y = Int.gcd a b) _ ⟨q, x0, y0, rfl, put_same, s1, hx0, hy0, rfl, hg0⟩ ?_
  rintro m env S' ⟨r, x, y, rfl, hr, hs, hx, hy, rfl, hg⟩
  simp only [↓wE_lit, ↓wE_bin, ↓wE_neg, ↓wE_nott, ↓wE_cmp, ↓wE_chain, ↓wE_andd, ↓wE_orr, ↓wE_ife, ↓wE_nil, ↓wE_cons, ↓wE_tup, ↓wE_lst, ↓wE_idx, ↓wE_slc, ↓wE_fld, ↓wE_meth, ↓wE_new, ↓wE_blt, ↓wE_isty, ↓wE_iscl, ↓wT_cmp, ↓wT_chain, ↓wT_nott, ↓wT_andd, ↓wT_orr, ↓wT_ife, ↓wT_lit, ↓wT_idx, ↓wT_bin, ↓wT_meth, ↓wT_blt, ↓wT_isty, ↓wT_iscl, ↓wT_fld, ↓wT_neg, ↓wT_nil, ↓wT_cons, ↓wT_tup, ↓wT_lst, ↓wT_slc, ↓wT_new, ↓wT_comp, ↓wA_nil, ↓wA_cons, ↓wO_nil, ↓wO_cons, ↓wE_compK, ↓wE_call0, ↓wT_call0, ↓wE_v0, ↓wE_v1, ↓wE_v2, ↓wE_v3, ↓wE_v4, ↓wE_v5, ↓wE_v6, ↓wE_v7, ↓wE_v8, ↓wE_v9, ↓wE_v10, ↓wE_v11, ↓wE_v12, ↓wE_v13, ↓wE_v14, ↓wE_v15, ↓wE_v16, ↓wE_v17, ↓wE_v18, ↓wE_v19, ↓wE_v20, ↓wE_v21, ↓wE_v22, ↓wE_v23, ↓wE_v24, ↓wE_v25, ↓wE_v26, ↓wE_v27, ↓wE_v28, ↓wE_v29, ↓wT_v0, ↓wT_v1, ↓wT_v2, ↓wT_v3, ↓wT_v4, ↓wT_v5, ↓wT_v6, ↓wT_v7, ↓wT_v8, ↓wT_v9, ↓wT_v10, ↓wT_v11, ↓wT_v12, ↓wT_v13, ↓wT_v14, ↓wT_v15, ↓wT_v16, ↓wT_v17, ↓wT_v18, ↓wT_v19, ↓wT_v20, ↓wT_v21, ↓wT_v22, ↓wT_v23, ↓wT_v24, ↓wT_v25, ↓wT_v26, ↓wT_v27, ↓wT_v28, ↓wT_v29, ↓tgt_0, ↓tgt_1, ↓tgt_2, ↓tgt_3, ↓tgt_4, ↓tgt_5, ↓tgt_6, ↓tgt_7, ↓tgt_8, ↓tgt_9, ↓tgt_10, ↓tgt_11, ↓tgt_12, ↓tgt_13, ↓tgt_14, ↓tgt_15, ↓tgt_16, ↓tgt_17, ↓tgt_18, ↓tgt_19, ↓tgt_20, ↓tgt_21, ↓tgt_22, ↓tgt_23, ↓tgt_24, ↓tgt_25, ↓tgt_26, ↓tgt_27, ↓tgt_28, ↓tgt_29, ↓tgt_tn, ↓tgt_tc, ↓wS_skip, ↓wS_seqL, ↓later_at, ↓wS_asg_var, ↓wS_asg_lit, ↓wS_asg_bin, ↓wS_asg_neg, ↓wS_asg_nott, ↓wS_asg_cmp, ↓wS_asg_chain, ↓wS_asg_andd, ↓wS_asg_orr, ↓wS_asg_ife, ↓wS_asg_tup, ↓wS_asg_lst, ↓wS_asg_idx, ↓wS_asg_slc, ↓wS_asg_fld, ↓wS_asg_call, ↓wS_asg_meth, ↓wS_asg_new, ↓wS_asg_blt, ↓wS_asg_isty, ↓wS_asg_iscl, ↓wS_asg_nil, ↓wS_asg_comp, ↓nxK_at, ↓wS_asgF, ↓wS_asgI, ↓wS_augN, ↓wS_augI, ↓wS_parL, ↓wS_expr, ↓wS_bm, ↓wS_ret, ↓wS_retN, ↓wS_ite, ↓wFor_cons, ↓wFor_nil, ↓wS_for, ↓wS_brk, ↓wS_cnt, ↓wS_raise, ↓tyIs_ref, ↓opB_addL, ↓opBm_appendL, ↓setIL, ↓isL_ref, ↓ob_add, ↓ob_adds, ↓ob_addt, ↓ob_sub, ↓ob_mul, ↓ob_fdiv, ↓ob_mod, ↓ob_pow, ↓oi_abs, ↓oi_lent, ↓oi_lens, ↓oi_lenr, ↓oi_sortedr, ↓oi_tupler, ↓oi_listr, ↓oi_sumr, ↓oi_anyr, ↓oi_allr, ↓oi_mxr, ↓oi_mnr, ↓oi_lenl, ↓oi_sortedl, ↓oi_tuplel, ↓oi_listl, ↓oi_suml, ↓oi_anyl, ↓oi_alll, ↓oi_mxl, ↓oi_mnl, ↓oi_max2, ↓oi_min2, ↓oi_int, ↓oi_intb, ↓oi_tuplet, ↓oi_listt, ↓oi_str, ↓oi_divmod, ↓tru_non, ↓tru_bl, ↓tru_int, ↓tru_str, ↓tru_tup, ↓tru_ref, ↓tru_sl, ↓tyIs_non, ↓tyIs_bl, ↓tyIs_int, ↓tyIs_str, ↓tyIs_tup, ↓tyIs_sl, ↓it_t, ↓it_sr, ↓it_er, ↓it_vr, ↓it_sl, ↓it_el, ↓it_vl, ↓it_z, ↓it_1, ↓it_2, ↓it_3, ↓ltI_i, ↓tl_i, ↓optI_i, ↓osl, ↓opIx_tup, ↓opIx_ref, ↓opIx_sl, ↓atQ_0, ↓atQ_1, ↓atQ_2, ↓atQ_3, ↓getL_put, ↓getL_put_ne, ↓getL_put_ne', ↓getL_sl, ↓opC_eq_int, ↓opC_ne_int, ↓opC_eq_bl, ↓opC_ne_bl, ↓opC_eq_t2, ↓opC_ne_t2, ↓opC_eq_t3, ↓opC_eq_t32, ↓opC_ne_t32, ↓opC_ne_t3, ↓opC_lt, ↓opC_le, ↓opC_gt, ↓opC_ge, ↓opC_is, ↓opC_isnot, ↓opC_in, ↓opC_notin, ↓finpu_rt, ↓finpu_nx, ↓finpu_ex, ↓finlaw_rt, ↓finlaw_nx, ↓finlaw_ex, ↓finV_rt, ↓finV_nx, ↓finV_ex, ↓finE_rt, ↓finO_rt, ↓finO_ex, ↓finE_ex, ↓finS_rt, ↓finS_ex, ↓finR_ex, put_none, put_put, Val.isNon, intsOf, atI_0, atI_1, atI_2, atI_3, cutG_to, cutG_from, sub_refl_iff, pu_pre, puV_pre, puE_pre, puO_pre, puS_pre, puR_pre, Option.some.injEq, exists_eq_left', exists_eq_left, exists_eq, exists_eq', Val.int.injEq, Val.bl.injEq, Val.str.injEq, Val.tup.injEq, Val.ref.injEq, List.cons.injEq, List.map_cons, List.map_nil, List.length_cons, List.length_nil, List.cons_append, List.nil_append, List.append_nil, Bool.false_eq_true, if_true, if_false, ite_true, ite_false, true_and, and_true, false_and, and_false, Bool.not_true, Bool.not_false, decide_eq_true_eq, bne_iff_ne, ne_eq, beq_iff_eq, put_same, imp_false, false_implies, implies_true, reduceCtorEq, not_false_eq_true, and_self, Bool.or_false, Bool.or_true, Bool.false_or, Bool.true_or, Bool.not_eq_true, Bool.not_eq_eq_eq_not, Bool.decide_eq_false, decide_eq_false_iff_not, Bool.not_eq_true', beq_eq_false_iff_ne, bne_eq_false_iff_eq, List.isEmpty_cons, List.isEmpty_nil, Int.reduceEq, Int.reduceNe, Int.reduceLT, Int.reduceLE, Int.reduceNeg, Int.reduceAdd, Int.reduceSub, Int.reduceMul, Int.reduceToNat, Nat.reduceLT, Nat.reduceLeDiff, Nat.reducePow, Nat.reduceAdd, Nat.reduceSub, ty_bool_bool, ty_bool_int, ty_bool_tuple, ty_bool_list, ty_bool_str, ty_int_bool, ty_int_int, ty_int_tuple, ty_int_list, ty_int_str, ty_tuple_bool, ty_tuple_int, ty_tuple_tuple, ty_tuple_list, ty_tuple_str, ty_list_bool, ty_list_int, ty_list_tuple, ty_list_list, ty_list_str, ty_str_bool, ty_str_int, ty_str_tuple, ty_str_list, ty_str_str, ↓getL_ref hr]
  split
  · rename_i hx1
    refine ⟨by omega, fun p' hp' => ⟨(y.fmod x).natAbs, natAbs_fmod_lt y (by omega), p', y.fmod x, x, rfl, put_same, hs.trans (Sub.put hp'), fmod_lo y (by omega), hx, rfl, ?_⟩⟩
    rw [Int.gcd_comm, gcd_fmod, Int.gcd_comm]
    exact hg
  · rename_i hx1
    have e : x = 0 := by omega
    subst e
    rw [← hg, Int.gcd_comm, Int.gcd_zero_right]
    exact ⟨by omega, hs⟩
theorem w__law_reduced : ∀ as S, (sp__law_reduced as S).pre → wS T s__law_reduced (startE ["top", "bottom", "size", "part"] as) S (fin (sp__law_reduced as S)) := by
  intro as S h
  unfold sp__law_reduced at h ⊢
  split at h
  rotate_left
  · exact h.elim
  rename_i a b
  change wS T s__law_reduced [some (.int a), some (.int b), none, none] S _
  unfold s__law_reduced
  simp only [↓wE_lit, ↓wE_bin, ↓wE_neg, ↓wE_nott, ↓wE_cmp, ↓wE_chain, ↓wE_andd, ↓wE_orr, ↓wE_ife, ↓wE_nil, ↓wE_cons, ↓wE_tup, ↓wE_lst, ↓wE_idx, ↓wE_slc, ↓wE_fld, ↓wE_meth, ↓wE_new, ↓wE_blt, ↓wE_isty, ↓wE_iscl, ↓wT_cmp, ↓wT_chain, ↓wT_nott, ↓wT_andd, ↓wT_orr, ↓wT_ife, ↓wT_lit, ↓wT_idx, ↓wT_bin, ↓wT_meth, ↓wT_blt, ↓wT_isty, ↓wT_iscl, ↓wT_fld, ↓wT_neg, ↓wT_nil, ↓wT_cons, ↓wT_tup, ↓wT_lst, ↓wT_slc, ↓wT_new, ↓wT_comp, ↓wA_nil, ↓wA_cons, ↓wO_nil, ↓wO_cons, ↓wE_compK, ↓wE_call0, ↓wT_call0, ↓wE_v0, ↓wE_v1, ↓wE_v2, ↓wE_v3, ↓wE_v4, ↓wE_v5, ↓wE_v6, ↓wE_v7, ↓wE_v8, ↓wE_v9, ↓wE_v10, ↓wE_v11, ↓wE_v12, ↓wE_v13, ↓wE_v14, ↓wE_v15, ↓wE_v16, ↓wE_v17, ↓wE_v18, ↓wE_v19, ↓wE_v20, ↓wE_v21, ↓wE_v22, ↓wE_v23, ↓wE_v24, ↓wE_v25, ↓wE_v26, ↓wE_v27, ↓wE_v28, ↓wE_v29, ↓wT_v0, ↓wT_v1, ↓wT_v2, ↓wT_v3, ↓wT_v4, ↓wT_v5, ↓wT_v6, ↓wT_v7, ↓wT_v8, ↓wT_v9, ↓wT_v10, ↓wT_v11, ↓wT_v12, ↓wT_v13, ↓wT_v14, ↓wT_v15, ↓wT_v16, ↓wT_v17, ↓wT_v18, ↓wT_v19, ↓wT_v20, ↓wT_v21, ↓wT_v22, ↓wT_v23, ↓wT_v24, ↓wT_v25, ↓wT_v26, ↓wT_v27, ↓wT_v28, ↓wT_v29, ↓tgt_0, ↓tgt_1, ↓tgt_2, ↓tgt_3, ↓tgt_4, ↓tgt_5, ↓tgt_6, ↓tgt_7, ↓tgt_8, ↓tgt_9, ↓tgt_10, ↓tgt_11, ↓tgt_12, ↓tgt_13, ↓tgt_14, ↓tgt_15, ↓tgt_16, ↓tgt_17, ↓tgt_18, ↓tgt_19, ↓tgt_20, ↓tgt_21, ↓tgt_22, ↓tgt_23, ↓tgt_24, ↓tgt_25, ↓tgt_26, ↓tgt_27, ↓tgt_28, ↓tgt_29, ↓tgt_tn, ↓tgt_tc, ↓wS_skip, ↓wS_seqL, ↓later_at, ↓wS_asg_var, ↓wS_asg_lit, ↓wS_asg_bin, ↓wS_asg_neg, ↓wS_asg_nott, ↓wS_asg_cmp, ↓wS_asg_chain, ↓wS_asg_andd, ↓wS_asg_orr, ↓wS_asg_ife, ↓wS_asg_tup, ↓wS_asg_lst, ↓wS_asg_idx, ↓wS_asg_slc, ↓wS_asg_fld, ↓wS_asg_call, ↓wS_asg_meth, ↓wS_asg_new, ↓wS_asg_blt, ↓wS_asg_isty, ↓wS_asg_iscl, ↓wS_asg_nil, ↓wS_asg_comp, ↓nxK_at, ↓wS_asgF, ↓wS_asgI, ↓wS_augN, ↓wS_augI, ↓wS_parL, ↓wS_expr, ↓wS_bm, ↓wS_ret, ↓wS_retN, ↓wS_ite, ↓wFor_cons, ↓wFor_nil, ↓wS_for, ↓wS_brk, ↓wS_cnt, ↓wS_raise, ↓tyIs_ref, ↓opB_addL, ↓opBm_appendL, ↓setIL, ↓isL_ref, ↓ob_add, ↓ob_adds, ↓ob_addt, ↓ob_sub, ↓ob_mul, ↓ob_fdiv, ↓ob_mod, ↓ob_pow, ↓oi_abs, ↓oi_lent, ↓oi_lens, ↓oi_lenr, ↓oi_sortedr, ↓oi_tupler, ↓oi_listr, ↓oi_sumr, ↓oi_anyr, ↓oi_allr, ↓oi_mxr, ↓oi_mnr, ↓oi_lenl, ↓oi_sortedl, ↓oi_tuplel, ↓oi_listl, ↓oi_suml, ↓oi_anyl, ↓oi_alll, ↓oi_mxl, ↓oi_mnl, ↓oi_max2, ↓oi_min2, ↓oi_int, ↓oi_intb, ↓oi_tuplet, ↓oi_listt, ↓oi_str, ↓oi_divmod, ↓tru_non, ↓tru_bl, ↓tru_int, ↓tru_str, ↓tru_tup, ↓tru_ref, ↓tru_sl, ↓tyIs_non, ↓tyIs_bl, ↓tyIs_int, ↓tyIs_str, ↓tyIs_tup, ↓tyIs_sl, ↓it_t, ↓it_sr, ↓it_er, ↓it_vr, ↓it_sl, ↓it_el, ↓it_vl, ↓it_z, ↓it_1, ↓it_2, ↓it_3, ↓ltI_i, ↓tl_i, ↓optI_i, ↓osl, ↓opIx_tup, ↓opIx_ref, ↓opIx_sl, ↓atQ_0, ↓atQ_1, ↓atQ_2, ↓atQ_3, ↓getL_put, ↓getL_put_ne, ↓getL_put_ne', ↓getL_sl, ↓opC_eq_int, ↓opC_ne_int, ↓opC_eq_bl, ↓opC_ne_bl, ↓opC_eq_t2, ↓opC_ne_t2, ↓opC_eq_t3, ↓opC_eq_t32, ↓opC_ne_t32, ↓opC_ne_t3, ↓opC_lt, ↓opC_le, ↓opC_gt, ↓opC_ge, ↓opC_is, ↓opC_isnot, ↓opC_in, ↓opC_notin, ↓finpu_rt, ↓finpu_nx, ↓finpu_ex, ↓finlaw_rt, ↓finlaw_nx, ↓finlaw_ex, ↓finV_rt, ↓finV_nx, ↓finV_ex, ↓finE_rt, ↓finO_rt, ↓finO_ex, ↓finE_ex, ↓finS_rt, ↓finS_ex, ↓finR_ex, put_none, put_put, Val.isNon, intsOf, atI_0, atI_1, atI_2, atI_3, cutG_to, cutG_from, sub_refl_iff, pu_pre, puV_pre, puE_pre, puO_pre, puS_pre, puR_pre, Option.some.injEq, exists_eq_left', exists_eq_left, exists_eq, exists_eq', Val.int.injEq, Val.bl.injEq, Val.str.injEq, Val.tup.injEq, Val.ref.injEq, List.cons.injEq, List.map_cons, List.map_nil, List.length_cons, List.length_nil, List.cons_append, List.nil_append, List.append_nil, Bool.false_eq_true, if_true, if_false, ite_true, ite_false, true_and, and_true, false_and, and_false, Bool.not_true, Bool.not_false, decide_eq_true_eq, bne_iff_ne, ne_eq, beq_iff_eq, put_same, imp_false, false_implies, implies_true, reduceCtorEq, not_false_eq_true, and_self, Bool.or_false, Bool.or_true, Bool.false_or, Bool.true_or, Bool.not_eq_true, Bool.not_eq_eq_eq_not, Bool.decide_eq_false, decide_eq_false_iff_not, Bool.not_eq_true', beq_eq_false_iff_ne, bne_eq_false_iff_eq, List.isEmpty_cons, List.isEmpty_nil, Int.reduceEq, Int.reduceNe, Int.reduceLT, Int.reduceLE, Int.reduceNeg, Int.reduceAdd, Int.reduceSub, Int.reduceMul, Int.reduceToNat, Nat.reduceLT, Nat.reduceLeDiff, Nat.reducePow, Nat.reduceAdd, Nat.reduceSub, ty_bool_bool, ty_bool_int, ty_bool_tuple, ty_bool_list, ty_bool_str, ty_int_bool, ty_int_int, ty_int_tuple, ty_int_list, ty_int_str, ty_tuple_bool, ty_tuple_int, ty_tuple_tuple, ty_tuple_list, ty_tuple_str, ty_list_bool, ty_list_int, ty_list_tuple, ty_list_list, ty_list_str, ty_str_bool, ty_str_int, ty_str_tuple, ty_str_list, ty_str_str, ↓call__law_measure]
  obtain ⟨hn, ha, hb⟩ := h
  intro p hp
  have hg : 0 < Int.gcd b a := Nat.pos_of_ne_zero fun h => hn ⟨(Int.gcd_eq_zero_iff.mp h).2, (Int.gcd_eq_zero_iff.mp h).1⟩
  have hgl : (↑(Int.gcd b a) : Int).natAbs.log2 < 9000 := by
    have h1 := gcd_le b a
    have h2 : b.natAbs + a.natAbs < 2 ^ 1001 := by
      have e1 : a.natAbs < 2 ^ 1000 := by
        by_cases e : a.natAbs = 0
        · rw [e]; exact Nat.pow_pos (by decide)
        · exact (Nat.log2_lt e).mp ha
      have e2 : b.natAbs < 2 ^ 1000 := by
        by_cases e : b.natAbs = 0
        · rw [e]; exact Nat.pow_pos (by decide)
        · exact (Nat.log2_lt e).mp hb
      rw [Nat.pow_succ]
      omega
    rw [Int.natAbs_natCast]
    exact Nat.lt_of_lt_of_le ((Nat.log2_lt (by omega)).mpr (Nat.lt_of_le_of_lt h1 h2)) (by decide)
  refine comp_rule (fun x o => o = some (match x with | .int z => .int (z.fdiv ↑(Int.gcd b a)) | v => v)) hp (fun _ _ => trivial) (by simp [LIM]) ?_ ?_
  · intro x hx acc S' hD hk K hK
    obtain ⟨z, rfl⟩ : ∃ z, x = .int z := by
      simp only [List.mem_cons, List.not_mem_nil, or_false] at hx
      rcases hx with rfl | rfl
      · exact ⟨_, rfl⟩
      · exact ⟨_, rfl⟩
    simp only [↓wE_lit, ↓wE_bin, ↓wE_neg, ↓wE_nott, ↓wE_cmp, ↓wE_chain, ↓wE_andd, ↓wE_orr, ↓wE_ife, ↓wE_nil, ↓wE_cons, ↓wE_tup, ↓wE_lst, ↓wE_idx, ↓wE_slc, ↓wE_fld, ↓wE_meth, ↓wE_new, ↓wE_blt, ↓wE_isty, ↓wE_iscl, ↓wT_cmp, ↓wT_chain, ↓wT_nott, ↓wT_andd, ↓wT_orr, ↓wT_ife, ↓wT_lit, ↓wT_idx, ↓wT_bin, ↓wT_meth, ↓wT_blt, ↓wT_isty, ↓wT_iscl, ↓wT_fld, ↓wT_neg, ↓wT_nil, ↓wT_cons, ↓wT_tup, ↓wT_lst, ↓wT_slc, ↓wT_new, ↓wT_comp, ↓wA_nil, ↓wA_cons, ↓wO_nil, ↓wO_cons, ↓wE_compK, ↓wE_call0, ↓wT_call0, ↓wE_v0, ↓wE_v1, ↓wE_v2, ↓wE_v3, ↓wE_v4, ↓wE_v5, ↓wE_v6, ↓wE_v7, ↓wE_v8, ↓wE_v9, ↓wE_v10, ↓wE_v11, ↓wE_v12, ↓wE_v13, ↓wE_v14, ↓wE_v15, ↓wE_v16, ↓wE_v17, ↓wE_v18, ↓wE_v19, ↓wE_v20, ↓wE_v21, ↓wE_v22, ↓wE_v23, ↓wE_v24, ↓wE_v25, ↓wE_v26, ↓wE_v27, ↓wE_v28, ↓wE_v29, ↓wT_v0, ↓wT_v1, ↓wT_v2, ↓wT_v3, ↓wT_v4, ↓wT_v5, ↓wT_v6, ↓wT_v7, ↓wT_v8, ↓wT_v9, ↓wT_v10, ↓wT_v11, ↓wT_v12, ↓wT_v13, ↓wT_v14, ↓wT_v15, ↓wT_v16, ↓wT_v17, ↓wT_v18, ↓wT_v19, ↓wT_v20, ↓wT_v21, ↓wT_v22, ↓wT_v23, ↓wT_v24, ↓wT_v25, ↓wT_v26, ↓wT_v27, ↓wT_v28, ↓wT_v29, ↓tgt_0, ↓tgt_1, ↓tgt_2, ↓tgt_3, ↓tgt_4, ↓tgt_5, ↓tgt_6, ↓tgt_7, ↓tgt_8, ↓tgt_9, ↓tgt_10, ↓tgt_11, ↓tgt_12, ↓tgt_13, ↓tgt_14, ↓tgt_15, ↓tgt_16, ↓tgt_17, ↓tgt_18, ↓tgt_19, ↓tgt_20, ↓tgt_21, ↓tgt_22, ↓tgt_23, ↓tgt_24, ↓tgt_25, ↓tgt_26, ↓tgt_27, ↓tgt_28, ↓tgt_29, ↓tgt_tn, ↓tgt_tc, ↓wS_skip, ↓wS_seqL, ↓later_at, ↓wS_asg_var, ↓wS_asg_lit, ↓wS_asg_bin, ↓wS_asg_neg, ↓wS_asg_nott, ↓wS_asg_cmp, ↓wS_asg_chain, ↓wS_asg_andd, ↓wS_asg_orr, ↓wS_asg_ife, ↓wS_asg_tup, ↓wS_asg_lst, ↓wS_asg_idx, ↓wS_asg_slc, ↓wS_asg_fld, ↓wS_asg_call, ↓wS_asg_meth, ↓wS_asg_new, ↓wS_asg_blt, ↓wS_asg_isty, ↓wS_asg_iscl, ↓wS_asg_nil, ↓wS_asg_comp, ↓nxK_at, ↓wS_asgF, ↓wS_asgI, ↓wS_augN, ↓wS_augI, ↓wS_parL, ↓wS_expr, ↓wS_bm, ↓wS_ret, ↓wS_retN, ↓wS_ite, ↓wFor_cons, ↓wFor_nil, ↓wS_for, ↓wS_brk, ↓wS_cnt, ↓wS_raise, ↓tyIs_ref, ↓opB_addL, ↓opBm_appendL, ↓setIL, ↓isL_ref, ↓ob_add, ↓ob_adds, ↓ob_addt, ↓ob_sub, ↓ob_mul, ↓ob_fdiv, ↓ob_mod, ↓ob_pow, ↓oi_abs, ↓oi_lent, ↓oi_lens, ↓oi_lenr, ↓oi_sortedr, ↓oi_tupler, ↓oi_listr, ↓oi_sumr, ↓oi_anyr, ↓oi_allr, ↓oi_mxr, ↓oi_mnr, ↓oi_lenl, ↓oi_sortedl, ↓oi_tuplel, ↓oi_listl, ↓oi_suml, ↓oi_anyl, ↓oi_alll, ↓oi_mxl, ↓oi_mnl, ↓oi_max2, ↓oi_min2, ↓oi_int, ↓oi_intb, ↓oi_tuplet, ↓oi_listt, ↓oi_str, ↓oi_divmod, ↓tru_non, ↓tru_bl, ↓tru_int, ↓tru_str, ↓tru_tup, ↓tru_ref, ↓tru_sl, ↓tyIs_non, ↓tyIs_bl, ↓tyIs_int, ↓tyIs_str, ↓tyIs_tup, ↓tyIs_sl, ↓it_t, ↓it_sr, ↓it_er, ↓it_vr, ↓it_sl, ↓it_el, ↓it_vl, ↓it_z, ↓it_1, ↓it_2, ↓it_3, ↓ltI_i, ↓tl_i, ↓optI_i, ↓osl, ↓opIx_tup, ↓opIx_ref, ↓opIx_sl, ↓atQ_0, ↓atQ_1, ↓atQ_2, ↓atQ_3, ↓getL_put, ↓getL_put_ne, ↓getL_put_ne', ↓getL_sl, ↓opC_eq_int, ↓opC_ne_int, ↓opC_eq_bl, ↓opC_ne_bl, ↓opC_eq_t2, ↓opC_ne_t2, ↓opC_eq_t3, ↓opC_eq_t32, ↓opC_ne_t32, ↓opC_ne_t3, ↓opC_lt, ↓opC_le, ↓opC_gt, ↓opC_ge, ↓opC_is, ↓opC_isnot, ↓opC_in, ↓opC_notin, ↓finpu_rt, ↓finpu_nx, ↓finpu_ex, ↓finlaw_rt, ↓finlaw_nx, ↓finlaw_ex, ↓finV_rt, ↓finV_nx, ↓finV_ex, ↓finE_rt, ↓finO_rt, ↓finO_ex, ↓finE_ex, ↓finS_rt, ↓finS_ex, ↓finR_ex, put_none, put_put, Val.isNon, intsOf, atI_0, atI_1, atI_2, atI_3, cutG_to, cutG_from, sub_refl_iff, pu_pre, puV_pre, puE_pre, puO_pre, puS_pre, puR_pre, Option.some.injEq, exists_eq_left', exists_eq_left, exists_eq, exists_eq', Val.int.injEq, Val.bl.injEq, Val.str.injEq, Val.tup.injEq, Val.ref.injEq, List.cons.injEq, List.map_cons, List.map_nil, List.length_cons, List.length_nil, List.cons_append, List.nil_append, List.append_nil, Bool.false_eq_true, if_true, if_false, ite_true, ite_false, true_and, and_true, false_and, and_false, Bool.not_true, Bool.not_false, decide_eq_true_eq, bne_iff_ne, ne_eq, beq_iff_eq, put_same, imp_false, false_implies, implies_true, reduceCtorEq, not_false_eq_true, and_self, Bool.or_false, Bool.or_true, Bool.false_or, Bool.true_or, Bool.not_eq_true, Bool.not_eq_eq_eq_not, Bool.decide_eq_false, decide_eq_false_iff_not, Bool.not_eq_true', beq_eq_false_iff_ne, bne_eq_false_iff_eq, List.isEmpty_cons, List.isEmpty_nil, Int.reduceEq, Int.reduceNe, Int.reduceLT, Int.reduceLE, Int.reduceNeg, Int.reduceAdd, Int.reduceSub, Int.reduceMul, Int.reduceToNat, Nat.reduceLT, Nat.reduceLeDiff, Nat.reducePow, Nat.reduceAdd, Nat.reduceSub, ty_bool_bool, ty_bool_int, ty_bool_tuple, ty_bool_list, ty_bool_str, ty_int_bool, ty_int_int, ty_int_tuple, ty_int_list, ty_int_str, ty_tuple_bool, ty_tuple_int, ty_tuple_tuple, ty_tuple_list, ty_tuple_str, ty_list_bool, ty_list_int, ty_list_tuple, ty_list_list, ty_list_str, ty_str_bool, ty_str_int, ty_str_tuple, ty_str_list, ty_str_str, wipeE, List.set_cons_succ, List.set_cons_zero]
    exact ⟨⟨by omega, by omega⟩, hK _ _ rfl hD hk⟩
  · intro ys S1 hr hD hk
    have ey := rel_map hr
    simp only [List.map_cons, List.map_nil] at ey
    subst ey
    simp only [↓wE_lit, ↓wE_bin, ↓wE_neg, ↓wE_nott, ↓wE_cmp, ↓wE_chain, ↓wE_andd, ↓wE_orr, ↓wE_ife, ↓wE_nil, ↓wE_cons, ↓wE_tup, ↓wE_lst, ↓wE_idx, ↓wE_slc, ↓wE_fld, ↓wE_meth, ↓wE_new, ↓wE_blt, ↓wE_isty, ↓wE_iscl, ↓wT_cmp, ↓wT_chain, ↓wT_nott, ↓wT_andd, ↓wT_orr, ↓wT_ife, ↓wT_lit, ↓wT_idx, ↓wT_bin, ↓wT_meth, ↓wT_blt, ↓wT_isty, ↓wT_iscl, ↓wT_fld, ↓wT_neg, ↓wT_nil, ↓wT_cons, ↓wT_tup, ↓wT_lst, ↓wT_slc, ↓wT_new, ↓wT_comp, ↓wA_nil, ↓wA_cons, ↓wO_nil, ↓wO_cons, ↓wE_compK, ↓wE_call0, ↓wT_call0, ↓wE_v0, ↓wE_v1, ↓wE_v2, ↓wE_v3, ↓wE_v4, ↓wE_v5, ↓wE_v6, ↓wE_v7, ↓wE_v8, ↓wE_v9, ↓wE_v10, ↓wE_v11, ↓wE_v12, ↓wE_v13, ↓wE_v14, ↓wE_v15, ↓wE_v16, ↓wE_v17, ↓wE_v18, ↓wE_v19, ↓wE_v20, ↓wE_v21, ↓wE_v22, ↓wE_v23, ↓wE_v24, ↓wE_v25, ↓wE_v26, ↓wE_v27, ↓wE_v28, ↓wE_v29, ↓wT_v0, ↓wT_v1, ↓wT_v2, ↓wT_v3, ↓wT_v4, ↓wT_v5, ↓wT_v6, ↓wT_v7, ↓wT_v8, ↓wT_v9, ↓wT_v10, ↓wT_v11, ↓wT_v12, ↓wT_v13, ↓wT_v14, ↓wT_v15, ↓wT_v16, ↓wT_v17, ↓wT_v18, ↓wT_v19, ↓wT_v20, ↓wT_v21, ↓wT_v22, ↓wT_v23, ↓wT_v24, ↓wT_v25, ↓wT_v26, ↓wT_v27, ↓wT_v28, ↓wT_v29, ↓tgt_0, ↓tgt_1, ↓tgt_2, ↓tgt_3, ↓tgt_4, ↓tgt_5, ↓tgt_6, ↓tgt_7, ↓tgt_8, ↓tgt_9, ↓tgt_10, ↓tgt_11, ↓tgt_12, ↓tgt_13, ↓tgt_14, ↓tgt_15, ↓tgt_16, ↓tgt_17, ↓tgt_18, ↓tgt_19, ↓tgt_20, ↓tgt_21, ↓tgt_22, ↓tgt_23, ↓tgt_24, ↓tgt_25, ↓tgt_26, ↓tgt_27, ↓tgt_28, ↓tgt_29, ↓tgt_tn, ↓tgt_tc, ↓wS_skip, ↓wS_seqL, ↓later_at, ↓wS_asg_var, ↓wS_asg_lit, ↓wS_asg_bin, ↓wS_asg_neg, ↓wS_asg_nott, ↓wS_asg_cmp, ↓wS_asg_chain, ↓wS_asg_andd, ↓wS_asg_orr, ↓wS_asg_ife, ↓wS_asg_tup, ↓wS_asg_lst, ↓wS_asg_idx, ↓wS_asg_slc, ↓wS_asg_fld, ↓wS_asg_call, ↓wS_asg_meth, ↓wS_asg_new, ↓wS_asg_blt, ↓wS_asg_isty, ↓wS_asg_iscl, ↓wS_asg_nil, ↓wS_asg_comp, ↓nxK_at, ↓wS_asgF, ↓wS_asgI, ↓wS_augN, ↓wS_augI, ↓wS_parL, ↓wS_expr, ↓wS_bm, ↓wS_ret, ↓wS_retN, ↓wS_ite, ↓wFor_cons, ↓wFor_nil, ↓wS_for, ↓wS_brk, ↓wS_cnt, ↓wS_raise, ↓tyIs_ref, ↓opB_addL, ↓opBm_appendL, ↓setIL, ↓isL_ref, ↓ob_add, ↓ob_adds, ↓ob_addt, ↓ob_sub, ↓ob_mul, ↓ob_fdiv, ↓ob_mod, ↓ob_pow, ↓oi_abs, ↓oi_lent, ↓oi_lens, ↓oi_lenr, ↓oi_sortedr, ↓oi_tupler, ↓oi_listr, ↓oi_sumr, ↓oi_anyr, ↓oi_allr, ↓oi_mxr, ↓oi_mnr, ↓oi_lenl, ↓oi_sortedl, ↓oi_tuplel, ↓oi_listl, ↓oi_suml, ↓oi_anyl, ↓oi_alll, ↓oi_mxl, ↓oi_mnl, ↓oi_max2, ↓oi_min2, ↓oi_int, ↓oi_intb, ↓oi_tuplet, ↓oi_listt, ↓oi_str, ↓oi_divmod, ↓tru_non, ↓tru_bl, ↓tru_int, ↓tru_str, ↓tru_tup, ↓tru_ref, ↓tru_sl, ↓tyIs_non, ↓tyIs_bl, ↓tyIs_int, ↓tyIs_str, ↓tyIs_tup, ↓tyIs_sl, ↓it_t, ↓it_sr, ↓it_er, ↓it_vr, ↓it_sl, ↓it_el, ↓it_vl, ↓it_z, ↓it_1, ↓it_2, ↓it_3, ↓ltI_i, ↓tl_i, ↓optI_i, ↓osl, ↓opIx_tup, ↓opIx_ref, ↓opIx_sl, ↓atQ_0, ↓atQ_1, ↓atQ_2, ↓atQ_3, ↓getL_put, ↓getL_put_ne, ↓getL_put_ne', ↓getL_sl, ↓opC_eq_int, ↓opC_ne_int, ↓opC_eq_bl, ↓opC_ne_bl, ↓opC_eq_t2, ↓opC_ne_t2, ↓opC_eq_t3, ↓opC_eq_t32, ↓opC_ne_t32, ↓opC_ne_t3, ↓opC_lt, ↓opC_le, ↓opC_gt, ↓opC_ge, ↓opC_is, ↓opC_isnot, ↓opC_in, ↓opC_notin, ↓finpu_rt, ↓finpu_nx, ↓finpu_ex, ↓finlaw_rt, ↓finlaw_nx, ↓finlaw_ex, ↓finV_rt, ↓finV_nx, ↓finV_ex, ↓finE_rt, ↓finO_rt, ↓finO_ex, ↓finE_ex, ↓finS_rt, ↓finS_ex, ↓finR_ex, put_none, put_put, Val.isNon, intsOf, atI_0, atI_1, atI_2, atI_3, cutG_to, cutG_from, sub_refl_iff, pu_pre, puV_pre, puE_pre, puO_pre, puS_pre, puR_pre, Option.some.injEq, exists_eq_left', exists_eq_left, exists_eq, exists_eq', Val.int.injEq, Val.bl.injEq, Val.str.injEq, Val.tup.injEq, Val.ref.injEq, List.cons.injEq, List.map_cons, List.map_nil, List.length_cons, List.length_nil, List.cons_append, List.nil_append, List.append_nil, Bool.false_eq_true, if_true, if_false, ite_true, ite_false, true_and, and_true, false_and, and_false, Bool.not_true, Bool.not_false, decide_eq_true_eq, bne_iff_ne, ne_eq, beq_iff_eq, put_same, imp_false, false_implies, implies_true, reduceCtorEq, not_false_eq_true, and_self, Bool.or_false, Bool.or_true, Bool.false_or, Bool.true_or, Bool.not_eq_true, Bool.not_eq_eq_eq_not, Bool.decide_eq_false, decide_eq_false_iff_not, Bool.not_eq_true', beq_eq_false_iff_ne, bne_eq_false_iff_eq, List.isEmpty_cons, List.isEmpty_nil, Int.reduceEq, Int.reduceNe, Int.reduceLT, Int.reduceLE, Int.reduceNeg, Int.reduceAdd, Int.reduceSub, Int.reduceMul, Int.reduceToNat, Nat.reduceLT, Nat.reduceLeDiff, Nat.reducePow, Nat.reduceAdd, Nat.reduceSub, ty_bool_bool, ty_bool_int, ty_bool_tuple, ty_bool_list, ty_bool_str, ty_int_bool, ty_int_int, ty_int_tuple, ty_int_list, ty_int_str, ty_tuple_bool, ty_tuple_int, ty_tuple_tuple, ty_tuple_list, ty_tuple_str, ty_list_bool, ty_list_int, ty_list_tuple, ty_list_list, ty_list_str, ty_str_bool, ty_str_int, ty_str_tuple, ty_str_list, ty_str_str, ↓getL_ref hD]
    exact hk
theorem w__law_point : ∀ as S, (sp__law_point as S).pre → wS T s__law_point (startE ["x", "y", "w", "size", "part"] as) S (fin (sp__law_point as S)) := by
  intro as S h
  unfold sp__law_point at h ⊢
  split at h
  rotate_left
  · exact h.elim
  rename_i x y w
  change wS T s__law_point [some (.int x), some (.int y), some (.int w), none, none] S _
  unfold s__law_point
  simp only [↓wE_lit, ↓wE_bin, ↓wE_neg, ↓wE_nott, ↓wE_cmp, ↓wE_chain, ↓wE_andd, ↓wE_orr, ↓wE_ife, ↓wE_nil, ↓wE_cons, ↓wE_tup, ↓wE_lst, ↓wE_idx, ↓wE_slc, ↓wE_fld, ↓wE_meth, ↓wE_new, ↓wE_blt, ↓wE_isty, ↓wE_iscl, ↓wT_cmp, ↓wT_chain, ↓wT_nott, ↓wT_andd, ↓wT_orr, ↓wT_ife, ↓wT_lit, ↓wT_idx, ↓wT_bin, ↓wT_meth, ↓wT_blt, ↓wT_isty, ↓wT_iscl, ↓wT_fld, ↓wT_neg, ↓wT_nil, ↓wT_cons, ↓wT_tup, ↓wT_lst, ↓wT_slc, ↓wT_new, ↓wT_comp, ↓wA_nil, ↓wA_cons, ↓wO_nil, ↓wO_cons, ↓wE_compK, ↓wE_call0, ↓wT_call0, ↓wE_v0, ↓wE_v1, ↓wE_v2, ↓wE_v3, ↓wE_v4, ↓wE_v5, ↓wE_v6, ↓wE_v7, ↓wE_v8, ↓wE_v9, ↓wE_v10, ↓wE_v11, ↓wE_v12, ↓wE_v13, ↓wE_v14, ↓wE_v15, ↓wE_v16, ↓wE_v17, ↓wE_v18, ↓wE_v19, ↓wE_v20, ↓wE_v21, ↓wE_v22, ↓wE_v23, ↓wE_v24, ↓wE_v25, ↓wE_v26, ↓wE_v27, ↓wE_v28, ↓wE_v29, ↓wT_v0, ↓wT_v1, ↓wT_v2, ↓wT_v3, ↓wT_v4, ↓wT_v5, ↓wT_v6, ↓wT_v7, ↓wT_v8, ↓wT_v9, ↓wT_v10, ↓wT_v11, ↓wT_v12, ↓wT_v13, ↓wT_v14, ↓wT_v15, ↓wT_v16, ↓wT_v17, ↓wT_v18, ↓wT_v19, ↓wT_v20, ↓wT_v21, ↓wT_v22, ↓wT_v23, ↓wT_v24, ↓wT_v25, ↓wT_v26, ↓wT_v27, ↓wT_v28, ↓wT_v29, ↓tgt_0, ↓tgt_1, ↓tgt_2, ↓tgt_3, ↓tgt_4, ↓tgt_5, ↓tgt_6, ↓tgt_7, ↓tgt_8, ↓tgt_9, ↓tgt_10, ↓tgt_11, ↓tgt_12, ↓tgt_13, ↓tgt_14, ↓tgt_15, ↓tgt_16, ↓tgt_17, ↓tgt_18, ↓tgt_19, ↓tgt_20, ↓tgt_21, ↓tgt_22, ↓tgt_23, ↓tgt_24, ↓tgt_25, ↓tgt_26, ↓tgt_27, ↓tgt_28, ↓tgt_29, ↓tgt_tn, ↓tgt_tc, ↓wS_skip, ↓wS_seqL, ↓later_at, ↓wS_asg_var, ↓wS_asg_lit, ↓wS_asg_bin, ↓wS_asg_neg, ↓wS_asg_nott, ↓wS_asg_cmp, ↓wS_asg_chain, ↓wS_asg_andd, ↓wS_asg_orr, ↓wS_asg_ife, ↓wS_asg_tup, ↓wS_asg_lst, ↓wS_asg_idx, ↓wS_asg_slc, ↓wS_asg_fld, ↓wS_asg_call, ↓wS_asg_meth, ↓wS_asg_new, ↓wS_asg_blt, ↓wS_asg_isty, ↓wS_asg_iscl, ↓wS_asg_nil, ↓wS_asg_comp, ↓nxK_at, ↓wS_asgF, ↓wS_asgI, ↓wS_augN, ↓wS_augI, ↓wS_parL, ↓wS_expr, ↓wS_bm, ↓wS_ret, ↓wS_retN, ↓wS_ite, ↓wFor_cons, ↓wFor_nil, ↓wS_for, ↓wS_brk, ↓wS_cnt, ↓wS_raise, ↓tyIs_ref, ↓opB_addL, ↓opBm_appendL, ↓setIL, ↓isL_ref, ↓ob_add, ↓ob_adds, ↓ob_addt, ↓ob_sub, ↓ob_mul, ↓ob_fdiv, ↓ob_mod, ↓ob_pow, ↓oi_abs, ↓oi_lent, ↓oi_lens, ↓oi_lenr, ↓oi_sortedr, ↓oi_tupler, ↓oi_listr, ↓oi_sumr, ↓oi_anyr, ↓oi_allr, ↓oi_mxr, ↓oi_mnr, ↓oi_lenl, ↓oi_sortedl, ↓oi_tuplel, ↓oi_listl, ↓oi_suml, ↓oi_anyl, ↓oi_alll, ↓oi_mxl, ↓oi_mnl, ↓oi_max2, ↓oi_min2, ↓oi_int, ↓oi_intb, ↓oi_tuplet, ↓oi_listt, ↓oi_str, ↓oi_divmod, ↓tru_non, ↓tru_bl, ↓tru_int, ↓tru_str, ↓tru_tup, ↓tru_ref, ↓tru_sl, ↓tyIs_non, ↓tyIs_bl, ↓tyIs_int, ↓tyIs_str, ↓tyIs_tup, ↓tyIs_sl, ↓it_t, ↓it_sr, ↓it_er, ↓it_vr, ↓it_sl, ↓it_el, ↓it_vl, ↓it_z, ↓it_1, ↓it_2, ↓it_3, ↓ltI_i, ↓tl_i, ↓optI_i, ↓osl, ↓opIx_tup, ↓opIx_ref, ↓opIx_sl, ↓atQ_0, ↓atQ_1, ↓atQ_2, ↓atQ_3, ↓getL_put, ↓getL_put_ne, ↓getL_put_ne', ↓getL_sl, ↓opC_eq_int, ↓opC_ne_int, ↓opC_eq_bl, ↓opC_ne_bl, ↓opC_eq_t2, ↓opC_ne_t2, ↓opC_eq_t3, ↓opC_eq_t32, ↓opC_ne_t32, ↓opC_ne_t3, ↓opC_lt, ↓opC_le, ↓opC_gt, ↓opC_ge, ↓opC_is, ↓opC_isnot, ↓opC_in, ↓opC_notin, ↓finpu_rt, ↓finpu_nx, ↓finpu_ex, ↓finlaw_rt, ↓finlaw_nx, ↓finlaw_ex, ↓finV_rt, ↓finV_nx, ↓finV_ex, ↓finE_rt, ↓finO_rt, ↓finO_ex, ↓finE_ex, ↓finS_rt, ↓finS_ex, ↓finR_ex, put_none, put_put, Val.isNon, intsOf, atI_0, atI_1, atI_2, atI_3, cutG_to, cutG_from, sub_refl_iff, pu_pre, puV_pre, puE_pre, puO_pre, puS_pre, puR_pre, Option.some.injEq, exists_eq_left', exists_eq_left, exists_eq, exists_eq', Val.int.injEq, Val.bl.injEq, Val.str.injEq, Val.tup.injEq, Val.ref.injEq, List.cons.injEq, List.map_cons, List.map_nil, List.length_cons, List.length_nil, List.cons_append, List.nil_append, List.append_nil, Bool.false_eq_true, if_true, if_false, ite_true, ite_false, true_and, and_true, false_and, and_false, Bool.not_true, Bool.not_false, decide_eq_true_eq, bne_iff_ne, ne_eq, beq_iff_eq, put_same, imp_false, false_implies, implies_true, reduceCtorEq, not_false_eq_true, and_self, Bool.or_false, Bool.or_true, Bool.false_or, Bool.true_or, Bool.not_eq_true, Bool.not_eq_eq_eq_not, Bool.decide_eq_false, decide_eq_false_iff_not, Bool.not_eq_true', beq_eq_false_iff_ne, bne_eq_false_iff_eq, List.isEmpty_cons, List.isEmpty_nil, Int.reduceEq, Int.reduceNe, Int.reduceLT, Int.reduceLE, Int.reduceNeg, Int.reduceAdd, Int.reduceSub, Int.reduceMul, Int.reduceToNat, Nat.reduceLT, Nat.reduceLeDiff, Nat.reducePow, Nat.reduceAdd, Nat.reduceSub, ty_bool_bool, ty_bool_int, ty_bool_tuple, ty_bool_list, ty_bool_str, ty_int_bool, ty_int_int, ty_int_tuple, ty_int_list, ty_int_str, ty_tuple_bool, ty_tuple_int, ty_tuple_tuple, ty_tuple_list, ty_tuple_str, ty_list_bool, ty_list_int, ty_list_tuple, ty_list_list, ty_list_str, ty_str_bool, ty_str_int, ty_str_tuple, ty_str_list, ty_str_str, ↓call__law_measure]
  obtain ⟨hb, hl⟩ := h
  intro p hp
  rw [Int.gcd_comm w]
  have hg := gcd_pos (a := ↑(Int.gcd x y)) (b := w) (by omega)
  have hgl := gcd_log (a := ↑(Int.gcd x y)) (b := w) (by omega) hl
  refine comp_rule (fun v o => o = some (match v with | .int z => .int (z.fdiv ↑(Int.gcd (Int.gcd x y) w)) | v => v)) hp (fun _ _ => trivial) (by simp [LIM]) ?_ ?_
  · intro v hx acc S' hD hk K hK
    obtain ⟨z, rfl⟩ : ∃ z, v = .int z := by
      simp only [List.mem_cons, List.not_mem_nil, or_false] at hx
      rcases hx with rfl | rfl | rfl
      · exact ⟨_, rfl⟩
      · exact ⟨_, rfl⟩
      · exact ⟨_, rfl⟩
    simp only [↓wE_lit, ↓wE_bin, ↓wE_neg, ↓wE_nott, ↓wE_cmp, ↓wE_chain, ↓wE_andd, ↓wE_orr, ↓wE_ife, ↓wE_nil, ↓wE_cons, ↓wE_tup, ↓wE_lst, ↓wE_idx, ↓wE_slc, ↓wE_fld, ↓wE_meth, ↓wE_new, ↓wE_blt, ↓wE_isty, ↓wE_iscl, ↓wT_cmp, ↓wT_chain, ↓wT_nott, ↓wT_andd, ↓wT_orr, ↓wT_ife, ↓wT_lit, ↓wT_idx, ↓wT_bin, ↓wT_meth, ↓wT_blt, ↓wT_isty, ↓wT_iscl, ↓wT_fld, ↓wT_neg, ↓wT_nil, ↓wT_cons, ↓wT_tup, ↓wT_lst, ↓wT_slc, ↓wT_new, ↓wT_comp, ↓wA_nil, ↓wA_cons, ↓wO_nil, ↓wO_cons, ↓wE_compK, ↓wE_call0, ↓wT_call0, ↓wE_v0, ↓wE_v1, ↓wE_v2, ↓wE_v3, ↓wE_v4, ↓wE_v5, ↓wE_v6, ↓wE_v7, ↓wE_v8, ↓wE_v9, ↓wE_v10, ↓wE_v11, ↓wE_v12, ↓wE_v13, ↓wE_v14, ↓wE_v15, ↓wE_v16, ↓wE_v17, ↓wE_v18, ↓wE_v19, ↓wE_v20, ↓wE_v21, ↓wE_v22, ↓wE_v23, ↓wE_v24, ↓wE_v25, ↓wE_v26, ↓wE_v27, ↓wE_v28, ↓wE_v29, ↓wT_v0, ↓wT_v1, ↓wT_v2, ↓wT_v3, ↓wT_v4, ↓wT_v5, ↓wT_v6, ↓wT_v7, ↓wT_v8, ↓wT_v9, ↓wT_v10, ↓wT_v11, ↓wT_v12, ↓wT_v13, ↓wT_v14, ↓wT_v15, ↓wT_v16, ↓wT_v17, ↓wT_v18, ↓wT_v19, ↓wT_v20, ↓wT_v21, ↓wT_v22, ↓wT_v23, ↓wT_v24, ↓wT_v25, ↓wT_v26, ↓wT_v27, ↓wT_v28, ↓wT_v29, ↓tgt_0, ↓tgt_1, ↓tgt_2, ↓tgt_3, ↓tgt_4, ↓tgt_5, ↓tgt_6, ↓tgt_7, ↓tgt_8, ↓tgt_9, ↓tgt_10, ↓tgt_11, ↓tgt_12, ↓tgt_13, ↓tgt_14, ↓tgt_15, ↓tgt_16, ↓tgt_17, ↓tgt_18, ↓tgt_19, ↓tgt_20, ↓tgt_21, ↓tgt_22, ↓tgt_23, ↓tgt_24, ↓tgt_25, ↓tgt_26, ↓tgt_27, ↓tgt_28, ↓tgt_29, ↓tgt_tn, ↓tgt_tc, ↓wS_skip, ↓wS_seqL, ↓later_at, ↓wS_asg_var, ↓wS_asg_lit, ↓wS_asg_bin, ↓wS_asg_neg, ↓wS_asg_nott, ↓wS_asg_cmp, ↓wS_asg_chain, ↓wS_asg_andd, ↓wS_asg_orr, ↓wS_asg_ife, ↓wS_asg_tup, ↓wS_asg_lst, ↓wS_asg_idx, ↓wS_asg_slc, ↓wS_asg_fld, ↓wS_asg_call, ↓wS_asg_meth, ↓wS_asg_new, ↓wS_asg_blt, ↓wS_asg_isty, ↓wS_asg_iscl, ↓wS_asg_nil, ↓wS_asg_comp, ↓nxK_at, ↓wS_asgF, ↓wS_asgI, ↓wS_augN, ↓wS_augI, ↓wS_parL, ↓wS_expr, ↓wS_bm, ↓wS_ret, ↓wS_retN, ↓wS_ite, ↓wFor_cons, ↓wFor_nil, ↓wS_for, ↓wS_brk, ↓wS_cnt, ↓wS_raise, ↓tyIs_ref, ↓opB_addL, ↓opBm_appendL, ↓setIL, ↓isL_ref, ↓ob_add, ↓ob_adds, ↓ob_addt, ↓ob_sub, ↓ob_mul, ↓ob_fdiv, ↓ob_mod, ↓ob_pow, ↓oi_abs, ↓oi_lent, ↓oi_lens, ↓oi_lenr, ↓oi_sortedr, ↓oi_tupler, ↓oi_listr, ↓oi_sumr, ↓oi_anyr, ↓oi_allr, ↓oi_mxr, ↓oi_mnr, ↓oi_lenl, ↓oi_sortedl, ↓oi_tuplel, ↓oi_listl, ↓oi_suml, ↓oi_anyl, ↓oi_alll, ↓oi_mxl, ↓oi_mnl, ↓oi_max2, ↓oi_min2, ↓oi_int, ↓oi_intb, ↓oi_tuplet, ↓oi_listt, ↓oi_str, ↓oi_divmod, ↓tru_non, ↓tru_bl, ↓tru_int, ↓tru_str, ↓tru_tup, ↓tru_ref, ↓tru_sl, ↓tyIs_non, ↓tyIs_bl, ↓tyIs_int, ↓tyIs_str, ↓tyIs_tup, ↓tyIs_sl, ↓it_t, ↓it_sr, ↓it_er, ↓it_vr, ↓it_sl, ↓it_el, ↓it_vl, ↓it_z, ↓it_1, ↓it_2, ↓it_3, ↓ltI_i, ↓tl_i, ↓optI_i, ↓osl, ↓opIx_tup, ↓opIx_ref, ↓opIx_sl, ↓atQ_0, ↓atQ_1, ↓atQ_2, ↓atQ_3, ↓getL_put, ↓getL_put_ne, ↓getL_put_ne', ↓getL_sl, ↓opC_eq_int, ↓opC_ne_int, ↓opC_eq_bl, ↓opC_ne_bl, ↓opC_eq_t2, ↓opC_ne_t2, ↓opC_eq_t3, ↓opC_eq_t32, ↓opC_ne_t32, ↓opC_ne_t3, ↓opC_lt, ↓opC_le, ↓opC_gt, ↓opC_ge, ↓opC_is, ↓opC_isnot, ↓opC_in, ↓opC_notin, ↓finpu_rt, ↓finpu_nx, ↓finpu_ex, ↓finlaw_rt, ↓finlaw_nx, ↓finlaw_ex, ↓finV_rt, ↓finV_nx, ↓finV_ex, ↓finE_rt, ↓finO_rt, ↓finO_ex, ↓finE_ex, ↓finS_rt, ↓finS_ex, ↓finR_ex, put_none, put_put, Val.isNon, intsOf, atI_0, atI_1, atI_2, atI_3, cutG_to, cutG_from, sub_refl_iff, pu_pre, puV_pre, puE_pre, puO_pre, puS_pre, puR_pre, Option.some.injEq, exists_eq_left', exists_eq_left, exists_eq, exists_eq', Val.int.injEq, Val.bl.injEq, Val.str.injEq, Val.tup.injEq, Val.ref.injEq, List.cons.injEq, List.map_cons, List.map_nil, List.length_cons, List.length_nil, List.cons_append, List.nil_append, List.append_nil, Bool.false_eq_true, if_true, if_false, ite_true, ite_false, true_and, and_true, false_and, and_false, Bool.not_true, Bool.not_false, decide_eq_true_eq, bne_iff_ne, ne_eq, beq_iff_eq, put_same, imp_false, false_implies, implies_true, reduceCtorEq, not_false_eq_true, and_self, Bool.or_false, Bool.or_true, Bool.false_or, Bool.true_or, Bool.not_eq_true, Bool.not_eq_eq_eq_not, Bool.decide_eq_false, decide_eq_false_iff_not, Bool.not_eq_true', beq_eq_false_iff_ne, bne_eq_false_iff_eq, List.isEmpty_cons, List.isEmpty_nil, Int.reduceEq, Int.reduceNe, Int.reduceLT, Int.reduceLE, Int.reduceNeg, Int.reduceAdd, Int.reduceSub, Int.reduceMul, Int.reduceToNat, Nat.reduceLT, Nat.reduceLeDiff, Nat.reducePow, Nat.reduceAdd, Nat.reduceSub, ty_bool_bool, ty_bool_int, ty_bool_tuple, ty_bool_list, ty_bool_str, ty_int_bool, ty_int_int, ty_int_tuple, ty_int_list, ty_int_str, ty_tuple_bool, ty_tuple_int, ty_tuple_tuple, ty_tuple_list, ty_tuple_str, ty_list_bool, ty_list_int, ty_list_tuple, ty_list_list, ty_list_str, ty_str_bool, ty_str_int, ty_str_tuple, ty_str_list, ty_str_str, wipeE, List.set_cons_succ, List.set_cons_zero]
    exact ⟨⟨by omega, by omega⟩, hK _ _ rfl hD hk⟩
  · intro ys S1 hr hD hk
    have ey := rel_map hr
    simp only [List.map_cons, List.map_nil] at ey
    subst ey
    simp only [↓wE_lit, ↓wE_bin, ↓wE_neg, ↓wE_nott, ↓wE_cmp, ↓wE_chain, ↓wE_andd, ↓wE_orr, ↓wE_ife, ↓wE_nil, ↓wE_cons, ↓wE_tup, ↓wE_lst, ↓wE_idx, ↓wE_slc, ↓wE_fld, ↓wE_meth, ↓wE_new, ↓wE_blt, ↓wE_isty, ↓wE_iscl, ↓wT_cmp, ↓wT_chain, ↓wT_nott, ↓wT_andd, ↓wT_orr, ↓wT_ife, ↓wT_lit, ↓wT_idx, ↓wT_bin, ↓wT_meth, ↓wT_blt, ↓wT_isty, ↓wT_iscl, ↓wT_fld, ↓wT_neg, ↓wT_nil, ↓wT_cons, ↓wT_tup, ↓wT_lst, ↓wT_slc, ↓wT_new, ↓wT_comp, ↓wA_nil, ↓wA_cons, ↓wO_nil, ↓wO_cons, ↓wE_compK, ↓wE_call0, ↓wT_call0, ↓wE_v0, ↓wE_v1, ↓wE_v2, ↓wE_v3, ↓wE_v4, ↓wE_v5, ↓wE_v6, ↓wE_v7, ↓wE_v8, ↓wE_v9, ↓wE_v10, ↓wE_v11, ↓wE_v12, ↓wE_v13, ↓wE_v14, ↓wE_v15, ↓wE_v16, ↓wE_v17, ↓wE_v18, ↓wE_v19, ↓wE_v20, ↓wE_v21, ↓wE_v22, ↓wE_v23, ↓wE_v24, ↓wE_v25, ↓wE_v26, ↓wE_v27, ↓wE_v28, ↓wE_v29, ↓wT_v0, ↓wT_v1, ↓wT_v2, ↓wT_v3, ↓wT_v4, ↓wT_v5, ↓wT_v6, ↓wT_v7, ↓wT_v8, ↓wT_v9, ↓wT_v10, ↓wT_v11, ↓wT_v12, ↓wT_v13, ↓wT_v14, ↓wT_v15, ↓wT_v16, ↓wT_v17, ↓wT_v18, ↓wT_v19, ↓wT_v20, ↓wT_v21, ↓wT_v22, ↓wT_v23, ↓wT_v24, ↓wT_v25, ↓wT_v26, ↓wT_v27, ↓wT_v28, ↓wT_v29, ↓tgt_0, ↓tgt_1, ↓tgt_2, ↓tgt_3, ↓tgt_4, ↓tgt_5, ↓tgt_6, ↓tgt_7, ↓tgt_8, ↓tgt_9, ↓tgt_10, ↓tgt_11, ↓tgt_12, ↓tgt_13, ↓tgt_14, ↓tgt_15, ↓tgt_16, ↓tgt_17, ↓tgt_18, ↓tgt_19, ↓tgt_20, ↓tgt_21, ↓tgt_22, ↓tgt_23, ↓tgt_24, ↓tgt_25, ↓tgt_26, ↓tgt_27, ↓tgt_28, ↓tgt_29, ↓tgt_tn, ↓tgt_tc, ↓wS_skip, ↓wS_seqL, ↓later_at, ↓wS_asg_var, ↓wS_asg_lit, ↓wS_asg_bin, ↓wS_asg_neg, ↓wS_asg_nott, ↓wS_asg_cmp, ↓wS_asg_chain, ↓wS_asg_andd, ↓wS_asg_orr, ↓wS_asg_ife, ↓wS_asg_tup, ↓wS_asg_lst, ↓wS_asg_idx, ↓wS_asg_slc, ↓wS_asg_fld, ↓wS_asg_call, ↓wS_asg_meth, ↓wS_asg_new, ↓wS_asg_blt, ↓wS_asg_isty, ↓wS_asg_iscl, ↓wS_asg_nil, ↓wS_asg_comp, ↓nxK_at, ↓wS_asgF, ↓wS_asgI, ↓wS_augN, ↓wS_augI, ↓wS_parL, ↓wS_expr, ↓wS_bm, ↓wS_ret, ↓wS_retN, ↓wS_ite, ↓wFor_cons, ↓wFor_nil, ↓wS_for, ↓wS_brk, ↓wS_cnt, ↓wS_raise, ↓tyIs_ref, ↓opB_addL, ↓opBm_appendL, ↓setIL, ↓isL_ref, ↓ob_add, ↓ob_adds, ↓ob_addt, ↓ob_sub, ↓ob_mul, ↓ob_fdiv, ↓ob_mod, ↓ob_pow, ↓oi_abs, ↓oi_lent, ↓oi_lens, ↓oi_lenr, ↓oi_sortedr, ↓oi_tupler, ↓oi_listr, ↓oi_sumr, ↓oi_anyr, ↓oi_allr, ↓oi_mxr, ↓oi_mnr, ↓oi_lenl, ↓oi_sortedl, ↓oi_tuplel, ↓oi_listl, ↓oi_suml, ↓oi_anyl, ↓oi_alll, ↓oi_mxl, ↓oi_mnl, ↓oi_max2, ↓oi_min2, ↓oi_int, ↓oi_intb, ↓oi_tuplet, ↓oi_listt, ↓oi_str, ↓oi_divmod, ↓tru_non, ↓tru_bl, ↓tru_int, ↓tru_str, ↓tru_tup, ↓tru_ref, ↓tru_sl, ↓tyIs_non, ↓tyIs_bl, ↓tyIs_int, ↓tyIs_str, ↓tyIs_tup, ↓tyIs_sl, ↓it_t, ↓it_sr, ↓it_er, ↓it_vr, ↓it_sl, ↓it_el, ↓it_vl, ↓it_z, ↓it_1, ↓it_2, ↓it_3, ↓ltI_i, ↓tl_i, ↓optI_i, ↓osl, ↓opIx_tup, ↓opIx_ref, ↓opIx_sl, ↓atQ_0, ↓atQ_1, ↓atQ_2, ↓atQ_3, ↓getL_put, ↓getL_put_ne, ↓getL_put_ne', ↓getL_sl, ↓opC_eq_int, ↓opC_ne_int, ↓opC_eq_bl, ↓opC_ne_bl, ↓opC_eq_t2, ↓opC_ne_t2, ↓opC_eq_t3, ↓opC_eq_t32, ↓opC_ne_t32, ↓opC_ne_t3, ↓opC_lt, ↓opC_le, ↓opC_gt, ↓opC_ge, ↓opC_is, ↓opC_isnot, ↓opC_in, ↓opC_notin, ↓finpu_rt, ↓finpu_nx, ↓finpu_ex, ↓finlaw_rt, ↓finlaw_nx, ↓finlaw_ex, ↓finV_rt, ↓finV_nx, ↓finV_ex, ↓finE_rt, ↓finO_rt, ↓finO_ex, ↓finE_ex, ↓finS_rt, ↓finS_ex, ↓finR_ex, put_none, put_put, Val.isNon, intsOf, atI_0, atI_1, atI_2, atI_3, cutG_to, cutG_from, sub_refl_iff, pu_pre, puV_pre, puE_pre, puO_pre, puS_pre, puR_pre, Option.some.injEq, exists_eq_left', exists_eq_left, exists_eq, exists_eq', Val.int.injEq, Val.bl.injEq, Val.str.injEq, Val.tup.injEq, Val.ref.injEq, List.cons.injEq, List.map_cons, List.map_nil, List.length_cons, List.length_nil, List.cons_append, List.nil_append, List.append_nil, Bool.false_eq_true, if_true, if_false, ite_true, ite_false, true_and, and_true, false_and, and_false, Bool.not_true, Bool.not_false, decide_eq_true_eq, bne_iff_ne, ne_eq, beq_iff_eq, put_same, imp_false, false_implies, implies_true, reduceCtorEq, not_false_eq_true, and_self, Bool.or_false, Bool.or_true, Bool.false_or, Bool.true_or, Bool.not_eq_true, Bool.not_eq_eq_eq_not, Bool.decide_eq_false, decide_eq_false_iff_not, Bool.not_eq_true', beq_eq_false_iff_ne, bne_eq_false_iff_eq, List.isEmpty_cons, List.isEmpty_nil, Int.reduceEq, Int.reduceNe, Int.reduceLT, Int.reduceLE, Int.reduceNeg, Int.reduceAdd, Int.reduceSub, Int.reduceMul, Int.reduceToNat, Nat.reduceLT, Nat.reduceLeDiff, Nat.reducePow, Nat.reduceAdd, Nat.reduceSub, ty_bool_bool, ty_bool_int, ty_bool_tuple, ty_bool_list, ty_bool_str, ty_int_bool, ty_int_int, ty_int_tuple, ty_int_list, ty_int_str, ty_tuple_bool, ty_tuple_int, ty_tuple_tuple, ty_tuple_list, ty_tuple_str, ty_list_bool, ty_list_int, ty_list_tuple, ty_list_list, ty_list_str, ty_str_bool, ty_str_int, ty_str_tuple, ty_str_list, ty_str_str, ↓getL_ref hD]
    exact ⟨⟨_, ⟨rfl, rfl, rfl⟩, isP_pos hb⟩, hk⟩
theorem w__law_heading : ∀ as S, (sp__law_heading as S).pre → wS T s__law_heading (startE ["a", "b"] as) S (fin (sp__law_heading as S)) := by
  intro as S h
  unfold sp__law_heading at h ⊢
  split at h
  rotate_left
  · exact h.elim
  rename_i a b
  change wS T s__law_heading [some (.int a), some (.int b)] S _
  unfold s__law_heading
  simp only [↓wE_lit, ↓wE_bin, ↓wE_neg, ↓wE_nott, ↓wE_cmp, ↓wE_chain, ↓wE_andd, ↓wE_orr, ↓wE_ife, ↓wE_nil, ↓wE_cons, ↓wE_tup, ↓wE_lst, ↓wE_idx, ↓wE_slc, ↓wE_fld, ↓wE_meth, ↓wE_new, ↓wE_blt, ↓wE_isty, ↓wE_iscl, ↓wT_cmp, ↓wT_chain, ↓wT_nott, ↓wT_andd, ↓wT_orr, ↓wT_ife, ↓wT_lit, ↓wT_idx, ↓wT_bin, ↓wT_meth, ↓wT_blt, ↓wT_isty, ↓wT_iscl, ↓wT_fld, ↓wT_neg, ↓wT_nil, ↓wT_cons, ↓wT_tup, ↓wT_lst, ↓wT_slc, ↓wT_new, ↓wT_comp, ↓wA_nil, ↓wA_cons, ↓wO_nil, ↓wO_cons, ↓wE_compK, ↓wE_call0, ↓wT_call0, ↓wE_v0, ↓wE_v1, ↓wE_v2, ↓wE_v3, ↓wE_v4, ↓wE_v5, ↓wE_v6, ↓wE_v7, ↓wE_v8, ↓wE_v9, ↓wE_v10, ↓wE_v11, ↓wE_v12, ↓wE_v13, ↓wE_v14, ↓wE_v15, ↓wE_v16, ↓wE_v17, ↓wE_v18, ↓wE_v19, ↓wE_v20, ↓wE_v21, ↓wE_v22, ↓wE_v23, ↓wE_v24, ↓wE_v25, ↓wE_v26, ↓wE_v27, ↓wE_v28, ↓wE_v29, ↓wT_v0, ↓wT_v1, ↓wT_v2, ↓wT_v3, ↓wT_v4, ↓wT_v5, ↓wT_v6, ↓wT_v7, ↓wT_v8, ↓wT_v9, ↓wT_v10, ↓wT_v11, ↓wT_v12, ↓wT_v13, ↓wT_v14, ↓wT_v15, ↓wT_v16, ↓wT_v17, ↓wT_v18, ↓wT_v19, ↓wT_v20, ↓wT_v21, ↓wT_v22, ↓wT_v23, ↓wT_v24, ↓wT_v25, ↓wT_v26, ↓wT_v27, ↓wT_v28, ↓wT_v29, ↓tgt_0, ↓tgt_1, ↓tgt_2, ↓tgt_3, ↓tgt_4, ↓tgt_5, ↓tgt_6, ↓tgt_7, ↓tgt_8, ↓tgt_9, ↓tgt_10, ↓tgt_11, ↓tgt_12, ↓tgt_13, ↓tgt_14, ↓tgt_15, ↓tgt_16, ↓tgt_17, ↓tgt_18, ↓tgt_19, ↓tgt_20, ↓tgt_21, ↓tgt_22, ↓tgt_23, ↓tgt_24, ↓tgt_25, ↓tgt_26, ↓tgt_27, ↓tgt_28, ↓tgt_29, ↓tgt_tn, ↓tgt_tc, ↓wS_skip, ↓wS_seqL, ↓later_at, ↓wS_asg_var, ↓wS_asg_lit, ↓wS_asg_bin, ↓wS_asg_neg, ↓wS_asg_nott, ↓wS_asg_cmp, ↓wS_asg_chain, ↓wS_asg_andd, ↓wS_asg_orr, ↓wS_asg_ife, ↓wS_asg_tup, ↓wS_asg_lst, ↓wS_asg_idx, ↓wS_asg_slc, ↓wS_asg_fld, ↓wS_asg_call, ↓wS_asg_meth, ↓wS_asg_new, ↓wS_asg_blt, ↓wS_asg_isty, ↓wS_asg_iscl, ↓wS_asg_nil, ↓wS_asg_comp, ↓nxK_at, ↓wS_asgF, ↓wS_asgI, ↓wS_augN, ↓wS_augI, ↓wS_parL, ↓wS_expr, ↓wS_bm, ↓wS_ret, ↓wS_retN, ↓wS_ite, ↓wFor_cons, ↓wFor_nil, ↓wS_for, ↓wS_brk, ↓wS_cnt, ↓wS_raise, ↓tyIs_ref, ↓opB_addL, ↓opBm_appendL, ↓setIL, ↓isL_ref, ↓ob_add, ↓ob_adds, ↓ob_addt, ↓ob_sub, ↓ob_mul, ↓ob_fdiv, ↓ob_mod, ↓ob_pow, ↓oi_abs, ↓oi_lent, ↓oi_lens, ↓oi_lenr, ↓oi_sortedr, ↓oi_tupler, ↓oi_listr, ↓oi_sumr, ↓oi_anyr, ↓oi_allr, ↓oi_mxr, ↓oi_mnr, ↓oi_lenl, ↓oi_sortedl, ↓oi_tuplel, ↓oi_listl, ↓oi_suml, ↓oi_anyl, ↓oi_alll, ↓oi_mxl, ↓oi_mnl, ↓oi_max2, ↓oi_min2, ↓oi_int, ↓oi_intb, ↓oi_tuplet, ↓oi_listt, ↓oi_str, ↓oi_divmod, ↓tru_non, ↓tru_bl, ↓tru_int, ↓tru_str, ↓tru_tup, ↓tru_ref, ↓tru_sl, ↓tyIs_non, ↓tyIs_bl, ↓tyIs_int, ↓tyIs_str, ↓tyIs_tup, ↓tyIs_sl, ↓it_t, ↓it_sr, ↓it_er, ↓it_vr, ↓it_sl, ↓it_el, ↓it_vl, ↓it_z, ↓it_1, ↓it_2, ↓it_3, ↓ltI_i, ↓tl_i, ↓optI_i, ↓osl, ↓opIx_tup, ↓opIx_ref, ↓opIx_sl, ↓atQ_0, ↓atQ_1, ↓atQ_2, ↓atQ_3, ↓getL_put, ↓getL_put_ne, ↓getL_put_ne', ↓getL_sl, ↓opC_eq_int, ↓opC_ne_int, ↓opC_eq_bl, ↓opC_ne_bl, ↓opC_eq_t2, ↓opC_ne_t2, ↓opC_eq_t3, ↓opC_eq_t32, ↓opC_ne_t32, ↓opC_ne_t3, ↓opC_lt, ↓opC_le, ↓opC_gt, ↓opC_ge, ↓opC_is, ↓opC_isnot, ↓opC_in, ↓opC_notin, ↓finpu_rt, ↓finpu_nx, ↓finpu_ex, ↓finlaw_rt, ↓finlaw_nx, ↓finlaw_ex, ↓finV_rt, ↓finV_nx, ↓finV_ex, ↓finE_rt, ↓finO_rt, ↓finO_ex, ↓finE_ex, ↓finS_rt, ↓finS_ex, ↓finR_ex, put_none, put_put, Val.isNon, intsOf, atI_0, atI_1, atI_2, atI_3, cutG_to, cutG_from, sub_refl_iff, pu_pre, puV_pre, puE_pre, puO_pre, puS_pre, puR_pre, Option.some.injEq, exists_eq_left', exists_eq_left, exists_eq, exists_eq', Val.int.injEq, Val.bl.injEq, Val.str.injEq, Val.tup.injEq, Val.ref.injEq, List.cons.injEq, List.map_cons, List.map_nil, List.length_cons, List.length_nil, List.cons_append, List.nil_append, List.append_nil, Bool.false_eq_true, if_true, if_false, ite_true, ite_false, true_and, and_true, false_and, and_false, Bool.not_true, Bool.not_false, decide_eq_true_eq, bne_iff_ne, ne_eq, beq_iff_eq, put_same, imp_false, false_implies, implies_true, reduceCtorEq, not_false_eq_true, and_self, Bool.or_false, Bool.or_true, Bool.false_or, Bool.true_or, Bool.not_eq_true, Bool.not_eq_eq_eq_not, Bool.decide_eq_false, decide_eq_false_iff_not, Bool.not_eq_true', beq_eq_false_iff_ne, bne_eq_false_iff_eq, List.isEmpty_cons, List.isEmpty_nil, Int.reduceEq, Int.reduceNe, Int.reduceLT, Int.reduceLE, Int.reduceNeg, Int.reduceAdd, Int.reduceSub, Int.reduceMul, Int.reduceToNat, Nat.reduceLT, Nat.reduceLeDiff, Nat.reducePow, Nat.reduceAdd, Nat.reduceSub, ty_bool_bool, ty_bool_int, ty_bool_tuple, ty_bool_list, ty_bool_str, ty_int_bool, ty_int_int, ty_int_tuple, ty_int_list, ty_int_str, ty_tuple_bool, ty_tuple_int, ty_tuple_tuple, ty_tuple_list, ty_tuple_str, ty_list_bool, ty_list_int, ty_list_tuple, ty_list_list, ty_list_str, ty_str_bool, ty_str_int, ty_str_tuple, ty_str_list, ty_str_str, ↓call__law_reduced]
  obtain ⟨ha, hb⟩ := h
  have k : ¬(a = 0 ∧ b = 0) → Int.gcd (a.fdiv ↑(Int.gcd b a)) (b.fdiv ↑(Int.gcd b a)) = 1 ∧ (a.fdiv ↑(Int.gcd b a)).natAbs.log2 < 400 ∧ (b.fdiv ↑(Int.gcd b a)).natAbs.log2 < 400 := by
    intro hn
    rw [Int.gcd_comm b a]
    have hg : 0 < Int.gcd a b := Nat.pos_of_ne_zero fun h => hn (Int.gcd_eq_zero_iff.mp h)
    have h1 := log2_fdiv (y := ↑(Int.gcd a b)) (by omega) ha
    have h2 := log2_fdiv (y := ↑(Int.gcd a b)) (by omega) hb
    refine ⟨?_, by omega, by omega⟩
    rw [Int.fdiv_eq_ediv_of_dvd (Int.gcd_dvd_left a b), Int.fdiv_eq_ediv_of_dvd (Int.gcd_dvd_right a b)]
    exact Int.gcd_ediv_gcd_ediv_gcd hg
  split
  · split
    · exact ⟨(2, 1), ⟨rfl, rfl⟩, by decide +kernel, by decide +kernel, by decide +kernel⟩
    · have := k (by omega)
      exact ⟨⟨by omega, by omega, by omega⟩, (_, _), ⟨rfl, rfl⟩, this⟩
  · have := k (by omega)
    exact ⟨⟨by omega, by omega, by omega⟩, (_, _), ⟨rfl, rfl⟩, this⟩
theorem abs_log {z : Int} {n : Nat} (h : z.natAbs.log2 < n) : (if z < 0 then -z else z).natAbs.log2 < n := by
  split
  · rw [Int.natAbs_neg]; exact h
  · exact h
/-- inside stays inside -/
theorem in_low {x w p q : Int} {u : Int} (hw : 0 < w) (hq : 0 < q) (e : p * w = x * q) (hx : 0 < x) (hx2 : x < u * w) : 0 < p ∧ p < u * q := by
  have h1 : 0 < p * w := by rw [e]; exact Int.mul_pos hx hq
  have h2 : 0 < p := by
    rcases (by omega : p ≤ 0 ∨ 0 < p) with h | h
    · have := Int.mul_le_mul_of_nonneg_right h (show (0 : Int) ≤ w by omega)
      omega
    · exact h
  refine ⟨h2, ?_⟩
  rcases (by omega : p < u * q ∨ u * q ≤ p) with h | h
  · exact h
  · have h3 := Int.mul_le_mul_of_nonneg_right h (show (0 : Int) ≤ w by omega)
    have h4 := Int.mul_lt_mul_of_pos_right hx2 hq
    have h5 : u * q * w = u * w * q := by grind
    omega
theorem w__law_inside : ∀ as S, (sp__law_inside as S).pre → wS T s__law_inside (startE ["wide", "high", "some", "w"] as) S (fin (sp__law_inside as S)) := by
  intro as S h
  unfold sp__law_inside at h ⊢
  split at h
  rotate_left
  · exact h.elim
  rename_i u v q
  change wS T s__law_inside [some (.int u), some (.int v), some (.ref q), none] S _
  unfold s__law_inside
  obtain ⟨hu, hv, lu, lv, zs, hz, h3, hb, z2, e2, b2⟩ := h
  obtain ⟨z0, m0, e0⟩ := atI_map (cs := zs) (i := 0) (by decide) (by omega)
  obtain ⟨z1, m1, e1⟩ := atI_map (cs := zs) (i := 1) (by decide) (by omega)
  simp only [↓wE_lit, ↓wE_bin, ↓wE_neg, ↓wE_nott, ↓wE_cmp, ↓wE_chain, ↓wE_andd, ↓wE_orr, ↓wE_ife, ↓wE_nil, ↓wE_cons, ↓wE_tup, ↓wE_lst, ↓wE_idx, ↓wE_slc, ↓wE_fld, ↓wE_meth, ↓wE_new, ↓wE_blt, ↓wE_isty, ↓wE_iscl, ↓wT_cmp, ↓wT_chain, ↓wT_nott, ↓wT_andd, ↓wT_orr, ↓wT_ife, ↓wT_lit, ↓wT_idx, ↓wT_bin, ↓wT_meth, ↓wT_blt, ↓wT_isty, ↓wT_iscl, ↓wT_fld, ↓wT_neg, ↓wT_nil, ↓wT_cons, ↓wT_tup, ↓wT_lst, ↓wT_slc, ↓wT_new, ↓wT_comp, ↓wA_nil, ↓wA_cons, ↓wO_nil, ↓wO_cons, ↓wE_compK, ↓wE_call0, ↓wT_call0, ↓wE_v0, ↓wE_v1, ↓wE_v2, ↓wE_v3, ↓wE_v4, ↓wE_v5, ↓wE_v6, ↓wE_v7, ↓wE_v8, ↓wE_v9, ↓wE_v10, ↓wE_v11, ↓wE_v12, ↓wE_v13, ↓wE_v14, ↓wE_v15, ↓wE_v16, ↓wE_v17, ↓wE_v18, ↓wE_v19, ↓wE_v20, ↓wE_v21, ↓wE_v22, ↓wE_v23, ↓wE_v24, ↓wE_v25, ↓wE_v26, ↓wE_v27, ↓wE_v28, ↓wE_v29, ↓wT_v0, ↓wT_v1, ↓wT_v2, ↓wT_v3, ↓wT_v4, ↓wT_v5, ↓wT_v6, ↓wT_v7, ↓wT_v8, ↓wT_v9, ↓wT_v10, ↓wT_v11, ↓wT_v12, ↓wT_v13, ↓wT_v14, ↓wT_v15, ↓wT_v16, ↓wT_v17, ↓wT_v18, ↓wT_v19, ↓wT_v20, ↓wT_v21, ↓wT_v22, ↓wT_v23, ↓wT_v24, ↓wT_v25, ↓wT_v26, ↓wT_v27, ↓wT_v28, ↓wT_v29, ↓tgt_0, ↓tgt_1, ↓tgt_2, ↓tgt_3, ↓tgt_4, ↓tgt_5, ↓tgt_6, ↓tgt_7, ↓tgt_8, ↓tgt_9, ↓tgt_10, ↓tgt_11, ↓tgt_12, ↓tgt_13, ↓tgt_14, ↓tgt_15, ↓tgt_16, ↓tgt_17, ↓tgt_18, ↓tgt_19, ↓tgt_20, ↓tgt_21, ↓tgt_22, ↓tgt_23, ↓tgt_24, ↓tgt_25, ↓tgt_26, ↓tgt_27, ↓tgt_28, ↓tgt_29, ↓tgt_tn, ↓tgt_tc, ↓wS_skip, ↓wS_seqL, ↓later_at, ↓wS_asg_var, ↓wS_asg_lit, ↓wS_asg_bin, ↓wS_asg_neg, ↓wS_asg_nott, ↓wS_asg_cmp, ↓wS_asg_chain, ↓wS_asg_andd, ↓wS_asg_orr, ↓wS_asg_ife, ↓wS_asg_tup, ↓wS_asg_lst, ↓wS_asg_idx, ↓wS_asg_slc, ↓wS_asg_fld, ↓wS_asg_call, ↓wS_asg_meth, ↓wS_asg_new, ↓wS_asg_blt, ↓wS_asg_isty, ↓wS_asg_iscl, ↓wS_asg_nil, ↓wS_asg_comp, ↓nxK_at, ↓wS_asgF, ↓wS_asgI, ↓wS_augN, ↓wS_augI, ↓wS_parL, ↓wS_expr, ↓wS_bm, ↓wS_ret, ↓wS_retN, ↓wS_ite, ↓wFor_cons, ↓wFor_nil, ↓wS_for, ↓wS_brk, ↓wS_cnt, ↓wS_raise, ↓tyIs_ref, ↓opB_addL, ↓opBm_appendL, ↓setIL, ↓isL_ref, ↓ob_add, ↓ob_adds, ↓ob_addt, ↓ob_sub, ↓ob_mul, ↓ob_fdiv, ↓ob_mod, ↓ob_pow, ↓oi_abs, ↓oi_lent, ↓oi_lens, ↓oi_lenr, ↓oi_sortedr, ↓oi_tupler, ↓oi_listr, ↓oi_sumr, ↓oi_anyr, ↓oi_allr, ↓oi_mxr, ↓oi_mnr, ↓oi_lenl, ↓oi_sortedl, ↓oi_tuplel, ↓oi_listl, ↓oi_suml, ↓oi_anyl, ↓oi_alll, ↓oi_mxl, ↓oi_mnl, ↓oi_max2, ↓oi_min2, ↓oi_int, ↓oi_intb, ↓oi_tuplet, ↓oi_listt, ↓oi_str, ↓oi_divmod, ↓tru_non, ↓tru_bl, ↓tru_int, ↓tru_str, ↓tru_tup, ↓tru_ref, ↓tru_sl, ↓tyIs_non, ↓tyIs_bl, ↓tyIs_int, ↓tyIs_str, ↓tyIs_tup, ↓tyIs_sl, ↓it_t, ↓it_sr, ↓it_er, ↓it_vr, ↓it_sl, ↓it_el, ↓it_vl, ↓it_z, ↓it_1, ↓it_2, ↓it_3, ↓ltI_i, ↓tl_i, ↓optI_i, ↓osl, ↓opIx_tup, ↓opIx_ref, ↓opIx_sl, ↓atQ_0, ↓atQ_1, ↓atQ_2, ↓atQ_3, ↓getL_put, ↓getL_put_ne, ↓getL_put_ne', ↓getL_sl, ↓opC_eq_int, ↓opC_ne_int, ↓opC_eq_bl, ↓opC_ne_bl, ↓opC_eq_t2, ↓opC_ne_t2, ↓opC_eq_t3, ↓opC_eq_t32, ↓opC_ne_t32, ↓opC_ne_t3, ↓opC_lt, ↓opC_le, ↓opC_gt, ↓opC_ge, ↓opC_is, ↓opC_isnot, ↓opC_in, ↓opC_notin, ↓finpu_rt, ↓finpu_nx, ↓finpu_ex, ↓finlaw_rt, ↓finlaw_nx, ↓finlaw_ex, ↓finV_rt, ↓finV_nx, ↓finV_ex, ↓finE_rt, ↓finO_rt, ↓finO_ex, ↓finE_ex, ↓finS_rt, ↓finS_ex, ↓finR_ex, put_none, put_put, Val.isNon, intsOf, atI_0, atI_1, atI_2, atI_3, cutG_to, cutG_from, sub_refl_iff, pu_pre, puV_pre, puE_pre, puO_pre, puS_pre, puR_pre, Option.some.injEq, exists_eq_left', exists_eq_left, exists_eq, exists_eq', Val.int.injEq, Val.bl.injEq, Val.str.injEq, Val.tup.injEq, Val.ref.injEq, List.cons.injEq, List.map_cons, List.map_nil, List.length_cons, List.length_nil, List.cons_append, List.nil_append, List.append_nil, Bool.false_eq_true, if_true, if_false, ite_true, ite_false, true_and, and_true, false_and, and_false, Bool.not_true, Bool.not_false, decide_eq_true_eq, bne_iff_ne, ne_eq, beq_iff_eq, put_same, imp_false, false_implies, implies_true, reduceCtorEq, not_false_eq_true, and_self, Bool.or_false, Bool.or_true, Bool.false_or, Bool.true_or, Bool.not_eq_true, Bool.not_eq_eq_eq_not, Bool.decide_eq_false, decide_eq_false_iff_not, Bool.not_eq_true', beq_eq_false_iff_ne, bne_eq_false_iff_eq, List.isEmpty_cons, List.isEmpty_nil, Int.reduceEq, Int.reduceNe, Int.reduceLT, Int.reduceLE, Int.reduceNeg, Int.reduceAdd, Int.reduceSub, Int.reduceMul, Int.reduceToNat, Nat.reduceLT, Nat.reduceLeDiff, Nat.reducePow, Nat.reduceAdd, Nat.reduceSub, ty_bool_bool, ty_bool_int, ty_bool_tuple, ty_bool_list, ty_bool_str, ty_int_bool, ty_int_int, ty_int_tuple, ty_int_list, ty_int_str, ty_tuple_bool, ty_tuple_int, ty_tuple_tuple, ty_tuple_list, ty_tuple_str, ty_list_bool, ty_list_int, ty_list_tuple, ty_list_list, ty_list_str, ty_str_bool, ty_str_int, ty_str_tuple, ty_str_list, ty_str_str, ↓call__law_point, ↓getL_ref hz, ↓atQ_at e0, ↓atQ_at e1, ↓atQ_at e2]
  have lw0 := log2_add (n := 198) (show (2 : Int).natAbs.log2 < 198 by decide +kernel) (abs_log b2)
  have w2 : 2 ≤ 2 + (if z2 < 0 then -z2 else z2) := by split <;> omega
  generalize hw : 2 + (if z2 < 0 then -z2 else z2) = w at *
  have k1 : 2 ≤ u * w := by have := Int.mul_le_mul_of_nonneg_right (show 1 ≤ u by omega) (show (0 : Int) ≤ w by omega); omega
  have k2 : 2 ≤ v * w := by have := Int.mul_le_mul_of_nonneg_right (show 1 ≤ v by omega) (show (0 : Int) ≤ w by omega); omega
  have f1 := fmod_lo z0 (y := u * w - 1) (by omega)
  have f2 := fmod_hi z0 (y := u * w - 1) (by omega)
  have f3 := fmod_lo z1 (y := v * w - 1) (by omega)
  have f4 := fmod_hi z1 (y := v * w - 1) (by omega)
  refine ⟨mulOk_of (by omega) (by omega), by omega, mulOk_of (by omega) (by omega), by omega, ⟨by omega, by omega⟩, fun p hp => ⟨p, ⟨rfl, rfl, rfl⟩, ?_⟩⟩
  have i1 := in_low (by omega) hp.pos hp.ex (by omega) (show _ < u * w by omega)
  have i2 := in_low (by omega) hp.pos hp.ey (by omega) (show _ < v * w by omega)
  exact ⟨⟨hu, hv, i1.1, i2.1, i1.2, i2.2, hp.pos, lu, lv, Nat.lt_of_lt_of_le (log2_lt_of hp.le3 lw0) (by omega)⟩, hp.gcd⟩
theorem lg {x B : Int} {n : Nat} (hB : B.natAbs.log2 < n) (h0 : 0 ≤ x) (h1 : x ≤ B) : x.natAbs.log2 < n := log2_lt_of (show x.natAbs ≤ B.natAbs by omega) hB
theorem red1 {t b : Int} {n : Nat} (hb : 0 < b) (h1 : t.natAbs.log2 < n) (h2 : b.natAbs.log2 < n) : 0 < b.fdiv ↑(Int.gcd b t) ∧ (t.fdiv ↑(Int.gcd b t)).natAbs.log2 < n ∧ (b.fdiv ↑(Int.gcd b t)).natAbs.log2 < n := by
  have z := isT_pos (t := t) hb
  rw [Int.gcd_comm] at z
  exact ⟨z.pos, log2_lt_of z.le1 h1, log2_lt_of z.le2 h2⟩
theorem w__law_put : ∀ as S, (sp__law_put as S).pre → wS T s__law_put (startE ["wide", "high", "P", "heading", "t", "x", "y"] as) S (fin (sp__law_put as S)) := by
  intro as S h
  unfold sp__law_put at h ⊢
  split at h
  rotate_left
  · exact h.elim
  rename_i u v x y w a b t d
  change wS T s__law_put [some (.int u), some (.int v), some (.tup [.int x, .int y, .int w]), some (.tup [.int a, .int b]), some (.tup [.int t, .int d]), none, none] S _
  unfold s__law_put
  simp only [↓wE_lit, ↓wE_bin, ↓wE_neg, ↓wE_nott, ↓wE_cmp, ↓wE_chain, ↓wE_andd, ↓wE_orr, ↓wE_ife, ↓wE_nil, ↓wE_cons, ↓wE_tup, ↓wE_lst, ↓wE_idx, ↓wE_slc, ↓wE_fld, ↓wE_meth, ↓wE_new, ↓wE_blt, ↓wE_isty, ↓wE_iscl, ↓wT_cmp, ↓wT_chain, ↓wT_nott, ↓wT_andd, ↓wT_orr, ↓wT_ife, ↓wT_lit, ↓wT_idx, ↓wT_bin, ↓wT_meth, ↓wT_blt, ↓wT_isty, ↓wT_iscl, ↓wT_fld, ↓wT_neg, ↓wT_nil, ↓wT_cons, ↓wT_tup, ↓wT_lst, ↓wT_slc, ↓wT_new, ↓wT_comp, ↓wA_nil, ↓wA_cons, ↓wO_nil, ↓wO_cons, ↓wE_compK, ↓wE_call0, ↓wT_call0, ↓wE_v0, ↓wE_v1, ↓wE_v2, ↓wE_v3, ↓wE_v4, ↓wE_v5, ↓wE_v6, ↓wE_v7, ↓wE_v8, ↓wE_v9, ↓wE_v10, ↓wE_v11, ↓wE_v12, ↓wE_v13, ↓wE_v14, ↓wE_v15, ↓wE_v16, ↓wE_v17, ↓wE_v18, ↓wE_v19, ↓wE_v20, ↓wE_v21, ↓wE_v22, ↓wE_v23, ↓wE_v24, ↓wE_v25, ↓wE_v26, ↓wE_v27, ↓wE_v28, ↓wE_v29, ↓wT_v0, ↓wT_v1, ↓wT_v2, ↓wT_v3, ↓wT_v4, ↓wT_v5, ↓wT_v6, ↓wT_v7, ↓wT_v8, ↓wT_v9, ↓wT_v10, ↓wT_v11, ↓wT_v12, ↓wT_v13, ↓wT_v14, ↓wT_v15, ↓wT_v16, ↓wT_v17, ↓wT_v18, ↓wT_v19, ↓wT_v20, ↓wT_v21, ↓wT_v22, ↓wT_v23, ↓wT_v24, ↓wT_v25, ↓wT_v26, ↓wT_v27, ↓wT_v28, ↓wT_v29, ↓tgt_0, ↓tgt_1, ↓tgt_2, ↓tgt_3, ↓tgt_4, ↓tgt_5, ↓tgt_6, ↓tgt_7, ↓tgt_8, ↓tgt_9, ↓tgt_10, ↓tgt_11, ↓tgt_12, ↓tgt_13, ↓tgt_14, ↓tgt_15, ↓tgt_16, ↓tgt_17, ↓tgt_18, ↓tgt_19, ↓tgt_20, ↓tgt_21, ↓tgt_22, ↓tgt_23, ↓tgt_24, ↓tgt_25, ↓tgt_26, ↓tgt_27, ↓tgt_28, ↓tgt_29, ↓tgt_tn, ↓tgt_tc, ↓wS_skip, ↓wS_seqL, ↓later_at, ↓wS_asg_var, ↓wS_asg_lit, ↓wS_asg_bin, ↓wS_asg_neg, ↓wS_asg_nott, ↓wS_asg_cmp, ↓wS_asg_chain, ↓wS_asg_andd, ↓wS_asg_orr, ↓wS_asg_ife, ↓wS_asg_tup, ↓wS_asg_lst, ↓wS_asg_idx, ↓wS_asg_slc, ↓wS_asg_fld, ↓wS_asg_call, ↓wS_asg_meth, ↓wS_asg_new, ↓wS_asg_blt, ↓wS_asg_isty, ↓wS_asg_iscl, ↓wS_asg_nil, ↓wS_asg_comp, ↓nxK_at, ↓wS_asgF, ↓wS_asgI, ↓wS_augN, ↓wS_augI, ↓wS_parL, ↓wS_expr, ↓wS_bm, ↓wS_ret, ↓wS_retN, ↓wS_ite, ↓wFor_cons, ↓wFor_nil, ↓wS_for, ↓wS_brk, ↓wS_cnt, ↓wS_raise, ↓tyIs_ref, ↓opB_addL, ↓opBm_appendL, ↓setIL, ↓isL_ref, ↓ob_add, ↓ob_adds, ↓ob_addt, ↓ob_sub, ↓ob_mul, ↓ob_fdiv, ↓ob_mod, ↓ob_pow, ↓oi_abs, ↓oi_lent, ↓oi_lens, ↓oi_lenr, ↓oi_sortedr, ↓oi_tupler, ↓oi_listr, ↓oi_sumr, ↓oi_anyr, ↓oi_allr, ↓oi_mxr, ↓oi_mnr, ↓oi_lenl, ↓oi_sortedl, ↓oi_tuplel, ↓oi_listl, ↓oi_suml, ↓oi_anyl, ↓oi_alll, ↓oi_mxl, ↓oi_mnl, ↓oi_max2, ↓oi_min2, ↓oi_int, ↓oi_intb, ↓oi_tuplet, ↓oi_listt, ↓oi_str, ↓oi_divmod, ↓tru_non, ↓tru_bl, ↓tru_int, ↓tru_str, ↓tru_tup, ↓tru_ref, ↓tru_sl, ↓tyIs_non, ↓tyIs_bl, ↓tyIs_int, ↓tyIs_str, ↓tyIs_tup, ↓tyIs_sl, ↓it_t, ↓it_sr, ↓it_er, ↓it_vr, ↓it_sl, ↓it_el, ↓it_vl, ↓it_z, ↓it_1, ↓it_2, ↓it_3, ↓ltI_i, ↓tl_i, ↓optI_i, ↓osl, ↓opIx_tup, ↓opIx_ref, ↓opIx_sl, ↓atQ_0, ↓atQ_1, ↓atQ_2, ↓atQ_3, ↓getL_put, ↓getL_put_ne, ↓getL_put_ne', ↓getL_sl, ↓opC_eq_int, ↓opC_ne_int, ↓opC_eq_bl, ↓opC_ne_bl, ↓opC_eq_t2, ↓opC_ne_t2, ↓opC_eq_t3, ↓opC_eq_t32, ↓opC_ne_t32, ↓opC_ne_t3, ↓opC_lt, ↓opC_le, ↓opC_gt, ↓opC_ge, ↓opC_is, ↓opC_isnot, ↓opC_in, ↓opC_notin, ↓finpu_rt, ↓finpu_nx, ↓finpu_ex, ↓finlaw_rt, ↓finlaw_nx, ↓finlaw_ex, ↓finV_rt, ↓finV_nx, ↓finV_ex, ↓finE_rt, ↓finO_rt, ↓finO_ex, ↓finE_ex, ↓finS_rt, ↓finS_ex, ↓finR_ex, put_none, put_put, Val.isNon, intsOf, atI_0, atI_1, atI_2, atI_3, cutG_to, cutG_from, sub_refl_iff, pu_pre, puV_pre, puE_pre, puO_pre, puS_pre, puR_pre, Option.some.injEq, exists_eq_left', exists_eq_left, exists_eq, exists_eq', Val.int.injEq, Val.bl.injEq, Val.str.injEq, Val.tup.injEq, Val.ref.injEq, List.cons.injEq, List.map_cons, List.map_nil, List.length_cons, List.length_nil, List.cons_append, List.nil_append, List.append_nil, Bool.false_eq_true, if_true, if_false, ite_true, ite_false, true_and, and_true, false_and, and_false, Bool.not_true, Bool.not_false, decide_eq_true_eq, bne_iff_ne, ne_eq, beq_iff_eq, put_same, imp_false, false_implies, implies_true, reduceCtorEq, not_false_eq_true, and_self, Bool.or_false, Bool.or_true, Bool.false_or, Bool.true_or, Bool.not_eq_true, Bool.not_eq_eq_eq_not, Bool.decide_eq_false, decide_eq_false_iff_not, Bool.not_eq_true', beq_eq_false_iff_ne, bne_eq_false_iff_eq, List.isEmpty_cons, List.isEmpty_nil, Int.reduceEq, Int.reduceNe, Int.reduceLT, Int.reduceLE, Int.reduceNeg, Int.reduceAdd, Int.reduceSub, Int.reduceMul, Int.reduceToNat, Nat.reduceLT, Nat.reduceLeDiff, Nat.reducePow, Nat.reduceAdd, Nat.reduceSub, ty_bool_bool, ty_bool_int, ty_bool_tuple, ty_bool_list, ty_bool_str, ty_int_bool, ty_int_int, ty_int_tuple, ty_int_list, ty_int_str, ty_tuple_bool, ty_tuple_int, ty_tuple_tuple, ty_tuple_list, ty_tuple_str, ty_list_bool, ty_list_int, ty_list_tuple, ty_list_list, ty_list_str, ty_str_bool, ty_str_int, ty_str_tuple, ty_str_list, ty_str_str, ↓call__law_point]
  obtain ⟨hI, la, lb, hd, lt, ld⟩ := h
  have lu := hI.lu
  have lv := hI.lv
  have na : (-a).natAbs.log2 < 400 := by rw [Int.natAbs_neg]; exact la
  have nb : (-b).natAbs.log2 < 400 := by rw [Int.natAbs_neg]; exact lb
  have p1 := Int.mul_pos hI.hu hd
  have p2 := Int.mul_pos hI.hv hd
  have x1 := fmod_hi (-a * t) p1
  have y1 := fmod_hi (-b * t) p2
  refine ⟨mulOk_of (by omega) (by omega), mulOk_of (by omega) (by omega), by omega, mulOk_of (by omega) (by omega), mulOk_of (by omega) (by omega), by omega, ?_⟩
  split
  · split
    · refine ⟨⟨hd, by omega⟩, fun p hp => ⟨p, ⟨rfl, rfl, rfl⟩, ?_⟩⟩
      have i1 := in_low hd hp.pos hp.ex (by assumption) x1
      have i2 := in_low hd hp.pos hp.ey (by assumption) y1
      exact ⟨hI.hu, hI.hv, i1.1, i2.1, i1.2, i2.2, hp.pos, lu, lv, log2_lt_of hp.le3 ld⟩
    · exact ⟨(x, y, w), ⟨rfl, rfl, rfl⟩, hI⟩
  · exact ⟨(x, y, w), ⟨rfl, rfl, rfl⟩, hI⟩
theorem w__law_is_corner : ∀ as S, (sp__law_is_corner as S).pre → wS T s__law_is_corner (startE ["wide", "high", "P", "heading", "t", "w", "right", "up"] as) S (fin (sp__law_is_corner as S)) := by
  intro as S h
  unfold sp__law_is_corner at h ⊢
  split at h
  rotate_left
  · exact h.elim
  rename_i u v x y w a b p q
  change wS T s__law_is_corner [some (.int u), some (.int v), some (.tup [.int x, .int y, .int w]), some (.tup [.int a, .int b]), some (.tup [.int p, .int q]), none, none, none] S _
  unfold s__law_is_corner
  simp only [↓wE_lit, ↓wE_bin, ↓wE_neg, ↓wE_nott, ↓wE_cmp, ↓wE_chain, ↓wE_andd, ↓wE_orr, ↓wE_ife, ↓wE_nil, ↓wE_cons, ↓wE_tup, ↓wE_lst, ↓wE_idx, ↓wE_slc, ↓wE_fld, ↓wE_meth, ↓wE_new, ↓wE_blt, ↓wE_isty, ↓wE_iscl, ↓wT_cmp, ↓wT_chain, ↓wT_nott, ↓wT_andd, ↓wT_orr, ↓wT_ife, ↓wT_lit, ↓wT_idx, ↓wT_bin, ↓wT_meth, ↓wT_blt, ↓wT_isty, ↓wT_iscl, ↓wT_fld, ↓wT_neg, ↓wT_nil, ↓wT_cons, ↓wT_tup, ↓wT_lst, ↓wT_slc, ↓wT_new, ↓wT_comp, ↓wA_nil, ↓wA_cons, ↓wO_nil, ↓wO_cons, ↓wE_compK, ↓wE_call0, ↓wT_call0, ↓wE_v0, ↓wE_v1, ↓wE_v2, ↓wE_v3, ↓wE_v4, ↓wE_v5, ↓wE_v6, ↓wE_v7, ↓wE_v8, ↓wE_v9, ↓wE_v10, ↓wE_v11, ↓wE_v12, ↓wE_v13, ↓wE_v14, ↓wE_v15, ↓wE_v16, ↓wE_v17, ↓wE_v18, ↓wE_v19, ↓wE_v20, ↓wE_v21, ↓wE_v22, ↓wE_v23, ↓wE_v24, ↓wE_v25, ↓wE_v26, ↓wE_v27, ↓wE_v28, ↓wE_v29, ↓wT_v0, ↓wT_v1, ↓wT_v2, ↓wT_v3, ↓wT_v4, ↓wT_v5, ↓wT_v6, ↓wT_v7, ↓wT_v8, ↓wT_v9, ↓wT_v10, ↓wT_v11, ↓wT_v12, ↓wT_v13, ↓wT_v14, ↓wT_v15, ↓wT_v16, ↓wT_v17, ↓wT_v18, ↓wT_v19, ↓wT_v20, ↓wT_v21, ↓wT_v22, ↓wT_v23, ↓wT_v24, ↓wT_v25, ↓wT_v26, ↓wT_v27, ↓wT_v28, ↓wT_v29, ↓tgt_0, ↓tgt_1, ↓tgt_2, ↓tgt_3, ↓tgt_4, ↓tgt_5, ↓tgt_6, ↓tgt_7, ↓tgt_8, ↓tgt_9, ↓tgt_10, ↓tgt_11, ↓tgt_12, ↓tgt_13, ↓tgt_14, ↓tgt_15, ↓tgt_16, ↓tgt_17, ↓tgt_18, ↓tgt_19, ↓tgt_20, ↓tgt_21, ↓tgt_22, ↓tgt_23, ↓tgt_24, ↓tgt_25, ↓tgt_26, ↓tgt_27, ↓tgt_28, ↓tgt_29, ↓tgt_tn, ↓tgt_tc, ↓wS_skip, ↓wS_seqL, ↓later_at, ↓wS_asg_var, ↓wS_asg_lit, ↓wS_asg_bin, ↓wS_asg_neg, ↓wS_asg_nott, ↓wS_asg_cmp, ↓wS_asg_chain, ↓wS_asg_andd, ↓wS_asg_orr, ↓wS_asg_ife, ↓wS_asg_tup, ↓wS_asg_lst, ↓wS_asg_idx, ↓wS_asg_slc, ↓wS_asg_fld, ↓wS_asg_call, ↓wS_asg_meth, ↓wS_asg_new, ↓wS_asg_blt, ↓wS_asg_isty, ↓wS_asg_iscl, ↓wS_asg_nil, ↓wS_asg_comp, ↓nxK_at, ↓wS_asgF, ↓wS_asgI, ↓wS_augN, ↓wS_augI, ↓wS_parL, ↓wS_expr, ↓wS_bm, ↓wS_ret, ↓wS_retN, ↓wS_ite, ↓wFor_cons, ↓wFor_nil, ↓wS_for, ↓wS_brk, ↓wS_cnt, ↓wS_raise, ↓tyIs_ref, ↓opB_addL, ↓opBm_appendL, ↓setIL, ↓isL_ref, ↓ob_add, ↓ob_adds, ↓ob_addt, ↓ob_sub, ↓ob_mul, ↓ob_fdiv, ↓ob_mod, ↓ob_pow, ↓oi_abs, ↓oi_lent, ↓oi_lens, ↓oi_lenr, ↓oi_sortedr, ↓oi_tupler, ↓oi_listr, ↓oi_sumr, ↓oi_anyr, ↓oi_allr, ↓oi_mxr, ↓oi_mnr, ↓oi_lenl, ↓oi_sortedl, ↓oi_tuplel, ↓oi_listl, ↓oi_suml, ↓oi_anyl, ↓oi_alll, ↓oi_mxl, ↓oi_mnl, ↓oi_max2, ↓oi_min2, ↓oi_int, ↓oi_intb, ↓oi_tuplet, ↓oi_listt, ↓oi_str, ↓oi_divmod, ↓tru_non, ↓tru_bl, ↓tru_int, ↓tru_str, ↓tru_tup, ↓tru_ref, ↓tru_sl, ↓tyIs_non, ↓tyIs_bl, ↓tyIs_int, ↓tyIs_str, ↓tyIs_tup, ↓tyIs_sl, ↓it_t, ↓it_sr, ↓it_er, ↓it_vr, ↓it_sl, ↓it_el, ↓it_vl, ↓it_z, ↓it_1, ↓it_2, ↓it_3, ↓ltI_i, ↓tl_i, ↓optI_i, ↓osl, ↓opIx_tup, ↓opIx_ref, ↓opIx_sl, ↓atQ_0, ↓atQ_1, ↓atQ_2, ↓atQ_3, ↓getL_put, ↓getL_put_ne, ↓getL_put_ne', ↓getL_sl, ↓opC_eq_int, ↓opC_ne_int, ↓opC_eq_bl, ↓opC_ne_bl, ↓opC_eq_t2, ↓opC_ne_t2, ↓opC_eq_t3, ↓opC_eq_t32, ↓opC_ne_t32, ↓opC_ne_t3, ↓opC_lt, ↓opC_le, ↓opC_gt, ↓opC_ge, ↓opC_is, ↓opC_isnot, ↓opC_in, ↓opC_notin, ↓finpu_rt, ↓finpu_nx, ↓finpu_ex, ↓finlaw_rt, ↓finlaw_nx, ↓finlaw_ex, ↓finV_rt, ↓finV_nx, ↓finV_ex, ↓finE_rt, ↓finO_rt, ↓finO_ex, ↓finE_ex, ↓finS_rt, ↓finS_ex, ↓finR_ex, put_none, put_put, Val.isNon, intsOf, atI_0, atI_1, atI_2, atI_3, cutG_to, cutG_from, sub_refl_iff, pu_pre, puV_pre, puE_pre, puO_pre, puS_pre, puR_pre, Option.some.injEq, exists_eq_left', exists_eq_left, exists_eq, exists_eq', Val.int.injEq, Val.bl.injEq, Val.str.injEq, Val.tup.injEq, Val.ref.injEq, List.cons.injEq, List.map_cons, List.map_nil, List.length_cons, List.length_nil, List.cons_append, List.nil_append, List.append_nil, Bool.false_eq_true, if_true, if_false, ite_true, ite_false, true_and, and_true, false_and, and_false, Bool.not_true, Bool.not_false, decide_eq_true_eq, bne_iff_ne, ne_eq, beq_iff_eq, put_same, imp_false, false_implies, implies_true, reduceCtorEq, not_false_eq_true, and_self, Bool.or_false, Bool.or_true, Bool.false_or, Bool.true_or, Bool.not_eq_true, Bool.not_eq_eq_eq_not, Bool.decide_eq_false, decide_eq_false_iff_not, Bool.not_eq_true', beq_eq_false_iff_ne, bne_eq_false_iff_eq, List.isEmpty_cons, List.isEmpty_nil, Int.reduceEq, Int.reduceNe, Int.reduceLT, Int.reduceLE, Int.reduceNeg, Int.reduceAdd, Int.reduceSub, Int.reduceMul, Int.reduceToNat, Nat.reduceLT, Nat.reduceLeDiff, Nat.reducePow, Nat.reduceAdd, Nat.reduceSub, ty_bool_bool, ty_bool_int, ty_bool_tuple, ty_bool_list, ty_bool_str, ty_int_bool, ty_int_int, ty_int_tuple, ty_int_list, ty_int_str, ty_tuple_bool, ty_tuple_int, ty_tuple_tuple, ty_tuple_list, ty_tuple_str, ty_list_bool, ty_list_int, ty_list_tuple, ty_list_list, ty_list_str, ty_str_bool, ty_str_int, ty_str_tuple, ty_str_list, ty_str_str, ↓call__law_is_int, ↓call__law_measure]
  obtain ⟨hI, la, lb, hC⟩ := h
  obtain ⟨lx, ly⟩ := hI.lx
  have lw := hI.lw
  have lu := hI.lu
  have lv := hI.lv
  have p1 := hC.p1
  have p2 := hC.p2
  have l1 := hC.l1
  have l2 := hC.l2
  have hg := hC.g
  obtain ⟨k, hk⟩ := hC.ex
  obtain ⟨k', hk'⟩ := hC.ey
  simp only at p1 p2 l1 l2 hg hk hk'
  have wq := Int.mul_pos hI.hw p2
  have q1 := Int.mul_pos hI.hu wq
  have q2 := Int.mul_pos hI.hv wq
  have m1 := log2_mul la l1
  have m2 := log2_mul lb l1
  have m3 := log2_mul lw l2
  rw [if_neg (by simp), if_neg (by omega), if_neg (by omega), if_neg (by omega)]
  refine ⟨mulOk_of (by omega) (by omega), mulOk_of (by omega) (by omega), mulOk_of (by omega) (by omega), mulOk_of (by omega) (by omega), mulOk_of (by omega) (by omega), mulOk_of (by omega) (by omega), mulOk_of (by omega) (by omega), mulOk_of (by omega) (by omega), by omega, ?_⟩
  rw [if_pos (by rw [hk]; exact Int.fmod_eq_zero_of_dvd ⟨k, rfl⟩)]
  exact ⟨mulOk_of (by omega) (by omega), by omega, by rw [hk']; exact Int.fmod_eq_zero_of_dvd ⟨k', rfl⟩⟩
theorem w__law_right : ∀ as S, (sp__law_right as S).pre → wS T s__law_right (startE ["wide", "high", "P", "heading", "share", "found"] as) S (fin (sp__law_right as S)) := by
  intro as S h
  unfold sp__law_right at h ⊢
  split at h
  rotate_left
  · exact h.elim
  rename_i u v x y w a b
  change wS T s__law_right [some (.int u), some (.int v), some (.tup [.int x, .int y, .int w]), some (.tup [.int a, .int b]), none, none] S _
  unfold s__law_right
  simp only [↓wE_lit, ↓wE_bin, ↓wE_neg, ↓wE_nott, ↓wE_cmp, ↓wE_chain, ↓wE_andd, ↓wE_orr, ↓wE_ife, ↓wE_nil, ↓wE_cons, ↓wE_tup, ↓wE_lst, ↓wE_idx, ↓wE_slc, ↓wE_fld, ↓wE_meth, ↓wE_new, ↓wE_blt, ↓wE_isty, ↓wE_iscl, ↓wT_cmp, ↓wT_chain, ↓wT_nott, ↓wT_andd, ↓wT_orr, ↓wT_ife, ↓wT_lit, ↓wT_idx, ↓wT_bin, ↓wT_meth, ↓wT_blt, ↓wT_isty, ↓wT_iscl, ↓wT_fld, ↓wT_neg, ↓wT_nil, ↓wT_cons, ↓wT_tup, ↓wT_lst, ↓wT_slc, ↓wT_new, ↓wT_comp, ↓wA_nil, ↓wA_cons, ↓wO_nil, ↓wO_cons, ↓wE_compK, ↓wE_call0, ↓wT_call0, ↓wE_v0, ↓wE_v1, ↓wE_v2, ↓wE_v3, ↓wE_v4, ↓wE_v5, ↓wE_v6, ↓wE_v7, ↓wE_v8, ↓wE_v9, ↓wE_v10, ↓wE_v11, ↓wE_v12, ↓wE_v13, ↓wE_v14, ↓wE_v15, ↓wE_v16, ↓wE_v17, ↓wE_v18, ↓wE_v19, ↓wE_v20, ↓wE_v21, ↓wE_v22, ↓wE_v23, ↓wE_v24, ↓wE_v25, ↓wE_v26, ↓wE_v27, ↓wE_v28, ↓wE_v29, ↓wT_v0, ↓wT_v1, ↓wT_v2, ↓wT_v3, ↓wT_v4, ↓wT_v5, ↓wT_v6, ↓wT_v7, ↓wT_v8, ↓wT_v9, ↓wT_v10, ↓wT_v11, ↓wT_v12, ↓wT_v13, ↓wT_v14, ↓wT_v15, ↓wT_v16, ↓wT_v17, ↓wT_v18, ↓wT_v19, ↓wT_v20, ↓wT_v21, ↓wT_v22, ↓wT_v23, ↓wT_v24, ↓wT_v25, ↓wT_v26, ↓wT_v27, ↓wT_v28, ↓wT_v29, ↓tgt_0, ↓tgt_1, ↓tgt_2, ↓tgt_3, ↓tgt_4, ↓tgt_5, ↓tgt_6, ↓tgt_7, ↓tgt_8, ↓tgt_9, ↓tgt_10, ↓tgt_11, ↓tgt_12, ↓tgt_13, ↓tgt_14, ↓tgt_15, ↓tgt_16, ↓tgt_17, ↓tgt_18, ↓tgt_19, ↓tgt_20, ↓tgt_21, ↓tgt_22, ↓tgt_23, ↓tgt_24, ↓tgt_25, ↓tgt_26, ↓tgt_27, ↓tgt_28, ↓tgt_29, ↓tgt_tn, ↓tgt_tc, ↓wS_skip, ↓wS_seqL, ↓later_at, ↓wS_asg_var, ↓wS_asg_lit, ↓wS_asg_bin, ↓wS_asg_neg, ↓wS_asg_nott, ↓wS_asg_cmp, ↓wS_asg_chain, ↓wS_asg_andd, ↓wS_asg_orr, ↓wS_asg_ife, ↓wS_asg_tup, ↓wS_asg_lst, ↓wS_asg_idx, ↓wS_asg_slc, ↓wS_asg_fld, ↓wS_asg_call, ↓wS_asg_meth, ↓wS_asg_new, ↓wS_asg_blt, ↓wS_asg_isty, ↓wS_asg_iscl, ↓wS_asg_nil, ↓wS_asg_comp, ↓nxK_at, ↓wS_asgF, ↓wS_asgI, ↓wS_augN, ↓wS_augI, ↓wS_parL, ↓wS_expr, ↓wS_bm, ↓wS_ret, ↓wS_retN, ↓wS_ite, ↓wFor_cons, ↓wFor_nil, ↓wS_for, ↓wS_brk, ↓wS_cnt, ↓wS_raise, ↓tyIs_ref, ↓opB_addL, ↓opBm_appendL, ↓setIL, ↓isL_ref, ↓ob_add, ↓ob_adds, ↓ob_addt, ↓ob_sub, ↓ob_mul, ↓ob_fdiv, ↓ob_mod, ↓ob_pow, ↓oi_abs, ↓oi_lent, ↓oi_lens, ↓oi_lenr, ↓oi_sortedr, ↓oi_tupler, ↓oi_listr, ↓oi_sumr, ↓oi_anyr, ↓oi_allr, ↓oi_mxr, ↓oi_mnr, ↓oi_lenl, ↓oi_sortedl, ↓oi_tuplel, ↓oi_listl, ↓oi_suml, ↓oi_anyl, ↓oi_alll, ↓oi_mxl, ↓oi_mnl, ↓oi_max2, ↓oi_min2, ↓oi_int, ↓oi_intb, ↓oi_tuplet, ↓oi_listt, ↓oi_str, ↓oi_divmod, ↓tru_non, ↓tru_bl, ↓tru_int, ↓tru_str, ↓tru_tup, ↓tru_ref, ↓tru_sl, ↓tyIs_non, ↓tyIs_bl, ↓tyIs_int, ↓tyIs_str, ↓tyIs_tup, ↓tyIs_sl, ↓it_t, ↓it_sr, ↓it_er, ↓it_vr, ↓it_sl, ↓it_el, ↓it_vl, ↓it_z, ↓it_1, ↓it_2, ↓it_3, ↓ltI_i, ↓tl_i, ↓optI_i, ↓osl, ↓opIx_tup, ↓opIx_ref, ↓opIx_sl, ↓atQ_0, ↓atQ_1, ↓atQ_2, ↓atQ_3, ↓getL_put, ↓getL_put_ne, ↓getL_put_ne', ↓getL_sl, ↓opC_eq_int, ↓opC_ne_int, ↓opC_eq_bl, ↓opC_ne_bl, ↓opC_eq_t2, ↓opC_ne_t2, ↓opC_eq_t3, ↓opC_eq_t32, ↓opC_ne_t32, ↓opC_ne_t3, ↓opC_lt, ↓opC_le, ↓opC_gt, ↓opC_ge, ↓opC_is, ↓opC_isnot, ↓opC_in, ↓opC_notin, ↓finpu_rt, ↓finpu_nx, ↓finpu_ex, ↓finlaw_rt, ↓finlaw_nx, ↓finlaw_ex, ↓finV_rt, ↓finV_nx, ↓finV_ex, ↓finE_rt, ↓finO_rt, ↓finO_ex, ↓finE_ex, ↓finS_rt, ↓finS_ex, ↓finR_ex, put_none, put_put, Val.isNon, intsOf, atI_0, atI_1, atI_2, atI_3, cutG_to, cutG_from, sub_refl_iff, pu_pre, puV_pre, puE_pre, puO_pre, puS_pre, puR_pre, Option.some.injEq, exists_eq_left', exists_eq_left, exists_eq, exists_eq', Val.int.injEq, Val.bl.injEq, Val.str.injEq, Val.tup.injEq, Val.ref.injEq, List.cons.injEq, List.map_cons, List.map_nil, List.length_cons, List.length_nil, List.cons_append, List.nil_append, List.append_nil, Bool.false_eq_true, if_true, if_false, ite_true, ite_false, true_and, and_true, false_and, and_false, Bool.not_true, Bool.not_false, decide_eq_true_eq, bne_iff_ne, ne_eq, beq_iff_eq, put_same, imp_false, false_implies, implies_true, reduceCtorEq, not_false_eq_true, and_self, Bool.or_false, Bool.or_true, Bool.false_or, Bool.true_or, Bool.not_eq_true, Bool.not_eq_eq_eq_not, Bool.decide_eq_false, decide_eq_false_iff_not, Bool.not_eq_true', beq_eq_false_iff_ne, bne_eq_false_iff_eq, List.isEmpty_cons, List.isEmpty_nil, Int.reduceEq, Int.reduceNe, Int.reduceLT, Int.reduceLE, Int.reduceNeg, Int.reduceAdd, Int.reduceSub, Int.reduceMul, Int.reduceToNat, Nat.reduceLT, Nat.reduceLeDiff, Nat.reducePow, Nat.reduceAdd, Nat.reduceSub, ty_bool_bool, ty_bool_int, ty_bool_tuple, ty_bool_list, ty_bool_str, ty_int_bool, ty_int_int, ty_int_tuple, ty_int_list, ty_int_str, ty_tuple_bool, ty_tuple_int, ty_tuple_tuple, ty_tuple_list, ty_tuple_str, ty_list_bool, ty_list_int, ty_list_tuple, ty_list_list, ty_list_str, ty_str_bool, ty_str_int, ty_str_tuple, ty_str_list, ty_str_str, ↓call__law_measure, ↓call_box_corner, ↓call__law_is_corner]
  obtain ⟨hI, hg, la, lb⟩ := h
  obtain ⟨lx, ly⟩ := hI.lx
  have lw := hI.lw
  have lu := hI.lu
  have lv := hI.lv
  have hgp := gp hI.hu hI.hv hg
  have l1 := log2_mul lu lb
  have l2 := log2_mul lv la
  have l3 := log2_mul lu lv
  have gl : (↑(Int.gcd (u * b) (v * a)) : Int).natAbs.log2 < 800 := by
    by_cases e : v * a = 0
    · rw [e, Int.gcd_zero_right, Int.natAbs_natCast]; omega
    · have := gcd_log (a := u * b) e l2; omega
  have gw := Int.mul_pos (show (0 : Int) < ↑(Int.gcd (u * b) (v * a)) by omega) hI.hw
  exact ⟨mulOk_of (by omega) (by omega), mulOk_of (by omega) (by omega), ⟨hI, hg, la, lb⟩, fun hn => ⟨mulOk_of (by omega) (by omega), mulOk_of (by omega) (by omega), mulOk_of (by omega) (by omega), by omega, hn⟩, fun p hC => ⟨⟨hI, la, lb, hC⟩, mulOk_of (by have := hC.l1; omega) (by omega), mulOk_of (by omega) (by omega), mulOk_of (by omega) (by have := hC.l2; omega), hC.le⟩⟩
theorem w__law_any : ∀ as S, (sp__law_any as S).pre → wS T s__law_any (startE ["cells", "great", "wide", "high", "P", "a", "b", "t"] as) S (fin (sp__law_any as S)) := by
  intro as S h
  unfold sp__law_any at h ⊢
  split at h
  rotate_left
  · exact h.elim
  rename_i r
  change wS T s__law_any [some (.ref r), none, none, none, none, none, none, none] S _
  unfold s__law_any
  obtain ⟨zs, hz, h9, hb⟩ := h
  obtain ⟨z0, m0, e0⟩ := atI_map (cs := zs) (i := 0) (by decide) (by omega)
  obtain ⟨z1, m1, e1⟩ := atI_map (cs := zs) (i := 1) (by decide) (by omega)
  obtain ⟨z2, m2, e2⟩ := atI_map (cs := zs) (i := 2) (by decide) (by omega)
  obtain ⟨z3, m3, e3⟩ := atI_map (cs := zs) (i := 3) (by decide) (by omega)
  obtain ⟨z4, m4, e4⟩ := atI_map (cs := zs) (i := 4) (by decide) (by omega)
  obtain ⟨z5, m5, e5⟩ := atI_map (cs := zs) (i := 5) (by decide) (by omega)
  obtain ⟨z6, m6, e6⟩ := atI_map (cs := zs) (i := 6) (by decide) (by omega)
  obtain ⟨z7, m7, e7⟩ := atI_map (cs := zs) (i := 7) (by decide) (by omega)
  obtain ⟨z8, m8, e8⟩ := atI_map (cs := zs) (i := 8) (by decide) (by omega)
  simp +contextual only [↓wE_lit, ↓wE_bin, ↓wE_neg, ↓wE_nott, ↓wE_cmp, ↓wE_chain, ↓wE_andd, ↓wE_orr, ↓wE_ife, ↓wE_nil, ↓wE_cons, ↓wE_tup, ↓wE_lst, ↓wE_idx, ↓wE_slc, ↓wE_fld, ↓wE_meth, ↓wE_new, ↓wE_blt, ↓wE_isty, ↓wE_iscl, ↓wT_cmp, ↓wT_chain, ↓wT_nott, ↓wT_andd, ↓wT_orr, ↓wT_ife, ↓wT_lit, ↓wT_idx, ↓wT_bin, ↓wT_meth, ↓wT_blt, ↓wT_isty, ↓wT_iscl, ↓wT_fld, ↓wT_neg, ↓wT_nil, ↓wT_cons, ↓wT_tup, ↓wT_lst, ↓wT_slc, ↓wT_new, ↓wT_comp, ↓wA_nil, ↓wA_cons, ↓wO_nil, ↓wO_cons, ↓wE_compK, ↓wE_call0, ↓wT_call0, ↓wE_v0, ↓wE_v1, ↓wE_v2, ↓wE_v3, ↓wE_v4, ↓wE_v5, ↓wE_v6, ↓wE_v7, ↓wE_v8, ↓wE_v9, ↓wE_v10, ↓wE_v11, ↓wE_v12, ↓wE_v13, ↓wE_v14, ↓wE_v15, ↓wE_v16, ↓wE_v17, ↓wE_v18, ↓wE_v19, ↓wE_v20, ↓wE_v21, ↓wE_v22, ↓wE_v23, ↓wE_v24, ↓wE_v25, ↓wE_v26, ↓wE_v27, ↓wE_v28, ↓wE_v29, ↓wT_v0, ↓wT_v1, ↓wT_v2, ↓wT_v3, ↓wT_v4, ↓wT_v5, ↓wT_v6, ↓wT_v7, ↓wT_v8, ↓wT_v9, ↓wT_v10, ↓wT_v11, ↓wT_v12, ↓wT_v13, ↓wT_v14, ↓wT_v15, ↓wT_v16, ↓wT_v17, ↓wT_v18, ↓wT_v19, ↓wT_v20, ↓wT_v21, ↓wT_v22, ↓wT_v23, ↓wT_v24, ↓wT_v25, ↓wT_v26, ↓wT_v27, ↓wT_v28, ↓wT_v29, ↓tgt_0, ↓tgt_1, ↓tgt_2, ↓tgt_3, ↓tgt_4, ↓tgt_5, ↓tgt_6, ↓tgt_7, ↓tgt_8, ↓tgt_9, ↓tgt_10, ↓tgt_11, ↓tgt_12, ↓tgt_13, ↓tgt_14, ↓tgt_15, ↓tgt_16, ↓tgt_17, ↓tgt_18, ↓tgt_19, ↓tgt_20, ↓tgt_21, ↓tgt_22, ↓tgt_23, ↓tgt_24, ↓tgt_25, ↓tgt_26, ↓tgt_27, ↓tgt_28, ↓tgt_29, ↓tgt_tn, ↓tgt_tc, ↓wS_skip, ↓wS_seqL, ↓later_at, ↓wS_asg_var, ↓wS_asg_lit, ↓wS_asg_bin, ↓wS_asg_neg, ↓wS_asg_nott, ↓wS_asg_cmp, ↓wS_asg_chain, ↓wS_asg_andd, ↓wS_asg_orr, ↓wS_asg_ife, ↓wS_asg_tup, ↓wS_asg_lst, ↓wS_asg_idx, ↓wS_asg_slc, ↓wS_asg_fld, ↓wS_asg_call, ↓wS_asg_meth, ↓wS_asg_new, ↓wS_asg_blt, ↓wS_asg_isty, ↓wS_asg_iscl, ↓wS_asg_nil, ↓wS_asg_comp, ↓nxK_at, ↓wS_asgF, ↓wS_asgI, ↓wS_augN, ↓wS_augI, ↓wS_parL, ↓wS_expr, ↓wS_bm, ↓wS_ret, ↓wS_retN, ↓wS_ite, ↓wFor_cons, ↓wFor_nil, ↓wS_for, ↓wS_brk, ↓wS_cnt, ↓wS_raise, ↓tyIs_ref, ↓opB_addL, ↓opBm_appendL, ↓setIL, ↓isL_ref, ↓ob_add, ↓ob_adds, ↓ob_addt, ↓ob_sub, ↓ob_mul, ↓ob_fdiv, ↓ob_mod, ↓ob_pow, ↓oi_abs, ↓oi_lent, ↓oi_lens, ↓oi_lenr, ↓oi_sortedr, ↓oi_tupler, ↓oi_listr, ↓oi_sumr, ↓oi_anyr, ↓oi_allr, ↓oi_mxr, ↓oi_mnr, ↓oi_lenl, ↓oi_sortedl, ↓oi_tuplel, ↓oi_listl, ↓oi_suml, ↓oi_anyl, ↓oi_alll, ↓oi_mxl, ↓oi_mnl, ↓oi_max2, ↓oi_min2, ↓oi_int, ↓oi_intb, ↓oi_tuplet, ↓oi_listt, ↓oi_str, ↓oi_divmod, ↓tru_non, ↓tru_bl, ↓tru_int, ↓tru_str, ↓tru_tup, ↓tru_ref, ↓tru_sl, ↓tyIs_non, ↓tyIs_bl, ↓tyIs_int, ↓tyIs_str, ↓tyIs_tup, ↓tyIs_sl, ↓it_t, ↓it_sr, ↓it_er, ↓it_vr, ↓it_sl, ↓it_el, ↓it_vl, ↓it_z, ↓it_1, ↓it_2, ↓it_3, ↓ltI_i, ↓tl_i, ↓optI_i, ↓osl, ↓opIx_tup, ↓opIx_ref, ↓opIx_sl, ↓atQ_0, ↓atQ_1, ↓atQ_2, ↓atQ_3, ↓getL_put, ↓getL_put_ne, ↓getL_put_ne', ↓getL_sl, ↓opC_eq_int, ↓opC_ne_int, ↓opC_eq_bl, ↓opC_ne_bl, ↓opC_eq_t2, ↓opC_ne_t2, ↓opC_eq_t3, ↓opC_eq_t32, ↓opC_ne_t32, ↓opC_ne_t3, ↓opC_lt, ↓opC_le, ↓opC_gt, ↓opC_ge, ↓opC_is, ↓opC_isnot, ↓opC_in, ↓opC_notin, ↓finpu_rt, ↓finpu_nx, ↓finpu_ex, ↓finlaw_rt, ↓finlaw_nx, ↓finlaw_ex, ↓finV_rt, ↓finV_nx, ↓finV_ex, ↓finE_rt, ↓finO_rt, ↓finO_ex, ↓finE_ex, ↓finS_rt, ↓finS_ex, ↓finR_ex, put_none, put_put, Val.isNon, intsOf, atI_0, atI_1, atI_2, atI_3, cutG_to, cutG_from, sub_refl_iff, pu_pre, puV_pre, puE_pre, puO_pre, puS_pre, puR_pre, Option.some.injEq, exists_eq_left', exists_eq_left, exists_eq, exists_eq', Val.int.injEq, Val.bl.injEq, Val.str.injEq, Val.tup.injEq, Val.ref.injEq, List.cons.injEq, List.map_cons, List.map_nil, List.length_cons, List.length_nil, List.cons_append, List.nil_append, List.append_nil, Bool.false_eq_true, if_true, if_false, ite_true, ite_false, true_and, and_true, false_and, and_false, Bool.not_true, Bool.not_false, decide_eq_true_eq, bne_iff_ne, ne_eq, beq_iff_eq, put_same, imp_false, false_implies, implies_true, reduceCtorEq, not_false_eq_true, and_self, Bool.or_false, Bool.or_true, Bool.false_or, Bool.true_or, Bool.not_eq_true, Bool.not_eq_eq_eq_not, Bool.decide_eq_false, decide_eq_false_iff_not, Bool.not_eq_true', beq_eq_false_iff_ne, bne_eq_false_iff_eq, List.isEmpty_cons, List.isEmpty_nil, Int.reduceEq, Int.reduceNe, Int.reduceLT, Int.reduceLE, Int.reduceNeg, Int.reduceAdd, Int.reduceSub, Int.reduceMul, Int.reduceToNat, Nat.reduceLT, Nat.reduceLeDiff, Nat.reducePow, Nat.reduceAdd, Nat.reduceSub, ty_bool_bool, ty_bool_int, ty_bool_tuple, ty_bool_list, ty_bool_str, ty_int_bool, ty_int_int, ty_int_tuple, ty_int_list, ty_int_str, ty_tuple_bool, ty_tuple_int, ty_tuple_tuple, ty_tuple_list, ty_tuple_str, ty_list_bool, ty_list_int, ty_list_tuple, ty_list_list, ty_list_str, ty_str_bool, ty_str_int, ty_str_tuple, ty_str_list, ty_str_str, ↓call__law_inside, ↓call__law_reduced, ↓call__law_heading, ↓getL_ref hz, ↓atQ_at e0, ↓atQ_at e1, ↓atQ_at e2, ↓atQ_at e3, ↓atQ_at e4, ↓atQ_at e5, ↓atQ_at e6, ↓atQ_at e7, ↓atQ_at e8, num_59, ne_old hz]
  have hB : (100 : Int) < B59 ∧ B59.natAbs.log2 < 197 ∧ (10 * B59).natAbs.log2 < 200 ∧ (B59 * B59).natAbs.log2 < 399 ∧ (100 : Int) < B59 * B59 := by decide +kernel
  have hBB : 2 * B59 * B59 = 2 * (B59 * B59) := by decide +kernel
  rw [hBB]
  have u0 := fmod_lo (z0.fdiv 2) (y := 10 * B59 - 1) (by omega)
  have u1 := fmod_hi (z0.fdiv 2) (y := 10 * B59 - 1) (by omega)
  have v0 := fmod_lo z1 (y := 10 * B59 - 1) (by omega)
  have v1 := fmod_hi z1 (y := 10 * B59 - 1) (by omega)
  have w0 := fmod_lo z4 (y := B59) (by omega)
  have w1 := fmod_hi z4 (y := B59) (by omega)
  have a0 := fmod_lo z5 (y := 2 * (B59 * B59) - 1) (by omega)
  have a1 := fmod_hi z5 (y := 2 * (B59 * B59) - 1) (by omega)
  have b0 := fmod_lo z6 (y := 2 * (B59 * B59) - 1) (by omega)
  have b1 := fmod_hi z6 (y := 2 * (B59 * B59) - 1) (by omega)
  have t0 := fmod_lo z7 (y := B59) (by omega)
  have t1 := fmod_hi z7 (y := B59) (by omega)
  have d0 := fmod_lo z8 (y := B59) (by omega)
  have d1 := fmod_hi z8 (y := B59) (by omega)
  have lu := lg (x := 1 + (z0.fdiv 2).fmod (10 * B59 - 1)) hB.2.2.1 (by omega) (by omega)
  have lv := lg (x := 1 + z1.fmod (10 * B59 - 1)) hB.2.2.1 (by omega) (by omega)
  have l4 := lg (x := z4.fmod B59) hB.2.1 w0 (by omega)
  have la : (z5.fmod (2 * (B59 * B59) - 1) - B59 * B59 + 1).natAbs.log2 < 399 := log2_lt_of (show _ ≤ (B59 * B59).natAbs by omega) hB.2.2.2.1
  have lb : (z6.fmod (2 * (B59 * B59) - 1) - B59 * B59 + 1).natAbs.log2 < 399 := log2_lt_of (show _ ≤ (B59 * B59).natAbs by omega) hB.2.2.2.1
  have lt := lg (x := 1 + z7.fmod B59) hB.2.1 (by omega) (by omega)
  have ld := lg (x := 1 + z8.fmod B59) hB.2.1 (by omega) (by omega)
  have r := red1 (n := 197) (t := 1 + z7.fmod B59) (b := 1 + z8.fmod B59) (by omega) lt ld
  have lst : ∃ zs : List Int, Ob.lst [Val.int z2, Val.int z3, Val.int (z4.fmod B59)] = Ob.lst (zs.map Val.int) ∧ 3 ≤ zs.length ∧ (∀ z ∈ zs, z.natAbs.log2 < 10000000) ∧ ∃ z2, atI (zs.map Val.int) 2 = some (.int z2) ∧ z2.natAbs.log2 < 198 := by
    refine ⟨[z2, z3, z4.fmod B59], rfl, by simp, ?_, _, atI_2, by omega⟩
    intro z hz
    simp only [List.mem_cons, List.not_mem_nil, or_false] at hz
    rcases hz with rfl | rfl | rfl
    · exact hb _ m2
    · exact hb _ m3
    · omega
  have n59 : ¬ B59 = 0 := by omega
  have ten : Int.natAbs 10 < 18446744073709551616 := by decide
  have M1 : MulOk 10 B59 := mulOk_of (by decide +kernel) (by omega)
  have M2 : MulOk 2 B59 := mulOk_of (by decide +kernel) (by omega)
  have M3 : MulOk (2 * B59) B59 := mulOk_of (by decide +kernel) (by omega)
  have M4 : MulOk B59 B59 := mulOk_of (by omega) (by omega)
  exact ⟨ten, ⟨by decide, by decide⟩, M1, by omega, M1, by omega, n59, fun p hp => ⟨⟨by omega, by omega, lu, lv, lst⟩, fun P hP => ⟨M2, M3, by omega, M4, M2, M3, by omega, M4, n59, n59, ⟨by omega, by omega, by omega⟩, ⟨la, lb⟩, fun g hg =>
    ⟨⟨(_, _, P, g, (_, _)), ⟨rfl, rfl, ⟨rfl, rfl, rfl⟩, ⟨rfl, rfl⟩, rfl, rfl⟩, hP.1, hg.1, hg.2.1, hg.2.2, r.1, Nat.lt_of_lt_of_le r.2.1 (by decide), Nat.lt_of_lt_of_le r.2.2 (by decide)⟩, Sub.put hp⟩⟩⟩⟩
theorem w__law_drawn : ∀ as S, (sp__law_drawn as S).pre → wS T s__law_drawn (startE ["cells", "wide", "high", "some", "P", "t", "cell"] as) S (fin (sp__law_drawn as S)) := by
  intro as S h
  unfold sp__law_drawn at h ⊢
  split at h
  rotate_left
  · exact h.elim
  rename_i r
  change wS T s__law_drawn [some (.ref r), none, none, none, none, none, none] S _
  unfold s__law_drawn
  obtain ⟨zs, hz, h9, hb⟩ := h
  obtain ⟨z0, m0, e0⟩ := atI_map (cs := zs) (i := 0) (by decide) (by omega)
  obtain ⟨z1, m1, e1⟩ := atI_map (cs := zs) (i := 1) (by decide) (by omega)
  simp +contextual only [↓wE_lit, ↓wE_bin, ↓wE_neg, ↓wE_nott, ↓wE_cmp, ↓wE_chain, ↓wE_andd, ↓wE_orr, ↓wE_ife, ↓wE_nil, ↓wE_cons, ↓wE_tup, ↓wE_lst, ↓wE_idx, ↓wE_slc, ↓wE_fld, ↓wE_meth, ↓wE_new, ↓wE_blt, ↓wE_isty, ↓wE_iscl, ↓wT_cmp, ↓wT_chain, ↓wT_nott, ↓wT_andd, ↓wT_orr, ↓wT_ife, ↓wT_lit, ↓wT_idx, ↓wT_bin, ↓wT_meth, ↓wT_blt, ↓wT_isty, ↓wT_iscl, ↓wT_fld, ↓wT_neg, ↓wT_nil, ↓wT_cons, ↓wT_tup, ↓wT_lst, ↓wT_slc, ↓wT_new, ↓wT_comp, ↓wA_nil, ↓wA_cons, ↓wO_nil, ↓wO_cons, ↓wE_compK, ↓wE_call0, ↓wT_call0, ↓wE_v0, ↓wE_v1, ↓wE_v2, ↓wE_v3, ↓wE_v4, ↓wE_v5, ↓wE_v6, ↓wE_v7, ↓wE_v8, ↓wE_v9, ↓wE_v10, ↓wE_v11, ↓wE_v12, ↓wE_v13, ↓wE_v14, ↓wE_v15, ↓wE_v16, ↓wE_v17, ↓wE_v18, ↓wE_v19, ↓wE_v20, ↓wE_v21, ↓wE_v22, ↓wE_v23, ↓wE_v24, ↓wE_v25, ↓wE_v26, ↓wE_v27, ↓wE_v28, ↓wE_v29, ↓wT_v0, ↓wT_v1, ↓wT_v2, ↓wT_v3, ↓wT_v4, ↓wT_v5, ↓wT_v6, ↓wT_v7, ↓wT_v8, ↓wT_v9, ↓wT_v10, ↓wT_v11, ↓wT_v12, ↓wT_v13, ↓wT_v14, ↓wT_v15, ↓wT_v16, ↓wT_v17, ↓wT_v18, ↓wT_v19, ↓wT_v20, ↓wT_v21, ↓wT_v22, ↓wT_v23, ↓wT_v24, ↓wT_v25, ↓wT_v26, ↓wT_v27, ↓wT_v28, ↓wT_v29, ↓tgt_0, ↓tgt_1, ↓tgt_2, ↓tgt_3, ↓tgt_4, ↓tgt_5, ↓tgt_6, ↓tgt_7, ↓tgt_8, ↓tgt_9, ↓tgt_10, ↓tgt_11, ↓tgt_12, ↓tgt_13, ↓tgt_14, ↓tgt_15, ↓tgt_16, ↓tgt_17, ↓tgt_18, ↓tgt_19, ↓tgt_20, ↓tgt_21, ↓tgt_22, ↓tgt_23, ↓tgt_24, ↓tgt_25, ↓tgt_26, ↓tgt_27, ↓tgt_28, ↓tgt_29, ↓tgt_tn, ↓tgt_tc, ↓wS_skip, ↓wS_seqL, ↓later_at, ↓wS_asg_var, ↓wS_asg_lit, ↓wS_asg_bin, ↓wS_asg_neg, ↓wS_asg_nott, ↓wS_asg_cmp, ↓wS_asg_chain, ↓wS_asg_andd, ↓wS_asg_orr, ↓wS_asg_ife, ↓wS_asg_tup, ↓wS_asg_lst, ↓wS_asg_idx, ↓wS_asg_slc, ↓wS_asg_fld, ↓wS_asg_call, ↓wS_asg_meth, ↓wS_asg_new, ↓wS_asg_blt, ↓wS_asg_isty, ↓wS_asg_iscl, ↓wS_asg_nil, ↓wS_asg_comp, ↓nxK_at, ↓wS_asgF, ↓wS_asgI, ↓wS_augN, ↓wS_augI, ↓wS_parL, ↓wS_expr, ↓wS_bm, ↓wS_ret, ↓wS_retN, ↓wS_ite, ↓wFor_cons, ↓wFor_nil, ↓wS_for, ↓wS_brk, ↓wS_cnt, ↓wS_raise, ↓tyIs_ref, ↓opB_addL, ↓opBm_appendL, ↓setIL, ↓isL_ref, ↓ob_add, ↓ob_adds, ↓ob_addt, ↓ob_sub, ↓ob_mul, ↓ob_fdiv, ↓ob_mod, ↓ob_pow, ↓oi_abs, ↓oi_lent, ↓oi_lens, ↓oi_lenr, ↓oi_sortedr, ↓oi_tupler, ↓oi_listr, ↓oi_sumr, ↓oi_anyr, ↓oi_allr, ↓oi_mxr, ↓oi_mnr, ↓oi_lenl, ↓oi_sortedl, ↓oi_tuplel, ↓oi_listl, ↓oi_suml, ↓oi_anyl, ↓oi_alll, ↓oi_mxl, ↓oi_mnl, ↓oi_max2, ↓oi_min2, ↓oi_int, ↓oi_intb, ↓oi_tuplet, ↓oi_listt, ↓oi_str, ↓oi_divmod, ↓tru_non, ↓tru_bl, ↓tru_int, ↓tru_str, ↓tru_tup, ↓tru_ref, ↓tru_sl, ↓tyIs_non, ↓tyIs_bl, ↓tyIs_int, ↓tyIs_str, ↓tyIs_tup, ↓tyIs_sl, ↓it_t, ↓it_sr, ↓it_er, ↓it_vr, ↓it_sl, ↓it_el, ↓it_vl, ↓it_z, ↓it_1, ↓it_2, ↓it_3, ↓ltI_i, ↓tl_i, ↓optI_i, ↓osl, ↓opIx_tup, ↓opIx_ref, ↓opIx_sl, ↓atQ_0, ↓atQ_1, ↓atQ_2, ↓atQ_3, ↓getL_put, ↓getL_put_ne, ↓getL_put_ne', ↓getL_sl, ↓opC_eq_int, ↓opC_ne_int, ↓opC_eq_bl, ↓opC_ne_bl, ↓opC_eq_t2, ↓opC_ne_t2, ↓opC_eq_t3, ↓opC_eq_t32, ↓opC_ne_t32, ↓opC_ne_t3, ↓opC_lt, ↓opC_le, ↓opC_gt, ↓opC_ge, ↓opC_is, ↓opC_isnot, ↓opC_in, ↓opC_notin, ↓finpu_rt, ↓finpu_nx, ↓finpu_ex, ↓finlaw_rt, ↓finlaw_nx, ↓finlaw_ex, ↓finV_rt, ↓finV_nx, ↓finV_ex, ↓finE_rt, ↓finO_rt, ↓finO_ex, ↓finE_ex, ↓finS_rt, ↓finS_ex, ↓finR_ex, put_none, put_put, Val.isNon, intsOf, atI_0, atI_1, atI_2, atI_3, cutG_to, cutG_from, sub_refl_iff, pu_pre, puV_pre, puE_pre, puO_pre, puS_pre, puR_pre, Option.some.injEq, exists_eq_left', exists_eq_left, exists_eq, exists_eq', Val.int.injEq, Val.bl.injEq, Val.str.injEq, Val.tup.injEq, Val.ref.injEq, List.cons.injEq, List.map_cons, List.map_nil, List.length_cons, List.length_nil, List.cons_append, List.nil_append, List.append_nil, Bool.false_eq_true, if_true, if_false, ite_true, ite_false, true_and, and_true, false_and, and_false, Bool.not_true, Bool.not_false, decide_eq_true_eq, bne_iff_ne, ne_eq, beq_iff_eq, put_same, imp_false, false_implies, implies_true, reduceCtorEq, not_false_eq_true, and_self, Bool.or_false, Bool.or_true, Bool.false_or, Bool.true_or, Bool.not_eq_true, Bool.not_eq_eq_eq_not, Bool.decide_eq_false, decide_eq_false_iff_not, Bool.not_eq_true', beq_eq_false_iff_ne, bne_eq_false_iff_eq, List.isEmpty_cons, List.isEmpty_nil, Int.reduceEq, Int.reduceNe, Int.reduceLT, Int.reduceLE, Int.reduceNeg, Int.reduceAdd, Int.reduceSub, Int.reduceMul, Int.reduceToNat, Nat.reduceLT, Nat.reduceLeDiff, Nat.reducePow, Nat.reduceAdd, Nat.reduceSub, ty_bool_bool, ty_bool_int, ty_bool_tuple, ty_bool_list, ty_bool_str, ty_int_bool, ty_int_int, ty_int_tuple, ty_int_list, ty_int_str, ty_tuple_bool, ty_tuple_int, ty_tuple_tuple, ty_tuple_list, ty_tuple_str, ty_list_bool, ty_list_int, ty_list_tuple, ty_list_list, ty_list_str, ty_str_bool, ty_str_int, ty_str_tuple, ty_str_list, ty_str_str, ↓call__law_side, ↓call__law_inside, ↓call__law_reduced, ↓call__law_number, ↓call__law_heading, ↓getL_ref hz, ↓atQ_at e0, ↓atQ_at e1, cutG_both]
  refine ⟨⟨by decide, by decide⟩, log2_fdiv (by decide) (hb _ m0), fun wide hwide => ⟨hb _ m1, fun high hhigh u hu v hv => ?_⟩⟩
  have hcut : List.drop 2 (List.take 9 (zs.map Val.int)) = ((zs.take 9).drop 2).map Val.int := by rw [List.map_drop, List.map_take]
  rw [hcut]
  have hcl : ((zs.take 9).drop 2).length = 7 := by rw [List.length_drop, List.length_take]; omega
  have hcb : ∀ z ∈ (zs.take 9).drop 2, z.natAbs.log2 < 10000000 := fun z hz => hb z (List.mem_of_mem_take (List.mem_of_mem_drop hz))
  generalize (zs.take 9).drop 2 = part at *
  have hB : B59.natAbs.log2 < 197 ∧ (10 * B59).natAbs.log2 < 200 := by decide +kernel
  refine comp_rule (fun _ o => ∃ z, o = some (.int z) ∧ z.natAbs.log2 < 197) (by rw [put_none]; exact hv) (fun S' k => .inl ⟨u, rfl, k _ _ put_same⟩) (by simp [LIM]; omega) ?_ ?_
  · intro x hx acc S' hD hk K hK
    obtain ⟨z, hz, rfl⟩ := List.mem_map.mp hx
    simp only [↓wE_lit, ↓wE_bin, ↓wE_neg, ↓wE_nott, ↓wE_cmp, ↓wE_chain, ↓wE_andd, ↓wE_orr, ↓wE_ife, ↓wE_nil, ↓wE_cons, ↓wE_tup, ↓wE_lst, ↓wE_idx, ↓wE_slc, ↓wE_fld, ↓wE_meth, ↓wE_new, ↓wE_blt, ↓wE_isty, ↓wE_iscl, ↓wT_cmp, ↓wT_chain, ↓wT_nott, ↓wT_andd, ↓wT_orr, ↓wT_ife, ↓wT_lit, ↓wT_idx, ↓wT_bin, ↓wT_meth, ↓wT_blt, ↓wT_isty, ↓wT_iscl, ↓wT_fld, ↓wT_neg, ↓wT_nil, ↓wT_cons, ↓wT_tup, ↓wT_lst, ↓wT_slc, ↓wT_new, ↓wT_comp, ↓wA_nil, ↓wA_cons, ↓wO_nil, ↓wO_cons, ↓wE_compK, ↓wE_call0, ↓wT_call0, ↓wE_v0, ↓wE_v1, ↓wE_v2, ↓wE_v3, ↓wE_v4, ↓wE_v5, ↓wE_v6, ↓wE_v7, ↓wE_v8, ↓wE_v9, ↓wE_v10, ↓wE_v11, ↓wE_v12, ↓wE_v13, ↓wE_v14, ↓wE_v15, ↓wE_v16, ↓wE_v17, ↓wE_v18, ↓wE_v19, ↓wE_v20, ↓wE_v21, ↓wE_v22, ↓wE_v23, ↓wE_v24, ↓wE_v25, ↓wE_v26, ↓wE_v27, ↓wE_v28, ↓wE_v29, ↓wT_v0, ↓wT_v1, ↓wT_v2, ↓wT_v3, ↓wT_v4, ↓wT_v5, ↓wT_v6, ↓wT_v7, ↓wT_v8, ↓wT_v9, ↓wT_v10, ↓wT_v11, ↓wT_v12, ↓wT_v13, ↓wT_v14, ↓wT_v15, ↓wT_v16, ↓wT_v17, ↓wT_v18, ↓wT_v19, ↓wT_v20, ↓wT_v21, ↓wT_v22, ↓wT_v23, ↓wT_v24, ↓wT_v25, ↓wT_v26, ↓wT_v27, ↓wT_v28, ↓wT_v29, ↓tgt_0, ↓tgt_1, ↓tgt_2, ↓tgt_3, ↓tgt_4, ↓tgt_5, ↓tgt_6, ↓tgt_7, ↓tgt_8, ↓tgt_9, ↓tgt_10, ↓tgt_11, ↓tgt_12, ↓tgt_13, ↓tgt_14, ↓tgt_15, ↓tgt_16, ↓tgt_17, ↓tgt_18, ↓tgt_19, ↓tgt_20, ↓tgt_21, ↓tgt_22, ↓tgt_23, ↓tgt_24, ↓tgt_25, ↓tgt_26, ↓tgt_27, ↓tgt_28, ↓tgt_29, ↓tgt_tn, ↓tgt_tc, ↓wS_skip, ↓wS_seqL, ↓later_at, ↓wS_asg_var, ↓wS_asg_lit, ↓wS_asg_bin, ↓wS_asg_neg, ↓wS_asg_nott, ↓wS_asg_cmp, ↓wS_asg_chain, ↓wS_asg_andd, ↓wS_asg_orr, ↓wS_asg_ife, ↓wS_asg_tup, ↓wS_asg_lst, ↓wS_asg_idx, ↓wS_asg_slc, ↓wS_asg_fld, ↓wS_asg_call, ↓wS_asg_meth, ↓wS_asg_new, ↓wS_asg_blt, ↓wS_asg_isty, ↓wS_asg_iscl, ↓wS_asg_nil, ↓wS_asg_comp, ↓nxK_at, ↓wS_asgF, ↓wS_asgI, ↓wS_augN, ↓wS_augI, ↓wS_parL, ↓wS_expr, ↓wS_bm, ↓wS_ret, ↓wS_retN, ↓wS_ite, ↓wFor_cons, ↓wFor_nil, ↓wS_for, ↓wS_brk, ↓wS_cnt, ↓wS_raise, ↓tyIs_ref, ↓opB_addL, ↓opBm_appendL, ↓setIL, ↓isL_ref, ↓ob_add, ↓ob_adds, ↓ob_addt, ↓ob_sub, ↓ob_mul, ↓ob_fdiv, ↓ob_mod, ↓ob_pow, ↓oi_abs, ↓oi_lent, ↓oi_lens, ↓oi_lenr, ↓oi_sortedr, ↓oi_tupler, ↓oi_listr, ↓oi_sumr, ↓oi_anyr, ↓oi_allr, ↓oi_mxr, ↓oi_mnr, ↓oi_lenl, ↓oi_sortedl, ↓oi_tuplel, ↓oi_listl, ↓oi_suml, ↓oi_anyl, ↓oi_alll, ↓oi_mxl, ↓oi_mnl, ↓oi_max2, ↓oi_min2, ↓oi_int, ↓oi_intb, ↓oi_tuplet, ↓oi_listt, ↓oi_str, ↓oi_divmod, ↓tru_non, ↓tru_bl, ↓tru_int, ↓tru_str, ↓tru_tup, ↓tru_ref, ↓tru_sl, ↓tyIs_non, ↓tyIs_bl, ↓tyIs_int, ↓tyIs_str, ↓tyIs_tup, ↓tyIs_sl, ↓it_t, ↓it_sr, ↓it_er, ↓it_vr, ↓it_sl, ↓it_el, ↓it_vl, ↓it_z, ↓it_1, ↓it_2, ↓it_3, ↓ltI_i, ↓tl_i, ↓optI_i, ↓osl, ↓opIx_tup, ↓opIx_ref, ↓opIx_sl, ↓atQ_0, ↓atQ_1, ↓atQ_2, ↓atQ_3, ↓getL_put, ↓getL_put_ne, ↓getL_put_ne', ↓getL_sl, ↓opC_eq_int, ↓opC_ne_int, ↓opC_eq_bl, ↓opC_ne_bl, ↓opC_eq_t2, ↓opC_ne_t2, ↓opC_eq_t3, ↓opC_eq_t32, ↓opC_ne_t32, ↓opC_ne_t3, ↓opC_lt, ↓opC_le, ↓opC_gt, ↓opC_ge, ↓opC_is, ↓opC_isnot, ↓opC_in, ↓opC_notin, ↓finpu_rt, ↓finpu_nx, ↓finpu_ex, ↓finlaw_rt, ↓finlaw_nx, ↓finlaw_ex, ↓finV_rt, ↓finV_nx, ↓finV_ex, ↓finE_rt, ↓finO_rt, ↓finO_ex, ↓finE_ex, ↓finS_rt, ↓finS_ex, ↓finR_ex, put_none, put_put, Val.isNon, intsOf, atI_0, atI_1, atI_2, atI_3, cutG_to, cutG_from, sub_refl_iff, pu_pre, puV_pre, puE_pre, puO_pre, puS_pre, puR_pre, Option.some.injEq, exists_eq_left', exists_eq_left, exists_eq, exists_eq', Val.int.injEq, Val.bl.injEq, Val.str.injEq, Val.tup.injEq, Val.ref.injEq, List.cons.injEq, List.map_cons, List.map_nil, List.length_cons, List.length_nil, List.cons_append, List.nil_append, List.append_nil, Bool.false_eq_true, if_true, if_false, ite_true, ite_false, true_and, and_true, false_and, and_false, Bool.not_true, Bool.not_false, decide_eq_true_eq, bne_iff_ne, ne_eq, beq_iff_eq, put_same, imp_false, false_implies, implies_true, reduceCtorEq, not_false_eq_true, and_self, Bool.or_false, Bool.or_true, Bool.false_or, Bool.true_or, Bool.not_eq_true, Bool.not_eq_eq_eq_not, Bool.decide_eq_false, decide_eq_false_iff_not, Bool.not_eq_true', beq_eq_false_iff_ne, bne_eq_false_iff_eq, List.isEmpty_cons, List.isEmpty_nil, Int.reduceEq, Int.reduceNe, Int.reduceLT, Int.reduceLE, Int.reduceNeg, Int.reduceAdd, Int.reduceSub, Int.reduceMul, Int.reduceToNat, Nat.reduceLT, Nat.reduceLeDiff, Nat.reducePow, Nat.reduceAdd, Nat.reduceSub, ty_bool_bool, ty_bool_int, ty_bool_tuple, ty_bool_list, ty_bool_str, ty_int_bool, ty_int_int, ty_int_tuple, ty_int_list, ty_int_str, ty_tuple_bool, ty_tuple_int, ty_tuple_tuple, ty_tuple_list, ty_tuple_str, ty_list_bool, ty_list_int, ty_list_tuple, ty_list_list, ty_list_str, ty_str_bool, ty_str_int, ty_str_tuple, ty_str_list, ty_str_str, wipeE, List.set_cons_succ, List.set_cons_zero, ↓call__law_number]
    exact ⟨hcb z hz, fun y hy => hK _ _ ⟨y, rfl, log2_lt_of (show y.natAbs ≤ B59.natAbs by omega) hB.1⟩ hD hk⟩
  intro ys S2 hr hD hk2
  obtain ⟨gs, rfl, hgl, hgs⟩ := rel_ints hr
  rw [List.length_map, hcl] at hgl
  obtain ⟨g2, n2, f2⟩ := atI_map (cs := gs) (i := 2) (by decide) (by omega)
  obtain ⟨g3, n3, f3⟩ := atI_map (cs := gs) (i := 3) (by decide) (by omega)
  obtain ⟨g4, n4, f4⟩ := atI_map (cs := gs) (i := 4) (by decide) (by omega)
  obtain ⟨g5, n5, f5⟩ := atI_map (cs := gs) (i := 5) (by decide) (by omega)
  obtain ⟨g6, n6, f6⟩ := atI_map (cs := gs) (i := 6) (by decide) (by omega)
  simp only [↓wE_lit, ↓wE_bin, ↓wE_neg, ↓wE_nott, ↓wE_cmp, ↓wE_chain, ↓wE_andd, ↓wE_orr, ↓wE_ife, ↓wE_nil, ↓wE_cons, ↓wE_tup, ↓wE_lst, ↓wE_idx, ↓wE_slc, ↓wE_fld, ↓wE_meth, ↓wE_new, ↓wE_blt, ↓wE_isty, ↓wE_iscl, ↓wT_cmp, ↓wT_chain, ↓wT_nott, ↓wT_andd, ↓wT_orr, ↓wT_ife, ↓wT_lit, ↓wT_idx, ↓wT_bin, ↓wT_meth, ↓wT_blt, ↓wT_isty, ↓wT_iscl, ↓wT_fld, ↓wT_neg, ↓wT_nil, ↓wT_cons, ↓wT_tup, ↓wT_lst, ↓wT_slc, ↓wT_new, ↓wT_comp, ↓wA_nil, ↓wA_cons, ↓wO_nil, ↓wO_cons, ↓wE_compK, ↓wE_call0, ↓wT_call0, ↓wE_v0, ↓wE_v1, ↓wE_v2, ↓wE_v3, ↓wE_v4, ↓wE_v5, ↓wE_v6, ↓wE_v7, ↓wE_v8, ↓wE_v9, ↓wE_v10, ↓wE_v11, ↓wE_v12, ↓wE_v13, ↓wE_v14, ↓wE_v15, ↓wE_v16, ↓wE_v17, ↓wE_v18, ↓wE_v19, ↓wE_v20, ↓wE_v21, ↓wE_v22, ↓wE_v23, ↓wE_v24, ↓wE_v25, ↓wE_v26, ↓wE_v27, ↓wE_v28, ↓wE_v29, ↓wT_v0, ↓wT_v1, ↓wT_v2, ↓wT_v3, ↓wT_v4, ↓wT_v5, ↓wT_v6, ↓wT_v7, ↓wT_v8, ↓wT_v9, ↓wT_v10, ↓wT_v11, ↓wT_v12, ↓wT_v13, ↓wT_v14, ↓wT_v15, ↓wT_v16, ↓wT_v17, ↓wT_v18, ↓wT_v19, ↓wT_v20, ↓wT_v21, ↓wT_v22, ↓wT_v23, ↓wT_v24, ↓wT_v25, ↓wT_v26, ↓wT_v27, ↓wT_v28, ↓wT_v29, ↓tgt_0, ↓tgt_1, ↓tgt_2, ↓tgt_3, ↓tgt_4, ↓tgt_5, ↓tgt_6, ↓tgt_7, ↓tgt_8, ↓tgt_9, ↓tgt_10, ↓tgt_11, ↓tgt_12, ↓tgt_13, ↓tgt_14, ↓tgt_15, ↓tgt_16, ↓tgt_17, ↓tgt_18, ↓tgt_19, ↓tgt_20, ↓tgt_21, ↓tgt_22, ↓tgt_23, ↓tgt_24, ↓tgt_25, ↓tgt_26, ↓tgt_27, ↓tgt_28, ↓tgt_29, ↓tgt_tn, ↓tgt_tc, ↓wS_skip, ↓wS_seqL, ↓later_at, ↓wS_asg_var, ↓wS_asg_lit, ↓wS_asg_bin, ↓wS_asg_neg, ↓wS_asg_nott, ↓wS_asg_cmp, ↓wS_asg_chain, ↓wS_asg_andd, ↓wS_asg_orr, ↓wS_asg_ife, ↓wS_asg_tup, ↓wS_asg_lst, ↓wS_asg_idx, ↓wS_asg_slc, ↓wS_asg_fld, ↓wS_asg_call, ↓wS_asg_meth, ↓wS_asg_new, ↓wS_asg_blt, ↓wS_asg_isty, ↓wS_asg_iscl, ↓wS_asg_nil, ↓wS_asg_comp, ↓nxK_at, ↓wS_asgF, ↓wS_asgI, ↓wS_augN, ↓wS_augI, ↓wS_parL, ↓wS_expr, ↓wS_bm, ↓wS_ret, ↓wS_retN, ↓wS_ite, ↓wFor_cons, ↓wFor_nil, ↓wS_for, ↓wS_brk, ↓wS_cnt, ↓wS_raise, ↓tyIs_ref, ↓opB_addL, ↓opBm_appendL, ↓setIL, ↓isL_ref, ↓ob_add, ↓ob_adds, ↓ob_addt, ↓ob_sub, ↓ob_mul, ↓ob_fdiv, ↓ob_mod, ↓ob_pow, ↓oi_abs, ↓oi_lent, ↓oi_lens, ↓oi_lenr, ↓oi_sortedr, ↓oi_tupler, ↓oi_listr, ↓oi_sumr, ↓oi_anyr, ↓oi_allr, ↓oi_mxr, ↓oi_mnr, ↓oi_lenl, ↓oi_sortedl, ↓oi_tuplel, ↓oi_listl, ↓oi_suml, ↓oi_anyl, ↓oi_alll, ↓oi_mxl, ↓oi_mnl, ↓oi_max2, ↓oi_min2, ↓oi_int, ↓oi_intb, ↓oi_tuplet, ↓oi_listt, ↓oi_str, ↓oi_divmod, ↓tru_non, ↓tru_bl, ↓tru_int, ↓tru_str, ↓tru_tup, ↓tru_ref, ↓tru_sl, ↓tyIs_non, ↓tyIs_bl, ↓tyIs_int, ↓tyIs_str, ↓tyIs_tup, ↓tyIs_sl, ↓it_t, ↓it_sr, ↓it_er, ↓it_vr, ↓it_sl, ↓it_el, ↓it_vl, ↓it_z, ↓it_1, ↓it_2, ↓it_3, ↓ltI_i, ↓tl_i, ↓optI_i, ↓osl, ↓opIx_tup, ↓opIx_ref, ↓opIx_sl, ↓atQ_0, ↓atQ_1, ↓atQ_2, ↓atQ_3, ↓getL_put, ↓getL_put_ne, ↓getL_put_ne', ↓getL_sl, ↓opC_eq_int, ↓opC_ne_int, ↓opC_eq_bl, ↓opC_ne_bl, ↓opC_eq_t2, ↓opC_ne_t2, ↓opC_eq_t3, ↓opC_eq_t32, ↓opC_ne_t32, ↓opC_ne_t3, ↓opC_lt, ↓opC_le, ↓opC_gt, ↓opC_ge, ↓opC_is, ↓opC_isnot, ↓opC_in, ↓opC_notin, ↓finpu_rt, ↓finpu_nx, ↓finpu_ex, ↓finlaw_rt, ↓finlaw_nx, ↓finlaw_ex, ↓finV_rt, ↓finV_nx, ↓finV_ex, ↓finE_rt, ↓finO_rt, ↓finO_ex, ↓finE_ex, ↓finS_rt, ↓finS_ex, ↓finR_ex, put_none, put_put, Val.isNon, intsOf, atI_0, atI_1, atI_2, atI_3, cutG_to, cutG_from, sub_refl_iff, pu_pre, puV_pre, puE_pre, puO_pre, puS_pre, puR_pre, Option.some.injEq, exists_eq_left', exists_eq_left, exists_eq, exists_eq', Val.int.injEq, Val.bl.injEq, Val.str.injEq, Val.tup.injEq, Val.ref.injEq, List.cons.injEq, List.map_cons, List.map_nil, List.length_cons, List.length_nil, List.cons_append, List.nil_append, List.append_nil, Bool.false_eq_true, if_true, if_false, ite_true, ite_false, true_and, and_true, false_and, and_false, Bool.not_true, Bool.not_false, decide_eq_true_eq, bne_iff_ne, ne_eq, beq_iff_eq, put_same, imp_false, false_implies, implies_true, reduceCtorEq, not_false_eq_true, and_self, Bool.or_false, Bool.or_true, Bool.false_or, Bool.true_or, Bool.not_eq_true, Bool.not_eq_eq_eq_not, Bool.decide_eq_false, decide_eq_false_iff_not, Bool.not_eq_true', beq_eq_false_iff_ne, bne_eq_false_iff_eq, List.isEmpty_cons, List.isEmpty_nil, Int.reduceEq, Int.reduceNe, Int.reduceLT, Int.reduceLE, Int.reduceNeg, Int.reduceAdd, Int.reduceSub, Int.reduceMul, Int.reduceToNat, Nat.reduceLT, Nat.reduceLeDiff, Nat.reducePow, Nat.reduceAdd, Nat.reduceSub, ty_bool_bool, ty_bool_int, ty_bool_tuple, ty_bool_list, ty_bool_str, ty_int_bool, ty_int_int, ty_int_tuple, ty_int_list, ty_int_str, ty_tuple_bool, ty_tuple_int, ty_tuple_tuple, ty_tuple_list, ty_tuple_str, ty_list_bool, ty_list_int, ty_list_tuple, ty_list_list, ty_list_str, ty_str_bool, ty_str_int, ty_str_tuple, ty_str_list, ty_str_str, ↓call__law_side, ↓call__law_inside, ↓call__law_reduced, ↓call__law_number, ↓call__law_heading, ↓getL_ref hD, ↓atQ_at f2, ↓atQ_at f3, ↓atQ_at f4, ↓atQ_at f5, ↓atQ_at f6]
  have lw := lg (x := wide) hB.2 (by omega) (by omega)
  have lh := lg (x := high) hB.2 (by omega) (by omega)
  have b2 := hgs _ n2
  have b3 := hgs _ n3
  have b4 := hgs _ n4
  have b5 := hgs _ n5
  have b6 := hgs _ n6
  have one : (1 : Int).natAbs.log2 < 197 := by decide +kernel
  have l5 := log2_add (n := 197) one (ab_log b5)
  have l6 := log2_add (n := 197) one (ab_log b6)
  have p6 : 0 < 1 + (if g6 < 0 then -g6 else g6) := by split <;> omega
  have r := red1 (n := 198) (t := 1 + (if g5 < 0 then -g5 else g5)) (b := 1 + (if g6 < 0 then -g6 else g6)) p6 (by omega) (by omega)
  exact ⟨⟨by omega, by omega, lw, lh, gs, hD, by omega, fun z hz => by have := hgs z hz; omega, g2, f2, by omega⟩, fun P hP => ⟨⟨by omega, by omega, by omega⟩, ⟨by omega, by omega⟩, fun g hg =>
    ⟨⟨(_, _, P, g, (_, _)), ⟨rfl, rfl, ⟨rfl, rfl, rfl⟩, ⟨rfl, rfl⟩, rfl, rfl⟩, hP.1, hg.1, hg.2.1, hg.2.2, r.1, Nat.lt_of_lt_of_le r.2.1 (by decide), Nat.lt_of_lt_of_le r.2.2 (by decide)⟩, (Sub.put hu).trans hk2⟩⟩⟩
theorem w_law : ∀ as S, (sp_law as S).pre → wS T s_law (startE ["script", "cells", "k", "wide", "high", "P", "heading", "t"] as) S (fin (sp_law as S)) := by
  rintro as S ⟨ns, rfl, hl, hb⟩
  change wS T s_law [some (.sl (ns.map .int)), none, none, none, none, none, none, none] S _
  unfold s_law sp_law
  simp +contextual only [↓wE_lit, ↓wE_bin, ↓wE_neg, ↓wE_nott, ↓wE_cmp, ↓wE_chain, ↓wE_andd, ↓wE_orr, ↓wE_ife, ↓wE_nil, ↓wE_cons, ↓wE_tup, ↓wE_lst, ↓wE_idx, ↓wE_slc, ↓wE_fld, ↓wE_meth, ↓wE_new, ↓wE_blt, ↓wE_isty, ↓wE_iscl, ↓wT_cmp, ↓wT_chain, ↓wT_nott, ↓wT_andd, ↓wT_orr, ↓wT_ife, ↓wT_lit, ↓wT_idx, ↓wT_bin, ↓wT_meth, ↓wT_blt, ↓wT_isty, ↓wT_iscl, ↓wT_fld, ↓wT_neg, ↓wT_nil, ↓wT_cons, ↓wT_tup, ↓wT_lst, ↓wT_slc, ↓wT_new, ↓wT_comp, ↓wA_nil, ↓wA_cons, ↓wO_nil, ↓wO_cons, ↓wE_compK, ↓wE_call0, ↓wT_call0, ↓wE_v0, ↓wE_v1, ↓wE_v2, ↓wE_v3, ↓wE_v4, ↓wE_v5, ↓wE_v6, ↓wE_v7, ↓wE_v8, ↓wE_v9, ↓wE_v10, ↓wE_v11, ↓wE_v12, ↓wE_v13, ↓wE_v14, ↓wE_v15, ↓wE_v16, ↓wE_v17, ↓wE_v18, ↓wE_v19, ↓wE_v20, ↓wE_v21, ↓wE_v22, ↓wE_v23, ↓wE_v24, ↓wE_v25, ↓wE_v26, ↓wE_v27, ↓wE_v28, ↓wE_v29, ↓wT_v0, ↓wT_v1, ↓wT_v2, ↓wT_v3, ↓wT_v4, ↓wT_v5, ↓wT_v6, ↓wT_v7, ↓wT_v8, ↓wT_v9, ↓wT_v10, ↓wT_v11, ↓wT_v12, ↓wT_v13, ↓wT_v14, ↓wT_v15, ↓wT_v16, ↓wT_v17, ↓wT_v18, ↓wT_v19, ↓wT_v20, ↓wT_v21, ↓wT_v22, ↓wT_v23, ↓wT_v24, ↓wT_v25, ↓wT_v26, ↓wT_v27, ↓wT_v28, ↓wT_v29, ↓tgt_0, ↓tgt_1, ↓tgt_2, ↓tgt_3, ↓tgt_4, ↓tgt_5, ↓tgt_6, ↓tgt_7, ↓tgt_8, ↓tgt_9, ↓tgt_10, ↓tgt_11, ↓tgt_12, ↓tgt_13, ↓tgt_14, ↓tgt_15, ↓tgt_16, ↓tgt_17, ↓tgt_18, ↓tgt_19, ↓tgt_20, ↓tgt_21, ↓tgt_22, ↓tgt_23, ↓tgt_24, ↓tgt_25, ↓tgt_26, ↓tgt_27, ↓tgt_28, ↓tgt_29, ↓tgt_tn, ↓tgt_tc, ↓wS_skip, ↓wS_seqL, ↓later_at, ↓wS_asg_var, ↓wS_asg_lit, ↓wS_asg_bin, ↓wS_asg_neg, ↓wS_asg_nott, ↓wS_asg_cmp, ↓wS_asg_chain, ↓wS_asg_andd, ↓wS_asg_orr, ↓wS_asg_ife, ↓wS_asg_tup, ↓wS_asg_lst, ↓wS_asg_idx, ↓wS_asg_slc, ↓wS_asg_fld, ↓wS_asg_call, ↓wS_asg_meth, ↓wS_asg_new, ↓wS_asg_blt, ↓wS_asg_isty, ↓wS_asg_iscl, ↓wS_asg_nil, ↓wS_asg_comp, ↓nxK_at, ↓wS_asgF, ↓wS_asgI, ↓wS_augN, ↓wS_augI, ↓wS_parL, ↓wS_expr, ↓wS_bm, ↓wS_ret, ↓wS_retN, ↓wS_ite, ↓wFor_cons, ↓wFor_nil, ↓wS_for, ↓wS_brk, ↓wS_cnt, ↓wS_raise, ↓tyIs_ref, ↓opB_addL, ↓opBm_appendL, ↓setIL, ↓isL_ref, ↓ob_add, ↓ob_adds, ↓ob_addt, ↓ob_sub, ↓ob_mul, ↓ob_fdiv, ↓ob_mod, ↓ob_pow, ↓oi_abs, ↓oi_lent, ↓oi_lens, ↓oi_lenr, ↓oi_sortedr, ↓oi_tupler, ↓oi_listr, ↓oi_sumr, ↓oi_anyr, ↓oi_allr, ↓oi_mxr, ↓oi_mnr, ↓oi_lenl, ↓oi_sortedl, ↓oi_tuplel, ↓oi_listl, ↓oi_suml, ↓oi_anyl, ↓oi_alll, ↓oi_mxl, ↓oi_mnl, ↓oi_max2, ↓oi_min2, ↓oi_int, ↓oi_intb, ↓oi_tuplet, ↓oi_listt, ↓oi_str, ↓oi_divmod, ↓tru_non, ↓tru_bl, ↓tru_int, ↓tru_str, ↓tru_tup, ↓tru_ref, ↓tru_sl, ↓tyIs_non, ↓tyIs_bl, ↓tyIs_int, ↓tyIs_str, ↓tyIs_tup, ↓tyIs_sl, ↓it_t, ↓it_sr, ↓it_er, ↓it_vr, ↓it_sl, ↓it_el, ↓it_vl, ↓it_z, ↓it_1, ↓it_2, ↓it_3, ↓ltI_i, ↓tl_i, ↓optI_i, ↓osl, ↓opIx_tup, ↓opIx_ref, ↓opIx_sl, ↓atQ_0, ↓atQ_1, ↓atQ_2, ↓atQ_3, ↓getL_put, ↓getL_put_ne, ↓getL_put_ne', ↓getL_sl, ↓opC_eq_int, ↓opC_ne_int, ↓opC_eq_bl, ↓opC_ne_bl, ↓opC_eq_t2, ↓opC_ne_t2, ↓opC_eq_t3, ↓opC_eq_t32, ↓opC_ne_t32, ↓opC_ne_t3, ↓opC_lt, ↓opC_le, ↓opC_gt, ↓opC_ge, ↓opC_is, ↓opC_isnot, ↓opC_in, ↓opC_notin, ↓finpu_rt, ↓finpu_nx, ↓finpu_ex, ↓finlaw_rt, ↓finlaw_nx, ↓finlaw_ex, ↓finV_rt, ↓finV_nx, ↓finV_ex, ↓finE_rt, ↓finO_rt, ↓finO_ex, ↓finE_ex, ↓finS_rt, ↓finS_ex, ↓finR_ex, put_none, put_put, Val.isNon, intsOf, atI_0, atI_1, atI_2, atI_3, cutG_to, cutG_from, sub_refl_iff, pu_pre, puV_pre, puE_pre, puO_pre, puS_pre, puR_pre, Option.some.injEq, exists_eq_left', exists_eq_left, exists_eq, exists_eq', Val.int.injEq, Val.bl.injEq, Val.str.injEq, Val.tup.injEq, Val.ref.injEq, List.cons.injEq, List.map_cons, List.map_nil, List.length_cons, List.length_nil, List.cons_append, List.nil_append, List.append_nil, Bool.false_eq_true, if_true, if_false, ite_true, ite_false, true_and, and_true, false_and, and_false, Bool.not_true, Bool.not_false, decide_eq_true_eq, bne_iff_ne, ne_eq, beq_iff_eq, put_same, imp_false, false_implies, implies_true, reduceCtorEq, not_false_eq_true, and_self, Bool.or_false, Bool.or_true, Bool.false_or, Bool.true_or, Bool.not_eq_true, Bool.not_eq_eq_eq_not, Bool.decide_eq_false, decide_eq_false_iff_not, Bool.not_eq_true', beq_eq_false_iff_ne, bne_eq_false_iff_eq, List.isEmpty_cons, List.isEmpty_nil, Int.reduceEq, Int.reduceNe, Int.reduceLT, Int.reduceLE, Int.reduceNeg, Int.reduceAdd, Int.reduceSub, Int.reduceMul, Int.reduceToNat, Nat.reduceLT, Nat.reduceLeDiff, Nat.reducePow, Nat.reduceAdd, Nat.reduceSub, ty_bool_bool, ty_bool_int, ty_bool_tuple, ty_bool_list, ty_bool_str, ty_int_bool, ty_int_int, ty_int_tuple, ty_int_list, ty_int_str, ty_tuple_bool, ty_tuple_int, ty_tuple_tuple, ty_tuple_list, ty_tuple_str, ty_list_bool, ty_list_int, ty_list_tuple, ty_list_list, ty_list_str, ty_str_bool, ty_str_int, ty_str_tuple, ty_str_list, ty_str_str]
  intro p hp q hq
  refine ⟨by simp [LIM]; omega, fun r hr => ?_⟩
  have ht : List.take 63 (ns.map Val.int) = ns.map Val.int := List.take_of_length_le (by rw [List.length_map]; exact hl)
  rw [ht]
  have e : ns.map Val.int ++ [.int 0, .int 0, .int 0, .int 0, .int 0, .int 0, .int 0, .int 0, .int 0] = (ns ++ [0, 0, 0, 0, 0, 0, 0, 0, 0]).map Val.int := by rw [List.map_append]; rfl
  have hlen : (ns ++ [0, 0, 0, 0, 0, 0, 0, 0, 0]).length ≤ 72 := by rw [List.length_append]; simp; omega
  have hbig := cells_big hb (e := [0, 0, 0, 0, 0, 0, 0, 0, 0]) (by simp)
  rw [e]
  generalize hcs : ns ++ [0, 0, 0, 0, 0, 0, 0, 0, 0] = cs at *
  refine ⟨⟨by decide, by decide, by rw [List.length_map]; omega, by rw [List.length_map]; omega⟩, ?_⟩
  generalize hS : put _ r (.lst (cs.map .int)) = S0
  have h0 : S0 r = some (.lst (cs.map .int)) := by rw [← hS]; exact put_same
  refine for_inv (fun k env S' => ∃ a b c d e f, env = [some (.sl (ns.map .int)), some (.ref r), a, b, c, d, e, f] ∧ Sub S0 S') ⟨_, _, _, _, _, _, rfl, Sub.refl⟩ ?_ ?_
  · rintro k x env S1 hx ⟨a, b, c, d, e, f, rfl, hs1⟩
    obtain ⟨hk, rfl⟩ := getElem_map_range hx
    have hlt := range_lt (by decide) hk
    rw [List.length_map] at hlt
    have h1 := hs1 _ _ h0
    obtain ⟨c0, m0, f0⟩ := atI_map (cs := cs) (i := 0 + k * 9) (by omega) (by omega)
    have hcut : cutG (cs.map Val.int) (some (0 + (k : Int) * 9)) (some (0 + (k : Int) * 9 + 9)) = ((cs.take (k * 9 + 9)).drop (k * 9)).map Val.int := by
      rw [cutG_both (by omega) (by omega), List.map_drop, List.map_take]
      congr 2 <;> omega
    have hcl : ((cs.take (k * 9 + 9)).drop (k * 9)).length = 9 := by
      rw [List.length_drop, List.length_take]
      omega
    have hcb : ∀ z ∈ (cs.take (k * 9 + 9)).drop (k * 9), z.natAbs.log2 < 10000000 := fun z hz => hbig z (List.mem_of_mem_take (List.mem_of_mem_drop hz))
    refine ⟨trivial, ?_⟩
    generalize (cs.take (k * 9 + 9)).drop (k * 9) = part at *
    simp +contextual only [↓wE_lit, ↓wE_bin, ↓wE_neg, ↓wE_nott, ↓wE_cmp, ↓wE_chain, ↓wE_andd, ↓wE_orr, ↓wE_ife, ↓wE_nil, ↓wE_cons, ↓wE_tup, ↓wE_lst, ↓wE_idx, ↓wE_slc, ↓wE_fld, ↓wE_meth, ↓wE_new, ↓wE_blt, ↓wE_isty, ↓wE_iscl, ↓wT_cmp, ↓wT_chain, ↓wT_nott, ↓wT_andd, ↓wT_orr, ↓wT_ife, ↓wT_lit, ↓wT_idx, ↓wT_bin, ↓wT_meth, ↓wT_blt, ↓wT_isty, ↓wT_iscl, ↓wT_fld, ↓wT_neg, ↓wT_nil, ↓wT_cons, ↓wT_tup, ↓wT_lst, ↓wT_slc, ↓wT_new, ↓wT_comp, ↓wA_nil, ↓wA_cons, ↓wO_nil, ↓wO_cons, ↓wE_compK, ↓wE_call0, ↓wT_call0, ↓wE_v0, ↓wE_v1, ↓wE_v2, ↓wE_v3, ↓wE_v4, ↓wE_v5, ↓wE_v6, ↓wE_v7, ↓wE_v8, ↓wE_v9, ↓wE_v10, ↓wE_v11, ↓wE_v12, ↓wE_v13, ↓wE_v14, ↓wE_v15, ↓wE_v16, ↓wE_v17, ↓wE_v18, ↓wE_v19, ↓wE_v20, ↓wE_v21, ↓wE_v22, ↓wE_v23, ↓wE_v24, ↓wE_v25, ↓wE_v26, ↓wE_v27, ↓wE_v28, ↓wE_v29, ↓wT_v0, ↓wT_v1, ↓wT_v2, ↓wT_v3, ↓wT_v4, ↓wT_v5, ↓wT_v6, ↓wT_v7, ↓wT_v8, ↓wT_v9, ↓wT_v10, ↓wT_v11, ↓wT_v12, ↓wT_v13, ↓wT_v14, ↓wT_v15, ↓wT_v16, ↓wT_v17, ↓wT_v18, ↓wT_v19, ↓wT_v20, ↓wT_v21, ↓wT_v22, ↓wT_v23, ↓wT_v24, ↓wT_v25, ↓wT_v26, ↓wT_v27, ↓wT_v28, ↓wT_v29, ↓tgt_0, ↓tgt_1, ↓tgt_2, ↓tgt_3, ↓tgt_4, ↓tgt_5, ↓tgt_6, ↓tgt_7, ↓tgt_8, ↓tgt_9, ↓tgt_10, ↓tgt_11, ↓tgt_12, ↓tgt_13, ↓tgt_14, ↓tgt_15, ↓tgt_16, ↓tgt_17, ↓tgt_18, ↓tgt_19, ↓tgt_20, ↓tgt_21, ↓tgt_22, ↓tgt_23, ↓tgt_24, ↓tgt_25, ↓tgt_26, ↓tgt_27, ↓tgt_28, ↓tgt_29, ↓tgt_tn, ↓tgt_tc, ↓wS_skip, ↓wS_seqL, ↓later_at, ↓wS_asg_var, ↓wS_asg_lit, ↓wS_asg_bin, ↓wS_asg_neg, ↓wS_asg_nott, ↓wS_asg_cmp, ↓wS_asg_chain, ↓wS_asg_andd, ↓wS_asg_orr, ↓wS_asg_ife, ↓wS_asg_tup, ↓wS_asg_lst, ↓wS_asg_idx, ↓wS_asg_slc, ↓wS_asg_fld, ↓wS_asg_call, ↓wS_asg_meth, ↓wS_asg_new, ↓wS_asg_blt, ↓wS_asg_isty, ↓wS_asg_iscl, ↓wS_asg_nil, ↓wS_asg_comp, ↓nxK_at, ↓wS_asgF, ↓wS_asgI, ↓wS_augN, ↓wS_augI, ↓wS_parL, ↓wS_expr, ↓wS_bm, ↓wS_ret, ↓wS_retN, ↓wS_ite, ↓wFor_cons, ↓wFor_nil, ↓wS_for, ↓wS_brk, ↓wS_cnt, ↓wS_raise, ↓tyIs_ref, ↓opB_addL, ↓opBm_appendL, ↓setIL, ↓isL_ref, ↓ob_add, ↓ob_adds, ↓ob_addt, ↓ob_sub, ↓ob_mul, ↓ob_fdiv, ↓ob_mod, ↓ob_pow, ↓oi_abs, ↓oi_lent, ↓oi_lens, ↓oi_lenr, ↓oi_sortedr, ↓oi_tupler, ↓oi_listr, ↓oi_sumr, ↓oi_anyr, ↓oi_allr, ↓oi_mxr, ↓oi_mnr, ↓oi_lenl, ↓oi_sortedl, ↓oi_tuplel, ↓oi_listl, ↓oi_suml, ↓oi_anyl, ↓oi_alll, ↓oi_mxl, ↓oi_mnl, ↓oi_max2, ↓oi_min2, ↓oi_int, ↓oi_intb, ↓oi_tuplet, ↓oi_listt, ↓oi_str, ↓oi_divmod, ↓tru_non, ↓tru_bl, ↓tru_int, ↓tru_str, ↓tru_tup, ↓tru_ref, ↓tru_sl, ↓tyIs_non, ↓tyIs_bl, ↓tyIs_int, ↓tyIs_str, ↓tyIs_tup, ↓tyIs_sl, ↓it_t, ↓it_sr, ↓it_er, ↓it_vr, ↓it_sl, ↓it_el, ↓it_vl, ↓it_z, ↓it_1, ↓it_2, ↓it_3, ↓ltI_i, ↓tl_i, ↓optI_i, ↓osl, ↓opIx_tup, ↓opIx_ref, ↓opIx_sl, ↓atQ_0, ↓atQ_1, ↓atQ_2, ↓atQ_3, ↓getL_put, ↓getL_put_ne, ↓getL_put_ne', ↓getL_sl, ↓opC_eq_int, ↓opC_ne_int, ↓opC_eq_bl, ↓opC_ne_bl, ↓opC_eq_t2, ↓opC_ne_t2, ↓opC_eq_t3, ↓opC_eq_t32, ↓opC_ne_t32, ↓opC_ne_t3, ↓opC_lt, ↓opC_le, ↓opC_gt, ↓opC_ge, ↓opC_is, ↓opC_isnot, ↓opC_in, ↓opC_notin, ↓finpu_rt, ↓finpu_nx, ↓finpu_ex, ↓finlaw_rt, ↓finlaw_nx, ↓finlaw_ex, ↓finV_rt, ↓finV_nx, ↓finV_ex, ↓finE_rt, ↓finO_rt, ↓finO_ex, ↓finE_ex, ↓finS_rt, ↓finS_ex, ↓finR_ex, put_none, put_put, Val.isNon, intsOf, atI_0, atI_1, atI_2, atI_3, cutG_to, cutG_from, sub_refl_iff, pu_pre, puV_pre, puE_pre, puO_pre, puS_pre, puR_pre, Option.some.injEq, exists_eq_left', exists_eq_left, exists_eq, exists_eq', Val.int.injEq, Val.bl.injEq, Val.str.injEq, Val.tup.injEq, Val.ref.injEq, List.cons.injEq, List.map_cons, List.map_nil, List.length_cons, List.length_nil, List.cons_append, List.nil_append, List.append_nil, Bool.false_eq_true, if_true, if_false, ite_true, ite_false, true_and, and_true, false_and, and_false, Bool.not_true, Bool.not_false, decide_eq_true_eq, bne_iff_ne, ne_eq, beq_iff_eq, put_same, imp_false, false_implies, implies_true, reduceCtorEq, not_false_eq_true, and_self, Bool.or_false, Bool.or_true, Bool.false_or, Bool.true_or, Bool.not_eq_true, Bool.not_eq_eq_eq_not, Bool.decide_eq_false, decide_eq_false_iff_not, Bool.not_eq_true', beq_eq_false_iff_ne, bne_eq_false_iff_eq, List.isEmpty_cons, List.isEmpty_nil, Int.reduceEq, Int.reduceNe, Int.reduceLT, Int.reduceLE, Int.reduceNeg, Int.reduceAdd, Int.reduceSub, Int.reduceMul, Int.reduceToNat, Nat.reduceLT, Nat.reduceLeDiff, Nat.reducePow, Nat.reduceAdd, Nat.reduceSub, ty_bool_bool, ty_bool_int, ty_bool_tuple, ty_bool_list, ty_bool_str, ty_int_bool, ty_int_int, ty_int_tuple, ty_int_list, ty_int_str, ty_tuple_bool, ty_tuple_int, ty_tuple_tuple, ty_tuple_list, ty_tuple_str, ty_list_bool, ty_list_int, ty_list_tuple, ty_list_list, ty_list_str, ty_str_bool, ty_str_int, ty_str_tuple, ty_str_list, ty_str_str, ↓getL_ref h1, hcut, ↓atQ_at f0, ↓call__law_any, ↓call__law_drawn, ↓call__law_right, ↓call__law_put, ne_old h1]
    split
    · exact fun p hp => ⟨⟨part, rfl, hcl, hcb⟩, fun q hq P hP => ⟨_, _, _, _, _, _, ⟨rfl, rfl, rfl, rfl, rfl, rfl⟩, hs1.trans (Sub.put hp)⟩⟩
    · exact fun p hp => ⟨⟨part, rfl, hcl, hcb⟩, fun q hq P hP => ⟨_, _, _, _, _, _, ⟨rfl, rfl, rfl, rfl, rfl, rfl⟩, hs1.trans (Sub.put hp)⟩⟩
  · rintro env S' ⟨a, b, c, d, e, f, rfl, hs1⟩
    simp only [↓wE_lit, ↓wE_bin, ↓wE_neg, ↓wE_nott, ↓wE_cmp, ↓wE_chain, ↓wE_andd, ↓wE_orr, ↓wE_ife, ↓wE_nil, ↓wE_cons, ↓wE_tup, ↓wE_lst, ↓wE_idx, ↓wE_slc, ↓wE_fld, ↓wE_meth, ↓wE_new, ↓wE_blt, ↓wE_isty, ↓wE_iscl, ↓wT_cmp, ↓wT_chain, ↓wT_nott, ↓wT_andd, ↓wT_orr, ↓wT_ife, ↓wT_lit, ↓wT_idx, ↓wT_bin, ↓wT_meth, ↓wT_blt, ↓wT_isty, ↓wT_iscl, ↓wT_fld, ↓wT_neg, ↓wT_nil, ↓wT_cons, ↓wT_tup, ↓wT_lst, ↓wT_slc, ↓wT_new, ↓wT_comp, ↓wA_nil, ↓wA_cons, ↓wO_nil, ↓wO_cons, ↓wE_compK, ↓wE_call0, ↓wT_call0, ↓wE_v0, ↓wE_v1, ↓wE_v2, ↓wE_v3, ↓wE_v4, ↓wE_v5, ↓wE_v6, ↓wE_v7, ↓wE_v8, ↓wE_v9, ↓wE_v10, ↓wE_v11, ↓wE_v12, ↓wE_v13, ↓wE_v14, ↓wE_v15, ↓wE_v16, ↓wE_v17, ↓wE_v18, ↓wE_v19, ↓wE_v20, ↓wE_v21, ↓wE_v22, ↓wE_v23, ↓wE_v24, ↓wE_v25, ↓wE_v26, ↓wE_v27, ↓wE_v28, ↓wE_v29, ↓wT_v0, ↓wT_v1, ↓wT_v2, ↓wT_v3, ↓wT_v4, ↓wT_v5, ↓wT_v6, ↓wT_v7, ↓wT_v8, ↓wT_v9, ↓wT_v10, ↓wT_v11, ↓wT_v12, ↓wT_v13, ↓wT_v14, ↓wT_v15, ↓wT_v16, ↓wT_v17, ↓wT_v18, ↓wT_v19, ↓wT_v20, ↓wT_v21, ↓wT_v22, ↓wT_v23, ↓wT_v24, ↓wT_v25, ↓wT_v26, ↓wT_v27, ↓wT_v28, ↓wT_v29, ↓tgt_0, ↓tgt_1, ↓tgt_2, ↓tgt_3, ↓tgt_4, ↓tgt_5, ↓tgt_6, ↓tgt_7, ↓tgt_8, ↓tgt_9, ↓tgt_10, ↓tgt_11, ↓tgt_12, ↓tgt_13, ↓tgt_14, ↓tgt_15, ↓tgt_16, ↓tgt_17, ↓tgt_18, ↓tgt_19, ↓tgt_20, ↓tgt_21, ↓tgt_22, ↓tgt_23, ↓tgt_24, ↓tgt_25, ↓tgt_26, ↓tgt_27, ↓tgt_28, ↓tgt_29, ↓tgt_tn, ↓tgt_tc, ↓wS_skip, ↓wS_seqL, ↓later_at, ↓wS_asg_var, ↓wS_asg_lit, ↓wS_asg_bin, ↓wS_asg_neg, ↓wS_asg_nott, ↓wS_asg_cmp, ↓wS_asg_chain, ↓wS_asg_andd, ↓wS_asg_orr, ↓wS_asg_ife, ↓wS_asg_tup, ↓wS_asg_lst, ↓wS_asg_idx, ↓wS_asg_slc, ↓wS_asg_fld, ↓wS_asg_call, ↓wS_asg_meth, ↓wS_asg_new, ↓wS_asg_blt, ↓wS_asg_isty, ↓wS_asg_iscl, ↓wS_asg_nil, ↓wS_asg_comp, ↓nxK_at, ↓wS_asgF, ↓wS_asgI, ↓wS_augN, ↓wS_augI, ↓wS_parL, ↓wS_expr, ↓wS_bm, ↓wS_ret, ↓wS_retN, ↓wS_ite, ↓wFor_cons, ↓wFor_nil, ↓wS_for, ↓wS_brk, ↓wS_cnt, ↓wS_raise, ↓tyIs_ref, ↓opB_addL, ↓opBm_appendL, ↓setIL, ↓isL_ref, ↓ob_add, ↓ob_adds, ↓ob_addt, ↓ob_sub, ↓ob_mul, ↓ob_fdiv, ↓ob_mod, ↓ob_pow, ↓oi_abs, ↓oi_lent, ↓oi_lens, ↓oi_lenr, ↓oi_sortedr, ↓oi_tupler, ↓oi_listr, ↓oi_sumr, ↓oi_anyr, ↓oi_allr, ↓oi_mxr, ↓oi_mnr, ↓oi_lenl, ↓oi_sortedl, ↓oi_tuplel, ↓oi_listl, ↓oi_suml, ↓oi_anyl, ↓oi_alll, ↓oi_mxl, ↓oi_mnl, ↓oi_max2, ↓oi_min2, ↓oi_int, ↓oi_intb, ↓oi_tuplet, ↓oi_listt, ↓oi_str, ↓oi_divmod, ↓tru_non, ↓tru_bl, ↓tru_int, ↓tru_str, ↓tru_tup, ↓tru_ref, ↓tru_sl, ↓tyIs_non, ↓tyIs_bl, ↓tyIs_int, ↓tyIs_str, ↓tyIs_tup, ↓tyIs_sl, ↓it_t, ↓it_sr, ↓it_er, ↓it_vr, ↓it_sl, ↓it_el, ↓it_vl, ↓it_z, ↓it_1, ↓it_2, ↓it_3, ↓ltI_i, ↓tl_i, ↓optI_i, ↓osl, ↓opIx_tup, ↓opIx_ref, ↓opIx_sl, ↓atQ_0, ↓atQ_1, ↓atQ_2, ↓atQ_3, ↓getL_put, ↓getL_put_ne, ↓getL_put_ne', ↓getL_sl, ↓opC_eq_int, ↓opC_ne_int, ↓opC_eq_bl, ↓opC_ne_bl, ↓opC_eq_t2, ↓opC_ne_t2, ↓opC_eq_t3, ↓opC_eq_t32, ↓opC_ne_t32, ↓opC_ne_t3, ↓opC_lt, ↓opC_le, ↓opC_gt, ↓opC_ge, ↓opC_is, ↓opC_isnot, ↓opC_in, ↓opC_notin, ↓finpu_rt, ↓finpu_nx, ↓finpu_ex, ↓finlaw_rt, ↓finlaw_nx, ↓finlaw_ex, ↓finV_rt, ↓finV_nx, ↓finV_ex, ↓finE_rt, ↓finO_rt, ↓finO_ex, ↓finE_ex, ↓finS_rt, ↓finS_ex, ↓finR_ex, put_none, put_put, Val.isNon, intsOf, atI_0, atI_1, atI_2, atI_3, cutG_to, cutG_from, sub_refl_iff, pu_pre, puV_pre, puE_pre, puO_pre, puS_pre, puR_pre, Option.some.injEq, exists_eq_left', exists_eq_left, exists_eq, exists_eq', Val.int.injEq, Val.bl.injEq, Val.str.injEq, Val.tup.injEq, Val.ref.injEq, List.cons.injEq, List.map_cons, List.map_nil, List.length_cons, List.length_nil, List.cons_append, List.nil_append, List.append_nil, Bool.false_eq_true, if_true, if_false, ite_true, ite_false, true_and, and_true, false_and, and_false, Bool.not_true, Bool.not_false, decide_eq_true_eq, bne_iff_ne, ne_eq, beq_iff_eq, put_same, imp_false, false_implies, implies_true, reduceCtorEq, not_false_eq_true, and_self, Bool.or_false, Bool.or_true, Bool.false_or, Bool.true_or, Bool.not_eq_true, Bool.not_eq_eq_eq_not, Bool.decide_eq_false, decide_eq_false_iff_not, Bool.not_eq_true', beq_eq_false_iff_ne, bne_eq_false_iff_eq, List.isEmpty_cons, List.isEmpty_nil, Int.reduceEq, Int.reduceNe, Int.reduceLT, Int.reduceLE, Int.reduceNeg, Int.reduceAdd, Int.reduceSub, Int.reduceMul, Int.reduceToNat, Nat.reduceLT, Nat.reduceLeDiff, Nat.reducePow, Nat.reduceAdd, Nat.reduceSub, ty_bool_bool, ty_bool_int, ty_bool_tuple, ty_bool_list, ty_bool_str, ty_int_bool, ty_int_int, ty_int_tuple, ty_int_list, ty_int_str, ty_tuple_bool, ty_tuple_int, ty_tuple_tuple, ty_tuple_list, ty_tuple_str, ty_list_bool, ty_list_int, ty_list_tuple, ty_list_list, ty_list_str, ty_str_bool, ty_str_int, ty_str_tuple, ty_str_list, ty_str_str]
section
variable {P : Program} {w : World} {K : PySem.W.Frag} {mg : Str → Option Value} {base : Heap} {G : Gn} {f : Addr} {fd : FuncData}
theorem in_divisor (F : FunD K "divisor" "divisor" (defArgs (top 5)) (defBody (top 5)) (defScope (top 5)) [] [] f fd) (hm : mg "divisor" = some (.ref f)) (gd : Gd K mg [])  : FnIn P w K mg base G 1 "divisor" (sp_divisor) [] := fn_in (T := T) (k := 0) F hm sc_divisor gd fns_nil c_divisor (fun as S h => by unfold sp_divisor at h; split at h <;> first | rfl | exact h.elim) w_divisor fun _ _ _ _ _ _ us hl => match us, hl with | [_, _], _ => rfl
theorem in_time_of (F : FunD K "time_of" "time_of" (defArgs (top 6)) (defBody (top 6)) (defScope (top 6)) [] [] f fd) (hm : mg "time_of" = some (.ref f)) (gd : Gd K mg []) (h_divisor : FnIn P w K mg base G 1 "divisor" (sp_divisor) []) : FnIn P w K mg base G 2 "time_of" (sp_time_of) [] := fn_in (T := T) (k := 1) F hm sc_time_of gd (fns_cons (n := 2) h_divisor fns_nil (by decide)) c_time_of (fun as S h => by unfold sp_time_of at h; split at h <;> first | rfl | exact h.elim) w_time_of fun _ _ _ _ _ _ us hl => match us, hl with | [_, _], _ => rfl
theorem in_look_inside (F : FunD K "look_inside" "look_inside" (defArgs (top 8)) (defBody (top 8)) (defScope (top 8)) [] [] f fd) (hm : mg "look_inside" = some (.ref f)) (gd : Gd K mg [])  : FnIn P w K mg base G 1 "look_inside" (sp_look_inside) [] := fn_in (T := T) (k := 0) F hm sc_look_inside gd fns_nil c_look_inside (fun as S h => by unfold sp_look_inside at h; split at h <;> first | rfl | exact h.elim) w_look_inside fun _ _ _ _ _ _ us hl => match us, hl with | [_, _, _], _ => rfl
theorem in_undone (F : FunD K "undone" "undone" (defArgs (top 9)) (defBody (top 9)) (defScope (top 9)) [] [] f fd) (hm : mg "undone" = some (.ref f)) (gd : Gd K mg [])  : FnIn P w K mg base G 1 "undone" (sp_undone) [] := fn_in (T := T) (k := 0) F hm sc_undone gd fns_nil c_undone (fun as S h => by unfold sp_undone at h; split at h <;> first | rfl | exact h.elim) w_undone fun _ _ _ _ _ _ us hl => match us, hl with | [_, _], _ => rfl
theorem in_box_corner (F : FunD K "box_corner" "box_corner" (defArgs (top 10)) (defBody (top 10)) (defScope (top 10)) [] [] f fd) (hm : mg "box_corner" = some (.ref f)) (gd : Gd K mg []) (h_look_inside : FnIn P w K mg base G 1 "look_inside" (sp_look_inside) []) (h_divisor : FnIn P w K mg base G 1 "divisor" (sp_divisor) []) (h_time_of : FnIn P w K mg base G 2 "time_of" (sp_time_of) []) (h_undone : FnIn P w K mg base G 1 "undone" (sp_undone) []) : FnIn P w K mg base G 3 "box_corner" (sp_box_corner) [] := fn_in (T := T) (k := 2) F hm sc_box_corner gd (fns_cons (n := 3) h_look_inside (fns_cons (n := 2) h_divisor (fns_cons (n := 2) h_time_of (fns_cons (n := 2) h_undone fns_nil (by decide)) (by decide)) (by decide)) (by decide)) c_box_corner (fun as S h => by unfold sp_box_corner at h; split at h <;> first | rfl | exact h.elim) w_box_corner fun _ _ _ _ _ _ us hl => match us, hl with | [_, _, _, _], _ => rfl
theorem in__law_is_int (F : FunD K "_law_is_int" "_law_is_int" (defArgs (top 12)) (defBody (top 12)) (defScope (top 12)) [] [] f fd) (hm : mg "_law_is_int" = some (.ref f)) (gd : Gd K mg [])  : FnIn P w K mg base G 1 "_law_is_int" (sp__law_is_int) [] := fn_in (T := T) (k := 0) F hm sc__law_is_int gd fns_nil c__law_is_int (fun as S h => by unfold sp__law_is_int at h; split at h <;> first | rfl | exact h.elim) w__law_is_int fun _ _ _ _ _ _ us hl => match us, hl with | [_], _ => rfl
theorem in__law_number (F : FunD K "_law_number" "_law_number" (defArgs (top 13)) (defBody (top 13)) (defScope (top 13)) [] [] f fd) (hm : mg "_law_number" = some (.ref f)) (gd : Gd K mg [])  : FnIn P w K mg base G 1 "_law_number" (sp__law_number) [] := fn_in (T := T) (k := 0) F hm sc__law_number gd fns_nil c__law_number (fun as S h => by unfold sp__law_number at h; split at h <;> first | rfl | exact h.elim) w__law_number fun _ _ _ _ _ _ us hl => match us, hl with | [_], _ => rfl
theorem in__law_side (F : FunD K "_law_side" "_law_side" (defArgs (top 14)) (defBody (top 14)) (defScope (top 14)) [] [] f fd) (hm : mg "_law_side" = some (.ref f)) (gd : Gd K mg [])  : FnIn P w K mg base G 1 "_law_side" (sp__law_side) [] := fn_in (T := T) (k := 0) F hm sc__law_side gd fns_nil c__law_side (fun as S h => by unfold sp__law_side at h; split at h <;> first | rfl | exact h.elim) w__law_side fun _ _ _ _ _ _ us hl => match us, hl with | [_], _ => rfl
theorem in__law_measure (F : FunD K "_law_measure" "_law_measure" (defArgs (top 15)) (defBody (top 15)) (defScope (top 15)) [] [] f fd) (hm : mg "_law_measure" = some (.ref f)) (gd : Gd K mg [])  : FnIn P w K mg base G 1 "_law_measure" (sp__law_measure) [] := fn_in (T := T) (k := 0) F hm sc__law_measure gd fns_nil c__law_measure (fun as S h => by unfold sp__law_measure at h; split at h <;> first | rfl | exact h.elim) w__law_measure fun _ _ _ _ _ _ us hl => match us, hl with | [_, _], _ => rfl
theorem in__law_reduced (F : FunD K "_law_reduced" "_law_reduced" (defArgs (top 16)) (defBody (top 16)) (defScope (top 16)) [] [] f fd) (hm : mg "_law_reduced" = some (.ref f)) (gd : Gd K mg []) (h__law_measure : FnIn P w K mg base G 1 "_law_measure" (sp__law_measure) []) : FnIn P w K mg base G 2 "_law_reduced" (sp__law_reduced) [] := fn_in (T := T) (k := 1) F hm sc__law_reduced gd (fns_cons (n := 2) h__law_measure fns_nil (by decide)) c__law_reduced (fun as S h => by unfold sp__law_reduced at h; split at h <;> first | rfl | exact h.elim) w__law_reduced fun _ _ _ _ _ _ us hl => match us, hl with | [_, _], _ => rfl
theorem in__law_point (F : FunD K "_law_point" "_law_point" (defArgs (top 17)) (defBody (top 17)) (defScope (top 17)) [] [] f fd) (hm : mg "_law_point" = some (.ref f)) (gd : Gd K mg []) (h__law_measure : FnIn P w K mg base G 1 "_law_measure" (sp__law_measure) []) : FnIn P w K mg base G 2 "_law_point" (sp__law_point) [] := fn_in (T := T) (k := 1) F hm sc__law_point gd (fns_cons (n := 2) h__law_measure fns_nil (by decide)) c__law_point (fun as S h => by unfold sp__law_point at h; split at h <;> first | rfl | exact h.elim) w__law_point fun _ _ _ _ _ _ us hl => match us, hl with | [_, _, _], _ => rfl
theorem in__law_heading (F : FunD K "_law_heading" "_law_heading" (defArgs (top 18)) (defBody (top 18)) (defScope (top 18)) [] [] f fd) (hm : mg "_law_heading" = some (.ref f)) (gd : Gd K mg []) (h__law_reduced : FnIn P w K mg base G 2 "_law_reduced" (sp__law_reduced) []) : FnIn P w K mg base G 3 "_law_heading" (sp__law_heading) [] := fn_in (T := T) (k := 2) F hm sc__law_heading gd (fns_cons (n := 2) h__law_reduced fns_nil (by decide)) c__law_heading (fun as S h => by unfold sp__law_heading at h; split at h <;> first | rfl | exact h.elim) w__law_heading fun _ _ _ _ _ _ us hl => match us, hl with | [_, _], _ => rfl
theorem in__law_inside (F : FunD K "_law_inside" "_law_inside" (defArgs (top 19)) (defBody (top 19)) (defScope (top 19)) [] [] f fd) (hm : mg "_law_inside" = some (.ref f)) (gd : Gd K mg []) (h__law_point : FnIn P w K mg base G 2 "_law_point" (sp__law_point) []) : FnIn P w K mg base G 3 "_law_inside" (sp__law_inside) [] := fn_in (T := T) (k := 2) F hm sc__law_inside gd (fns_cons (n := 3) h__law_point fns_nil (by decide)) c__law_inside (fun as S h => by unfold sp__law_inside at h; split at h <;> first | rfl | exact h.elim) w__law_inside fun _ _ _ _ _ _ us hl => match us, hl with | [_, _, _], _ => rfl
theorem in__law_put (F : FunD K "_law_put" "_law_put" (defArgs (top 20)) (defBody (top 20)) (defScope (top 20)) [] [] f fd) (hm : mg "_law_put" = some (.ref f)) (gd : Gd K mg []) (h__law_point : FnIn P w K mg base G 2 "_law_point" (sp__law_point) []) : FnIn P w K mg base G 3 "_law_put" (sp__law_put) [] := fn_in (T := T) (k := 2) F hm sc__law_put gd (fns_cons (n := 3) h__law_point fns_nil (by decide)) c__law_put (fun as S h => by unfold sp__law_put at h; split at h <;> first | rfl | exact h.elim) w__law_put fun _ _ _ _ _ _ us hl => match us, hl with | [_, _, _, _, _], _ => rfl
theorem in__law_is_corner (F : FunD K "_law_is_corner" "_law_is_corner" (defArgs (top 21)) (defBody (top 21)) (defScope (top 21)) [] [] f fd) (hm : mg "_law_is_corner" = some (.ref f)) (gd : Gd K mg []) (h__law_is_int : FnIn P w K mg base G 1 "_law_is_int" (sp__law_is_int) []) (h__law_measure : FnIn P w K mg base G 1 "_law_measure" (sp__law_measure) []) : FnIn P w K mg base G 2 "_law_is_corner" (sp__law_is_corner) [] := fn_in (T := T) (k := 1) F hm sc__law_is_corner gd (fns_cons (n := 1) h__law_is_int (fns_cons (n := 2) h__law_measure fns_nil (by decide)) (by decide)) c__law_is_corner (fun as S h => by unfold sp__law_is_corner at h; split at h <;> first | rfl | exact h.elim) w__law_is_corner fun _ _ _ _ _ _ us hl => match us, hl with | [_, _, _, _, _], _ => rfl
theorem in__law_right (F : FunD K "_law_right" "_law_right" (defArgs (top 22)) (defBody (top 22)) (defScope (top 22)) [] [] f fd) (hm : mg "_law_right" = some (.ref f)) (gd : Gd K mg []) (h__law_measure : FnIn P w K mg base G 1 "_law_measure" (sp__law_measure) []) (h_box_corner : FnIn P w K mg base G 3 "box_corner" (sp_box_corner) []) (h__law_is_corner : FnIn P w K mg base G 2 "_law_is_corner" (sp__law_is_corner) []) : FnIn P w K mg base G 4 "_law_right" (sp__law_right) [] := fn_in (T := T) (k := 3) F hm sc__law_right gd (fns_cons (n := 2) h__law_measure (fns_cons (n := 4) h_box_corner (fns_cons (n := 5) h__law_is_corner fns_nil (by decide)) (by decide)) (by decide)) c__law_right (fun as S h => by unfold sp__law_right at h; split at h <;> first | rfl | exact h.elim) w__law_right fun _ _ _ _ _ _ us hl => match us, hl with | [_, _, _, _], _ => rfl
theorem in__law_any (F : FunD K "_law_any" "_law_any" (defArgs (top 23)) (defBody (top 23)) (defScope (top 23)) [] [] f fd) (hm : mg "_law_any" = some (.ref f)) (gd : Gd K mg []) (h__law_inside : FnIn P w K mg base G 3 "_law_inside" (sp__law_inside) []) (h__law_reduced : FnIn P w K mg base G 2 "_law_reduced" (sp__law_reduced) []) (h__law_heading : FnIn P w K mg base G 3 "_law_heading" (sp__law_heading) []) : FnIn P w K mg base G 4 "_law_any" (sp__law_any) [] := fn_in (T := T) (k := 3) F hm sc__law_any gd (fns_cons (n := 3) h__law_inside (fns_cons (n := 2) h__law_reduced (fns_cons (n := 2) h__law_heading fns_nil (by decide)) (by decide)) (by decide)) c__law_any (fun as S h => by unfold sp__law_any at h; split at h <;> first | rfl | exact h.elim) w__law_any fun _ _ _ _ _ _ us hl => match us, hl with | [_], _ => rfl
theorem in__law_drawn (F : FunD K "_law_drawn" "_law_drawn" (defArgs (top 24)) (defBody (top 24)) (defScope (top 24)) [] [] f fd) (hm : mg "_law_drawn" = some (.ref f)) (gd : Gd K mg []) (h__law_side : FnIn P w K mg base G 1 "_law_side" (sp__law_side) []) (h__law_inside : FnIn P w K mg base G 3 "_law_inside" (sp__law_inside) []) (h__law_reduced : FnIn P w K mg base G 2 "_law_reduced" (sp__law_reduced) []) (h__law_number : FnIn P w K mg base G 1 "_law_number" (sp__law_number) []) (h__law_heading : FnIn P w K mg base G 3 "_law_heading" (sp__law_heading) []) : FnIn P w K mg base G 4 "_law_drawn" (sp__law_drawn) [] := fn_in (T := T) (k := 3) F hm sc__law_drawn gd (fns_cons (n := 1) h__law_side (fns_cons (n := 3) h__law_inside (fns_cons (n := 2) h__law_reduced (fns_cons (n := 1) h__law_number (fns_cons (n := 2) h__law_heading fns_nil (by decide)) (by decide)) (by decide)) (by decide)) (by decide)) c__law_drawn (fun as S h => by unfold sp__law_drawn at h; split at h <;> first | rfl | exact h.elim) w__law_drawn fun _ _ _ _ _ _ us hl => match us, hl with | [_], _ => rfl
theorem ok_law (F : FunD K "law" "law" (defArgs (top 25)) (defBody (top 25)) (defScope (top 25)) [] [] f fd) (gd : Gd K mg []) (h__law_any : FnIn P w K mg base G 4 "_law_any" (sp__law_any) []) (h__law_drawn : FnIn P w K mg base G 4 "_law_drawn" (sp__law_drawn) []) (h__law_right : FnIn P w K mg base G 4 "_law_right" (sp__law_right) []) (h__law_put : FnIn P w K mg base G 3 "_law_put" (sp__law_put) []) : FnOk P w K mg base (L2.CX P w) 5 f fd ["script"] (spOf K G lawSpec) := fn_ok (T := T) (k := 4) F sc_law gd (fns_cons (n := 1) h__law_any (fns_cons (n := 1) h__law_drawn (fns_cons (n := 4) h__law_right (fns_cons (n := 5) h__law_put fns_nil (by decide)) (by decide)) (by decide)) (by decide)) c_law (fun as S ⟨ns, h, _⟩ => by rw [h]; rfl) w_law
end
def fn : List He.DefD := [⟨("divisor", none), "divisor", "divisor", defArgs (top 5), defBody (top 5), defScope (top 5), [], []⟩, ⟨("time_of", none), "time_of", "time_of", defArgs (top 6), defBody (top 6), defScope (top 6), [], []⟩, ⟨("look_inside", none), "look_inside", "look_inside", defArgs (top 8), defBody (top 8), defScope (top 8), [], []⟩, ⟨("undone", none), "undone", "undone", defArgs (top 9), defBody (top 9), defScope (top 9), [], []⟩, ⟨("box_corner", none), "box_corner", "box_corner", defArgs (top 10), defBody (top 10), defScope (top 10), [], []⟩, ⟨("_law_is_int", none), "_law_is_int", "_law_is_int", defArgs (top 12), defBody (top 12), defScope (top 12), [], []⟩, ⟨("_law_number", none), "_law_number", "_law_number", defArgs (top 13), defBody (top 13), defScope (top 13), [], []⟩, ⟨("_law_side", none), "_law_side", "_law_side", defArgs (top 14), defBody (top 14), defScope (top 14), [], []⟩, ⟨("_law_measure", none), "_law_measure", "_law_measure", defArgs (top 15), defBody (top 15), defScope (top 15), [], []⟩, ⟨("_law_reduced", none), "_law_reduced", "_law_reduced", defArgs (top 16), defBody (top 16), defScope (top 16), [], []⟩, ⟨("_law_point", none), "_law_point", "_law_point", defArgs (top 17), defBody (top 17), defScope (top 17), [], []⟩, ⟨("_law_heading", none), "_law_heading", "_law_heading", defArgs (top 18), defBody (top 18), defScope (top 18), [], []⟩, ⟨("_law_inside", none), "_law_inside", "_law_inside", defArgs (top 19), defBody (top 19), defScope (top 19), [], []⟩, ⟨("_law_put", none), "_law_put", "_law_put", defArgs (top 20), defBody (top 20), defScope (top 20), [], []⟩, ⟨("_law_is_corner", none), "_law_is_corner", "_law_is_corner", defArgs (top 21), defBody (top 21), defScope (top 21), [], []⟩, ⟨("_law_right", none), "_law_right", "_law_right", defArgs (top 22), defBody (top 22), defScope (top 22), [], []⟩, ⟨("_law_any", none), "_law_any", "_law_any", defArgs (top 23), defBody (top 23), defScope (top 23), [], []⟩, ⟨("_law_drawn", none), "_law_drawn", "_law_drawn", defArgs (top 24), defBody (top 24), defScope (top 24), [], []⟩, ⟨("law", none), "law", "law", defArgs (top 25), defBody (top 25), defScope (top 25), [], []⟩]
def fa : List He.Fa := [.glo "divisor", .glo "time_of", .glo "look_inside", .glo "undone", .glo "box_corner", .glo "_law_is_int", .glo "_law_number", .glo "_law_side", .glo "_law_measure", .glo "_law_reduced", .glo "_law_point", .glo "_law_heading", .glo "_law_inside", .glo "_law_put", .glo "_law_is_corner", .glo "_law_right", .glo "_law_any", .glo "_law_drawn", .glo "law"] ++ bltNames.map .free
abbrev R : PySem.W.OpenRow := PySem.W.OpenLaw.row PySem.Challenge.rw_bouncewise_k83_whole_corners
abbrev hk : PySem.W.Hook := He.hookD 4 fa fn
def ob (s : PySem.W.SharedT) : He.AlD := He.obsDG 4 fa fn (HandSHeadRun.getT s)
theorem ob_eq (s : PySem.W.SharedT) : ob s = hk.obs s.abs := He.obsDG_eq (HandSHeadRun.getT_eq s)
theorem run (w : World) : HandSHeadRun.RunEq R (PySem.W.view R.prog [25]) hk ob 2000 ["RoomError", "NoPoint", "OutOfBox", "divisor", "time_of", "look_inside", "undone", "box_corner", "_law_is_int", "_law_number", "_law_side", "_law_measure", "_law_reduced", "_law_point", "_law_heading", "_law_inside", "_law_put", "_law_is_corner", "_law_right", "_law_any", "_law_drawn"] w := by
  intro os
  kernel_rfl
theorem law_fn {P : Program} {w : World} {K : PySem.W.Frag} {h : Heap} {mg : Str → Option Value} {f : Addr} (X : K.In h) (Gx : h.Ns mainGlobals mg) (hfa : mg ("law" : Str) = some (.ref f)) (c : He.SaysD fa fn K) :
    ∃ (fd : FuncData) (G : Gn), (∀ (s : Shared) (v : Value), BindsTo s fd ⟨[v], []⟩ [("script", v)]) ∧ ∀ base : Heap, K.In base → base.Ns mainGlobals mg → FnOk P w K mg base (L2.CX P w) 5 f fd ["script"] (spOf K G lawSpec) := by
  obtain ⟨fd_0, F_0⟩ := c.def_ 0 rfl
  obtain ⟨fd_1, F_1⟩ := c.def_ 1 rfl
  obtain ⟨fd_2, F_2⟩ := c.def_ 2 rfl
  obtain ⟨fd_3, F_3⟩ := c.def_ 3 rfl
  obtain ⟨fd_4, F_4⟩ := c.def_ 4 rfl
  obtain ⟨fd_5, F_5⟩ := c.def_ 5 rfl
  obtain ⟨fd_6, F_6⟩ := c.def_ 6 rfl
  obtain ⟨fd_7, F_7⟩ := c.def_ 7 rfl
  obtain ⟨fd_8, F_8⟩ := c.def_ 8 rfl
  obtain ⟨fd_9, F_9⟩ := c.def_ 9 rfl
  obtain ⟨fd_10, F_10⟩ := c.def_ 10 rfl
  obtain ⟨fd_11, F_11⟩ := c.def_ 11 rfl
  obtain ⟨fd_12, F_12⟩ := c.def_ 12 rfl
  obtain ⟨fd_13, F_13⟩ := c.def_ 13 rfl
  obtain ⟨fd_14, F_14⟩ := c.def_ 14 rfl
  obtain ⟨fd_15, F_15⟩ := c.def_ 15 rfl
  obtain ⟨fd_16, F_16⟩ := c.def_ 16 rfl
  obtain ⟨fd_17, F_17⟩ := c.def_ 17 rfl
  obtain ⟨fd_18, F_18⟩ := c.def_ 18 rfl
  have e := hfa.symm.trans (He.glo_ok X Gx (c.fact 18 (f := .glo "law") rfl))
  cases e
  have b := FunD.bindsA (ps := ["script"]) F_18 fun _ _ _ _ _ _ us hl => match us, hl with | [_], _ => rfl
  refine ⟨fd_18, ⟨fun _ => 0, fun _ => ""⟩, fun s v => b s [v] rfl, fun base _ _ => ?_⟩
  have bl : ∀ x ∈ bltNames, mg x = none := free_of X Gx c fun x hx => List.mem_append_right _ (List.mem_map.mpr ⟨x, hx, rfl⟩)
  have g_divisor : mg "divisor" = some (.ref (He.ga K "divisor")) := He.glo_ok X Gx (c.fact 0 (f := .glo "divisor") rfl)
  have g_time_of : mg "time_of" = some (.ref (He.ga K "time_of")) := He.glo_ok X Gx (c.fact 1 (f := .glo "time_of") rfl)
  have g_look_inside : mg "look_inside" = some (.ref (He.ga K "look_inside")) := He.glo_ok X Gx (c.fact 2 (f := .glo "look_inside") rfl)
  have g_undone : mg "undone" = some (.ref (He.ga K "undone")) := He.glo_ok X Gx (c.fact 3 (f := .glo "undone") rfl)
  have g_box_corner : mg "box_corner" = some (.ref (He.ga K "box_corner")) := He.glo_ok X Gx (c.fact 4 (f := .glo "box_corner") rfl)
  have g__law_is_int : mg "_law_is_int" = some (.ref (He.ga K "_law_is_int")) := He.glo_ok X Gx (c.fact 5 (f := .glo "_law_is_int") rfl)
  have g__law_number : mg "_law_number" = some (.ref (He.ga K "_law_number")) := He.glo_ok X Gx (c.fact 6 (f := .glo "_law_number") rfl)
  have g__law_side : mg "_law_side" = some (.ref (He.ga K "_law_side")) := He.glo_ok X Gx (c.fact 7 (f := .glo "_law_side") rfl)
  have g__law_measure : mg "_law_measure" = some (.ref (He.ga K "_law_measure")) := He.glo_ok X Gx (c.fact 8 (f := .glo "_law_measure") rfl)
  have g__law_reduced : mg "_law_reduced" = some (.ref (He.ga K "_law_reduced")) := He.glo_ok X Gx (c.fact 9 (f := .glo "_law_reduced") rfl)
  have g__law_point : mg "_law_point" = some (.ref (He.ga K "_law_point")) := He.glo_ok X Gx (c.fact 10 (f := .glo "_law_point") rfl)
  have g__law_heading : mg "_law_heading" = some (.ref (He.ga K "_law_heading")) := He.glo_ok X Gx (c.fact 11 (f := .glo "_law_heading") rfl)
  have g__law_inside : mg "_law_inside" = some (.ref (He.ga K "_law_inside")) := He.glo_ok X Gx (c.fact 12 (f := .glo "_law_inside") rfl)
  have g__law_put : mg "_law_put" = some (.ref (He.ga K "_law_put")) := He.glo_ok X Gx (c.fact 13 (f := .glo "_law_put") rfl)
  have g__law_is_corner : mg "_law_is_corner" = some (.ref (He.ga K "_law_is_corner")) := He.glo_ok X Gx (c.fact 14 (f := .glo "_law_is_corner") rfl)
  have g__law_right : mg "_law_right" = some (.ref (He.ga K "_law_right")) := He.glo_ok X Gx (c.fact 15 (f := .glo "_law_right") rfl)
  have g__law_any : mg "_law_any" = some (.ref (He.ga K "_law_any")) := He.glo_ok X Gx (c.fact 16 (f := .glo "_law_any") rfl)
  have g__law_drawn : mg "_law_drawn" = some (.ref (He.ga K "_law_drawn")) := He.glo_ok X Gx (c.fact 17 (f := .glo "_law_drawn") rfl)
  have h_divisor := in_divisor (P := P) (w := w) (base := base) (G := ⟨fun _ => 0, fun _ => ""⟩) F_0 g_divisor ⟨bl, cst_nil⟩ 
  have h_time_of := in_time_of (P := P) (w := w) (base := base) (G := ⟨fun _ => 0, fun _ => ""⟩) F_1 g_time_of ⟨bl, cst_nil⟩ h_divisor
  have h_look_inside := in_look_inside (P := P) (w := w) (base := base) (G := ⟨fun _ => 0, fun _ => ""⟩) F_2 g_look_inside ⟨bl, cst_nil⟩ 
  have h_undone := in_undone (P := P) (w := w) (base := base) (G := ⟨fun _ => 0, fun _ => ""⟩) F_3 g_undone ⟨bl, cst_nil⟩ 
  have h_box_corner := in_box_corner (P := P) (w := w) (base := base) (G := ⟨fun _ => 0, fun _ => ""⟩) F_4 g_box_corner ⟨bl, cst_nil⟩ h_look_inside h_divisor h_time_of h_undone
  have h__law_is_int := in__law_is_int (P := P) (w := w) (base := base) (G := ⟨fun _ => 0, fun _ => ""⟩) F_5 g__law_is_int ⟨bl, cst_nil⟩ 
  have h__law_number := in__law_number (P := P) (w := w) (base := base) (G := ⟨fun _ => 0, fun _ => ""⟩) F_6 g__law_number ⟨bl, cst_nil⟩ 
  have h__law_side := in__law_side (P := P) (w := w) (base := base) (G := ⟨fun _ => 0, fun _ => ""⟩) F_7 g__law_side ⟨bl, cst_nil⟩ 
  have h__law_measure := in__law_measure (P := P) (w := w) (base := base) (G := ⟨fun _ => 0, fun _ => ""⟩) F_8 g__law_measure ⟨bl, cst_nil⟩ 
  have h__law_reduced := in__law_reduced (P := P) (w := w) (base := base) (G := ⟨fun _ => 0, fun _ => ""⟩) F_9 g__law_reduced ⟨bl, cst_nil⟩ h__law_measure
  have h__law_point := in__law_point (P := P) (w := w) (base := base) (G := ⟨fun _ => 0, fun _ => ""⟩) F_10 g__law_point ⟨bl, cst_nil⟩ h__law_measure
  have h__law_heading := in__law_heading (P := P) (w := w) (base := base) (G := ⟨fun _ => 0, fun _ => ""⟩) F_11 g__law_heading ⟨bl, cst_nil⟩ h__law_reduced
  have h__law_inside := in__law_inside (P := P) (w := w) (base := base) (G := ⟨fun _ => 0, fun _ => ""⟩) F_12 g__law_inside ⟨bl, cst_nil⟩ h__law_point
  have h__law_put := in__law_put (P := P) (w := w) (base := base) (G := ⟨fun _ => 0, fun _ => ""⟩) F_13 g__law_put ⟨bl, cst_nil⟩ h__law_point
  have h__law_is_corner := in__law_is_corner (P := P) (w := w) (base := base) (G := ⟨fun _ => 0, fun _ => ""⟩) F_14 g__law_is_corner ⟨bl, cst_nil⟩ h__law_is_int h__law_measure
  have h__law_right := in__law_right (P := P) (w := w) (base := base) (G := ⟨fun _ => 0, fun _ => ""⟩) F_15 g__law_right ⟨bl, cst_nil⟩ h__law_measure h_box_corner h__law_is_corner
  have h__law_any := in__law_any (P := P) (w := w) (base := base) (G := ⟨fun _ => 0, fun _ => ""⟩) F_16 g__law_any ⟨bl, cst_nil⟩ h__law_inside h__law_reduced h__law_heading
  have h__law_drawn := in__law_drawn (P := P) (w := w) (base := base) (G := ⟨fun _ => 0, fun _ => ""⟩) F_17 g__law_drawn ⟨bl, cst_nil⟩ h__law_side h__law_inside h__law_reduced h__law_number h__law_heading
  exact ok_law F_18 ⟨bl, cst_nil⟩ h__law_any h__law_drawn h__law_right h__law_put
end BW.Lw
open PySem PySem.W PySem.Calls PyProof.Rows
theorem PySem.Challenge.cw_bouncewise_k83_whole_corners_holds : PySem.Challenge.rw_bouncewise_k83_whole_corners.Holds := by
  w_on; o_law
  refine HandSHeadRun.head_any (r := OpenLaw.row PySem.Challenge.rw_bouncewise_k83_whole_corners) (q := view (OpenLaw.row PySem.Challenge.rw_bouncewise_k83_whole_corners).prog [25]) (H := BW.Lw.hk) (ob := BW.Lw.ob) (M := 2000) (loose := ["RoomError", "NoPoint", "OutOfBox", "divisor", "time_of", "look_inside", "undone", "box_corner", "_law_is_int", "_law_number", "_law_side", "_law_measure", "_law_reduced", "_law_point", "_law_heading", "_law_inside", "_law_put", "_law_is_corner", "_law_right", "_law_any", "_law_drawn"]) (d := HandSHeadRun.topDef (OpenLaw.row PySem.Challenge.rw_bouncewise_k83_whole_corners).prog 25) (kwd := []) BW.Lw.ob_eq
    (by kernel_rfl) (fun s => by kernel_rfl) BW.Lw.run (by kernel_rfl) (by kernel_rfl) (by kernel_rfl) (by rfl) (by first | assumption | decide +kernel) (by decide +kernel) ⟨rfl, rfl, rfl, rfl, rfl, by decide +kernel⟩ ?hw ?hc
  case hw => w_witness2
  case hc =>
    refine BW.law_end (l := PySem.Challenge.rw_bouncewise_k83_whole_corners) (k := 5) (x := "script") rfl (by kernel_rfl) ⟨rfl, by decide, by decide⟩ ?F
    intro w mg fa h Y G hmg0
    obtain ⟨K, KX, c⟩ := Y
    have hmg : mg ("law" : PySem.Str) = some (.ref fa) := by
      have e : (HandSHeadRun.topDef (OpenLaw.row PySem.Challenge.rw_bouncewise_k83_whole_corners).prog 25).name = ("law" : PySem.Str) := by kernel_rfl
      rw [← e]
      exact hmg0
    obtain ⟨fd, G', hb, hF⟩ := BW.Lw.law_fn (P := (PySem.Challenge.rw_bouncewise_k83_whole_corners).prog) (w := w) KX G hmg c
    exact ⟨K, fd, G', KX, hb, hF⟩
