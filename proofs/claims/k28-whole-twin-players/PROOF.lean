import PyProof.Rows.All
import Wide.All
import OpenK.AllK
import Wide.FinOn
import HandS.ForMost
import HandS.ForExc
import HandS.IsInst
import HandS.TupAny
import HandS.TupMul
import HandS.SortInts
import HandS.Deep
import HandS.TupSets
import HandS.Zip
import HandS.Flow
import HandS.Wide
import HandS.Strs
import HandS.Conv
import HandS.SetFor
import HandS.Walk
import HandS.Style
import KE.KEqDict
import KE.DataMinMax
import HandS.HotCalls
import HandS.Comp
import HandS.More
import HandS.Base
import KE.KDictWalk
import KE.KDictSum
import PyProof.TupleIter
import PyProof.DictIter
import PyProof.DictWalks
import HandS.ExcIs
import KE.GoesEnum
import HandS.FStrTup
import PyProof.ReprRoads
import HandS.Small
import HandS.TryOnly
import PySem.Challenge.RW_soundroad_k28_whole_twin_players
set_option Elab.async false
set_option linter.all false
set_option maxRecDepth 100000
namespace Z
open PySem PySem.Spec PyProof.Rows L2
abbrev sz : Nat := 16777216
inductive D where
  | non | bl (b : Bool) | int (i : Int) | str (n : Nat) | tup (ds : List D) | lst (ds : List D) | scr (ds : List D) | ref (n : Nat) | rep (d : D)
inductive Ky where
  | i (n : Int) | s (n : Nat)
  deriving DecidableEq
inductive O where
  | lst (ds : List D) | dct (kvs : List (Ky × D)) | ins (c : Nat) (fs : List (Option D))
abbrev Env := List (Option D)
abbrev Mem := List O
abbrev VQ := D → Mem → Prop
abbrev XQ := Nat → Mem → Prop
def c2 (b : Bool) (P Q : Prop) : Prop := (b = true → P) ∧ (b = false → Q)
theorem c2T {P Q : Prop} (h : P) : c2 true P Q := ⟨fun _ => h, fun z => Bool.noConfusion z⟩
theorem c2F {P Q : Prop} (h : Q) : c2 false P Q := ⟨fun z => Bool.noConfusion z, fun _ => h⟩
theorem c2D {p P Q : Prop} [Decidable p] (h : p → P) (g : ¬ p → Q) : c2 (decide p) P Q := ⟨fun z => h (of_decide_eq_true z), fun z => g (of_decide_eq_false z)⟩
theorem c2N {p P Q : Prop} [Decidable p] (h : ¬ p → P) (g : p → Q) : c2 (!decide p) P Q := ⟨fun z => h (by simpa using z), fun z => g (by simpa using z)⟩
theorem c2B {b : Bool} {P Q : Prop} (h : b = true → P) (g : b = false → Q) : c2 b P Q := ⟨h, g⟩
mutual
def D.eqv : D → D → Bool
  | .non, .non => true
  | .bl a, .bl b => a == b
  | .bl a, .int b => (if a then 1 else 0) == b
  | .int a, .bl b => a == (if b then 1 else 0)
  | .int a, .int b => a == b
  | .str a, .str b => a == b
  | .tup a, .tup b => D.eqvL a b
  | .lst a, .lst b => D.eqvL a b
  | _, _ => false
def D.eqvL : List D → List D → Bool
  | [], [] => true
  | a :: r, b :: s => D.eqv a b && D.eqvL r s
  | _, _ => false
end
mutual
def D.same : D → D → Bool
  | .non, .non => true
  | .bl a, .bl b => a == b
  | .int a, .int b => a == b
  | .str a, .str b => a == b
  | .tup a, .tup b => D.sameL a b
  | .lst a, .lst b => D.sameL a b
  | _, _ => false
def D.sameL : List D → List D → Bool
  | [], [] => true
  | a :: r, b :: s => D.same a b && D.sameL r s
  | _, _ => false
end
mutual
theorem D.same_eq : ∀ a b : D, D.same a b = true → a = b
  | .non, b, h => by cases b <;> first | rfl | (simp [D.same] at h)
  | .bl x, b, h => by cases b <;> first | (simp [D.same] at h; rw [h]) | (simp [D.same] at h)
  | .int x, b, h => by cases b <;> first | (simp [D.same] at h; rw [h]) | (simp [D.same] at h)
  | .str x, b, h => by cases b <;> first | (simp [D.same] at h; rw [h]) | (simp [D.same] at h)
  | .tup x, b, h => by
    cases b with
    | tup y => rw [D.sameL_eq x y (by simpa [D.same] using h)]
    | _ => simp [D.same] at h
  | .lst x, b, h => by
    cases b with
    | lst y => rw [D.sameL_eq x y (by simpa [D.same] using h)]
    | _ => simp [D.same] at h
  | .scr x, b, h => by cases b <;> simp [D.same] at h
  | .ref x, b, h => by cases b <;> simp [D.same] at h
  | .rep x, b, h => by cases b <;> simp [D.same] at h
theorem D.sameL_eq : ∀ a b : List D, D.sameL a b = true → a = b
  | [], [], _ => rfl
  | [], _ :: _, h => by simp [D.sameL] at h
  | _ :: _, [], h => by simp [D.sameL] at h
  | x :: r, y :: s, h => by
    have h : D.same x y = true ∧ D.sameL r s = true := by simpa [D.sameL] using h
    rw [D.same_eq x y h.1, D.sameL_eq r s h.2]
end
def D.flat : Nat → D → Bool
  | _, .non => true
  | _, .bl _ => true
  | _, .int _ => true
  | _, .str _ => true
  | n + 1, .tup ds => ds.all (D.flat n)
  | n + 1, .lst ds => ds.all (D.flat n)
  | _, _ => false
def D.rok : Nat → D → Bool
  | _, .int i => decide (i.natAbs.log2 < 1920)
  | n + 1, .tup ds => ds.all (D.rok n)
  | _, _ => false
mutual
def D.rlen : D → Nat
  | .tup ds => D.rlenL ds + 2
  | _ => 1930
def D.rlenL : List D → Nat
  | [] => 0
  | d :: r => D.rlen d + 2 + D.rlenL r
end
def rd (M : Mem) : D → D
  | .ref n => match M[n]? with | some (.lst ds) => .lst ds | _ => .ref n
  | d => d
mutual
def D.bel (k : Nat) : D → Bool
  | .ref n => decide (n < k)
  | .tup ds => D.belL k ds
  | .lst ds => D.belL k ds
  | .scr ds => D.belL k ds
  | .non => true
  | .bl _ => true
  | .int _ => true
  | .str _ => true
  | .rep _ => true
def D.belL (k : Nat) : List D → Bool
  | [] => true
  | d :: r => D.bel k d && D.belL k r
end
def obel (k : Nat) : Option D → Bool
  | some d => d.bel k
  | none => true
def O.bel (k : Nat) : O → Bool
  | .lst ds => D.belL k ds
  | .dct kvs => D.belL k (kvs.map (·.2))
  | .ins _ fs => fs.all (obel k)
def MulOk (i j : Int) : Prop := (-(2 ^ 64) < i ∧ i < 2 ^ 64) ∨ (-(2 ^ 64) < j ∧ j < 2 ^ 64) ∨ i.natAbs.log2 + j.natAbs.log2 < 1000000
def DivOk (j : Int) : Prop := 0 < j ∧ j.natAbs.log2 < 9000
inductive Op2 where | add | sub | mul | fdiv | mod deriving DecidableEq
inductive Cm where | lt | le | gt | ge | eq | ne | isN | notN | in_ | notIn | dne | nrp deriving DecidableEq
inductive B1 where | len | sum | all | any | abs | tuple | sorted | sortedK | min | minK | max | int deriving DecidableEq
inductive B2 where | min2 | max2 deriving DecidableEq
inductive BM where | append | lpop | lpop0 | dpop | get | remove | extend | lcount | tcount | lindex | tindex deriving DecidableEq
inductive Ty where | int | bool | str | tuple deriving DecidableEq
def ifInt (x : D) (P : Int → Prop) : Prop := match x with | .int i => P i | _ => False
def ifTup (x : D) (P : List D → Prop) : Prop := match x with | .tup a => P a | _ => False
def ifL (M : Mem) (n : Nat) (P : List D → Prop) : Prop := match M[n]? with | some (.lst a) => P a | _ => False
def ifK (M : Mem) (n : Nat) (P : List (Ky × D) → Prop) : Prop := match M[n]? with | some (.dct a) => P a | _ => False
def ifI (M : Mem) (n : Nat) (P : Nat → List (Option D) → Prop) : Prop := match M[n]? with | some (.ins c a) => P c a | _ => False
def ifRef (x : D) (P : Nat → Prop) : Prop := match x with | .ref n => P n | _ => False
theorem ifInt_ex {x : D} {P : Int → Prop} (h : ifInt x P) : ∃ i, x = .int i ∧ P i := by
  cases x with
  | int i => exact ⟨i, rfl, h⟩
  | _ => exact (show False from h).elim
theorem ifTup_ex {x : D} {P : List D → Prop} (h : ifTup x P) : ∃ i, x = .tup i ∧ P i := by
  cases x with
  | tup i => exact ⟨i, rfl, h⟩
  | _ => exact (show False from h).elim
theorem ifRef_ex {x : D} {P : Nat → Prop} (h : ifRef x P) : ∃ i, x = .ref i ∧ P i := by
  cases x with
  | ref i => exact ⟨i, rfl, h⟩
  | _ => exact (show False from h).elim
theorem ifL_ex {M : Mem} {n : Nat} {P : List D → Prop} (h : ifL M n P) : ∃ a, M[n]? = some (.lst a) ∧ P a := by
  unfold ifL at h
  split at h
  · rename_i a e; exact ⟨a, e, h⟩
  · exact h.elim
theorem ifK_ex {M : Mem} {n : Nat} {P : List (Ky × D) → Prop} (h : ifK M n P) : ∃ a, M[n]? = some (.dct a) ∧ P a := by
  unfold ifK at h
  split at h
  · rename_i a e; exact ⟨a, e, h⟩
  · exact h.elim
theorem ifI_ex {M : Mem} {n : Nat} {P : Nat → List (Option D) → Prop} (h : ifI M n P) : ∃ c a, M[n]? = some (.ins c a) ∧ P c a := by
  unfold ifI at h
  split at h
  · rename_i c a e; exact ⟨c, a, e, h⟩
  · exact h.elim
theorem ifL_of {M : Mem} {n : Nat} {P : List D → Prop} {a : List D} (e : M[n]? = some (.lst a)) (h : P a) : ifL M n P := by unfold ifL; rw [e]; exact h
theorem ifK_of {M : Mem} {n : Nat} {P : List (Ky × D) → Prop} {a : List (Ky × D)} (e : M[n]? = some (.dct a)) (h : P a) : ifK M n P := by unfold ifK; rw [e]; exact h
theorem ifI_of {M : Mem} {n c : Nat} {P : Nat → List (Option D) → Prop} {a : List (Option D)} (e : M[n]? = some (.ins c a)) (h : P c a) : ifI M n P := by unfold ifI; rw [e]; exact h
def ifLs (M : Mem) (x : D) (P : List D → Prop) : Prop := match x with | .lst a => P a | .ref n => ifL M n P | _ => False
def ifLst (M : Mem) (x : D) (P : List D → Prop) : Prop := match x with | .lst a => P a | .scr a => P a | .ref n => ifL M n P | _ => False
def catD (tab : List (Nat × Nat × Nat)) (x y : D) (Q : Nat → Prop) : Prop := match x with
  | .str i => match y with
    | .str j => ∃ k, (i, j, k) ∈ tab ∧ Q k
    | _ => False
  | _ => False
def ifSeq (M : Mem) (x : D) (P : List D → Prop) : Prop := match x with | .tup a => P a | _ => ifLst M x P
def dist (acc : List Int) : List Int → List Int
  | [] => acc
  | x :: r => dist (if acc.contains x then acc else acc ++ [x]) r
def addD (M : Mem) (x y : D) (Q : VQ) : Prop :=
  match x with
  | .int i => match y with
    | .int j => Q (.int (i + j)) M
    | .bl b => Q (.int (i + if b then 1 else 0)) M
    | _ => False
  | .tup a => ifTup y fun b => a.length + b.length ≤ sz ∧ Q (.tup (a ++ b)) M
  | _ => ifLs M x fun a => ifLs M y fun b => a.length + b.length ≤ sz ∧ Q (.lst (a ++ b)) M
def mulD (M : Mem) (x y : D) (Q : VQ) : Prop :=
  match x with
  | .int i => ifInt y fun j => MulOk i j ∧ Q (.int (i * j)) M
  | .tup a => ifInt y fun k => a ≠ [] ∧ 0 ≤ k ∧ k ≤ 1000 ∧ a.length ≤ 1000 ∧ Q (.tup (List.replicate k.toNat a).flatten) M
  | _ => False
def opD (o : Op2) (M : Mem) (x y : D) (Q : VQ) : Prop :=
  match o with
  | .add => addD M x y Q
  | .sub => ifInt x fun i => ifInt y fun j => Q (.int (i - j)) M
  | .mul => mulD M x y Q
  | .fdiv => ifInt x fun i => ifInt y fun j => DivOk j ∧ Q (.int (i / j)) M
  | .mod => ifInt x fun i => ifInt y fun j => 0 < j ∧ Q (.int (i % j)) M
def kget (kvs : List (Ky × D)) (k : Ky) : Option D := (kvs.find? fun kv => decide (kv.1 = k)).map (·.2)
def kput (kvs : List (Ky × D)) (k : Ky) (v : D) : List (Ky × D) :=
  if (kvs.any fun kv => decide (kv.1 = k)) = true then kvs.map (fun kv => if kv.1 = k then (kv.1, v) else kv) else kvs ++ [(k, v)]
def kdrop (kvs : List (Ky × D)) (k : Ky) : List (Ky × D) := kvs.filter fun kv => decide (kv.1 ≠ k)
def toKy : D → Option Ky
  | .int i => some (.i i)
  | .str n => some (.s n)
  | _ => none
def ifKy (x : D) (P : Ky → Prop) : Prop := match x with | .int i => P (.i i) | .str n => P (.s n) | _ => False
theorem ifKy_ex {x : D} {P : Ky → Prop} (h : ifKy x P) : ∃ k, toKy x = some k ∧ P k := by
  cases x with
  | int i => exact ⟨_, rfl, h⟩
  | str i => exact ⟨_, rfl, h⟩
  | _ => exact (show False from h).elim
def eqD (M : Mem) (x y : D) (Q : Bool → Prop) : Prop := (rd M x).flat 20 = true ∧ (rd M y).flat 20 = true ∧ Q ((rd M x).eqv (rd M y))
def D.atom : D → Bool
  | .non => true
  | .bl _ => true
  | .int _ => true
  | .str _ => true
  | _ => false
def inL (x : D) (ds : List D) (Q : Bool → Prop) : Prop := x.flat 20 = true ∧ ds.all (D.flat 20) = true ∧ Q (ds.any fun z => z.eqv x)
def inD (M : Mem) (x y : D) (Q : Bool → Prop) : Prop :=
  match y with
  | .tup ds => x.atom = true ∧ ds.all D.atom = true ∧ Q (ds.any fun z => z.eqv x)
  | .lst ds => inL x ds Q
  | .ref n => match M[n]? with
    | some (.lst ds) => inL x ds Q
    | some (.dct kvs) => ifKy x fun k => Q (kget kvs k).isSome
    | _ => False
  | _ => False
def cmI (p : Int → Int → Bool) (x y : D) (Q : Bool → Prop) : Prop := ifInt x fun i => ifInt y fun j => Q (p i j)
def isNon : D → Bool
  | .non => true
  | _ => false
def cmD (c : Cm) (M : Mem) (x y : D) (Q : Bool → Prop) : Prop :=
  match c with
  | .lt => cmI (fun i j => decide (i < j)) x y Q
  | .le => cmI (fun i j => decide (i ≤ j)) x y Q
  | .gt => cmI (fun i j => decide (j < i)) x y Q
  | .ge => cmI (fun i j => decide (j ≤ i)) x y Q
  | .eq => eqD M x y Q
  | .ne => eqD M x y fun b => Q (!b)
  | .isN => match y with | .non => Q (isNon x) | _ => False
  | .notN => match y with | .non => Q (!isNon x) | _ => False
  | .in_ => inD M x y Q
  | .notIn => inD M x y fun b => Q (!b)
  | .dne => ifRef x fun n => ifK M n fun ks => ifRef y fun m => ifK M m fun ls => ls = [] ∧ Q (!ks.isEmpty)
  | .nrp => match x with | .rep a => (match y with | .rep b => a = b ∧ Q false | _ => False) | _ => False
def trD (M : Mem) (x : D) (Q : Bool → Prop) : Prop :=
  match x with
  | .non => Q false
  | .bl b => Q b
  | .int i => Q (!decide (i = 0))
  | .tup ds => Q (!ds.isEmpty)
  | .lst ds => Q (!ds.isEmpty)
  | .scr ds => Q (!ds.isEmpty)
  | .ref n => match M[n]? with
    | some (.lst ds) => Q (!ds.isEmpty)
    | some (.dct kvs) => Q (!kvs.isEmpty)
    | _ => False
  | .str _ => False
  | .rep _ => False
def at? (ds : List D) (i : Int) : Option D := if 0 ≤ i then ds[i.toNat]? else if -(ds.length : Int) ≤ i then ds[(i + ds.length).toNat]? else none
def ixL (M : Mem) (ds : List D) (y : D) (Q : VQ) : Prop := ifInt y fun i => ∃ d, at? ds i = some d ∧ Q d M
def ixD (M : Mem) (x y : D) (Q : VQ) : Prop :=
  match x with
  | .tup ds => ixL M ds y Q
  | .lst ds => ixL M ds y Q
  | .scr ds => ixL M ds y Q
  | .ref n => match M[n]? with
    | some (.lst ds) => ixL M ds y Q
    | some (.dct kvs) => ifKy y fun k => ∃ d, kget kvs k = some d ∧ Q d M
    | _ => False
  | _ => False
def cut {α : Type} (xs : List α) (lo hi : Option Int) : List α := (xs.drop (HT.sIx xs.length 0 lo)).take (HT.sIx xs.length xs.length hi - HT.sIx xs.length 0 lo)
def partD : D → Option (Option Int)
  | .non => some none
  | .int i => some (some i)
  | _ => none
def slD (M : Mem) (x : D) (lo hi : Option Int) (Q : VQ) : Prop :=
  match x with
  | .tup ds => Q (.tup (cut ds lo hi)) M
  | _ => ifLst M x fun ds => Q (.lst (cut ds lo hi)) M
def fresh (m : Bool) (ds : List D) (M : Mem) (Q : VQ) : Prop :=
  match m with
  | true => Q (.ref M.length) (M ++ [.lst ds])
  | false => Q (.lst ds) M
def ins1 (x : Int) : List Int → List Int
  | [] => [x]
  | y :: r => if x ≤ y then x :: y :: r else y :: ins1 x r
def isort : List Int → List Int
  | [] => []
  | x :: r => ins1 x (isort r)
def minL : Int → List Int → Int
  | m, [] => m
  | m, x :: r => minL (if x < m then x else m) r
def maxL : Int → List Int → Int
  | m, [] => m
  | m, x :: r => maxL (if m < x then x else m) r
def b1D (b : B1) (m : Bool) (M : Mem) (x : D) (Q : VQ) : Prop :=
  match b with
  | .len => match x with
    | .tup ds => Q (.int ds.length) M
    | .lst ds => Q (.int ds.length) M
    | .scr ds => Q (.int ds.length) M
    | .ref n => match M[n]? with
      | some (.lst ds) => Q (.int ds.length) M
      | some (.dct kvs) => Q (.int kvs.length) M
      | _ => False
    | _ => False
  | .sum => ifLst M x fun ds => ∃ ns : List Int, ds = ns.map D.int ∧ Q (.int ns.sum) M
  | .all => ifLst M x fun ds => ∃ bs : List Bool, ds = bs.map D.bl ∧ Q (.bl (bs.all id)) M
  | .any => ifLst M x fun ds => ∃ bs : List Bool, ds = bs.map D.bl ∧ Q (.bl (bs.any id)) M
  | .abs => ifInt x fun i => Q (.int (if i < 0 then -i else i)) M
  | .tuple => match x with
    | .tup ds => Q (.tup ds) M
    | _ => ifLst M x fun ds => Q (.tup ds) M
  | .sorted => ifSeq M x fun ds => ∃ ns : List Int, ds = ns.map D.int ∧ fresh m ((isort ns).map D.int) M Q
  | .sortedK => ifRef x fun n => ifK M n fun kvs => ∃ ns : List Int, kvs.map (·.1) = ns.map Ky.i ∧ ns.length < 64 ∧ fresh m ((isort ns).map D.int) M Q
  | .min => ifSeq M x fun ds => ∃ (n : Int) (ns : List Int), ds = (n :: ns).map D.int ∧ Q (.int (minL n ns)) M
  | .minK => ifRef x fun n => ifK M n fun kvs => ∃ (n : Int) (ns : List Int), kvs.map (·.1) = (n :: ns).map Ky.i ∧ Q (.int (minL n ns)) M
  | .max => ifSeq M x fun ds => ∃ (n : Int) (ns : List Int), ds = (n :: ns).map D.int ∧ Q (.int (maxL n ns)) M
  | .int => match x with
    | .int i => Q (.int i) M
    | .bl b => Q (.int (if b then 1 else 0)) M
    | _ => False
def b2D (b : B2) (M : Mem) (x y : D) (Q : VQ) : Prop :=
  ifInt x fun i => ifInt y fun j => match b with
    | .min2 => Q (.int (if j < i then j else i)) M
    | .max2 => Q (.int (if i < j then j else i)) M
def isiD (x : D) (t : Ty) : Bool :=
  match t with
  | .int => match x with | .int _ => true | .bl _ => true | _ => false
  | .bool => match x with | .bl _ => true | _ => false
  | .str => match x with | .str _ => true | _ => false
  | .tuple => match x with | .tup _ => true | _ => false
def lofD (m : Bool) (M : Mem) (x : D) (Q : VQ) : Prop :=
  match x with
  | .tup ds => fresh m ds M Q
  | _ => ifLst M x fun ds => fresh m ds M Q
def attrD (M : Mem) (x : D) (f : Nat) (Q : VQ) : Prop := ifRef x fun n => ifI M n fun _ fs => match fs[f]? with
  | some (some d) => Q d M
  | _ => False
def isiOk : D → Bool
  | .ref _ => false
  | .scr _ => false
  | .rep _ => false
  | _ => true
def ix? (n : Nat) (i : Int) : Option Nat := if 0 ≤ i then (if i < n then some i.toNat else none) else if -(n : Int) ≤ i then some (i + n).toNat else none
def D.isNon : D → Bool
  | .non => true
  | _ => false
def bmD (b : BM) (M : Mem) (x : D) (ys : List D) (Q : VQ) : Prop :=
  match b with
  | .append => ifRef x fun n => ifL M n fun ds => match ys with
    | [y] => ds.length < sz ∧ Q .non (M.set n (.lst (ds ++ [y])))
    | _ => False
  | .lpop => ifRef x fun n => ifL M n fun ds => match ys with
    | [y] => ifInt y fun i => ∃ k y, ix? ds.length i = some k ∧ ds[k]? = some y ∧ Q y (M.set n (.lst (ds.eraseIdx k)))
    | _ => False
  | .lpop0 => ifRef x fun n => ifL M n fun ds => match ys with
    | [] => ∃ y, ds[ds.length - 1]? = some y ∧ Q y (M.set n (.lst ds.dropLast))
    | _ => False
  | .dpop => ifRef x fun n => ifK M n fun kvs => match ys with
    | [y] => ifKy y fun k => ∃ d, kget kvs k = some d ∧ Q d (M.set n (.dct (kdrop kvs k)))
    | _ => False
  | .get => ifRef x fun n => ifK M n fun kvs => match ys with
    | [y, z] => ifKy y fun k => Q ((kget kvs k).getD z) M
    | _ => False
  | .extend => ifRef x fun n => ifL M n fun ds => match ys with
    | [y] => ifLs M y fun es => ds.length + es.length ≤ sz ∧ Q .non (M.set n (.lst (ds ++ es)))
    | _ => False
  | .lcount => ifLs M x fun ds => match ys with
    | [y] => y.atom = true ∧ ds.all D.atom = true ∧ Q (.int (ds.countP fun z => z.eqv y)) M
    | _ => False
  | .remove => ifRef x fun n => ifL M n fun ds => match ys with
    | [y] => y.flat 20 = true ∧ (∀ d ∈ ds, d.flat 20 = true) ∧ ∃ j, j < ds.length ∧ (∀ z, ds[j]? = some z → z.eqv y = true) ∧ (∀ m z, m < j → ds[m]? = some z → z.eqv y = false) ∧ Q .non (M.set n (.lst (ds.eraseIdx j)))
    | _ => False
  | .tcount => ifTup x fun ds => match ys with
    | [.non] => (∀ d ∈ ds, d.flat 18 = true) ∧ Q (.int (ds.countP D.isNon : Nat)) M
    | _ => False
  | .tindex => ifTup x fun ds => match ys with
    | [.non] => (∀ d ∈ ds, d.flat 18 = true) ∧ ∃ j, ds[j]? = some .non ∧ (∀ m, m < j → ds[m]? ≠ some .non) ∧ Q (.int (j : Nat)) M
    | _ => False
  | _ => False
def bmT (b : BM) (M : Mem) (x : D) (P : Prop) : Prop :=
  match b with
  | .dpop => ifRef x fun n => ifK M n fun _ => P
  | .get => ifRef x fun n => ifK M n fun _ => P
  | .tcount => ifTup x fun _ => P
  | .tindex => ifTup x fun _ => P
  | _ => ifLs M x fun _ => P
inductive E where
  | v (i : Nat) | ki (i : Int) | kb (b : Bool) | kn | ks (n : Nat) | gi (g : Nat) (i : Int)
  | op (o : Op2) (a b : E) | rep (m : Bool) (a b : E) | neg (a : E)
  | cmp (c : Cm) (a b : E) | chain (c c' : Cm) (a b d : E)
  | and (a b : E) | or (a b : E) | not (a : E) | ife (t a b : E)
  | tup (es : E) | lst (m : Bool) (es : E) | nil | cons (a r : E)
  | ix (a b : E) | sl (a lo hi : E)
  | call (f : Nat) (es : E) | meth (k f : Nat) (o es : E) | new (c f nf : Nat) (es : E)
  | b1 (b : B1) (m : Bool) (a : E) | b2 (b : B2) (a b : E) | lof (m : Bool) (a : E) | bm (b : BM) (o es : E)
  | comp (m : Bool) (own : List Nat) (tg it cond elt : E)
  | attr (o : E) (f : Nat) | dict (kvs : E) | pair (k v r : E) | isi (a : E) (t : Ty)
  | rng1 (a : E) | rng2 (a b : E) | enum (a : E) | zip (a b : E) | trng (a b : E) | rev (a : E) | dctp (a : E) | zipm (a b : E) | enumz (a b : E) | sst (a lo hi st : E) | addm (a b : E) | mint (a : E) | lset (a : E) | cat (tab : List (Nat × Nat × Nat)) (a b : E) | rpr (a : E)
  | none | w (a : E)
inductive S where
  | nil | seq (a r : S)
  | asg (tg e : E) | ex (e : E) | ite (c : E) (a b : S)
  | for_ (tg it : E) (body : S) (dead : List Nat) (gc : Bool)
  | while_ (c : E) (body : S) (dead : List Nat) (gc : Bool)
  | ret (e : E) | retN | raise (c : Nat) | cont | brk | pass
  | try_ (c : Nat) (body h : S)
  | tryX (c : Nat) (body : S) (j : Nat) (tg : Option Nat) (h : Nat) (tab : List D)
structure Df where
  np : Nat
  ns : Nat
  body : S
  gc : Bool
def stab : List Nat → Mem → Mem → Prop → Prop
  | [], _, _, P => P
  | n :: r, M, M', P => M'[n]? = M[n]? ∧ stab r M M' P
def compL (f : D → Mem → (Option D → Mem → Prop) → Prop) : List D → Mem → (List D → Mem → Prop) → Prop
  | [], M, Q => Q [] M
  | d :: r, M, Q => f d M fun o M' => compL f r M' fun ys M2 => Q (match o with | some y => y :: ys | none => ys) M2
def itD (M : Mem) (x : D) (Q : List Nat → List D → Prop) : Prop :=
  match x with
  | .tup ds => Q [] ds
  | .lst ds => Q [] ds
  | .scr ds => Q [] ds
  | .ref n => ifL M n fun ds => Q [n] ds
  | _ => False
def isTup : D → Bool
  | .tup _ => true
  | _ => false
def enumFrom (i : Nat) : List D → List D
  | [] => []
  | d :: r => .tup [.int i, d] :: enumFrom (i + 1) r
def zipD : List D → List D → List D
  | a :: r, b :: s => .tup [a, b] :: zipD r s
  | _, _ => []
def rngL (lo : Int) : Nat → List D
  | 0 => []
  | n + 1 => .int lo :: rngL (lo + 1) n
def bindT : E → D → Env → (Env → Prop) → Prop
  | .v i, d, env, Q => Q (env.set i (some d))
  | .tup es, d, env, Q => match d with
    | .tup ds => bindT es (.tup ds) env Q
    | _ => False
  | .nil, d, env, Q => match d with
    | .tup [] => Q env
    | _ => False
  | .cons a r, d, env, Q => match d with
    | .tup (x :: xs) => bindT a x env fun env' => bindT r (.tup xs) env' Q
    | _ => False
  | _, _, _, _ => False
def kill : List Nat → Env → Env
  | [], env => env
  | i :: r, env => kill r (env.set i none)
def kyD : Ky → D
  | .i n => .int n
  | .s n => .str n
def prD (p : Ky × D) : D := .tup [kyD p.1, p.2]
def plcs (n : Nat) (lo hi : Option Int) (c : Int) : List Nat := (List.range (PySem.Builtin.Slice.slicePlaces (PySem.Builtin.Slice.sliceAdjust lo hi c (n : Int)).1 (PySem.Builtin.Slice.sliceAdjust lo hi c (n : Int)).2 c)).map fun m : Nat => ((PySem.Builtin.Slice.sliceAdjust lo hi c (n : Int)).1 + (m : Int) * c).toNat
def pick {α : Type} (xs : List α) (is : List Nat) : List α := is.filterMap fun i => xs[i]?
abbrev Calls := Nat → List D → Mem → VQ → XQ → Prop
mutual
def wp (C : Calls) : E → Env → Mem → VQ → XQ → Prop
  | .v i, env, M, Q, X => match env[i]? with
    | some (some d) => Q d M
    | _ => False
  | .ki i, env, M, Q, X => Q (.int i) M
  | .kb b, env, M, Q, X => Q (.bl b) M
  | .kn, env, M, Q, X => Q .non M
  | .ks n, env, M, Q, X => Q (.str n) M
  | .gi _ i, env, M, Q, X => Q (.int i) M
  | .op o a b, env, M, Q, X => wp C a env M (fun x M1 => wp C b env M1 (fun y M2 => opD o M2 x y Q) X) X
  | .rep m a b, env, M, Q, X => wp C a env M (fun x M1 => wp C b env M1 (fun y M2 => ifLs M2 x fun ds => ifInt y fun k => 0 ≤ k ∧ k ≤ 1000 ∧ ds.length ≤ 1000 ∧ fresh m (List.replicate k.toNat ds).flatten M2 Q) X) X
  | .neg a, env, M, Q, X => wp C a env M (fun x M1 => ifInt x fun i => Q (.int (-i)) M1) X
  | .cmp c a b, env, M, Q, X => wp C a env M (fun x M1 => wp C b env M1 (fun y M2 => cmD c M2 x y fun t => Q (.bl t) M2) X) X
  | .chain c c' a b d, env, M, Q, X => wp C a env M (fun x M1 => wp C b env M1 (fun y M2 => cmD c M2 x y fun t =>
      c2 t (wp C d env M2 (fun z M3 => cmD c' M3 y z fun t' => Q (.bl t') M3) X) (Q (.bl false) M2)) X) X
  | .and a b, env, M, Q, X => wp C a env M (fun x M1 => trD M1 x fun t => c2 t (wp C b env M1 Q X) (Q x M1)) X
  | .or a b, env, M, Q, X => wp C a env M (fun x M1 => trD M1 x fun t => c2 t (Q x M1) (wp C b env M1 Q X)) X
  | .not a, env, M, Q, X => wp C a env M (fun x M1 => trD M1 x fun t => Q (.bl (!t)) M1) X
  | .ife t a b, env, M, Q, X => wpT C t env M (fun k M1 => c2 k (wp C a env M1 Q X) (wp C b env M1 Q X)) X
  | .tup es, env, M, Q, X => wpL C es env M (fun ds M1 => ds.length ≤ sz ∧ Q (.tup ds) M1) X
  | .lst m es, env, M, Q, X => wpL C es env M (fun ds M1 => ds.length ≤ sz ∧ fresh m ds M1 Q) X
  | .ix a b, env, M, Q, X => wp C a env M (fun x M1 => wp C b env M1 (fun y M2 => ixD M2 x y Q) X) X
  | .sl a lo hi, env, M, Q, X => wp C a env M (fun x M1 => wpP C lo env M1 (fun l M2 => wpP C hi env M2 (fun h M3 => slD M3 x l h Q) X) X) X
  | .call f es, env, M, Q, X => wpL C es env M (fun ds M1 => C f ds M1 Q X) X
  | .meth k f o es, env, M, Q, X => wp C o env M (fun x M1 => ifRef x fun n => ifI M1 n fun c _ => c = k ∧ wpL C es env M1 (fun ds M2 => C f (x :: ds) M2 Q X) X) X
  | .new c f nf es, env, M, Q, X => wpL C es env M (fun ds M1 => C f (.ref M1.length :: ds) (M1 ++ [.ins c (List.replicate nf none)]) (fun v M2 => v = .non ∧ Q (.ref M1.length) M2) fun _ _ => False) X
  | .b1 b m a, env, M, Q, X => wp C a env M (fun x M1 => b1D b m M1 x Q) X
  | .b2 b a a', env, M, Q, X => wp C a env M (fun x M1 => wp C a' env M1 (fun y M2 => b2D b M2 x y Q) X) X
  | .lof m a, env, M, Q, X => wp C a env M (fun x M1 => lofD m M1 x Q) X
  | .bm b o es, env, M, Q, X => wp C o env M (fun x M1 => bmT b M1 x (wpL C es env M1 (fun ys M2 => bmD b M2 x ys Q) X)) X
  | .comp m own tg it cond elt, env, M, Q, X => wpI C it env M (fun src ds M1 => stab src M1 M1 (compL (fun d M2 k => bindT tg d (kill own env) fun env1 =>
      wpT C cond env1 M2 (fun t M3 => c2 t (wp C elt env1 M3 (fun y M4 => stab src M1 M4 (k (some y) M4)) fun _ _ => False) (stab src M1 M3 (k none M3))) fun _ _ => False) ds M1 fun ys M5 => fresh m ys M5 Q)) X
  | .attr o f, env, M, Q, X => wp C o env M (fun x M1 => attrD M1 x f Q) X
  | .dict kvs, env, M, Q, X => wpK C kvs env M (fun ps M1 => ps.length ≤ 15 ∧ Q (.ref M1.length) (M1 ++ [.dct (ps.foldl (fun acc p => kput acc p.1 p.2) [])])) X
  | .isi a t, env, M, Q, X => wp C a env M (fun x M1 => isiOk x = true ∧ Q (.bl (isiD x t)) M1) X
  | .trng a b, env, M, Q, X => wp C a env M (fun x M1 => wp C b env M1 (fun y M2 => ifInt x fun i => ifInt y fun j => (-(2 ^ 62) ≤ i ∧ i < 2 ^ 62 ∧ -(2 ^ 62) ≤ j ∧ j < 2 ^ 62 ∧ j - i ≤ 16000000) ∧ Q (.tup (rngL i (j - i).toNat)) M2) X) X
  | .rev a, env, M, Q, X => wp C a env M (fun x M1 => ifLst M1 x fun ds => Q (.lst ds.reverse) M1) X
  | .mint a, env, M, Q, X => wp C a env M (fun x M1 => ifLst M1 x fun ds => ∃ ps : List (Int × List Int), ps ≠ [] ∧ ds = ps.map (fun p => .tup [.int p.1, .tup (p.2.map D.int)]) ∧ ∀ p ∈ ps, (∀ q ∈ ps, p.1 ≤ q.1) → Q (.tup [.int p.1, .tup (p.2.map D.int)]) M1) X
  | .lset a, env, M, Q, X => wp C a env M (fun x M1 => ifLst M1 x fun ds => ∃ ns : List Int, ds = ns.map D.int ∧ ns.length ≤ 4000 ∧ Q (.int ((dist [] ns).length : Nat)) M1) X
  | .rpr a, env, M, Q, X => wp C a env M (fun x M1 => ifTup x fun ds => ((D.tup ds).flat 10 = true ∧ (D.tup ds).rok 10 = true ∧ (D.tup ds).rlen ≤ sz) ∧ Q (.rep (.tup ds)) M1) X
  | .cat tab a b, env, M, Q, X => wp C a env M (fun x M1 => wp C b env M1 (fun y M2 => catD tab x y fun k => Q (.str k) M2) X) X
  | .addm a b, env, M, Q, X => wp C a env M (fun x M1 => wp C b env M1 (fun y M2 => ifLs M2 x fun ds => ifLs M2 y fun es => ds.length + es.length ≤ sz ∧ fresh true (ds ++ es) M2 Q) X) X
  | .sst a lo hi st, env, M, Q, X => wp C a env M (fun x M1 => wpP C lo env M1 (fun l M2 => wpP C hi env M2 (fun h M3 => wpP C st env M3 (fun o M4 => ifTup x fun ds => ∃ c, o = some c ∧ c ≠ 0 ∧ True ∧ (pick ds (plcs ds.length l h c)).length ≤ sz ∧ Q (.tup (pick ds (plcs ds.length l h c))) M4) X) X) X) X
  | .dctp a, env, M, Q, X => wp C a env M (fun x M1 => ifLst M1 x fun ds => ∃ kvs : List (Ky × D), ds = kvs.map prD ∧ Q (.ref M1.length) (M1 ++ [.dct (kvs.foldl (fun acc p => kput acc p.1 p.2) [])])) X
  | _, _, _, _, _ => False
def wpT (C : Calls) : E → Env → Mem → (Bool → Mem → Prop) → XQ → Prop
  | .none, env, M, Q, X => Q true M
  | .and a b, env, M, Q, X => wpT C a env M (fun t M1 => c2 t (wpT C b env M1 Q X) (Q false M1)) X
  | .or a b, env, M, Q, X => wpT C a env M (fun t M1 => c2 t (Q true M1) (wpT C b env M1 Q X)) X
  | .not a, env, M, Q, X => wpT C a env M (fun t M1 => Q (!t) M1) X
  | .cmp c a b, env, M, Q, X => wp C a env M (fun x M1 => wp C b env M1 (fun y M2 => cmD c M2 x y fun t => Q t M2) X) X
  | .chain c c' a b d, env, M, Q, X => wp C a env M (fun x M1 => wp C b env M1 (fun y M2 => cmD c M2 x y fun t =>
      c2 t (wp C d env M2 (fun z M3 => cmD c' M3 y z fun t' => Q t' M3) X) (Q false M2)) X) X
  | .w a, env, M, Q, X => wp C a env M (fun x M1 => trD M1 x fun t => Q t M1) X
  | _, _, _, _, _ => False
def wpL (C : Calls) : E → Env → Mem → (List D → Mem → Prop) → XQ → Prop
  | .nil, env, M, Q, X => Q [] M
  | .cons a r, env, M, Q, X => wp C a env M (fun x M1 => wpL C r env M1 (fun xs M2 => Q (x :: xs) M2) X) X
  | _, _, _, _, _ => False
def wpP (C : Calls) : E → Env → Mem → (Option Int → Mem → Prop) → XQ → Prop
  | .none, env, M, Q, X => Q none M
  | .w a, env, M, Q, X => wp C a env M (fun x M1 => ifInt x fun i => Q (some i) M1) X
  | _, _, _, _, _ => False
def wpK (C : Calls) : E → Env → Mem → (List (Ky × D) → Mem → Prop) → XQ → Prop
  | .nil, env, M, Q, X => Q [] M
  | .pair k v r, env, M, Q, X => wp C k env M (fun x M1 => wp C v env M1 (fun y M2 => wpK C r env M2 (fun ps M3 => ifKy x fun k => Q ((k, y) :: ps) M3) X) X) X
  | _, _, _, _, _ => False
def wpI (C : Calls) : E → Env → Mem → (List Nat → List D → Mem → Prop) → XQ → Prop
  | .rng1 a, env, M, Q, X => wp C a env M (fun x M1 => ifInt x fun j => (-(2 ^ 62) ≤ j ∧ j ≤ 16000000) ∧ Q [] (rngL 0 j.toNat) M1) X
  | .rng2 a b, env, M, Q, X => wp C a env M (fun x M1 => wp C b env M1 (fun y M2 => ifInt x fun i => ifInt y fun j => (-(2 ^ 62) ≤ i ∧ i < 2 ^ 62 ∧ -(2 ^ 62) ≤ j ∧ j < 2 ^ 62 ∧ j - i ≤ 16000000) ∧ Q [] (rngL i (j - i).toNat) M2) X) X
  | .enum a, env, M, Q, X => wp C a env M (fun x M1 => itD M1 x fun src ds => Q src (enumFrom 0 ds) M1) X
  | .zip a b, env, M, Q, X => wp C a env M (fun x M1 => wp C b env M1 (fun y M2 => itD M2 x fun s1 ds => itD M2 y fun s2 es => isTup x = isTup y ∧ Q (s1 ++ s2) (zipD ds es) M2) X) X
  | .zipm a b, env, M, Q, X => wp C a env M (fun x M1 => wp C b env M1 (fun y M2 => itD M2 x fun s1 ds => itD M2 y fun s2 es => (isTup x = true ∧ isTup y = false) ∧ Q (s1 ++ s2) (zipD ds es) M2) X) X
  | .enumz a b, env, M, Q, X => wp C a env M (fun x M1 => wp C b env M1 (fun y M2 => ifTup x fun ds => ifTup y fun es => Q [] (enumFrom 0 (zipD ds es)) M2) X) X
  | .w a, env, M, Q, X => wp C a env M (fun x M1 => itD M1 x fun src ds => Q src ds M1) X
  | _, _, _, _, _ => False
end
structure Ends where
  nx : Env → Mem → Prop
  rt : VQ
  bk : Env → Mem → Prop
  ct : Env → Mem → Prop
  ex : Nat → Env → Mem → Prop
def gcS (gc : Bool) (k : Nat) (env : Env) (M : Mem) (P : Mem → Prop) : Prop :=
  match gc with
  | true => k ≤ M.length ∧ env.all (obel k) = true ∧ (M.take k).all (O.bel k) = true ∧ P (M.take k)
  | false => P M
def gcR (gc : Bool) (k : Nat) (v : D) (M : Mem) (P : Mem → Prop) : Prop :=
  match gc with
  | true => k ≤ M.length ∧ v.bel k = true ∧ (M.take k).all (O.bel k) = true ∧ P (M.take k)
  | false => P M
def gcX (gc : Bool) (k : Nat) (M : Mem) (P : Mem → Prop) : Prop :=
  match gc with
  | true => k ≤ M.length ∧ (M.take k).all (O.bel k) = true ∧ P (M.take k)
  | false => P M
def forL (wb : Env → Mem → Ends → Prop) (src : List Nat) (M0 : Mem) (tg : E) (dead : List Nat) (gc : Bool) (K : Ends) : List D → Env → Mem → Prop
  | [], env, M => K.nx env M
  | d :: r, env, M => bindT tg d env fun env1 => wb env1 M { K with
      nx := fun e m => stab src M0 m (gcS gc M0.length (kill dead e) m fun m' => forL wb src M0 tg dead gc K r (kill dead e) m')
      ct := fun e m => stab src M0 m (gcS gc M0.length (kill dead e) m fun m' => forL wb src M0 tg dead gc K r (kill dead e) m')
      bk := fun e m => K.nx (kill dead e) m }
def whileN (wc : Env → Mem → (Bool → Mem → Prop) → XQ → Prop) (wb : Env → Mem → Ends → Prop) (k0 : Nat) (dead : List Nat) (gc : Bool) (K : Ends) : Nat → Env → Mem → Prop
  | 0, _, _ => False
  | n + 1, env, M => wc env M (fun t M1 => c2 t (wb env M1 { K with
      nx := fun e m => gcS gc k0 (kill dead e) m fun m' => whileN wc wb k0 dead gc K n (kill dead e) m'
      ct := fun e m => gcS gc k0 (kill dead e) m fun m' => whileN wc wb k0 dead gc K n (kill dead e) m'
      bk := fun e m => K.nx (kill dead e) m }) (K.nx env M1)) fun c m => K.ex c env m
def sub (c' c : Nat) : Bool := c' == c || c == 0
def cval : E → D
  | .kn => .non
  | .ks n => .str n
  | .kb b => .bl b
  | .ki i => .int i
  | _ => .non
def setD (M : Mem) (x y d : D) (Q : Mem → Prop) : Prop :=
  ifRef x fun n => match M[n]? with
    | some (.lst ds) => ifInt y fun j => ∃ k, ix? ds.length j = some k ∧ Q (M.set n (.lst (ds.set k d)))
    | some (.dct kvs) => ifKy y fun k => kvs.length < sz ∧ Q (M.set n (.dct (kput kvs k d)))
    | _ => False
def elen : E → Nat
  | .cons _ r => elen r + 1
  | _ => 0
def wpG (C : Calls) : E → D → Env → Mem → (Env → Mem → Prop) → XQ → Prop
  | .v i, d, env, M, Q, X => Q (env.set i (some d)) M
  | .tup es, d, env, M, Q, X => match d with
    | .tup ds => elen es = ds.length ∧ wpG C es (.tup ds) env M Q X
    | _ => False
  | .nil, d, env, M, Q, X => match d with
    | .tup [] => Q env M
    | _ => False
  | .cons a r, d, env, M, Q, X => match d with
    | .tup (x :: xs) => wpG C a x env M (fun env' M' => wpG C r (.tup xs) env' M' Q X) X
    | _ => False
  | .attr o f, d, env, M, Q, X => wp C o env M (fun x M1 => ifRef x fun n => ifI M1 n fun c fs => f < fs.length ∧ Q env (M1.set n (.ins c (fs.set f (some d))))) X
  | .ix o i, d, env, M, Q, X => wp C o env M (fun x M1 => wp C i env M1 (fun y M2 => setD M2 x y d fun M3 => Q env M3) X) X
  | _, _, _, _, _, _ => False
def exD (tab : List D) (c : Nat) (P : D → Prop) : Prop := match tab[c]? with
  | some d => P d
  | none => False
def endX (tg : Option Nat) (j : Nat) (K : Ends) (env : Env) (M : Mem) (d : D) : Prop := j < env.length ∧ match tg with
  | some i => K.nx ((env.set j none).set i (some d)) M
  | none => K.rt d M
def wpS (C : Calls) : S → Env → Mem → Ends → Prop
  | .nil, env, M, K => K.nx env M
  | .seq a r, env, M, K => wpS C a env M { K with nx := fun env' M' => wpS C r env' M' K }
  | .asg tg e, env, M, K => wp C e env M (fun d M1 => wpG C tg d env M1 K.nx fun _ _ => False) fun c m => K.ex c env m
  | .ex e, env, M, K => wp C e env M (fun _ M1 => K.nx env M1) fun c m => K.ex c env m
  | .ite c a b, env, M, K => wpT C c env M (fun t M1 => c2 t (wpS C a env M1 K) (wpS C b env M1 K)) fun c m => K.ex c env m
  | .for_ tg it body dead gc, env, M, K => wpI C it env M (fun src ds M1 => forL (wpS C body) src M1 tg dead gc K ds (kill dead env) M1) fun c m => K.ex c env m
  | .while_ c body dead gc, env, M, K => ∃ n, whileN (wpT C c) (wpS C body) M.length dead gc K n (kill dead env) M
  | .ret e, env, M, K => wp C e env M K.rt fun c m => K.ex c env m
  | .retN, env, M, K => K.rt .non M
  | .raise c, env, M, K => K.ex c env M
  | .cont, env, M, K => K.ct env M
  | .brk, env, M, K => K.bk env M
  | .pass, env, M, K => K.nx env M
  | .try_ c body h, env, M, K => wpS C body env M { K with ex := fun c' env' M' => c2 (sub c' c) (wpS C h env' M' { K with ex := fun _ _ _ => False }) (K.ex c' env' M') }
  | .tryX c body j tg _ tab, env, M, K => wpS C body env M { K with ex := fun c' env' M' => c2 (sub c' c) (exD tab c' fun d => endX tg j K env' M' d) (K.ex c' env' M') }
def start (n : Nat) (ds : List D) : Env := ds.map some ++ List.replicate (n - ds.length) none
def callN (T : List Df) : Nat → Calls
  | 0, _, _, _, _, _ => False
  | n + 1, f, ds, M, Q, X => match T[f]? with
    | some d => ds.length = d.np ∧ wpS (callN T n) d.body (start d.ns ds) M
        { nx := fun _ M' => gcR d.gc M.length .non M' fun m => Q .non m
          rt := fun v M' => gcR d.gc M.length v M' fun m => Q v m
          bk := fun _ _ => False
          ct := fun _ _ => False
          ex := fun c _ M' => gcX d.gc M.length M' fun m => X c m }
    | none => False
end Z
set_option Elab.async false
set_option linter.all false
set_option maxRecDepth 100000
set_option maxHeartbeats 1000000
namespace Z
open PySem PySem.Spec PyProof.Rows L2
def ItB (b : Bool) (h : Heap) (i l : Addr) (k : Nat) : Prop := match b with
  | true => h.IsTupleIter i l k
  | false => h.IsListIter i l k
def SeB (b : Bool) (h : Heap) (l : Addr) (xs : Array Value) : Prop := match b with
  | true => h.IsTuple l xs
  | false => h.IsList l xs
def tyB : Bool → String
  | true => "tuple_iterator"
  | false => "list_iterator"
section
variable {h h' : Heap} {b : Bool} {i l c : Addr} {k : Nat} {xs : Array Value}
theorem ItB.mv (x : ItB b h i l k) (e : ∀ o, h.get? i = some o → h'.get? i = some o) : ItB b h' i l k := by
  cases b with
  | true => exact Heap.IsTupleIter.at x e
  | false => exact Heap.IsListIter.at x e
theorem SeB.mv (x : SeB b h l xs) (e : ∀ o, h.get? l = some o → h'.get? l = some o) : SeB b h' l xs := by
  cases b with
  | true => let ⟨o, ho, r⟩ := x; exact ⟨o, e _ ho, r⟩
  | false => let ⟨o, ho, r⟩ := x; exact ⟨o, e _ ho, r⟩
theorem ItB.obj (x : ItB b h i l k) : ∃ o, h.get? i = some o ∧ ∃ q, o.data = .fields q := by
  cases b with
  | true => obtain ⟨o, ho, _, hd⟩ := x; exact ⟨o, ho, _, hd⟩
  | false => obtain ⟨o, ho, _, hd⟩ := x; exact ⟨o, ho, _, hd⟩
theorem SeB.lt (x : SeB b h l xs) : l < h.objs.size := by
  cases b with
  | true => obtain ⟨o, ho, _⟩ := x; exact Heap.lt_size ho
  | false => obtain ⟨o, ho, _⟩ := x; exact Heap.lt_size ho
theorem ItB.lt (x : ItB b h i l k) : i < h.objs.size := by
  obtain ⟨o, ho, _⟩ := x.obj; exact Heap.lt_size ho
theorem ItB.new (h : Heap) (b : Bool) (l : Addr) : ItB b (h.push { cls := .type (tyB b), data := .fields #[.ref l, .int 0 0] }) h.objs.size l 0 := by
  cases b with
  | true => exact ⟨_, Heap.get?_push_size _ rfl, rfl, rfl⟩
  | false => exact ⟨_, Heap.get?_push_size _ rfl, rfl, rfl⟩
end
section
variable {prog : Program} {w : World} {A : Around} {E : Value → Shared → Prop} {s : Shared}
theorem nextB_item {b : Bool} {it l : Addr} {i : Nat} {items} {x : Value} {Q : Value → Shared → Prop} (hit : ItB b s.heap it l i) (hl : SeB b s.heap l items) (hx : items[i]? = some x)
    (hQ : ∀ h', ItB b h' it l (i + 1) → Heap.SameBut it s.heap h' → Q x { s with heap := h' }) : wpAny (model prog w) A (Builtin.SmallTypes.nextOf (.ref it)) Q E s := by
  cases b with
  | true => exact RZ.nextOf_tuple_item hit hl hx hQ
  | false => exact wpAny_nextOf_list_item hit hl hx hQ
theorem nextB_end {b : Bool} {it l : Addr} {i : Nat} {items} {Q : Value → Shared → Prop} (hh : A.handled = none) (hit : ItB b s.heap it l i) (hl : SeB b s.heap l items) (hx : items[i]? = none)
    (hE : ∀ h' e, Heap.ExtBut it s.heap h' → (∃ o, h'.get? e = some o ∧ o.cls = .type "StopIteration") → E (.ref e) { s with heap := h' }) : wpAny (model prog w) A (Builtin.SmallTypes.nextOf (.ref it)) Q E s := by
  cases b with
  | true => exact RZ.nextOf_tuple_end hh hit hl hx hE
  | false => exact wpAny_nextOf_list_end hh hit hl hx hE
structure Zst (b c : Bool) (h : Heap) (z TI TO i1 i2 l1 l2 : Addr) (k : Nat) : Prop where
  z : IsZip h z TI TO .none
  ti : IsPair h TI (.ref i1) (.ref i2)
  to : ∃ x y, IsPair h TO x y
  one : ItB b h i1 l1 k
  two : ItB c h i2 l2 k
theorem zipB_item {b c : Bool} {z TI TO i1 i2 l1 l2 : Addr} {k : Nat} {xs ys : Array Value} {x y : Value} {Q : Value → Shared → Prop} (D : ZipApart z TI TO i1 i2 l1 l2) (st : Zst b c s.heap z TI TO i1 i2 l1 l2 k)
    (hl1 : SeB b s.heap l1 xs) (hl2 : SeB c s.heap l2 ys) (hx : xs[k]? = some x) (hy : ys[k]? = some y)
    (hQ : ∀ h', IsZip h' z TI TO (rawInt s.heap.objs.size) → IsPair h' TO x y → ItB b h' i1 l1 (k + 1) → ItB c h' i2 l2 (k + 1) → IsPair h' s.heap.objs.size x y → h'.objs.size = s.heap.objs.size + 1 →
      (∀ c o, c ≠ z → c ≠ TO → c ≠ i1 → c ≠ i2 → s.heap.get? c = some o → h'.get? c = some o) → Q (.ref s.heap.objs.size) { s with heap := h' }) :
    wpAny (model prog w) A (Builtin.«zip.__next__» ⟨[.ref z], []⟩) (fun fin s' => ∃ v, fin = .done (.ret v) ∧ Q v s') E s := by
  obtain ⟨hz, hTI, ⟨p, q, hTO⟩, h1, h2⟩ := st
  show wpAny _ _ (field (.ref z) 2 >>= _) _ _ _
  refine wpAny_bind (wpAny_field hz rfl (x := .bool false) rfl ?_)
  show wpAny _ _ (field (.ref z) 3 >>= _) _ _ _
  refine wpAny_bind (wpAny_field hz rfl (x := .ref TI) rfl ?_)
  refine wpAny_bind (wpAny_seqItems hTI rfl ?_)
  show wpAny _ _ (Builtin.SmallTypes.ownedTupleIsFree (.ref z) >>= _) _ _ _
  refine wpAny_bind ?_
  unfold Builtin.SmallTypes.ownedTupleIsFree
  refine wpAny_bind (wpAny_field hz rfl (x := .none) rfl (wpAny_pure ?_))
  simp only [if_true]
  refine wpAny_bind (wpAny_rule ?_)
  refine wpAny_bind (wpAny_field hz rfl (x := .ref TO) rfl ?_)
  refine wpAny_bind (wpAny_setField_rec hz (by simp) fun g1 z1 s1 => ?_)
  replace z1 : IsZip g1 z TI TO .ellipsis := z1
  refine wpAny_bind ?_
  simp only [List.zipIdx_cons, List.zipIdx_nil, List.forIn_cons, List.forIn_nil]
  refine wpAny_bind (wpAny_bind (wpAny_onRaise ?_))
  show wpAny _ _ (Builtin.SmallTypes.nextOf (.ref i1) >>= _) _ _ _
  refine wpAny_bind (nextB_item (h1.mv fun o => s1.extBut _ o D.i1z) (hl1.mv fun o => s1.extBut _ o D.l1z) hx fun g2 h12 s2 => wpAny_pure ?_)
  have t2 : IsPair g2 TO p q := s2.extBut _ _ D.TOi1 (s1.extBut _ _ D.TOz hTO)
  refine wpAny_bind (wpAny_seqItems t2 rfl ?_)
  refine wpAny_bind (wpAny_updateSeq_pair t2 fun g3 t3 s3 => ?_)
  replace t3 : IsPair g3 TO x q := t3
  refine wpAny_bind (wpAny_letGo (wpAny_pure ?_))
  have to3 : ∀ a o, a ≠ z → a ≠ i1 → a ≠ TO → s.heap.get? a = some o → g3.get? a = some o := fun a o n1 n2 n3 e => s3.extBut _ _ n3 (s2.extBut _ _ n2 (s1.extBut _ _ n1 e))
  refine wpAny_bind (wpAny_bind (wpAny_onRaise ?_))
  show wpAny _ _ (Builtin.SmallTypes.nextOf (.ref i2) >>= _) _ _ _
  refine wpAny_bind (nextB_item (h2.mv fun o => to3 _ o D.i2z D.i12.symm D.TOi2.symm) (hl2.mv fun o => to3 _ o D.l2z D.l2i1 D.l2TO) hy fun g4 h24 s4 => wpAny_pure ?_)
  have t4 : IsPair g4 TO x q := s4.extBut _ _ D.TOi2 t3
  refine wpAny_bind (wpAny_seqItems t4 rfl ?_)
  refine wpAny_bind (wpAny_updateSeq_pair t4 fun g5 t5 s5 => ?_)
  replace t5 : IsPair g5 TO x y := t5
  refine wpAny_bind (wpAny_letGo (wpAny_pure (wpAny_pure ?_)))
  refine wpAny_bind (wpAny_seqItems t5 rfl ?_)
  refine wpAny_bind (wpAny_newTuple ?_)
  have hsz : g5.objs.size = s.heap.objs.size := by rw [s5.1, s4.1, s3.1, s2.1, s1.1]
  have z5 : IsZip g5 z TI TO .ellipsis := s5.extBut _ _ D.TOz.symm (s4.extBut _ _ D.i2z.symm (s3.extBut _ _ D.TOz.symm (s2.extBut _ _ D.i1z.symm z1)))
  have k5 : ∀ a o, a ≠ z → a ≠ TO → a ≠ i1 → a ≠ i2 → s.heap.get? a = some o → g5.get? a = some o := fun a o n1 n2 n3 n4 e => s5.extBut _ _ n2 (s4.extBut _ _ n4 (to3 a o n1 n3 n2 e))
  have h15 : ItB b g5 i1 l1 (k + 1) := h12.mv fun o e => s5.extBut _ _ D.TOi1.symm (s4.extBut _ _ D.i12 (s3.extBut _ _ D.TOi1.symm e))
  have h25 : ItB c g5 i2 l2 (k + 1) := h24.mv fun o e => s5.extBut _ _ D.TOi2.symm e
  have zlt : z < g5.objs.size := Heap.lt_size z5
  show wpAny _ _ (Builtin.SmallTypes.ownedTupleHandOut (.ref z) (.ref g5.objs.size) >>= _) _ _ _
  refine wpAny_bind ?_
  unfold Builtin.SmallTypes.ownedTupleHandOut
  have z6 : IsZip (g5.push { cls := .type "tuple", data := .seq #[x, y] }) z TI TO .ellipsis := Heap.get?_push_of_some _ z5
  refine wpAny_bind (wpAny_setField_rec z6 (by simp) fun g7 z7 s7 => ?_)
  replace z7 : IsZip g7 z TI TO (rawInt g5.objs.size) := z7
  refine wpAny_setField_rec z7 (by simp) fun g8 z8 s8 => ?_
  replace z8 : IsZip g8 z TI TO (rawInt g5.objs.size) := z8
  have up : ∀ a o, a ≠ z → g5.get? a = some o → g8.get? a = some o := fun a o n e => s8.extBut _ _ n (s7.extBut _ _ n (Heap.get?_push_of_some _ e))
  have new8 : IsPair g8 g5.objs.size x y := s8.extBut _ _ (Nat.ne_of_gt zlt) (s7.extBut _ _ (Nat.ne_of_gt zlt) (Heap.get?_push_size _ rfl))
  have len8 : g8.objs.size = g5.objs.size + 1 := by rw [s8.1, s7.1, Heap.size_push]
  rw [hsz] at z8 new8 len8
  refine wpAny_pure ⟨_, rfl, ?_⟩
  show Q (.ref g5.objs.size) _
  rw [hsz]
  exact hQ g8 z8 (up _ _ D.TOz t5) (h15.mv fun o e => up _ o D.i1z e) (h25.mv fun o e => up _ o D.i2z e) new8 len8 fun a o n1 n2 n3 n4 e => up a o n1 (k5 a o n1 n2 n3 n4 e)
theorem zipB_end {b c : Bool} {z TI TO i1 i2 l1 l2 : Addr} {k : Nat} {xs ys : Array Value} {Q : Fin → Shared → Prop} (hh : A.handled = none) (D : ZipApart z TI TO i1 i2 l1 l2) (st : Zst b c s.heap z TI TO i1 i2 l1 l2 k)
    (hl1 : SeB b s.heap l1 xs) (hl2 : SeB c s.heap l2 ys) (hend : xs[k]? = none ∨ ys[k]? = none)
    (hE : ∀ h' e, (∀ c o, c ≠ z → c ≠ TO → c ≠ i1 → c ≠ i2 → s.heap.get? c = some o → h'.get? c = some o) → (∃ o, h'.get? e = some o ∧ o.cls = .type "StopIteration") → E (.ref e) { s with heap := h' }) :
    wpAny (model prog w) A (Builtin.«zip.__next__» ⟨[.ref z], []⟩) Q E s := by
  obtain ⟨hz, hTI, ⟨p, q, hTO⟩, h1, h2⟩ := st
  show wpAny _ _ (field (.ref z) 2 >>= _) _ _ _
  refine wpAny_bind (wpAny_field hz rfl (x := .bool false) rfl ?_)
  show wpAny _ _ (field (.ref z) 3 >>= _) _ _ _
  refine wpAny_bind (wpAny_field hz rfl (x := .ref TI) rfl ?_)
  refine wpAny_bind (wpAny_seqItems hTI rfl ?_)
  show wpAny _ _ (Builtin.SmallTypes.ownedTupleIsFree (.ref z) >>= _) _ _ _
  refine wpAny_bind ?_
  unfold Builtin.SmallTypes.ownedTupleIsFree
  refine wpAny_bind (wpAny_field hz rfl (x := .none) rfl (wpAny_pure ?_))
  simp only [if_true]
  refine wpAny_bind (wpAny_rule ?_)
  refine wpAny_bind (wpAny_field hz rfl (x := .ref TO) rfl ?_)
  refine wpAny_bind (wpAny_setField_rec hz (by simp) fun g1 z1 s1 => ?_)
  replace z1 : IsZip g1 z TI TO .ellipsis := z1
  refine wpAny_bind ?_
  simp only [List.zipIdx_cons, List.zipIdx_nil, List.forIn_cons, List.forIn_nil]
  refine wpAny_bind (wpAny_bind (wpAny_onRaise ?_))
  show wpAny _ _ (Builtin.SmallTypes.nextOf (.ref i1) >>= _) _ _ _
  have a1 : ItB b g1 i1 l1 k := h1.mv fun o => s1.extBut _ o D.i1z
  have a2 : SeB b g1 l1 xs := hl1.mv fun o => s1.extBut _ o D.l1z
  cases hx : xs[k]? with
  | none =>
    refine wpAny_bind (nextB_end hh a1 a2 hx fun g2 e s2 he => ?_)
    obtain ⟨oe, hoe, hce⟩ := he
    have z2 : IsZip g2 z TI TO .ellipsis := s2 _ _ D.i1z.symm z1
    have hez : e ≠ z := fun x => by subst x; rw [z2] at hoe; cases hoe; simp at hce
    refine wpAny_setField_rec z2 (by simp) fun g3 _ s3 => hE g3 e (fun a o n1 _ n3 _ x => s3.extBut _ _ n1 (s2 _ _ n3 (s1.extBut _ _ n1 x))) ⟨oe, s3.extBut _ _ hez hoe, hce⟩
  | some x =>
    have hy : ys[k]? = none := by rcases hend with h | h; rw [hx] at h; cases h; exact h
    refine wpAny_bind (nextB_item a1 a2 hx fun g2 h12 s2 => wpAny_pure ?_)
    have t2 : IsPair g2 TO p q := s2.extBut _ _ D.TOi1 (s1.extBut _ _ D.TOz hTO)
    refine wpAny_bind (wpAny_seqItems t2 rfl ?_)
    refine wpAny_bind (wpAny_updateSeq_pair t2 fun g3 t3 s3 => ?_)
    refine wpAny_bind (wpAny_letGo (wpAny_pure ?_))
    have to3 : ∀ a o, a ≠ z → a ≠ i1 → a ≠ TO → s.heap.get? a = some o → g3.get? a = some o := fun a o n1 n2 n3 e => s3.extBut _ _ n3 (s2.extBut _ _ n2 (s1.extBut _ _ n1 e))
    refine wpAny_bind (wpAny_bind (wpAny_onRaise ?_))
    show wpAny _ _ (Builtin.SmallTypes.nextOf (.ref i2) >>= _) _ _ _
    refine wpAny_bind (nextB_end hh (h2.mv fun o => to3 _ o D.i2z D.i12.symm D.TOi2.symm) (hl2.mv fun o => to3 _ o D.l2z D.l2i1 D.l2TO) hy fun g4 e s4 he => ?_)
    obtain ⟨oe, hoe, hce⟩ := he
    have z4 : IsZip g4 z TI TO .ellipsis := s4 _ _ D.i2z.symm (s3.extBut _ _ D.TOz.symm (s2.extBut _ _ D.i1z.symm z1))
    have hez : e ≠ z := fun x => by subst x; rw [z4] at hoe; cases hoe; simp at hce
    refine wpAny_setField_rec z4 (by simp) fun g5 _ s5 => hE g5 e (fun a o n1 n2 n3 n4 x => s5.extBut _ _ n1 (s4 _ _ n4 (to3 a o n1 n3 n2 x))) ⟨oe, s5.extBut _ _ hez hoe, hce⟩
theorem pyNextB_item {b c : Bool} {z TI TO i1 i2 l1 l2 : Addr} {k : Nat} {xs ys : Array Value} {x y : Value} {Q : Option Value → Shared → Prop} (D : ZipApart z TI TO i1 i2 l1 l2) (st : Zst b c s.heap z TI TO i1 i2 l1 l2 k)
    (hl1 : SeB b s.heap l1 xs) (hl2 : SeB c s.heap l2 ys) (hx : xs[k]? = some x) (hy : ys[k]? = some y)
    (hQ : ∀ h', IsZip h' z TI TO (rawInt s.heap.objs.size) → IsPair h' TO x y → ItB b h' i1 l1 (k + 1) → ItB c h' i2 l2 (k + 1) → IsPair h' s.heap.objs.size x y → h'.objs.size = s.heap.objs.size + 1 →
      (∀ c o, c ≠ z → c ≠ TO → c ≠ i1 → c ≠ i2 → s.heap.get? c = some o → h'.get? c = some o) → Q (some (.ref s.heap.objs.size)) { s with heap := h' }) :
    wpAny (model prog w) A (pyNext (.ref z)) Q E s := by
  have hT : s.TypeIs (.ref z) "zip" := ⟨_, st.z, rfl⟩
  unfold pyNext
  exact wpAny_bind (wpAny_attempt (wpAny_callSpecial?_slot (name := Str.ofString "__next__") hT F.slot_zip_next (wpAny_call_entry F.slot_zip_next hT F.entry_zip_next
    (zipB_item D st hl1 hl2 hx hy fun h' a1 a2 a3 a4 a5 a6 a7 => wpAny_pure (hQ h' a1 a2 a3 a4 a5 a6 a7)) (F.args_zip_next_1 _))))
theorem pyNextB_end {b c : Bool} {z TI TO i1 i2 l1 l2 : Addr} {k : Nat} {xs ys : Array Value} {Q : Option Value → Shared → Prop} (hh : A.handled = none) (D : ZipApart z TI TO i1 i2 l1 l2) (st : Zst b c s.heap z TI TO i1 i2 l1 l2 k)
    (hl1 : SeB b s.heap l1 xs) (hl2 : SeB c s.heap l2 ys) (hend : xs[k]? = none ∨ ys[k]? = none)
    (hQ : ∀ h', (∀ c o, c ≠ z → c ≠ TO → c ≠ i1 → c ≠ i2 → s.heap.get? c = some o → h'.get? c = some o) → Q none { s with heap := h' }) : wpAny (model prog w) A (pyNext (.ref z)) Q E s := by
  have hT : s.TypeIs (.ref z) "zip" := ⟨_, st.z, rfl⟩
  unfold pyNext
  refine wpAny_bind (wpAny_attempt (wpAny_callSpecial?_slot (name := Str.ofString "__next__") hT F.slot_zip_next (wpAny_call_entry F.slot_zip_next hT F.entry_zip_next
    (zipB_end hh D st hl1 hl2 hend fun h' e hk he => ?_) (F.args_zip_next_1 _))))
  obtain ⟨o, ho, hc⟩ := he
  refine wpAny_bind (wpAny_isInstance (T := "StopIteration") (b := true) ⟨o, ho, hc⟩ isSubtype_stop ?_)
  exact wpAny_pure (hQ _ hk)
end
abbrev zm1 (h : Heap) (l1 : Addr) : Heap := h.push { cls := .type "tuple_iterator", data := .fields #[.ref l1, .int 0 0] }
abbrev zm2 (h : Heap) (l1 l2 : Addr) : Heap := (zm1 h l1).push { cls := .type "list_iterator", data := .fields #[.ref l2, .int 0 0] }
abbrev zm3 (h : Heap) (l1 l2 : Addr) : Heap := (zm2 h l1 l2).push { cls := .type "tuple", data := .seq #[.ref h.objs.size, .ref (zm1 h l1).objs.size] }
abbrev zm4 (h : Heap) (l1 l2 : Addr) : Heap := (zm3 h l1 l2).push { cls := .type "tuple", data := .seq #[.none, .none] }
abbrev zm5 (h : Heap) (l1 l2 : Addr) : Heap := (zm4 h l1 l2).push { cls := .type "zip", data := .fields #[.none, .bool false, .bool false, .ref (zm2 h l1 l2).objs.size, .ref (zm3 h l1 l2).objs.size] }
theorem meets_zm (l1 l2 : Addr) (xs ys : Array Value) :
    Meets (Builtin.«zip.__new__» ⟨[.type "zip", .ref l1, .ref l2], []⟩) (fun _ R s => s.heap.IsTuple l1 xs ∧ s.heap.IsList l2 ys ∧ R (.ok (.ret (.ref (zm4 s.heap l1 l2).objs.size))) { s with heap := zm5 s.heap l1 l2 }) :=
  .of_wp fun prog w A R s h => by
    obtain ⟨hp, g, d, tk, os⟩ := s; obtain ⟨hl1, hl2, h⟩ := h
    have hsub := sub_zip
    have hL1 : Heap.IsTuple (Shared.heap ⟨hp, g, d, tk, os⟩) l1 xs := hl1
    have hL2 : Heap.IsList (Shared.heap ⟨hp.push { cls := .type "tuple_iterator", data := .fields #[.ref l1, .int 0 0] }, g, d, tk, os⟩) l2 ys := Heap.IsList.push hl2 _
    wp_walk using wpAny_pyIter_tuple hL1, wpAny_pyIter_list hL2
    exact ⟨_, rfl, h⟩
section
variable {prog : Program} {w : World} {A : Around} {E : Value → Shared → Prop} {s : Shared}
theorem call_zm {l1 l2 : Addr} {xs ys : Array Value} {Q : Value → Shared → Prop} (hl1 : s.heap.IsTuple l1 xs) (hl2 : s.heap.IsList l2 ys)
    (h : ∀ h', Zst true false h' (s.heap.objs.size + 4) (s.heap.objs.size + 2) (s.heap.objs.size + 3) s.heap.objs.size (s.heap.objs.size + 1) l1 l2 0 → (∀ c o, s.heap.get? c = some o → h'.get? c = some o) → Q (.ref (s.heap.objs.size + 4)) { s with heap := h' }) :
    wpAny (model prog w) A (call (.type "zip") [.ref l1, .ref l2]) Q E s := by
  refine callType_new F.called_zip (by decide) (F.typeCall_zip_2 _ _) (F.newCall_zip_2 _ _) (fun obj => F.args_object_init_3 obj _ _) F.entry_zip_new (meets_zm l1 l2 xs ys) ⟨hl1, hl2, ?_⟩
  have n1 : (zm1 s.heap l1).objs.size = s.heap.objs.size + 1 := Heap.size_push ..
  have n2 : (zm2 s.heap l1 l2).objs.size = s.heap.objs.size + 2 := by rw [Heap.size_push, n1]
  have n3 : (zm3 s.heap l1 l2).objs.size = s.heap.objs.size + 3 := by rw [Heap.size_push, n2]
  have n4 : (zm4 s.heap l1 l2).objs.size = s.heap.objs.size + 4 := by rw [Heap.size_push, n3]
  have on1 : ∀ c o, (zm1 s.heap l1).get? c = some o → (zm5 s.heap l1 l2).get? c = some o := fun c o e => Heap.get?_push_of_some _ (Heap.get?_push_of_some _ (Heap.get?_push_of_some _ (Heap.get?_push_of_some _ e)))
  have g5 : (zm5 s.heap l1 l2).get? (zm4 s.heap l1 l2).objs.size = some _ := Heap.get?_push_size _ rfl
  have g4 : (zm5 s.heap l1 l2).get? (zm3 s.heap l1 l2).objs.size = some _ := Heap.get?_push_of_some _ (Heap.get?_push_size _ rfl)
  have g3 : (zm5 s.heap l1 l2).get? (zm2 s.heap l1 l2).objs.size = some _ := Heap.get?_push_of_some _ (Heap.get?_push_of_some _ (Heap.get?_push_size _ rfl))
  have g2 : (zm5 s.heap l1 l2).get? (zm1 s.heap l1).objs.size = some _ := Heap.get?_push_of_some _ (Heap.get?_push_of_some _ (Heap.get?_push_of_some _ (Heap.get?_push_size _ rfl)))
  have g1 : (zm5 s.heap l1 l2).get? s.heap.objs.size = some _ := on1 _ _ (Heap.get?_push_size _ rfl)
  show _ ∧ _
  rw [n2, n3, n4] at g5
  rw [n1, n2] at g3
  rw [n3] at g4
  rw [n1] at g2
  rw [n4]
  exact ⟨⟨_, g5, rfl⟩, h _ ⟨g5, g3, ⟨_, _, g4⟩, ⟨_, g1, rfl, rfl⟩, ⟨_, g2, rfl, rfl⟩⟩ fun c o e => on1 c o (Heap.get?_push_of_some _ e)⟩
end
def ItzM (K : PySem.W.Frag) (a c : Addr) : It :=
  ⟨fun i H => ∃ (xs ys : List V) (x y : V), SqT K H a xs ∧ SqL K H c ys ∧ xs[i]? = some x ∧ ys[i]? = some y,
    fun i H v H' => ∃ T x y, v = .ref T ∧ H T = none ∧ H' = upd H T (.tup [x, y]) ∧ (∀ xs, SqT K H a xs → xs[i]? = some x) ∧ ∀ ys, SqL K H c ys → ys[i]? = some y,
    fun i H => ∃ xs ys : List V, SqT K H a xs ∧ SqL K H c ys ∧ (xs.length ≤ i ∨ ys.length ≤ i)⟩
theorem turn_zm {P : Program} {w : World} {K : PySem.W.Frag} {elts : List Expr} {kk : Nat} {tpos : Pos} {a b z TI TO i1 i2 : Addr} (D : ZipApart z TI TO i1 i2 a b) :
    Turn P w K (.Tuple elts kk tpos) (ItzM K a b) [z, TI, TO, i1, i2] z (fun i h => Zst true false h z TI TO i1 i2 a b i) where
  mem := by simp
  obj := fun i h st c hc => by
    obtain ⟨hz, hTI, ⟨x, y, hTO⟩, h1, h2⟩ := st
    obtain ⟨o1, e1, _, d1⟩ := h1.obj
    obtain ⟨o2, e2, _, d2⟩ := h2.obj
    have e' : c = z ∨ c = TI ∨ c = TO ∨ c = i1 ∨ c = i2 := by simpa using hc
    rcases e' with q | q | q | q | q
    · rw [q]; exact ⟨_, hz, fun v q => nomatch q⟩
    · rw [q]; exact ⟨_, hTI, fun v q => nomatch q⟩
    · rw [q]; exact ⟨_, hTO, fun v q => nomatch q⟩
    · rw [q]; exact ⟨o1, e1, fun v q => by rw [d1] at q; cases q⟩
    · rw [q]; exact ⟨o2, e2, fun v q => by rw [d2] at q; cases q⟩
  keep := fun i h h' st k => ⟨k z (by simp) _ st.z, k TI (by simp) _ st.ti, let ⟨x, y, q⟩ := st.to; ⟨x, y, k TO (by simp) _ q⟩, st.one.mv fun o q => k i1 (by simp) o q, st.two.mv fun o q => k i2 (by simp) o q⟩
  item := by
    intro X hP hw hK hc i pins s σ H E I hf st hg
    subst hP hw hK
    obtain ⟨xs, ys, x, y, hqx, hqy, hx, hy⟩ := hg
    obtain ⟨its, rv, p, _⟩ := I.tuple hqx
    obtain ⟨its2, rv2, p2, _⟩ := I.list hqy
    obtain ⟨u, hu, ru⟩ := rv.get hx
    obtain ⟨u2, hu2, ru2⟩ := rv2.get hy
    have hzl : z < s.heap.objs.size := Heap.lt_size st.z
    refine pyNextB_item D st (show SeB true s.heap a its.toArray from p) (show SeB false s.heap b its2.toArray from p2.isList) (x := u) (y := u2) (by simpa using hu) (by simpa using hu2) fun h' z' TO' h1' h2' hT hsz hk => ?_
    refine ⟨_, rfl, wpAny_letOwnedTupleGo_zip (s := { s with heap := h' }) z' fun h'' z'' sb => ?_⟩
    have hT2 : h''.get? s.heap.objs.size = some { cls := .type "tuple", data := .seq #[u, u2] } := (sb.2 _ (Nat.ne_of_gt hzl)).trans hT
    have hk2 : ∀ c o, c ∉ [z, TI, TO, i1, i2] → s.heap.get? c = some o → h''.get? c = some o := fun c o hb q => by
      simp only [List.mem_cons, List.not_mem_nil, or_false, not_or] at hb
      exact (sb.2 c hb.1).trans (hk c o hb.1 hb.2.2.1 hb.2.2.2.1 hb.2.2.2.2 q)
    have new : ObjOk X.prog X.w (upd H s.heap.objs.size (.tup [x, y])) h'' s.heap.objs.size (.tup [x, y]) :=
      ⟨by show 2 ≤ sizeLine; decide, [u, u2], .cons ru (.cons ru2 .nil), ⟨_, hT2, rfl, _, rfl⟩⟩
    have I1 : Inv X pins σ (upd H s.heap.objs.size (.tup [x, y])) { s with heap := h'' } := I.turnedNew (t' := s.toks) (ch := [z, TI, TO, i1, i2]) hk2 hf (Nat.le_refl _) new
    refine ⟨.ref s.heap.objs.size, _, I1, rfl, ⟨_, x, y, rfl, I.hok.fresh (Nat.le_refl _), rfl, fun l hl => by rw [I.tuple_inj hl hqx]; exact hx, fun l hl => by rw [I.list_inj hl hqy]; exact hy⟩, ⟨z'', ?_, ⟨u, u2, ?_⟩, ?_, ?_⟩, fun c hcm => ?_⟩
    · exact (sb.2 _ D.TIz).trans (hk _ _ D.TIz D.TITO D.TIi1 D.TIi2 st.ti)
    · exact (sb.2 _ D.TOz).trans TO'
    · exact h1'.mv fun o q => (sb.2 _ D.i1z).trans q
    · exact h2'.mv fun o q => (sb.2 _ D.i2z).trans q
    · have hlt : c < s.heap.objs.size := by
        have e' : c = z ∨ c = TI ∨ c = TO ∨ c = i1 ∨ c = i2 := by simpa using hcm
        rcases e' with q | q | q | q | q
        · rw [q]; exact hzl
        · rw [q]; exact Heap.lt_size st.ti
        · rw [q]; obtain ⟨_, _, e⟩ := st.to; exact Heap.lt_size e
        · rw [q]; exact st.one.lt
        · rw [q]; exact st.two.lt
      rw [upd_ne (Nat.ne_of_lt hlt)]
      exact (hf c hcm).1
  done := by
    intro X hP hw hK hc i pins s σ H E I hf st hg
    subst hP hw hK
    obtain ⟨xs, ys, hqx, hqy, hend⟩ := hg
    obtain ⟨its, rv, p, _⟩ := I.tuple hqx
    obtain ⟨its2, rv2, p2, _⟩ := I.list hqy
    have l1 := rv.length
    have l2 := rv2.length
    have he : its.toArray[i]? = none ∨ its2.toArray[i]? = none := by
      rcases hend with q | q
      · exact .inl (by simp; omega)
      · exact .inr (by simp; omega)
    refine pyNextB_end (I.ok.hd hc) D st (show SeB true s.heap a its.toArray from p) (show SeB false s.heap b its2.toArray from p2.isList) he fun h' hk => ⟨rfl, I.turnedL (t' := s.toks) (ch := [z, TI, TO, i1, i2]) (fun c o hb q => ?_) hf⟩
    simp only [List.mem_cons, List.not_mem_nil, or_false, not_or] at hb
    exact hk c o hb.1 hb.2.2.1 hb.2.2.2.1 hb.2.2.2.2 q
  self := fun A i s Q E st h => wpAny_pyIter_zip st.z h
def iZipM (K : PySem.W.Frag) (ta : TA) : TI := fun σ H R => ta σ H fun vs H1 => ∃ a b xs ys, vs = [.ref a, .ref b] ∧ SqT K H1 a xs ∧ SqL K H1 b ys ∧ R (ItzM K a b) H1
theorem pi_zm {X : Cx} {e e2 : Expr} {ta : TA} {p pos tpos : Pos} {elts : List Expr} {kk : Nat} (hg : Gl X "zip") (hm : X.mg "zip" = none) (ha : PA X [e, e2] ta)
    (hs : starEach [e, e2] X.env = (false, eval e X.env) :: starEach [e2] X.env := by rfl) (hpl : (backTo pos (starEach [e2] X.env)).any (·.1) = false := by rfl) :
    PI X (.Tuple elts kk tpos) (.Call (.Name "zip" p) [e, e2] [] pos) (iZipM X.K ta) := by
  refine ⟨fun pins s σ H R I h => ?_⟩
  refine Call_ (ld_blt I hg hm PyProof.Rows.boot_zip (PyProof.Rows.callWith_type1 (thn (ha.run pos pins s σ H _ I h) fun us s1 ⟨vs, H1, I1, r1, q1⟩ => ?_) hs hpl))
  obtain ⟨a, b, xs, ys, ex, hqx, hqy, q⟩ := q1
  subst ex
  cases r1 with
  | cons r rr =>
    cases rr with
    | cons r' rr =>
      cases rr
      cases r
      cases r'
      obtain ⟨its, rv, p1, _⟩ := I1.tuple hqx
      obtain ⟨its2, rv2, p2, _⟩ := I1.list hqy
      obtain ⟨o1, ho1, _⟩ := id p1
      refine call_zm (show s1.heap.IsTuple a its.toArray from p1) p2.isList fun h' st hk => wpAny_pyIter_zip st.z ?_
      have I2 : Inv X pins σ H1 { s1 with heap := h' } := I1.kept (t' := s1.toks) hk
      refine ⟨s1.heap.objs.size + 4, [s1.heap.objs.size + 4, s1.heap.objs.size + 2, s1.heap.objs.size + 3, s1.heap.objs.size, s1.heap.objs.size + 1], _, _, H1, rfl, I2, turn_zm (PySem.W.ktu_apart s1.heap.objs.size a b (Heap.lt_size ho1) p2.lt), st, fun c hcm => ?_, q⟩
      have e' : c = s1.heap.objs.size + 4 ∨ c = s1.heap.objs.size + 2 ∨ c = s1.heap.objs.size + 3 ∨ c = s1.heap.objs.size ∨ c = s1.heap.objs.size + 1 := by simpa using hcm
      have hle : s1.heap.objs.size ≤ c := by
        rcases e' with z | z | z | z | z
        · rw [z]; exact Nat.le_add_right _ _
        · rw [z]; exact Nat.le_add_right _ _
        · rw [z]; exact Nat.le_add_right _ _
        · rw [z]; exact Nat.le_refl _
        · rw [z]; exact Nat.le_add_right _ _
      exact I1.fpOk hle (I1.hok.fresh hle)
end Z
set_option Elab.async false
set_option linter.all false
set_option maxRecDepth 100000
set_option maxHeartbeats 1000000
namespace Z
open PySem PySem.Spec PyProof.Rows L2 HT
section
variable {prog : Program} {w : World} {A : Around} {E : Value → Shared → Prop} {s : Shared}
theorem applied_step {sl : Addr} {vl vu vs : Value} {lo hi : Option Int} {c : Int} {n : Nat} {Q : Int × Int × Nat → Shared → Prop} (hs : s.heap.IsSliceOf sl vl vu vs) (pl : IsPart vl lo) (pu : IsPart vu hi) (ps : IsPart vs (some c)) (h0 : c ≠ 0)
    (h : Q ((Builtin.Slice.sliceAdjust lo hi c (n : Int)).1, c, Builtin.Slice.slicePlaces (Builtin.Slice.sliceAdjust lo hi c (n : Int)).1 (Builtin.Slice.sliceAdjust lo hi c (n : Int)).2 c) s) : wpAny (model prog w) A (Builtin.Slice.sliceApplied (.ref sl) (pure (n : Int))) Q E s := by
  obtain ⟨os, hos, hcs, hds⟩ := id hs
  unfold Builtin.Slice.sliceApplied Builtin.Slice.sliceFields
  refine wpAny_bind (wpAny_bind (wpAny_field hos hds (x := vl) rfl (wpAny_bind (wpAny_field hos hds (x := vu) rfl (wpAny_bind (wpAny_field hos hds (x := vs) rfl (wpAny_pure ?_)))))))
  refine wpAny_bind (slicePart_ ps ?_)
  show wpAny _ _ (if (c == 0) = true then _ else _) _ _ s
  rw [if_neg (by simpa using h0)]
  refine wpAny_bind (slicePart_ pl (wpAny_bind (slicePart_ pu (wpAny_bind (wpAny_pure ?_)))))
  exact wpAny_pure h
def wholeB (lo hi : Option Int) (c : Int) (n : Nat) : Bool := (Builtin.Slice.sliceAdjust lo hi c (n : Int)).1 == 0 && c == 1 && Builtin.Slice.slicePlaces (Builtin.Slice.sliceAdjust lo hi c (n : Int)).1 (Builtin.Slice.sliceAdjust lo hi c (n : Int)).2 c == n
theorem sl_range {α : Type} : ∀ l : List α, (List.range l.length).filterMap (fun m => l[m]?) = l
  | [] => rfl
  | x :: r => by
    rw [List.length_cons, List.range_succ_eq_map, List.filterMap_cons]
    refine (show x :: ((List.range r.length).map Nat.succ).filterMap (fun m => (x :: r)[m]?) = x :: r from ?_)
    rw [List.filterMap_map]
    exact congrArg _ (sl_range r)
theorem pick_whole {α : Type} {lo hi : Option Int} {c : Int} (xs : List α) (h : wholeB lo hi c xs.length = true) : pick xs (plcs xs.length lo hi c) = xs := by
  unfold wholeB at h
  rw [Bool.and_eq_true, Bool.and_eq_true] at h
  have e1 := eq_of_beq h.1.1
  have e2 := eq_of_beq h.1.2
  have e3 := eq_of_beq h.2
  unfold plcs pick
  rw [List.filterMap_map, e3]
  refine Eq.trans ?_ (sl_range xs)
  congr 1
  funext m
  show xs[((Builtin.Slice.sliceAdjust lo hi c (xs.length : Int)).1 + (m : Int) * c).toNat]? = xs[m]?
  rw [e1, e2, Int.zero_add, Int.mul_one, Int.toNat_natCast]
theorem getItem_tup_step {t sl : Addr} {items : Array Value} {vl vu vs : Value} {lo hi : Option Int} {c : Int} {Q : Value → Shared → Prop} (ht : IsTup s.heap t items) (hs : s.heap.IsSliceOf sl vl vu vs) (pl : IsPart vl lo) (pu : IsPart vu hi) (ps : IsPart vs (some c)) (h0 : c ≠ 0)
    (h : wholeB lo hi c items.size = false → Q (.ref s.heap.objs.size) { s with heap := s.heap.push { cls := .type "tuple", data := .seq (pick items.toList (plcs items.size lo hi c)).toArray } }) (hw : wholeB lo hi c items.size = true → Q (.ref t) s)
    (hsz : (pick items.toList (plcs items.size lo hi c)).length ≤ sizeLine) : wpAny (model prog w) A (getItem (.ref t) (.ref sl)) Q E s := by
  have htake : sizeOk (.seq (pick items.toList (plcs items.size lo hi c)).toArray) := by
    show (pick items.toList (plcs items.size lo hi c)).toArray.size ≤ sizeLine
    rw [List.size_toArray]; exact hsz
  obtain ⟨os, hos, hcs, hds⟩ := id hs
  have hTs : s.TypeIs (.ref sl) "slice" := ⟨os, hos, hcs⟩
  unfold getItem
  try with_reducible refine wpAny_holding ?_
  first | refine wpAny_bind (wpAny_pure ?_) | skip
  refine wpAny_bind (wpAny_sequenceKey ht.typeIs (by decide) ?_)
  refine wpAny_bind (wpAny_callSpecial?_slot (name := Str.ofString "__getitem__") ht.typeIs PyProof.Rows.slot_tuple_getitem
    (wpAny_call_entry PyProof.Rows.slot_tuple_getitem ht.typeIs entry_tuple_getitem ?_ (args_tuple_getitem _ _)))
  show wpAny _ _ (Builtin.Tuple.tupleItemsOf (.ref t) >>= _) _ _ s
  refine wpAny_bind (tupleItemsOf_ ht ?_)
  refine wpAny_bind (wpAny_typeOf hTs ?_)
  rw [if_pos (by decide)]
  refine wpAny_bind (applied_step hs pl pu ps h0 ?_)
  have ep : ∀ (a : Int) (k : Nat), ((List.range k).filterMap fun (m : Nat) => items[(a + (m : Int) * c).toNat]?) = pick items.toList ((List.range k).map fun m : Nat => (a + (m : Int) * c).toNat) := fun a k => by
    unfold pick
    rw [List.filterMap_map]
    congr 1
    funext m
    show _ = items.toList[(a + (m : Int) * c).toNat]?
    rw [Array.getElem?_toList]
  have e1 : pick items.toList (plcs items.size lo hi c) = (List.range (Builtin.Slice.slicePlaces (Builtin.Slice.sliceAdjust lo hi c (items.size : Int)).1 (Builtin.Slice.sliceAdjust lo hi c (items.size : Int)).2 c)).filterMap fun (m : Nat) => items[((Builtin.Slice.sliceAdjust lo hi c (items.size : Int)).1 + (m : Int) * c).toNat]? := by
    rw [ep]; rfl
  rw [e1] at h htake
  unfold wholeB at h hw
  generalize (Builtin.Slice.sliceAdjust lo hi c (items.size : Int)).1 = a at *
  generalize Builtin.Slice.slicePlaces a (Builtin.Slice.sliceAdjust lo hi c (items.size : Int)).2 c = k at *
  show wpAny _ _ (if (a == 0 && c == 1 && k == items.size) = true then _ else _) _ _ s
  cases hb : (a == 0 && c == 1 && k == items.size) with
  | false =>
    have h := h hb
    rw [if_neg Bool.false_ne_true]
    first
      | exact wpAny_bind (m := Builtin.Tuple.tupleExact _) (wpAny_newObj_type (wpAny_pure ⟨_, rfl, wpAny_pure h⟩) htake)
      | exact wpAny_bind (m := Builtin.Tuple.tupleExact _) (wpAny_newObj_type (wpAny_bind (wpAny_pure (wpAny_pure ⟨_, rfl, wpAny_pure h⟩))) htake)
  | true =>
    have h := hw hb
    rw [if_pos rfl]
    refine wpAny_bind ?_
    refine (show wpAny _ _ (typeOf (.ref t) >>= fun T => pure (T == .type "tuple")) _ _ s from wpAny_bind (wpAny_typeOf ht.typeIs (wpAny_pure ?_)))
    first
      | rw [if_pos (by decide)]
      | simp only [beq_self_eq_true, if_true]
    first
      | exact wpAny_bind (wpAny_rule (wpAny_pure ⟨_, rfl, wpAny_pure h⟩))
      | exact wpAny_bind (wpAny_rule (wpAny_bind (wpAny_pure (wpAny_pure ⟨_, rfl, wpAny_pure h⟩))))
end
theorem vals_pick {xs : List V} {us : List Value} (r : Vals xs us) : ∀ is : List Nat, Vals (pick xs is) (pick us is)
  | [] => .nil
  | i :: is => by
    unfold pick
    rw [List.filterMap_cons, List.filterMap_cons]
    cases hx : xs[i]? with
    | none =>
      have : us[i]? = none := by
        rw [List.getElem?_eq_none_iff] at hx ⊢
        rw [← r.length]; exact hx
      rw [this]
      exact vals_pick r is
    | some x =>
      obtain ⟨u, hu, ru⟩ := r.get hx
      rw [hu]
      exact .cons ru (vals_pick r is)
section
variable {X : Cx}
def tSst (K : PySem.W.Frag) (te : TE) (tl th ts : TO) : TE := fun σ H Q => te σ H fun x H1 => tl σ H1 fun ol H2 => th σ H2 fun oh H3 => ts σ H3 fun os H4 => ∃ a xs c, x = .ref a ∧ os = some c ∧ c ≠ 0 ∧ SqT K H4 a xs ∧ (pick xs (plcs xs.length ol oh c)).length ≤ sizeLine ∧ (wholeB ol oh c xs.length = true → Q (.ref a) H4) ∧
  ∀ p, H4 p = none → Q (.ref p) (upd H4 p (.tup (pick xs (plcs xs.length ol oh c))))
theorem pe_sst {e : Expr} {te : TE} {lo hi : Option Expr} {st : Expr} {tl th ts : TO} {p3 pos : Pos} (he : PE X e te) (hl : PO X lo tl) (hh : PO X hi th) (hs : PO X (some st) ts) : PE X (.Subscript e (.Slice lo hi (some st) p3) pos) (tSst X.K te tl th ts) := by
  refine ⟨fun pins s σ H Q I h => ?_⟩
  refine Subscript_ (thn (he.run pins s σ H _ I h) fun v s1 ⟨x, H1, I1, r1, q1⟩ => ?_)
  refine wpAny_Slice (thn (hl.run pins s1 σ H1 _ I1 q1) fun vl s2 ⟨ol, H2, I2, pl, q2⟩ => ?_)
  refine thn (hh.run pins s2 σ H2 _ I2 q2) fun vu s3 ⟨oh, H3, I3, pu, q3⟩ => ?_
  refine thn (hs.run pins s3 σ H3 _ I3 q3) fun vs s4 ⟨os, H4, I4, ps, q4⟩ => ?_
  obtain ⟨a, xs, c, ex, eo, h0, hx, hz, qw, q⟩ := q4
  subst ex eo
  cases r1
  have I5 : Inv X pins σ H4 { s4 with heap := s4.heap.push { cls := .type "slice", data := .fields #[vl, vu, vs] } } := I4.kept (t' := s4.toks) fun b ob q => Heap.get?_push_of_some _ q
  obtain ⟨its, r, ht, hzz⟩ := I5.tuple hx
  have hlen : its.toArray.size = xs.length := by rw [List.size_toArray]; exact r.length.symm
  have rp := vals_pick r (plcs xs.length ol oh c)
  show wpAny (model X.prog X.w) X.A (subscriptTail e (.Slice lo hi (some st) p3) (.ref a) (.ref s4.heap.objs.size)) (EP X pins σ Q) X.xe { s4 with heap := s4.heap.push { cls := .type "slice", data := .fields #[vl, vu, vs] } }
  refine tail_any (ops := [.ref a, .ref s4.heap.objs.size]) ht.typeIs (PyProof.Rows.slot_tuple_getitem.lookup) ?_ (by with_unfolding_all rfl)
  refine getItem_tup_step ht (Heap.IsSliceOf.new _ vl vu vs) pl pu ps h0 ?_ ?_ ?_
  · rw [hlen]
    intro _
    refine ⟨.ref _, _, I5.laid (t' := s4.toks) (o := .tup (pick xs (plcs xs.length ol oh c))) (fun b ob q => Heap.get?_push_of_some _ q) (Nat.le_refl _) ?_, rfl, q _ (I5.hok.fresh (Nat.le_refl _))⟩
    exact ⟨hz, _, rp, IsTup.new _ _⟩
  · rw [hlen]
    intro hb
    exact ⟨.ref a, H4, I5, rfl, qw hb⟩
  · rw [hlen]
    have := rp.length
    show (pick its (plcs xs.length ol oh c)).length ≤ _
    omega
end
end Z
set_option Elab.async false
set_option linter.all false
set_option maxRecDepth 100000
set_option maxHeartbeats 1000000
namespace Z
open PySem PySem.Spec PyProof.Rows L2 PySem.W
def tpD (p : Int × PyData) : PyData := .tuple [.int p.1, p.2]
theorem lt_first {p q : Int × PyData} (h : p.1 < q.1) : dataLt (tpD p) (tpD q) = true := by
  show PyProof.Rows.lexLt itemOrd (.inl 1 :: (.inl p.1 :: _)) (.inl 1 :: (.inl q.1 :: _)) = true
  rw [PyProof.Rows.lex_cons, PyProof.Rows.lex_cons]
  show (decide ((1 : Int) < 1) || (!decide ((1 : Int) < 1) && (decide (p.1 < q.1) || _))) = true
  rw [decide_eq_true h]; rfl
theorem not_lt_first {p q : Int × PyData} (h : q.1 < p.1) : dataLt (tpD p) (tpD q) = false := by
  show PyProof.Rows.lexLt itemOrd (.inl 1 :: (.inl p.1 :: _)) (.inl 1 :: (.inl q.1 :: _)) = false
  rw [PyProof.Rows.lex_cons, PyProof.Rows.lex_cons]
  show (decide ((1 : Int) < 1) || (!decide ((1 : Int) < 1) && (decide (p.1 < q.1) || (!decide (q.1 < p.1) && _)))) = false
  rw [decide_eq_true h, decide_eq_false (show ¬ p.1 < q.1 by omega)]; simp
theorem minD_first : ∀ (ps : List (Int × PyData)) (p : Int × PyData), ∃ m, m ∈ p :: ps ∧ minD (tpD p) (ps.map tpD) = tpD m ∧ ∀ q ∈ p :: ps, m.1 ≤ q.1
  | [], p => ⟨p, List.mem_cons_self, rfl, fun q hq => by rw [List.mem_singleton.mp hq]; exact Int.le_refl _⟩
  | q :: ps, p => by
    have e : minD (tpD p) ((q :: ps).map tpD) = minD (if dataLt (tpD q) (tpD p) then tpD q else tpD p) (ps.map tpD) := rfl
    rw [e]
    by_cases h : dataLt (tpD q) (tpD p) = true
    · rw [if_pos h]
      obtain ⟨m, h1, h2, h3⟩ := minD_first ps q
      have hqp : q.1 ≤ p.1 := by
        by_cases z : p.1 < q.1
        · rw [not_lt_first z] at h; cases h
        · omega
      refine ⟨m, List.mem_cons_of_mem _ h1, h2, fun r hr => ?_⟩
      rcases List.mem_cons.mp hr with rfl | hr
      · exact Int.le_trans (h3 q List.mem_cons_self) hqp
      · exact h3 r hr
    · rw [if_neg h]
      obtain ⟨m, h1, h2, h3⟩ := minD_first ps p
      have hpq : p.1 ≤ q.1 := by
        by_cases z : q.1 < p.1
        · exact absurd (lt_first z) h
        · omega
      refine ⟨m, ?_, h2, fun r hr => ?_⟩
      · rcases List.mem_cons.mp h1 with e | e
        · rw [e]; exact List.mem_cons_self
        · exact List.mem_cons_of_mem _ (List.mem_cons_of_mem _ e)
      · rcases List.mem_cons.mp hr with rfl | hr
        · exact h3 r List.mem_cons_self
        · rcases List.mem_cons.mp hr with rfl | hr
          · exact Int.le_trans (h3 p List.mem_cons_self) hpq
          · exact h3 r (List.mem_cons_of_mem _ hr)
theorem canLay_mem : ∀ {ds : List PyData} {d : PyData}, PyData.canLayAll0 ds = true → d ∈ ds → d.canLay0 = true
  | [], _, _, h => by cases h
  | x :: xs, d, h, hd => by
    have h : (x.canLay0 && PyData.canLayAll0 xs) = true := by simpa [PyData.canLayAll0] using h
    rw [Bool.and_eq_true] at h
    rcases List.mem_cons.mp hd with rfl | hd
    · exact h.1
    · exact canLay_mem h.2 hd
def rMinT (K : PySem.W.Frag) : List V → Hp → VK → Prop := fun xs H Q => ∃ (a : Addr) (vs : List V) (ps : List (Int × PyData)), xs = [.ref a] ∧ SqL K H a vs ∧ DpAll K H vs (ps.map tpD) ∧ ps ≠ [] ∧ SeqAt.shaped (.list (ps.map tpD)) = true ∧ AlikeAll (ps.map tpD) ∧
  ∀ (i : Nat) (v : V) (p : Int × PyData), vs[i]? = some v → ps[i]? = some p → (∀ q ∈ ps, p.1 ≤ q.1) → Q v H
theorem call_minT {X : Cx} (hc : X.calm = true) (hu : X.A.units + 65 < cLine) : CallR X (.builtin "min") (rMinT X.K) := by
  intro pins s σ H xs us Q I r h
  obtain ⟨a, vs, ps, rfl, hs, hd, hne, hsh, hal, q⟩ := h
  obtain ⟨its, rv, hl, _⟩ := I.list hs
  rw [Vals.ref1 r]
  obtain ⟨as, h4⟩ := Dp.readsAll I _ _ its hd rv
  have hlay : PyData.canLayAll0 (ps.map tpD) = true := SeqAt.canLay_of_shaped hsh
  have hdep : PyData.depthAll (ps.map tpD) ≤ 63 := by
    have h2 := of_decide_eq_true (Bool.and_eq_true_iff.mp hsh).2
    have h3 : (PyData.list (ps.map tpD)).depth = PyData.depthAll (ps.map tpD) + 1 := by simp [PyData.depth]
    omega
  cases ps with
  | nil => exact absurd rfl hne
  | cons p ps =>
    have hr : ReadsAll s.heap its.toArray.toList (tpD p :: ps.map tpD) as := h4
    refine min_list_data (I.ok.hd hc) hl.isList hr hal (by have : PyData.depthAll (tpD p :: ps.map tpD) ≤ 63 := hdep; omega) fun i v h' tk bs hv hm hk => ?_
    have hv' : its[i]? = some v := by simpa using hv
    have hi : i < its.length := (List.getElem?_eq_some_iff.mp hv').1
    have hi2 : i < vs.length := by rw [rv.length]; exact hi
    obtain ⟨u, hu', ru⟩ := rv.get (List.getElem?_eq_getElem hi2)
    rw [hv'] at hu'
    obtain rfl : v = u := Option.some.inj hu'
    obtain ⟨bs', rd, hlt, hmem, _⟩ := readsAll_atA hr i v hv
    obtain ⟨m, m1, m2, m3⟩ := minD_first ps p
    rw [m2] at hm
    have e := SeqAt.Reads.unique _ _ _ _ _ (canLay_mem hlay hmem) (reads_keeps hk rd) hm
    have hip : i < (p :: ps).length := by
      have : i < (tpD p :: ps.map tpD).length := hlt
      rw [List.length_cons, List.length_map] at this
      exact this
    have e2 : (tpD p :: ps.map tpD).getD i .none = tpD (p :: ps)[i] := by
      show ((p :: ps).map tpD).getD i .none = _
      rw [List.getD_eq_getElem?_getD, List.getElem?_map, List.getElem?_eq_getElem hip]; rfl
    rw [e2] at e
    have e3 : (p :: ps)[i].1 = m.1 := by
      unfold tpD at e
      simp only [PyData.tuple.injEq, List.cons.injEq, PyData.int.injEq] at e
      exact e.1
    exact ⟨_, H, I.kept (t' := tk) hk, ru, q i _ _ (List.getElem?_eq_getElem hi2) (List.getElem?_eq_getElem hip) fun r hr => by rw [e3]; exact m3 r hr⟩
end Z
set_option Elab.async false
set_option linter.all false
set_option maxRecDepth 100000
set_option maxHeartbeats 1000000
namespace Z
open PySem PySem.Spec PyProof.Rows L2
section
variable {prog : Program} {w : World} {A : Around} {E : Value → Shared → Prop} {s : Shared} {l : Addr} {vs : List Value}
theorem tm_int {ns : List Int} {us : List Value} (r : Vals (ns.map V.int) us) (i : Nat) (v : Value) (h : us.toArray[i]? = some v) : ∃ t, v = .int (ns.getD i 0) t := by
  have h2 : us[i]? = some v := by simpa using h
  have hl := r.length
  rw [List.length_map] at hl
  have hi : i < ns.length := by rw [hl]; exact (List.getElem?_eq_some_iff.mp h2).1
  obtain ⟨u, hu, t, e⟩ := r.get (i := i) (x := .int ns[i]) (by rw [List.getElem?_map, List.getElem?_eq_getElem hi]; rfl)
  rw [hu] at h2
  obtain rfl := Option.some.inj h2
  exact ⟨t, by rw [e, List.getD_eq_getElem?_getD, List.getElem?_eq_getElem hi]; rfl⟩
theorem tm_in {ns : List Int} {i : Nat} (h : i < ns.length) : ns.getD i 0 ∈ ns := by
  rw [List.getD_eq_getElem?_getD, List.getElem?_eq_getElem h]
  exact List.getElem_mem h
theorem tm_of {ns : List Int} {x : Int} (h : x ∈ ns) : ∃ i, i < ns.length ∧ ns.getD i 0 = x := by
  obtain ⟨i, hi, e⟩ := List.mem_iff_getElem.mp h
  exact ⟨i, hi, by rw [List.getD_eq_getElem?_getD, List.getElem?_eq_getElem hi, ← e]; rfl⟩
end
def rMinTI (K : PySem.W.Frag) : List V → Hp → VK → Prop := fun vs H Q => ∃ (a : Addr) (ns : List Int), vs = [V.ref a] ∧ SqT K H a (ns.map V.int) ∧ 0 < ns.length ∧ ∀ m, m ∈ ns → (∀ y, y ∈ ns → m ≤ y) → Q (.int m) H
def rMaxTI (K : PySem.W.Frag) : List V → Hp → VK → Prop := fun vs H Q => ∃ (a : Addr) (ns : List Int), vs = [V.ref a] ∧ SqT K H a (ns.map V.int) ∧ 0 < ns.length ∧ ∀ m, m ∈ ns → (∀ y, y ∈ ns → y ≤ m) → Q (.int m) H
def rSortedTI (K : PySem.W.Frag) : List V → Hp → VK → Prop := fun vs H Q => ∃ (a : Addr) (ns : List Int), vs = [V.ref a] ∧ SqT K H a (ns.map V.int) ∧
  ∀ (ns' : List Int) (p : Addr), ns'.Perm ns → ns'.Pairwise (· ≤ ·) → H p = none → Q (.ref p) (upd H p (.lst (ns'.map V.int)))
section
variable {X : Cx}
theorem tm_lt {h : Heap} {a : Addr} {items : Array Value} (hl : h.IsTuple a items) : a < h.objs.size := by obtain ⟨_, e, _⟩ := hl; exact Heap.lt_size e
theorem tm_fp {h : Heap} {a : Addr} {o : Obj} (hlt : a < h.objs.size) : ∀ b ∈ [h.objs.size, a], b < (h.push o).objs.size := fun b hb => by
  rw [Heap.size_push]
  simp only [List.mem_cons, List.not_mem_nil, or_false] at hb
  rcases hb with rfl | rfl
  · exact Nat.lt_succ_self _
  · exact Nat.lt_succ_of_lt hlt
theorem tm_keep {h h' : Heap} {o : Obj} (hk : ∀ b u, b ∉ [h.objs.size] → (h.push o).get? b = some u → h'.get? b = some u) : ∀ b u, h.get? b = some u → h'.get? b = some u := fun b u e =>
  hk b u (fun hm => absurd (Heap.lt_size e) (by rw [List.mem_singleton.mp hm]; exact Nat.lt_irrefl _)) (Heap.get?_push_of_some _ e)
theorem cr_minTI (hc : X.calm = true) : CallR X (.builtin "min") (rMinTI X.K) := by
  intro pins s σ H vs us Q I r h
  obtain ⟨a, ns, rfl, hs, hne, q⟩ := h
  obtain ⟨its, rv, p, _⟩ := I.tuple hs
  have hl : s.heap.IsTuple a its.toArray := p
  rw [Vals.ref1 r]
  have hlen := rv.length
  rw [List.length_map] at hlen
  refine call_min_walk (wpAny_pyIter_tuple hl ?_)
  refine ⟨_, _, _, _, _, _, _, rfl, Walks.tuple (A := X.A.in1) (I.ok.hd hc) s.heap.objs.size a (Nat.ne_of_lt (tm_lt hl)) its.toArray, ⟨⟨_, Heap.get?_push_size _ rfl, rfl, rfl⟩, hl.push _⟩, tm_fp (tm_lt hl),
    by rw [List.size_toArray]; omega, CmpOf.ints_lt (fun i => ns.getD i 0) (tm_int rv), fun v h' tk hP hk => ?_⟩
  obtain ⟨t, rfl⟩ := tm_int rv _ v hP
  obtain ⟨b1, b2⟩ := argBest_lt (fun i => ns.getD i 0) (its.toArray.size - 1)
  have hz : its.toArray.size = ns.length := by rw [List.size_toArray]; omega
  refine ⟨.int _, H, I.kept (t' := tk) (tm_keep hk), ⟨t, rfl⟩, q _ (tm_in (by omega)) fun y hy => ?_⟩
  obtain ⟨i, hi, rfl⟩ := tm_of hy
  exact b2 i (by omega)
theorem cr_maxTI (hc : X.calm = true) : CallR X (.builtin "max") (rMaxTI X.K) := by
  intro pins s σ H vs us Q I r h
  obtain ⟨a, ns, rfl, hs, hne, q⟩ := h
  obtain ⟨its, rv, p, _⟩ := I.tuple hs
  have hl : s.heap.IsTuple a its.toArray := p
  rw [Vals.ref1 r]
  have hlen := rv.length
  rw [List.length_map] at hlen
  refine call_max_walk (wpAny_pyIter_tuple hl ?_)
  refine ⟨_, _, _, _, _, _, _, rfl, Walks.tuple (A := X.A.in1) (I.ok.hd hc) s.heap.objs.size a (Nat.ne_of_lt (tm_lt hl)) its.toArray, ⟨⟨_, Heap.get?_push_size _ rfl, rfl, rfl⟩, hl.push _⟩, tm_fp (tm_lt hl),
    by rw [List.size_toArray]; omega, CmpOf.ints_gt (fun i => ns.getD i 0) (tm_int rv), fun v h' tk hP hk => ?_⟩
  obtain ⟨t, rfl⟩ := tm_int rv _ v hP
  obtain ⟨b1, b2⟩ := argBest_gt (fun i => ns.getD i 0) (its.toArray.size - 1)
  have hz : its.toArray.size = ns.length := by rw [List.size_toArray]; omega
  refine ⟨.int _, H, I.kept (t' := tk) (tm_keep hk), ⟨t, rfl⟩, q _ (tm_in (by omega)) fun y hy => ?_⟩
  obtain ⟨i, hi, rfl⟩ := tm_of hy
  exact b2 i (by omega)
end
section
variable {prog : Program} {w : World} {A : Around} {E : Value → Shared → Prop} {s : Shared}
theorem tm_collect {l : Addr} {xs : List Value} {Q : List Value → Shared → Prop} (p : s.heap.IsTuple l xs.toArray) (hz : xs.length ≤ sizeLine)
    (q : Q xs { s with heap := (s.heap.push (seqObj "list" #[] 0)).update s.heap.objs.size (Obj.mapSeq (· ++ xs.toArray)) }) : wpAny (model prog w) A (collect (.ref l)) Q E s := by
  obtain ⟨ob, e1, e2, k, e3⟩ := id p
  have e4 : (s.heap.push (seqObj "list" #[] 0)).get? l = some ob := Heap.get?_push_of_some _ e1
  unfold collect
  refine wpAny_bind (wpAny_runValue (codeAny_builtin entry_proto_collect' ?_))
  refine (show wpAny _ _ (do again (.builtin "list.__iadd__" ⟨[← newList [], .ref l], []⟩)) _ _ s from wpAny_bind (wpAny_newList (wpAny_pure ⟨Code.quiet_builtin _ (by decide +kernel), codeAny_builtin entry_list_iadd' ?_⟩)))
  refine (show wpAny _ _ (Builtin.List.listExtendWith (.ref s.heap.objs.size) (.ref l) (.ref s.heap.objs.size)) _ _ { s with heap := s.heap.push (seqObj "list" #[] 0) } from ?_)
  unfold Builtin.List.listExtendWith
  refine wpAny_bind (wpAny_typeOf (T := "tuple") ⟨ob, e4, e2⟩ ?_)
  rw [if_pos (by rw [show (Value.type "tuple" == Value.type "tuple") = true from rfl, Bool.or_true])]
  refine wpAny_bind ((listItems_at e4 e3) ?_)
  refine wpAny_bind ((listItems_at (n := 0) (xs := #[]) (Heap.get?_push_size _ rfl) rfl) ?_)
  rw [if_neg (by simp)]
  have hsz : ((#[] : Array Value) ++ xs.toArray).size ≤ sizeLine + 1 := by
    rw [Array.size_append, List.size_toArray]
    refine (show 0 + xs.length ≤ sizeLine + 1 from ?_)
    omega
  refine wpAny_bind (listUpdate_at (n := 0) (xs := #[]) (Heap.get?_push_size _ rfl) rfl ?_ (Nat.zero_le _) hsz)
  refine wpAny_pure ?_
  refine (show wpAny (model prog w) A (load s.heap.objs.size >>= fun o => match o.data with
      | .seq ys _ => pure ys.toList
      | _ => unsupported "internal:collect") Q E { s with heap := (s.heap.push (seqObj "list" #[] 0)).update s.heap.objs.size (Obj.mapSeq (· ++ xs.toArray)) } from wpAny_bind (wpAny_load (get?_update_seq (Heap.get?_push_size _ rfl) _) ?_))
  have ez : ((#[] : Array Value) ++ xs.toArray).toList = xs := by simp
  refine (show wpAny _ _ (pure ((#[] : Array Value) ++ xs.toArray).toList) Q E _ from ?_)
  rw [ez]
  exact wpAny_pure q
open SrtO in
theorem tm_sorted {l : Addr} {xs : List Value} {lt : Value → Value → Bool} {Q : Value → Shared → Prop} (O : Swo lt) (p : s.heap.IsTuple l xs.toArray) (hz : xs.length ≤ sizeLine)
    (hS : 2 ≤ xs.length → ∀ (h₁ : Heap) (a : Addr), SortableO prog w A.in1.in1 { s with heap := h₁ } a xs lt)
    (q : ∀ out : List Value, Srtd lt out → Stb lt out xs → Q (.ref (s.heap.objs.size + 1)) { s with heap := sortedAll s.heap xs out.toArray }) : wpAny (model prog w) A (call (.builtin "sorted") [.ref l]) Q E s := by
  refine Calls.call_function_entry kind_sorted plain_sorted entry_sorted (args_sorted1 _) ?_
  unfold Builtin.«sorted»
  refine wpAny_bind (m := checkCount "sorted" 1 1 _) (wpAny_pure (wpAny_bind (tm_collect p hz (wpAny_bind (wpAny_newList ?_ hz)))))
  have ez : ((s.heap.push (seqObj "list" #[] 0)).update s.heap.objs.size (Obj.mapSeq (· ++ xs.toArray))).objs.size = s.heap.objs.size + 1 := by rw [Heap.size_update, Heap.size_push]
  have eo : (((s.heap.push (seqObj "list" #[] 0)).update s.heap.objs.size (Obj.mapSeq (· ++ xs.toArray))).push (seqObj "list" xs.toArray 0)).get? (s.heap.objs.size + 1) = some (seqObj "list" xs.toArray 0) := by
    rw [← ez]
    exact Heap.get?_push_size _ rfl
  refine (show wpAny _ _ _ _ _ { s with heap := ((s.heap.push (seqObj "list" #[] 0)).update s.heap.objs.size (Obj.mapSeq (· ++ xs.toArray))).push (seqObj "list" xs.toArray 0) } from ?_)
  rw [ez]
  refine wpAny_bind (wpAny_holding (wpAny_call_entry slot_list_sort ⟨_, eo, rfl⟩ entry_list_sort (list_sort_ord O eo hz (fun h2 => hS h2 _ _) fun out k1 k2 => ⟨_, rfl, ?_⟩) (args_list_sort _)))
  exact wpAny_pure ⟨_, rfl, q out k1 k2⟩
end
section
variable {X : Cx}
theorem cr_sortedTI : CallR X (.builtin "sorted") (rSortedTI X.K) := by
  intro pins s σ H vs us Q I r h
  obtain ⟨a, ns, rfl, hs, q⟩ := h
  obtain ⟨its, rv, p, hz⟩ := I.tuple hs
  rw [Vals.ref1 r]
  have hi := rv.ints
  have hz' : its.length ≤ sizeLine := by rw [← rv.length]; exact hz
  refine tm_sorted SrtO.swo_int (show s.heap.IsTuple a its.toArray from p) hz' (fun h2 h₁ a' => SrtO.ints_sortable hi h2) fun out h1 h2 => ?_
  obtain ⟨k1, k2, k3⟩ := SrtO.ints_out hi h1 h2
  obtain ⟨ep, he'⟩ := PyProof.Rows.sortedAll_at s.heap its out.toArray
  have hlen : ((out.map SrtO.iv).map V.int).length ≤ sizeLine := by
    rw [List.length_map] at hz ⊢
    rw [k2.length_eq]
    exact hz
  refine ⟨V.ref _, upd H (s.heap.objs.size + 1) (.lst ((out.map SrtO.iv).map V.int)), ?_, rfl, q _ _ k2 k3 (I.hok.fresh (Nat.le_succ _))⟩
  exact I.laid (t' := s.toks) (fun _ _ => PyProof.Rows.sortedAll_old) (Nat.le_succ _) ⟨hlen, out, ep, vals_of_ints k1, he'⟩
end
end Z
namespace Z
open PySem PySem.Spec PyProof.Rows L2
def tLset (K : PySem.W.Frag) (ta : TE) : TE := fun σ H Q => ta σ H fun x H1 => ∃ (l : Addr) (ns : List Int), x = .ref l ∧ SqL K H1 l (ns.map V.int) ∧ ns.length ≤ 4000 ∧ Q (.int ((dist [] ns).length : Nat)) H1
theorem tm_dist (f : Nat → Int) : ∀ (ns : List Int) (k : Nat), (∀ i, i < ns.length → f (k + i) = ns.getD i 0) → PyProof.Rows.firstMet f (k + ns.length) = dist (PyProof.Rows.firstMet f k) ns
  | [], k, _ => rfl
  | x :: r, k, h => by
    have h0 : f k = x := h 0 (by simp)
    have ih := tm_dist f r (k + 1) fun i hi => by
      have := h (i + 1) (by simpa using hi)
      rw [show k + 1 + i = k + (i + 1) by omega, this]
      simp
    rw [List.length_cons, show k + (r.length + 1) = k + 1 + r.length by omega, ih]
    show dist (PyProof.Rows.firstMet f (k + 1)) r = dist (if (PyProof.Rows.firstMet f k).contains x then _ else _) r
    rw [PyProof.Rows.firstMet_succ]
    have e : ((PyProof.Rows.firstMet f k).any (· == f k)) = (PyProof.Rows.firstMet f k).contains x := by
      rw [h0, List.contains_eq_any_beq]
      congr 1
      funext z
      exact BEq.comm
    show dist (if ((PyProof.Rows.firstMet f k).any (· == f k)) = true then _ else PyProof.Rows.firstMet f k ++ [f k]) r = _
    rw [e, h0]
theorem tm_dlen : ∀ (ns acc : List Int), (dist acc ns).length ≤ acc.length + ns.length
  | [], acc => by show acc.length ≤ acc.length + 0; omega
  | x :: r, acc => by
    have := tm_dlen r (if acc.contains x then acc else acc ++ [x])
    refine Nat.le_trans this ?_
    rw [List.length_cons]
    split
    · omega
    · rw [List.length_append, List.length_singleton]; omega
theorem pe_lset {X : Cx} {a : Expr} {ta : TE} {p p2 q pos : Pos} (hg : Gl X "len") (hm : X.mg "len" = none) (hg2 : Gl X "set") (hm2 : X.mg "set" = none) (ha : PE X a ta) (hc : X.calm = true)
    (na : starEach [a] X.env = (false, eval a X.env) :: starEach [] X.env) : PE X (.Call (.Name "len" p) [.Call (.Name "set" p2) [a] [] q] [] pos) (tLset X.K ta) := by
  refine ⟨fun pins s σ H Q I hh => ?_⟩
  refine Call_ (ld_blt I hg hm boot_len (PyProof.Rows.callWith_builtin1 (PyProof.Rows.args_cons ?_ rfl) rfl rfl))
  refine Call_ (ld_blt I hg2 hm2 boot_set (PyProof.Rows.callWith_type1 (PyProof.Rows.args_cons (thn (ha.run pins s σ H _ I hh) fun v s1 ⟨x, H1, I1, r1, k1⟩ => PyProof.Rows.args_nil ?_) na) na rfl))
  obtain ⟨l, ns, rfl, hs, hz, k2⟩ := k1
  cases r1
  obtain ⟨its, r, pl, _⟩ := I1.list hs
  have hl := r.length
  rw [List.length_map] at hl
  refine call_set_list (ns := ns) (I1.ok.hd hc) pl.isList (by simpa using r.ints) (by rw [List.size_toArray]; unfold scanBound; omega) fun h' tk hS hk => ?_
  have ed : (PyProof.Rows.firstMet (fun i => ns.getD i 0) its.toArray.size).length = (dist [] ns).length := by
    rw [List.size_toArray, ← hl]
    have := tm_dist (fun i => ns.getD i 0) ns 0 fun i _ => by rw [Nat.zero_add]
    rw [Nat.zero_add] at this
    rw [this]; rfl
  rw [ed] at hS
  refine PyProof.Rows.args_nil ?_
  obtain ⟨o, es, ep, t, ho, hex, hd, _, _, _, hf, hn⟩ := hS
  have I2 : Inv X pins σ H1 { s1 with heap := h', toks := tk } := I1.kept fun b o e => hk b o (Heap.lt_size e) e
  exact call_len_set ho hex hd hf (by have := tm_dlen ns []; rw [hn]; simp at this; omega) ⟨.int ((dist [] ns).length : Nat), H1, I2.tok _, ⟨_, by rw [hn]⟩, k2⟩
end Z
set_option Elab.async false
set_option linter.all false
set_option maxRecDepth 100000
set_option maxHeartbeats 1000000
namespace Z
open PySem PySem.Spec PyProof.Rows L2
def TpO (o : Obj) : Prop := o.cls = .type "tuple" ∧ o.dict = none
def FT (H : Hp) (a : Addr) (xs : List V) : Prop := ∃ o, H a = some (.frz o (.tup xs)) ∧ TpO o
def NT (H : Hp) (xs : List V) (Q : VK) : Prop := ∀ p o, H p = none → TpO o → Q (.ref p) (upd H p (.frz o (.tup xs)))
theorem FT.rd {H : Hp} {a : Addr} {xs : List V} (h : FT H a xs) : Rd H a (.tup xs) := let ⟨o, h, _⟩ := h; .inr ⟨o, h⟩
theorem FT.sq {K : PySem.W.Frag} {H : Hp} {a : Addr} {xs : List V} (h : FT H a xs) : SqT K H a xs := .inl h.rd
theorem to_new (us : List Value) : TpO { cls := .type "tuple", data := .seq us.toArray } := ⟨rfl, rfl⟩
section
variable {X : Cx} {pins : List (Addr × Obj)} {σ : L2.St} {H : Hp} {s : Shared} {xs : List V} {us : List Value} {Q : VK}
theorem lay_tup {tk : Nat} (I : Inv X pins σ H s) (r : Vals xs us) (hz : xs.length ≤ sizeLine) (q : NT H xs Q) :
    EP X pins σ Q (.ref s.heap.objs.size) { s with heap := s.heap.push { cls := .type "tuple", data := .seq us.toArray }, toks := tk } :=
  ⟨.ref s.heap.objs.size, _, I.laid (t' := tk) (o := .frz { cls := .type "tuple", data := .seq us.toArray } (.tup xs)) (fun b ob q => Heap.get?_push_of_some _ q) (Nat.le_refl _)
    (show ObjOk X.prog X.w _ _ _ (.frz _ (.tup xs)) from ⟨Heap.get?_push_size _ rfl, hz, us, r, IsTup.new _ _⟩), rfl, q _ _ (I.hok.fresh (Nat.le_refl _)) (to_new us)⟩
def tTupF (t : TA) : TE := fun σ H Q => t σ H fun xs H1 => xs.length ≤ sizeLine ∧ NT H1 xs Q
theorem pe_tupF {es : List Expr} {t : TA} {pos : Pos} {x1} (h : PA X es t) : PE X (.Tuple es x1 pos) (tTupF t) := by
  refine ⟨fun pins s σ H Q I hq => ?_⟩
  exact wpAny_Tuple_spliced (thn (h.run pos pins s σ H _ I hq) fun us s1 ⟨xs, H1, I1, r, z, q⟩ => ⟨by rw [← r.length]; exact z, lay_tup I1 r z q⟩)
def rTupF (K : PySem.W.Frag) : List V → Hp → VK → Prop := fun xs H Q => ∃ p ys, xs = [.ref p] ∧ ((SqL K H p ys ∧ NT H ys Q) ∨ (SqT K H p ys ∧ Q (.ref p) H))
theorem call_tupleF : CallR X (.type "tuple") (rTupF X.K) := by
  intro pins s σ H xs us Q I r h
  obtain ⟨p, ys, rfl, h⟩ := h
  obtain ⟨u, rfl, rx⟩ := vals1 r
  cases rx
  rcases h with ⟨hq, q⟩ | ⟨hq, q⟩
  · obtain ⟨its, r', pl, hz⟩ := I.list hq
    have hlen := r'.length
    refine call_tuple_list pl.isList (fun h' kp => ?_) (by simp only [List.size_toArray] <;> omega)
    have I1 : Inv X pins σ H { s with heap := h' } := I.kept (t' := s.toks) kp
    exact lay_tup (s := { s with heap := h' }) I1 r' hz q
  · obtain ⟨its, r', pl, hz⟩ := I.tuple hq
    exact call_tuple_same pl ⟨.ref p, H, I, rfl, q⟩
def rCatF (K : PySem.W.Frag) : R2 := fun x y H Q => ∃ a b xs ys, x = .ref a ∧ y = .ref b ∧ SqT K H a xs ∧ SqT K H b ys ∧ xs.length + ys.length ≤ sizeLine ∧
  (xs = [] → Q (.ref b) H) ∧ (xs ≠ [] → ys = [] → Q (.ref a) H) ∧ (xs ≠ [] → ys ≠ [] → NT H (xs ++ ys) Q)
theorem op_catF : OpR X (binaryOp .Add) (rCatF X.K) := by
  intro pins s σ H x y v u Q I rx ry h
  obtain ⟨a, b, xs, ys, rfl, rfl, ha, hb, hz, q0, q1, q2⟩ := h
  cases rx
  cases ry
  obtain ⟨its, r1, p1, _⟩ := I.tuple ha
  obtain ⟨its2, r2, p2, _⟩ := I.tuple hb
  by_cases hx : xs = []
  · subst hx
    cases r1
    exact cat_tup0 p1 p2 ⟨.ref b, H, I, rfl, q0 rfl⟩
  · refine HT.cat_tup p1 p2 (fun z => hx (r1.nil_iff.mp z)) (fun z => ⟨.ref a, H, I, rfl, q1 hx (r2.nil_iff.mp z)⟩) (fun z => ?_) (by rw [← r1.length, ← r2.length]; exact hz)
    exact lay_tup I (r1.append r2) (by rw [List.length_append]; exact hz) (q2 hx (fun w => z (r2.nil_iff.mpr w)))
def rSlF (K : PySem.W.Frag) : V → Option Int → Option Int → Hp → VK → Prop := fun x lo hi H Q => ∃ a xs, x = .ref a ∧ SqT K H a xs ∧
  (HT.sIx xs.length 0 lo = 0 ∧ HT.sIx xs.length xs.length hi = xs.length → Q (.ref a) H) ∧ (¬ (HT.sIx xs.length 0 lo = 0 ∧ HT.sIx xs.length xs.length hi = xs.length) → NT H (cutV xs lo hi) Q)
theorem sl_tupF : SlR X (rSlF X.K) := by
  intro pins s σ H x v vl vu lo hi sl Q I rx hs pl pu h
  obtain ⟨a, xs, rfl, hx, q1, q2⟩ := h
  cases rx
  obtain ⟨its, r, ht, hz⟩ := I.tuple hx
  have hlen : its.toArray.size = xs.length := by rw [List.size_toArray]; exact r.length.symm
  refine ⟨"tuple", _, PyProof.Rows.slot_tuple_getitem.lookup, ht.typeIs, ?_⟩
  by_cases hw : HT.sIx xs.length 0 lo = 0 ∧ HT.sIx xs.length xs.length hi = xs.length
  · exact getItem_tuple_whole ht hs pl pu (by rw [hlen]; exact hw) ⟨.ref a, H, I, rfl, q1 hw⟩
  · refine HT.getItem_tuple_cut ht hs pl pu (by rw [hlen]; exact hw) ?_ (by rw [hlen]; exact hz)
    rw [hlen]
    exact lay_tup (xs := cutV xs lo hi) I ((r.drop (HT.sIx xs.length 0 lo)).take (HT.sIx xs.length xs.length hi - HT.sIx xs.length 0 lo)) (Nat.le_trans (cutV_length xs lo hi) hz) (q2 hw)
def rRepF (K : PySem.W.Frag) : R2 := fun x y H Q => ∃ l k xs, x = .ref l ∧ y = .int k ∧ SqT K H l xs ∧ xs ≠ [] ∧ 2 ≤ k ∧ k ≤ 1000 ∧ xs.length ≤ 1000 ∧ NT H (List.replicate k.toNat xs).flatten Q
theorem op_repF : OpR X (binaryOp .Mult) (rRepF X.K) := by
  intro pins s σ H x y v u Q I rx ry h
  obtain ⟨l, k, xs, rfl, rfl, hT, hne, h1, h2, hz, q⟩ := h
  cases rx
  obtain ⟨t, rfl⟩ := ry
  obtain ⟨its, r, ⟨⟨cls, dd, data, sl⟩, ho, hc, n, hd⟩, hs⟩ := I.tuple hT
  simp only at hc hd
  subst hc hd
  have hle : its.length = xs.length := r.length.symm
  have hi : its.toArray.isEmpty = false := by
    cases its with
    | nil => exact absurd (List.eq_nil_of_length_eq_zero hle.symm) hne
    | cons a b => rfl
  have hsz0 : its.toArray.size = xs.length := by rw [List.size_toArray, hle]
  have hm : ((its.toArray.size : Nat) : Int) * k ≤ 1000000 := by
    rw [hsz0]
    have a1 : ((xs.length : Nat) : Int) * k ≤ 1000 * k := Int.mul_le_mul_of_nonneg_right (by omega) (by omega)
    omega
  have b1 : k.toNat * xs.length ≤ 1000 * 1000 := Nat.mul_le_mul (by omega) hz
  have flen : (List.replicate k.toNat its).flatten.length ≤ sizeLine := by rw [PyProof.Rows.lm_len_rep_flat, hle, sizeLine_eq]; omega
  have c0 : (decide (k < -(2 ^ 63)) || decide (k ≥ 2 ^ 63)) = false := by
    rw [decide_eq_false (by omega), decide_eq_false (by omega)] <;> rfl
  have c1 : (its.toArray.isEmpty || k == 1) = false := by
    rw [hi, Bool.false_or]
    exact beq_eq_false_iff_ne.mpr (by omega)
  have c2 : (decide (k ≤ 0) || its.toArray.isEmpty) = false := by
    rw [hi, Bool.or_false]
    exact decide_eq_false (by omega)
  have c4 : Builtin.Tuple.tupleTooMany (((its.toArray.size : Nat) : Int) * k) = false := by
    unfold Builtin.Tuple.tupleTooMany
    rw [sizeLine_eq]
    exact decide_eq_false (by omega)
  refine wpAny_binaryOp_repeat_ref (T := "tuple") (U := "int") (by decide) ⟨_, ho, rfl⟩ (fun s' => typeIs_int s' k t) noFill_tuple_mul F.fills_int_mul F.slot_int_rmul repeat_tuple F.slot_int_index.lookup
    (call_meets F.slot_int_rmul (typeIs_int s k t) F.entry_int_rmul (F.args_int_rmul_2 _ _) (int_rmul_tuple k t l its.toArray n dd sl)
      ⟨ho, rfl, ⟨_, ho, rfl⟩, call_meets F.slot_tuple_mul ⟨_, ho, rfl⟩ F.entry_tuple_mul (F.args_tuple_mul_2 _ _) (tuple_mulW l its.toArray n dd sl k t c0 c1 c2 (by omega) c4 (by rw [size_rep, List.size_toArray]; exact flen)) ⟨ho, ?_⟩⟩)
  rw [size_rep]
  exact lay_tup I (r.rep k.toNat) (by rw [PyProof.Rows.lm_len_rep_flat, sizeLine_eq]; omega) q
def tTupRgF (te : L2.St → Hp → (Int → Int → Hp → Prop) → Prop) : TE := fun σ H Q => te σ H fun a b H1 => RgOk a b ∧ NT H1 (rgV a b) Q
theorem pe_tupRgF {e : Expr} {te : L2.St → Hp → (Int → Int → Hp → Prop) → Prop} {p pos : Pos} (hc : X.calm = true) (hg : Gl X "tuple") (hm : X.mg "tuple" = none) (he : PRg X e te) (na : starEach [e] X.env = (false, eval e X.env) :: starEach [] X.env := by rfl) : PE X (.Call (.Name "tuple" p) [e] [] pos) (tTupRgF te) := by
  refine ⟨fun pins s σ H Q I h => ?_⟩
  refine Call_ (ld_blt I hg hm boot_tuple (PyProof.Rows.callWith_type1 (args_cons (thn (he pins s σ H _ I h) fun x s1 ⟨r, a, b, t, u, v, H1, ex, hr, I1, ok, q⟩ => args_nil ?_) na) na))
  subst ex
  obtain ⟨b1, b2, b3, b4, b5⟩ := ok
  refine call_tuple_range (n := (b - a).toNat) (I1.ok.hd hc) hr (small_one b1 b2 b3 b4) (rangeSize_nat a b) b5 fun h' tk acc hk hi => ?_
  have I2 : Inv X pins σ H1 { s1 with heap := h', toks := tk } := I1.kept hk
  have := lay_tup (tk := tk) (us := acc.toList) I2 (vals_rg hi) (by rw [rgV_length, sizeLine_eq]; omega) q
  rw [Array.toArray_toList] at this
  exact this
def tSstF (K : PySem.W.Frag) (te : TE) (tl th ts : TO) : TE := fun σ H Q => te σ H fun x H1 => tl σ H1 fun ol H2 => th σ H2 fun oh H3 => ts σ H3 fun os H4 => ∃ a xs c, x = .ref a ∧ os = some c ∧ c ≠ 0 ∧ SqT K H4 a xs ∧ (pick xs (plcs xs.length ol oh c)).length ≤ sizeLine ∧ (wholeB ol oh c xs.length = true → Q (.ref a) H4) ∧
  NT H4 (pick xs (plcs xs.length ol oh c)) Q
theorem pe_sstF {e : Expr} {te : TE} {lo hi : Option Expr} {st : Expr} {tl th ts : TO} {p3 pos : Pos} (he : PE X e te) (hl : PO X lo tl) (hh : PO X hi th) (hs : PO X (some st) ts) : PE X (.Subscript e (.Slice lo hi (some st) p3) pos) (tSstF X.K te tl th ts) := by
  refine ⟨fun pins s σ H Q I h => ?_⟩
  refine Subscript_ (thn (he.run pins s σ H _ I h) fun v s1 ⟨x, H1, I1, r1, q1⟩ => ?_)
  refine wpAny_Slice (thn (hl.run pins s1 σ H1 _ I1 q1) fun vl s2 ⟨ol, H2, I2, pl, q2⟩ => ?_)
  refine thn (hh.run pins s2 σ H2 _ I2 q2) fun vu s3 ⟨oh, H3, I3, pu, q3⟩ => ?_
  refine thn (hs.run pins s3 σ H3 _ I3 q3) fun vs s4 ⟨os, H4, I4, ps, q4⟩ => ?_
  obtain ⟨a, xs, c, ex, eo, h0, hx, hz, qw, q⟩ := q4
  subst ex eo
  cases r1
  have I5 : Inv X pins σ H4 { s4 with heap := s4.heap.push { cls := .type "slice", data := .fields #[vl, vu, vs] } } := I4.kept (t' := s4.toks) fun b ob q => Heap.get?_push_of_some _ q
  obtain ⟨its, r, ht, hzz⟩ := I5.tuple hx
  have hlen : its.toArray.size = xs.length := by rw [List.size_toArray]; exact r.length.symm
  have rp := vals_pick r (plcs xs.length ol oh c)
  show wpAny (model X.prog X.w) X.A (subscriptTail e (.Slice lo hi (some st) p3) (.ref a) (.ref s4.heap.objs.size)) (EP X pins σ Q) X.xe { s4 with heap := s4.heap.push { cls := .type "slice", data := .fields #[vl, vu, vs] } }
  refine tail_any (ops := [.ref a, .ref s4.heap.objs.size]) ht.typeIs (PyProof.Rows.slot_tuple_getitem.lookup) ?_ (by with_unfolding_all rfl)
  refine getItem_tup_step ht (Heap.IsSliceOf.new _ vl vu vs) pl pu ps h0 ?_ ?_ ?_
  · rw [hlen]
    intro _
    exact lay_tup I5 rp hz q
  · rw [hlen]
    intro hb
    exact ⟨.ref a, H4, I5, rfl, qw hb⟩
  · rw [hlen]
    have := rp.length
    show (pick its (plcs xs.length ol oh c)).length ≤ _
    omega
end
end Z
set_option Elab.async false
set_option linter.all false
set_option maxRecDepth 100000
set_option maxHeartbeats 1000000
namespace Z
open PySem PySem.Spec PyProof.Rows L2
def isN : V → Bool
  | .non => true
  | _ => false
def isNU : Value → Bool
  | .none => true
  | _ => false
def ItN (K : PySem.W.Frag) (H : Hp) (y : V) : Prop := ∃ d, Dp K H y d ∧ SeqAt.shaped d = true
theorem isNU_of {y : V} {u : Value} (r : RelV y u) {K : PySem.W.Frag} {H : Hp} (h : ItN K H y) : isNU u = isN y := by
  obtain ⟨d, hd, _⟩ := h
  cases hd with
  | non => cases (show u = Value.none from r); rfl
  | bl b => cases (show u = Value.bool b from r); rfl
  | int i => obtain ⟨t, q⟩ := (show ∃ t, u = Value.int i t from r); cases q; rfl
  | str z => obtain ⟨t, q⟩ := (show ∃ t, u = Value.str z t from r); cases q; rfl
  | lst _ _ => cases (show u = Value.ref _ from r); rfl
  | tup _ _ => cases (show u = Value.ref _ from r); rfl
section
variable {X : Cx} {pins : List (Addr × Obj)} {σ : L2.St} {H : Hp} {s : Shared}
theorem eqAt_none (I : Inv X pins σ H s) (hu : X.A.units + 65 < cLine) {y : V} {u : Value} (r : RelV y u) (h : ItN X.K H y) : SeqAt.EqAt X.A.in1 s u .none (isNU u) := by
  obtain ⟨d, hd, sd⟩ := h
  obtain ⟨as, ra⟩ := Dp.reads I d y u hd r
  obtain ⟨bs, rb⟩ := Dp.reads I .none .non .none (Dp.non (K := X.K)) rfl
  have e : PyData.eqv d .none = isNU u := by
    cases hd with
    | non => cases (show u = Value.none from r); rfl
    | bl b => cases (show u = Value.bool b from r); rfl
    | int i => obtain ⟨t, q⟩ := (show ∃ t, u = Value.int i t from r); cases q; rfl
    | str z => obtain ⟨t, q⟩ := (show ∃ t, u = Value.str z t from r); cases q; rfl
    | lst _ _ => cases (show u = Value.ref _ from r); rfl
    | tup _ _ => cases (show u = Value.ref _ from r); rfl
  rw [← e]
  exact SeqAt.eqAt_reads d .none X.A.in1 s u .none as bs ra rb (SeqAt.canLay_of_shaped sd) rfl (by show X.A.units + 1 + _ < cLine; have := SeqAt.depth_of_shaped sd; omega)
theorem items_none (I : Inv X pins σ H s) (hu : X.A.units + 65 < cLine) : ∀ {ys : List V} {us : List Value}, Vals ys us → (∀ y ∈ ys, ItN X.K H y) → (∀ u ∈ us, SeqAt.EqAt X.A.in1 s u .none (isNU u)) ∧ us.countP isNU = ys.countP isN
  | _, _, .nil, _ => ⟨fun _ h => (by cases h), rfl⟩
  | y :: ys, u :: us, .cons r t, h => by
    obtain ⟨h1, h2⟩ := items_none I hu t fun z hz => h z (List.mem_cons_of_mem _ hz)
    refine ⟨fun w hw => ?_, ?_⟩
    · rcases List.mem_cons.mp hw with rfl | hw
      · exact eqAt_none I hu r (h y List.mem_cons_self)
      · exact h1 w hw
    · rw [List.countP_cons, List.countP_cons, h2, isNU_of r (h y List.mem_cons_self)]
def rTcn (K : PySem.W.Frag) : V → List V → Hp → VK → Prop := fun x xs H Q => ∃ p ys, x = .ref p ∧ xs = [.non] ∧ SqT K H p ys ∧ (∀ y ∈ ys, ItN K H y) ∧ Q (.int (ys.countP isN : Nat)) H
theorem mt_tcn (hu : X.A.units + 65 < cLine) : MtR X "tuple.count" (rTcn X.K) := by
  intro pins s σ H x xs v us Q I rx rs h
  obtain ⟨p, ys, rfl, rfl, hq, hi, q⟩ := h
  cases rx
  obtain ⟨u, rfl, ru⟩ := vals1 rs
  cases (show u = Value.none from ru)
  obtain ⟨its, r, pl, hz⟩ := I.tuple hq
  obtain ⟨⟨cls, dd, dt, sl⟩, ho, hc, n, hd⟩ := pl
  simp only at hc hd
  subst hc
  subst hd
  obtain ⟨h1, h2⟩ := items_none I hu r hi
  refine call_meets PySem.F.slot_tuple_count ⟨_, ho, rfl⟩ PySem.F.entry_tuple_count (PySem.F.args_tuple_count_2 _ _) (SeqAt.tuple_countAt p its.toArray n dd sl .none isNU)
    ⟨ho, fun w hw => h1 w (by simpa using hw), ⟨.int (ys.countP isN : Nat), H, I.tok _, ⟨s.toks, ?_⟩, q⟩⟩
  show Value.int ((its.toArray.toList.countP isNU : Nat) : Int) s.toks = _
  rw [← h2]
def rTix (K : PySem.W.Frag) : V → List V → Hp → VK → Prop := fun x xs H Q => ∃ p ys j, x = .ref p ∧ xs = [.non] ∧ SqT K H p ys ∧ (∀ y ∈ ys, ItN K H y) ∧ ys[j]? = some V.non ∧ (∀ m, m < j → ys[m]? ≠ some V.non) ∧ Q (.int (j : Nat)) H
theorem mt_tix (hu : X.A.units + 65 < cLine) : MtR X "tuple.index" (rTix X.K) := by
  intro pins s σ H x xs v us Q I rx rs h
  obtain ⟨p, ys, j, rfl, rfl, hq, hi, hy, hno, q⟩ := h
  cases rx
  obtain ⟨u, rfl, ru⟩ := vals1 rs
  cases (show u = Value.none from ru)
  obtain ⟨its, r, pl, hz⟩ := I.tuple hq
  obtain ⟨⟨cls, dd, dt, sl⟩, ho, hc, n, hd⟩ := pl
  simp only at hc hd
  subst hc
  subst hd
  obtain ⟨h1, h2⟩ := items_none I hu r hi
  have hl : its.toArray.size = ys.length := by rw [List.size_toArray, ← r.length]
  have hj : j < its.toArray.size := by rw [hl]; exact (List.getElem?_eq_some_iff.mp hy).1
  have at' : ∀ (m : Nat) (hm : m < its.toArray.size), ∃ y, ys[m]? = some y ∧ isNU its.toArray[m] = isN y := fun m hm => by
    have hm' : m < ys.length := by rw [← hl]; exact hm
    obtain ⟨w, hw, hr⟩ := r.get (i := m) (List.getElem?_eq_getElem hm')
    refine ⟨ys[m], List.getElem?_eq_getElem hm', ?_⟩
    have e := (List.getElem?_eq_some_iff.mp hw).2
    rw [show its.toArray[m] = w from by rw [← e]; simp]
    exact isNU_of hr (hi _ (List.getElem_mem hm'))
  refine call_meets PySem.F.slot_tuple_index ⟨_, ho, rfl⟩ PySem.F.entry_tuple_index (PySem.F.args_tuple_index_2 _ _) (TI.tuple_indexAt p its.toArray n dd sl .none isNU j hj ?_ ?_)
    ⟨ho, fun w hw => h1 w (by simpa using hw), ⟨.int (j : Nat), H, I.tok _, ⟨_, rfl⟩, q⟩⟩
  · obtain ⟨y, e1, e2⟩ := at' j hj
    rw [hy] at e1
    cases e1
    rw [e2]
    rfl
  · intro m hm hmj
    obtain ⟨y, e1, e2⟩ := at' m hm
    rw [e2]
    cases y with
    | non => exact absurd e1 (hno m hmj)
    | _ => rfl
def tBMF (r : V → List V → Hp → VK → Prop) (to : TE) (t : TA) : TE := fun σ H Q => to σ H fun x H1 => (∃ a ys, x = .ref a ∧ FT H1 a ys) ∧ t σ H1 fun vs H2 => r x vs H2 Q
theorem pe_bmF {o e : Expr} {es : List Expr} {to : TE} {t : TA} {name : Str} {id : String} {r : V → List V → Hp → VK → Prop} {apos cpos : Pos} (slot : Slot "tuple" name id) (hty : typeOf (.builtin id) = pure (.type "method_descriptor")) (hm : MtR X id r) (ho : PE X o to) (ha : PA X (e :: es) t)
    (hbase : attributeBase o name X.env (eval o X.env) = eval o X.env := by rfl)
    (hfew : ((backTo cpos (starEach (e :: es) X.env)).all (fun x => !x.1) && (backToKw cpos (keywordEach [] X.env)).all (fun x => x.1.isSome)
      && decide ((e :: es).length + ([] : List Keyword).length + (if ([] : List Keyword).isEmpty then 0 else 1) < 30)) = true := by rfl)
    (hline : (apos.endLine == cpos.line) = true := by rfl) (hs : starEach (e :: es) X.env = (false, eval e X.env) :: starEach es X.env := by rfl) (hplain : (backTo cpos (starEach es X.env)).any (·.1) = false := by rfl) :
    PE X (.Call (.Attribute o name apos) (e :: es) [] cpos) (tBMF r to t) := by
  refine ⟨fun pins s σ H Q I h => ?_⟩
  refine wpAny_Call_method_late hbase hfew hline rfl (thn (ho.run pins s σ H _ I h) fun v s1 ⟨x, H1, I1, r1, ty, q1⟩ => ?_)
  obtain ⟨a, ys, rfl, ob, hf, hc, hd⟩ := ty
  cases (show v = Value.ref a from r1)
  obtain ⟨hg, _⟩ := (show ObjOk X.prog X.w H1 s1.heap a (.frz ob (.tup ys)) from I1.hok a _ hf)
  refine ⟨"tuple", id, PySem.F.plainAttrs_tuple, slot, hty, ⟨ob, hg, hc⟩, fun b e => by cases e; exact ⟨ob, hg, hd⟩, ?_⟩
  have hA := ha.run cpos pins s1 σ H1 _ I1 q1
  rw [hs] at hA ⊢
  refine Calls.callWith_builtin (by show (false || (backTo cpos (starEach es X.env)).any (·.1)) = false; rw [hplain] <;> rfl) (Calls.evalArgs_plain ?_)
  exact thn hA fun us s2 ⟨vs, H2, I2, r2, q2⟩ => hm pins s2 σ H2 (.ref a) vs (.ref a) us Q I2 rfl r2 q2
end
end Z
set_option Elab.async false
set_option linter.all false
set_option maxRecDepth 100000
set_option maxHeartbeats 1000000
namespace Z
open PySem PySem.Spec PyProof.Rows L2
theorem remove_loopAt (l : Addr) (items : Array Value) (n : Nat) (x : Value) (e : Nat → Bool) (j : Nat) (hj : j < items.size) (hit : e j = true) (hs1 : items.size ≤ sizeLine) :
    ∀ (k i : Nat), j - i = k → i ≤ j → (∀ m, i ≤ m → m < j → e m = false) →
      Meets (Builtin.«list.remove.loop» { pos := [Value.ref l, x, rawInt (i : Int)] }) fun A R s =>
        s.heap.get? l = some { cls := Value.type "list", data := Data.seq items n } ∧ (∀ (m : Nat) (hm : m < items.size), SeqAt.EqAt A.in1 s items[m] x (e m)) ∧
          R (Except.ok (Flow.ret Value.none)) { heap := s.heap.update l (Obj.mapSeq fun xs => xs.eraseIdxIfInBounds j), gens := s.gens, drawn := s.drawn, toks := s.toks, os := s.os } := by
  intro k
  induction k with
  | zero =>
    intro i hk hij hno prog w A R s h
    obtain ⟨hp, g, d, tk, os⟩ := s
    obtain ⟨hl, he, h⟩ := h
    have hij' : i = j := by omega
    subst hij'
    refine wpAny_bind (wpAny_bind (wpAny_bind (wpAny_load' hl (wpAny_pure (wpAny_pure ?_)))))
    have hi : items[((i : Nat) : Int).toNat]? = some items[i] := by
      rw [Int.toNat_natCast]; exact getElem?_pos items i hj
    show wpAny _ _ (match items[((i : Nat) : Int).toNat]? with | none => _ | some x_1 => _) _ _ _
    rw [hi]
    refine wpAny_bind (he i hj prog w _ _ ?_)
    rw [hit]
    refine wpAny_ite_true rfl (wpAny_bind ?_)
    have hz' := Nat.le_trans (MeetsSeq.size_erased items i) (Nat.le_succ_of_le hs1)
    exact wpAny_updateSeq hl rfl (wpAny_pure h) hs1 hz'
  | succ k ih =>
    intro i hk hij hno prog w A R s h
    obtain ⟨hp, g, d, tk, os⟩ := s
    obtain ⟨hl, he, h⟩ := h
    have hlt : i < items.size := by omega
    refine wpAny_bind (wpAny_bind (wpAny_bind (wpAny_load' hl (wpAny_pure (wpAny_pure ?_)))))
    have hi : items[((i : Nat) : Int).toNat]? = some items[i] := by
      rw [Int.toNat_natCast]; exact getElem?_pos items i hlt
    show wpAny _ _ (match items[((i : Nat) : Int).toNat]? with | none => _ | some x_1 => _) _ _ _
    rw [hi]
    refine wpAny_bind (he i hlt prog w _ _ ?_)
    rw [hno i (Nat.le_refl i) (by omega)]
    refine wpAny_ite_false rfl ?_
    refine wpAny_pure ?_
    refine ⟨plainId_quiet MeetsSeq.plain_remove_loop _, codeAny_builtin MeetsSeq.entry_remove_loop ?_⟩
    rw [Around.under_plainId MeetsSeq.plain_remove_loop]
    exact ih (i + 1) (by omega) (by omega) (fun m h1 h2 => hno m (by omega) h2) prog w A R _ ⟨hl, he, h⟩
theorem list_removeAt (l : Addr) (items : Array Value) (n : Nat) (x : Value) (e : Nat → Bool) (j : Nat) (hj : j < items.size) (hit : e j = true) (hno : ∀ m, m < j → e m = false) (hs1 : items.size ≤ sizeLine) :
      Meets (Builtin.«list.remove» { pos := [Value.ref l, x] }) fun A R s =>
        s.heap.get? l = some { cls := Value.type "list", data := Data.seq items n } ∧ (∀ (m : Nat) (hm : m < items.size), SeqAt.EqAt A.in1 s items[m] x (e m)) ∧
          R (Except.ok (Flow.ret Value.none)) { heap := s.heap.update l (Obj.mapSeq fun xs => xs.eraseIdxIfInBounds j), gens := s.gens, drawn := s.drawn, toks := s.toks, os := s.os } := by
  intro prog w A R s h
  obtain ⟨hp, g, d, tk, os⟩ := s
  refine wpAny_bind (wpAny_bind (wpAny_ite_true rfl (wpAny_pure (wpAny_pure ?_))))
  refine wpAny_pure ⟨plainId_quiet MeetsSeq.plain_remove_loop _, codeAny_builtin MeetsSeq.entry_remove_loop ?_⟩
  rw [Around.under_plainId MeetsSeq.plain_remove_loop]
  exact remove_loopAt l items n x e j hj hit hs1 (j - 0) 0 rfl (Nat.zero_le j) (fun m _ h2 => hno m h2) prog w A R _ h
section
variable {X : Cx}
def rRemF (K : PySem.W.Frag) : V → List V → Hp → VK → Prop := fun x xs H Q => ∃ (l : Addr) (ys : List V) (y : V) (dy : PyData) (e : Nat → Bool) (j : Nat), x = .ref l ∧ xs = [y] ∧ H l = some (.lst ys) ∧ Dp K H y dy ∧ SeqAt.shaped dy = true ∧
  (∀ m z, ys[m]? = some z → ∃ dz, Dp K H z dz ∧ SeqAt.shaped dz = true ∧ PyData.eqv dz dy = e m) ∧ j < ys.length ∧ e j = true ∧ (∀ m, m < j → e m = false) ∧ Q .non (upd H l (.lst (ys.eraseIdx j)))
theorem mt_remF (hu : X.A.units + 65 < cLine) : MtM X "list.remove" (rRemF X.K) := by
  intro pins s σ H x xs v us Q I rx rxs h
  obtain ⟨l, ys, y, dy, e, j, rfl, rfl, hH, hy, sy, he, hj, hit, hno, q⟩ := h
  cases rx
  obtain ⟨u, rfl, ru⟩ := rxs.one
  obtain ⟨z, its, n, r, hl, ho⟩ := I.lstM hH
  have hjl : j < its.toArray.size := by rw [List.size_toArray]; omega
  have hsz : its.toArray.size ≤ sizeLine := by rw [List.size_toArray]; omega
  have hel : (ys.eraseIdx j).length ≤ sizeLine := Nat.le_trans (List.length_eraseIdx_le ..) z
  refine call_meets PySem.F.slot_list_remove ⟨_, ho, rfl⟩ PySem.F.entry_list_remove (PySem.F.args_list_remove_2 _ _) (list_removeAt l its.toArray n u e j hjl hit hno hsz)
    ⟨ho, fun m hm => ?_, ⟨.non, upd H l (.lst (ys.eraseIdx j)), Inv.lset I hH ho (by rw [List.eraseIdxIfInBounds_toArray]) (Vals.eraseIdx j r) hel, rfl, q⟩⟩
  have hm' : m < ys.length := by rw [List.size_toArray] at hm; omega
  obtain ⟨w, hw, hr⟩ := r.get (i := m) (List.getElem?_eq_getElem hm')
  have ew : its.toArray[m] = w := by
    have := (List.getElem?_eq_some_iff.mp hw).2
    rw [← this]; simp
  obtain ⟨dz, hz, sz, ez⟩ := he m _ (List.getElem?_eq_getElem hm')
  obtain ⟨as, ra⟩ := Dp.reads I dz _ w hz hr
  obtain ⟨bs, rb⟩ := Dp.reads I dy y u hy ru
  rw [ew, ← ez]
  exact SeqAt.eqAt_reads dz dy X.A.in1 s w u as bs ra rb (SeqAt.canLay_of_shaped sz) (SeqAt.canLay_of_shaped sy) (by show X.A.units + 1 + _ < cLine; have := SeqAt.depth_of_shaped sz; omega)
end
end Z
set_option Elab.async false
set_option linter.all false
set_option maxRecDepth 100000
namespace Z
open PySem PySem.Spec PyProof.Rows L2
structure Tb where
  texts : List Str
  gis : List (Str × Int)
  fns : List (Str × List Str)
  cls : List Str
  fld : List (List Str)
  mth : List (Nat × Nat)
  exs : List Str
  hot : List (Str × List D) := []
  hs : List Nat := []
mutual
def toPy (t : Tb) : D → PyData
  | .non => .none
  | .bl b => .bool b
  | .int i => .int i
  | .str n => .str ((t.texts[n]?).getD ⟨#[]⟩)
  | .tup ds => .tuple (toPyL t ds)
  | .lst ds => .list (toPyL t ds)
  | .scr ds => .list (toPyL t ds)
  | .ref _ => .none
  | .rep _ => .none
def toPyL (t : Tb) : List D → List PyData
  | [] => []
  | d :: r => toPy t d :: toPyL t r
end
structure At where
  K : PySem.W.Frag
  fa : Nat → Addr
  ca : Nat → Addr
  ea : Nat → Addr
section
variable (t : Tb) (u : At) (F L : List Addr) (H : Hp)
def Kseq (K : PySem.W.Frag) (a : Addr) (xs : List V) : Prop :=
  ∃ (o : Obj) (its : Array Value) (n : Nat), K.lookup a = some o ∧ o.cls = .type "list" ∧ o.dict = none ∧ o.data = .seq its n ∧ its.size ≤ sizeLine ∧ Vals xs its.toList
mutual
def VRep : D → V → Prop
  | .non, v => v = .non
  | .bl b, v => v = .bl b
  | .int i, v => v = .int i
  | .str n, v => ∃ z, t.texts[n]? = some z ∧ v = .str z
  | .tup ds, v => ∃ a vs, v = .ref a ∧ FT H a vs ∧ a ∉ F ∧ a ∉ L ∧ VRepL ds vs
  | .lst ds, v => ∃ a vs, v = .ref a ∧ H a = some (.lst vs) ∧ a ∉ F ∧ a ∉ L ∧ VRepL ds vs
  | .scr ds, v => ∃ a vs, v = .ref a ∧ ((Rd H a (.lst vs) ∧ a ∉ F ∧ a ∉ L) ∨ Kseq u.K a vs) ∧ VRepL ds vs
  | .ref n, v => ∃ a, v = .ref a ∧ L[n]? = some a
  | .rep d, v => v = .str (toPy t d).shown
def VRepL : List D → List V → Prop
  | [], vs => vs = []
  | d :: ds, vs => ∃ v r, vs = v :: r ∧ VRep d v ∧ VRepL ds r
end
def kyR (t : Tb) : Ky → Key → Prop
  | .i n, k => k = .inl n
  | .s n, k => ∃ z, t.texts[n]? = some z ∧ k = .inr z
def KRep : List (Ky × D) → List (Key × V) → Prop
  | [], ws => ws = []
  | p :: ps, ws => ∃ k v r, ws = (k, v) :: r ∧ kyR t p.1 k ∧ VRep t u F L H p.2 v ∧ KRep ps r
structure FRep (names : List Str) (fs : List (Option D)) (fs' : List (Str × V)) : Prop where
  len : fs.length = names.length
  nd : (fs'.map (·.1)).Nodup
  sub : ∀ x ∈ fs'.map (·.1), x ∈ names
  at_ : ∀ (i : Nat) (x : Str) (d : D), names[i]? = some x → fs[i]? = some (some d) → ∃ v, fs'.lookup x = some v ∧ VRep t u F L H d v
def ORep (o : O) (a : Addr) : Prop :=
  match o with
  | .lst ds => ∃ vs, H a = some (.lst vs) ∧ VRepL t u F L H ds vs
  | .dct kvs => ∃ ws, H a = some (.dK ws) ∧ KRep t u F L H kvs ws
  | .ins c fs => ∃ dx fs' names, H a = some (.ins (u.ca c) dx fs') ∧ t.fld[c]? = some names ∧ FRep t u F L H names fs fs'
structure MRep (M : Mem) : Prop where
  len : L.length = M.length
  nd : L.Nodup
  frb : ∀ a ∈ F, a ∉ L ∧ ∃ o, H a = some o
  at_ : ∀ (n : Nat) (a : Addr) (o : O), L[n]? = some a → M[n]? = some o → ORep t u F L H o a
structure Step (L' : List Addr) (H' : Hp) : Prop where
  pre : ∃ more, L' = L ++ more
  keep : ∀ a o, H a = some o → a ∉ L → H' a = some o ∧ a ∉ L'
structure ERep (env : Env) (σ : L2.St) : Prop where
  len : env.length = σ.length
  at_ : ∀ (i : Nat) (d : D), env[i]? = some (some d) → ∃ v, σ[i]? = some (some v) ∧ VRep t u F L H d v
end
section
variable {t : Tb} {u : At} {F L L1 L2' L' : List Addr} {H H1 H2 H' : Hp} {M M' : Mem}
theorem Step.refl : Step L H L H := ⟨⟨[], by simp⟩, fun a o h n => ⟨h, n⟩⟩
theorem Step.trans (a : Step L H L1 H1) (b : Step L1 H1 L2' H2) : Step L H L2' H2 := by
  obtain ⟨m1, e1⟩ := a.pre
  obtain ⟨m2, e2⟩ := b.pre
  refine ⟨⟨m1 ++ m2, by rw [e2, e1, List.append_assoc]⟩, fun c o h n => ?_⟩
  obtain ⟨h1, n1⟩ := a.keep c o h n
  exact b.keep c o h1 n1
theorem Step.get (a : Step L H L1 H1) {n : Nat} {c : Addr} (h : L[n]? = some c) : L1[n]? = some c := by
  obtain ⟨m, e⟩ := a.pre
  rw [e, List.getElem?_append_left (by exact (List.getElem?_eq_some_iff.mp h).1)]
  exact h
theorem Step.new {p : Addr} {o : HO} (h : H p = none) : Step L H L (upd H p o) :=
  ⟨⟨[], by simp⟩, fun a q e n => ⟨by rw [upd_ne (ne_of_none e h)]; exact e, n⟩⟩
theorem Step.lay {p : Addr} {o : HO} (h : H p = none) : Step L H (L ++ [p]) (upd H p o) :=
  ⟨⟨[p], rfl⟩, fun a q e n => ⟨by rw [upd_ne (ne_of_none e h)]; exact e, by simp only [List.mem_append, List.mem_singleton, not_or]; exact ⟨n, ne_of_none e h⟩⟩⟩
theorem Step.mut {p : Addr} {o : HO} (h : p ∈ L) : Step L H L (upd H p o) :=
  ⟨⟨[], by simp⟩, fun a q e n => ⟨by rw [upd_ne (fun z => n (by rw [z]; exact h))]; exact e, n⟩⟩
theorem rd_keep {a : Addr} {o : HO} (s : Step L H L' H') (h : Rd H a o) (n : a ∉ L) : Rd H' a o ∧ a ∉ L' := by
  rcases h with h | ⟨q, h⟩
  · obtain ⟨h1, n1⟩ := s.keep a _ h n
    exact ⟨.inl h1, n1⟩
  · obtain ⟨h1, n1⟩ := s.keep a _ h n
    exact ⟨.inr ⟨q, h1⟩, n1⟩
structure Go (F L : List Addr) (H : Hp) (F' L' : List Addr) (H' : Hp) : Prop where
  keep : ∀ a o, H a = some o → a ∉ F → a ∉ L → H' a = some o ∧ a ∉ F' ∧ a ∉ L'
  ref : ∀ (n : Nat) (a : Addr), L[n]? = some a → L'[n]? = some a
mutual
theorem VRep.go {F' : List Addr} (s : Go F L H F' L' H') : ∀ (d : D) (v : V), VRep t u F L H d v → VRep t u F' L' H' d v
  | .non, _, h => h
  | .bl _, _, h => h
  | .int _, _, h => h
  | .str _, _, h => h
  | .tup ds, v, h => by
    obtain ⟨a, vs, e, ⟨o, h1, ho⟩, nf, n, r⟩ := h
    obtain ⟨h2, nf2, n2⟩ := s.keep a _ h1 nf n
    exact ⟨a, vs, e, ⟨o, h2, ho⟩, nf2, n2, VRepL.go s ds vs r⟩
  | .lst ds, v, h => by
    obtain ⟨a, vs, e, h1, nf, n, r⟩ := h
    obtain ⟨h2, nf2, n2⟩ := s.keep a _ h1 nf n
    exact ⟨a, vs, e, h2, nf2, n2, VRepL.go s ds vs r⟩
  | .scr ds, v, h => by
    obtain ⟨a, vs, e, h1, r⟩ := h
    refine ⟨a, vs, e, ?_, VRepL.go s ds vs r⟩
    rcases h1 with ⟨h1, nf, n⟩ | h1
    · rcases h1 with h1 | ⟨q, h1⟩
      · obtain ⟨h2, nf2, n2⟩ := s.keep a _ h1 nf n
        exact .inl ⟨.inl h2, nf2, n2⟩
      · obtain ⟨h2, nf2, n2⟩ := s.keep a _ h1 nf n
        exact .inl ⟨.inr ⟨q, h2⟩, nf2, n2⟩
    · exact .inr h1
  | .ref n, v, h => by
    obtain ⟨a, e, h1⟩ := h
    exact ⟨a, e, s.ref n a h1⟩
  | .rep _, _, h => h
theorem VRepL.go {F' : List Addr} (s : Go F L H F' L' H') : ∀ (ds : List D) (vs : List V), VRepL t u F L H ds vs → VRepL t u F' L' H' ds vs
  | [], _, h => h
  | d :: ds, vs, h => by
    obtain ⟨v, r, e, h1, h2⟩ := h
    exact ⟨v, r, e, VRep.go s d v h1, VRepL.go s ds r h2⟩
end
theorem Step.go (s : Step L H L' H') : Go F L H F L' H' := ⟨fun a o h nf n => let ⟨h2, n2⟩ := s.keep a o h n; ⟨h2, nf, n2⟩, fun n a h => s.get h⟩
theorem VRep.step (s : Step L H L' H') (d : D) (v : V) (h : VRep t u F L H d v) : VRep t u F L' H' d v := VRep.go s.go d v h
theorem VRepL.step (s : Step L H L' H') (ds : List D) (vs : List V) (h : VRepL t u F L H ds vs) : VRepL t u F L' H' ds vs := VRepL.go s.go ds vs h
theorem KRep.step (s : Step L H L' H') : ∀ (ps : List (Ky × D)) (ws : List (Key × V)), KRep t u F L H ps ws → KRep t u F L' H' ps ws
  | [], _, h => h
  | p :: ps, ws, h => by
    obtain ⟨k, v, r, e, h1, h2, h3⟩ := h
    exact ⟨k, v, r, e, h1, h2.step s, KRep.step s ps r h3⟩
theorem FRep.step (s : Step L H L' H') {names : List Str} {fs : List (Option D)} {fs' : List (Str × V)} (r : FRep t u F L H names fs fs') : FRep t u F L' H' names fs fs' :=
  ⟨r.len, r.nd, r.sub, fun i x d h1 h2 => let ⟨v, a, b⟩ := r.at_ i x d h1 h2; ⟨v, a, b.step s⟩⟩
theorem ERep.step (s : Step L H L' H') {env : Env} {σ : L2.St} (r : ERep t u F L H env σ) : ERep t u F L' H' env σ :=
  ⟨r.len, fun i d h => let ⟨v, a, b⟩ := r.at_ i d h; ⟨v, a, b.step s⟩⟩
theorem VRepL.len : ∀ (ds : List D) (vs : List V), VRepL t u F L H ds vs → ds.length = vs.length
  | [], _, h => by rw [show _ = [] from h]; rfl
  | d :: ds, vs, h => by
    obtain ⟨v, r, e, _, h2⟩ := h
    rw [e, List.length_cons, List.length_cons, VRepL.len ds r h2]
theorem VRepL.get : ∀ {ds : List D} {vs : List V} {i : Nat} {d : D}, VRepL t u F L H ds vs → ds[i]? = some d → ∃ v, vs[i]? = some v ∧ VRep t u F L H d v
  | [], _, _, _, _, h => by simp at h
  | d0 :: ds, vs, 0, d, h, e => by
    obtain ⟨v, r, e1, h1, _⟩ := h
    simp at e
    subst e
    exact ⟨v, by rw [e1]; rfl, h1⟩
  | d0 :: ds, vs, i + 1, d, h, e => by
    obtain ⟨v, r, e1, _, h2⟩ := h
    obtain ⟨w, a, b⟩ := VRepL.get (i := i) h2 (by simpa using e)
    exact ⟨w, by rw [e1]; simpa using a, b⟩
theorem VRepL.getV : ∀ {ds : List D} {vs : List V} {i : Nat} {v : V}, VRepL t u F L H ds vs → vs[i]? = some v → ∃ d, ds[i]? = some d ∧ VRep t u F L H d v
  | [], vs, i, v, h, e => by
    rw [show vs = [] from h] at e
    simp at e
  | d0 :: ds, vs, 0, v, h, e => by
    obtain ⟨w, r, e1, h1, _⟩ := h
    rw [e1] at e
    simp at e
    subst e
    exact ⟨d0, rfl, h1⟩
  | d0 :: ds, vs, i + 1, v, h, e => by
    obtain ⟨w, r, e1, _, h2⟩ := h
    rw [e1] at e
    obtain ⟨d, a, b⟩ := VRepL.getV (i := i) h2 (by simpa using e)
    exact ⟨d, by simpa using a, b⟩
theorem VRepL.app : ∀ {ds es : List D} {vs ws : List V}, VRepL t u F L H ds vs → VRepL t u F L H es ws → VRepL t u F L H (ds ++ es) (vs ++ ws)
  | [], es, vs, ws, h, g => by
    rw [show vs = [] from h]
    exact g
  | d :: ds, es, vs, ws, h, g => by
    obtain ⟨v, r, e, h1, h2⟩ := h
    rw [e]
    exact ⟨v, r ++ ws, rfl, h1, VRepL.app h2 g⟩
theorem VRepL.take (n : Nat) : ∀ {ds : List D} {vs : List V}, VRepL t u F L H ds vs → VRepL t u F L H (ds.take n) (vs.take n) := by
  induction n with
  | zero => intro ds vs h; simp [VRepL]
  | succ n ih =>
    intro ds vs h
    cases ds with
    | nil => rw [show vs = [] from h]; simp [VRepL]
    | cons d ds =>
      obtain ⟨v, r, e, h1, h2⟩ := h
      rw [e]
      exact ⟨v, r.take n, rfl, h1, ih h2⟩
theorem VRepL.drop (n : Nat) : ∀ {ds : List D} {vs : List V}, VRepL t u F L H ds vs → VRepL t u F L H (ds.drop n) (vs.drop n) := by
  induction n with
  | zero => intro ds vs h; simpa using h
  | succ n ih =>
    intro ds vs h
    cases ds with
    | nil => rw [show vs = [] from h]; simp [VRepL]
    | cons d ds =>
      obtain ⟨v, r, e, h1, h2⟩ := h
      rw [e]
      exact ih h2
theorem VRepL.set {d : D} {v : V} (h : VRep t u F L H d v) : ∀ {ds : List D} {vs : List V} (i : Nat), VRepL t u F L H ds vs → VRepL t u F L H (ds.set i d) (vs.set i v)
  | [], vs, i, r => by
    rw [show vs = [] from r]
    simp [VRepL]
  | d0 :: ds, vs, 0, r => by
    obtain ⟨w, q, e, h1, h2⟩ := r
    rw [e]
    exact ⟨v, q, rfl, h, h2⟩
  | d0 :: ds, vs, i + 1, r => by
    obtain ⟨w, q, e, h1, h2⟩ := r
    rw [e]
    exact ⟨w, q.set i v, rfl, h1, VRepL.set h i h2⟩
theorem VRepL.erase : ∀ {ds : List D} {vs : List V} (i : Nat), VRepL t u F L H ds vs → VRepL t u F L H (ds.eraseIdx i) (vs.eraseIdx i)
  | [], vs, i, r => by
    rw [show vs = [] from r]
    simp [VRepL]
  | d0 :: ds, vs, 0, r => by
    obtain ⟨w, q, e, h1, h2⟩ := r
    rw [e]
    exact h2
  | d0 :: ds, vs, i + 1, r => by
    obtain ⟨w, q, e, h1, h2⟩ := r
    rw [e]
    exact ⟨w, q.eraseIdx i, rfl, h1, VRepL.erase i h2⟩
theorem VRepL.dropLast {ds : List D} {vs : List V} (h : VRepL t u F L H ds vs) : VRepL t u F L H ds.dropLast vs.dropLast := by
  rw [List.dropLast_eq_take, List.dropLast_eq_take, VRepL.len _ _ h]
  exact h.take _
theorem VRepL.rep {ds : List D} {vs : List V} (h : VRepL t u F L H ds vs) : ∀ n : Nat, VRepL t u F L H (List.replicate n ds).flatten (List.replicate n vs).flatten
  | 0 => by simp [VRepL]
  | n + 1 => by
    rw [List.replicate_succ, List.replicate_succ, List.flatten_cons, List.flatten_cons]
    exact h.app (VRepL.rep h n)
theorem VRepL.cut {ds : List D} {vs : List V} (h : VRepL t u F L H ds vs) (lo hi : Option Int) : VRepL t u F L H (cut ds lo hi) (cutV vs lo hi) := by
  unfold Z.cut cutV
  rw [VRepL.len _ _ h]
  exact (h.drop _).take _
theorem VRepL.ints : ∀ {ns : List Int} {vs : List V}, VRepL t u F L H (ns.map D.int) vs → vs = ns.map V.int
  | [], vs, h => h
  | n :: ns, vs, h => by
    obtain ⟨v, r, e, h1, h2⟩ := h
    rw [e, show v = V.int n from h1, VRepL.ints h2]
    rfl
theorem VRepL.ofInts : ∀ (ns : List Int), VRepL t u F L H (ns.map D.int) (ns.map V.int)
  | [] => rfl
  | n :: ns => ⟨.int n, ns.map V.int, rfl, rfl, VRepL.ofInts ns⟩
theorem VRepL.bls : ∀ {bs : List Bool} {vs : List V}, VRepL t u F L H (bs.map D.bl) vs → vs = bs.map V.bl
  | [], vs, h => h
  | n :: ns, vs, h => by
    obtain ⟨v, r, e, h1, h2⟩ := h
    rw [e, show v = V.bl n from h1, VRepL.bls h2]
    rfl
theorem VRepL.nil_iff {ds : List D} {vs : List V} (h : VRepL t u F L H ds vs) : vs = [] ↔ ds = [] := by
  have e := VRepL.len _ _ h
  constructor
  · intro z
    rw [z] at e
    exact List.eq_nil_of_length_eq_zero e
  · intro z
    rw [z] at e
    exact List.eq_nil_of_length_eq_zero e.symm
theorem VRepL.isEmpty {ds : List D} {vs : List V} (h : VRepL t u F L H ds vs) : vs.isEmpty = ds.isEmpty := by
  cases ds with
  | nil => rw [show vs = [] from h]; rfl
  | cons d ds =>
    obtain ⟨v, r, e, _⟩ := h
    rw [e]
    rfl
theorem MRep.mem (r : MRep t u F L H M) {a : Addr} (h : a ∈ L) : ∃ o, H a = some o := by
  obtain ⟨n, hn, e⟩ := List.getElem_of_mem h
  have e1 : L[n]? = some a := by rw [List.getElem?_eq_getElem hn, e]
  have hm : n < M.length := by rw [← r.len]; exact hn
  have q := r.at_ n a M[n] e1 (List.getElem?_eq_getElem hm)
  unfold ORep at q
  split at q
  · obtain ⟨vs, h, _⟩ := q; exact ⟨_, h⟩
  · obtain ⟨vs, h, _⟩ := q; exact ⟨_, h⟩
  · obtain ⟨_, _, _, h, _⟩ := q; exact ⟨_, h⟩
theorem MRep.nin (r : MRep t u F L H M) {p : Addr} (h : H p = none) : p ∉ L := fun z => by
  obtain ⟨o, e⟩ := r.mem z
  rw [h] at e
  cases e
theorem MRep.ninF (r : MRep t u F L H M) {p : Addr} (h : H p = none) : p ∉ F := fun z => by
  obtain ⟨_, o, e⟩ := r.frb p z
  rw [h] at e
  cases e
theorem ORep.step' {o : O} {a : Addr} (s : Step L H L' H') (he : H' a = H a) (q : ORep t u F L H o a) : ORep t u F L' H' o a := by
  cases o with
  | lst ds => obtain ⟨vs, h, r⟩ := q; exact ⟨vs, he.trans h, r.step s⟩
  | dct kvs => obtain ⟨ws, h, r⟩ := q; exact ⟨ws, he.trans h, r.step s⟩
  | ins c fs => obtain ⟨dx, fs', nm, h, e, r⟩ := q; exact ⟨dx, fs', nm, he.trans h, e, r.step s⟩
theorem MRep.new (r : MRep t u F L H M) {p : Addr} {o : HO} (h : H p = none) : MRep t u F L (upd H p o) M := by
  refine ⟨r.len, r.nd, fun a ha => ?_, fun n a q e1 e2 => ?_⟩
  · obtain ⟨n, q, e⟩ := r.frb a ha
    exact ⟨n, q, by rw [upd_ne (ne_of_none e h)]; exact e⟩
  · have hm : a ∈ L := List.mem_of_getElem? e1
    obtain ⟨q', e'⟩ := r.mem hm
    exact (r.at_ n a q e1 e2).step' (Step.new h) (upd_ne (ne_of_none e' h))
theorem MRep.lay (r : MRep t u F L H M) {p : Addr} {o : HO} {q : O} (h : H p = none) (hq : ORep t u F (L ++ [p]) (upd H p o) q p) : MRep t u F (L ++ [p]) (upd H p o) (M ++ [q]) := by
  refine ⟨by simp [r.len], ?_, fun a ha => ?_, fun n a q' e1 e2 => ?_⟩
  · rw [List.nodup_append]
    refine ⟨r.nd, by simp, fun a ha b hb => ?_⟩
    have e : b = p := by simpa using hb
    rw [e]
    exact fun z => r.nin h (z ▸ ha)
  · obtain ⟨n, q, e⟩ := r.frb a ha
    refine ⟨?_, q, by rw [upd_ne (ne_of_none e h)]; exact e⟩
    simp only [List.mem_append, List.mem_singleton, not_or]
    exact ⟨n, ne_of_none e h⟩
  · by_cases hn : n < L.length
    · rw [List.getElem?_append_left hn] at e1
      rw [List.getElem?_append_left (by rw [← r.len]; exact hn)] at e2
      have hm : a ∈ L := List.mem_of_getElem? e1
      obtain ⟨q'', e'⟩ := r.mem hm
      exact (r.at_ n a q' e1 e2).step' (Step.lay h) (upd_ne (ne_of_none e' h))
    · have hl : n < (L ++ [p]).length := (List.getElem?_eq_some_iff.mp e1).1
      have e : n = L.length := by
        rw [List.length_append] at hl
        simp only [List.length_singleton] at hl
        omega
      subst e
      rw [List.getElem?_append_right (Nat.le_refl _), Nat.sub_self] at e1
      rw [r.len, List.getElem?_append_right (Nat.le_refl _), Nat.sub_self] at e2
      simp at e1 e2
      subst e1 e2
      exact hq
theorem MRep.mut (r : MRep t u F L H M) {n : Nat} {p : Addr} {o : HO} {q : O} (h : L[n]? = some p) (hq : ORep t u F L (upd H p o) q p) : MRep t u F L (upd H p o) (M.set n q) := by
  have hm : p ∈ L := List.mem_of_getElem? h
  refine ⟨by simp [r.len], r.nd, fun a ha => ?_, fun m a q' e1 e2 => ?_⟩
  · obtain ⟨nn, q, e⟩ := r.frb a ha
    exact ⟨nn, q, by rw [upd_ne (fun z => nn (by rw [z]; exact hm))]; exact e⟩
  · by_cases hmn : m = n
    · subst hmn
      rw [h] at e1
      cases e1
      have hl : m < M.length := by rw [← r.len]; exact (List.getElem?_eq_some_iff.mp h).1
      rw [List.getElem?_set_self hl] at e2
      cases e2
      exact hq
    · rw [List.getElem?_set_ne (Ne.symm hmn)] at e2
      have hne : a ≠ p := fun z => hmn (by
        have h1 := (List.getElem?_eq_some_iff.mp e1)
        have h2 := (List.getElem?_eq_some_iff.mp h)
        obtain ⟨l1, g1⟩ := h1
        obtain ⟨l2, g2⟩ := h2
        exact (List.getElem_inj r.nd).mp (by rw [g1, g2, z]))
      exact (r.at_ m a q' e1 e2).step' (Step.mut hm) (upd_ne hne)
theorem MRep.ref (r : MRep t u F L H M) {n : Nat} {a : Addr} {o : O} (h : L[n]? = some a) (e : M[n]? = some o) : ORep t u F L H o a := r.at_ n a o h e
theorem goLess {p : Addr} : Go (p :: F) L H F L H := ⟨fun a o h nf n => ⟨h, fun z => nf (List.mem_cons_of_mem _ z), n⟩, fun _ _ h => h⟩
theorem VRep.lessF {p : Addr} (d : D) (v : V) (h : VRep t u (p :: F) L H d v) : VRep t u F L H d v := VRep.go goLess d v h
theorem VRepL.lessF {p : Addr} (d : List D) (v : List V) (h : VRepL t u (p :: F) L H d v) : VRepL t u F L H d v := VRepL.go goLess d v h
theorem goUpd {p : Addr} {o : HO} (hp : p ∈ F) : Go F L H F L (upd H p o) := ⟨fun a q h nf n => ⟨by rw [upd_ne (fun z => nf (by rw [z]; exact hp))]; exact h, nf, n⟩, fun _ _ h => h⟩
theorem VRep.updF {p : Addr} {o : HO} (hp : p ∈ F) (d : D) (v : V) (h : VRep t u F L H d v) : VRep t u F L (upd H p o) d v := VRep.go (goUpd hp) d v h
theorem VRepL.updF {p : Addr} {o : HO} (hp : p ∈ F) (d : List D) (v : List V) (h : VRepL t u F L H d v) : VRepL t u F L (upd H p o) d v := VRepL.go (goUpd hp) d v h
theorem goMore {p : Addr} (h : H p = none) : Go F L H (p :: F) L H := ⟨fun a q e nf n => ⟨e, fun z => (List.mem_cons.mp z).elim (ne_of_none e h) nf, n⟩, fun _ _ h => h⟩
theorem VRep.moreF {p : Addr} (hp : H p = none) (d : D) (v : V) (h : VRep t u F L H d v) : VRep t u (p :: F) L H d v := VRep.go (goMore hp) d v h
theorem KRep.mapV {F' L' : List Addr} {H' : Hp} (f : ∀ d v, VRep t u F L H d v → VRep t u F' L' H' d v) : ∀ (ps : List (Ky × D)) (ws : List (Key × V)), KRep t u F L H ps ws → KRep t u F' L' H' ps ws
  | [], _, h => h
  | p :: ps, ws, h => by
    obtain ⟨k, v, r, e, h1, h2, h3⟩ := h
    exact ⟨k, v, r, e, h1, f _ _ h2, KRep.mapV f ps r h3⟩
theorem VRepL.mapV {F' L' : List Addr} {H' : Hp} (f : ∀ d v, VRep t u F L H d v → VRep t u F' L' H' d v) : ∀ (ds : List D) (vs : List V), VRepL t u F L H ds vs → VRepL t u F' L' H' ds vs
  | [], _, h => h
  | d :: ds, vs, h => by
    obtain ⟨v, r, e, h1, h2⟩ := h
    exact ⟨v, r, e, f d v h1, VRepL.mapV f ds r h2⟩
theorem ORep.mapV {F' L' : List Addr} {H' : Hp} {o : O} {a : Addr} (f : ∀ d v, VRep t u F L H d v → VRep t u F' L' H' d v) (he : H' a = H a) (q : ORep t u F L H o a) : ORep t u F' L' H' o a := by
  cases o with
  | lst ds => obtain ⟨vs, h, r⟩ := q; exact ⟨vs, he.trans h, r.mapV f⟩
  | dct kvs => obtain ⟨ws, h, r⟩ := q; exact ⟨ws, he.trans h, r.mapV f⟩
  | ins c fs =>
    obtain ⟨dx, fs', nm, h, e, r⟩ := q
    exact ⟨dx, fs', nm, he.trans h, e, r.len, r.nd, r.sub, fun i x d h1 h2 => let ⟨v, a, b⟩ := r.at_ i x d h1 h2; ⟨v, a, f d v b⟩⟩
theorem MRep.lessF {p : Addr} (r : MRep t u (p :: F) L H M) : MRep t u F L H M :=
  ⟨r.len, r.nd, fun a ha => r.frb a (List.mem_cons_of_mem _ ha), fun n a o h1 h2 => (r.at_ n a o h1 h2).mapV (fun d v h => h.lessF) rfl⟩
theorem MRep.updF {p : Addr} {o : HO} (r : MRep t u F L H M) (hp : p ∈ F) : MRep t u F L (upd H p o) M := by
  refine ⟨r.len, r.nd, fun a ha => ?_, fun n a q h1 h2 => ?_⟩
  · obtain ⟨n, q, e⟩ := r.frb a ha
    by_cases hap : a = p
    · exact ⟨n, o, by rw [hap]; exact upd_same⟩
    · exact ⟨n, q, by rw [upd_ne hap]; exact e⟩
  · exact (r.at_ n a q h1 h2).mapV (fun d v h => h.updF hp) (upd_ne (fun z => (r.frb p hp).1 (z ▸ List.mem_of_getElem? h1)))
theorem MRep.openF {p : Addr} {o : HO} (r : MRep t u F L H M) (h : H p = none) : MRep t u (p :: F) L (upd H p o) M := by
  refine ⟨r.len, r.nd, fun a ha => ?_, fun n a q h1 h2 => ?_⟩
  · rcases List.mem_cons.mp ha with e | ha
    · subst e
      exact ⟨r.nin h, o, upd_same⟩
    · obtain ⟨n, q, e⟩ := r.frb a ha
      exact ⟨n, q, by rw [upd_ne (ne_of_none e h)]; exact e⟩
  · obtain ⟨q', e'⟩ := r.mem (List.mem_of_getElem? h1)
    exact (r.at_ n a q h1 h2).mapV (fun d v g => (g.moreF h).step (Step.new h)) (upd_ne (ne_of_none e' h))
theorem ERep.openF {p : Addr} {o : HO} {env : Env} {σ : L2.St} (r : ERep t u F L H env σ) (h : H p = none) : ERep t u (p :: F) L (upd H p o) env σ :=
  ⟨r.len, fun i d e => let ⟨v, a, b⟩ := r.at_ i d e; ⟨v, a, (b.moreF h).step (Step.new h)⟩⟩
end
end Z
set_option Elab.async false
set_option linter.all false
set_option maxRecDepth 100000
set_option maxHeartbeats 1000000
namespace Z
open PySem PySem.Spec PyProof.Rows L2
abbrev Aft (t : Tb) (u : At) (F L : List Addr) (H : Hp) (Φ : VQ) (Q : VK) : Prop :=
  ∀ d M' L' H' v, Φ d M' → Step L H L' H' → MRep t u F L' H' M' → VRep t u F L' H' d v → Q v H'
section
variable {t : Tb} {u : At} {F L : List Addr} {H : Hp} {M : Mem} {x y : D} {v w : V} {Φ : VQ} {Q : VK} {ds : List D}
theorem szL : sizeLine = sz := sizeLine_eq
theorem ifLst_rep {P : List D → Prop} (m : MRep t u F L H M) (r : VRep t u F L H x v) (h : ifLst M x P) : ∃ ds a vs, v = .ref a ∧ SqL u.K H a vs ∧ VRepL t u F L H ds vs ∧ P ds := by
  cases x with
  | lst es =>
    obtain ⟨a, vs, e, h1, _, _, r⟩ := r
    exact ⟨es, a, vs, e, .inl (.inl h1), r, h⟩
  | scr es =>
    obtain ⟨a, vs, e, h1, r⟩ := r
    refine ⟨es, a, vs, e, ?_, r, h⟩
    rcases h1 with ⟨h1, _⟩ | h1
    · exact .inl h1
    · exact .inr h1
  | ref n =>
    obtain ⟨a, e, h1⟩ := r
    obtain ⟨es, hm, h⟩ := ifL_ex h
    obtain ⟨vs, h2, r⟩ := m.ref h1 hm
    exact ⟨es, a, vs, e, .inl (.inl h2), r, h⟩
  | _ => exact (show False from h).elim
theorem ifLs_rep {P : List D → Prop} (m : MRep t u F L H M) (r : VRep t u F L H x v) (h : ifLs M x P) : ∃ ds a vs, v = .ref a ∧ H a = some (.lst vs) ∧ VRepL t u F L H ds vs ∧ P ds := by
  cases x with
  | lst es =>
    obtain ⟨a, vs, e, h1, _, _, r⟩ := r
    exact ⟨es, a, vs, e, h1, r, h⟩
  | ref n =>
    obtain ⟨a, e, h1⟩ := r
    obtain ⟨es, hm, h⟩ := ifL_ex h
    obtain ⟨vs, h2, r⟩ := m.ref h1 hm
    exact ⟨es, a, vs, e, h2, r, h⟩
  | _ => exact (show False from h).elim
theorem ref_ls (m : MRep t u F L H M) {n : Nat} (r : VRep t u F L H (.ref n) v) (h : M[n]? = some (.lst ds)) : ∃ a vs, v = .ref a ∧ L[n]? = some a ∧ H a = some (.lst vs) ∧ VRepL t u F L H ds vs := by
  obtain ⟨a, e, h1⟩ := r
  obtain ⟨vs, h2, r⟩ := m.ref h1 h
  exact ⟨a, vs, e, h1, h2, r⟩
theorem ref_dc (m : MRep t u F L H M) {n : Nat} {kvs : List (Ky × D)} (r : VRep t u F L H (.ref n) v) (h : M[n]? = some (.dct kvs)) : ∃ a ws, v = .ref a ∧ L[n]? = some a ∧ H a = some (.dK ws) ∧ KRep t u F L H kvs ws := by
  obtain ⟨a, e, h1⟩ := r
  obtain ⟨vs, h2, r⟩ := m.ref h1 h
  exact ⟨a, vs, e, h1, h2, r⟩
theorem ref_in (m : MRep t u F L H M) {n c : Nat} {fs : List (Option D)} (r : VRep t u F L H (.ref n) v) (h : M[n]? = some (.ins c fs)) :
    ∃ a dx fs' nm, v = .ref a ∧ L[n]? = some a ∧ H a = some (.ins (u.ca c) dx fs') ∧ t.fld[c]? = some nm ∧ FRep t u F L H nm fs fs' := by
  obtain ⟨a, e, h1⟩ := r
  obtain ⟨dx, fs', nm, h2, h3, r⟩ := m.ref h1 h
  exact ⟨a, dx, fs', nm, e, h1, h2, h3, r⟩
theorem new_tup (m : MRep t u F L H M) {ds : List D} {vs : List V} (r : VRepL t u F L H ds vs) (hΦ : Φ (.tup ds) M) (hQ : Aft t u F L H Φ Q) : NT H vs Q := fun p o hp ho =>
  hQ _ M L _ _ hΦ (Step.new hp) (m.new hp) ⟨p, vs, rfl, ⟨o, upd_same, ho⟩, m.ninF hp, m.nin hp, VRepL.step (Step.new hp) _ _ r⟩
theorem new_lst (m : MRep t u F L H M) {ds : List D} {vs : List V} (r : VRepL t u F L H ds vs) (hΦ : Φ (.lst ds) M) (hQ : Aft t u F L H Φ Q) : ∀ p, H p = none → Q (.ref p) (upd H p (.lst vs)) := fun p hp =>
  hQ _ M L _ _ hΦ (Step.new hp) (m.new hp) ⟨p, vs, rfl, upd_same, m.ninF hp, m.nin hp, VRepL.step (Step.new hp) _ _ r⟩
theorem new_fresh (m : MRep t u F L H M) {b : Bool} {ds : List D} {vs : List V} (r : VRepL t u F L H ds vs) (hΦ : fresh b ds M Φ) (hQ : Aft t u F L H Φ Q) : ∀ p, H p = none → Q (.ref p) (upd H p (.lst vs)) := by
  cases b with
  | false => exact new_lst m r hΦ hQ
  | true =>
    intro p hp
    refine hQ _ _ (L ++ [p]) _ _ hΦ (Step.lay hp) (m.lay hp ⟨vs, upd_same, VRepL.step (Step.lay hp) _ _ r⟩) ⟨p, rfl, ?_⟩
    rw [← m.len]
    simp
theorem aft_same (m : MRep t u F L H M) {d : D} (hΦ : Φ d M) (hQ : Aft t u F L H Φ Q) (r : VRep t u F L H d v) : Q v H := hQ d M L H v hΦ Step.refl m r
def opO : Op2 → Operator
  | .add => .Add | .sub => .Sub | .mul => .Mult | .fdiv => .FloorDiv | .mod => .Mod
def rOp (K : PySem.W.Frag) : Op2 → R2
  | .add => fun x y H Q => (rI0 fun i j => .int (i + j)) x y H Q ∨ (∃ i k, x = .int i ∧ y = .bl k ∧ Q (.int (i + b2i k)) H) ∨ rCatF K x y H Q ∨ rCat x y H Q
  | .sub => rI0 fun i j => .int (i - j)
  | .mul => fun x y H Q => (rI CMul fun i j => .int (i * j)) x y H Q ∨ (rI CMulW fun i j => .int (i * j)) x y H Q ∨ rRepF K x y H Q ∨ (∃ a xs, x = .ref a ∧ y = .int 1 ∧ SqT K H a xs ∧ xs ≠ [] ∧ Q (.ref a) H) ∨ ∃ a xs, x = .ref a ∧ y = .int 0 ∧ SqT K H a xs ∧ xs ≠ [] ∧ NT H [] Q
  | .fdiv => rI CDivW fun i j => .int (i / j)
  | .mod => rI (fun _ j => 0 < j) fun i j => .int (i % j)
end
theorem tuple_mul1 (l : Addr) (items : Array Value) (n : Nat) (dd : Option Addr) (sl : Array (Option Value)) (u : Tok) :
    Meets (Builtin.«tuple.__mul__» ⟨[.ref l, .int 1 u], []⟩) (fun _ R s => s.heap.get? l = some { cls := .type "tuple", dict := dd, data := .seq items n, slots := sl } ∧ R (.ok (.ret (Value.ref l))) s) :=
  .of_wp fun prog w A R s h => by
    obtain ⟨hp, g, d, tk, os⟩ := s
    obtain ⟨hl, h⟩ := h
    have f1 := AutoSeq1.idx_int
    have c1 : (items.isEmpty || (1 : Int) == 1) = true := by simp
    wp_walk using wpAny_loadPart' hl
    repeat (first
      | (refine wpAny_ite_false (decide_eq_false (by decide)) ?_; wp_walk using wpAny_loadPart' hl)
      | (refine wpAny_ite_true (decide_eq_true c1) ?_; wp_walk using wpAny_loadPart' hl))
    exact ⟨_, rfl, h⟩
theorem tuple_mul0 (l : Addr) (items : Array Value) (n : Nat) (dd : Option Addr) (sl : Array (Option Value)) (u : Tok) (hi : items.isEmpty = false) :
    Meets (Builtin.«tuple.__mul__» ⟨[.ref l, .int 0 u], []⟩) (fun _ R s => s.heap.get? l = some { cls := .type "tuple", dict := dd, data := .seq items n, slots := sl } ∧
      R (.ok (.ret (Value.ref s.heap.objs.size))) { s with heap := s.heap.push { cls := Value.type "tuple", data := Data.seq #[] }, toks := s.toks }) :=
  .of_wp fun prog w A R s h => by
    obtain ⟨hp, g, d, tk, os⟩ := s
    obtain ⟨hl, h⟩ := h
    have f1 := AutoSeq1.idx_int
    have c1 : (items.isEmpty || (0 : Int) == 1) = false := by rw [hi]; rfl
    wp_walk using wpAny_loadPart' hl
    repeat (first
      | (refine wpAny_ite_false (decide_eq_false (by decide)) ?_; wp_walk using wpAny_loadPart' hl)
      | (refine wpAny_ite_false (decide_eq_false (by rw [c1]; exact Bool.false_ne_true)) ?_; wp_walk using wpAny_loadPart' hl)
      | (refine wpAny_ite_true (decide_eq_true (by rfl)) ?_; wp_walk using wpAny_loadPart' hl))
    exact ⟨_, rfl, h⟩
section
variable {X : Cx}
theorem op_rep1 : OpR X (binaryOp .Mult) (fun x y H Q => ∃ a xs, x = .ref a ∧ y = .int 1 ∧ SqT X.K H a xs ∧ xs ≠ [] ∧ Q (.ref a) H) := by
  intro pins s σ H x y v u Q I rx ry h
  obtain ⟨l, xs, rfl, rfl, hT, hne, q⟩ := h
  cases rx
  obtain ⟨t, rfl⟩ := ry
  obtain ⟨its, r, ⟨⟨cls, dd, data, sl⟩, ho, hc, n, hd⟩, hs⟩ := I.tuple hT
  simp only at hc hd
  subst hc hd
  exact wpAny_binaryOp_repeat_ref (T := "tuple") (U := "int") (by decide) ⟨_, ho, rfl⟩ (fun s' => typeIs_int s' 1 t) noFill_tuple_mul F.fills_int_mul F.slot_int_rmul repeat_tuple F.slot_int_index.lookup
    (call_meets F.slot_int_rmul (typeIs_int s 1 t) F.entry_int_rmul (F.args_int_rmul_2 _ _) (int_rmul_tuple 1 t l its.toArray n dd sl)
      ⟨ho, rfl, ⟨_, ho, rfl⟩, call_meets F.slot_tuple_mul ⟨_, ho, rfl⟩ F.entry_tuple_mul (F.args_tuple_mul_2 _ _) (tuple_mul1 l its.toArray n dd sl t) ⟨ho, ⟨.ref l, H, I, rfl, q⟩⟩⟩)
theorem op_rep0 : OpR X (binaryOp .Mult) (fun x y H Q => ∃ a xs, x = .ref a ∧ y = .int 0 ∧ SqT X.K H a xs ∧ xs ≠ [] ∧ NT H [] Q) := by
  intro pins s σ H x y v u Q I rx ry h
  obtain ⟨l, xs, rfl, rfl, hT, hne, q⟩ := h
  cases rx
  obtain ⟨t, rfl⟩ := ry
  obtain ⟨its, r, ⟨⟨cls, dd, data, sl⟩, ho, hc, n, hd⟩, hs⟩ := I.tuple hT
  simp only at hc hd
  subst hc hd
  have hle : its.length = xs.length := r.length.symm
  have hi : its.toArray.isEmpty = false := by
    cases its with
    | nil => exact absurd (List.eq_nil_of_length_eq_zero hle.symm) hne
    | cons a b => rfl
  refine wpAny_binaryOp_repeat_ref (T := "tuple") (U := "int") (by decide) ⟨_, ho, rfl⟩ (fun s' => typeIs_int s' 0 t) noFill_tuple_mul F.fills_int_mul F.slot_int_rmul repeat_tuple F.slot_int_index.lookup
    (call_meets F.slot_int_rmul (typeIs_int s 0 t) F.entry_int_rmul (F.args_int_rmul_2 _ _) (int_rmul_tuple 0 t l its.toArray n dd sl)
      ⟨ho, rfl, ⟨_, ho, rfl⟩, call_meets F.slot_tuple_mul ⟨_, ho, rfl⟩ F.entry_tuple_mul (F.args_tuple_mul_2 _ _) (tuple_mul0 l its.toArray n dd sl t hi) ⟨ho, ?_⟩⟩)
  exact lay_tup (us := []) I .nil (Nat.zero_le _) q
theorem op_ok : ∀ o : Op2, OpR X (binaryOp (opO o)) (rOp X.K o)
  | .add => op_add.or (op_add_ib.or (op_catF.or op_cat))
  | .sub => op_sub
  | .mul => op_mul.or (op_mulW.or (op_repF.or (op_rep1.or op_rep0)))
  | .fdiv => op_fdivW
  | .mod => op_mod
end
section
variable {t : Tb} {u : At} {F L : List Addr} {H : Hp} {M : Mem} {x y : D} {v w : V} {Φ : VQ} {Q : VK} {ds : List D}
theorem cat_ok (m : MRep t u F L H M) {a b : List D} {p q : Addr} {vs ws : List V} (hp : H p = some (.lst vs)) (hq : H q = some (.lst ws)) (r1 : VRepL t u F L H a vs) (r2 : VRepL t u F L H b ws)
    (hl : a.length + b.length ≤ sz) (h : Φ (.lst (a ++ b)) M) (hQ : Aft t u F L H Φ Q) : rOp u.K .add (.ref p) (.ref q) H Q :=
  .inr (.inr (.inr ⟨p, q, vs, ws, rfl, rfl, hp, hq, by rw [← VRepL.len _ _ r1, ← VRepL.len _ _ r2, szL]; exact hl, new_lst m (r1.app r2) h hQ⟩))
theorem cat_fr (m : MRep t u F L H M) {a b : List D} {p q : Addr} {vs ws : List V} (hp : H p = some (.lst vs)) (hq : H q = some (.lst ws)) (r1 : VRepL t u F L H a vs) (r2 : VRepL t u F L H b ws)
    (hl : a.length + b.length ≤ sz) (h : fresh true (a ++ b) M Φ) (hQ : Aft t u F L H Φ Q) : rOp u.K .add (.ref p) (.ref q) H Q :=
  .inr (.inr (.inr ⟨p, q, vs, ws, rfl, rfl, hp, hq, by rw [← VRepL.len _ _ r1, ← VRepL.len _ _ r2, szL]; exact hl, new_fresh m (r1.app r2) h hQ⟩))
theorem addD_ok (m : MRep t u F L H M) (rx : VRep t u F L H x v) (ry : VRep t u F L H y w) (h : addD M x y Φ) (hQ : Aft t u F L H Φ Q) : rOp u.K .add v w H Q := by
  have lc : (ifLs M x fun a => ifLs M y fun b => a.length + b.length ≤ sz ∧ Φ (.lst (a ++ b)) M) → rOp u.K .add v w H Q := fun h => by
    obtain ⟨a, p, vs, rfl, hp, r1, h⟩ := ifLs_rep m rx h
    obtain ⟨b, q, ws, rfl, hq, r2, hl, h⟩ := ifLs_rep m ry h
    exact cat_ok m hp hq r1 r2 hl h hQ
  cases x with
  | int i =>
    cases y with
    | int j =>
      obtain rfl : v = .int i := rx
      obtain rfl : w = .int j := ry
      exact .inl ⟨i, j, rfl, rfl, aft_same m (d := .int (i + j)) h hQ rfl⟩
    | bl b =>
      obtain rfl : v = .int i := rx
      obtain rfl : w = .bl b := ry
      refine .inr (.inl ⟨i, b, rfl, rfl, ?_⟩)
      have e : i + b2i b = i + (if b then 1 else 0) := by cases b <;> rfl
      rw [e]
      exact aft_same m (d := .int (i + if b then 1 else 0)) h hQ rfl
    | _ => exact (show False from h).elim
  | tup a =>
    obtain ⟨b, rfl, hl, h⟩ := ifTup_ex h
    have rx' := rx
    have ry' := ry
    obtain ⟨p, vs, rfl, hp, nf, n, r1⟩ := rx
    obtain ⟨q, ws, rfl, hq, nf2, n2, r2⟩ := ry
    refine .inr (.inr (.inl ⟨p, q, vs, ws, rfl, rfl, .inl hp.rd, .inl hq.rd, by rw [← VRepL.len _ _ r1, ← VRepL.len _ _ r2, szL]; exact hl, fun e => ?_, fun e1 e2 => ?_, fun e1 e2 => new_tup m (r1.app r2) h hQ⟩))
    · have e' := r1.nil_iff.mp e
      subst e'
      exact aft_same m h hQ ry'
    · have e' := r2.nil_iff.mp e2
      subst e'
      rw [List.append_nil] at h
      exact aft_same m h hQ rx'
  | lst a => exact lc h
  | ref n => exact lc h
  | _ => exact (show False from h).elim
theorem mulD_ok (m : MRep t u F L H M) (rx : VRep t u F L H x v) (ry : VRep t u F L H y w) (h : mulD M x y Φ) (hQ : Aft t u F L H Φ Q) : rOp u.K .mul v w H Q := by
  cases x with
  | int i =>
    obtain ⟨j, rfl, hm, h⟩ := ifInt_ex h
    obtain rfl : v = .int i := rx
    obtain rfl : w = .int j := ry
    have q := aft_same m (d := .int (i * j)) h hQ rfl
    rcases hm with hm | hm | hm
    · exact .inl ⟨i, j, rfl, rfl, .inl hm, q⟩
    · exact .inl ⟨i, j, rfl, rfl, .inr hm, q⟩
    · exact .inr (.inl ⟨i, j, rfl, rfl, hm, q⟩)
  | tup a =>
    obtain ⟨k, rfl, hne, h1, h2, hl, h⟩ := ifInt_ex h
    obtain rfl : w = .int k := ry
    have rx' := rx
    obtain ⟨p, vs, rfl, hp, nf, n, r1⟩ := rx
    have hv : vs ≠ [] := fun z => hne (r1.nil_iff.mp z)
    by_cases hk : k = 1
    · subst hk
      refine .inr (.inr (.inr (.inl ⟨p, vs, rfl, rfl, .inl hp.rd, hv, ?_⟩)))
      have e : (List.replicate (1 : Int).toNat a).flatten = a := by simp
      rw [e] at h
      exact aft_same m h hQ rx'
    by_cases hk0 : k = 0
    · subst hk0
      refine .inr (.inr (.inr (.inr ⟨p, vs, rfl, rfl, .inl hp.rd, hv, ?_⟩)))
      have e : (List.replicate (0 : Int).toNat a).flatten = [] := rfl
      rw [e] at h
      exact new_tup m (ds := []) rfl h hQ
    · exact .inr (.inr (.inl ⟨p, k, vs, rfl, rfl, .inl hp.rd, hv, by omega, h2, by rw [← VRepL.len _ _ r1]; exact hl, new_tup m (r1.rep _) h hQ⟩))
  | _ => exact (show False from h).elim
theorem opD_ok (m : MRep t u F L H M) (rx : VRep t u F L H x v) (ry : VRep t u F L H y w) : ∀ o : Op2, opD o M x y Φ → Aft t u F L H Φ Q → rOp u.K o v w H Q
  | .add, h, hQ => addD_ok m rx ry h hQ
  | .mul, h, hQ => mulD_ok m rx ry h hQ
  | .sub, h, hQ => by
    obtain ⟨i, rfl, h⟩ := ifInt_ex h
    obtain ⟨j, rfl, h⟩ := ifInt_ex h
    obtain rfl : v = .int i := rx
    obtain rfl : w = .int j := ry
    exact ⟨i, j, rfl, rfl, aft_same m (d := .int (i - j)) h hQ rfl⟩
  | .fdiv, h, hQ => by
    obtain ⟨i, rfl, h⟩ := ifInt_ex h
    obtain ⟨j, rfl, hd, h⟩ := ifInt_ex h
    obtain rfl : v = .int i := rx
    obtain rfl : w = .int j := ry
    exact ⟨i, j, rfl, rfl, hd, aft_same m (d := .int (i / j)) h hQ rfl⟩
  | .mod, h, hQ => by
    obtain ⟨i, rfl, h⟩ := ifInt_ex h
    obtain ⟨j, rfl, hd, h⟩ := ifInt_ex h
    obtain rfl : v = .int i := rx
    obtain rfl : w = .int j := ry
    exact ⟨i, j, rfl, rfl, hd, aft_same m (d := .int (i % j)) h hQ rfl⟩
theorem all_flat_cons {n : Nat} {d : D} {r : List D} (h : (d :: r).all (D.flat n) = true) : d.flat n = true ∧ r.all (D.flat n) = true := by
  simpa using h
structure TxtOk (t : Tb) : Prop where
  nd : t.texts.Nodup
  ok : ∀ z ∈ t.texts, PyData.strOk z = true
mutual
theorem dp_of (K : TxtOk t) : ∀ (n : Nat) (d : D) (v : V), d.flat n = true → VRep t u F L H d v → Dp u.K H v (toPy t d)
  | _, .non, v, _, r => by obtain rfl : v = .non := r; exact .non
  | _, .bl b, v, _, r => by obtain rfl : v = .bl b := r; exact .bl b
  | _, .int i, v, _, r => by obtain rfl : v = .int i := r; exact .int i
  | _, .str k, v, _, r => by
    obtain ⟨z, e, rfl⟩ := r
    have : toPy t (.str k) = .str z := by
      show PyData.str ((t.texts[k]?).getD ⟨#[]⟩) = _
      rw [e]
      rfl
    rw [this]
    exact .str z
  | n + 1, .tup ds, v, f, r => by
    obtain ⟨a, vs, rfl, h1, _, _, r⟩ := r
    exact .tup (.inl h1.rd) (dpAll_of K n ds vs (by simpa [D.flat] using f) r)
  | n + 1, .lst ds, v, f, r => by
    obtain ⟨a, vs, rfl, h1, _, _, r⟩ := r
    exact .lst (.inl (.inl h1)) (dpAll_of K n ds vs (by simpa [D.flat] using f) r)
  | 0, .tup ds, _, f, _ => by simp [D.flat] at f
  | 0, .lst ds, _, f, _ => by simp [D.flat] at f
  | _, .scr ds, _, f, _ => by simp [D.flat] at f
  | _, .ref k, _, f, _ => by simp [D.flat] at f
  | _, .rep k, _, f, _ => by simp [D.flat] at f
theorem dpAll_of (K : TxtOk t) : ∀ (n : Nat) (ds : List D) (vs : List V), (∀ d ∈ ds, d.flat n = true) → VRepL t u F L H ds vs → DpAll u.K H vs (toPyL t ds)
  | _, [], vs, _, r => by obtain rfl : vs = [] := r; exact .nil
  | n, d :: ds, vs, f, r => by
    obtain ⟨v, r', rfl, h1, h2⟩ := r
    exact .cons (dp_of K n d v (f d List.mem_cons_self) h1) (dpAll_of K n ds r' (fun e he => f e (List.mem_cons_of_mem _ he)) h2)
end
mutual
theorem canLay_of (K : TxtOk t) : ∀ (n : Nat) (d : D) (v : V), d.flat n = true → VRep t u F L H d v → (toPy t d).canLay0 = true ∧ (toPy t d).depth ≤ n
  | _, .non, v, _, r => ⟨rfl, Nat.zero_le _⟩
  | _, .bl b, v, _, r => ⟨rfl, Nat.zero_le _⟩
  | _, .int i, v, _, r => ⟨rfl, Nat.zero_le _⟩
  | _, .str k, v, _, r => by
    obtain ⟨z, e, rfl⟩ := r
    refine ⟨?_, by simp [toPy, PyData.depth]⟩
    simp only [toPy, PyData.canLay0, e, Option.getD_some]
    exact K.ok z (List.mem_of_getElem? e)
  | n + 1, .tup ds, v, f, r => by
    obtain ⟨a, vs, rfl, h1, _, _, r⟩ := r
    obtain ⟨h2, h3⟩ := canLayAll_of K n ds vs (by simpa [D.flat] using f) r
    exact ⟨by simpa [toPy, PyData.canLay0] using h2, by simp only [toPy, PyData.depth]; omega⟩
  | n + 1, .lst ds, v, f, r => by
    obtain ⟨a, vs, rfl, h1, _, _, r⟩ := r
    obtain ⟨h2, h3⟩ := canLayAll_of K n ds vs (by simpa [D.flat] using f) r
    exact ⟨by simpa [toPy, PyData.canLay0] using h2, by simp only [toPy, PyData.depth]; omega⟩
  | 0, .tup ds, _, f, _ => by simp [D.flat] at f
  | 0, .lst ds, _, f, _ => by simp [D.flat] at f
  | _, .scr ds, _, f, _ => by simp [D.flat] at f
  | _, .ref k, _, f, _ => by simp [D.flat] at f
  | _, .rep k, _, f, _ => by simp [D.flat] at f
theorem canLayAll_of (K : TxtOk t) : ∀ (n : Nat) (ds : List D) (vs : List V), (∀ d ∈ ds, d.flat n = true) → VRepL t u F L H ds vs → PyData.canLayAll0 (toPyL t ds) = true ∧ PyData.depthAll (toPyL t ds) ≤ n
  | _, [], vs, _, r => ⟨rfl, Nat.zero_le _⟩
  | n, d :: ds, vs, f, r => by
    obtain ⟨v, r', rfl, h1, h2⟩ := r
    obtain ⟨a1, a2⟩ := canLay_of K n d v (f d List.mem_cons_self) h1
    obtain ⟨b1, b2⟩ := canLayAll_of K n ds r' (fun e he => f e (List.mem_cons_of_mem _ he)) h2
    exact ⟨by simp [toPyL, PyData.canLayAll0, a1, b1], by simp only [toPyL, PyData.depthAll]; omega⟩
end
mutual
theorem eqv_of (K : TxtOk t) : ∀ (n k : Nat) (d e : D) (v w : V), d.flat n = true → e.flat k = true → VRep t u F L H d v → VRep t u F L H e w → PyData.eqv (toPy t d) (toPy t e) = D.eqv d e
  | n, k, d, e, v, w, f, g, r, s => by
    cases d with
    | ref _ => simp [D.flat] at f
    | rep _ => simp [D.flat] at f
    | scr _ => simp [D.flat] at f
    | tup ds =>
      cases e with
      | ref _ => simp [D.flat] at g
      | rep _ => simp [D.flat] at g
      | scr _ => simp [D.flat] at g
      | tup es =>
        cases n with
        | zero => simp [D.flat] at f
        | succ n =>
          cases k with
          | zero => simp [D.flat] at g
          | succ k =>
            obtain ⟨a, vs, rfl, h1, _, _, r⟩ := r
            obtain ⟨b, ws, rfl, h2, _, _, s⟩ := s
            show PyData.eqvAll (toPyL t ds) (toPyL t es) = D.eqvL ds es
            exact eqvL_of K n k ds es vs ws (by simpa [D.flat] using f) (by simpa [D.flat] using g) r s
      | _ => simp [toPy, PyData.eqv, D.eqv]
    | lst ds =>
      cases e with
      | ref _ => simp [D.flat] at g
      | rep _ => simp [D.flat] at g
      | scr _ => simp [D.flat] at g
      | lst es =>
        cases n with
        | zero => simp [D.flat] at f
        | succ n =>
          cases k with
          | zero => simp [D.flat] at g
          | succ k =>
            obtain ⟨a, vs, rfl, h1, _, _, r⟩ := r
            obtain ⟨b, ws, rfl, h2, _, _, s⟩ := s
            show PyData.eqvAll (toPyL t ds) (toPyL t es) = D.eqvL ds es
            exact eqvL_of K n k ds es vs ws (by simpa [D.flat] using f) (by simpa [D.flat] using g) r s
      | _ => simp [toPy, PyData.eqv, D.eqv]
    | str i =>
      cases e with
      | ref _ => simp [D.flat] at g
      | rep _ => simp [D.flat] at g
      | scr _ => simp [D.flat] at g
      | str j =>
        obtain ⟨z, h1, _⟩ := r
        obtain ⟨z', h2, _⟩ := s
        simp only [toPy, PyData.eqv, D.eqv, h1, h2, Option.getD_some]
        by_cases hij : i = j
        · subst hij
          rw [h1] at h2
          cases h2
          simp
        · have hz : z ≠ z' := fun q => hij (by
            obtain ⟨l1, g1⟩ := List.getElem?_eq_some_iff.mp h1
            obtain ⟨l2, g2⟩ := List.getElem?_eq_some_iff.mp h2
            exact (List.getElem_inj K.nd).mp (by rw [g1, g2, q]))
          rw [beq_eq_false_iff_ne.mpr hij, beq_eq_false_iff_ne.mpr hz]
      | _ => simp [toPy, PyData.eqv, D.eqv]
    | non =>
      cases e with
      | ref _ => simp [D.flat] at g
      | rep _ => simp [D.flat] at g
      | scr _ => simp [D.flat] at g
      | _ => simp [toPy, PyData.eqv, D.eqv]
    | bl b =>
      cases e with
      | ref _ => simp [D.flat] at g
      | rep _ => simp [D.flat] at g
      | scr _ => simp [D.flat] at g
      | _ => simp [toPy, PyData.eqv, D.eqv]
    | int i =>
      cases e with
      | ref _ => simp [D.flat] at g
      | rep _ => simp [D.flat] at g
      | scr _ => simp [D.flat] at g
      | _ => simp [toPy, PyData.eqv, D.eqv]
theorem eqvL_of (K : TxtOk t) : ∀ (n k : Nat) (ds es : List D) (vs ws : List V), (∀ d ∈ ds, d.flat n = true) → (∀ d ∈ es, d.flat k = true) → VRepL t u F L H ds vs → VRepL t u F L H es ws → PyData.eqvAll (toPyL t ds) (toPyL t es) = D.eqvL ds es
  | n, k, [], [], _, _, _, _, _, _ => rfl
  | n, k, [], e :: es, _, _, _, _, _, _ => rfl
  | n, k, d :: ds, [], _, _, _, _, _, _ => rfl
  | n, k, d :: ds, e :: es, vs, ws, f, g, r, s => by
    obtain ⟨v, r', rfl, h1, h2⟩ := r
    obtain ⟨w, s', rfl, h3, h4⟩ := s
    show (PyData.eqv (toPy t d) (toPy t e) && PyData.eqvAll (toPyL t ds) (toPyL t es)) = (D.eqv d e && D.eqvL ds es)
    rw [eqv_of K n k d e v w (f d List.mem_cons_self) (g e List.mem_cons_self) h1 h3, eqvL_of K n k ds es r' s' (fun x hx => f x (List.mem_cons_of_mem _ hx)) (fun x hx => g x (List.mem_cons_of_mem _ hx)) h2 h4]
end
end
end Z
set_option Elab.async false
set_option linter.all false
set_option maxRecDepth 100000
set_option maxHeartbeats 1000000
namespace Z
open PySem PySem.Spec PyProof.Rows L2
def cmO : Cm → CmpOp
  | .lt => .Lt | .le => .LtE | .gt => .Gt | .ge => .GtE | .eq => .Eq | .ne => .NotEq | .isN => .Is | .notN => .IsNot | .in_ => .In | .notIn => .NotIn | .dne => .NotEq | .nrp => .NotEq
def rCm (K : PySem.W.Frag) : Cm → R2
  | .lt => rI0 fun i j => .bl (decide (i < j))
  | .le => rI0 fun i j => .bl (decide (i ≤ j))
  | .gt => rI0 fun i j => .bl (decide (j < i))
  | .ge => rI0 fun i j => .bl (decide (j ≤ i))
  | .eq => rEqD K
  | .ne => rNeD K
  | .isN => fun x y H Q => y = .non ∧ Q (.bl (decide (x = .non))) H
  | .notN => fun x y H Q => y = .non ∧ Q (.bl (!decide (x = .non))) H
  | .in_ => fun x y H Q => rIn K false x y H Q ∨ rInD K x y H Q ∨ ∃ a o, y = .ref a ∧ DGet H a x o ∧ Q (.bl o.isSome) H
  | .notIn => fun x y H Q => rIn K true x y H Q ∨ rNotInD K x y H Q ∨ ∃ a o, y = .ref a ∧ DGet H a x o ∧ Q (.bl (!o.isSome)) H
  | .nrp => fun x y H Q => ∃ z, x = .str z ∧ y = .str z ∧ Q (.bl false) H
  | .dne => fun x y H Q => ∃ a b ks, x = .ref a ∧ y = .ref b ∧ H a = some (.dK ks) ∧ H b = some (.dK []) ∧ Q (.bl (!ks.isEmpty)) H
def rNe0 : R2 := fun x y H Q => ∃ a b ks, x = .ref a ∧ y = .ref b ∧ H a = some (.dK ks) ∧ H b = some (.dK []) ∧ Q (.bl (!ks.isEmpty)) H
section
variable {X : Cx}
theorem op_ne0 (hu : X.A.units < cLine) : OpR X (compareOp .NotEq) rNe0 := by
  intro pins s σ H x y v u Q I rx ry h
  obtain ⟨a, b, ks, rfl, rfl, ea, eb, q⟩ := h
  obtain rfl : v = Value.ref a := rx
  obtain rfl : u = Value.ref b := ry
  obtain ⟨_, ya, va, ra, da⟩ := (show ObjOk X.prog X.w H s.heap a (.dK ks) from I.hok a _ ea)
  obtain ⟨_, yb, vb, rb, db⟩ := (show ObjOk X.prog X.w H s.heap b (.dK []) from I.hok b _ eb)
  have l1 : ks.length = va.length := ra.length
  have l2 : 0 = vb.length := rb.length
  refine PySem.W.keq_ne (knd := mixKind X.prog X.w) (r := true) ya yb da db hu (fun e => ?_) (fin_bl I q ?_)
  · obtain rfl : va = [] := List.eq_nil_of_length_eq_zero (by omega)
    exact .nil
  · rw [← l2, ← l1]
    cases ks <;> rfl
theorem op_inK (hu : X.A.units + 1 < cLine) : OpR X (compareOp .In) (fun x y H Q => ∃ a o, y = .ref a ∧ DGet H a x o ∧ Q (.bl o.isSome) H) := by
  intro pins s σ H x y v u Q I rx ry h
  obtain ⟨a, o, rfl, g, q⟩ := h
  obtain rfl : u = Value.ref a := ry
  exact d_in hu I g rx fun s3 I3 => ⟨.bl o.isSome, H, I3, rfl, q⟩
theorem op_notInK (hu : X.A.units + 1 < cLine) : OpR X (compareOp .NotIn) (fun x y H Q => ∃ a o, y = .ref a ∧ DGet H a x o ∧ Q (.bl (!o.isSome)) H) := by
  intro pins s σ H x y v u Q I rx ry h
  obtain ⟨a, o, rfl, g, q⟩ := h
  obtain rfl : u = Value.ref a := ry
  exact d_notIn hu I g rx fun s3 I3 => ⟨.bl (!o.isSome), H, I3, rfl, q⟩
theorem op_nrp : OpR X (compareOp .NotEq) (fun x y H Q => ∃ z, x = .str z ∧ y = .str z ∧ Q (.bl false) H) := by
  intro pins s σ H x y v u Q I rx ry h
  obtain ⟨z, rfl, rfl, q⟩ := h
  refine op_ne pins s σ H _ _ v u Q I rx ry ⟨rfl, ?_⟩
  rw [decide_eq_true rfl]
  exact q
theorem cm_ok (hu : X.A.units + 65 < cLine) : ∀ c : Cm, OpR X (compareOp (cmO c)) (rCm X.K c)
  | .lt => op_lt
  | .le => op_le
  | .gt => op_gt
  | .ge => op_ge
  | .eq => op_eqD (by omega)
  | .ne => op_neD (by omega)
  | .isN => op_isN
  | .notN => op_notN
  | .in_ => op_in_seq.or ((op_inD hu).or (op_inK (by omega)))
  | .notIn => op_notIn_seq.or ((op_notInD hu).or (op_notInK (by omega)))
  | .dne => op_ne0 (by omega)
  | .nrp => op_nrp
end
section
variable {t : Tb} {u : At} {F L : List Addr} {H : Hp} {M : Mem} {x y : D} {v w : V} {Φ : VQ} {Q : VK} {ds : List D}
mutual
theorem weak : ∀ (n : Nat) (d : D) (v : V), d.flat n = true → VRep t u F L H d v → VRep t u [] [] H d v
  | _, .non, v, _, r => r
  | _, .bl b, v, _, r => r
  | _, .int i, v, _, r => r
  | _, .str k, v, _, r => r
  | _, .rep k, v, f, _ => by simp [D.flat] at f
  | n + 1, .tup ds, v, f, r => by
    obtain ⟨a, vs, e, h1, _, _, r⟩ := r
    exact ⟨a, vs, e, h1, by simp, by simp, weakL n ds vs (by simpa [D.flat] using f) r⟩
  | n + 1, .lst ds, v, f, r => by
    obtain ⟨a, vs, e, h1, _, _, r⟩ := r
    exact ⟨a, vs, e, h1, by simp, by simp, weakL n ds vs (by simpa [D.flat] using f) r⟩
  | 0, .tup ds, _, f, _ => by simp [D.flat] at f
  | 0, .lst ds, _, f, _ => by simp [D.flat] at f
  | _, .scr ds, _, f, _ => by simp [D.flat] at f
  | _, .ref k, _, f, _ => by simp [D.flat] at f
theorem weakL : ∀ (n : Nat) (ds : List D) (vs : List V), (∀ d ∈ ds, d.flat n = true) → VRepL t u F L H ds vs → VRepL t u [] [] H ds vs
  | _, [], vs, _, r => r
  | n, d :: ds, vs, f, r => by
    obtain ⟨v, r', e, h1, h2⟩ := r
    exact ⟨v, r', e, weak n d v (f d List.mem_cons_self) h1, weakL n ds r' (fun e he => f e (List.mem_cons_of_mem _ he)) h2⟩
end
theorem rd_rep (m : MRep t u F L H M) (rx : VRep t u F L H x v) (f : (rd M x).flat 20 = true) : VRep t u [] [] H (rd M x) v := by
  cases x with
  | ref n =>
    unfold rd at f ⊢
    dsimp only at f ⊢
    split at f
    · rename_i ds hm
      obtain ⟨a, vs, e, _, h1, r⟩ := ref_ls m rx hm
      refine ⟨a, vs, e, h1, by simp, by simp, weakL 19 ds vs (by simpa [D.flat] using f) r⟩
    · simp [D.flat] at f
  | _ => exact weak 20 _ v f rx
theorem shaped_of (K : TxtOk t) {d : D} (f : d.flat 20 = true) (r : VRep t u F L H d v) : SeqAt.shaped (toPy t d) = true := by
  obtain ⟨h1, h2⟩ := canLay_of K 20 d v f r
  unfold SeqAt.shaped
  rw [h1, decide_eq_true (show (toPy t d).depth ≤ 64 by omega)]
  rfl
theorem eqD_ok (K : TxtOk t) (m : MRep t u F L H M) (rx : VRep t u F L H x v) (ry : VRep t u F L H y w) {P : Bool → Prop} (h : eqD M x y P) :
    ∃ d e, Dp u.K H v d ∧ Dp u.K H w e ∧ SeqAt.shaped d = true ∧ SeqAt.shaped e = true ∧ P (PyData.eqv d e) := by
  obtain ⟨f, g, h⟩ := h
  have r1 := rd_rep m rx f
  have r2 := rd_rep m ry g
  exact ⟨_, _, dp_of K 20 _ v f r1, dp_of K 20 _ w g r2, shaped_of K f r1, shaped_of K g r2, by rw [eqv_of K 20 20 _ _ v w f g r1 r2]; exact h⟩
theorem isNon_ok (rx : VRep t u F L H x v) : decide (v = .non) = isNon x := by
  cases x with
  | non => obtain rfl : v = .non := rx; rfl
  | rep d => obtain rfl : v = .str (toPy t d).shown := rx; rfl
  | bl b => obtain rfl : v = .bl b := rx; rfl
  | int i => obtain rfl : v = .int i := rx; rfl
  | str n => obtain ⟨z, _, rfl⟩ := rx; rfl
  | tup ds => obtain ⟨a, vs, rfl, _⟩ := rx; rfl
  | lst ds => obtain ⟨a, vs, rfl, _⟩ := rx; rfl
  | scr ds => obtain ⟨a, vs, rfl, _⟩ := rx; rfl
  | ref n => obtain ⟨a, rfl, _⟩ := rx; rfl
theorem atom_flat {d : D} (f : d.atom = true) (r : VRep t u F L H d v) : flatV v = true := by
  cases d with
  | non => obtain rfl : v = .non := r; rfl
  | bl b => obtain rfl : v = .bl b := r; rfl
  | int i => obtain rfl : v = .int i := r; rfl
  | str n => obtain ⟨z, _, rfl⟩ := r; rfl
  | _ => cases f
theorem atoms_flat : ∀ {ds : List D} {vs : List V}, ds.all D.atom = true → VRepL t u F L H ds vs → vs.all flatV = true
  | [], vs, _, r => by obtain rfl : vs = [] := r; rfl
  | d :: ds, vs, f, r => by
    obtain ⟨v, r', rfl, h1, h2⟩ := r
    have f : d.atom = true ∧ ds.all D.atom = true := by simpa using f
    rw [List.all_cons, atom_flat f.1 h1, atoms_flat f.2 h2]
    rfl
theorem atom_eqV (K : TxtOk t) {d e : D} (f : d.atom = true) (g : e.atom = true) (r : VRep t u F L H d v) (s : VRep t u F L H e w) : eqV v w = D.eqv d e := by
  cases d with
  | non =>
    obtain rfl : v = .non := r
    cases e with
    | non => obtain rfl : w = .non := s; rfl
    | bl b => obtain rfl : w = .bl b := s; rfl
    | int i => obtain rfl : w = .int i := s; rfl
    | str n => obtain ⟨z, _, rfl⟩ := s; rfl
    | _ => cases g
  | bl b =>
    obtain rfl : v = .bl b := r
    cases e with
    | non => obtain rfl : w = .non := s; rfl
    | bl b => obtain rfl : w = .bl b := s; rfl
    | int i => obtain rfl : w = .int i := s; rfl
    | str n => obtain ⟨z, _, rfl⟩ := s; rfl
    | _ => cases g
  | int i =>
    obtain rfl : v = .int i := r
    cases e with
    | non => obtain rfl : w = .non := s; rfl
    | bl b => obtain rfl : w = .bl b := s; rfl
    | int i => obtain rfl : w = .int i := s; rfl
    | str n => obtain ⟨z, _, rfl⟩ := s; rfl
    | _ => cases g
  | str n =>
    obtain ⟨z, hz, rfl⟩ := r
    cases e with
    | non => obtain rfl : w = .non := s; rfl
    | bl b => obtain rfl : w = .bl b := s; rfl
    | int i => obtain rfl : w = .int i := s; rfl
    | str k =>
      obtain ⟨z', hz', rfl⟩ := s
      show (z == z') = (n == k)
      by_cases hij : n = k
      · subst hij
        rw [hz] at hz'
        cases hz'
        simp
      · have hne : z ≠ z' := fun q => hij (by
          obtain ⟨l1, g1⟩ := List.getElem?_eq_some_iff.mp hz
          obtain ⟨l2, g2⟩ := List.getElem?_eq_some_iff.mp hz'
          exact (List.getElem_inj K.nd).mp (by rw [g1, g2, q]))
        rw [beq_eq_false_iff_ne.mpr hij, beq_eq_false_iff_ne.mpr hne]
    | _ => cases g
  | _ => cases f
theorem atoms_inV (K : TxtOk t) {d : D} (f : d.atom = true) (r : VRep t u F L H d v) : ∀ {ds : List D} {vs : List V}, ds.all D.atom = true → VRepL t u F L H ds vs → inV v vs = ds.any fun z => z.eqv d
  | [], vs, _, r => by obtain rfl : vs = [] := r; rfl
  | e :: ds, vs, g, s => by
    obtain ⟨w, s', rfl, h1, h2⟩ := s
    have g : e.atom = true ∧ ds.all D.atom = true := by simpa using g
    have ih := atoms_inV K f r g.2 h2
    unfold inV at ih ⊢
    rw [List.any_cons, List.any_cons, atom_eqV K g.1 f h1 r, ih]
theorem any_eqv (K : TxtOk t) {d : D} (f : d.flat 20 = true) (r : VRep t u F L H d v) : ∀ {ds : List D} {vs : List V}, (∀ e ∈ ds, e.flat 20 = true) → VRepL t u F L H ds vs → (toPyL t ds).any (fun z => PyData.eqv z (toPy t d)) = ds.any fun z => z.eqv d
  | [], vs, _, _ => rfl
  | e :: ds, vs, g, s => by
    obtain ⟨w, s', rfl, h1, h2⟩ := s
    show ((toPy t e).eqv (toPy t d) || (toPyL t ds).any _) = _
    rw [List.any_cons, eqv_of K 20 20 e d w v (g e List.mem_cons_self) f h1 r, any_eqv K f r (fun x hx => g x (List.mem_cons_of_mem _ hx)) h2]
theorem flat_mono : ∀ (n : Nat) (d : D), d.flat n = true → ∀ k, n ≤ k → d.flat k = true := by
  intro n
  induction n with
  | zero =>
    intro d f k _
    cases d <;> first | (cases k <;> rfl) | (simp [D.flat] at f)
  | succ n ih =>
    intro d f k hk
    obtain ⟨k, rfl⟩ : ∃ j, k = j + 1 := ⟨k - 1, by omega⟩
    cases d with
    | tup ds =>
      simp only [D.flat, List.all_eq_true] at f ⊢
      exact fun x hx => ih x (f x hx) k (by omega)
    | lst ds =>
      simp only [D.flat, List.all_eq_true] at f ⊢
      exact fun x hx => ih x (f x hx) k (by omega)
    | scr _ => simp [D.flat] at f
    | ref _ => simp [D.flat] at f
    | rep _ => simp [D.flat] at f
    | _ => rfl
theorem inL_ok (K : TxtOk t) (rx : VRep t u F L H x v) {a : Addr} {vs : List V} (h1 : H a = some (.lst vs)) (r : VRepL t u F L H ds vs) {P : Bool → Prop} (h : inL x ds P) :
    ∃ d ds', Dp u.K H v d ∧ Dp u.K H (.ref a) (.list ds') ∧ SeqAt.shaped d = true ∧ SeqAt.shaped (.list ds') = true ∧ P (ds'.any fun z => PyData.eqv z d) := by
  obtain ⟨f, g, h⟩ := h
  have g' : ∀ e ∈ ds, e.flat 20 = true := List.all_eq_true.mp g
  have r1 := weak 20 _ v f rx
  have r2 := weakL 20 _ vs g' r
  refine ⟨toPy t x, toPyL t ds, dp_of K 20 _ v f r1, .lst (.inl (.inl h1)) (dpAll_of K 20 ds vs g' r2), shaped_of K f r1, ?_, by rw [any_eqv K f rx g' r]; exact h⟩
  obtain ⟨c1, c2⟩ := canLayAll_of K 20 ds vs g' r2
  unfold SeqAt.shaped
  have e1 : (PyData.list (toPyL t ds)).canLay0 = true := by simpa [PyData.canLay0] using c1
  have e2 : (PyData.list (toPyL t ds)).depth ≤ 64 := by simp only [PyData.depth]; omega
  rw [e1, decide_eq_true e2]
  rfl
theorem ky_of (rx : VRep t u F L H x v) {k : Ky} (h : toKy x = some k) : ∃ k', kyR t k k' ∧ v = kV k' := by
  cases x with
  | int i =>
    obtain rfl : v = .int i := rx
    cases h
    exact ⟨.inl i, rfl, rfl⟩
  | str n =>
    obtain ⟨z, e, rfl⟩ := rx
    cases h
    exact ⟨.inr z, ⟨z, e, rfl⟩, rfl⟩
  | _ => cases h
theorem ky_eq (K : TxtOk t) {k j : Ky} {k' j' : Key} (a : kyR t k k') (b : kyR t j j') : (k = j) = (k' = j') := by
  apply propext
  cases k with
  | i n =>
    obtain rfl : k' = .inl n := a
    cases j with
    | i m =>
      obtain rfl : j' = .inl m := b
      constructor
      · intro h; cases h; rfl
      · intro h; cases h; rfl
    | s m =>
      obtain ⟨z, _, rfl⟩ := b
      constructor
      · intro h; cases h
      · intro h; cases h
  | s n =>
    obtain ⟨z, hz, rfl⟩ := a
    cases j with
    | i m =>
      obtain rfl : j' = .inl m := b
      constructor
      · intro h; cases h
      · intro h; cases h
    | s m =>
      obtain ⟨z', hz', rfl⟩ := b
      constructor
      · intro h
        cases h
        rw [hz] at hz'
        cases hz'
        rfl
      · intro h
        cases h
        obtain ⟨l1, g1⟩ := List.getElem?_eq_some_iff.mp hz
        obtain ⟨l2, g2⟩ := List.getElem?_eq_some_iff.mp hz'
        have e : n = m := (List.getElem_inj K.nd).mp (g1.trans g2.symm)
        rw [e]
theorem kget_ok (K : TxtOk t) {k : Ky} {k' : Key} (hk : kyR t k k') : ∀ {kvs : List (Ky × D)} {ws : List (Key × V)}, KRep t u F L H kvs ws →
    (∀ d, kget kvs k = some d → ∃ v, valV ws k' = some v ∧ VRep t u F L H d v) ∧ (kget kvs k = none → valV ws k' = none)
  | [], ws, r => by
    obtain rfl : ws = [] := r
    exact ⟨fun d h => (nomatch h), fun _ => rfl⟩
  | p :: kvs, ws, r => by
    obtain ⟨j, v, r', rfl, h1, h2, h3⟩ := r
    obtain ⟨i1, i2⟩ := kget_ok K hk h3
    have e := ky_eq K h1 hk
    by_cases hp : p.1 = k
    · have hj : j = k' := e.mp hp
      have g : kget (p :: kvs) k = some p.2 := by simp [kget, List.find?_cons, hp]
      rw [g, valV_pos (p := (j, v)) hj]
      exact ⟨fun d h => by cases h; exact ⟨v, rfl, h2⟩, fun h => by cases h⟩
    · have hj : ¬ j = k' := fun z => hp (e.mpr z)
      have g : kget (p :: kvs) k = kget kvs k := by simp [kget, List.find?_cons, hp]
      rw [g, valV_neg (p := (j, v)) hj]
      exact ⟨i1, i2⟩
theorem kget_some (K : TxtOk t) {k : Ky} {k' : Key} (hk : kyR t k k') {kvs : List (Ky × D)} {ws : List (Key × V)} (r : KRep t u F L H kvs ws) : (valV ws k').isSome = (kget kvs k).isSome := by
  obtain ⟨a, b⟩ := kget_ok K hk r
  cases e : kget kvs k with
  | none =>
    rw [b e]
    rfl
  | some d =>
    obtain ⟨v, h, _⟩ := a d e
    rw [h]
    rfl
theorem KRep.len : ∀ {kvs : List (Ky × D)} {ws : List (Key × V)}, KRep t u F L H kvs ws → kvs.length = ws.length
  | [], ws, r => by obtain rfl : ws = [] := r; rfl
  | p :: kvs, ws, r => by
    obtain ⟨j, v, r', rfl, h1, h2, h3⟩ := r
    rw [List.length_cons, List.length_cons, KRep.len h3]
theorem KRep.any (K : TxtOk t) {k : Ky} {k' : Key} (hk : kyR t k k') : ∀ {kvs : List (Ky × D)} {ws : List (Key × V)}, KRep t u F L H kvs ws → (ws.any fun kv => decide (kv.1 = k')) = (kvs.any fun kv => decide (kv.1 = k))
  | [], ws, r => by obtain rfl : ws = [] := r; rfl
  | p :: kvs, ws, r => by
    obtain ⟨j, v, r', rfl, h1, h2, h3⟩ := r
    rw [List.any_cons, List.any_cons, KRep.any K hk h3]
    congr 1
    exact decide_eq_decide.mpr (by rw [ky_eq K h1 hk])
theorem KRep.app : ∀ {kvs es : List (Ky × D)} {ws fs : List (Key × V)}, KRep t u F L H kvs ws → KRep t u F L H es fs → KRep t u F L H (kvs ++ es) (ws ++ fs)
  | [], es, ws, fs, r, s => by obtain rfl : ws = [] := r; exact s
  | p :: kvs, es, ws, fs, r, s => by
    obtain ⟨j, v, r', rfl, h1, h2, h3⟩ := r
    exact ⟨j, v, r' ++ fs, rfl, h1, h2, KRep.app h3 s⟩
theorem KRep.put (K : TxtOk t) {k : Ky} {k' : Key} (hk : kyR t k k') {d : D} {v : V} (hd : VRep t u F L H d v) {kvs : List (Ky × D)} {ws : List (Key × V)} (r : KRep t u F L H kvs ws) : KRep t u F L H (kput kvs k d) (putK ws k' v) := by
  have mp : ∀ {kvs : List (Ky × D)} {ws : List (Key × V)}, KRep t u F L H kvs ws → KRep t u F L H (kvs.map (fun kv => if kv.1 = k then (kv.1, d) else kv)) (ws.map (fun kv => if kv.1 = k' then (kv.1, v) else kv)) := by
    intro kvs
    induction kvs with
    | nil => intro ws r; obtain rfl : ws = [] := r; rfl
    | cons p kvs ih =>
      intro ws r
      obtain ⟨j, w, r', rfl, h1, h2, h3⟩ := r
      rw [List.map_cons, List.map_cons]
      by_cases hp : p.1 = k
      · have hj : j = k' := (ky_eq K h1 hk).mp hp
        rw [if_pos hp, if_pos (show (j, w).1 = k' from hj)]
        exact ⟨j, v, _, rfl, h1, hd, ih h3⟩
      · have hj : ¬ j = k' := fun z => hp ((ky_eq K h1 hk).mpr z)
        rw [if_neg hp, if_neg (show ¬ (j, w).1 = k' from hj)]
        exact ⟨j, w, _, rfl, h1, h2, ih h3⟩
  unfold kput putK
  rw [r.any K hk]
  by_cases h : (kvs.any fun kv => decide (kv.1 = k)) = true
  · rw [if_pos h, if_pos h]
    exact mp r
  · rw [if_neg h, if_neg h]
    exact r.app ⟨k', v, [], rfl, hk, hd, rfl⟩
theorem KRep.drop (K : TxtOk t) {k : Ky} {k' : Key} (hk : kyR t k k') : ∀ {kvs : List (Ky × D)} {ws : List (Key × V)}, KRep t u F L H kvs ws → KRep t u F L H (kdrop kvs k) (dropK ws k')
  | [], ws, r => by obtain rfl : ws = [] := r; rfl
  | p :: kvs, ws, r => by
    obtain ⟨j, w, r', rfl, h1, h2, h3⟩ := r
    have ih := KRep.drop K hk h3
    unfold kdrop dropK at ih ⊢
    by_cases hp : p.1 = k
    · have hj : j = k' := (ky_eq K h1 hk).mp hp
      rw [List.filter_cons_of_neg (by simp [hp]), List.filter_cons_of_neg (by simp [hj])]
      exact ih
    · have hj : ¬ j = k' := fun z => hp ((ky_eq K h1 hk).mpr z)
      rw [List.filter_cons_of_pos (by simp [hp]), List.filter_cons_of_pos (by simp [hj])]
      exact ⟨j, w, _, rfl, h1, h2, ih⟩
theorem KRep.ints : ∀ {ns : List Int} {kvs : List (Ky × D)} {ws : List (Key × V)}, KRep t u F L H kvs ws → kvs.map (·.1) = ns.map Ky.i → ws.map (·.1) = ns.map Sum.inl
  | [], kvs, ws, r, e => by
    have : kvs = [] := by simpa using e
    subst this
    obtain rfl : ws = [] := r
    rfl
  | n :: ns, kvs, ws, r, e => by
    cases kvs with
    | nil => simp at e
    | cons p kvs =>
      obtain ⟨j, w, r', rfl, h1, h2, h3⟩ := r
      simp only [List.map_cons, List.cons.injEq] at e
      obtain ⟨e1, e2⟩ := e
      rw [e1] at h1
      obtain rfl : j = .inl n := h1
      rw [List.map_cons, KRep.ints h3 e2]
      rfl
theorem inD_ok (K : TxtOk t) (m : MRep t u F L H M) (rx : VRep t u F L H x v) (ry : VRep t u F L H y w) {P : Bool → Prop} (h : inD M x y P) :
    (∃ p xs, w = .ref p ∧ (SqL u.K H p xs ∨ SqT u.K H p xs) ∧ flatV v = true ∧ xs.all flatV = true ∧ P (inV v xs)) ∨
    (∃ d ds, Dp u.K H v d ∧ Dp u.K H w (.list ds) ∧ SeqAt.shaped d = true ∧ SeqAt.shaped (.list ds) = true ∧ P (ds.any fun z => PyData.eqv z d)) ∨
    ∃ a o, w = .ref a ∧ DGet H a v o ∧ P o.isSome := by
  cases y with
  | tup ds =>
    obtain ⟨a, vs, rfl, h1, _, _, r⟩ := ry
    obtain ⟨f, g, h⟩ := h
    exact .inl ⟨a, vs, rfl, .inr (.inl h1.rd), atom_flat f rx, atoms_flat g r, by rw [atoms_inV K f rx g r]; exact h⟩
  | lst ds =>
    obtain ⟨a, vs, rfl, h1, _, _, r⟩ := ry
    exact .inr (.inl (inL_ok K rx h1 r h))
  | ref n =>
    have h : (match M[n]? with
      | some (.lst ds) => inL x ds P
      | some (.dct kvs) => ifKy x fun k => P (kget kvs k).isSome
      | _ => False) := h
    split at h
    · rename_i ds hm
      obtain ⟨a, vs, rfl, _, h1, r⟩ := ref_ls m ry hm
      exact .inr (.inl (inL_ok K rx h1 r h))
    · rename_i kvs hm
      obtain ⟨a, ws, rfl, _, h1, r⟩ := ref_dc m ry hm
      obtain ⟨k, hk, h⟩ := ifKy_ex h
      obtain ⟨k', hk', rfl⟩ := ky_of rx hk
      exact .inr (.inr ⟨a, _, rfl, DGet.k h1, by rw [kget_some K hk' r]; exact h⟩)
    · exact h.elim
  | _ => exact (show False from h).elim
theorem cmD_ok (K : TxtOk t) (m : MRep t u F L H M) (rx : VRep t u F L H x v) (ry : VRep t u F L H y w) {P : Bool → Prop} : ∀ c : Cm, cmD c M x y P → (∀ b, P b → Q (.bl b) H) → rCm u.K c v w H Q
  | .lt, h, hQ => by
    obtain ⟨i, rfl, h⟩ := ifInt_ex h
    obtain ⟨j, rfl, h⟩ := ifInt_ex h
    obtain rfl : v = .int i := rx
    obtain rfl : w = .int j := ry
    exact ⟨i, j, rfl, rfl, hQ _ h⟩
  | .le, h, hQ => by
    obtain ⟨i, rfl, h⟩ := ifInt_ex h
    obtain ⟨j, rfl, h⟩ := ifInt_ex h
    obtain rfl : v = .int i := rx
    obtain rfl : w = .int j := ry
    exact ⟨i, j, rfl, rfl, hQ _ h⟩
  | .gt, h, hQ => by
    obtain ⟨i, rfl, h⟩ := ifInt_ex h
    obtain ⟨j, rfl, h⟩ := ifInt_ex h
    obtain rfl : v = .int i := rx
    obtain rfl : w = .int j := ry
    exact ⟨i, j, rfl, rfl, hQ _ h⟩
  | .ge, h, hQ => by
    obtain ⟨i, rfl, h⟩ := ifInt_ex h
    obtain ⟨j, rfl, h⟩ := ifInt_ex h
    obtain rfl : v = .int i := rx
    obtain rfl : w = .int j := ry
    exact ⟨i, j, rfl, rfl, hQ _ h⟩
  | .eq, h, hQ => by
    obtain ⟨d, e, h1, h2, h3, h4, h⟩ := eqD_ok K m rx ry h
    exact ⟨d, e, h1, h2, h3, h4, hQ _ h⟩
  | .ne, h, hQ => by
    obtain ⟨d, e, h1, h2, h3, h4, h⟩ := eqD_ok (P := fun b => P (!b)) K m rx ry h
    exact ⟨d, e, h1, h2, h3, h4, hQ _ h⟩
  | .isN, h, hQ => by
    cases y with
    | non =>
      obtain rfl : w = .non := ry
      exact ⟨rfl, by rw [isNon_ok rx]; exact hQ _ h⟩
    | _ => exact (show False from h).elim
  | .notN, h, hQ => by
    cases y with
    | non =>
      obtain rfl : w = .non := ry
      exact ⟨rfl, by rw [isNon_ok rx]; exact hQ _ h⟩
    | _ => exact (show False from h).elim
  | .nrp, h, hQ => by
    cases x with
    | rep a =>
      cases y with
      | rep b =>
        obtain ⟨rfl, h⟩ : a = b ∧ P false := h
        obtain rfl : v = .str (toPy t a).shown := rx
        obtain rfl : w = .str (toPy t a).shown := ry
        exact ⟨_, rfl, rfl, hQ _ h⟩
      | _ => exact (show False from h).elim
    | _ => exact (show False from h).elim
  | .dne, h, hQ => by
    obtain ⟨n, rfl, h⟩ := ifRef_ex h
    obtain ⟨ks, h1, h⟩ := ifK_ex h
    obtain ⟨m', rfl, h⟩ := ifRef_ex h
    obtain ⟨ls, h2, rfl, h⟩ := ifK_ex h
    obtain ⟨a, ws, rfl, _, k1, r⟩ := ref_dc m rx h1
    obtain ⟨b, ws', rfl, _, k2, r'⟩ := ref_dc m ry h2
    obtain rfl : ws' = [] := r'
    refine ⟨a, b, ws, rfl, rfl, k1, k2, hQ _ ?_⟩
    cases ks with
    | nil =>
      obtain rfl : ws = [] := r
      exact h
    | cons p r0 =>
      obtain ⟨k', v, r1, rfl, _⟩ := r
      exact h
  | .in_, h, hQ => by
    rcases inD_ok K m rx ry h with ⟨p, xs, a, b, c, d, h⟩ | ⟨d, ds, a, b, c, e, h⟩ | ⟨a, o, b, c, h⟩
    · exact .inl ⟨p, xs, a, b, c, d, hQ _ h⟩
    · exact .inr (.inl ⟨d, ds, a, b, c, e, hQ _ h⟩)
    · exact .inr (.inr ⟨a, o, b, c, hQ _ h⟩)
  | .notIn, h, hQ => by
    rcases inD_ok (P := fun b => P (!b)) K m rx ry h with ⟨p, xs, a, b, c, d, h⟩ | ⟨d, ds, a, b, c, e, h⟩ | ⟨a, o, b, c, h⟩
    · exact .inl ⟨p, xs, a, b, c, d, hQ _ h⟩
    · exact .inr (.inl ⟨d, ds, a, b, c, e, hQ _ h⟩)
    · exact .inr (.inr ⟨a, o, b, c, hQ _ h⟩)
theorem trD_ok (m : MRep t u F L H M) (rx : VRep t u F L H x v) {P : Bool → Prop} (h : trD M x P) : ∃ k, TruV u.K v H k ∧ P k := by
  cases x with
  | non => obtain rfl : v = .non := rx; exact ⟨false, rfl, h⟩
  | bl b => obtain rfl : v = .bl b := rx; exact ⟨b, rfl, h⟩
  | int i =>
    obtain rfl : v = .int i := rx
    refine ⟨!decide (i = 0), ?_, h⟩
    show _ = (i != 0)
    by_cases hi : i = 0
    · simp [hi]
    · simp [hi]
  | str n => exact (show False from h).elim
  | rep n => exact (show False from h).elim
  | tup ds =>
    obtain ⟨a, vs, rfl, h1, _, _, r⟩ := rx
    exact ⟨_, .inr (.inl ⟨vs, .inl h1.rd, by rw [r.isEmpty]⟩), h⟩
  | lst ds =>
    obtain ⟨a, vs, rfl, h1, _, _, r⟩ := rx
    exact ⟨_, .inl ⟨vs, .inl (.inl h1), by rw [r.isEmpty]⟩, h⟩
  | scr ds =>
    obtain ⟨a, vs, rfl, h1, r⟩ := rx
    refine ⟨_, .inl ⟨vs, ?_, by rw [r.isEmpty]⟩, h⟩
    rcases h1 with ⟨h1, _⟩ | h1
    · exact .inl h1
    · exact .inr h1
  | ref n =>
    have h : (match M[n]? with
      | some (.lst ds) => P (!ds.isEmpty)
      | some (.dct kvs) => P (!kvs.isEmpty)
      | _ => False) := h
    split at h
    · rename_i ds hm
      obtain ⟨a, vs, rfl, _, h1, r⟩ := ref_ls m rx hm
      exact ⟨_, .inl ⟨vs, .inl (.inl h1), by rw [r.isEmpty]⟩, h⟩
    · rename_i kvs hm
      obtain ⟨a, ws, rfl, _, h1, r⟩ := ref_dc m rx hm
      refine ⟨_, .inr (.inr ⟨ws, h1, ?_⟩), h⟩
      cases kvs with
      | nil => rw [show ws = [] from r]; rfl
      | cons p kvs => obtain ⟨_, _, _, rfl, _⟩ := r; rfl
    · exact h.elim
theorem at_ok (r : VRepL t u F L H ds vs) {i : Int} {d : D} (h : at? ds i = some d) : ∃ v, atI vs i = some v ∧ VRep t u F L H d v := by
  have e := VRepL.len _ _ r
  unfold at? at h
  unfold atI ixN
  by_cases h0 : 0 ≤ i
  · rw [if_pos h0] at h
    obtain ⟨v, h1, h2⟩ := r.get h
    have hl : i.toNat < vs.length := (List.getElem?_eq_some_iff.mp h1).1
    rw [if_pos h0, if_pos (by omega)]
    exact ⟨v, h1, h2⟩
  · rw [if_neg h0] at h
    by_cases h1 : -(ds.length : Int) ≤ i
    · rw [if_pos h1] at h
      obtain ⟨v, h2, h3⟩ := r.get h
      rw [if_neg h0, if_pos (by omega)]
      rw [e] at h2
      exact ⟨v, h2, h3⟩
    · rw [if_neg h1] at h
      cases h
end
end Z
set_option Elab.async false
set_option linter.all false
set_option maxRecDepth 100000
set_option maxHeartbeats 1000000
namespace Z
open PySem PySem.Spec PyProof.Rows L2
theorem ins1_perm (x : Int) : ∀ l : List Int, (ins1 x l).Perm (x :: l)
  | [] => .refl _
  | y :: r => by
    unfold ins1
    split
    · exact .refl _
    · exact ((ins1_perm x r).cons y).trans (.swap x y r)
theorem isort_perm : ∀ l : List Int, (isort l).Perm l
  | [] => .refl _
  | x :: r => (ins1_perm x (isort r)).trans ((isort_perm r).cons x)
theorem ins1_sorted (x : Int) : ∀ l : List Int, l.Pairwise (· ≤ ·) → (ins1 x l).Pairwise (· ≤ ·)
  | [], _ => by simp [ins1]
  | y :: r, h => by
    have h2 := List.pairwise_cons.mp h
    unfold ins1
    split
    · rename_i hxy
      refine List.pairwise_cons.mpr ⟨fun z hz => ?_, h⟩
      rcases List.mem_cons.mp hz with e | hz
      · rw [e]; exact hxy
      · exact Int.le_trans hxy (h2.1 z hz)
    · rename_i hxy
      refine List.pairwise_cons.mpr ⟨fun z hz => ?_, ins1_sorted x r h2.2⟩
      rcases List.mem_cons.mp ((ins1_perm x r).mem_iff.mp hz) with e | hz
      · rw [e]; omega
      · exact h2.1 z hz
theorem isort_sorted : ∀ l : List Int, (isort l).Pairwise (· ≤ ·)
  | [] => List.Pairwise.nil
  | x :: r => ins1_sorted x _ (isort_sorted r)
theorem isort_one {l l' : List Int} (p : l'.Perm l) (s : l'.Pairwise (· ≤ ·)) : l' = isort l :=
  List.Perm.eq_of_pairwise (le := (· ≤ ·)) (fun a b _ _ h1 h2 => Int.le_antisymm h1 h2) s (isort_sorted l) (p.trans (isort_perm l).symm)
theorem isort_length (l : List Int) : (isort l).length = l.length := (isort_perm l).length_eq
theorem minL_le : ∀ (m : Int) (l : List Int), minL m l ≤ m ∧ ∀ x ∈ l, minL m l ≤ x
  | m, [] => ⟨Int.le_refl _, by simp⟩
  | m, x :: r => by
    obtain ⟨h1, h2⟩ := minL_le (if x < m then x else m) r
    unfold minL
    refine ⟨?_, fun y hy => ?_⟩
    · split at h1 <;> rename_i h <;> simp only [h, if_true, if_false] at h1 ⊢ <;> omega
    · rcases List.mem_cons.mp hy with e | hy
      · subst e
        split at h1 <;> rename_i h <;> simp only [h, if_true, if_false] at h1 ⊢ <;> omega
      · exact h2 y hy
theorem minL_mem : ∀ (m : Int) (l : List Int), minL m l ∈ m :: l
  | m, [] => by simp [minL]
  | m, x :: r => by
    have h := minL_mem (if x < m then x else m) r
    unfold minL
    rcases List.mem_cons.mp h with e | h
    · rw [e]
      split <;> simp
    · exact List.mem_cons_of_mem _ (List.mem_cons_of_mem _ h)
theorem minL_one {m n : Int} {l : List Int} (h : m ∈ n :: l) (g : ∀ y ∈ n :: l, m ≤ y) : m = minL n l := by
  obtain ⟨h1, h2⟩ := minL_le n l
  have a : minL n l ≤ m := by
    rcases List.mem_cons.mp h with e | h
    · rw [e]; exact h1
    · exact h2 m h
  exact Int.le_antisymm (g _ (minL_mem n l)) a
theorem maxL_ge : ∀ (m : Int) (l : List Int), m ≤ maxL m l ∧ ∀ x ∈ l, x ≤ maxL m l
  | m, [] => ⟨Int.le_refl _, by simp⟩
  | m, x :: r => by
    obtain ⟨h1, h2⟩ := maxL_ge (if m < x then x else m) r
    unfold maxL
    refine ⟨?_, fun y hy => ?_⟩
    · split at h1 <;> rename_i h <;> simp only [h, if_true, if_false] at h1 ⊢ <;> omega
    · rcases List.mem_cons.mp hy with e | hy
      · subst e
        split at h1 <;> rename_i h <;> simp only [h, if_true, if_false] at h1 ⊢ <;> omega
      · exact h2 y hy
theorem maxL_mem : ∀ (m : Int) (l : List Int), maxL m l ∈ m :: l
  | m, [] => by simp [maxL]
  | m, x :: r => by
    have h := maxL_mem (if m < x then x else m) r
    unfold maxL
    rcases List.mem_cons.mp h with e | h
    · rw [e]
      split <;> simp
    · exact List.mem_cons_of_mem _ (List.mem_cons_of_mem _ h)
theorem maxL_one {m n : Int} {l : List Int} (h : m ∈ n :: l) (g : ∀ y ∈ n :: l, y ≤ m) : m = maxL n l := by
  obtain ⟨h1, h2⟩ := maxL_ge n l
  have a : m ≤ maxL n l := by
    rcases List.mem_cons.mp h with e | h
    · rw [e]; exact h1
    · exact h2 m h
  exact Int.le_antisymm a (g _ (maxL_mem n l))
def rIxA (K : PySem.W.Frag) : R2 := fun x y H Q => rIxL K x y H Q ∨ rIxT K x y H Q ∨ ∃ a v, x = .ref a ∧ DGet H a y (some v) ∧ Q v H
theorem ix_dict {X : Cx} (hu : X.A.units + 1 < cLine) : IxR X (fun x y H Q => ∃ a v, x = .ref a ∧ DGet H a y (some v) ∧ Q v H) := by
  intro value slice pins s σ H x y v u Q I rx ry h hs
  obtain ⟨a, r, rfl, g, q⟩ := h
  obtain rfl : v = Value.ref a := rx
  exact tail_any (dict_typeIs I g) PySem.F.slot_dict_getitem.lookup (d_getItem hu I g ry fun w' s3 I3 rw' => ⟨r, H, I3, rw', q⟩) hs
theorem ix_ok {X : Cx} (hu : X.A.units + 1 < cLine) : IxR X (rIxA X.K) := ix_list.or (ix_tup.or (ix_dict hu))
def rSlB (K : PySem.W.Frag) : V → Option Int → Option Int → Hp → VK → Prop := fun x lo hi H Q => rSlL K x lo hi H Q ∨ rSlF K x lo hi H Q
theorem sl_ok {X : Cx} : SlR X (Z.rSlB X.K) := sl_list.or sl_tupF
theorem ifSeq_rep {t : Tb} {u : At} {F L : List Addr} {H : Hp} {M : Mem} {x : D} {v : V} {P : List D → Prop} (m : MRep t u F L H M) (rx : VRep t u F L H x v) (h : ifSeq M x P) :
    (∃ ds a vs, v = .ref a ∧ SqL u.K H a vs ∧ VRepL t u F L H ds vs ∧ P ds) ∨ ∃ ds a vs, v = .ref a ∧ SqT u.K H a vs ∧ VRepL t u F L H ds vs ∧ P ds := by
  have lc : ifLst M x P → (∃ ds a vs, v = .ref a ∧ SqL u.K H a vs ∧ VRepL t u F L H ds vs ∧ P ds) ∨ ∃ ds a vs, v = .ref a ∧ SqT u.K H a vs ∧ VRepL t u F L H ds vs ∧ P ds := fun h => .inl (ifLst_rep m rx h)
  cases x with
  | tup ds =>
    obtain ⟨a, vs, rfl, h1, _, _, r⟩ := rx
    exact .inr ⟨ds, a, vs, rfl, .inl h1.rd, r, h⟩
  | lst _ => exact lc h
  | scr _ => exact lc h
  | ref _ => exact lc h
  | _ => exact (show False from h).elim
def b1N : B1 → Str
  | .len => "len" | .sum => "sum" | .all => "all" | .any => "any" | .abs => "abs" | .tuple => "tuple" | .sorted => "sorted" | .sortedK => "sorted" | .min => "min" | .minK => "min" | .max => "max" | .int => "int"
def b1V : B1 → Value
  | .len => .builtin "len" | .sum => .builtin "sum" | .all => .builtin "all" | .any => .builtin "any" | .abs => .builtin "abs" | .tuple => .type "tuple" | .sorted => .builtin "sorted" | .sortedK => .builtin "sorted" | .min => .builtin "min" | .minK => .builtin "min" | .max => .builtin "max" | .int => .type "int"
def rB1 (K : PySem.W.Frag) : B1 → List V → Hp → VK → Prop
  | .len => fun xs H Q => (∃ p ys, xs = [.ref p] ∧ (SqL K H p ys ∨ SqT K H p ys) ∧ Q (.int ys.length) H) ∨ ∃ a kvs, xs = [.ref a] ∧ H a = some (.dK kvs) ∧ Q (.int kvs.length) H
  | .sum => rSum K
  | .all => rAll K
  | .any => rAny K
  | .abs => fun xs H Q => ∃ i, xs = [.int i] ∧ Q (.int (if i < 0 then -i else i)) H
  | .tuple => fun xs H Q => ∃ p ys, xs = [.ref p] ∧ ((SqL K H p ys ∧ NT H ys Q) ∨ (SqT K H p ys ∧ Q (.ref p) H))
  | .sorted => fun xs H Q => rSortedI K xs H Q ∨ rSortedTI K xs H Q
  | .sortedK => fun xs H Q => ∃ a kvs ks, xs = [.ref a] ∧ Rd H a (.dK kvs) ∧ kvs.map (·.1) = ks.map Sum.inl ∧ ks.length < 64 ∧ ∀ (ys : List Int) (p : Addr), ys.Perm ks → ys.Pairwise (· ≤ ·) → H p = none → Q (.ref p) (upd H p (.lst (ys.map V.int)))
  | .min => fun xs H Q => rMin K xs H Q ∨ rMinTI K xs H Q
  | .minK => rMinK
  | .max => fun xs H Q => rMax K xs H Q ∨ rMaxTI K xs H Q
  | .int => fun xs H Q => (∃ i, xs = [.int i] ∧ Q (.int i) H) ∨ ∃ k, xs = [.bl k] ∧ Q (.int (if k then 1 else 0)) H
theorem CallR.or {X : Cx} {f : Value} {r r' : List V → Hp → VK → Prop} (h : CallR X f r) (h' : CallR X f r') : CallR X f (fun xs H Q => r xs H Q ∨ r' xs H Q) := by
  intro pins s σ H xs us Q I rx q
  rcases q with q | q
  · exact h pins s σ H xs us Q I rx q
  · exact h' pins s σ H xs us Q I rx q
theorem b1_ok {X : Cx} (hc : X.calm = true) : ∀ b : B1, CallR X (b1V b) (rB1 X.K b)
  | .len => CallR.or call_len_seq call_lenD
  | .sum => cr_sum hc
  | .all => cr_all hc
  | .any => cr_any hc
  | .abs => call_abs
  | .tuple => call_tupleF
  | .sorted => CallR.or cr_sortedI cr_sortedTI
  | .sortedK => call_sortedDI hc
  | .min => CallR.or (cr_min hc) (cr_minTI hc)
  | .minK => cr_minK hc
  | .max => CallR.or (cr_max hc) (cr_maxTI hc)
  | .int => call_int1
section
variable {t : Tb} {u : At} {F L : List Addr} {H : Hp} {M : Mem} {x y : D} {v w : V} {Φ : VQ} {Q : VK} {ds : List D} {vs : List V}
theorem ixL_ok (m : MRep t u F L H M) (r : VRepL t u F L H ds vs) (ry : VRep t u F L H y w) (h : ixL M ds y Φ) (hQ : Aft t u F L H Φ Q) : ∃ i v, w = .int i ∧ atI vs i = some v ∧ Q v H := by
  obtain ⟨i, rfl, d, e, h⟩ := ifInt_ex h
  obtain rfl : w = .int i := ry
  obtain ⟨v, h1, h2⟩ := at_ok r e
  exact ⟨i, v, rfl, h1, aft_same m h hQ h2⟩
theorem ixD_ok (K : TxtOk t) (m : MRep t u F L H M) (rx : VRep t u F L H x v) (ry : VRep t u F L H y w) (h : ixD M x y Φ) (hQ : Aft t u F L H Φ Q) : rIxA u.K v w H Q := by
  cases x with
  | tup ds =>
    obtain ⟨a, vs, rfl, h1, _, _, r⟩ := rx
    obtain ⟨i, v, rfl, e, q⟩ := ixL_ok m r ry h hQ
    exact .inr (.inl ⟨a, vs, i, v, rfl, rfl, .inl h1.rd, e, q⟩)
  | lst ds =>
    obtain ⟨a, vs, rfl, h1, _, _, r⟩ := rx
    obtain ⟨i, v, rfl, e, q⟩ := ixL_ok m r ry h hQ
    exact .inl ⟨a, vs, i, v, rfl, rfl, .inl (.inl h1), e, q⟩
  | scr ds =>
    obtain ⟨a, vs, rfl, h1, r⟩ := rx
    obtain ⟨i, v, rfl, e, q⟩ := ixL_ok m r ry h hQ
    refine .inl ⟨a, vs, i, v, rfl, rfl, ?_, e, q⟩
    rcases h1 with ⟨h1, _⟩ | h1
    · exact .inl h1
    · exact .inr h1
  | ref n =>
    have h : (match M[n]? with
      | some (.lst ds) => ixL M ds y Φ
      | some (.dct kvs) => ifKy y fun k => ∃ d, kget kvs k = some d ∧ Φ d M
      | _ => False) := h
    split at h
    · rename_i ds hm
      obtain ⟨a, vs, rfl, _, h1, r⟩ := ref_ls m rx hm
      obtain ⟨i, v, rfl, e, q⟩ := ixL_ok m r ry h hQ
      exact .inl ⟨a, vs, i, v, rfl, rfl, .inl (.inl h1), e, q⟩
    · rename_i kvs hm
      obtain ⟨a, ws, rfl, _, h1, r⟩ := ref_dc m rx hm
      obtain ⟨k, hk, d, e, h⟩ := ifKy_ex h
      obtain ⟨k', hk', rfl⟩ := ky_of ry hk
      obtain ⟨v, h2, h3⟩ := (kget_ok K hk' r).1 d e
      exact .inr (.inr ⟨a, v, rfl, by rw [← h2]; exact DGet.k h1, aft_same m h hQ h3⟩)
    · exact h.elim
  | _ => exact (show False from h).elim
theorem slD_ok (m : MRep t u F L H M) (rx : VRep t u F L H x v) {lo hi : Option Int} (h : slD M x lo hi Φ) (hQ : Aft t u F L H Φ Q) : Z.rSlB u.K v lo hi H Q := by
  have lc : (ifLst M x fun ds => Φ (.lst (cut ds lo hi)) M) → Z.rSlB u.K v lo hi H Q := fun h => by
    obtain ⟨ds, a, vs, rfl, h1, r, h⟩ := ifLst_rep m rx h
    exact .inl ⟨a, vs, rfl, h1, new_lst m (r.cut lo hi) h hQ⟩
  cases x with
  | tup ds =>
    have rx' := rx
    obtain ⟨a, vs, rfl, h1, _, _, r⟩ := rx
    refine .inr ⟨a, vs, rfl, .inl h1.rd, fun e => ?_, fun _ => new_tup m (r.cut lo hi) h hQ⟩
    have e2 : cut ds lo hi = ds := by
      unfold cut
      rw [VRepL.len _ _ r, e.1, e.2, List.drop_zero, Nat.sub_zero, ← VRepL.len _ _ r, List.take_length]
    have h : Φ (.tup (cut ds lo hi)) M := h
    rw [e2] at h
    exact aft_same m h hQ rx'
  | lst _ => exact lc h
  | scr _ => exact lc h
  | ref _ => exact lc h
  | _ => exact (show False from h).elim
theorem lofD_ok (m : MRep t u F L H M) (rx : VRep t u F L H x v) {b : Bool} (h : lofD b M x Φ) (hQ : Aft t u F L H Φ Q) : ∃ p ys, [v] = [V.ref p] ∧ (SqL u.K H p ys ∨ SqT u.K H p ys) ∧ ∀ l, H l = none → Q (.ref l) (upd H l (.lst ys)) := by
  have lc : (ifLst M x fun ds => fresh b ds M Φ) → ∃ p ys, [v] = [V.ref p] ∧ (SqL u.K H p ys ∨ SqT u.K H p ys) ∧ ∀ l, H l = none → Q (.ref l) (upd H l (.lst ys)) := fun h => by
    obtain ⟨ds, a, vs, rfl, h1, r, h⟩ := ifLst_rep m rx h
    exact ⟨a, vs, rfl, .inl h1, new_fresh m r h hQ⟩
  cases x with
  | tup ds =>
    obtain ⟨a, vs, rfl, h1, _, _, r⟩ := rx
    exact ⟨a, vs, rfl, .inr (.inl h1.rd), new_fresh m r h hQ⟩
  | lst _ => exact lc h
  | scr _ => exact lc h
  | ref _ => exact lc h
  | _ => exact (show False from h).elim
theorem b1D_ok (m : MRep t u F L H M) (rx : VRep t u F L H x v) {f : Bool} : ∀ b : B1, b1D b f M x Φ → Aft t u F L H Φ Q → rB1 u.K b [v] H Q
  | .len, h, hQ => by
    cases x with
    | tup ds =>
      obtain ⟨a, vs, rfl, h1, _, _, r⟩ := rx
      exact .inl ⟨a, vs, rfl, .inr (.inl h1.rd), aft_same m (d := .int ds.length) h hQ (by rw [VRepL.len _ _ r]; rfl)⟩
    | lst ds =>
      obtain ⟨a, vs, rfl, h1, _, _, r⟩ := rx
      exact .inl ⟨a, vs, rfl, .inl (.inl (.inl h1)), aft_same m (d := .int ds.length) h hQ (by rw [VRepL.len _ _ r]; rfl)⟩
    | scr ds =>
      obtain ⟨a, vs, rfl, h1, r⟩ := rx
      refine .inl ⟨a, vs, rfl, .inl ?_, aft_same m (d := .int ds.length) h hQ (by rw [VRepL.len _ _ r]; rfl)⟩
      rcases h1 with ⟨h1, _⟩ | h1
      · exact .inl h1
      · exact .inr h1
    | ref n =>
      have h : (match M[n]? with
        | some (.lst ds) => Φ (.int ds.length) M
        | some (.dct kvs) => Φ (.int kvs.length) M
        | _ => False) := h
      split at h
      · rename_i ds hm
        obtain ⟨a, vs, rfl, _, h1, r⟩ := ref_ls m rx hm
        exact .inl ⟨a, vs, rfl, .inl (.inl (.inl h1)), aft_same m (d := .int ds.length) h hQ (by rw [VRepL.len _ _ r]; rfl)⟩
      · rename_i kvs hm
        obtain ⟨a, ws, rfl, _, h1, r⟩ := ref_dc m rx hm
        exact .inr ⟨a, ws, rfl, h1, aft_same m (d := .int kvs.length) h hQ (by rw [KRep.len r]; rfl)⟩
      · exact h.elim
    | _ => exact (show False from h).elim
  | .sum, h, hQ => by
    obtain ⟨ds, a, vs, rfl, h1, r, ns, rfl, h⟩ := ifLst_rep m rx h
    obtain rfl := r.ints
    exact ⟨a, ns, rfl, h1, aft_same m (d := .int ns.sum) h hQ rfl⟩
  | .all, h, hQ => by
    obtain ⟨ds, a, vs, rfl, h1, r, ns, rfl, h⟩ := ifLst_rep m rx h
    obtain rfl := r.bls
    exact ⟨a, ns, rfl, h1, aft_same m (d := .bl (ns.all id)) h hQ rfl⟩
  | .any, h, hQ => by
    obtain ⟨ds, a, vs, rfl, h1, r, ns, rfl, h⟩ := ifLst_rep m rx h
    obtain rfl := r.bls
    exact ⟨a, ns, rfl, h1, aft_same m (d := .bl (ns.any id)) h hQ rfl⟩
  | .abs, h, hQ => by
    obtain ⟨i, rfl, h⟩ := ifInt_ex h
    obtain rfl : v = .int i := rx
    exact ⟨i, rfl, aft_same m (d := .int (if i < 0 then -i else i)) h hQ rfl⟩
  | .tuple, h, hQ => by
    have lc : (ifLst M x fun ds => Φ (.tup ds) M) → rB1 u.K .tuple [v] H Q := fun h => by
      obtain ⟨ds, a, vs, rfl, h1, r, h⟩ := ifLst_rep m rx h
      exact ⟨a, vs, rfl, .inl ⟨h1, new_tup m r h hQ⟩⟩
    cases x with
    | tup ds =>
      have rx' := rx
      obtain ⟨a, vs, rfl, h1, _, _, r⟩ := rx
      exact ⟨a, vs, rfl, .inr ⟨.inl h1.rd, aft_same m h hQ rx'⟩⟩
    | lst _ => exact lc h
    | scr _ => exact lc h
    | ref _ => exact lc h
    | _ => exact (show False from h).elim
  | .sorted, h, hQ => by
    rcases ifSeq_rep m rx h with ⟨ds, a, vs, rfl, h1, r, ns, rfl, h⟩ | ⟨ds, a, vs, rfl, h1, r, ns, rfl, h⟩
    · obtain rfl := r.ints
      refine .inl ⟨a, ns, rfl, h1, fun ns' p pm so hp => ?_⟩
      rw [isort_one pm so]
      exact new_fresh m (VRepL.ofInts (isort ns)) h hQ p hp
    · obtain rfl := r.ints
      refine .inr ⟨a, ns, rfl, h1, fun ns' p pm so hp => ?_⟩
      rw [isort_one pm so]
      exact new_fresh m (VRepL.ofInts (isort ns)) h hQ p hp
  | .sortedK, h, hQ => by
    obtain ⟨n, rfl, h⟩ := ifRef_ex h
    obtain ⟨kvs, hm, ns, e, hl, h⟩ := ifK_ex h
    obtain ⟨a, ws, rfl, _, h1, r⟩ := ref_dc m rx hm
    refine ⟨a, ws, ns, rfl, .inl h1, r.ints e, hl, fun ys p pm so hp => ?_⟩
    rw [isort_one pm so]
    exact new_fresh m (VRepL.ofInts (isort ns)) h hQ p hp
  | .min, h, hQ => by
    rcases ifSeq_rep m rx h with ⟨ds, a, vs, rfl, h1, r, n, ns, rfl, h⟩ | ⟨ds, a, vs, rfl, h1, r, n, ns, rfl, h⟩
    · obtain rfl := r.ints
      refine .inl ⟨a, n :: ns, rfl, h1, by simp, fun k hk hle => ?_⟩
      rw [minL_one hk hle]
      exact aft_same m (d := .int (minL n ns)) h hQ rfl
    · obtain rfl := r.ints
      refine .inr ⟨a, n :: ns, rfl, h1, by simp, fun k hk hle => ?_⟩
      rw [minL_one hk hle]
      exact aft_same m (d := .int (minL n ns)) h hQ rfl
  | .minK, h, hQ => by
    obtain ⟨n, rfl, h⟩ := ifRef_ex h
    obtain ⟨kvs, hm, k, ns, e, h⟩ := ifK_ex h
    obtain ⟨a, ws, rfl, _, h1, r⟩ := ref_dc m rx hm
    refine ⟨a, ws, k :: ns, rfl, h1, r.ints e, by simp, fun j hj hle => ?_⟩
    rw [minL_one hj hle]
    exact aft_same m (d := .int (minL k ns)) h hQ rfl
  | .max, h, hQ => by
    rcases ifSeq_rep m rx h with ⟨ds, a, vs, rfl, h1, r, n, ns, rfl, h⟩ | ⟨ds, a, vs, rfl, h1, r, n, ns, rfl, h⟩
    · obtain rfl := r.ints
      refine .inl ⟨a, n :: ns, rfl, h1, by simp, fun k hk hle => ?_⟩
      rw [maxL_one hk hle]
      exact aft_same m (d := .int (maxL n ns)) h hQ rfl
    · obtain rfl := r.ints
      refine .inr ⟨a, n :: ns, rfl, h1, by simp, fun k hk hle => ?_⟩
      rw [maxL_one hk hle]
      exact aft_same m (d := .int (maxL n ns)) h hQ rfl
  | .int, h, hQ => by
    cases x with
    | int i =>
      obtain rfl : v = .int i := rx
      exact .inl ⟨i, rfl, aft_same m (d := .int i) h hQ rfl⟩
    | bl b =>
      obtain rfl : v = .bl b := rx
      exact .inr ⟨b, rfl, aft_same m (d := .int (if b then 1 else 0)) h hQ rfl⟩
    | _ => exact (show False from h).elim
end
def b2N : B2 → Str
  | .min2 => "min" | .max2 => "max"
def b2V : B2 → String
  | .min2 => "min" | .max2 => "max"
def rB2 : B2 → List V → Hp → VK → Prop
  | .min2 => fun xs H Q => ∃ i j, xs = [.int i, .int j] ∧ Q (.int (if j < i then j else i)) H
  | .max2 => fun xs H Q => ∃ i j, xs = [.int i, .int j] ∧ Q (.int (if j > i then j else i)) H
theorem b2_ok {X : Cx} (hc : X.calm = true) : ∀ b : B2, CallR X (.builtin (b2V b)) (rB2 b)
  | .min2 => call_min2 hc
  | .max2 => call_max2 hc
section
variable {t : Tb} {u : At} {F L : List Addr} {H : Hp} {M : Mem} {x y : D} {v w : V} {Φ : VQ} {Q : VK} {ds : List D} {vs : List V}
theorem b2D_ok (m : MRep t u F L H M) (rx : VRep t u F L H x v) (ry : VRep t u F L H y w) : ∀ b : B2, b2D b M x y Φ → Aft t u F L H Φ Q → rB2 b [v, w] H Q := by
  intro b h hQ
  unfold b2D at h
  obtain ⟨i, rfl, h⟩ := ifInt_ex h
  obtain ⟨j, rfl, h⟩ := ifInt_ex (x := y) h
  obtain rfl : v = .int i := rx
  obtain rfl : w = .int j := ry
  cases b with
  | min2 => exact ⟨i, j, rfl, aft_same m (d := .int (if j < i then j else i)) h hQ rfl⟩
  | max2 => exact ⟨i, j, rfl, aft_same m (d := .int (if i < j then j else i)) h hQ rfl⟩
theorem rep_ok (m : MRep t u F L H M) (rx : VRep t u F L H x v) (ry : VRep t u F L H y w) {b : Bool} (h : ifLs M x fun ds => ifInt y fun k => 0 ≤ k ∧ k ≤ 1000 ∧ ds.length ≤ 1000 ∧ fresh b (List.replicate k.toNat ds).flatten M Φ)
    (hQ : Aft t u F L H Φ Q) : rRep v w H Q := by
  obtain ⟨ds, a, vs, rfl, h1, r, h⟩ := ifLs_rep m rx h
  obtain ⟨k, rfl, k0, k1, hl, h⟩ := ifInt_ex h
  obtain rfl : w = .int k := ry
  refine ⟨a, k, vs, rfl, rfl, h1, by omega, by omega, ?_, new_fresh m (r.rep _) h hQ⟩
  rw [← VRepL.len _ _ r, szL]
  have : ds.length * k.toNat ≤ 1000 * 1000 := Nat.mul_le_mul hl (by omega)
  show _ ≤ 16777216
  omega
theorem attrD_ok (m : MRep t u F L H M) (rx : VRep t u F L H x v) {f : Nat} (h : attrD M x f Φ) : ∃ n c fs d a dx fs' nm, x = .ref n ∧ M[n]? = some (.ins c fs) ∧ fs[f]? = some (some d) ∧ Φ d M ∧ v = .ref a ∧ H a = some (.ins (u.ca c) dx fs') ∧ t.fld[c]? = some nm ∧ FRep t u F L H nm fs fs' := by
  obtain ⟨n, rfl, h⟩ := ifRef_ex h
  obtain ⟨c, fs, hm, h⟩ := ifI_ex h
  split at h
  · rename_i d hd
    obtain ⟨a, dx, fs', nm, rfl, _, h1, h2, r⟩ := ref_in m rx hm
    exact ⟨n, c, fs, d, a, dx, fs', nm, rfl, hm, hd, h, rfl, h1, h2, r⟩
  · exact h.elim
theorem FRep.put {nm : List Str} {fs : List (Option D)} {fs' : List (Str × V)} (hnd : nm.Nodup) (r : FRep t u F L H nm fs fs') {f : Nat} {x : Str} (hf : nm[f]? = some x) {d : D} (hd : VRep t u F L H d v) : FRep t u F L H nm (fs.set f (some d)) (putF x v fs') := by
  have hx : x ∈ nm := List.mem_of_getElem? hf
  refine ⟨by rw [List.length_set]; exact r.len, ?_, fun y hy => ?_, fun i y e h1 h2 => ?_⟩
  · have key : ∀ (l : List (Str × V)), (l.map (·.1)).Nodup → ((putF x v l).map (·.1)).Nodup ∧ ∀ y ∈ (putF x v l).map (·.1), y = x ∨ y ∈ l.map (·.1) := by
      intro l
      induction l with
      | nil => intro _; simp [putF]
      | cons p l ih =>
        obtain ⟨g, z⟩ := p
        intro hn
        rw [List.map_cons, List.nodup_cons] at hn
        obtain ⟨i1, i2⟩ := ih hn.2
        unfold putF
        by_cases hg : g = x
        · rw [if_pos hg]
          refine ⟨by rw [List.map_cons, List.nodup_cons]; exact hn, fun y hy => .inr ?_⟩
          exact hy
        · rw [if_neg hg]
          refine ⟨?_, fun y hy => ?_⟩
          · rw [List.map_cons, List.nodup_cons]
            refine ⟨fun hm => ?_, i1⟩
            rcases i2 g hm with e | e
            · exact hg e
            · exact hn.1 e
          · rw [List.map_cons] at hy
            rcases List.mem_cons.mp hy with e | hy
            · exact .inr (by rw [e]; simp)
            · rcases i2 y hy with e | e
              · exact .inl e
              · exact .inr (by rw [List.map_cons]; exact List.mem_cons_of_mem _ e)
    exact (key fs' r.nd).1
  · have key : ∀ (l : List (Str × V)) (y : Str), y ∈ (putF x v l).map (·.1) → y = x ∨ y ∈ l.map (·.1) := by
      intro l
      induction l with
      | nil => intro y hy; simpa [putF] using hy
      | cons p l ih =>
        obtain ⟨g, z⟩ := p
        intro y hy
        unfold putF at hy
        by_cases hg : g = x
        · rw [if_pos hg] at hy
          exact .inr hy
        · rw [if_neg hg, List.map_cons] at hy
          rcases List.mem_cons.mp hy with e | hy
          · exact .inr (by rw [e]; simp)
          · rcases ih y hy with e | e
            · exact .inl e
            · exact .inr (by rw [List.map_cons]; exact List.mem_cons_of_mem _ e)
    rcases key fs' y hy with e | e
    · rw [e]; exact hx
    · exact r.sub y e
  · rw [lookup_putF]
    by_cases hi : i = f
    · subst hi
      rw [hf] at h1
      cases h1
      rw [if_pos rfl]
      rw [List.getElem?_set_self (by rw [r.len]; exact (List.getElem?_eq_some_iff.mp hf).1)] at h2
      cases h2
      exact ⟨v, rfl, hd⟩
    · have hy : ¬ y = x := fun z => hi (by
        subst z
        obtain ⟨l1, g1⟩ := List.getElem?_eq_some_iff.mp h1
        obtain ⟨l2, g2⟩ := List.getElem?_eq_some_iff.mp hf
        exact (List.getElem_inj hnd).mp (by rw [g1, g2]))
      rw [if_neg hy]
      rw [List.getElem?_set_ne (Ne.symm hi)] at h2
      exact r.at_ i y e h1 h2
theorem FRep.short {nm : List Str} {fs : List (Option D)} {fs' : List (Str × V)} (r : FRep t u F L H nm fs fs') : fs'.length ≤ nm.length := by
  have h := List.Nodup.length_le_of_subset r.nd (fun x hx => r.sub x hx)
  rw [List.length_map] at h
  exact h
end
end Z
set_option Elab.async false
set_option linter.all false
set_option maxRecDepth 100000
set_option maxHeartbeats 2000000
namespace Z
open PySem PySem.Spec PyProof.Rows HotX
section
variable {prog : Program} {w : World} {A : Around} {E : Value → Shared → Prop} {s : Shared}
theorem newStop_hot {α : Type} {x1 : Addr} {Q : α → Shared → Prop} (hot : HotAt A x1 s.heap)
    (hE : ∀ (a : Addr) (h' : Heap), (∀ b o, s.heap.get? b = some o → h'.get? b = some o) → ({ s with heap := h' } : Shared).TypeIs (.ref a) "StopIteration" → E (.ref a) { s with heap := h' }) :
    wpAny (model prog w) A (newExc (.type "StopIteration") [] >>= fun e => (raiseNew e : Sem α)) Q E s := by
  obtain ⟨hh, ox, vx, g1, g2, g3⟩ := hot
  refine wpAny_bind ?_
  simp only [newExc, newTuple]
  refine wpAny_bind (wpAny_newObj_type ?_ (by size_fits))
  refine wpAny_bind (m := firstArgMember _ _) (wpAny_of_eq (a := Value.none) (by first | rfl | (simp only [firstArgMember]; rfl)) ?_)
  refine wpAny_newObj_type ?_ (by size_fits)
  refine raiseNew_hot ⟨hh, ox, vx, Heap.get?_push_of_some _ (Heap.get?_push_of_some _ g1), g2, g3⟩ (Nat.ne_of_lt (Heap.lt_size (Heap.get?_push_of_some _ g1))) (Heap.get?_push_size _ rfl) rfl (by first | (simp; done) | (simp; omega) | (simp only [Array.size_append]; simp; omega)) ?_
  refine hE _ _ (fun b o e => ?_) ⟨_, Heap.get?_update_self _ (Heap.get?_push_size _ rfl) rfl, rfl⟩
  refine (Heap.get?_update_other _ _ (Nat.ne_of_gt (Heap.lt_size (Heap.get?_push_of_some _ e)))).trans ?_
  exact Heap.get?_push_of_some _ (Heap.get?_push_of_some _ e)
theorem hot_but {x1 it : Addr} {h h' : Heap} (hot : HotAt A x1 h) (ne : x1 ≠ it) (k : Heap.ExtBut it h h') : HotAt A x1 h' := by
  obtain ⟨hh, ox, vx, g1, g2, g3⟩ := hot
  exact ⟨hh, ox, vx, k _ _ ne g1, g2, g3⟩
theorem tup_end_hot {it t x1 : Addr} {i : Nat} {items : Array Value} {Q : Option Value → Shared → Prop} (hot : HotAt A x1 s.heap) (ne : x1 ≠ it) (hit : s.heap.IsTupleIter it t i) (ht : s.heap.IsTuple t items) (hx : items[i]? = none)
    (hQ : ∀ h', Heap.ExtBut it s.heap h' → Q none { s with heap := h' }) : wpAny (model prog w) A (pyNext (.ref it)) Q E s := by
  obtain ⟨oi, g1, g2, g3⟩ := id hit
  obtain ⟨ot, g4, _, nt, g5⟩ := ht
  unfold pyNext
  refine wpAny_bind (wpAny_attempt (wpAny_callSpecial?_slot (name := Str.ofString "__next__") hit.typeIs F.slot_tuple_iterator_next
    (wpAny_call_entry F.slot_tuple_iterator_next hit.typeIs F.entry_tuple_iterator_next ?_ (F.args_tuple_iterator_next_1 _))))
  show wpAny _ _ (field (.ref it) 0 >>= _) _ _ s
  refine wpAny_bind (wpAny_field g1 g3 (x := .ref t) rfl ?_)
  show wpAny _ _ (if (Value.ref t == Value.none) = true then _ else _) _ _ s
  rw [if_neg (show ¬ ((Value.ref t == Value.none) = true) from Bool.false_ne_true)]
  show wpAny _ _ (field (.ref it) 1 >>= _) _ _ s
  refine wpAny_bind (wpAny_field g1 g3 (x := .int i 0) rfl ?_)
  show wpAny _ _ (seqItems? (.ref t) >>= _) _ _ s
  refine wpAny_bind (wpAny_seqItems g4 g5 ?_)
  simp only [Int.toNat_natCast, hx]
  refine wpAny_bind (wpAny_rule (wpAny_bind (wpAny_setField g1 g3 (by simp) ?_)))
  have k1 : Heap.ExtBut it s.heap (s.heap.update it (Obj.mapFields (·.setIfInBounds 0 Value.none))) := (Heap.SameBut.update ..).extBut
  show wpAny _ _ (newExc (.type "StopIteration") [] >>= fun e => raiseNew e) _ _ _
  refine newStop_hot (hot_but hot ne k1) fun a h' k2 ty => ?_
  refine wpAny_bind (wpAny_isInstance (T := "StopIteration") (b := true) ty isSubtype_stop ?_)
  exact wpAny_pure (hQ _ fun b o ne e => k2 b o (k1 b o ne e))
theorem lst_end_hot {it t x1 : Addr} {i : Nat} {items : Array Value} {Q : Option Value → Shared → Prop} (hot : HotAt A x1 s.heap) (ne : x1 ≠ it) (hit : s.heap.IsListIter it t i) (ht : s.heap.IsList t items) (hx : items[i]? = none)
    (hQ : ∀ h', Heap.ExtBut it s.heap h' → Q none { s with heap := h' }) : wpAny (model prog w) A (pyNext (.ref it)) Q E s := by
  obtain ⟨oi, g1, g2, g3⟩ := id hit
  obtain ⟨ot, g4, _, nt, g5⟩ := ht
  unfold pyNext
  refine wpAny_bind (wpAny_attempt (wpAny_callSpecial?_slot (name := Str.ofString "__next__") hit.typeIs slot_listiter_next
    (wpAny_call_entry slot_listiter_next hit.typeIs entry_listiter_next ?_ (args_listiter_next _))))
  show wpAny _ _ (field (.ref it) 0 >>= _) _ _ s
  refine wpAny_bind (wpAny_field g1 g3 (x := .ref t) rfl ?_)
  show wpAny _ _ (if (Value.ref t == Value.none) = true then _ else _) _ _ s
  rw [if_neg (show ¬ ((Value.ref t == Value.none) = true) from Bool.false_ne_true)]
  show wpAny _ _ (field (.ref it) 1 >>= _) _ _ s
  refine wpAny_bind (wpAny_field g1 g3 (x := .int i 0) rfl ?_)
  show wpAny _ _ (seqItems? (.ref t) >>= _) _ _ s
  refine wpAny_bind (wpAny_seqItems g4 g5 ?_)
  simp only [Int.toNat_natCast, hx]
  refine wpAny_bind (wpAny_rule (wpAny_bind (wpAny_setField g1 g3 (by simp) ?_)))
  have k1 : Heap.ExtBut it s.heap (s.heap.update it (Obj.mapFields (·.setIfInBounds 0 Value.none))) := (Heap.SameBut.update ..).extBut
  show wpAny _ _ (newExc (.type "StopIteration") [] >>= fun e => raiseNew e) _ _ _
  refine newStop_hot (hot_but hot ne k1) fun a h' k2 ty => ?_
  refine wpAny_bind (wpAny_isInstance (T := "StopIteration") (b := true) ty isSubtype_stop ?_)
  exact wpAny_pure (hQ _ fun b o ne e => k2 b o (k1 b o ne e))
end
section
variable {prog : Program} {w : World} {A : Around} {E : Value → Shared → Prop} {s : Shared} {K : Type} [DecidableEq K] {knd : KeyKind prog w K}
theorem key_end_hot {it d x1 : Addr} {i ep : Nat} {kvs : List (K × Value)} {Q : Option Value → Shared → Prop} (hot : HotAt A x1 s.heap) (ne : x1 ≠ it) (hit : s.heap.IsKeyIter it d i kvs.length ep) (hm : s.heap.DictAt knd d kvs ep) (hx : kvs[i]? = none)
    (hQ : ∀ h', Heap.ExtBut it s.heap h' → Q none { s with heap := h' }) : wpAny (model prog w) A (pyNext (.ref it)) Q E s := by
  obtain ⟨oi, g1, g2, g3⟩ := id hit
  obtain ⟨od, es, g4, _, g5, _, hp, _⟩ := id hm
  have hl : es.size = kvs.length := by rw [← hp.length]; simp
  have hge : es.size ≤ i := by rw [hl]; simpa using hx
  have hown : Builtin.Dict_items.ownsTuple "dict_keyiterator" = false := by decide
  unfold pyNext
  refine wpAny_bind (wpAny_attempt (wpAny_callSpecial?_slot (name := Str.ofString "__next__") hit.typeIs F.slot_dict_keyiterator_next
    (wpAny_call_entry F.slot_dict_keyiterator_next hit.typeIs F.entry_dict_keyiterator_next ?_ (F.args_dict_keyiterator_next_1 _))))
  refine wpAny_bind (wpAny_pure (wpAny_bind (wpAny_bind ?_)))
  first | refine wpAny_bind (wpAny_typeNameOfWhole_keyiter hit.typeIs (wpAny_pure ?_)) | refine wpAny_bind (wpAny_typeNameOf_keyiter hit.typeIs (wpAny_pure ?_))
  refine wpAny_bind (wpAny_fieldsOf g1 g3 ?_)
  simp only [hown, Bool.false_eq_true, if_false]
  show wpAny _ _ (if (Value.ref d == Value.none) = true then _ else _) _ _ s
  rw [if_neg (show ¬ ((Value.ref d == Value.none) = true) from Bool.false_ne_true)]
  refine wpAny_bind (wpAny_pure (wpAny_bind (wpAny_dictEntries g4 g5 ?_)))
  rw [if_neg (by rw [hl]; simp)]
  refine wpAny_bind (wpAny_pure (wpAny_bind (wpAny_dictEpoch g4 g5 ?_)))
  rw [if_neg (by simp)]
  refine wpAny_pure ?_
  simp only [show ¬ ((i : Int) < 0) from by omega, if_false, Int.toNat_natCast, Array.getElem?_eq_none hge]
  refine wpAny_bind ?_
  first | refine wpAny_bind (wpAny_typeNameOfWhole_keyiter hit.typeIs (wpAny_pure ?_)) | refine wpAny_bind (wpAny_typeNameOf_keyiter hit.typeIs (wpAny_pure ?_))
  show wpAny _ _ (setField (.ref it) 0 .none >>= _) _ _ s
  refine wpAny_bind (wpAny_setField g1 g3 (by simp) ?_)
  have k1 : Heap.ExtBut it s.heap (s.heap.update it (Obj.mapFields (·.setIfInBounds 0 Value.none))) := (Heap.SameBut.update ..).extBut
  show wpAny _ _ (newExc (.type "StopIteration") [] >>= fun e => raiseNew e) _ _ _
  refine newStop_hot (hot_but hot ne k1) fun a h' k2 ty => ?_
  refine wpAny_bind (wpAny_isInstance (T := "StopIteration") (b := true) ty isSubtype_stop ?_)
  exact wpAny_pure (hQ _ fun b o ne e => k2 b o (k1 b o ne e))
theorem walks_keysH {I d x1 : Addr} (hh : A.handled = some (.ref x1)) (hne : d ≠ I) (hx : x1 ≠ I) (kvs : List (K × Value)) (ep : Nat) :
    Walks prog w A I [I, d, x1] [I] kvs.length (fun i v => ∃ k x, kvs[i]? = some (k, x) ∧ knd.is k v = true) (fun i h => h.IsKeyIter I d i kvs.length ep ∧ h.DictAt knd d kvs ep ∧ HotAt A x1 h) where
  sub := fun b hb => by rw [List.mem_singleton.mp hb]; exact List.mem_cons_self
  frame := fun _ h h' st hk => ⟨st.1.at fun o e => hk I (by simp) o e, st.2.1.at' fun o e => hk d (by simp) o e, by
    obtain ⟨_, ox, vx, g1, g2, g3⟩ := st.2.2
    exact ⟨hh, ox, vx, hk x1 (by simp) _ g1, g2, g3⟩⟩
  item := fun i s Q E hi st hQ => by
    obtain ⟨⟨k, x⟩, e⟩ : ∃ p, kvs[i]? = some p := ⟨_, List.getElem?_eq_getElem hi⟩
    refine wpAny_pyNext_dict_item st.1 st.2.1 e fun key h' hkey hit' hs' => ?_
    refine hQ key h' s.toks ⟨k, x, e, hkey⟩ ⟨hit', st.2.1.extBut hs'.extBut hne, hot_but st.2.2 hx hs'.extBut⟩ fun b o hb e => hs'.extBut b o (fun z => hb (by rw [z]; exact List.mem_cons_self)) e
  done := fun s Q E st hQ => key_end_hot st.2.2 hx st.1 st.2.1 (by simp) fun h' k => hQ h' s.toks fun b o hb e => k b o (fun z => hb (by rw [z]; exact List.mem_cons_self)) e
  self := fun _ _ _ _ st hQ => wpAny_pyIter_keyiter st.1 hQ
abbrev KeyOf (knd : KeyKind prog w K) (kvs : List (K × Value)) : Nat → Value → Prop := fun i v => ∃ k x, kvs[i]? = some (k, x) ∧ knd.is k v = true
theorem extend_keysH {d x1 S : Addr} {kvs : List (K × Value)} {ep c0 : Nat} {res : Value} {R : Result → Shared → Prop} (lo : (d == sysModules) = false) (hot : HotAt A x1 s.heap) (hm : s.heap.DictAt knd d kvs ep) (hn : kvs.length ≤ sizeLine) (nd : S ≠ d) (nx : S ≠ x1)
    (hS : s.heap.get? S = some { cls := .type "list", data := .seq #[] c0 })
    (hR : ∀ h' tk acc c, (∀ b o, b ≠ S → s.heap.get? b = some o → h'.get? b = some o) → h'.get? S = some { cls := .type "list", dict := none, data := .seq acc c, slots := #[] } → ItemsOf (KeyOf knd kvs) acc kvs.length → R (.ok (.ret res)) { s with heap := h', toks := tk }) :
    wpAny (model prog w) A.in1 (Builtin.List.listExtendWith (.ref S) (.ref d) res) (fun fin s' => match fin with | .done f => R (.ok f) s' | .again c' => c'.quiet = true ∧ codeAny (model prog w) A c' R s') (fun e s' => R (.error e) s') s := by
  obtain ⟨hh, ox, vx, x2, x3, x4⟩ := id hot
  generalize hI : s.heap.objs.size = I
  have dI : d ≠ I := by rw [← hI]; exact Nat.ne_of_lt hm.lt_size
  have xI : x1 ≠ I := by rw [← hI]; exact Nat.ne_of_lt (Heap.lt_size x2)
  have sI : S ≠ I := by rw [← hI]; exact Nat.ne_of_lt (Heap.lt_size hS)
  have nf : S ∉ [I, d, x1] := by
    simp only [List.mem_cons, List.not_mem_nil, or_false, not_or]
    exact ⟨sI, nd, nx⟩
  have W : Walks prog w A.in1 I [I, d, x1] [I] kvs.length (KeyOf knd kvs) (fun i h => h.IsKeyIter I d i kvs.length ep ∧ h.DictAt knd d kvs ep ∧ HotAt A.in1 x1 h) := walks_keysH (A := A.in1) hh dI xI kvs ep
  have go : ∀ (h : Heap) (c tk : Nat), (h.IsKeyIter I d 0 kvs.length ep ∧ h.DictAt knd d kvs ep ∧ HotAt A.in1 x1 h) → (∀ b o, b ≠ S → s.heap.get? b = some o → h.get? b = some o) → h.get? S = some { cls := .type "list", data := .seq #[] c } →
      codeAny (model prog w) A (.builtin "list.extend.loop" ⟨[.ref S, .ref I, res], []⟩) R { s with heap := h, toks := tk } := by
    intro h c tk st k1 gS
    refine codeAny_extend_loopS W.toS hn S nf res kvs.length 0 _ #[] c rfl (Nat.zero_le _) st gS (ItemsOf.nil _) fun s' acc c' mv gS' it => ?_
    rw [Moved.eq_with mv]
    refine hR s'.heap s'.toks acc c' (fun b o hb e => mv.heap b o (fun hm => ?_) (k1 b o hb e)) gS' it
    rcases List.mem_cons.mp hm with z | z
    · exact hb z
    · rw [List.mem_singleton.mp z, ← hI] at e
      exact absurd (Heap.lt_size e) (Nat.lt_irrefl _)
  unfold Builtin.List.listExtendWith
  refine wpAny_bind (wpAny_typeOf (T := "dict") hm.dictOf.typeIs ?_)
  have e1 : Builtin.List.listSameRef (.ref S) (.ref d) = false := by simp [Builtin.List.listSameRef, nd]
  have e2 : (Value.type "dict" == Value.type "list") = false := by decide
  have e3 : (Value.type "dict" == Value.type "tuple") = false := by decide
  simp only [e1, e2, e3, Bool.or_false, Bool.false_eq_true, if_false]
  refine wpAny_bind (wpAny_pyIter_dict lo hm ?_)
  rw [hI]
  have hm2 := hm.push { cls := .type "dict_keyiterator", data := .fields #[.ref d, .int 0 0, .int kvs.length 0, .int ep 0] }
  have st0 : (s.heap.push { cls := .type "dict_keyiterator", data := .fields #[.ref d, .int 0 0, .int kvs.length 0, .int ep 0] }).IsKeyIter I d 0 kvs.length ep ∧ (s.heap.push { cls := .type "dict_keyiterator", data := .fields #[.ref d, .int 0 0, .int kvs.length 0, .int ep 0] }).DictAt knd d kvs ep ∧ HotAt A.in1 x1 (s.heap.push { cls := .type "dict_keyiterator", data := .fields #[.ref d, .int 0 0, .int kvs.length 0, .int ep 0] }) := by
    refine ⟨⟨_, by rw [← hI]; exact Heap.get?_push_size _ rfl, rfl, rfl⟩, hm2, hh, ox, vx, Heap.get?_push_of_some _ x2, x3, x4⟩
  have gS1 := Heap.get?_push_of_some { cls := .type "dict_keyiterator", data := .fields #[.ref d, .int 0 0, .int kvs.length 0, .int ep 0] } hS
  have k1 : ∀ b o, b ≠ S → s.heap.get? b = some o → (s.heap.push { cls := .type "dict_keyiterator", data := .fields #[.ref d, .int 0 0, .int kvs.length 0, .int ep 0] }).get? b = some o := fun b o _ e => Heap.get?_push_of_some _ e
  generalize s.heap.push { cls := .type "dict_keyiterator", data := .fields #[.ref d, .int 0 0, .int kvs.length 0, .int ep 0] } = h1 at hm2 st0 gS1 k1 ⊢
  refine wpAny_bind (wpAny_holding (PySem.W.kdl_hint_dict (s := { s with heap := h1 }) hm2.dictOf.typeIs ?_))
  refine wpAny_ite_split (fun _ => ?_) (fun _ => wpAny_pure ⟨plainId_quiet PySem.F.plain_extend_loop _, go _ c0 _ st0 k1 gS1⟩)
  refine wpAny_bind (wpAny_rule (wpAny_bind ?_))
  show wpAny _ _ (updateSeq S (·.push .none) >>= fun _ => updateSeq S (·.pop)) _ _ _
  refine wpAny_bind (wpAny_updateSeq gS1 rfl ?_)
  have gS2 := Heap.get?_update_self (Obj.mapSeq (·.push Value.none)) gS1 rfl
  refine wpAny_updateSeq (hz := by seq_fits) gS2 rfl ?_
  have gS3 := Heap.get?_update_self (Obj.mapSeq (·.pop)) gS2 rfl
  have k2 : ∀ b o, b ≠ S → h1.get? b = some o → ((h1.update S (Obj.mapSeq (·.push Value.none))).update S (Obj.mapSeq (·.pop))).get? b = some o := fun b o hb e => (Heap.get?_update_other _ _ (Ne.symm hb)).trans ((Heap.get?_update_other _ _ (Ne.symm hb)).trans e)
  refine wpAny_pure ⟨plainId_quiet PySem.F.plain_extend_loop _, go _ _ _ ?_ (fun b o hb e => k2 b o hb (k1 b o hb e)) gS3⟩
  exact W.frame 0 _ _ st0 fun b hb o e => k2 b o (fun z => nf (by rw [← z]; exact hb)) e
theorem collect_keysH {d x1 : Addr} {kvs : List (K × Value)} {ep : Nat} {R : List Value → Shared → Prop} (lo : (d == sysModules) = false) (hot : HotAt A x1 s.heap) (hm : s.heap.DictAt knd d kvs ep) (hn : kvs.length ≤ sizeLine)
    (h : ∀ (h' : Heap) (tk : Nat) (acc : Array Value), (∀ b o, s.heap.get? b = some o → h'.get? b = some o) → ItemsOf (KeyOf knd kvs) acc kvs.length → R acc.toList { s with heap := h', toks := tk }) :
    wpAny (model prog w) A (collect (.ref d)) R E s := by
  obtain ⟨hh, ox, vx, x2, x3, x4⟩ := hot
  have nd : s.heap.objs.size ≠ d := Nat.ne_of_gt hm.lt_size
  have nx : s.heap.objs.size ≠ x1 := Nat.ne_of_gt (Heap.lt_size x2)
  unfold collect
  refine wpAny_bind (wpAny_runValue (codeAny_builtin entry_proto_collect' ?_))
  rw [Around.under_plainId PySem.F.plain_proto_collect _]
  show wpAny _ A.in1 (newList [] >>= fun l => again (.builtin "list.__iadd__" ⟨[l, .ref d], []⟩)) _ _ s
  refine wpAny_bind (wpAny_newObj_type ?_)
  refine wpAny_pure ⟨plainId_quiet PySem.F.plain_list_iadd _, codeAny_builtin entry_list_iadd' ?_⟩
  rw [Around.under_plainId PySem.F.plain_list_iadd _]
  show wpAny _ A.in1 (Builtin.List.listExtendWith (.ref s.heap.objs.size) (.ref d) (.ref s.heap.objs.size)) _ _ _
  have q := extend_keysH (A := A) (s := { s with heap := s.heap.push { cls := .type "list", data := .seq ([] : List Value).toArray } }) (knd := knd) (res := .ref s.heap.objs.size)
    (R := fun (r : Result) (s' : Shared) => ∃ (h' : Heap) (tk : Nat) (acc : Array Value) (c : Nat), r = .ok (.ret (.ref s.heap.objs.size)) ∧ s' = { s with heap := h', toks := tk } ∧ (∀ b o, s.heap.get? b = some o → h'.get? b = some o) ∧
      h'.get? s.heap.objs.size = some { cls := .type "list", dict := none, data := .seq acc c, slots := #[] } ∧ ItemsOf (KeyOf knd kvs) acc kvs.length)
    lo ⟨hh, ox, vx, Heap.get?_push_of_some _ x2, x3, x4⟩ (hm.push _) hn nd nx (Heap.get?_push_size _ rfl)
    (fun h' tk acc c k1 g it => ⟨h', tk, acc, c, rfl, rfl, fun b o e => k1 b o (Nat.ne_of_lt (Heap.lt_size e)) (Heap.get?_push_of_some _ e), g, it⟩)
  refine wpAny_mono q (fun fin s' z => ?_) fun e s' z => ?_
  · cases fin with
    | done f =>
      obtain ⟨h', tk, acc, c, e, rfl, k1, g, it⟩ := z
      cases e
      show wpAny _ A (load s.heap.objs.size >>= _) _ _ _
      exact wpAny_bind (wpAny_load g (wpAny_pure (h h' tk acc k1 it)))
    | again c₁ =>
      refine ⟨z.1, codeAny_mono z.2 fun r s₂ y => ?_⟩
      obtain ⟨h', tk, acc, c, rfl, rfl, k1, g, it⟩ := y
      show wpAny _ A (load s.heap.objs.size >>= _) _ _ _
      exact wpAny_bind (wpAny_load g (wpAny_pure (h h' tk acc k1 it)))
  · obtain ⟨_, _, _, _, z, _⟩ := z
    cases z
end
section
open L2 L2H
variable {X : Cx}
theorem call_sortedKH (hc : HotC X) : CallR X (.builtin "sorted") (fun xs H Q => ∃ (a : Addr) (kvs : List (Key × V)) (ks : List Int), xs = [.ref a] ∧ Rd H a (.dK kvs) ∧ kvs.map (·.1) = ks.map Sum.inl ∧ ks.length < 64 ∧
    ∀ (ys : List Int) (p : Addr), ys.Perm ks → ys.Pairwise (· ≤ ·) → H p = none → Q (.ref p) (upd H p (.lst (ys.map V.int)))) := by
  intro pins s σ H xs us Q I r q
  obtain ⟨a, kvs, ks, rfl, hd, hks, few, q⟩ := q
  obtain ⟨u, rfl, ru⟩ := vals1 r
  cases ru
  obtain ⟨x1, hot⟩ := hc.at I
  obtain ⟨_, lo, vs, rel, dd⟩ := dk_rd I.hok hd
  obtain ⟨ep, hat⟩ := dd.dictAt
  have kk : vs.map (·.1) = ks.map Sum.inl := rel.keys.symm.trans hks
  have hl : vs.length = ks.length := by
    have z := congrArg List.length kk
    rwa [List.length_map, List.length_map] at z
  have hsz : vs.length ≤ sizeLine := by rw [hl, sizeLine_eq]; omega
  refine Calls.call_function_entry PyProof.Rows.kind_sorted PyProof.Rows.plain_sorted PyProof.Rows.entry_sorted (PyProof.Rows.args_sorted1 _) ?_
  unfold Builtin.«sorted»
  refine wpAny_bind (m := checkCount "sorted" 1 1 _) (wpAny_pure ?_)
  refine wpAny_bind (collect_keysH (A := X.A.in1) (knd := mixKind X.prog X.w) (x1 := x1) lo hot hat hsz fun h' tk acc keep it => ?_)
  have la : acc.toList.length = ks.length := by rw [Array.length_toList, it.1, hl]
  have allI : IntsAre acc.toList ks := ints_each la fun j v e => by
    obtain ⟨k, x, e1, e2⟩ := it.2 j v (by rw [← Array.getElem?_toList]; exact e)
    have e3 : (vs.map (·.1))[j]? = some k := by rw [List.getElem?_map, e1]; rfl
    rw [kk, List.getElem?_map] at e3
    cases e4 : ks[j]? with
    | none => rw [e4] at e3; cases e3
    | some y =>
      rw [e4] at e3
      have e5 : Sum.inl y = k := Option.some.inj e3
      subst e5
      rcases keyIs_shape (show keyIs (Sum.inl y) v = true from e2) with ⟨i, t, ek, ev⟩ | ⟨z, t, ek, ev⟩
      · cases ek
        exact ⟨y, t, rfl, ev⟩
      · cases ek
  have I1 : Inv X pins σ H { s with heap := h', toks := tk } := I.kept keep
  refine wpAny_bind (wpAny_newList ?_ (by rw [la, sizeLine_eq]; omega))
  have gL : (h'.push (seqObj "list" acc.toList.toArray 0)).get? h'.objs.size = some (seqObj "list" acc.toList.toArray 0) := Heap.get?_push_size _ rfl
  show wpAny _ _ _ _ _ { s with heap := h'.push (seqObj "list" acc.toList.toArray 0), toks := tk }
  refine wpAny_bind (wpAny_holding (wpAny_call_entry PyProof.Rows.slot_list_sort ⟨_, gL, rfl⟩ PyProof.Rows.entry_list_sort
    (PyProof.Rows.list_sort_tree (s := { s with heap := h'.push (seqObj "list" acc.toList.toArray 0), toks := tk }) gL allI (by rw [la]; exact few) fun out ys g1 g2 g3 => ⟨_, rfl, ?_⟩) (PyProof.Rows.args_list_sort _)))
  obtain ⟨e', g⟩ := PyProof.Rows.sortedHeap_at (vs := acc.toList) (out := out) gL
  have ly : (ys.map V.int).length ≤ sizeLine := by rw [List.length_map, g2.length_eq, sizeLine_eq]; omega
  refine wpAny_pure ⟨_, rfl, .ref h'.objs.size, upd H h'.objs.size (.lst (ys.map V.int)), I1.laid (t' := tk) (fun b u e => ?_) (Nat.le_refl _)
    (show ObjOk X.prog X.w _ _ _ (.lst (ys.map V.int)) from ⟨ly, out.toList, e', vals_of_ints g1, by rw [Array.toArray_toList]; exact g⟩), rfl, q ys _ g2 g3 (I1.hok.fresh (Nat.le_refl _))⟩
  have lb : b < h'.objs.size := Heap.lt_size e
  exact (PyProof.Rows.sortedHeap_old (Nat.ne_of_lt lb) (by rw [size_push']; exact Nat.lt_succ_of_lt lb)).trans (Heap.get?_push_of_some _ e)
theorem turn_tupH {P : Program} {w : World} {K : PySem.W.Frag} {tg : Expr} (a it : Addr) : TurnH P w K tg (Itt K a) [it] it (fun i h => h.IsTupleIter it a i) where
  mem := List.mem_cons_self
  obj := fun i h st b hb => by
    rw [List.mem_singleton.mp hb]
    obtain ⟨o, g1, g2, g3⟩ := st
    exact ⟨o, g1, fun v z => by rw [g3] at z; cases z⟩
  keep := fun i h h' st k => by
    obtain ⟨o, g1, g2⟩ := st
    exact ⟨o, k it List.mem_cons_self o g1, g2⟩
  item := by
    rintro X rfl rfl rfl hc i pins s σ H E I hf st ⟨xs, x, hq, hx⟩
    obtain ⟨its, rv, p, _⟩ := I.tuple hq
    obtain ⟨u, hu, ru⟩ := rv.get hx
    obtain ⟨f0, f1, f2, f3, f4, f5⟩ := hf it List.mem_cons_self
    refine wpAny_pyNext_tuple_item st (show s.heap.IsTuple a its.toArray from p) (x := u) (by simpa using hu) fun h' st' sb => ?_
    obtain ⟨o, g1, g2, g3⟩ := id st'
    refine ⟨u, rfl, go_of (s := { s with heap := h' }) g1 g2 g3 (by decide) ⟨x, H, ?_, ru, ⟨rfl, fun ys hy => by rw [I.tuple_inj hy hq]; exact hx⟩, st', fun b hb => (hf b hb).1⟩⟩
    exact I.turned (t' := s.toks) (fun b o hb e => (sb.2 b hb).trans e) f0 f1 f3 f4 f5
  done := by
    rintro X rfl rfl rfl hc i pins s σ H E I hf st ⟨xs, hq, hx⟩
    obtain ⟨its, rv, p, _⟩ := I.tuple hq
    obtain ⟨f0, f1, f2, f3, f4, f5⟩ := hf it List.mem_cons_self
    obtain ⟨q, hot, hq2⟩ := hc
    have pq := (I.pin q (List.mem_append_left _ hq2)).1
    obtain ⟨hh, vx, x3, x4⟩ := hot
    have ne : q.1 ≠ it := f5 q (List.mem_append_left _ hq2)
    have hl := rv.length
    exact tup_end_hot ⟨hh, q.2, vx, pq, x3, x4⟩ ne st (show s.heap.IsTuple a its.toArray from p) (by simp; omega) fun h' eb => ⟨rfl, I.turned (t' := s.toks) (fun b o hb e => eb b o hb e) f0 f1 f3 f4 f5⟩
  self := fun _ _ _ _ _ st h => wpAny_pyIter_tupleiter st h
theorem turn_lstH {P : Program} {w : World} {K : PySem.W.Frag} {tg : Expr} (a it : Addr) : TurnH P w K tg (Itl K a) [it] it (fun i h => h.IsListIter it a i) where
  mem := List.mem_cons_self
  obj := fun i h st b hb => by
    rw [List.mem_singleton.mp hb]
    obtain ⟨o, g1, g2, g3⟩ := st
    exact ⟨o, g1, fun v z => by rw [g3] at z; cases z⟩
  keep := fun i h h' st k => by
    obtain ⟨o, g1, g2⟩ := st
    exact ⟨o, k it List.mem_cons_self o g1, g2⟩
  item := by
    rintro X rfl rfl rfl hc i pins s σ H E I hf st ⟨xs, x, hq, hx⟩
    obtain ⟨its, rv, p, _⟩ := I.list hq
    obtain ⟨u, hu, ru⟩ := rv.get hx
    obtain ⟨f0, f1, f2, f3, f4, f5⟩ := hf it List.mem_cons_self
    refine wpAny_pyNext_list_item st p.isList (x := u) (by simpa using hu) fun h' st' sb => ?_
    obtain ⟨o, g1, g2, g3⟩ := id st'
    refine ⟨u, rfl, go_of (s := { s with heap := h' }) g1 g2 g3 (by decide) ⟨x, H, ?_, ru, ⟨rfl, fun ys hy => by rw [I.list_inj hy hq]; exact hx⟩, st', fun b hb => (hf b hb).1⟩⟩
    exact I.turned (t' := s.toks) (fun b o hb e => (sb.2 b hb).trans e) f0 f1 f3 f4 f5
  done := by
    rintro X rfl rfl rfl hc i pins s σ H E I hf st ⟨xs, hq, hx⟩
    obtain ⟨its, rv, p, _⟩ := I.list hq
    obtain ⟨f0, f1, f2, f3, f4, f5⟩ := hf it List.mem_cons_self
    obtain ⟨q, hot, hq2⟩ := hc
    have pq := (I.pin q (List.mem_append_left _ hq2)).1
    obtain ⟨hh, vx, x3, x4⟩ := hot
    have ne : q.1 ≠ it := f5 q (List.mem_append_left _ hq2)
    have hl := rv.length
    exact lst_end_hot ⟨hh, q.2, vx, pq, x3, x4⟩ ne st p.isList (by simp; omega) fun h' eb => ⟨rfl, I.turned (t' := s.toks) (fun b o hb e => eb b o hb e) f0 f1 f3 f4 f5⟩
  self := fun _ _ _ _ _ st h => wpAny_pyIter_listiter st h
end
end Z
set_option Elab.async false
set_option linter.all false
set_option maxRecDepth 100000
set_option maxHeartbeats 2000000
namespace Z
open PySem PySem.Spec PyProof.Rows HotX L2 L2H
abbrev bkH (X : Cx) (p : Addr × Obj) (s : Shared) (H : Hp) (scope : Scope) (cenv : PySem.Env) (fp : List Addr) : Cx := (X.blk s H scope cenv fp).tr [p] fun _ _ => False
section
variable {X : Cx} {p : Addr × Obj}
theorem bk_start {pins : List (Addr × Obj)} {σ : L2.St} {H : Hp} {s : Shared} {scope : Scope} {own : List (Str × Nat)} {fp : List Addr} (hp : p ∈ X.pn) (I : L2.Inv X pins σ H s) (ok : BlkOk X.N X.env.scope scope own) (hN : X.N.Nodup) (hfp : ∀ b ∈ fp, FpOk X pins H b ∧ b < s.heap.objs.size) :
    L2.Inv (bkH X p s H scope (compEnvC scope (cellsFrom (s.heap.objs.size + 1) scope.names (cloFrom X.env.cells scope.names [])) s.heap.objs.size X.env) fp) [] (wipe σ (own.map (·.2))) H { s with heap := pushCells (s.heap.push { cls := .type "dict", data := .dict #[] }) scope.names } := by
  have B := block_start I ok hN hfp
  obtain ⟨p1, p2, p3, p4, p5⟩ := I.pin p (List.mem_append_left _ hp)
  refine ⟨B.ok.toTry _ _, B.os, B.bare, B.base, B.loc, B.cell, B.free, B.freeC, fun q hq => ?_, B.hok, B.len⟩
  have e : q = p := by simpa using (show q ∈ [p] ++ ([] : List (Addr × Obj)) from hq)
  rw [e]
  refine ⟨pushCells_keeps _ _ _ _ (Heap.get?_push_of_some _ p1), p2, Nat.ne_of_lt (Heap.lt_size p1), fun z => ?_, p5⟩
  rcases List.mem_cons.mp (I.stkSub p.1 z) with z | z
  · exact p3 z
  · exact p4 z
theorem pe_lcH {elt tg iter : Expr} {ifs : List Expr} {scope : Scope} {own : List (Str × Nat)} {pos : Pos} {wi : TI} {g : TG} {tt : TT} {te : TE} (hot : Hot1 X.A p) (hp : p ∈ X.pn) (hN : X.N.Nodup) (hi : PIH X tg iter wi) (ok : BlkOk X.N X.env.scope scope own)
    (hg : ∀ (s : Shared) (H : Hp) (C : Addr) (cl : List (Str × Addr)) (fp : List Addr), PG (bkH X p s H scope (compEnvC scope cl C X.env) fp) tg g) (ht : ∀ (s : Shared) (H : Hp) (C : Addr) (cl : List (Str × Addr)) (fp : List Addr), PTs (bkH X p s H scope (compEnvC scope cl C X.env) fp) ifs tt)
    (he : ∀ (s : Shared) (H : Hp) (C : Addr) (cl : List (Str × Addr)) (fp : List Addr), PE (bkH X p s H scope (compEnvC scope cl C X.env) fp) elt te) (hs : ∀ x, foldedSetIterable iter X.env x = pure x) :
    PE X (.ListComp elt [⟨tg, iter, ifs, 0⟩] scope pos) (tLc wi g tt te (own.map (·.2))) := by
  refine ⟨fun pins s σ H Q I h => ?_⟩
  rw [eval_ListComp]
  have fr : ∀ y ∈ scope.names, y.2 = .free → ∃ c, X.env.cells.lookup y.1 = some c := fun y hy e => by
    rcases ok.free y hy e with k | k
    · exact I.ok.has _ (.inl k)
    · exact I.ok.has _ (.inr k)
  refine wpAny_comprehension_free (use := none) rfl hs (closure_ok fr) ok.kind (fun y hy e => by rw [ok.uniq y hy, e]) (thn (hi.run pins s σ H _ I h) fun xv s1 hx => thn hx fun itv s2 h2 => ?_)
  obtain ⟨it, fp, tn, J, H2, rfl, I2, T, st2, f2, q⟩ := h2
  refine wpAny_newObj_type (newEnv_comp ?_) (Nat.zero_le _)
  generalize hL : s2.heap.objs.size = L
  have free : H2 L = none := I2.hok.fresh (Nat.le_of_eq hL)
  obtain ⟨W, ⟨m0, w0⟩, turn⟩ := q L free
  have gone : ∀ b ∈ fp, b < L := fun b hb => by
    obtain ⟨o, e, _⟩ := T.obj _ _ st2 b hb
    rw [← hL]; exact Heap.lt_size e
  have k3 : ∀ b o, s2.heap.get? b = some o → (s2.heap.push { cls := .type "list", data := .seq ([] : List Value).toArray }).get? b = some o := fun b o e => Heap.get?_push_of_some _ e
  have sz3 : (s2.heap.push { cls := .type "list", data := .seq ([] : List Value).toArray }).objs.size = L + 1 := by rw [Heap.size_push, hL]
  have I3 : L2.Inv X pins σ (upd H2 L (.lst [])) { s2 with heap := s2.heap.push { cls := .type "list", data := .seq ([] : List Value).toArray } } :=
    I2.laid (t' := s2.toks) k3 (Nat.le_of_eq hL) ⟨Nat.zero_le _, [], 0, .nil, by rw [← hL]; exact Heap.get?_push_size _ rfl⟩
  generalize s2.heap.push { cls := .type "list", data := .seq ([] : List Value).toArray } = h3 at k3 sz3 I3 ⊢
  generalize hs3 : ({ s2 with heap := h3 } : Shared) = s3 at I3 ⊢
  have e3 : s3.heap = h3 := by rw [← hs3]
  have f3 : ∀ b ∈ fp, FpOk X pins (upd H2 L (.lst [])) b ∧ b < s3.heap.objs.size := fun b hb => by
    have lt := gone b hb
    obtain ⟨a1, a2⟩ := f2 b hb
    exact ⟨⟨by rw [upd_ne (Nat.ne_of_lt lt)]; exact a1, a2⟩, by rw [e3, sz3]; exact Nat.lt_succ_of_lt lt⟩
  have st3 : tn 0 s3.heap := T.keep _ _ _ st2 fun b _ o e => by rw [e3]; exact k3 b o e
  have hotB : ∀ {s' : Shared} {H' : Hp} {ce : PySem.Env}, HotC (bkH X p s' H' scope ce fp) := fun {_ _ _} => ⟨p, hot, List.mem_cons_self⟩
  have I4 := bk_start hp I3 ok hN f3
  have a1 := hg s3 (upd H2 L (.lst [])) s3.heap.objs.size (cellsFrom (s3.heap.objs.size + 1) scope.names (cloFrom X.env.cells scope.names [])) fp
  have a2 := ht s3 (upd H2 L (.lst [])) s3.heap.objs.size (cellsFrom (s3.heap.objs.size + 1) scope.names (cloFrom X.env.cells scope.names [])) fp
  have a3 := he s3 (upd H2 L (.lst [])) s3.heap.objs.size (cellsFrom (s3.heap.objs.size + 1) scope.names (cloFrom X.env.cells scope.names [])) fp
  show codeAny _ _ (.compStart (.ListComp elt [⟨tg, iter, ifs, 0⟩] scope pos) 0 (.ref it) (.ref L) (compEnvC scope (cellsFrom (s3.heap.objs.size + 1) scope.names (cloFrom X.env.cells scope.names [])) s3.heap.objs.size X.env)) (compPost (model X.prog X.w) X.A X.xe none (EP X pins σ Q) (.ref L) s3.heap.objs.size) { s3 with heap := pushCells (s3.heap.push { cls := .type "dict", data := .dict #[] }) scope.names }
  generalize hce : compEnvC scope (cellsFrom (s3.heap.objs.size + 1) scope.names (cloFrom X.env.cells scope.names [])) s3.heap.objs.size X.env = ce at I4 a1 a2 a3 ⊢
  have cL : ce.locals = s3.heap.objs.size := by rw [← hce]; rfl
  generalize hs4 : ({ s3 with heap := pushCells (s3.heap.push { cls := .type "dict", data := .dict #[] }) scope.names } : Shared) = s4 at I4 ⊢
  have st4 : tn 0 s4.heap := by
    rw [← hs4]
    exact T.keep _ _ _ st3 fun b _ o e => pushCells_keeps _ _ _ _ (Heap.get?_push_of_some _ e)
  have n0 : ∀ b ∈ fp, (upd H2 L (.lst [])) b = none := fun b hb => (f3 b hb).1.1
  generalize upd H2 L (.lst []) = H3 at I3 I4 a1 a2 a3 w0 n0 f3
  have still : ∀ {σ' : L2.St} {H' : Hp} {s' : Shared}, L2.Inv (bkH X p s3 H3 scope ce fp) [] σ' H' s' → (∀ b ∈ fp, H' b = none) → ∀ b ∈ fp, FpOk (bkH X p s3 H3 scope ce fp) [] H' b := fun {σ' H' s'} J hn b hb => by
    refine ⟨hn b hb, (J.ok.exf b hb).1, J.ok.exfs b hb, .inl hb, fun x c e => (J.ok.exf b hb).2 x c e, fun q hq => ?_⟩
    have e : q = p := by simpa using (show q ∈ [p] ++ ([] : List (Addr × Obj)) from hq)
    rw [e]
    exact (f3 b hb).1.2.2.2.2.2 p (List.mem_append_left _ hp)
  have loop : codeAny (model X.prog X.w) X.A (.compLoop (.ListComp elt [⟨tg, iter, ifs, 0⟩] scope pos) 0 (.ref it) (.ref L) ce) (compPost (model X.prog X.w) X.A X.xe none (EP X pins σ Q) (.ref L) s3.heap.objs.size) s4 := by
    refine compLoop_any (fun n s' => ∃ i H', L2.Inv (bkH X p s3 H3 scope ce fp) [] (wipe σ (own.map (·.2))) H' s' ∧ tn i s'.heap ∧ (∀ b ∈ fp, H' b = none) ∧ W i n H') ?_ m0 ⟨0, H3, I4, st4, n0, w0⟩
    rintro n s5 ⟨i, H5, I5, st5, n5, w5⟩
    rcases turn i n H5 w5 with ⟨stop, q5⟩ | ⟨goes, Nx, hNx, step⟩
    · refine thnF (T.done (bkH X p s3 H3 scope ce fp) rfl rfl rfl hotB i [] s5 _ H5 (fun _ _ => False) I5 (still I5 n5) st5 stop) fun r s6 ⟨hr, I6⟩ => ?_
      subst hr
      have I7 : L2.Inv X pins σ H5 s6 := I3.call' (ch := fp) I6.os I6.base I6.hok I6.bare fun b hb => by
        obtain ⟨_, b1, b2, b3, b4, b5⟩ := (f3 b hb).1
        exact ⟨b3, b1, b4, b5⟩
      obtain ⟨m, ns, _⟩ := I6.loc
      have ns : s6.heap.Ns ce.locals m := ns
      have nC : H5 ce.locals = none := I6.free
      rw [cL] at ns nC
      refine ⟨m, ns, fun h7 sb => ?_⟩
      obtain ⟨b0, b1, b2, b3, b4, b5⟩ := I3.fpOk (Nat.le_refl _) nC
      exact ⟨.ref L, H5, I7.turned (t' := s6.toks) (fun b o hb e => (sb.2 b hb).trans e) b0 b1 b3 b4 b5, rfl, q5⟩
    · refine thnF (T.item (bkH X p s3 H3 scope ce fp) rfl rfl rfl hotB i [] s5 _ H5 (fun _ _ => False) I5 (still I5 n5) st5 goes) fun r s6 ⟨u, hr, h6⟩ => ?_
      subst hr
      refine thnF h6 fun _ s7 ⟨x, H7, I7, r7, y7, st7, n7⟩ => ?_
      refine thnF (a1.run _ s7 _ H7 x u _ (I7.pinned (still I7 n7) (T.obj _ _ st7)) r7 (step x H7 y7)) fun _ s8 ⟨σ8, H8, I8, w8, q8⟩ => ?_
      refine thnF (a2.run _ s8 σ8 H8 _ I8 q8) fun b s9 ⟨H9, I9, q9⟩ => ?_
      have next : ∀ {s' : Shared} {H' : Hp}, L2.Inv (bkH X p s3 H3 scope ce fp) ([] ++ pinsAt fp s7.heap) σ8 H' s' → Nx H' → ∃ m, m < n ∧ ∃ i H', L2.Inv (bkH X p s3 H3 scope ce fp) [] (wipe σ (own.map (·.2))) H' s' ∧ tn i s'.heap ∧ (∀ b ∈ fp, H' b = none) ∧ W i m H' := fun {s' H'} J nx => by
        obtain ⟨m', lt, w'⟩ := hNx H' nx
        have hold : ∀ b ∈ fp, ∀ o, s7.heap.get? b = some o → s'.heap.get? b = some o ∧ H' b = none := fun b hb o e => by
          obtain ⟨c1, c2, _⟩ := J.pin (b, o) (List.mem_append_right _ (List.mem_append_right _ (mem_pinsAt hb e)))
          exact ⟨c1, c2⟩
        refine ⟨m', lt, i + 1, H', (J.unpinned (pins := [])).weak (by rw [← w8, wipe_length]) (fun j v e => ?_), T.keep _ _ _ st7 fun b hb o e => (hold b hb o e).1, fun b hb => ?_, w'⟩
        · rw [← w8] at e
          exact (wipe_some e).1
        · obtain ⟨o, e, _⟩ := T.obj _ _ st7 b hb
          exact (hold b hb o e).2
      cases b with
      | false =>
        simp only [Bool.false_eq_true, if_false] at q9 ⊢
        exact next I9 q9
      | true =>
        simp only [if_true] at q9 ⊢
        refine thnF (a3.run _ s9 σ8 H9 _ I9 q9) fun z s10 ⟨yv, H10, I10, r10, acc, g10, l10, nx⟩ => ?_
        exact app_ok (X := bkH X p s3 H3 scope ce fp) I10 g10 l10 r10 fun s11 I11 => next I11 nx
  exact codeAny_compStart_list loop (T.self X.A 0 _ _ _ st4 loop)
end
end Z
set_option Elab.async false
set_option linter.all false
set_option maxRecDepth 100000
set_option maxHeartbeats 1000000
namespace Z
open PySem PySem.Spec PyProof.Rows L2 L2H
structure FnX (P : Program) (w : World) (K : PySem.W.Frag) (mg : Str → Option Value) (base : Heap) (CX : CXT) (k : Nat) (f : Addr) (fd : FuncData) (ps : List Str) (sp : (Addr × Obj) → Sp) : Prop where
  len : ∀ p vs H Q E, sp p vs H Q E → vs.length = ps.length
  run : ∀ (p : Addr × Obj) (A : Around) (outer : List PySem.Env) (s : Shared) (H : Hp) (args : Args) (us : List Value) (vs : List V) (Q : VK) (E : XK), RoomH k A → PinOk outer H s p → Env0 P w K mg base A outer s H → BindsTo s fd args (ps.zip us) → Vals vs us → sp p vs H Q E →
    codeAny (model P w) A (.call (.ref f) args) (CR CX outer P w H s Q E) s
theorem fnX_of {CX : CXT} {P : Program} {w : World} {K : PySem.W.Frag} {mg : Str → Option Value} {base : Heap} {k : Nat} {x qual : Str} {st : Stmt} {f : Addr} {fd : FuncData} {N ps : List Str} {sp : (Addr × Obj) → Sp} (F : Fun K x qual st f fd) (S : FnScope N ps (defScope st))
    (len : ∀ p vs H Q E, sp p vs H Q E → vs.length = ps.length)
    (walk : ∀ (p : Addr × Obj) (cdv : Value) (A : Around) (outer : List PySem.Env) (s : Shared) (H : Hp) (vs : List V) (Q : VK) (E : XK), RoomH k (A.deeper (envOfC qual (defScope st) s.heap.objs.size f cdv)) → sp p vs H Q E →
      ∃ t, PSs (cxH CX P w K mg base N qual (defScope st) f cdv A outer s H E p) (defBody st) t ∧ t { nx := fun _ H' => Q .non H', rt := Q } (L2.start N vs) H) : FnX P w K mg base CX (k + 1) f fd ps sp := by
  obtain ⟨oc, od, kV, doc, pm, an, cdv, ct, osl, rfl, lk, hcd⟩ := F.ex
  refine ⟨len, fun p A outer s H args us vs Q E room pin e0 hb r hsp => ?_⟩
  have hl := len _ _ _ _ _ hsp
  have kin : K.In s.heap := e0.mod.kin.keeps fun b o e => (e0.bs b o e).1
  have nol : s.heap.NoLimit := e0.mod.nolimit.keeps fun b o e => (e0.bs b o e).1
  have kinds : ∀ y ∈ ps.zip us, (defScope st).names.lookup y.1 = some .local ∨ ((defScope st).names.lookup y.1 = some .cell ∧ ((cellsFrom (s.heap.objs.size + 1) (defScope st).names []).lookup y.1).isSome = true) := by
    rintro ⟨n, v⟩ hy
    rcases S.par n (List.of_mem_zip hy).1 with q | q
    · exact .inl q
    · exact .inr ⟨q, PySem.W.cellsFrom_some _ _ _ (.inl q)⟩
  refine codeAny_call_function room.depth (kin _ _ lk) rfl S.co S.gen rfl (PySem.W.codeRec_of kin hcd) (hb _ _ _ _ ?_)
  refine wpAny_newFunctionEnv_cells S.kind kinds fun env he s1 x => ?_
  subst he
  refine ⟨nol.keeps x.toInCall.keep, codeAny_func ?_⟩
  obtain ⟨t, ht, hq⟩ := walk p cdv A outer s H vs Q E (room.deeper _) hsp
  have I0 : Inv (cxH CX P w K mg base N qual (defScope st) f cdv A outer s H E p) [] (L2.start N vs) H s1 := inv_startH S pin e0 hl r x
  refine wpAny_mono (ht.run [] s1 (L2.start N vs) H _ I0 hq) (fun fl s2 hs => ?_) fun e s2 hs => hs
  have back : ∀ {τ : L2.St} {H2 : Hp} {v : V} {u : Value}, Inv (cxH CX P w K mg base N qual (defScope st) f cdv A outer s H E p) [] τ H2 s2 → RelV v u → Q v H2 → CE outer P w H s Q u s2 := fun {τ H2 v u} J rv q => ⟨v, H2, J.os, J.bare, J.base, J.hok, rv, q⟩
  cases fl with
  | ret u =>
    obtain ⟨v, τ, H2, J, rv, q⟩ := hs
    exact back J rv q
  | next =>
    obtain ⟨τ, H2, J, q⟩ := hs
    exact back (v := V.non) (u := Value.none) J rfl q
  | brk => obtain ⟨_, _, _, q⟩ := hs; exact q.elim
  | cont => obtain ⟨_, _, _, q⟩ := hs; exact q.elim
section
variable {X : Cx} {CX : CXT} {k : Nat} {f : Addr} {fd : FuncData} {ps : List Str} {sp : (Addr × Obj) → Sp} {E : XK} {x : Str} {q pos : Pos} {e : Expr} {t : TA} {p : Addr × Obj}
theorem run_fnX {pins : List (Addr × Obj)} {σ : L2.St} {H : Hp} {s : Shared} {Q : VK} {us : List Value} {vs : List V} (F : FnX X.prog X.w X.K X.mg X.base CX k f fd ps sp) (room : RoomH k X.A) (hp : p ∈ X.pn) (hb : Binds X.K fd ps []) (hx : PassesAt CX X σ E)
    (I : Inv X pins σ H s) (r : Vals vs us) (h : sp p vs H Q E) : wpAny (model X.prog X.w) X.A (call (.ref f) us) (EP X pins σ Q) X.xe s := by
  have hl : us.length = ps.length := by rw [← r.length]; exact F.len _ _ _ _ _ h
  have b := hb s us I.kIn (by rw [List.append_nil]; exact hl)
  rw [List.append_nil] at b
  obtain ⟨g1, g2, g3, g4, g5⟩ := I.pin p (List.mem_append_left _ hp)
  have pin : PinOk X.stack H s p := ⟨g1, g2, fun hm => by
    rcases List.mem_cons.mp (I.stkSub p.1 hm) with z | z
    · exact g3 z
    · exact g4 z, g5⟩
  refine wpAny_call (codeAny_mono (F.run p X.A X.stack s H ⟨us, []⟩ us vs Q E room pin I.env0 b r h) fun r s2 hq => ?_)
  cases r with
  | error e => exact hx pins H s e s2 I hq
  | ok fl =>
    cases fl with
    | ret u => exact I.after hq
    | next => exact hq.elim
    | brk => exact hq.elim
    | cont => exact hq.elim
def tCallX (sp : (Addr × Obj) → Sp) (p : Addr × Obj) (E : XK) (t : TA) : TE := fun σ H Q => t σ H fun vs H1 => sp p vs H1 Q E
theorem pe_callX (F : FnX X.prog X.w X.K X.mg X.base CX k f fd ps sp) (room : RoomH k X.A) (hp : p ∈ X.pn) (hg : Gl X x) (hm : X.mg x = some (.ref f)) (hk : PySem.W.keepIn X.K (.ref f) = true) (hb : Binds X.K fd ps []) (hx : ∀ σ, PassesAt CX X σ E)
    (ha : PA X [e] t) (hdb : (x == ("__debug__" : Str)) = false) (he : starEach [e] X.env = (false, eval e X.env) :: starEach [] X.env) :
    PE X (.Call (.Name x q) [e] [] pos) (tCallX sp p E t) := by
  refine ⟨fun pins s σ H Q I h => ?_⟩
  refine wpAny_Call_Name_kw (ld_glob I hg hm (PySem.W.callWith_K (h₀ := X.base) I.ok.mod.kin hk (thn (ha.run pos pins s σ H _ I h) fun us s1 ⟨vs, H1, I1, r, k1⟩ => ⟨I1.kIn, ?_⟩) he rfl) hdb)
  exact run_fnX F room hp hb (hx σ) I1 r k1
theorem call_isX {D : Addr} (C : ExcC X.K D) (hp : p ∈ X.pn) (hz : p.2.cls = .ref D ∧ p.2.dict = none) (hf : ∃ vs, p.2.data = .fields vs) : CallR X (.builtin "isinstance") (rIsE X.K D p.1) := by
  intro pins s σ H xs us Q I r h
  obtain ⟨c, cv, b, rfl, hcv, e, k1⟩ := h
  match us, r with
  | [_, _], .cons rx (.cons rt .nil) =>
    cases rx
    obtain rfl := hcv _ rt
    obtain ⟨g1, _⟩ := I.pin p (List.mem_append_left _ hp)
    have J : PySem.W.InstAt s.heap p.1 p.2 D none := by
      obtain ⟨a, ⟨oc, od, oda, osl⟩⟩ := p
      obtain ⟨vs, hv⟩ := hf
      obtain ⟨h1, h2⟩ := hz
      dsimp only at h1 h2 hv
      subst h1 h2 hv
      exact ⟨g1, rfl, rfl, trivial⟩
    exact PySem.W.kia_one (PySem.W.handS_kitx_exc C.hg C.hk C.hs C.hd C.ha C.hn C.ht C.hm) I.kIn J e (fun z => nomatch z) fun tk => ⟨.bl b, H, I.kept (t' := tk) fun _ _ z => z, rfl, k1⟩
end
def spX (t : Tb) (u : At) (tab : List D) : (Addr × Obj) → Sp := fun p vs H Q E => vs = [.ref p.1] ∧ (∃ fs, p.2.data = .fields fs) ∧ ∃ c d F L M Φ, (p.2.cls = .ref (u.ea c) ∧ p.2.dict = none) ∧ tab[c]? = some d ∧ MRep t u F L H M ∧ Φ d M ∧ Aft t u F L H Φ Q
theorem cx_none {P : Program} {w : World} {outer : List PySem.Env} {H : Hp} {s : Shared} {e : Value} {s' : Shared} (h : L2N.CX P w outer H s (fun _ _ _ => False) e s') : False := by
  obtain ⟨_, _, _, _, _, _, _, _, _, _, _, _, z⟩ := h
  exact z
end Z
set_option Elab.async false
set_option linter.all false
set_option maxRecDepth 100000
set_option maxHeartbeats 1000000
namespace Z
open PySem PySem.Spec PyProof.Rows L2
open AutoSeq1 (wpAny_loadPart')
theorem meets_enumerate_newT (l : Addr) (items : Array Value) (n : Nat) (dct : Option Addr) (sl : Array (Option Value)) :
    Meets (Builtin.«enumerate.__new__» ⟨[.type "enumerate", .ref l], []⟩) (fun _ R s => s.heap.get? l = some { cls := .type "tuple", dict := dct, data := .seq items n, slots := sl } ∧
      R (.ok (.ret (.ref (s.heap.push { cls := .type "tuple_iterator", data := .fields #[.ref l, .int 0 0] }).objs.size)))
        { s with heap := (s.heap.push { cls := .type "tuple_iterator", data := .fields #[.ref l, .int 0 0] }).push { cls := .type "enumerate", data := .fields #[.none, .bool false, .ref s.heap.objs.size, rawInt 0, .none, .none] } }) :=
  .of_wp fun prog w A R s h => by
    obtain ⟨hp, g, d, tk, os⟩ := s; obtain ⟨hl, h⟩ := h
    have hsub := sub_enumerate
    have hL : Heap.IsTuple (Shared.heap ⟨hp, g, d, tk, os⟩) l items := ⟨_, hl, rfl, n, rfl⟩
    wp_walk using wpAny_loadPart' hl
    refine wpAny_stack_any fun st => wpAny_pure ?_
    split
    · rename_i c _ _ _ _ _
      cases (c == Value.type "enumerate")
      · wp_walk using wpAny_loadPart' hl, wpAny_pyIter_tuple hL
        exact ⟨_, rfl, h⟩
      · wp_walk using wpAny_loadPart' hl, wpAny_pyIter_tuple hL
        exact ⟨_, rfl, h⟩
    · wp_walk using wpAny_loadPart' hl, wpAny_pyIter_tuple hL
      exact ⟨_, rfl, h⟩
section
variable {prog : Program} {w : World} {A : Around} {E : Value → Shared → Prop} {s : Shared}
theorem call_enumerate_tuple {l : Addr} {items : Array Value} {Q : Value → Shared → Prop} (hL : s.heap.IsTuple l items)
    (h : ∀ h', IsEnum h' (s.heap.objs.size + 1) s.heap.objs.size 0 .none → h'.IsTupleIter s.heap.objs.size l 0 → h'.objs.size = s.heap.objs.size + 2 →
      (∀ b o, s.heap.get? b = some o → h'.get? b = some o) → Q (.ref (s.heap.objs.size + 1)) { s with heap := h' }) :
    wpAny (model prog w) A (call (.type "enumerate") [.ref l]) Q E s := by
  obtain ⟨⟨c, dct, dt, sl⟩, hl, hc, n, hd⟩ := hL
  replace hc : c = .type "tuple" := hc
  replace hd : dt = .seq items n := hd
  subst hc hd
  refine callType_new F.called_enumerate (by decide) (F.typeCall_enumerate_1 _) (F.newCall_enumerate_1 _) (fun obj => F.args_object_init_2 obj _) F.entry_enumerate_new
    (meets_enumerate_newT l items n dct sl) ⟨hl, ?_⟩
  have hz : (s.heap.push { cls := .type "tuple_iterator", data := .fields #[.ref l, .int 0 0] }).objs.size = s.heap.objs.size + 1 := Heap.size_push ..
  show _ ∧ _
  rw [hz]
  have he : IsEnum ((s.heap.push { cls := .type "tuple_iterator", data := .fields #[.ref l, .int 0 0] }).push
      { cls := .type "enumerate", data := .fields #[.none, .bool false, .ref s.heap.objs.size, rawInt 0, .none, .none] }) (s.heap.objs.size + 1) s.heap.objs.size 0 .none := by
    have := Heap.get?_push_size (s.heap.push { cls := .type "tuple_iterator", data := .fields #[.ref l, .int 0 0] })
      (o := { cls := .type "enumerate", data := .fields #[.none, .bool false, .ref s.heap.objs.size, rawInt 0, .none, .none] }) rfl
    rw [hz] at this; exact this
  refine ⟨⟨_, he, rfl⟩, h _ he ⟨_, Heap.get?_push_of_some _ (Heap.get?_push_size _ rfl), rfl, rfl⟩ (by rw [Heap.size_push, hz]) fun b o x => Heap.get?_push_of_some _ (Heap.get?_push_of_some _ x)⟩
end
def IteT (K : PySem.W.Frag) (a : Addr) : L2.It :=
  ⟨fun i H => ∃ (xs : List V) (x : V), SqT K H a xs ∧ xs[i]? = some x, fun i H v H' => ∃ T x, v = .ref T ∧ H T = none ∧ H' = upd H T (.tup [.int (i : Nat), x]) ∧ ∀ xs, SqT K H a xs → xs[i]? = some x, fun i H => ∃ xs : List V, SqT K H a xs ∧ xs.length = i⟩
theorem turn_enumT {P : Program} {w : World} {K : PySem.W.Frag} {elts : List Expr} {kk : Nat} {tpos : Pos} (a e it : Addr) (hai : a ≠ it) :
    Turn P w K (.Tuple elts kk tpos) (IteT K a) [e, it] e (fun i h => (∃ old, IsEnum h e it ((i : Nat) : Int) old) ∧ h.IsTupleIter it a i ∧ e ≠ it ∧ e ≠ a) where
  mem := by simp
  obj := fun i h st b hb => by
    obtain ⟨⟨old, he⟩, ⟨o, ho, hc, hd⟩, _⟩ := st
    have e' : b = e ∨ b = it := by simpa using hb
    rcases e' with z | z
    · rw [z]; exact ⟨_, he, fun v q => nomatch q⟩
    · rw [z]; exact ⟨o, ho, fun v q => by rw [hd] at q; cases q⟩
  keep := fun i h h' st k => let ⟨⟨old, he⟩, hi, hne, hea⟩ := st; ⟨⟨old, k e (by simp) _ he⟩, hi.at fun o q => k it (by simp) o q, hne, hea⟩
  item := by
    intro X hP hw hK hc i pins s σ H E I hf st hg
    subst hP hw hK
    obtain ⟨⟨old, he⟩, hit, hne, hea⟩ := st
    obtain ⟨xs, x, hq, hx⟩ := hg
    obtain ⟨its, rv, p, hz⟩ := I.tuple hq
    obtain ⟨u, hu, ru⟩ := rv.get hx
    have hel : e < s.heap.objs.size := Heap.lt_size he
    have hil : it < s.heap.objs.size := by obtain ⟨_, q, _⟩ := hit; exact Heap.lt_size q
    have hil2 : i < its.length := (List.getElem?_eq_some_iff.mp hu).1
    have hh : X.A.in1.handled = none := I.ok.hd hc
    refine wpAny_pyNext_enum_itemD (Draws.tuple hh it a hai its.toArray) he ⟨hit, (show s.heap.IsTuple a its.toArray from p)⟩ (by simpa using hil2) hne (by simp [hne, hea]) fun x' h' tk hx' ho hst' hT hsz hk => ?_
    have hxu : x' = u := by
      have hx'' : its[i]? = some x' := by simpa using hx'
      rw [hu] at hx''
      exact (Option.some.inj hx'').symm
    subst hxu
    refine ⟨_, rfl, wpAny_letOwnedTupleGo_enum (s := { s with heap := h', toks := tk + 1 }) ho fun h'' he' sb => ?_⟩
    have hT2 : h''.get? s.heap.objs.size = some { cls := .type "tuple", data := .seq #[.int i tk, x'] } := (sb.2 _ (Nat.ne_of_gt hel)).trans hT
    have new : ObjOk X.prog X.w (upd H s.heap.objs.size (.tup [.int (i : Nat), x])) h'' s.heap.objs.size (.tup [.int (i : Nat), x]) :=
      ⟨by show 2 ≤ sizeLine; decide, [.int i tk, x'], .cons ⟨_, rfl⟩ (.cons ru .nil), ⟨_, hT2, rfl, _, rfl⟩⟩
    have I1 : Inv X pins σ (upd H s.heap.objs.size (.tup [.int (i : Nat), x])) { s with heap := h'', toks := tk + 1 } :=
      I.turnedNew (ch := [e, it]) (fun b ob hb q => (sb.2 b (fun z => hb (by simp [z]))).trans (hk b ob (fun z => hb (by simp [z])) (fun z => hb (by simp [z])) q)) hf (Nat.le_refl _) new
    refine ⟨.ref s.heap.objs.size, _, I1, rfl, ⟨_, x, rfl, I.hok.fresh (Nat.le_refl _), rfl, fun ys hy => by rw [I.tuple_inj hy hq]; exact hx⟩, ⟨⟨x', ?_⟩, hst'.1.at fun o q => (sb.2 it (Ne.symm hne)).trans q, hne, hea⟩, fun b hb => ?_⟩
    · have e1 : ((i + 1 : Nat) : Int) = (i : Int) + 1 := by omega
      rw [e1]; exact he'
    · have hb' : b < s.heap.objs.size := by
        have e' : b = e ∨ b = it := by simpa using hb
        rcases e' with z | z
        · rw [z]; exact hel
        · rw [z]; exact hil
      rw [upd_ne (Nat.ne_of_lt hb')]
      exact (hf b hb).1
  done := by
    intro X hP hw hK hc i pins s σ H E I hf st hg
    subst hP hw hK
    obtain ⟨⟨old, he⟩, hit, hne, hea⟩ := st
    obtain ⟨xs, hq, hx⟩ := hg
    obtain ⟨its, rv, p, hz⟩ := I.tuple hq
    obtain ⟨f0, f1, f2, f3, f4, f5⟩ := hf it (by simp)
    have hl := rv.length
    have hh : X.A.in1.handled = none := I.ok.hd hc
    have hi : i = its.toArray.size := by simp; omega
    subst hi
    exact wpAny_pyNext_enum_endD (Draws.tuple hh it a hai its.toArray) he ⟨hit, (show s.heap.IsTuple a its.toArray from p)⟩ fun h' eb => ⟨rfl, I.turned (t' := s.toks) (fun b o hb q => eb b o hb q) f0 f1 f3 f4 f5⟩
  self := fun A i s Q E st h => let ⟨⟨_, he⟩, _⟩ := st; wpAny_pyIter_enum he h
def iEnumA (K : PySem.W.Frag) (ta : TA) : TI := fun σ H R => ta σ H fun vs H1 => ∃ a xs, vs = [.ref a] ∧ ((SqL K H1 a xs ∧ R (Ite K a) H1) ∨ (SqT K H1 a xs ∧ R (IteT K a) H1))
theorem pi_enumA {X : Cx} {e : Expr} {ta : TA} {p pos tpos : Pos} {elts : List Expr} {kk : Nat} (hg : Gl X "enumerate") (hm : X.mg "enumerate" = none) (ha : PA X [e] ta) (hs : starEach [e] X.env = [(false, eval e X.env)] := by rfl) :
    PI X (.Tuple elts kk tpos) (.Call (.Name "enumerate" p) [e] [] pos) (iEnumA X.K ta) := by
  refine ⟨fun pins s σ H R I h => ?_⟩
  refine Call_ (ld_blt I hg hm boot_enumerate (PyProof.Rows.callWith_type1 (thn (ha.run pos pins s σ H _ I h) fun us s1 ⟨vs, H1, I1, r1, q1⟩ => ?_) hs rfl))
  obtain ⟨a, xs, ex, q1⟩ := q1
  subst ex
  cases r1 with
  | cons r rr =>
    cases rr
    cases r
    have hok2 : ∀ b, b ∈ [s1.heap.objs.size + 1, s1.heap.objs.size] → FpOk X pins H1 b := fun b hb => by
      have e' : b = s1.heap.objs.size + 1 ∨ b = s1.heap.objs.size := by simpa using hb
      have hle : s1.heap.objs.size ≤ b := by
        rcases e' with z | z
        · rw [z]; exact Nat.le_add_right _ _
        · rw [z]; exact Nat.le_refl _
      exact I1.fpOk hle (I1.hok.fresh hle)
    rcases q1 with ⟨hq, q⟩ | ⟨hq, q⟩
    · obtain ⟨its, rv, p', hz⟩ := I1.list hq
      refine call_enumerate_list p'.isList fun h' he hit hsz hk => wpAny_pyIter_enum he ?_
      have I2 : Inv X pins σ H1 { s1 with heap := h' } := I1.kept (t' := s1.toks) hk
      exact ⟨s1.heap.objs.size + 1, [s1.heap.objs.size + 1, s1.heap.objs.size], _, _, H1, rfl, I2, turn_enum a (s1.heap.objs.size + 1) s1.heap.objs.size, ⟨⟨.none, he⟩, hit, Nat.succ_ne_self _⟩, hok2, q⟩
    · obtain ⟨its, rv, p', hz⟩ := I1.tuple hq
      have la : a < s1.heap.objs.size := p'.lt
      refine call_enumerate_tuple (show s1.heap.IsTuple a its.toArray from p') fun h' he hit hsz hk => wpAny_pyIter_enum he ?_
      have I2 : Inv X pins σ H1 { s1 with heap := h' } := I1.kept (t' := s1.toks) hk
      exact ⟨s1.heap.objs.size + 1, [s1.heap.objs.size + 1, s1.heap.objs.size], _, _, H1, rfl, I2, turn_enumT a (s1.heap.objs.size + 1) s1.heap.objs.size (Nat.ne_of_lt la), ⟨⟨.none, he⟩, hit, Nat.succ_ne_self _, Nat.ne_of_gt (Nat.lt_succ_of_lt la)⟩, hok2, q⟩
end Z
set_option Elab.async false
set_option linter.all false
set_option maxRecDepth 100000
set_option maxHeartbeats 1000000
namespace Z
open PySem PySem.Spec PyProof.Rows L2
open AutoSeq1 (wpAny_loadPart')
abbrev ZR (h : Heap) (z TI TO : Addr) (v : Value) (f : Bool) : Prop :=
  h.get? z = some { cls := .type "zip", dict := none, data := .fields #[v, .bool f, .bool false, .ref TI, .ref TO], slots := #[] }
def V0 (v : Value) : Prop := v = .none ∨ ∃ T : Nat, v = rawInt (T : Int)
structure Zq (h : Heap) (z TI TO i1 i2 l1 l2 : Addr) (k : Nat) : Prop where
  z : ∃ v f, V0 v ∧ ZR h z TI TO v f
  ti : IsPair h TI (.ref i1) (.ref i2)
  to : ∃ x y, IsPair h TO x y
  one : h.IsTupleIter i1 l1 k
  two : h.IsTupleIter i2 l2 k
theorem Zq.mv {h h' : Heap} {z TI TO i1 i2 l1 l2 : Addr} {k : Nat} (s : Zq h z TI TO i1 i2 l1 l2 k) (e : ∀ b, b ∈ [z, TI, TO, i1, i2] → ∀ o, h.get? b = some o → h'.get? b = some o) : Zq h' z TI TO i1 i2 l1 l2 k :=
  ⟨let ⟨v, f, a, b⟩ := s.z; ⟨v, f, a, e z (by simp) _ b⟩, e TI (by simp) _ s.ti, let ⟨x, y, q⟩ := s.to; ⟨x, y, e TO (by simp) _ q⟩, s.one.at fun o q => e i1 (by simp) o q, s.two.at fun o q => e i2 (by simp) o q⟩
section
variable {prog : Program} {w : World} {A : Around} {E : Value → Shared → Prop} {s : Shared}
theorem zq_free {z TI TO : Addr} {v : Value} {f : Bool} {Q : Bool → Shared → Prop} (hv : V0 v) (hz : ZR s.heap z TI TO v f)
    (h : ∀ b h' f', ZR h' z TI TO v f' → Heap.SameBut z s.heap h' → Q b { s with heap := h' }) : wpAny (model prog w) A (Builtin.SmallTypes.ownedTupleIsFree (.ref z)) Q E s := by
  unfold Builtin.SmallTypes.ownedTupleIsFree
  rcases hv with rfl | ⟨T, rfl⟩
  · exact wpAny_bind (wpAny_field hz rfl (x := .none) rfl (wpAny_pure (h true s.heap f hz (Heap.SameBut.refl _ _))))
  · refine wpAny_bind (wpAny_field hz rfl (x := rawInt T) rfl ?_)
    show wpAny _ _ (loadIfAlive ((T : Int).toNat) >>= _) _ _ _
    rw [Int.toNat_natCast]
    refine wpAny_bind (Q := _) (show wpAny (model prog w) A (loadIfAlive T) _ E s from ?_)
    have key : ∀ (r : Option Obj) (R : Option Obj → Shared → Prop), s.heap.get? T = r → R r s → wpAny (model prog w) A (loadIfAlive T) R E s := fun r R e q => by
      subst e
      exact fun _ _ _ => q
    cases e : s.heap.get? T with
    | none =>
      refine key none _ e ?_
      simp only [Option.isNone_none, if_true]
      exact wpAny_pure (h true s.heap f hz (Heap.SameBut.refl _ _))
    | some o =>
      refine key (some o) _ e ?_
      simp only [Option.isNone_some, Bool.false_eq_true, if_false]
      refine wpAny_bind (wpAny_field hz rfl (x := .bool f) rfl ?_)
      cases f with
      | true =>
        rw [if_neg (show ¬ ((Value.bool true != Value.bool true) = true) from Bool.false_ne_true)]
        exact wpAny_pure (h false s.heap true hz (Heap.SameBut.refl _ _))
      | false =>
        rw [if_pos (show (Value.bool false != Value.bool true) = true from rfl)]
        exact wpAny_bind (wpAny_setField_rec hz (by simp) fun h₁ hz₁ hs₁ => wpAny_pure (h false h₁ true hz₁ hs₁))
theorem zq_item {z TI TO i1 i2 l1 l2 : Addr} {k : Nat} {xs ys : Array Value} {x y : Value} {Q : Value → Shared → Prop} (D : ZipApart z TI TO i1 i2 l1 l2) (st : Zq s.heap z TI TO i1 i2 l1 l2 k)
    (hl1 : s.heap.IsTuple l1 xs) (hl2 : s.heap.IsTuple l2 ys) (hx : xs[k]? = some x) (hy : ys[k]? = some y)
    (hQ : ∀ h', Zq h' z TI TO i1 i2 l1 l2 (k + 1) → IsPair h' s.heap.objs.size x y → h'.objs.size = s.heap.objs.size + 1 →
      (∀ c o, c ≠ z → c ≠ TO → c ≠ i1 → c ≠ i2 → s.heap.get? c = some o → h'.get? c = some o) → Q (.ref s.heap.objs.size) { s with heap := h' }) :
    wpAny (model prog w) A (Builtin.«zip.__next__» ⟨[.ref z], []⟩) (fun fin s' => ∃ v, fin = .done (.ret v) ∧ Q v s') E s := by
  obtain ⟨⟨v0, f0, hv0, hz⟩, hTI, ⟨p, q, hTO⟩, h1, h2⟩ := st
  show wpAny _ _ (field (.ref z) 2 >>= _) _ _ _
  refine wpAny_bind (wpAny_field hz rfl (x := .bool false) rfl ?_)
  show wpAny _ _ (field (.ref z) 3 >>= _) _ _ _
  refine wpAny_bind (wpAny_field hz rfl (x := .ref TI) rfl ?_)
  refine wpAny_bind (wpAny_seqItems hTI rfl ?_)
  show wpAny _ _ (Builtin.SmallTypes.ownedTupleIsFree (.ref z) >>= _) _ _ _
  refine wpAny_bind (zq_free hv0 hz fun b g0 f1 z0 s0 => ?_)
  have sz0 : g0.objs.size = s.heap.objs.size := s0.1
  cases b with
  | true =>
    simp only [if_true]
    refine wpAny_bind (wpAny_rule ?_)
    refine wpAny_bind (wpAny_field z0 rfl (x := .ref TO) rfl ?_)
    refine wpAny_bind (wpAny_setField_rec z0 (by simp) fun g1 z1 s1 => ?_)
    replace z1 : ZR g1 z TI TO .ellipsis f1 := z1
    have s01 : ∀ c, c ≠ z → ∀ o, s.heap.get? c = some o → g1.get? c = some o := fun c n o e => s1.extBut _ _ n (s0.extBut _ _ n e)
    refine wpAny_bind ?_
    simp only [List.zipIdx_cons, List.zipIdx_nil, List.forIn_cons, List.forIn_nil]
    refine wpAny_bind (wpAny_bind (wpAny_onRaise ?_))
    show wpAny _ _ (Builtin.SmallTypes.nextOf (.ref i1) >>= _) _ _ _
    refine wpAny_bind (RZ.nextOf_tuple_item (h1.at fun o => s01 _ D.i1z o) (let ⟨o, ho, r⟩ := hl1; ⟨o, s01 _ D.l1z _ ho, r⟩) hx fun g2 h12 s2 => wpAny_pure ?_)
    have t2 : IsPair g2 TO p q := s2.extBut _ _ D.TOi1 (s01 _ D.TOz _ hTO)
    refine wpAny_bind (wpAny_seqItems t2 rfl ?_)
    refine wpAny_bind (wpAny_updateSeq_pair t2 fun g3 t3 s3 => ?_)
    replace t3 : IsPair g3 TO x q := t3
    refine wpAny_bind (wpAny_letGo (wpAny_pure ?_))
    have to3 : ∀ a o, a ≠ z → a ≠ i1 → a ≠ TO → s.heap.get? a = some o → g3.get? a = some o := fun a o n1 n2 n3 e => s3.extBut _ _ n3 (s2.extBut _ _ n2 (s01 _ n1 _ e))
    refine wpAny_bind (wpAny_bind (wpAny_onRaise ?_))
    show wpAny _ _ (Builtin.SmallTypes.nextOf (.ref i2) >>= _) _ _ _
    refine wpAny_bind (RZ.nextOf_tuple_item (h2.at fun o => to3 _ o D.i2z D.i12.symm D.TOi2.symm) (let ⟨o, ho, r⟩ := hl2; ⟨o, to3 _ _ D.l2z D.l2i1 D.l2TO ho, r⟩) hy fun g4 h24 s4 => wpAny_pure ?_)
    have t4 : IsPair g4 TO x q := s4.extBut _ _ D.TOi2 t3
    refine wpAny_bind (wpAny_seqItems t4 rfl ?_)
    refine wpAny_bind (wpAny_updateSeq_pair t4 fun g5 t5 s5 => ?_)
    replace t5 : IsPair g5 TO x y := t5
    refine wpAny_bind (wpAny_letGo (wpAny_pure (wpAny_pure ?_)))
    refine wpAny_bind (wpAny_seqItems t5 rfl ?_)
    refine wpAny_bind (wpAny_newTuple ?_)
    have hsz : g5.objs.size = s.heap.objs.size := by rw [s5.1, s4.1, s3.1, s2.1, s1.1, sz0]
    have z5 : ZR g5 z TI TO .ellipsis f1 := s5.extBut _ _ D.TOz.symm (s4.extBut _ _ D.i2z.symm (s3.extBut _ _ D.TOz.symm (s2.extBut _ _ D.i1z.symm z1)))
    have k5 : ∀ a o, a ≠ z → a ≠ TO → a ≠ i1 → a ≠ i2 → s.heap.get? a = some o → g5.get? a = some o := fun a o n1 n2 n3 n4 e => s5.extBut _ _ n2 (s4.extBut _ _ n4 (to3 a o n1 n3 n2 e))
    have h15 : g5.IsTupleIter i1 l1 (k + 1) := h12.at fun o e => s5.extBut _ _ D.TOi1.symm (s4.extBut _ _ D.i12 (s3.extBut _ _ D.TOi1.symm e))
    have h25 : g5.IsTupleIter i2 l2 (k + 1) := h24.at fun o e => s5.extBut _ _ D.TOi2.symm e
    have zlt : z < g5.objs.size := Heap.lt_size z5
    show wpAny _ _ (Builtin.SmallTypes.ownedTupleHandOut (.ref z) (.ref g5.objs.size) >>= _) _ _ _
    refine wpAny_bind ?_
    unfold Builtin.SmallTypes.ownedTupleHandOut
    have z6 : ZR (g5.push { cls := .type "tuple", data := .seq #[x, y] }) z TI TO .ellipsis f1 := Heap.get?_push_of_some _ z5
    refine wpAny_bind (wpAny_setField_rec z6 (by simp) fun g7 z7 s7 => ?_)
    replace z7 : ZR g7 z TI TO (rawInt g5.objs.size) f1 := z7
    refine wpAny_setField_rec z7 (by simp) fun g8 z8 s8 => ?_
    replace z8 : ZR g8 z TI TO (rawInt g5.objs.size) false := z8
    have up : ∀ a o, a ≠ z → g5.get? a = some o → g8.get? a = some o := fun a o n e => s8.extBut _ _ n (s7.extBut _ _ n (Heap.get?_push_of_some _ e))
    have new8 : IsPair g8 g5.objs.size x y := s8.extBut _ _ (Nat.ne_of_gt zlt) (s7.extBut _ _ (Nat.ne_of_gt zlt) (Heap.get?_push_size _ rfl))
    have len8 : g8.objs.size = g5.objs.size + 1 := by rw [s8.1, s7.1, Heap.size_push]
    rw [hsz] at new8 len8
    refine wpAny_pure ⟨_, rfl, ?_⟩
    show Q (.ref g5.objs.size) _
    rw [hsz]
    exact hQ g8 ⟨⟨_, _, .inr ⟨_, rfl⟩, z8⟩, up _ _ D.TIz (k5 _ _ D.TIz D.TITO D.TIi1 D.TIi2 hTI), ⟨_, _, up _ _ D.TOz t5⟩, h15.at fun o e => up _ o D.i1z e, h25.at fun o e => up _ o D.i2z e⟩ new8 len8 fun a o n1 n2 n3 n4 e => up a o n1 (k5 a o n1 n2 n3 n4 e)
  | false =>
    simp only [Bool.false_eq_true, if_false]
    refine wpAny_bind ?_
    rw [← Array.forIn_toList]
    simp only [List.forIn_cons, List.forIn_nil]
    refine wpAny_bind (wpAny_bind (wpAny_holding ?_))
    show wpAny _ _ (Builtin.SmallTypes.nextOf (.ref i1) >>= _) _ _ _
    refine wpAny_bind (RZ.nextOf_tuple_item (s := { s with heap := g0 }) (h1.extBut s0.extBut D.i1z) (hl1.extBut s0.extBut D.l1z) hx fun h₂ h1₂ hs₂ => wpAny_pure ?_)
    refine wpAny_pure ?_
    refine wpAny_bind (wpAny_bind (wpAny_holding ?_))
    show wpAny _ _ (Builtin.SmallTypes.nextOf (.ref i2) >>= _) _ _ _
    refine wpAny_bind (RZ.nextOf_tuple_item (s := { s with heap := h₂ }) ((h2.extBut s0.extBut D.i2z).extBut hs₂.extBut D.i12.symm) ((hl2.extBut s0.extBut D.l2z).extBut hs₂.extBut D.l2i1) hy fun h₃ h2₃ hs₃ => wpAny_pure ?_)
    refine wpAny_pure (wpAny_pure ?_)
    show wpAny _ _ (newTuple [x, y] >>= _) _ _ _
    refine wpAny_bind (wpAny_newTuple ?_)
    have hsz : h₃.objs.size = s.heap.objs.size := by rw [hs₃.1, hs₂.1, sz0]
    have hz₃ : ZR h₃ z TI TO v0 f1 := hs₃.extBut _ _ D.i2z.symm (hs₂.extBut _ _ D.i1z.symm z0)
    have hk : ∀ c o, c ≠ z → c ≠ i1 → c ≠ i2 → s.heap.get? c = some o → h₃.get? c = some o := fun c o c1 c2 c3 e => hs₃.extBut _ _ c3 (hs₂.extBut _ _ c2 (s0.extBut _ _ c1 e))
    have h1₃ : h₃.IsTupleIter i1 l1 (k + 1) := h1₂.extBut hs₃.extBut D.i12
    refine wpAny_pure ⟨_, rfl, ?_⟩
    show Q (.ref h₃.objs.size) _
    have hp : IsPair (h₃.push { cls := .type "tuple", data := .seq #[x, y] }) h₃.objs.size x y := Heap.get?_push_size _ rfl
    have hz4 : (h₃.push { cls := .type "tuple", data := .seq #[x, y] }).objs.size = h₃.objs.size + 1 := Heap.size_push ..
    rw [hsz] at hp hz4 ⊢
    refine hQ _ (Zq.mv (h := h₃) ⟨⟨_, _, hv0, hz₃⟩, hk _ _ D.TIz D.TIi1 D.TIi2 hTI, ⟨_, _, hk _ _ D.TOz D.TOi1 D.TOi2 hTO⟩, h1₃, h2₃⟩ fun b _ o e => Heap.get?_push_of_some _ e) hp hz4 fun c o c1 _ c2 c3 e => Heap.get?_push_of_some _ (hk c o c1 c2 c3 e)
theorem zq_end {z TI TO i1 i2 l1 l2 : Addr} {k : Nat} {xs ys : Array Value} {Q : Fin → Shared → Prop} (hh : A.handled = none) (D : ZipApart z TI TO i1 i2 l1 l2) (st : Zq s.heap z TI TO i1 i2 l1 l2 k)
    (hl1 : s.heap.IsTuple l1 xs) (hl2 : s.heap.IsTuple l2 ys) (hend : xs[k]? = none ∨ ys[k]? = none)
    (hE : ∀ h' e, (∀ c o, c ≠ z → c ≠ TO → c ≠ i1 → c ≠ i2 → s.heap.get? c = some o → h'.get? c = some o) → (∃ o, h'.get? e = some o ∧ o.cls = .type "StopIteration") → E (.ref e) { s with heap := h' }) :
    wpAny (model prog w) A (Builtin.«zip.__next__» ⟨[.ref z], []⟩) Q E s := by
  obtain ⟨⟨v0, f0, hv0, hz⟩, hTI, ⟨p, q, hTO⟩, h1, h2⟩ := st
  show wpAny _ _ (field (.ref z) 2 >>= _) _ _ _
  refine wpAny_bind (wpAny_field hz rfl (x := .bool false) rfl ?_)
  show wpAny _ _ (field (.ref z) 3 >>= _) _ _ _
  refine wpAny_bind (wpAny_field hz rfl (x := .ref TI) rfl ?_)
  refine wpAny_bind (wpAny_seqItems hTI rfl ?_)
  show wpAny _ _ (Builtin.SmallTypes.ownedTupleIsFree (.ref z) >>= _) _ _ _
  refine wpAny_bind (zq_free hv0 hz fun b g0 f1 z0 s0 => ?_)
  cases b with
  | true =>
    simp only [if_true]
    refine wpAny_bind (wpAny_rule ?_)
    refine wpAny_bind (wpAny_field z0 rfl (x := .ref TO) rfl ?_)
    refine wpAny_bind (wpAny_setField_rec z0 (by simp) fun g1 z1 s1 => ?_)
    replace z1 : ZR g1 z TI TO .ellipsis f1 := z1
    have s01 : ∀ c, c ≠ z → ∀ o, s.heap.get? c = some o → g1.get? c = some o := fun c n o e => s1.extBut _ _ n (s0.extBut _ _ n e)
    refine wpAny_bind ?_
    simp only [List.zipIdx_cons, List.zipIdx_nil, List.forIn_cons, List.forIn_nil]
    refine wpAny_bind (wpAny_bind (wpAny_onRaise ?_))
    show wpAny _ _ (Builtin.SmallTypes.nextOf (.ref i1) >>= _) _ _ _
    have a1 : g1.IsTupleIter i1 l1 k := h1.at fun o => s01 _ D.i1z o
    have a2 : g1.IsTuple l1 xs := let ⟨o, ho, r⟩ := hl1; ⟨o, s01 _ D.l1z _ ho, r⟩
    cases hx : xs[k]? with
    | none =>
      refine wpAny_bind (RZ.nextOf_tuple_end hh a1 a2 hx fun g2 e s2 he => ?_)
      obtain ⟨oe, hoe, hce⟩ := he
      have z2 : ZR g2 z TI TO .ellipsis f1 := s2 _ _ D.i1z.symm z1
      have hez : e ≠ z := fun x => by subst x; rw [z2] at hoe; cases hoe; simp at hce
      refine wpAny_setField_rec z2 (by simp) fun g3 _ s3 => hE g3 e (fun a o n1 _ n3 _ x => s3.extBut _ _ n1 (s2 _ _ n3 (s01 _ n1 _ x))) ⟨oe, s3.extBut _ _ hez hoe, hce⟩
    | some x =>
      have hy : ys[k]? = none := by rcases hend with h | h; rw [hx] at h; cases h; exact h
      refine wpAny_bind (RZ.nextOf_tuple_item a1 a2 hx fun g2 h12 s2 => wpAny_pure ?_)
      have t2 : IsPair g2 TO p q := s2.extBut _ _ D.TOi1 (s01 _ D.TOz _ hTO)
      refine wpAny_bind (wpAny_seqItems t2 rfl ?_)
      refine wpAny_bind (wpAny_updateSeq_pair t2 fun g3 t3 s3 => ?_)
      refine wpAny_bind (wpAny_letGo (wpAny_pure ?_))
      have to3 : ∀ a o, a ≠ z → a ≠ i1 → a ≠ TO → s.heap.get? a = some o → g3.get? a = some o := fun a o n1 n2 n3 e => s3.extBut _ _ n3 (s2.extBut _ _ n2 (s01 _ n1 _ e))
      refine wpAny_bind (wpAny_bind (wpAny_onRaise ?_))
      show wpAny _ _ (Builtin.SmallTypes.nextOf (.ref i2) >>= _) _ _ _
      refine wpAny_bind (RZ.nextOf_tuple_end hh (h2.at fun o => to3 _ o D.i2z D.i12.symm D.TOi2.symm) (let ⟨o, ho, r⟩ := hl2; ⟨o, to3 _ _ D.l2z D.l2i1 D.l2TO ho, r⟩) hy fun g4 e s4 he => ?_)
      obtain ⟨oe, hoe, hce⟩ := he
      have z4 : ZR g4 z TI TO .ellipsis f1 := s4 _ _ D.i2z.symm (s3.extBut _ _ D.TOz.symm (s2.extBut _ _ D.i1z.symm z1))
      have hez : e ≠ z := fun x => by subst x; rw [z4] at hoe; cases hoe; simp at hce
      refine wpAny_setField_rec z4 (by simp) fun g5 _ s5 => hE g5 e (fun a o n1 n2 n3 n4 x => s5.extBut _ _ n1 (s4 _ _ n4 (to3 a o n1 n3 n2 x))) ⟨oe, s5.extBut _ _ hez hoe, hce⟩
  | false =>
    simp only [Bool.false_eq_true, if_false]
    refine wpAny_bind ?_
    rw [← Array.forIn_toList]
    simp only [List.forIn_cons, List.forIn_nil]
    refine wpAny_bind (wpAny_bind (wpAny_holding ?_))
    show wpAny _ _ (Builtin.SmallTypes.nextOf (.ref i1) >>= _) _ _ _
    cases hx : xs[k]? with
    | none =>
      refine wpAny_bind (RZ.nextOf_tuple_end (s := { s with heap := g0 }) hh (h1.extBut s0.extBut D.i1z) (hl1.extBut s0.extBut D.l1z) hx fun h₂ e hs₂ he => ?_)
      exact hE h₂ e (fun c o c1 _ c2 _ x => hs₂ _ _ c2 (s0.extBut _ _ c1 x)) he
    | some x =>
      have hy : ys[k]? = none := by rcases hend with h | h; rw [hx] at h; cases h; exact h
      refine wpAny_bind (RZ.nextOf_tuple_item (s := { s with heap := g0 }) (h1.extBut s0.extBut D.i1z) (hl1.extBut s0.extBut D.l1z) hx fun h₂ h1₂ hs₂ => wpAny_pure ?_)
      refine wpAny_pure ?_
      refine wpAny_bind (wpAny_bind (wpAny_holding ?_))
      show wpAny _ _ (Builtin.SmallTypes.nextOf (.ref i2) >>= _) _ _ _
      refine wpAny_bind (RZ.nextOf_tuple_end (s := { s with heap := h₂ }) hh ((h2.extBut s0.extBut D.i2z).extBut hs₂.extBut D.i12.symm) ((hl2.extBut s0.extBut D.l2z).extBut hs₂.extBut D.l2i1) hy fun h₃ e hs₃ he => ?_)
      exact hE h₃ e (fun c o c1 _ c2 c3 x => hs₃ _ _ c3 (hs₂.extBut _ _ c2 (s0.extBut _ _ c1 x))) he
theorem next_zq_item {z TI TO i1 i2 l1 l2 : Addr} {k : Nat} {xs ys : Array Value} {x y : Value} {Q : Value → Shared → Prop} (D : ZipApart z TI TO i1 i2 l1 l2) (st : Zq s.heap z TI TO i1 i2 l1 l2 k)
    (hl1 : s.heap.IsTuple l1 xs) (hl2 : s.heap.IsTuple l2 ys) (hx : xs[k]? = some x) (hy : ys[k]? = some y)
    (hQ : ∀ h', Zq h' z TI TO i1 i2 l1 l2 (k + 1) → IsPair h' s.heap.objs.size x y → h'.objs.size = s.heap.objs.size + 1 →
      (∀ c o, c ≠ z → c ≠ TO → c ≠ i1 → c ≠ i2 → s.heap.get? c = some o → h'.get? c = some o) → Q (.ref s.heap.objs.size) { s with heap := h' }) :
    wpAny (model prog w) A (Builtin.SmallTypes.nextOf (.ref z)) Q E s := by
  have hT : s.TypeIs (.ref z) "zip" := let ⟨_, _, _, e⟩ := st.z; ⟨_, e, rfl⟩
  unfold Builtin.SmallTypes.nextOf
  exact wpAny_bind (wpAny_callSpecial?_slot (name := Str.ofString "__next__") hT F.slot_zip_next (wpAny_call_entry F.slot_zip_next hT F.entry_zip_next
    (zq_item D st hl1 hl2 hx hy fun h' a1 a2 a3 a4 => wpAny_pure (hQ h' a1 a2 a3 a4)) (F.args_zip_next_1 _)))
theorem next_zq_end {z TI TO i1 i2 l1 l2 : Addr} {k : Nat} {xs ys : Array Value} {Q : Value → Shared → Prop} (hh : A.handled = none) (D : ZipApart z TI TO i1 i2 l1 l2) (st : Zq s.heap z TI TO i1 i2 l1 l2 k)
    (hl1 : s.heap.IsTuple l1 xs) (hl2 : s.heap.IsTuple l2 ys) (hend : xs[k]? = none ∨ ys[k]? = none)
    (hE : ∀ h' e, (∀ c o, c ≠ z → c ≠ TO → c ≠ i1 → c ≠ i2 → s.heap.get? c = some o → h'.get? c = some o) → (∃ o, h'.get? e = some o ∧ o.cls = .type "StopIteration") → E (.ref e) { s with heap := h' }) :
    wpAny (model prog w) A (Builtin.SmallTypes.nextOf (.ref z)) Q E s := by
  have hT : s.TypeIs (.ref z) "zip" := let ⟨_, _, _, e⟩ := st.z; ⟨_, e, rfl⟩
  unfold Builtin.SmallTypes.nextOf
  exact wpAny_bind (wpAny_callSpecial?_slot (name := Str.ofString "__next__") hT F.slot_zip_next (wpAny_call_entry F.slot_zip_next hT F.entry_zip_next
    (zq_end hh D st hl1 hl2 hend hE) (F.args_zip_next_1 _)))
theorem eq_item {e z TI TO i1 i2 l1 l2 : Addr} {i : Nat} {old : Value} {xs ys : Array Value} {x y : Value} {Q : Value → Shared → Prop} (D : ZipApart z TI TO i1 i2 l1 l2) (he : IsEnum s.heap e z ((i : Nat) : Int) old) (st : Zq s.heap z TI TO i1 i2 l1 l2 i)
    (hn : e ≠ z ∧ e ≠ TI ∧ e ≠ TO ∧ e ≠ i1 ∧ e ≠ i2) (hl1 : s.heap.IsTuple l1 xs) (hl2 : s.heap.IsTuple l2 ys) (hx : xs[i]? = some x) (hy : ys[i]? = some y)
    (hQ : ∀ h₁ h' tk, Zq h₁ z TI TO i1 i2 l1 l2 (i + 1) → IsPair h₁ s.heap.objs.size x y → h₁.objs.size = s.heap.objs.size + 1 → (∀ c o, c ≠ z → c ≠ TO → c ≠ i1 → c ≠ i2 → s.heap.get? c = some o → h₁.get? c = some o) →
      IsEnumOut h' e z (((i : Nat) : Int) + 1) (.ref s.heap.objs.size) (s.heap.objs.size + 1) → h'.get? (s.heap.objs.size + 1) = some { cls := .type "tuple", data := .seq #[.int (i : Nat) tk, .ref s.heap.objs.size] } →
      (∀ b o, b ≠ e → h₁.get? b = some o → h'.get? b = some o) → Q (.ref (s.heap.objs.size + 1)) { s with heap := h', toks := tk + 1 }) :
    wpAny (model prog w) A (Builtin.«enumerate.__next__» ⟨[.ref e], []⟩) (fun fin s' => ∃ v, fin = .done (.ret v) ∧ Q v s') E s := by
  obtain ⟨hp, g, d, tk₀, os⟩ := s
  show wpAny _ _ (field (.ref e) 2 >>= _) _ _ _
  refine wpAny_bind (wpAny_field he rfl (x := .ref z) rfl ?_)
  refine wpAny_bind (next_zq_item D st hl1 hl2 hx hy fun h₁ st1 hP hsz1 hk1 => ?_)
  have he₁ : IsEnum h₁ e z ((i : Nat) : Int) old := hk1 _ _ hn.1 hn.2.2.1 hn.2.2.2.1 hn.2.2.2.2 he
  show wpAny _ _ (field (.ref e) 3 >>= _) _ _ ⟨h₁, g, d, tk₀, os⟩
  refine wpAny_bind (wpAny_field he₁ rfl (x := rawInt i) rfl ?_)
  show wpAny _ _ (field (.ref e) 4 >>= _) _ _ ⟨h₁, g, d, tk₀, os⟩
  refine wpAny_bind (wpAny_field he₁ rfl (x := .none) rfl ?_)
  show wpAny _ _ (mkInt i >>= _) _ _ ⟨h₁, g, d, tk₀, os⟩
  refine wpAny_bind (wpAny_mkInt ?_)
  show wpAny _ _ (setField (.ref e) 3 (rawInt ((i : Int) + 1)) >>= _) _ _ ⟨h₁, g, d, tk₀ + 1, os⟩
  refine wpAny_bind (wpAny_setField_rec he₁ (by simp) fun h₂ he₂ hs₂ => ?_)
  replace hs₂ : Heap.SameBut e h₁ h₂ := hs₂
  replace he₂ : IsEnum h₂ e z ((i : Int) + 1) old := he₂
  show wpAny _ _ (setField (.ref e) 4 .none >>= _) _ _ ⟨h₂, g, d, tk₀ + 1, os⟩
  refine wpAny_bind (wpAny_setField_rec he₂ (by simp) fun h₃ he₃ hs₃ => ?_)
  replace hs₃ : Heap.SameBut e h₂ h₃ := hs₃
  replace he₃ : IsEnum h₃ e z ((i : Int) + 1) old := he₃
  show wpAny _ _ (newTuple [.int i tk₀, .ref hp.objs.size] >>= _) _ _ ⟨h₃, g, d, tk₀ + 1, os⟩
  refine wpAny_bind (wpAny_newTuple ?_)
  have hsz : h₃.objs.size = hp.objs.size + 1 := by rw [hs₃.1, hs₂.1]; exact hsz1
  have he₄ : IsEnum (h₃.push { cls := .type "tuple", data := .seq #[.int i tk₀, .ref hp.objs.size] }) e z ((i : Int) + 1) old := Heap.get?_push_of_some _ he₃
  have ht₄ : (h₃.push { cls := .type "tuple", data := .seq #[.int i tk₀, .ref hp.objs.size] }).get? (hp.objs.size + 1) = some { cls := .type "tuple", data := .seq #[.int i tk₀, .ref hp.objs.size] } := by rw [← hsz]; exact Heap.get?_push_size _ rfl
  have hk₄ : ∀ b o, b ≠ e → h₁.get? b = some o → (h₃.push { cls := .type "tuple", data := .seq #[.int i tk₀, .ref hp.objs.size] }).get? b = some o := fun b o hbe hb => Heap.get?_push_of_some _ (hs₃.extBut b o hbe (hs₂.extBut b o hbe hb))
  generalize hh₄ : h₃.push { cls := .type "tuple", data := .seq #[.int i tk₀, .ref hp.objs.size] } = h₄ at he₄ ht₄ hk₄
  have hel : e < hp.objs.size := Heap.lt_size he
  have hne : hp.objs.size + 1 ≠ e := Nat.ne_of_gt (Nat.lt_succ_of_lt hel)
  show wpAny _ _ (Builtin.SmallTypes.ownedTupleIsFree (.ref e) >>= _) _ _ ⟨h₄, g, d, tk₀ + 1, os⟩
  rw [hsz]
  refine wpAny_bind ?_
  unfold Builtin.SmallTypes.ownedTupleIsFree
  refine wpAny_bind (wpAny_field he₄ rfl (x := .none) rfl (wpAny_pure ?_))
  simp only [if_true]
  refine wpAny_bind (wpAny_rule ?_)
  refine wpAny_bind (wpAny_field he₄ rfl (x := old) rfl ?_)
  refine wpAny_bind (wpAny_setField_rec he₄ (by simp) fun h₅ he₅ hs₅ => ?_)
  replace hs₅ : Heap.SameBut e h₄ h₅ := hs₅
  replace he₅ : IsEnum h₅ e z ((i : Int) + 1) (.ref hp.objs.size) := he₅
  show wpAny _ _ (Builtin.SmallTypes.ownedTupleHandOut (.ref e) (.ref (hp.objs.size + 1)) >>= _) _ _ ⟨h₅, g, d, tk₀ + 1, os⟩
  refine wpAny_bind ?_
  unfold Builtin.SmallTypes.ownedTupleHandOut
  refine wpAny_bind (wpAny_setField_rec he₅ (by simp) fun h₆ he₆ hs₆ => ?_)
  replace hs₆ : Heap.SameBut e h₅ h₆ := hs₆
  replace he₆ : IsEnumOut h₆ e z ((i : Int) + 1) (.ref hp.objs.size) (hp.objs.size + 1) := he₆
  refine wpAny_setField_rec he₆ (by simp) fun h₇ he₇ hs₇ => ?_
  replace hs₇ : Heap.SameBut e h₆ h₇ := hs₇
  replace he₇ : IsEnumOut h₇ e z ((i : Int) + 1) (.ref hp.objs.size) (hp.objs.size + 1) := he₇
  exact wpAny_bind (wpAny_letGo (wpAny_pure ⟨_, rfl, hQ h₁ h₇ tk₀ st1 hP hsz1 hk1 he₇ (hs₇.extBut _ _ hne (hs₆.extBut _ _ hne (hs₅.extBut _ _ hne ht₄))) fun b o hbe hb => hs₇.extBut b o hbe (hs₆.extBut b o hbe (hs₅.extBut b o hbe (hk₄ b o hbe hb)))⟩))
theorem pyNext_eq_item {e z TI TO i1 i2 l1 l2 : Addr} {i : Nat} {old : Value} {xs ys : Array Value} {x y : Value} {Q : Option Value → Shared → Prop} (D : ZipApart z TI TO i1 i2 l1 l2) (he : IsEnum s.heap e z ((i : Nat) : Int) old) (st : Zq s.heap z TI TO i1 i2 l1 l2 i)
    (hn : e ≠ z ∧ e ≠ TI ∧ e ≠ TO ∧ e ≠ i1 ∧ e ≠ i2) (hl1 : s.heap.IsTuple l1 xs) (hl2 : s.heap.IsTuple l2 ys) (hx : xs[i]? = some x) (hy : ys[i]? = some y)
    (hQ : ∀ h₁ h' tk, Zq h₁ z TI TO i1 i2 l1 l2 (i + 1) → IsPair h₁ s.heap.objs.size x y → h₁.objs.size = s.heap.objs.size + 1 → (∀ c o, c ≠ z → c ≠ TO → c ≠ i1 → c ≠ i2 → s.heap.get? c = some o → h₁.get? c = some o) →
      IsEnumOut h' e z (((i : Nat) : Int) + 1) (.ref s.heap.objs.size) (s.heap.objs.size + 1) → h'.get? (s.heap.objs.size + 1) = some { cls := .type "tuple", data := .seq #[.int (i : Nat) tk, .ref s.heap.objs.size] } →
      (∀ b o, b ≠ e → h₁.get? b = some o → h'.get? b = some o) → Q (some (.ref (s.heap.objs.size + 1))) { s with heap := h', toks := tk + 1 }) :
    wpAny (model prog w) A (pyNext (.ref e)) Q E s := by
  have hT : s.TypeIs (.ref e) "enumerate" := ⟨_, he, rfl⟩
  unfold pyNext
  exact wpAny_bind (wpAny_attempt (wpAny_callSpecial?_slot (name := Str.ofString "__next__") hT F.slot_enumerate_next
    (wpAny_call_entry F.slot_enumerate_next hT F.entry_enumerate_next
      (eq_item D he st hn hl1 hl2 hx hy fun h₁ h' tk a b c d e f g => wpAny_pure (hQ h₁ h' tk a b c d e f g)) (F.args_enumerate_next_1 _))))
theorem pyNext_eq_end {e z TI TO i1 i2 l1 l2 : Addr} {i : Nat} {old : Value} {xs ys : Array Value} {Q : Option Value → Shared → Prop} (hh : A.handled = none) (D : ZipApart z TI TO i1 i2 l1 l2) (he : IsEnum s.heap e z ((i : Nat) : Int) old) (st : Zq s.heap z TI TO i1 i2 l1 l2 i)
    (hl1 : s.heap.IsTuple l1 xs) (hl2 : s.heap.IsTuple l2 ys) (hend : xs[i]? = none ∨ ys[i]? = none)
    (hQ : ∀ h', (∀ c o, c ≠ z → c ≠ TO → c ≠ i1 → c ≠ i2 → s.heap.get? c = some o → h'.get? c = some o) → Q none { s with heap := h' }) : wpAny (model prog w) A (pyNext (.ref e)) Q E s := by
  have hT : s.TypeIs (.ref e) "enumerate" := ⟨_, he, rfl⟩
  unfold pyNext
  refine wpAny_bind (wpAny_attempt (wpAny_callSpecial?_slot (name := Str.ofString "__next__") hT F.slot_enumerate_next
    (wpAny_call_entry F.slot_enumerate_next hT F.entry_enumerate_next ?_ (F.args_enumerate_next_1 _))))
  show wpAny _ _ (field (.ref e) 2 >>= _) _ _ _
  refine wpAny_bind (wpAny_field he rfl (x := .ref z) rfl ?_)
  refine wpAny_bind (next_zq_end (by show A.handled = none; exact hh) D st hl1 hl2 hend fun h' x he' hx' => ?_)
  obtain ⟨o, ho, hc⟩ := hx'
  refine wpAny_bind (wpAny_isInstance (T := "StopIteration") (b := true) ⟨o, ho, hc⟩ isSubtype_stop ?_)
  exact wpAny_pure (hQ _ he')
end
theorem meets_enumerate_newZ (z TI TO : Addr) :
    Meets (Builtin.«enumerate.__new__» ⟨[.type "enumerate", .ref z], []⟩) (fun _ R s => IsZip s.heap z TI TO .none ∧
      R (.ok (.ret (.ref s.heap.objs.size))) { s with heap := s.heap.push { cls := .type "enumerate", data := .fields #[.none, .bool false, .ref z, rawInt 0, .none, .none] } }) :=
  .of_wp fun prog w A R s h => by
    obtain ⟨hp, g, d, tk, os⟩ := s; obtain ⟨hl, h⟩ := h
    have hsub := sub_enumerate
    have hL : IsZip (Shared.heap ⟨hp, g, d, tk, os⟩) z TI TO .none := hl
    wp_walk using wpAny_loadPart' hl
    refine wpAny_stack_any fun st => wpAny_pure ?_
    split
    · rename_i c _ _ _ _ _
      cases (c == Value.type "enumerate")
      · wp_walk using wpAny_loadPart' hl, wpAny_pyIter_zip hL
        exact ⟨_, rfl, h⟩
      · wp_walk using wpAny_loadPart' hl, wpAny_pyIter_zip hL
        exact ⟨_, rfl, h⟩
    · wp_walk using wpAny_loadPart' hl, wpAny_pyIter_zip hL
      exact ⟨_, rfl, h⟩
section
variable {prog : Program} {w : World} {A : Around} {E : Value → Shared → Prop} {s : Shared}
theorem call_enumerate_zip {z TI TO : Addr} {Q : Value → Shared → Prop} (hZ : IsZip s.heap z TI TO .none)
    (h : ∀ h', IsEnum h' s.heap.objs.size z 0 .none → (∀ b o, s.heap.get? b = some o → h'.get? b = some o) → Q (.ref s.heap.objs.size) { s with heap := h' }) :
    wpAny (model prog w) A (call (.type "enumerate") [.ref z]) Q E s := by
  refine callType_new F.called_enumerate (by decide) (F.typeCall_enumerate_1 _) (F.newCall_enumerate_1 _) (fun obj => F.args_object_init_2 obj _) F.entry_enumerate_new
    (meets_enumerate_newZ z TI TO) ⟨hZ, ?_⟩
  have he : IsEnum (s.heap.push { cls := .type "enumerate", data := .fields #[.none, .bool false, .ref z, rawInt 0, .none, .none] }) s.heap.objs.size z 0 .none := Heap.get?_push_size _ rfl
  exact ⟨⟨_, he, rfl⟩, h _ he fun b o x => Heap.get?_push_of_some _ x⟩
end
def ItEz (K : PySem.W.Frag) (a b : Addr) : L2.It :=
  ⟨fun i H => ∃ (xs ys : List V) (x y : V), SqT K H a xs ∧ SqT K H b ys ∧ xs[i]? = some x ∧ ys[i]? = some y,
   fun i H v H' => ∃ T1 T2 o1 o2 x y, v = .ref T1 ∧ H T2 = none ∧ H T1 = none ∧ T1 ≠ T2 ∧ TpO o1 ∧ TpO o2 ∧ H' = upd (upd H T2 (.frz o2 (.tup [x, y]))) T1 (.frz o1 (.tup [.int (i : Nat), .ref T2])) ∧ (∀ xs, SqT K H a xs → xs[i]? = some x) ∧ ∀ ys, SqT K H b ys → ys[i]? = some y,
   fun i H => ∃ xs ys : List V, SqT K H a xs ∧ SqT K H b ys ∧ (xs.length ≤ i ∨ ys.length ≤ i)⟩
theorem turn_ez {P : Program} {w : World} {K : PySem.W.Frag} {elts : List Expr} {kk : Nat} {tpos : Pos} {a b e z TI TO i1 i2 : Addr} (D : ZipApart z TI TO i1 i2 a b) (hn : e ≠ z ∧ e ≠ TI ∧ e ≠ TO ∧ e ≠ i1 ∧ e ≠ i2) :
    Turn P w K (.Tuple elts kk tpos) (ItEz K a b) [e, z, TI, TO, i1, i2] e (fun i h => (∃ old, IsEnum h e z ((i : Nat) : Int) old) ∧ Zq h z TI TO i1 i2 a b i) where
  mem := by simp
  obj := fun i h st c hc => by
    obtain ⟨⟨old, he⟩, ⟨v, f, _, hz⟩, hTI, ⟨x, y, hTO⟩, ⟨o1, e1, _, d1⟩, ⟨o2, e2, _, d2⟩⟩ := st
    have e' : c = e ∨ c = z ∨ c = TI ∨ c = TO ∨ c = i1 ∨ c = i2 := by simpa using hc
    rcases e' with q | q | q | q | q | q
    · rw [q]; exact ⟨_, he, fun v q => nomatch q⟩
    · rw [q]; exact ⟨_, hz, fun v q => nomatch q⟩
    · rw [q]; exact ⟨_, hTI, fun v q => nomatch q⟩
    · rw [q]; exact ⟨_, hTO, fun v q => nomatch q⟩
    · rw [q]; exact ⟨o1, e1, fun v q => by rw [d1] at q; cases q⟩
    · rw [q]; exact ⟨o2, e2, fun v q => by rw [d2] at q; cases q⟩
  keep := fun i h h' st k => let ⟨⟨old, he⟩, q⟩ := st; ⟨⟨old, k e (by simp) _ he⟩, q.mv fun b hb o => k b (List.mem_cons_of_mem _ hb) o⟩
  item := by
    intro X hP hw hK hc i pins s σ H E I hf st hg
    subst hP hw hK
    obtain ⟨⟨old, he⟩, hz⟩ := st
    obtain ⟨xs, ys, x, y, hqx, hqy, hx, hy⟩ := hg
    obtain ⟨its, rv, p, _⟩ := I.tuple hqx
    obtain ⟨its2, rv2, p2, _⟩ := I.tuple hqy
    obtain ⟨u, hu, ru⟩ := rv.get hx
    obtain ⟨u2, hu2, ru2⟩ := rv2.get hy
    have hel : e < s.heap.objs.size := Heap.lt_size he
    have hlt : ∀ c, c ∈ [e, z, TI, TO, i1, i2] → c < s.heap.objs.size := fun c hcm => by
      have e' : c = e ∨ c = z ∨ c = TI ∨ c = TO ∨ c = i1 ∨ c = i2 := by simpa using hcm
      obtain ⟨⟨v, f, _, q1⟩, q2, ⟨_, _, q3⟩, ⟨_, q4, _⟩, ⟨_, q5, _⟩⟩ := hz
      rcases e' with q | q | q | q | q | q
      · rw [q]; exact hel
      · rw [q]; exact Heap.lt_size q1
      · rw [q]; exact Heap.lt_size q2
      · rw [q]; exact Heap.lt_size q3
      · rw [q]; exact Heap.lt_size q4
      · rw [q]; exact Heap.lt_size q5
    refine pyNext_eq_item D he hz hn (show s.heap.IsTuple a its.toArray from p) (show s.heap.IsTuple b its2.toArray from p2) (x := u) (y := u2) (by simpa using hu) (by simpa using hu2) fun h₁ h' tk z1 hp hsz1 hk1 ho hT hk => ?_
    refine ⟨_, rfl, wpAny_letOwnedTupleGo_enum (s := { s with heap := h', toks := tk + 1 }) ho fun h'' he' sb => ?_⟩
    have hne : s.heap.objs.size + 1 ≠ e := Nat.ne_of_gt (Nat.lt_succ_of_lt hel)
    have hT2 : h''.get? (s.heap.objs.size + 1) = some { cls := .type "tuple", data := .seq #[.int (i : Nat) tk, .ref s.heap.objs.size] } := (sb.2 _ hne).trans hT
    have new1 : ObjOk X.prog X.w (upd H s.heap.objs.size (.frz { cls := .type "tuple", data := .seq #[u, u2] } (.tup [x, y]))) h₁ s.heap.objs.size (.frz { cls := .type "tuple", data := .seq #[u, u2] } (.tup [x, y])) :=
      ⟨hp, by show 2 ≤ sizeLine; decide, [u, u2], .cons ru (.cons ru2 .nil), ⟨_, hp, rfl, _, rfl⟩⟩
    have I1 : Inv X pins σ (upd H s.heap.objs.size (.frz { cls := .type "tuple", data := .seq #[u, u2] } (.tup [x, y]))) { s with heap := h₁ } :=
      I.turnedNew (t' := s.toks) (ch := [e, z, TI, TO, i1, i2]) (fun c o hb q => hk1 c o (fun z => hb (by simp [z])) (fun z => hb (by simp [z])) (fun z => hb (by simp [z])) (fun z => hb (by simp [z])) q) hf (Nat.le_refl _) new1
    have hf1 : ∀ c ∈ [e], FpOk X pins (upd H s.heap.objs.size (.frz { cls := .type "tuple", data := .seq #[u, u2] } (.tup [x, y]))) c := fun c hcm => by
      have ec : c = e := by simpa using hcm
      subst ec
      have q := hf c (by simp)
      exact ⟨by rw [upd_ne (Nat.ne_of_lt hel)]; exact q.1, q.2⟩
    have new2 : ObjOk X.prog X.w (upd (upd H s.heap.objs.size (.frz { cls := .type "tuple", data := .seq #[u, u2] } (.tup [x, y]))) (s.heap.objs.size + 1) (.frz { cls := .type "tuple", data := .seq #[.int (i : Nat) tk, .ref s.heap.objs.size] } (.tup [.int (i : Nat), .ref s.heap.objs.size]))) h'' (s.heap.objs.size + 1) (.frz { cls := .type "tuple", data := .seq #[.int (i : Nat) tk, .ref s.heap.objs.size] } (.tup [.int (i : Nat), .ref s.heap.objs.size])) :=
      ⟨hT2, by show 2 ≤ sizeLine; decide, [.int (i : Nat) tk, .ref s.heap.objs.size], .cons ⟨_, rfl⟩ (.cons rfl .nil), ⟨_, hT2, rfl, _, rfl⟩⟩
    have hk2 : ∀ c o, c ≠ e → h₁.get? c = some o → h''.get? c = some o := fun c o n q => (sb.2 c n).trans (hk c o n q)
    have I2 := I1.turnedNew (t' := tk + 1) (ch := [e]) (T := s.heap.objs.size + 1) (fun c o hb q => hk2 c o (fun z => hb (by simp [z])) q) hf1 (by show h₁.objs.size ≤ _; rw [hsz1]; exact Nat.le_refl _) new2
    refine ⟨.ref (s.heap.objs.size + 1), _, I2, rfl, ⟨_, _, _, _, x, y, rfl, I.hok.fresh (Nat.le_refl _), I.hok.fresh (Nat.le_succ _), Nat.succ_ne_self _, ⟨rfl, rfl⟩, ⟨rfl, rfl⟩, rfl, fun l hl => by rw [I.tuple_inj hl hqx]; exact hx, fun l hl => by rw [I.tuple_inj hl hqy]; exact hy⟩, ⟨⟨.ref s.heap.objs.size, ?_⟩, z1.mv fun c hcm o q => hk2 c o (fun w => ?_) q⟩, fun c hcm => ?_⟩
    · have e1 : ((i + 1 : Nat) : Int) = (i : Int) + 1 := by omega
      rw [e1]; exact he'
    · subst w
      have e' : c = z ∨ c = TI ∨ c = TO ∨ c = i1 ∨ c = i2 := by simpa using hcm
      obtain ⟨n1, n2, n3, n4, n5⟩ := hn
      rcases e' with q | q | q | q | q
      · exact n1 q
      · exact n2 q
      · exact n3 q
      · exact n4 q
      · exact n5 q
    · have := hlt c hcm
      rw [upd_ne (Nat.ne_of_lt (Nat.lt_succ_of_lt this)), upd_ne (Nat.ne_of_lt this)]
      exact (hf c hcm).1
  done := by
    intro X hP hw hK hc i pins s σ H E I hf st hg
    subst hP hw hK
    obtain ⟨⟨old, he⟩, hz⟩ := st
    obtain ⟨xs, ys, hqx, hqy, hend⟩ := hg
    obtain ⟨its, rv, p, _⟩ := I.tuple hqx
    obtain ⟨its2, rv2, p2, _⟩ := I.tuple hqy
    have l1 := rv.length
    have l2 := rv2.length
    have he' : its.toArray[i]? = none ∨ its2.toArray[i]? = none := by
      rcases hend with q | q
      · exact .inl (by simp; omega)
      · exact .inr (by simp; omega)
    refine pyNext_eq_end (I.ok.hd hc) D he hz (show s.heap.IsTuple a its.toArray from p) (show s.heap.IsTuple b its2.toArray from p2) he' fun h' hk => ⟨rfl, I.turnedL (t' := s.toks) (ch := [e, z, TI, TO, i1, i2]) (fun c o hb q => ?_) hf⟩
    exact hk c o (fun z => hb (by simp [z])) (fun z => hb (by simp [z])) (fun z => hb (by simp [z])) (fun z => hb (by simp [z])) q
  self := fun A i s Q E st h => let ⟨⟨_, he⟩, _⟩ := st; wpAny_pyIter_enum he h
theorem ez_ne (n : Nat) : n + 5 ≠ n + 4 ∧ n + 5 ≠ n + 2 ∧ n + 5 ≠ n + 3 ∧ n + 5 ≠ n ∧ n + 5 ≠ n + 1 := by omega
def iEz (K : PySem.W.Frag) (ta : TA) : TI := fun σ H R => ta σ H fun vs H1 => ∃ a b xs ys, vs = [.ref a, .ref b] ∧ SqT K H1 a xs ∧ SqT K H1 b ys ∧ R (ItEz K a b) H1
theorem pi_ez {X : Cx} {e e2 : Expr} {ta : TA} {p pos p2 pos2 tpos : Pos} {elts : List Expr} {kk : Nat} (hge : Gl X "enumerate") (hme : X.mg "enumerate" = none) (hg : Gl X "zip") (hm : X.mg "zip" = none) (ha : PA X [e, e2] ta)
    (hs : starEach [e, e2] X.env = (false, eval e X.env) :: starEach [e2] X.env := by rfl) (hpl : (backTo pos2 (starEach [e2] X.env)).any (·.1) = false := by rfl) :
    PI X (.Tuple elts kk tpos) (.Call (.Name "enumerate" p) [.Call (.Name "zip" p2) [e, e2] [] pos2] [] pos) (iEz X.K ta) := by
  refine ⟨fun pins s σ H R I h => ?_⟩
  refine Call_ (ld_blt I hge hme boot_enumerate (PyProof.Rows.callWith_type1 (args_cons ?_ rfl) rfl))
  refine Call_ (ld_blt I hg hm PyProof.Rows.boot_zip (PyProof.Rows.callWith_type1 (thn (ha.run pos2 pins s σ H _ I h) fun us s1 ⟨vs, H1, I1, r1, q1⟩ => ?_) hs hpl))
  obtain ⟨a, b, xs, ys, ex, hqx, hqy, q⟩ := q1
  subst ex
  cases r1 with
  | cons r rr =>
    cases rr with
    | cons r' rr =>
      cases rr
      cases r
      cases r'
      obtain ⟨its, rv, p1, _⟩ := I1.tuple hqx
      obtain ⟨its2, rv2, p2, _⟩ := I1.tuple hqy
      obtain ⟨o1, ho1, _⟩ := id p1
      obtain ⟨o2, ho2, _⟩ := id p2
      refine RZ.call_zipT (show s1.heap.IsTuple a its.toArray from p1) (show s1.heap.IsTuple b its2.toArray from p2) fun h' hz hTI hTO h1 h2 hsz hk => args_nil ?_
      refine call_enumerate_zip (s := { s1 with heap := h' }) hz fun h2' he hk2 => wpAny_pyIter_enum he ?_
      have I2 : Inv X pins σ H1 { s1 with heap := h2' } := I1.kept (t' := s1.toks) fun c o q => hk2 c o (hk c o q)
      have st : Zq h2' (s1.heap.objs.size + 4) (s1.heap.objs.size + 2) (s1.heap.objs.size + 3) s1.heap.objs.size (s1.heap.objs.size + 1) a b 0 :=
        Zq.mv (h := h') ⟨⟨_, _, .inl rfl, hz⟩, hTI, ⟨_, _, hTO⟩, h1, h2⟩ fun c _ o => hk2 c o
      have hsz : h'.objs.size = s1.heap.objs.size + 5 := hsz
      refine ⟨h'.objs.size, [h'.objs.size, s1.heap.objs.size + 4, s1.heap.objs.size + 2, s1.heap.objs.size + 3, s1.heap.objs.size, s1.heap.objs.size + 1], _, _, H1, rfl, I2, turn_ez (PySem.W.ktu_apart s1.heap.objs.size a b (Heap.lt_size ho1) (Heap.lt_size ho2)) (by rw [hsz]; exact ez_ne _), ⟨⟨_, he⟩, st⟩, fun c hcm => ?_, q⟩
      have hle : s1.heap.objs.size ≤ c := by
        have e' : c = h'.objs.size ∨ c = s1.heap.objs.size + 4 ∨ c = s1.heap.objs.size + 2 ∨ c = s1.heap.objs.size + 3 ∨ c = s1.heap.objs.size ∨ c = s1.heap.objs.size + 1 := by simpa using hcm
        rcases e' with z | z | z | z | z | z
        · rw [z, hsz]; exact Nat.le_add_right _ _
        · rw [z]; exact Nat.le_add_right _ _
        · rw [z]; exact Nat.le_add_right _ _
        · rw [z]; exact Nat.le_add_right _ _
        · rw [z]; exact Nat.le_refl _
        · rw [z]; exact Nat.le_add_right _ _
      exact I1.fpOk hle (I1.hok.fresh hle)
end Z
set_option Elab.async false
set_option linter.all false
set_option maxRecDepth 100000
set_option maxHeartbeats 1000000
namespace Z
open PySem PySem.Spec PyProof.Rows L2
structure Cc where
  sc : Scope
  blk : Option Scope
  N : List Str
  grd : Bool := false
def Cc.fn (c : Cc) (x : Str) : Bool := match c.blk with
  | none => true
  | some s => s.names.lookup x == some .cell
def Cc.inner (c : Cc) (s : Scope) : Cc := { sc := relS s c.sc, blk := some s, N := c.N }
def vis (sc : Scope) (x : Str) : Bool := match sc.names.lookup x with
  | some .local => true
  | some .cell => true
  | some .free => true
  | _ => false
def glb (sc : Scope) (x : Str) : Bool := match sc.names.lookup x with
  | some .globalImplicit => true
  | _ => false
def okN (x : Str) : Bool := !(x == "__debug__") && !(x == "__classdict__")
def sto (c : Cc) (x : Str) : Bool := match c.sc.names.lookup x with
  | some .local => true
  | some .cell => c.fn x
  | _ => false
def isNm (x : Str) (sc : Scope) (a : Expr) : Bool := match a with
  | .Name y _ => (y == x) && glb sc y
  | _ => false
def notStar : Expr → Bool
  | .Starred .. => false
  | _ => true
def notSet : Expr → Bool
  | .Set .. => false
  | _ => true
def isNoneE : E → Bool
  | .none => true
  | _ => false
def condB (ifs : List Expr) (b : Bool) (f : Expr → Bool) : Bool := match ifs with
  | [] => b
  | [q] => f q
  | _ => false
def isTupX : Expr → Bool
  | .Tuple .. => true
  | _ => false
def notSlice : Expr → Bool
  | .Slice .. => false
  | _ => true
def plainT : Expr → Bool
  | .UnaryOp .. => false
  | .BoolOp .. => false
  | .IfExp .. => false
  | .Compare .. => false
  | _ => true
def notSup : Expr → Bool
  | .Call (.Name ..) [] [] _ => false
  | _ => true
def tyN : Ty → Str
  | .int => "int" | .bool => "bool" | .str => "str" | .tuple => "tuple"
def lineOk (a b : Pos) : Bool := a.endLine == b.line
def bmN : BM → Str
  | .append => "append" | .lpop => "pop" | .lpop0 => "pop" | .dpop => "pop" | .get => "get" | .remove => "remove" | .extend => "extend" | .lcount => "count" | .tcount => "count" | .lindex => "index" | .tindex => "index"
def bmA : BM → Option Nat
  | .append => some 1 | .lpop => some 1 | .lpop0 => some 0 | .dpop => some 1 | .get => some 2 | .extend => some 1 | .lcount => some 1 | .tcount => some 1 | .tindex => some 1 | .remove => some 1
  | _ => none
def notLc : Expr → Bool
  | .ListComp .. => false
  | .SetComp .. => false
  | .DictComp .. => false
  | _ => true
def chkG (c : Cc) : E → Expr → Bool
  | .v i, a => match a with
    | .Name x _ => (c.N[i]? == some x) && sto c x
    | _ => false
  | .tup es, a => match a with
    | .Tuple as _ _ => chkGs c es as
    | _ => false
  | _, _ => false
where chkGs (c : Cc) : E → List Expr → Bool
  | .nil, as => match as with
    | [] => true
    | _ => false
  | .cons a r, as => match as with
    | x :: xs => notStar x && chkG c a x && chkGs c r xs
    | _ => false
  | _, _ => false
def slotsOf : E → List Nat
  | .v i => [i]
  | .tup es => slotsOf es
  | .cons a r => slotsOf a ++ slotsOf r
  | _ => []
def catOk (t : Tb) (q : Nat × Nat × Nat) : Bool := match t.texts[q.1]?, t.texts[q.2.1]?, t.texts[q.2.2]? with
  | some a, some b, some c => decide (a ++ b = c) && decide (a.length + b.length ≤ 1000)
  | _, _, _ => false
mutual
def chkE (t : Tb) (c : Cc) : E → Expr → Bool
  | .v i, a => match a with
    | .Name x _ => (c.N[i]? == some x) && vis c.sc x && okN x
    | _ => false
  | .ki i, a => match a with
    | .Constant (.int j) _ _ => i == j
    | _ => false
  | .kb b, a => match a with
    | .Constant (.bool j) _ _ => b == j
    | _ => false
  | .kn, a => match a with
    | .Constant .none _ _ => true
    | _ => false
  | .ks n, a => match a with
    | .Constant (.str z) _ _ => t.texts[n]? == some z
    | _ => false
  | .gi g i, a => match a with
    | .Name x _ => (t.gis[g]? == some (x, i)) && glb c.sc x && okN x
    | _ => false
  | .op o a b, x => match x with
    | .BinOp l op r _ => decide (opO o = op) && chkE t c a l && chkE t c b r
    | _ => false
  | .rep m a b, x => match x with
    | .BinOp l op r _ => decide (.Mult = op) && chkE t c a l && chkE t c b r
    | _ => false
  | .neg a, x => match x with
    | .UnaryOp .USub l _ => chkE t c a l
    | _ => false
  | .cmp k a b, x => match x with
    | .Compare l [op] [r] _ => decide (cmO k = op) && notSet r && chkE t c a l && chkE t c b r
    | _ => false
  | .chain k k' a b d, x => match x with
    | .Compare l [op, op'] [r, q] _ => decide (cmO k = op) && decide (cmO k' = op') && notSet q && chkE t c a l && chkE t c b r && chkE t c d q
    | _ => false
  | .and a b, x => match x with
    | .BoolOp .And (l :: r :: rest) pos => chkE t c a l && (match rest with | [] => chkE t c b r | _ :: _ => chkE t c b (.BoolOp .And (r :: rest) pos))
    | _ => false
  | .or a b, x => match x with
    | .BoolOp .Or (l :: r :: rest) pos => chkE t c a l && (match rest with | [] => chkE t c b r | _ :: _ => chkE t c b (.BoolOp .Or (r :: rest) pos))
    | _ => false
  | .not a, x => match x with
    | .UnaryOp .Not l _ => chkE t c a l
    | _ => false
  | .ife k a b, x => match x with
    | .IfExp q l r _ => chkT t c k q && chkE t c a l && chkE t c b r
    | _ => false
  | .tup es, x => match x with
    | .Tuple as _ _ => chkL t c es as
    | _ => false
  | .lst m es, x => match x with
    | .List as _ => chkL t c es as
    | _ => false
  | .ix a b, x => match x with
    | .Subscript l r _ => notSlice r && chkE t c a l && chkE t c b r
    | _ => false
  | .sl a lo hi, x => match x with
    | .Subscript l (.Slice p q none _) _ => chkE t c a l && chkP t c lo p && chkP t c hi q
    | _ => false
  | .call f es, x => match x with
    | .Call (.Name n _) as [] _ => (t.fns[f]?.map (·.1) == some n) && (t.mth.lookup f == none) && glb c.sc n && okN n && chkL t c es as
    | _ => false
  | .meth k f o es, x => match x with
    | .Call (.Attribute l n ap) as [] cp => (t.fns[f]?.map (·.1) == some n) && (t.mth.lookup f == some k) && notSup l && lineOk ap cp && decide (as.length < 5) && chkE t c o l && chkL t c es as
    | _ => false
  | .new k f nf es, x => match x with
    | .Call (.Name n _) as [] _ => (t.cls[k]? == some n) && (t.fns[f]?.map (·.1) == some ("__init__" : Str)) && (t.mth.lookup f == some k) && (t.fld[k]?.map (·.length) == some nf) && glb c.sc n && okN n && chkL t c es as
    | _ => false
  | .b1 b m a, x => match x with
    | .Call n [l] [] _ => isNm (b1N b) c.sc n && notStar l && chkE t c a l
    | _ => false
  | .b2 b a d, x => match x with
    | .Call n [l, r] [] _ => isNm (b2N b) c.sc n && notStar l && notStar r && chkE t c a l && chkE t c d r
    | _ => false
  | .lof m a, x => match x with
    | .Call n [l] [] _ => isNm "list" c.sc n && notStar l && chkE t c a l
    | _ => false
  | .bm b o es, x => match x with
    | .Call (.Attribute l n ap) as [] cp => (n == bmN b) && (bmA b == some as.length) && notSup l && lineOk ap cp && chkE t c o l && chkL t c es as
    | _ => false
  | .comp m own tg it cond elt, x => match x with
    | .ListComp el [gg] sc _ => decide (gg.is_async = 0) && (own.all fun i => (c.N[i]?).isSome) && blkC c.N c.sc sc (own.filterMap fun i => (c.N[i]?).map fun x => (x, i)) && (slotsOf tg).all (fun i => own.contains i) && notSet gg.iter &&
        chkI t c it gg.target gg.iter && chkG (c.inner sc) tg gg.target && chkE t (c.inner sc) elt el &&
        condB gg.ifs (isNoneE cond) (fun q => chkT t (c.inner sc) cond q)
    | _ => false
  | .attr o f, x => match x with
    | .Attribute l n _ => notSup l && (t.fld.all fun nm => nm[f]? == some n || nm[f]? == none) && chkE t c o l
    | _ => false
  | .dict kvs, x => match x with
    | .Dict ks vs _ => decide (ks.length ≤ 15) && chkK t c kvs ks vs
    | _ => false
  | .isi a ty, x => match x with
    | .Call n [l, r] [] _ => isNm "isinstance" c.sc n && isNm (tyN ty) c.sc r && notStar l && chkE t c a l
    | _ => false
  | .trng a b, x => match x with
    | .Call n [y] [] _ => match y with
      | .Call n' [l, r] [] _ => isNm "tuple" c.sc n && isNm "range" c.sc n' && notStar l && notStar r && chkE t c a l && chkE t c b r
      | _ => false
    | _ => false
  | .mint a, x => match x with
    | .Call n [l] [] _ => isNm "min" c.sc n && notStar l && chkE t c a l
    | _ => false
  | .lset a, x => match x with
    | .Call n [y] [] _ => match y with
      | .Call n' [l] [] _ => isNm "len" c.sc n && isNm "set" c.sc n' && notStar l && chkE t c a l
      | _ => false
    | _ => false
  | .rpr a, x => match x with
    | .Call n [l] [] _ => c.grd && isNm "repr" c.sc n && notStar l && chkE t c a l
    | _ => false
  | .cat tab a b, x => match x with
    | .BinOp l op r _ => decide (opO .add = op) && tab.all (catOk t) && chkE t c a l && chkE t c b r
    | _ => false
  | .addm a b, x => match x with
    | .BinOp l op r _ => decide (opO .add = op) && chkE t c a l && chkE t c b r
    | _ => false
  | .sst a lo hi st, x => match x with
    | .Subscript l (.Slice p q (some o) _) _ => chkE t c a l && chkP t c lo p && chkP t c hi q && chkP t c st (some o)
    | _ => false
  | .dctp a, x => match x with
    | .Call n [l] [] _ => isNm "dict" c.sc n && notStar l && chkE t c a l
    | _ => false
  | .rev a, x => match x with
    | .Subscript l (.Slice none none (some (.UnaryOp .USub (.Constant (.int 1) _ _) _)) _) _ => chkE t c a l
    | _ => false
  | _, _ => false
def chkT (t : Tb) (c : Cc) : E → Expr → Bool
  | .and a b, x => match x with
    | .BoolOp .And (l :: r :: rest) pos => chkT t c a l && (match rest with | [] => chkT t c b r | _ :: _ => chkT t c b (.BoolOp .And (r :: rest) pos))
    | _ => false
  | .or a b, x => match x with
    | .BoolOp .Or (l :: r :: rest) pos => chkT t c a l && (match rest with | [] => chkT t c b r | _ :: _ => chkT t c b (.BoolOp .Or (r :: rest) pos))
    | _ => false
  | .not a, x => match x with
    | .UnaryOp .Not l _ => chkT t c a l
    | _ => false
  | .cmp k a b, x => match x with
    | .Compare l [op] [r] _ => decide (cmO k = op) && notSet r && chkE t c a l && chkE t c b r
    | _ => false
  | .chain k k' a b d, x => match x with
    | .Compare l [op, op'] [r, q] _ => decide (cmO k = op) && decide (cmO k' = op') && notSet q && chkE t c a l && chkE t c b r && chkE t c d q
    | _ => false
  | .w a, x => plainT x && chkE t c a x
  | _, _ => false
def chkL (t : Tb) (c : Cc) : E → List Expr → Bool
  | .nil, as => match as with
    | [] => true
    | _ => false
  | .cons a r, as => match as with
    | x :: xs => notStar x && chkE t c a x && chkL t c r xs
    | _ => false
  | _, _ => false
def chkP (t : Tb) (c : Cc) : E → Option Expr → Bool
  | .none, x => x.isNone
  | .w a, x => match x with
    | some x => chkE t c a x
    | none => false
  | _, _ => false
def chkK (t : Tb) (c : Cc) : E → List (Option Expr) → List Expr → Bool
  | .nil, ks, vs => match ks, vs with
    | [], [] => true
    | _, _ => false
  | .pair k v r, ks, vs => match ks, vs with
    | some x :: xs, y :: ys => chkE t c k x && chkE t c v y && chkK t c r xs ys
    | _, _ => false
  | _, _, _ => false
def chkI (t : Tb) (c : Cc) : E → Expr → Expr → Bool
  | .rng1 a, _, x => match x with
    | .Call n [l] [] _ => isNm "range" c.sc n && notStar l && chkE t c a l
    | _ => false
  | .rng2 a b, _, x => match x with
    | .Call n [l, r] [] _ => isNm "range" c.sc n && notStar l && notStar r && chkE t c a l && chkE t c b r
    | _ => false
  | .enum a, tg, x => match x with
    | .Call n [l] [] _ => isTupX tg && isNm "enumerate" c.sc n && notStar l && chkE t c a l
    | _ => false
  | .zip a b, tg, x => match x with
    | .Call n [l, r] [] _ => isTupX tg && isNm "zip" c.sc n && notStar l && notStar r && chkE t c a l && chkE t c b r
    | _ => false
  | .zipm a b, tg, x => match x with
    | .Call n [l, r] [] _ => isTupX tg && isNm "zip" c.sc n && notStar l && notStar r && chkE t c a l && chkE t c b r
    | _ => false
  | .enumz a b, tg, x => match x with
    | .Call n [q] [] _ => match q with
      | .Call n' [l, r] [] _ => isTupX tg && isNm "enumerate" c.sc n && isNm "zip" c.sc n' && notStar l && notStar r && chkE t c a l && chkE t c b r
      | _ => false
    | _ => false
  | .w a, _, x => chkE t c a x
  | _, _, _ => false
end
abbrev Bad (t : Tb) (u : At) (F L : List Addr) (H : Hp) (Ξ : XQ) (W : WX) (σ : L2.St) : Prop :=
  ∀ c M' L' H', Ξ c M' → Step L H L' H' → MRep t u F L' H' M' → W (.ref (u.ea c)) none σ H'
def spC (t : Tb) (u : At) (C : Calls) (f : Nat) : Sp := fun vs H Q E => ∃ F L M ds Φ Ξ, MRep t u F L H M ∧ VRepL t u F L H ds vs ∧ C f ds M Φ Ξ ∧ Aft t u F L H Φ Q ∧
  ∀ c M' L' H', Ξ c M' → Step L H L' H' → MRep t u F L' H' M' → E (.ref (u.ea c)) none H'
def blts : List Str := ["len", "sum", "all", "any", "abs", "tuple", "sorted", "min", "max", "int", "isinstance", "range", "enumerate", "zip", "list", "bool", "str", "dict", "set", "ValueError", "repr"]
structure Fac (t : Tb) (u : At) (mg : Str → Option Value) : Prop where
  txt : TxtOk t
  gi : ∀ (g : Nat) (x : Str) (i : Int), t.gis[g]? = some (x, i) → ∃ tk, mg x = some (.int i tk)
  fn : ∀ (f : Nat) (x : Str) (ps : List Str), t.fns[f]? = some (x, ps) → t.mth.lookup f = none → mg x = some (.ref (u.fa f)) ∧ PySem.W.keepIn u.K (.ref (u.fa f)) = true
  mt : ∀ (f : Nat) (x : Str) (ps : List Str) (cl : Nat), t.fns[f]? = some (x, ps) → t.mth.lookup f = some cl → Cls u.K (u.ca cl) ∧ Meth u.K (u.ca cl) x (u.fa f) ∧ ∀ nm, t.fld[cl]? = some nm → x ∉ nm
  bl : ∀ x ∈ blts, mg x = none
  cl : ∀ (cl : Nat) (x : Str), t.cls[cl]? = some x → mg x = some (.ref (u.ca cl))
  ini : ∀ (cl f : Nat) (ps : List Str), t.mth.lookup f = some cl → t.fns[f]? = some (("__init__" : Str), ps) → Mk u.K (u.ca cl) (u.fa f)
  exg : ∀ (c : Nat) (x : Str), t.exs[c]? = some x → mg x = some (.ref (u.ea c)) ∧ PySem.W.keepIn u.K (.ref (u.ea c)) = true ∧ PySem.W.subIn u.K (.ref (u.ea c)) (.type "BaseException") = some true ∧ PySem.W.typeIn u.K (.ref (u.ea c)) = some (.type "type") ∧
    (∃ B newId initId bmB, ExcBaseFacts B newId initId bmB ∧ PySem.W.excIn u.K (u.ea c) bmB newId = true) ∧ ∀ c', PySem.W.exmOne u.K (.ref (u.ea c')) (.ref (u.ea c)) = some (sub c' c)
  fld : ∀ (cl : Nat) (nm : List Str), t.fld[cl]? = some nm → Cls u.K (u.ca cl) ∧ nm.Nodup ∧ nm.length < 1000 ∧ ∀ x ∈ nm, NoAttr u.K (u.ca cl) x
structure Gd (t : Tb) (u : At) (C : Calls) (W : WX) (c : Cc) (X : Cx) : Prop where
  K : X.K = u.K
  N : X.N = c.N
  nd : c.N.Nodup
  sc : X.env.scope = c.sc
  fnx : ∀ x, c.fn x = true → X.fn x = true
  calm : X.calm = true
  tk : L2N.Takes X W
  fac : Fac t u X.mg
  room : Room 1 X.A
  grd : c.grd = true → X.A.guards = some []
  hot : ∀ (h : Nat) (x : Str) (tab : List D), t.hot[h]? = some (x, tab) → ∃ (f : Addr) (fd : FuncData) (ps : List Str), FnX X.prog X.w X.K X.mg X.base (L2N.CX X.prog X.w) 1 f fd ps (spX t u tab) ∧ Binds X.K fd ps [] ∧ X.mg x = some (.ref f) ∧ PySem.W.keepIn X.K (.ref f) = true
  call : ∀ (f : Nat) (x : Str) (ps : List Str), t.fns[f]? = some (x, ps) → ∃ (k : Nat) (fd : FuncData), FnOk X.prog X.w X.K X.mg X.base (L2N.CX X.prog X.w) k (u.fa f) fd ps (spC t u C f) ∧ Binds X.K fd ps [] ∧ Room (k + 1) X.A
  hotf : ∀ (f : Nat) (x : Str) (ps : List Str), f ∈ t.hs → t.fns[f]? = some (x, ps) → ∃ fd : FuncData, L2H.FnH X.prog X.w X.K X.mg X.base (L2N.CX X.prog X.w) 1 (u.fa f) fd ps (spC t u C f) ∧ Binds X.K fd ps []
section
variable (t : Tb) (u : At) (C : Calls) (W : WX)
def tW (e : E) : TE := fun σ H Q => ∃ F L env M Φ Ξ, ERep t u F L H env σ ∧ MRep t u F L H M ∧ wp C e env M Φ Ξ ∧ Aft t u F L H Φ Q ∧ Bad t u F L H Ξ W σ
def tT (e : E) : TT := fun σ H Q => ∃ F L env M Φ Ξ, ERep t u F L H env σ ∧ MRep t u F L H M ∧ wpT C e env M Φ Ξ ∧
  (∀ b M' L' H', Φ b M' → Step L H L' H' → MRep t u F L' H' M' → Q b H') ∧ Bad t u F L H Ξ W σ
def tL (e : E) : TA := fun σ H Q => ∃ F L env M Φ Ξ, ERep t u F L H env σ ∧ MRep t u F L H M ∧ wpL C e env M Φ Ξ ∧
  (∀ ds M' L' H' vs, Φ ds M' → Step L H L' H' → MRep t u F L' H' M' → VRepL t u F L' H' ds vs → Q vs H') ∧ Bad t u F L H Ξ W σ
def tP (e : E) : TO := fun σ H Q => ∃ F L env M Φ Ξ, ERep t u F L H env σ ∧ MRep t u F L H M ∧ wpP C e env M Φ Ξ ∧
  (∀ o M' L' H', Φ o M' → Step L H L' H' → MRep t u F L' H' M' → Q o H') ∧ Bad t u F L H Ξ W σ
def tK (e : E) : L2.St → Hp → (List (V × V) → Hp → Prop) → Prop := fun σ H Q => ∃ F L env M Φ Ξ, ERep t u F L H env σ ∧ MRep t u F L H M ∧ wpK C e env M Φ Ξ ∧
  (∀ ps M' L' H' kvs, Φ ps M' → Step L H L' H' → MRep t u F L' H' M' → KRep t u F L' H' ps kvs → Q (kvs.map fun kv => (kV kv.1, kv.2)) H') ∧ Bad t u F L H Ξ W σ
def IRep (pr : Bool) (F L : List Addr) (H : Hp) (d : D) (v : V) : Prop :=
  VRep t u F L H d v ∨ (pr = true ∧ ∃ ds a vs, d = .tup ds ∧ v = .ref a ∧ H a = some (.tup vs) ∧ a ∉ F ∧ a ∉ L ∧ VRepL t u F L H ds vs)
structure ItOk (pr : Bool) (F L : List Addr) (H : Hp) (M : Mem) (src : List Nat) (ds : List D) (J : L2.It) : Prop where
  go : ∀ F' L' H' M', Go F L H F' L' H' → MRep t u F' L' H' M' → (∀ n ∈ src, M'[n]? = M[n]?) → ∀ i, i < ds.length →
    J.go i H' ∧ ∀ x H2, J.yld i H' x H2 → Step L' H' L' H2 ∧ MRep t u F' L' H2 M' ∧ (∀ p, p ∈ F' → H2 p = H' p) ∧ ∃ d, ds[i]? = some d ∧ IRep t u pr F' L' H2 d x
  stop : ∀ F' L' H' M', Go F L H F' L' H' → MRep t u F' L' H' M' → (∀ n ∈ src, M'[n]? = M[n]?) → J.stop ds.length H'
def tI (pr : Bool) (e : E) : TI := fun σ H R => ∃ F L env M Φ Ξ, ERep t u F L H env σ ∧ MRep t u F L H M ∧ wpI C e env M Φ Ξ ∧
  (∀ src ds M' L' H' J, Φ src ds M' → Step L H L' H' → MRep t u F L' H' M' → ds.length ≤ sz → ItOk t u pr F L' H' M' src ds J → R J H') ∧ Bad t u F L H Ξ W σ
end
theorem _root_.L2.PE.imp {X : Cx} {e : Expr} {te te' : TE} (h : PE X e te) (f : ∀ σ H Q, te' σ H Q → te σ H Q) : PE X e te' := ⟨fun pins s σ H Q I q => h.run pins s σ H Q I (f σ H Q q)⟩
theorem _root_.L2.PT.imp {X : Cx} {e : Expr} {te te' : TT} (h : PT X e te) (f : ∀ σ H Q, te' σ H Q → te σ H Q) : PT X e te' := ⟨fun pins s σ H Q I q => h.run pins s σ H Q I (f σ H Q q)⟩
theorem _root_.L2.PW.imp {X : Cx} {e : Expr} {te te' : TT} (h : PW X e te) (f : ∀ σ H Q, te' σ H Q → te σ H Q) : PW X e te' := ⟨fun wh pins s σ H Q I q => h.run wh pins s σ H Q I (f σ H Q q)⟩
theorem _root_.L2.PA.imp {X : Cx} {e : List Expr} {te te' : TA} (h : PA X e te) (f : ∀ σ H Q, te' σ H Q → te σ H Q) : PA X e te' := ⟨fun pos pins s σ H Q I q => h.run pos pins s σ H Q I (f σ H Q q)⟩
theorem _root_.L2.PO.imp {X : Cx} {e : Option Expr} {te te' : TO} (h : PO X e te) (f : ∀ σ H Q, te' σ H Q → te σ H Q) : PO X e te' := ⟨fun pins s σ H Q I q => h.run pins s σ H Q I (f σ H Q q)⟩
theorem _root_.L2.PI.imp {X : Cx} {tg e : Expr} {te te' : TI} (h : PI X tg e te) (f : ∀ σ H Q, te' σ H Q → te σ H Q) : PI X tg e te' := ⟨fun pins s σ H Q I q => h.run pins s σ H Q I (f σ H Q q)⟩
def Sized (K : PySem.W.Frag) (H : Hp) : Prop := ∀ a xs, SqL K H a xs ∨ SqT K H a xs → xs.length ≤ sizeLine
theorem _root_.L2.Inv.sized {X : Cx} {pins : List (Addr × Obj)} {σ : L2.St} {H : Hp} {s : Shared} (I : Inv X pins σ H s) : Sized X.K H := fun a xs h => by
  rcases h with h | h
  · obtain ⟨_, _, _, z⟩ := I.list h
    exact z
  · obtain ⟨_, _, _, z⟩ := I.tuple h
    exact z
theorem _root_.L2.PI.sized {X : Cx} {tg e : Expr} {wi : TI} (h : PI X tg e wi) : PI X tg e (fun σ H R => wi σ H fun J H' => Sized X.K H' → R J H') := by
  refine ⟨fun pins s σ H R I q => ?_⟩
  refine thn (h.run pins s σ H _ I q) fun v s1 h1 => thn h1 fun itv s2 h2 => ?_
  obtain ⟨it, fp, tn, J, H', e1, I2, T, t0, f, r⟩ := h2
  exact ⟨it, fp, tn, J, H', e1, I2, T, t0, f, r I2.sized⟩
section
variable {t : Tb} {u : At} {F L L' : List Addr} {H H' : Hp} {Φ : VQ} {Ξ : XQ} {Q : VK} {W : WX} {σ : L2.St}
theorem aft_from (s : Step L H L' H') (h : Aft t u F L H Φ Q) : Aft t u F L' H' Φ Q := fun d M' L2 H2 v a b c e => h d M' L2 H2 v a (s.trans b) c e
theorem bad_from (s : Step L H L' H') (h : Bad t u F L H Ξ W σ) : Bad t u F L' H' Ξ W σ := fun d M' L2 H2 a b c => h d M' L2 H2 a (s.trans b) c
end
theorem star_ns {e : Expr} {es : List Expr} {env : PySem.Env} (h : notStar e = true) : starEach (e :: es) env = (false, eval e env) :: starEach es env := by
  cases e <;> first | rfl | cases h
theorem plain_ns {env : PySem.Env} {pos : Pos} : ∀ {es : List Expr}, (∀ e ∈ es, notStar e = true) → (backTo pos (starEach es env)).any (·.1) = false
  | [], _ => rfl
  | e :: es, h => by
    rw [star_ns (h e List.mem_cons_self)]
    show (false || (backTo pos (starEach es env)).any (·.1)) = false
    rw [plain_ns fun x hx => h x (List.mem_cons_of_mem _ hx)]
    rfl
theorem chkL_ns {t : Tb} {c : Cc} : ∀ {e : E} {as : List Expr}, chkL t c e as = true → ∀ a ∈ as, notStar a = true := by
  intro e
  induction e with
  | nil =>
    intro as h
    cases as with
    | nil => intro a ha; simp at ha
    | cons x xs => cases h
  | cons a r _ ih =>
    intro as h
    cases as with
    | nil => cases h
    | cons x xs =>
      have h : (notStar x && chkE t c a x && chkL t c r xs) = true := h
      simp only [Bool.and_eq_true] at h
      intro b hb
      rcases List.mem_cons.mp hb with e | hb
      · rw [e]; exact h.1.1
      · exact ih h.2 b hb
  | _ => intro as h; cases h
theorem base_ns {o : Expr} {m : Str} {env : PySem.Env} (h : notSup o = true) : attributeBase o m env (eval o env) = eval o env := by
  unfold attributeBase
  split
  · cases h
  · rfl
theorem ix_ns {b : Expr} (h : notSlice b = true) : PlainIx b := by
  intro o i
  cases b <;> first | rfl | cases h
theorem set_ns {e : Expr} (h : notSet e = true) {env : PySem.Env} : ∀ x, foldedSetIterable e env x = pure x := by
  intro x
  cases e <;> first | rfl | cases h
theorem mark_ns {e : Expr} (h : notSet e = true) {op : CmpOp} : behindInMarks op e = false := by
  cases e <;> first | rfl | cases h
theorem test_ns {e : Expr} (h : plainT e = true) {env : PySem.Env} : ∀ whole, isTrue e env whole = (do let v ← whole; standAt e.pos; holding [v] (truthy v)) := by
  intro whole
  cases e <;> first | rfl | cases h
theorem vis_of {sc : Scope} {x : Str} (h : vis sc x = true) : Vis sc x := by
  unfold vis at h
  split at h <;> first | exact .inl (by assumption) | exact .inr (.inl (by assumption)) | exact .inr (.inr (by assumption)) | cases h
theorem glb_of {X : Cx} {sc : Scope} {x : Str} (e : X.env.scope = sc) (h : glb sc x = true) : Gl X x := by
  unfold glb at h
  split at h
  · rename_i q
    show X.env.scope.names.lookup x = _
    rw [e]
    exact q
  · cases h
theorem okN_of {x : Str} (h : okN x = true) : (x == ("__debug__" : Str)) = false ∧ (x == ("__classdict__" : Str)) = false := by
  unfold okN at h
  simp only [Bool.and_eq_true, Bool.not_eq_true'] at h
  exact h
theorem isNm_of {x : Str} {sc : Scope} {a : Expr} (h : isNm x sc a = true) : ∃ p, a = .Name x p ∧ glb sc x = true := by
  unfold isNm at h
  split at h
  · rename_i y p
    simp only [Bool.and_eq_true, beq_iff_eq] at h
    obtain ⟨rfl, h⟩ := h
    exact ⟨p, rfl, h⟩
  · cases h
end Z
set_option Elab.async false
set_option linter.all false
set_option maxRecDepth 100000
set_option maxHeartbeats 1000000
namespace Z
open PySem PySem.Spec PyProof.Rows L2
section
variable (t : Tb) (u : At) (C : Calls)
def SE (e : E) : Prop := ∀ W c X a, Gd t u C W c X → chkE t c e a = true → PE X a (tW t u C W e)
def ST (e : E) : Prop := ∀ W c X a, Gd t u C W c X → chkT t c e a = true → PT X a (tT t u C W e)
def SL (e : E) : Prop := ∀ W c X as, Gd t u C W c X → chkL t c e as = true → PA X as (tL t u C W e)
def SP' (e : E) : Prop := ∀ W c X oa, Gd t u C W c X → chkP t c e oa = true → PO X oa (tP t u C W e)
def SK (e : E) : Prop := ∀ W c X ks vs pos, Gd t u C W c X → chkK t c e ks vs = true → ∃ trs, PPs X pos ks vs trs ∧ (∀ σ H Q, tK t u C W e σ H Q → tPairs trs σ H Q) ∧ ks.all (·.isSome) = true ∧ ks.length = vs.length
def SI (e : E) : Prop := ∀ W c X tg a, Gd t u C W c X → chkI t c e tg a = true → PI X tg a (tI t u C W (isTupX tg) e)
end
section
variable {t : Tb} {u : At} {C : Calls} {a b d e r es : E}
theorem Gd.hu {W : WX} {c : Cc} {X : Cx} (g : Gd t u C W c X) : X.A.units + 65 < cLine := by
  have h := g.room.un
  omega
theorem Gd.hu1 {W : WX} {c : Cc} {X : Cx} (g : Gd t u C W c X) : X.A.units + 1 < cLine := by
  have h := g.room.un
  omega
theorem Gd.gl {W : WX} {c : Cc} {X : Cx} (g : Gd t u C W c X) {x : Str} (h : glb c.sc x = true) : Gl X x := glb_of g.sc h
theorem Gd.bl {W : WX} {c : Cc} {X : Cx} (g : Gd t u C W c X) {x : Str} (h : x ∈ blts) : X.mg x = none := g.fac.bl x h
theorem s_v {i : Nat} : SE t u C (.v i) := fun W c X a g h => by
  cases a with
  | Name x pos =>
    have h : ((c.N[i]? == some x) && vis c.sc x && okN x) = true := h
    simp only [Bool.and_eq_true, beq_iff_eq] at h
    obtain ⟨⟨h1, h2⟩, h3⟩ := h
    obtain ⟨n1, n2⟩ := okN_of h3
    refine (pe_var (i := i) (by rw [g.N]; exact h1) (by rw [g.sc]; exact vis_of h2) n1 n2).imp fun σ H Q hh => ?_
    obtain ⟨F, L, env, M, Φ, Ξ, he, hm, hw, hQ, hX⟩ := hh
    have hw : (match env[i]? with | some (some d) => Φ d M | _ => False) := hw
    split at hw
    · rename_i d hd
      obtain ⟨v, h4, h5⟩ := he.at_ i d hd
      exact ⟨v, h4, aft_same hm hw hQ h5⟩
    · exact hw.elim
  | _ => cases h
theorem s_ki {i : Int} : SE t u C (.ki i) := fun W c X a g h => by
  cases a with
  | Constant k j pos =>
    cases k with
    | int j =>
      obtain rfl : i = j := by simpa [chkE] using h
      refine pe_int.imp fun σ H Q hh => ?_
      obtain ⟨F, L, env, M, Φ, Ξ, he, hm, hw, hQ, hX⟩ := hh
      exact aft_same hm (d := .int i) hw hQ rfl
    | _ => cases h
  | _ => cases h
theorem s_kb {i : Bool} : SE t u C (.kb i) := fun W c X a g h => by
  cases a with
  | Constant k j pos =>
    cases k with
    | bool j =>
      obtain rfl : i = j := by simpa [chkE] using h
      refine pe_bl.imp fun σ H Q hh => ?_
      obtain ⟨F, L, env, M, Φ, Ξ, he, hm, hw, hQ, hX⟩ := hh
      exact aft_same hm (d := .bl i) hw hQ rfl
    | _ => cases h
  | _ => cases h
theorem s_kn : SE t u C .kn := fun W c X a g h => by
  cases a with
  | Constant k j pos =>
    cases k with
    | none =>
      refine pe_non.imp fun σ H Q hh => ?_
      obtain ⟨F, L, env, M, Φ, Ξ, he, hm, hw, hQ, hX⟩ := hh
      exact aft_same hm (d := .non) hw hQ rfl
    | _ => cases h
  | _ => cases h
theorem s_ks {n : Nat} : SE t u C (.ks n) := fun W c X a g h => by
  cases a with
  | Constant k j pos =>
    cases k with
    | str z =>
      have h1 : t.texts[n]? = some z := by simpa [chkE] using h
      refine pe_str.imp fun σ H Q hh => ?_
      obtain ⟨F, L, env, M, Φ, Ξ, he, hm, hw, hQ, hX⟩ := hh
      exact aft_same hm (d := .str n) hw hQ ⟨z, h1, rfl⟩
    | _ => cases h
  | _ => cases h
theorem s_gi {n : Nat} {i : Int} : SE t u C (.gi n i) := fun W c X a g h => by
  cases a with
  | Name x pos =>
    have h : ((t.gis[n]? == some (x, i)) && glb c.sc x && okN x) = true := h
    simp only [Bool.and_eq_true, beq_iff_eq] at h
    obtain ⟨⟨h1, h2⟩, h3⟩ := h
    obtain ⟨tk, hm⟩ := g.fac.gi n x i h1
    refine (pe_glob (v := .int i) (g.gl h2) hm ⟨tk, rfl⟩ (okN_of h3).1).imp fun σ H Q hh => ?_
    obtain ⟨F, L, env, M, Φ, Ξ, he, hm, hw, hQ, hX⟩ := hh
    exact aft_same hm (d := .int i) hw hQ rfl
  | _ => cases h
theorem s_op {o : Op2} (ha : SE t u C a) (hb : SE t u C b) : SE t u C (.op o a b) := fun W c X x g h => by
  cases x with
  | BinOp l op r pos =>
    have h : (decide (opO o = op) && chkE t c a l && chkE t c b r) = true := h
    simp only [Bool.and_eq_true, decide_eq_true_eq] at h
    obtain ⟨⟨rfl, h1⟩, h2⟩ := h
    refine (pe_op (op_ok o) (ha W c X l g h1) (hb W c X r g h2)).imp fun σ H Q hh => ?_
    obtain ⟨F, L, env, M, Φ, Ξ, he, hm, hw, hQ, hX⟩ := hh
    refine ⟨F, L, env, M, _, Ξ, he, hm, hw, fun x M1 L1 H1 v h1 s1 m1 r1 => ⟨F, L1, env, M1, _, Ξ, he.step s1, m1, h1, fun y M2 L2 H2 w h2 s2 m2 r2 => ?_, bad_from s1 hX⟩, hX⟩
    rw [g.K]
    exact opD_ok m2 (r1.step s2) r2 o h2 (aft_from (s1.trans s2) hQ)
  | _ => cases h
theorem s_cat {tab : List (Nat × Nat × Nat)} (ha : SE t u C a) (hb : SE t u C b) : SE t u C (.cat tab a b) := fun W c X x g h => by
  cases x with
  | BinOp l op r pos =>
    have h : (decide (opO .add = op) && tab.all (catOk t) && chkE t c a l && chkE t c b r) = true := h
    simp only [Bool.and_eq_true, decide_eq_true_eq] at h
    obtain ⟨⟨⟨rfl, h0⟩, h1⟩, h2⟩ := h
    refine (pe_op op_add_str (ha W c X l g h1) (hb W c X r g h2)).imp fun σ H Q hh => ?_
    obtain ⟨F, L, env, M, Φ, Ξ, he, hm, hw, hQ, hX⟩ := hh
    refine ⟨F, L, env, M, _, Ξ, he, hm, hw, fun x M1 L1 H1 v h1 s1 m1 r1 => ⟨F, L1, env, M1, _, Ξ, he.step s1, m1, h1, fun y M2 L2 H2 w h2 s2 m2 r2 => ?_, bad_from s1 hX⟩, hX⟩
    have r1 := r1.step s2
    cases x with
    | str i =>
      cases y with
      | str j =>
        obtain ⟨k, hk, h3⟩ := h2
        obtain ⟨z1, e1, rfl⟩ := r1
        obtain ⟨z2, e2, rfl⟩ := r2
        have hc := List.all_eq_true.mp h0 _ hk
        unfold catOk at hc
        rw [e1, e2] at hc
        cases e3 : t.texts[k]? with
        | none => rw [e3] at hc; cases hc
        | some z3 =>
          rw [e3] at hc
          simp only [Bool.and_eq_true, decide_eq_true_eq] at hc
          obtain ⟨hc1, hc2⟩ := hc
          refine ⟨z1, z2, rfl, rfl, by rw [sizeLine_eq]; omega, ?_⟩
          rw [hc1]
          exact aft_same m2 (d := .str k) h3 (aft_from (s1.trans s2) hQ) ⟨z3, e3, rfl⟩
      | _ => exact (show False from h2).elim
    | _ => exact (show False from h2).elim
  | _ => cases h
theorem s_addm (ha : SE t u C a) (hb : SE t u C b) : SE t u C (.addm a b) := fun W c X x g h => by
  cases x with
  | BinOp l op r pos =>
    have h : (decide (opO .add = op) && chkE t c a l && chkE t c b r) = true := h
    simp only [Bool.and_eq_true, decide_eq_true_eq] at h
    obtain ⟨⟨rfl, h1⟩, h2⟩ := h
    refine (pe_op (op_ok .add) (ha W c X l g h1) (hb W c X r g h2)).imp fun σ H Q hh => ?_
    obtain ⟨F, L, env, M, Φ, Ξ, he, hm, hw, hQ, hX⟩ := hh
    refine ⟨F, L, env, M, _, Ξ, he, hm, hw, fun x M1 L1 H1 v h1 s1 m1 r1 => ⟨F, L1, env, M1, _, Ξ, he.step s1, m1, h1, fun y M2 L2 H2 w h2 s2 m2 r2 => ?_, bad_from s1 hX⟩, hX⟩
    rw [g.K]
    obtain ⟨ds, p, vs, rfl, hp, q1, h3⟩ := ifLs_rep m2 (r1.step s2) h2
    obtain ⟨es, q, ws, rfl, hq, q2, hl, h4⟩ := ifLs_rep m2 r2 h3
    exact cat_fr m2 hp hq q1 q2 hl h4 (aft_from (s1.trans s2) hQ)
  | _ => cases h
theorem s_rep {m : Bool} (ha : SE t u C a) (hb : SE t u C b) : SE t u C (.rep m a b) := fun W c X x g h => by
  cases x with
  | BinOp l op r pos =>
    have h : (decide (.Mult = op) && chkE t c a l && chkE t c b r) = true := h
    simp only [Bool.and_eq_true, decide_eq_true_eq] at h
    obtain ⟨⟨rfl, h1⟩, h2⟩ := h
    refine (pe_op op_rep (ha W c X l g h1) (hb W c X r g h2)).imp fun σ H Q hh => ?_
    obtain ⟨F, L, env, M, Φ, Ξ, he, hm, hw, hQ, hX⟩ := hh
    exact ⟨F, L, env, M, _, Ξ, he, hm, hw, fun x M1 L1 H1 v h1 s1 m1 r1 => ⟨F, L1, env, M1, _, Ξ, he.step s1, m1, h1, fun y M2 L2 H2 w h2 s2 m2 r2 => rep_ok m2 (r1.step s2) r2 h2 (aft_from (s1.trans s2) hQ), bad_from s1 hX⟩, hX⟩
  | _ => cases h
theorem s_neg (ha : SE t u C a) : SE t u C (.neg a) := fun W c X x g h => by
  cases x with
  | UnaryOp op l pos =>
    cases op with
    | USub =>
      have h1 : chkE t c a l = true := h
      refine (pe_un un_neg (ha W c X l g h1)).imp fun σ H Q hh => ?_
      obtain ⟨F, L, env, M, Φ, Ξ, he, hm, hw, hQ, hX⟩ := hh
      refine ⟨F, L, env, M, _, Ξ, he, hm, hw, fun x M1 L1 H1 v h1 s1 m1 r1 => ?_, hX⟩
      obtain ⟨i, rfl, h1⟩ := ifInt_ex h1
      obtain rfl : v = .int i := r1
      exact ⟨i, rfl, aft_same m1 (d := .int (-i)) h1 (aft_from s1 hQ) rfl⟩
    | _ => cases h
  | _ => cases h
theorem s_cmp {k : Cm} (ha : SE t u C a) (hb : SE t u C b) : SE t u C (.cmp k a b) := fun W c X x g h => by
  cases x with
  | Compare l ops rs pos =>
    match ops, rs, h with
    | [op], [r], h =>
      have h : (decide (cmO k = op) && notSet r && chkE t c a l && chkE t c b r) = true := h
      simp only [Bool.and_eq_true, decide_eq_true_eq] at h
      obtain ⟨⟨⟨rfl, hs⟩, h1⟩, h2⟩ := h
      refine (pe_cmpR (cm_ok g.hu k) (ha W c X l g h1) (hb W c X r g h2) (mark_ns hs)).imp fun σ H Q hh => ?_
      obtain ⟨F, L, env, M, Φ, Ξ, he, hm, hw, hQ, hX⟩ := hh
      refine ⟨F, L, env, M, _, Ξ, he, hm, hw, fun x M1 L1 H1 v h1 s1 m1 r1 => ⟨F, L1, env, M1, _, Ξ, he.step s1, m1, h1, fun y M2 L2 H2 w h2 s2 m2 r2 => ?_, bad_from s1 hX⟩, hX⟩
      rw [g.K]
      exact cmD_ok g.fac.txt m2 (r1.step s2) r2 k h2 fun b hb => aft_same m2 (d := .bl b) hb (aft_from (s1.trans s2) hQ) rfl
    | [], _, h => cases h
    | [_], [], h => cases h
    | [_], _ :: _ :: _, h => cases h
    | _ :: _ :: _, _, h => cases h
  | _ => cases h
theorem t_cmp {k : Cm} (ha : SE t u C a) (hb : SE t u C b) : ST t u C (.cmp k a b) := fun W c X x g h => by
  cases x with
  | Compare l ops rs pos =>
    match ops, rs, h with
    | [op], [r], h =>
      have h : (decide (cmO k = op) && notSet r && chkE t c a l && chkE t c b r) = true := h
      simp only [Bool.and_eq_true, decide_eq_true_eq] at h
      obtain ⟨⟨⟨rfl, hs⟩, h1⟩, h2⟩ := h
      refine (pt_cmpR (cm_ok g.hu k) (ha W c X l g h1) (hb W c X r g h2) (mark_ns hs)).imp fun σ H Q hh => ?_
      obtain ⟨F, L, env, M, Φ, Ξ, he, hm, hw, hQ, hX⟩ := hh
      refine ⟨F, L, env, M, _, Ξ, he, hm, hw, fun x M1 L1 H1 v h1 s1 m1 r1 => ⟨F, L1, env, M1, _, Ξ, he.step s1, m1, h1, fun y M2 L2 H2 w h2 s2 m2 r2 => ?_, bad_from s1 hX⟩, hX⟩
      rw [g.K]
      exact cmD_ok g.fac.txt m2 (r1.step s2) r2 k h2 fun b hb => ⟨b, rfl, hQ b M2 L2 H2 hb (s1.trans s2) m2⟩
    | [], _, h => cases h
    | [_], [], h => cases h
    | [_], _ :: _ :: _, h => cases h
    | _ :: _ :: _, _, h => cases h
  | _ => cases h
theorem s_chain {k k' : Cm} (ha : SE t u C a) (hb : SE t u C b) (hd : SE t u C d) : SE t u C (.chain k k' a b d) := fun W c X x g h => by
  cases x with
  | Compare l ops rs pos =>
    match ops, rs, h with
    | [op, op'], [r, q], h =>
      have h : (decide (cmO k = op) && decide (cmO k' = op') && notSet q && chkE t c a l && chkE t c b r && chkE t c d q) = true := h
      simp only [Bool.and_eq_true, decide_eq_true_eq] at h
      obtain ⟨⟨⟨⟨⟨rfl, rfl⟩, hs⟩, h1⟩, h2⟩, h3⟩ := h
      refine (pe_chain (cm_ok g.hu k) (cm_ok g.hu k') (ha W c X l g h1) (hb W c X r g h2) (hd W c X q g h3) (show behindInMarks (cmO k') q = false from mark_ns hs)).imp fun σ H Q hh => ?_
      obtain ⟨F, L, env, M, Φ, Ξ, he, hm, hw, hQ, hX⟩ := hh
      refine ⟨F, L, env, M, _, Ξ, he, hm, hw, fun x M1 L1 H1 v h1 s1 m1 r1 => ⟨F, L1, env, M1, _, Ξ, he.step s1, m1, h1, fun y M2 L2 H2 w h2 s2 m2 r2 => ?_, bad_from s1 hX⟩, hX⟩
      rw [g.K]
      refine cmD_ok g.fac.txt m2 (r1.step s2) r2 k h2 fun b hb => ⟨b, rfl, ?_⟩
      cases b with
      | true =>
        refine iteT ⟨F, L2, env, M2, _, Ξ, he.step (s1.trans s2), m2, hb.1 rfl, fun z M3 L3 H3 w' h3 s3 m3 r3 => ?_, bad_from (s1.trans s2) hX⟩
        exact cmD_ok g.fac.txt m3 (r2.step s3) r3 k' h3 fun b hb => aft_same m3 (d := .bl b) hb (aft_from ((s1.trans s2).trans s3) hQ) rfl
      | false => exact iteF (aft_same m2 (d := .bl false) (hb.2 rfl) (aft_from (s1.trans s2) hQ) rfl)
    | [], _, h => cases h
    | [_], _, h => cases h
    | [_, _], [], h => cases h
    | [_, _], [_], h => cases h
    | [_, _], _ :: _ :: _ :: _, h => cases h
    | _ :: _ :: _ :: _, _, h => cases h
  | _ => cases h
theorem t_chain {k k' : Cm} (ha : SE t u C a) (hb : SE t u C b) (hd : SE t u C d) : ST t u C (.chain k k' a b d) := fun W c X x g h => by
  cases x with
  | Compare l ops rs pos =>
    match ops, rs, h with
    | [op, op'], [r, q], h =>
      have h : (decide (cmO k = op) && decide (cmO k' = op') && notSet q && chkE t c a l && chkE t c b r && chkE t c d q) = true := h
      simp only [Bool.and_eq_true, decide_eq_true_eq] at h
      obtain ⟨⟨⟨⟨⟨rfl, rfl⟩, hs⟩, h1⟩, h2⟩, h3⟩ := h
      refine (pt_chain (cm_ok g.hu k) (cm_ok g.hu k') (ha W c X l g h1) (hb W c X r g h2) (hd W c X q g h3) (show behindInMarks (cmO k') q = false from mark_ns hs)).imp fun σ H Q hh => ?_
      obtain ⟨F, L, env, M, Φ, Ξ, he, hm, hw, hQ, hX⟩ := hh
      refine ⟨F, L, env, M, _, Ξ, he, hm, hw, fun x M1 L1 H1 v h1 s1 m1 r1 => ⟨F, L1, env, M1, _, Ξ, he.step s1, m1, h1, fun y M2 L2 H2 w h2 s2 m2 r2 => ?_, bad_from s1 hX⟩, hX⟩
      rw [g.K]
      refine cmD_ok g.fac.txt m2 (r1.step s2) r2 k h2 fun b hb => ⟨b, rfl, ?_⟩
      cases b with
      | true =>
        refine iteT ⟨F, L2, env, M2, _, Ξ, he.step (s1.trans s2), m2, hb.1 rfl, fun z M3 L3 H3 w' h3 s3 m3 r3 => ?_, bad_from (s1.trans s2) hX⟩
        exact cmD_ok g.fac.txt m3 (r2.step s3) r3 k' h3 fun b hb => ⟨b, rfl, hQ b M3 L3 H3 hb ((s1.trans s2).trans s3) m3⟩
      | false => exact iteF ⟨false, rfl, hQ false M2 L2 H2 (hb.2 rfl) (s1.trans s2) m2⟩
    | [], _, h => cases h
    | [_], _, h => cases h
    | [_, _], [], h => cases h
    | [_, _], [_], h => cases h
    | [_, _], _ :: _ :: _ :: _, h => cases h
    | _ :: _ :: _ :: _, _, h => cases h
  | _ => cases h
theorem s_and (ha : SE t u C a) (hb : SE t u C b) : SE t u C (.and a b) := fun W c X x g h => by
  cases x with
  | BoolOp op es pos =>
    cases op with
    | And =>
      match es, h with
      | l :: r :: rest, h =>
        have h12 : chkE t c a l = true ∧ PE X (.BoolOp .And (r :: rest) pos) (tW t u C W b) := by
          cases rest with
          | nil =>
            have h : (chkE t c a l && chkE t c b r) = true := h
            simp only [Bool.and_eq_true] at h
            exact ⟨h.1, pe_one (hb W c X r g h.2)⟩
          | cons q qs =>
            have h : (chkE t c a l && chkE t c b (.BoolOp .And (r :: q :: qs) pos)) = true := h
            simp only [Bool.and_eq_true] at h
            exact ⟨h.1, hb W c X _ g h.2⟩
        obtain ⟨h1, hr⟩ := h12
        refine (pe_andT (ha W c X l g h1) hr).imp fun σ H Q hh => ?_
        obtain ⟨F, L, env, M, Φ, Ξ, he, hm, hw, hQ, hX⟩ := hh
        refine ⟨F, L, env, M, _, Ξ, he, hm, hw, fun x M1 L1 H1 v h1 s1 m1 r1 => ?_, hX⟩
        obtain ⟨k, hk, h3⟩ := trD_ok m1 r1 h1
        rw [g.K]
        refine ⟨k, hk, ?_⟩
        cases k with
        | true => exact iteT ⟨F, L1, env, M1, _, Ξ, he.step s1, m1, h3.1 rfl, aft_from s1 hQ, bad_from s1 hX⟩
        | false => exact iteF (aft_same m1 (h3.2 rfl) (aft_from s1 hQ) r1)
      | [], h => cases h
      | [_], h => cases h
    | Or => cases h
  | _ => cases h
theorem s_or (ha : SE t u C a) (hb : SE t u C b) : SE t u C (.or a b) := fun W c X x g h => by
  cases x with
  | BoolOp op es pos =>
    cases op with
    | Or =>
      match es, h with
      | l :: r :: rest, h =>
        have h12 : chkE t c a l = true ∧ PE X (.BoolOp .Or (r :: rest) pos) (tW t u C W b) := by
          cases rest with
          | nil =>
            have h : (chkE t c a l && chkE t c b r) = true := h
            simp only [Bool.and_eq_true] at h
            exact ⟨h.1, pe_one (hb W c X r g h.2)⟩
          | cons q qs =>
            have h : (chkE t c a l && chkE t c b (.BoolOp .Or (r :: q :: qs) pos)) = true := h
            simp only [Bool.and_eq_true] at h
            exact ⟨h.1, hb W c X _ g h.2⟩
        obtain ⟨h1, hr⟩ := h12
        refine (pe_orT (ha W c X l g h1) hr).imp fun σ H Q hh => ?_
        obtain ⟨F, L, env, M, Φ, Ξ, he, hm, hw, hQ, hX⟩ := hh
        refine ⟨F, L, env, M, _, Ξ, he, hm, hw, fun x M1 L1 H1 v h1 s1 m1 r1 => ?_, hX⟩
        obtain ⟨k, hk, h3⟩ := trD_ok m1 r1 h1
        rw [g.K]
        refine ⟨k, hk, ?_⟩
        cases k with
        | true => exact iteT (aft_same m1 (h3.1 rfl) (aft_from s1 hQ) r1)
        | false => exact iteF ⟨F, L1, env, M1, _, Ξ, he.step s1, m1, h3.2 rfl, aft_from s1 hQ, bad_from s1 hX⟩
      | [], h => cases h
      | [_], h => cases h
    | And => cases h
  | _ => cases h
theorem s_not (ha : SE t u C a) : SE t u C (.not a) := fun W c X x g h => by
  cases x with
  | UnaryOp op l pos =>
    cases op with
    | Not =>
      have h1 : chkE t c a l = true := h
      refine (pe_notT (ha W c X l g h1)).imp fun σ H Q hh => ?_
      obtain ⟨F, L, env, M, Φ, Ξ, he, hm, hw, hQ, hX⟩ := hh
      refine ⟨F, L, env, M, _, Ξ, he, hm, hw, fun x M1 L1 H1 v h1 s1 m1 r1 => ?_, hX⟩
      obtain ⟨k, hk, h3⟩ := trD_ok m1 r1 h1
      rw [g.K]
      exact ⟨k, hk, aft_same m1 (d := .bl (!k)) h3 (aft_from s1 hQ) rfl⟩
    | _ => cases h
  | _ => cases h
theorem s_ife (hk : ST t u C d) (ha : SE t u C a) (hb : SE t u C b) : SE t u C (.ife d a b) := fun W c X x g h => by
  cases x with
  | IfExp q l r pos =>
    have h : (chkT t c d q && chkE t c a l && chkE t c b r) = true := h
    simp only [Bool.and_eq_true] at h
    obtain ⟨⟨h0, h1⟩, h2⟩ := h
    refine (pe_ifExp (hk W c X q g h0) (ha W c X l g h1) (hb W c X r g h2)).imp fun σ H Q hh => ?_
    obtain ⟨F, L, env, M, Φ, Ξ, he, hm, hw, hQ, hX⟩ := hh
    refine ⟨F, L, env, M, _, Ξ, he, hm, hw, fun b M1 L1 H1 h1 s1 m1 => ?_, hX⟩
    cases b with
    | true => exact iteT ⟨F, L1, env, M1, _, Ξ, he.step s1, m1, h1.1 rfl, aft_from s1 hQ, bad_from s1 hX⟩
    | false => exact iteF ⟨F, L1, env, M1, _, Ξ, he.step s1, m1, h1.2 rfl, aft_from s1 hQ, bad_from s1 hX⟩
  | _ => cases h
theorem s_tup (hs : SL t u C es) : SE t u C (.tup es) := fun W c X x g h => by
  cases x with
  | Tuple as k pos =>
    have h1 : chkL t c es as = true := h
    refine (pe_tupF (hs W c X as g h1)).imp fun σ H Q hh => ?_
    obtain ⟨F, L, env, M, Φ, Ξ, he, hm, hw, hQ, hX⟩ := hh
    refine ⟨F, L, env, M, _, Ξ, he, hm, hw, fun ds M1 L1 H1 vs h1 s1 m1 r1 => ?_, hX⟩
    obtain ⟨hl, h1⟩ := h1
    exact ⟨by rw [← VRepL.len _ _ r1, szL]; exact hl, new_tup m1 r1 h1 (aft_from s1 hQ)⟩
  | _ => cases h
theorem s_lst {m : Bool} (hs : SL t u C es) : SE t u C (.lst m es) := fun W c X x g h => by
  cases x with
  | List as pos =>
    have h1 : chkL t c es as = true := h
    refine (pe_lst (hs W c X as g h1)).imp fun σ H Q hh => ?_
    obtain ⟨F, L, env, M, Φ, Ξ, he, hm, hw, hQ, hX⟩ := hh
    refine ⟨F, L, env, M, _, Ξ, he, hm, hw, fun ds M1 L1 H1 vs h1 s1 m1 r1 => ?_, hX⟩
    obtain ⟨hl, h1⟩ := h1
    exact ⟨by rw [← VRepL.len _ _ r1, szL]; exact hl, new_fresh m1 r1 h1 (aft_from s1 hQ)⟩
  | _ => cases h
theorem l_nil : SL t u C .nil := fun W c X as g h => by
  cases as with
  | nil =>
    refine pa_nil.imp fun σ H Q hh => ?_
    obtain ⟨F, L, env, M, Φ, Ξ, he, hm, hw, hQ, hX⟩ := hh
    exact hQ [] M L H [] hw Step.refl hm rfl
  | cons _ _ => cases h
theorem l_cons (ha : SE t u C a) (hr : SL t u C r) : SL t u C (.cons a r) := fun W c X as g h => by
  cases as with
  | nil => cases h
  | cons x xs =>
    have h : (notStar x && chkE t c a x && chkL t c r xs) = true := h
    simp only [Bool.and_eq_true] at h
    obtain ⟨⟨h0, h1⟩, h2⟩ := h
    refine (pa_cons (ha W c X x g h1) (hr W c X xs g h2) (star_ns h0)).imp fun σ H Q hh => ?_
    obtain ⟨F, L, env, M, Φ, Ξ, he, hm, hw, hQ, hX⟩ := hh
    exact ⟨F, L, env, M, _, Ξ, he, hm, hw, fun d M1 L1 H1 v h1 s1 m1 r1 => ⟨F, L1, env, M1, _, Ξ, he.step s1, m1, h1, fun ds M2 L2 H2 vs h2 s2 m2 r2 => hQ _ M2 L2 H2 _ h2 (s1.trans s2) m2 ⟨v, vs, rfl, r1.step s2, r2⟩, bad_from s1 hX⟩, hX⟩
theorem s_ix (ha : SE t u C a) (hb : SE t u C b) : SE t u C (.ix a b) := fun W c X x g h => by
  cases x with
  | Subscript l r pos =>
    have h : (notSlice r && chkE t c a l && chkE t c b r) = true := h
    simp only [Bool.and_eq_true] at h
    obtain ⟨⟨h0, h1⟩, h2⟩ := h
    refine (pe_ix (ix_ok g.hu1) (ha W c X l g h1) (hb W c X r g h2) (ix_ns h0)).imp fun σ H Q hh => ?_
    obtain ⟨F, L, env, M, Φ, Ξ, he, hm, hw, hQ, hX⟩ := hh
    refine ⟨F, L, env, M, _, Ξ, he, hm, hw, fun x M1 L1 H1 v h1 s1 m1 r1 => ⟨F, L1, env, M1, _, Ξ, he.step s1, m1, h1, fun y M2 L2 H2 w h2 s2 m2 r2 => ?_, bad_from s1 hX⟩, hX⟩
    rw [g.K]
    exact ixD_ok g.fac.txt m2 (r1.step s2) r2 h2 (aft_from (s1.trans s2) hQ)
  | _ => cases h
theorem p_none : SP' t u C .none := fun W c X oa g h => by
  cases oa with
  | none =>
    refine po_none.imp fun σ H Q hh => ?_
    obtain ⟨F, L, env, M, Φ, Ξ, he, hm, hw, hQ, hX⟩ := hh
    exact hQ none M L H hw Step.refl hm
  | some _ => cases h
theorem p_w (ha : SE t u C a) : SP' t u C (.w a) := fun W c X oa g h => by
  cases oa with
  | none => cases h
  | some x =>
    refine (po_some (ha W c X x g h)).imp fun σ H Q hh => ?_
    obtain ⟨F, L, env, M, Φ, Ξ, he, hm, hw, hQ, hX⟩ := hh
    refine ⟨F, L, env, M, _, Ξ, he, hm, hw, fun x M1 L1 H1 v h1 s1 m1 r1 => ?_, hX⟩
    obtain ⟨i, rfl, h1⟩ := ifInt_ex h1
    obtain rfl : v = .int i := r1
    exact ⟨i, rfl, hQ _ M1 L1 H1 h1 s1 m1⟩
theorem s_sl (ha : SE t u C a) (hb : SP' t u C b) (hd : SP' t u C d) : SE t u C (.sl a b d) := fun W c X x g h => by
  cases x with
  | Subscript l s pos =>
    cases s with
    | Slice p q o pos2 =>
      cases o with
      | none =>
        have h : (chkE t c a l && chkP t c b p && chkP t c d q) = true := h
        simp only [Bool.and_eq_true] at h
        obtain ⟨⟨h0, h1⟩, h2⟩ := h
        refine (pe_slice sl_ok (ha W c X l g h0) (hb W c X p g h1) (hd W c X q g h2)).imp fun σ H Q hh => ?_
        obtain ⟨F, L, env, M, Φ, Ξ, he, hm, hw, hQ, hX⟩ := hh
        refine ⟨F, L, env, M, _, Ξ, he, hm, hw, fun x M1 L1 H1 v h1 s1 m1 r1 => ⟨F, L1, env, M1, _, Ξ, he.step s1, m1, h1, fun y M2 L2 H2 h2 s2 m2 => ⟨F, L2, env, M2, _, Ξ, he.step (s1.trans s2), m2, h2, fun z M3 L3 H3 h3 s3 m3 => ?_, bad_from (s1.trans s2) hX⟩, bad_from s1 hX⟩, hX⟩
        rw [g.K]
        exact slD_ok m3 (r1.step (s2.trans s3)) h3 (aft_from ((s1.trans s2).trans s3) hQ)
      | some _ => cases h
    | _ => cases h
  | _ => cases h
theorem rep_pick {F L : List Addr} {H : Hp} {ds : List D} {vs : List V} (r : VRepL t u F L H ds vs) : ∀ is : List Nat, VRepL t u F L H (pick ds is) (pick vs is)
  | [] => rfl
  | i :: is => by
    unfold pick
    rw [List.filterMap_cons, List.filterMap_cons]
    cases hx : ds[i]? with
    | none =>
      have : vs[i]? = none := by
        rw [List.getElem?_eq_none_iff] at hx ⊢
        rw [← VRepL.len _ _ r]; exact hx
      rw [this]
      exact rep_pick r is
    | some x =>
      obtain ⟨v, hv, rv⟩ := r.get hx
      rw [hv]
      exact ⟨v, _, rfl, rv, rep_pick r is⟩
theorem s_sst (ha : SE t u C a) (hb : SP' t u C b) (hd : SP' t u C d) (he' : SP' t u C e) : SE t u C (.sst a b d e) := fun W c X x g h => by
  cases x with
  | Subscript l s pos =>
    cases s with
    | Slice p q o pos2 =>
      cases o with
      | some o =>
        have h : (chkE t c a l && chkP t c b p && chkP t c d q && chkP t c e (some o)) = true := h
        simp only [Bool.and_eq_true] at h
        obtain ⟨⟨⟨h0, h1⟩, h2⟩, h3⟩ := h
        refine (pe_sstF (ha W c X l g h0) (hb W c X p g h1) (hd W c X q g h2) (he' W c X (some o) g h3)).imp fun σ H Q hh => ?_
        obtain ⟨F, L, env, M, Φ, Ξ, he, hm, hw, hQ, hX⟩ := hh
        refine ⟨F, L, env, M, _, Ξ, he, hm, hw, fun x M1 L1 H1 v h1 s1 m1 r1 => ⟨F, L1, env, M1, _, Ξ, he.step s1, m1, h1, fun y M2 L2 H2 h2 s2 m2 => ⟨F, L2, env, M2, _, Ξ, he.step (s1.trans s2), m2, h2, fun z M3 L3 H3 h3 s3 m3 => ⟨F, L3, env, M3, _, Ξ, he.step ((s1.trans s2).trans s3), m3, h3, fun w M4 L4 H4 h4 s4 m4 => ?_, bad_from ((s1.trans s2).trans s3) hX⟩, bad_from (s1.trans s2) hX⟩, bad_from s1 hX⟩, hX⟩
        rw [g.K]
        have r4 := r1.step (s2.trans (s3.trans s4))
        cases x with
        | tup ds =>
          obtain ⟨k, rfl, k0, _, k2, k3⟩ := h4
          have r4' := r4
          obtain ⟨a, vs, rfl, g1, _, _, r⟩ := r4
          refine ⟨a, vs, k, rfl, rfl, k0, .inl g1.rd, ?_, fun hb => ?_, ?_⟩
          · rw [← VRepL.len _ _ r, ← VRepL.len _ _ (rep_pick r _), szL]; exact k2
          · rw [← VRepL.len _ _ r] at hb
            rw [pick_whole ds hb] at k3
            exact aft_same m4 k3 (aft_from (((s1.trans s2).trans s3).trans s4) hQ) r4'
          · rw [← VRepL.len _ _ r]
            exact new_tup m4 (rep_pick r _) k3 (aft_from (((s1.trans s2).trans s3).trans s4) hQ)
        | _ => exact (show False from h4).elim
      | none => cases h
    | _ => cases h
  | _ => cases h
theorem t_none_false {P : Prop} (h : false = true) : P := by cases h
theorem t_w (ha : SE t u C a) : ST t u C (.w a) := fun W c X x g h => by
  have h : (plainT x && chkE t c a x) = true := h
  simp only [Bool.and_eq_true] at h
  refine (pt_truth (ha W c X x g h.2) (test_ns h.1)).imp fun σ H Q hh => ?_
  obtain ⟨F, L, env, M, Φ, Ξ, he, hm, hw, hQ, hX⟩ := hh
  refine ⟨F, L, env, M, _, Ξ, he, hm, hw, fun x M1 L1 H1 v h1 s1 m1 r1 => ?_, hX⟩
  obtain ⟨k, hk, h3⟩ := trD_ok m1 r1 h1
  rw [g.K]
  exact ⟨k, hk, hQ k M1 L1 H1 h3 s1 m1⟩
theorem t_not (ha : ST t u C a) : ST t u C (.not a) := fun W c X x g h => by
  cases x with
  | UnaryOp op l pos =>
    cases op with
    | Not =>
      have h1 : chkT t c a l = true := h
      refine (pt_not (ha W c X l g h1)).imp fun σ H Q hh => ?_
      obtain ⟨F, L, env, M, Φ, Ξ, he, hm, hw, hQ, hX⟩ := hh
      exact ⟨F, L, env, M, _, Ξ, he, hm, hw, fun b M1 L1 H1 h1 s1 m1 => hQ (!b) M1 L1 H1 h1 s1 m1, hX⟩
    | _ => cases h
  | _ => cases h
end
end Z
set_option Elab.async false
set_option linter.all false
set_option maxRecDepth 100000
set_option maxHeartbeats 1000000
namespace Z
open PySem PySem.Spec PyProof.Rows L2
section
variable {X : Cx} {CX : CXT} {k : Nat} {f C : Addr} {fd : FuncData} {ps : List Str} {sp : Sp} {E : L2.St → XK} {x m : Str} {p pos apos : Pos} {e o : Expr} {es : List Expr} {ta : TE} {t : TA}
theorem pe_callS0 (F : FnOk X.prog X.w X.K X.mg X.base CX k f fd ps sp) (hr : Room k X.A) (hg : Gl X x) (hm : X.mg x = some (.ref f)) (hk : PySem.W.keepIn X.K (.ref f) = true) (hb : Binds X.K fd ps []) (hx : ∀ σ, PassesAt CX X σ (E σ))
    (hdb : (x == ("__debug__" : Str)) = false) : PE X (.Call (.Name x p) [] [] pos) (tCallS sp E tNil) := by
  refine ⟨fun pins s σ H Q I h => ?_⟩
  refine wpAny_Call_Name_kw (ld_glob I hg hm ?_ hdb)
  exact PySem.W.callWith_K0 I.kIn hk (run_fnS (us := []) F hr hb (hx σ) I .nil h)
def tMethS (C : Addr) (m : Str) (sp : Sp) (E : L2.St → XK) (ta : TE) (t : TA) : TE := fun σ H Q => ta σ H fun x H1 => ∃ a dx fs, x = .ref a ∧ H1 a = some (.ins C dx fs) ∧ fs.lookup m = none ∧
  t σ H1 fun vs H2 => sp (x :: vs) H2 Q (E σ)
theorem pe_methS1 {pl : Sem Bool} (he : PE X o ta) (c : Cls X.K C) (hm : Meth X.K C m f) (F : FnOk X.prog X.w X.K X.mg X.base CX k f fd ps sp) (hr : Room k X.A) (hb : Binds X.K fd ps []) (hx : ∀ σ, PassesAt CX X σ (E σ)) (ha : PA X (e :: es) t)
    (hst : starEach (e :: es) X.env = (false, eval e X.env) :: starEach es X.env) (hpl : (backTo pos (starEach es X.env)).any (·.1) = false)
    (ht : eval (.Call (.Attribute o m apos) (e :: es) [] pos) X.env = (do
      let ov ← eval o X.env
      standAt apos.atName
      let (f, first) ← holding [ov] (getMethod ov m pl)
      callWith pos f first (backTo pos (starEach (e :: es) X.env)) (backToKw pos (keywordEach [] X.env)))) :
    PE X (.Call (.Attribute o m apos) (e :: es) [] pos) (tMethS C m sp E ta t) := by
  refine ⟨fun pins s σ H Q I h => ?_⟩
  refine PySem.W.methodCall_KW (pl := pl) (thn (he.run pins s σ H _ I h) fun u s1 ⟨x, H1, I1, rx, a, dx, fs, ex, ea, l, q⟩ => ?_) ht
  subst ex
  obtain rfl : u = Value.ref a := rx
  refine getmeth_ok I1 ea c hm l ?_
  refine PySem.W.callWith_K (first := [.ref a]) (h₀ := X.base) I.ok.mod.kin hm.kp (thn (ha.run pos pins s1 σ H1 _ I1 q) fun us s2 ⟨vs, H2, I2, r, q2⟩ => ⟨I2.kIn, ?_⟩) hst hpl
  exact run_fnS (us := .ref a :: us) (vs := .ref a :: vs) F hr hb (hx σ) I2 (.cons rfl r) q2
theorem pe_methS0 {pl : Sem Bool} (he : PE X o ta) (c : Cls X.K C) (hm : Meth X.K C m f) (F : FnOk X.prog X.w X.K X.mg X.base CX k f fd ps sp) (hr : Room k X.A) (hb : Binds X.K fd ps []) (hx : ∀ σ, PassesAt CX X σ (E σ))
    (ht : eval (.Call (.Attribute o m apos) [] [] pos) X.env = (do
      let ov ← eval o X.env
      standAt apos.atName
      let (f, first) ← holding [ov] (getMethod ov m pl)
      callWith pos f first (backTo pos (starEach [] X.env)) (backToKw pos (keywordEach [] X.env)))) :
    PE X (.Call (.Attribute o m apos) [] [] pos) (tMethS C m sp E ta tNil) := by
  refine ⟨fun pins s σ H Q I h => ?_⟩
  refine PySem.W.methodCall_KW (pl := pl) (thn (he.run pins s σ H _ I h) fun u s1 ⟨x, H1, I1, rx, a, dx, fs, ex, ea, l, q⟩ => ?_) ht
  subst ex
  obtain rfl : u = Value.ref a := rx
  refine getmeth_ok I1 ea c hm l ?_
  exact PySem.W.callWith_K0 (first := [.ref a]) I1.kIn hm.kp (run_fnS (us := [.ref a]) (vs := [.ref a]) F hr hb (hx σ) I1 (.cons rfl .nil) q)
end
theorem nil_of {t : Tb} {u : At} {C : Calls} {W : WX} {c : Cc} {e : E} {σ : L2.St} {H : Hp} {Q : List V → Hp → Prop} (h : chkL t c e [] = true) (hh : tL t u C W e σ H Q) : Q [] H := by
  cases e with
  | nil =>
    obtain ⟨F, L, env, M, Φ, Ξ, he, hm, hw, hQ, hX⟩ := hh
    exact hQ [] M L H [] hw Step.refl hm rfl
  | _ => cases h
theorem few_ns {env : PySem.Env} {pos : Pos} : ∀ {es : List Expr}, (∀ e ∈ es, notStar e = true) → (backTo pos (starEach es env)).all (!·.1) = true
  | [], _ => rfl
  | e :: es, h => by
    rw [star_ns (h e List.mem_cons_self)]
    show (true && (backTo pos (starEach es env)).all (!·.1)) = true
    rw [few_ns fun x hx => h x (List.mem_cons_of_mem _ hx)]
    rfl
theorem eval_meth {o : Expr} {m : Str} {apos pos : Pos} {es : List Expr} {env : PySem.Env} (h : notSup o = true) (hs : ∀ e ∈ es, notStar e = true) (hl : lineOk apos pos = true) (hn : es.length < 5) :
    eval (.Call (.Attribute o m apos) es [] pos) env = (do
      let ov ← eval o env
      standAt apos.atName
      let (f, first) ← holding [ov] (getMethod ov m (do return (← importBound o env).getD true))
      callWith pos f first (backTo pos (starEach es env)) (backToKw pos (keywordEach [] env))) := by
  rw [arm_eval_Call, base_ns h]
  have hform : methodCallForm (es.length + ([] : List Keyword).length) (backTo pos (starEach es env)) (backToKw pos (keywordEach [] env)) = true := by
    unfold methodCallForm
    rw [few_ns hs]
    show (true && true && decide (es.length + 0 + 0 < 30)) = true
    rw [decide_eq_true (by omega)]
    rfl
  have hpos : methodCallPos true o env apos pos = pure pos := by
    unfold methodCallPos
    have hl : (apos.endLine == pos.line) = true := hl
    simp [hl]
  unfold methodCall
  rw [hform]
  unfold calleeOf
  simp only [if_true, hpos, pure_bind]
end Z
set_option Elab.async false
set_option linter.all false
set_option maxRecDepth 100000
set_option maxHeartbeats 1000000
namespace Z
open PySem PySem.Spec PyProof.Rows L2
theorem passN0 {X : Cx} : Passes (L2N.CX X.prog X.w) X E0 := fun _ _ _ _ _ _ _ c => (cx_none c).elim
section
variable {t : Tb} {u : At} {C : Calls} {a b d e r es : E} {b' : B1}
theorem fns_of {f : Nat} {n : Str} (h : t.fns[f]?.map (·.1) = some n) : ∃ ps, t.fns[f]? = some (n, ps) := by
  cases e : t.fns[f]? with
  | none => rw [e] at h; cases h
  | some p =>
    rw [e] at h
    have h : p.1 = n := by simpa using h
    exact ⟨p.2, by rw [← h]⟩
theorem spC_of {W : WX} {f : Nat} {F L L1 : List Addr} {H H1 : Hp} {M1 : Mem} {ds : List D} {vs : List V} {Φ : VQ} {Ξ : XQ} {Q : VK} {σ : L2.St} (hQ : Aft t u F L H Φ Q) (hX : Bad t u F L H Ξ W σ) (s1 : Step L H L1 H1) (m1 : MRep t u F L1 H1 M1) (r1 : VRepL t u F L1 H1 ds vs)
    (h : C f ds M1 Φ Ξ) : spC t u C f vs H1 Q (WE W σ) := ⟨F, L1, M1, ds, Φ, Ξ, m1, r1, h, aft_from s1 hQ, fun c M' L' H' a b e => hX c M' L' H' a (s1.trans b) e⟩
theorem s_call {f : Nat} (hs : SL t u C es) : SE t u C (.call f es) := fun W c X x g h => by
  cases x with
  | Call fn as kws pos =>
    cases fn with
    | Name n p =>
      cases kws with
      | nil =>
        have h : ((t.fns[f]?.map (·.1) == some n) && (t.mth.lookup f == none) && glb c.sc n && okN n && chkL t c es as) = true := h
        simp only [Bool.and_eq_true, beq_iff_eq] at h
        obtain ⟨⟨⟨⟨h1, h2⟩, h3⟩, h4⟩, h5⟩ := h
        obtain ⟨ps, e1⟩ := fns_of h1
        obtain ⟨k, fd, hF, hB, hR⟩ := g.call f n ps e1
        obtain ⟨hm, hk⟩ := g.fac.fn f n ps e1 h2
        have hk : PySem.W.keepIn X.K (.ref (u.fa f)) = true := by rw [g.K]; exact hk
        have hR' : Room k X.A := hR.mono (Nat.le_succ k)
        have read : ∀ σ H Q, tW t u C W (.call f es) σ H Q → tL t u C W es σ H (fun vs H1 => spC t u C f vs H1 Q (WE W σ)) := fun σ H Q hh => by
          obtain ⟨F, L, env, M, Φ, Ξ, he, hm, hw, hQ, hX⟩ := hh
          exact ⟨F, L, env, M, _, Ξ, he, hm, hw, fun ds M1 L1 H1 vs h1 s1 m1 r1 => spC_of hQ hX s1 m1 r1 h1, hX⟩
        cases as with
        | nil =>
          refine (pe_callS0 hF hR' (g.gl h3) hm hk hB (fun σ => L2N.passAt g.tk σ) (okN_of h4).1).imp fun σ H Q hh => ?_
          exact nil_of h5 (read σ H Q hh)
        | cons y ys =>
          have ns := chkL_ns h5
          exact (pe_callS hF hR' (g.gl h3) hm hk hB (fun σ => L2N.passAt g.tk σ) (hs W c X (y :: ys) g h5) (okN_of h4).1 (star_ns (ns y List.mem_cons_self)) (plain_ns fun z hz => ns z (List.mem_cons_of_mem _ hz))).imp read
      | cons _ _ => cases h
    | _ => cases h
  | _ => cases h
theorem lookup_none_of {nm : List Str} {fs : List (Option D)} {fs' : List (Str × V)} {F L : List Addr} {H : Hp} (r : FRep t u F L H nm fs fs') {x : Str} (h : x ∉ nm) : fs'.lookup x = none := by
  cases e : fs'.lookup x with
  | none => rfl
  | some v =>
    have : (x, v) ∈ fs' := PySem.mem_of_lookup e
    exact absurd (r.sub x (List.mem_map.mpr ⟨_, this, rfl⟩)) h
theorem s_meth {k f : Nat} (ho : SE t u C a) (hs : SL t u C es) : SE t u C (.meth k f a es) := fun W c X x g h => by
  cases x with
  | Call fn as kws pos =>
    cases fn with
    | Attribute l n ap =>
      cases kws with
      | nil =>
        have h : ((t.fns[f]?.map (·.1) == some n) && (t.mth.lookup f == some k) && notSup l && lineOk ap pos && decide (as.length < 5) && chkE t c a l && chkL t c es as) = true := h
        simp only [Bool.and_eq_true, beq_iff_eq, decide_eq_true_eq] at h
        obtain ⟨⟨⟨⟨⟨⟨h1, h2⟩, h3⟩, h4⟩, h5⟩, h6⟩, h7⟩ := h
        obtain ⟨ps, e1⟩ := fns_of h1
        obtain ⟨kk, fd, hF, hB, hR⟩ := g.call f n ps e1
        obtain ⟨hc, hme, hno⟩ := g.fac.mt f n ps k e1 h2
        rw [← g.K] at hc hme
        have hR' : Room kk X.A := hR.mono (Nat.le_succ kk)
        have ns := chkL_ns h7
        have ht := eval_meth (m := n) (env := X.env) h3 ns h4 h5
        have read : ∀ σ H Q, tW t u C W (.meth k f a es) σ H Q → tW t u C W a σ H (fun x H1 => ∃ p dx fs, x = .ref p ∧ H1 p = some (.ins (u.ca k) dx fs) ∧ fs.lookup n = none ∧ tL t u C W es σ H1 (fun vs H1 => spC t u C f (x :: vs) H1 Q (WE W σ))) := fun σ H Q hh => by
          obtain ⟨F, L, env, M, Φ, Ξ, he, hm, hw, hQ, hX⟩ := hh
          refine ⟨F, L, env, M, _, Ξ, he, hm, hw, fun d M1 L1 H1 v h1 s1 m1 r1 => ?_, hX⟩
          obtain ⟨i, rfl, h1⟩ := ifRef_ex h1
          obtain ⟨cc, fs, hM, ek, h1'⟩ := ifI_ex h1
          subst ek
          obtain ⟨p, dx, fs', nm, rfl, _, hp, hn, rr⟩ := ref_in m1 r1 hM
          exact ⟨p, dx, fs', rfl, hp, lookup_none_of rr (hno nm hn), F, L1, env, M1, _, Ξ, he.step s1, m1, h1', fun ds M2 L2 H2 vs h2 s2 m2 r2 => spC_of (ds := .ref i :: ds) hQ hX (s1.trans s2) m2 ⟨_, vs, rfl, r1.step s2, r2⟩ h2, bad_from s1 hX⟩
        cases as with
        | nil =>
          refine (pe_methS0 (ho W c X l g h6) hc hme hF hR' hB (fun σ => L2N.passAt g.tk σ) ht).imp fun σ H Q hh => ?_
          obtain ⟨F, L, env, M, Φ, Ξ, he, hm, hw, hQ, hX⟩ := read σ H Q hh
          refine ⟨F, L, env, M, Φ, Ξ, he, hm, hw, fun d M1 L1 H1 v a1 a2 a3 a4 => ?_, hX⟩
          obtain ⟨p, dx, fs, b1, b2, b3, b4⟩ := hQ d M1 L1 H1 v a1 a2 a3 a4
          exact ⟨p, dx, fs, b1, b2, b3, nil_of h7 b4⟩
        | cons y ys => exact (pe_methS1 (ho W c X l g h6) hc hme hF hR' hB (fun σ => L2N.passAt g.tk σ) (hs W c X (y :: ys) g h7) (star_ns (ns y List.mem_cons_self)) (plain_ns fun z hz => ns z (List.mem_cons_of_mem _ hz)) ht).imp read
      | cons _ _ => cases h
    | _ => cases h
  | _ => cases h
theorem s_new {k f nf : Nat} (hs : SL t u C es) : SE t u C (.new k f nf es) := fun W c X x g h => by
  cases x with
  | Call fn as kws pos =>
    cases fn with
    | Name n p =>
      cases kws with
      | nil =>
        have h : ((t.cls[k]? == some n) && (t.fns[f]?.map (·.1) == some ("__init__" : Str)) && (t.mth.lookup f == some k) && (t.fld[k]?.map (·.length) == some nf) && glb c.sc n && okN n && chkL t c es as) = true := h
        simp only [Bool.and_eq_true, beq_iff_eq] at h
        obtain ⟨⟨⟨⟨⟨⟨h0, h1⟩, h2⟩, h3⟩, h4⟩, h5⟩, h6⟩ := h
        obtain ⟨ps, e1⟩ := fns_of h1
        obtain ⟨kk, fd, hF, hB, hR⟩ := g.call f _ ps e1
        have hmk := g.fac.ini k f ps h2 e1
        rw [← g.K] at hmk
        have hm := g.fac.cl k n h0
        obtain ⟨nm, e3, hnf⟩ : ∃ nm, t.fld[k]? = some nm ∧ nm.length = nf := by
          cases q : t.fld[k]? with
          | none => rw [q] at h3; cases h3
          | some nm => rw [q] at h3; exact ⟨nm, rfl, by simpa using h3⟩
        have read : ∀ σ H Q, tW t u C W (.new k f nf es) σ H Q → tL t u C W es σ H (fun vs H1 => ∀ x dx, H1 x = none → H1 dx = none → dx ≠ x →
            spC t u C f (.ref x :: (vs ++ [])) (upd (upd H1 dx (.own x)) x (.ins (u.ca k) dx [])) (fun v H2 => v = .non ∧ Q (.ref x) H2) E0) := fun σ H Q hh => by
          obtain ⟨F, L, env, M, Φ, Ξ, he, hm, hw, hQ, hX⟩ := hh
          refine ⟨F, L, env, M, _, Ξ, he, hm, hw, fun ds M1 L1 H1 vs h1 s1 m1 r1 x dx nx ndx hne => ?_, hX⟩
          have nx2 : (upd H1 dx (.own x)) x = none := by rw [upd_ne (Ne.symm hne)]; exact nx
          have m2 : MRep t u F L1 (upd H1 dx (.own x)) M1 := m1.new ndx
          have st2 : Step L1 H1 L1 (upd H1 dx (.own x)) := Step.new ndx
          have hrep : FRep t u F (L1 ++ [x]) (upd (upd H1 dx (.own x)) x (.ins (u.ca k) dx [])) nm (List.replicate nf none) [] :=
            ⟨by rw [List.length_replicate, hnf], by simp, fun y hy => by simp at hy, fun i y d _ h2 => by
              rw [List.getElem?_replicate] at h2
              split at h2 <;> cases h2⟩
          have m3 : MRep t u F (L1 ++ [x]) (upd (upd H1 dx (.own x)) x (.ins (u.ca k) dx [])) (M1 ++ [.ins k (List.replicate nf none)]) := m2.lay nx2 ⟨dx, [], nm, upd_same, e3, hrep⟩
          have st3 : Step L1 H1 (L1 ++ [x]) (upd (upd H1 dx (.own x)) x (.ins (u.ca k) dx [])) := st2.trans (Step.lay nx2)
          have hx : (L1 ++ [x])[M1.length]? = some x := by rw [← m1.len]; simp
          refine ⟨F, L1 ++ [x], _, .ref M1.length :: ds, _, _, m3, ⟨.ref x, vs ++ [], rfl, ⟨x, rfl, hx⟩, by rw [List.append_nil]; exact VRepL.step st3 _ _ r1⟩, h1, fun d M4 L4 H4 v h4 s4 m4 r4 => ?_, fun _ _ _ _ z => z.elim⟩
          obtain ⟨rfl, h4⟩ := h4
          exact ⟨r4, hQ _ M4 L4 H4 _ h4 (s1.trans (st3.trans s4)) m4 ⟨x, rfl, s4.get hx⟩⟩
        cases as with
        | nil =>
          refine (pe_make0 (sp := spC t u C f) hmk hF hR (g.gl h4) hm hB .nil passN0 (okN_of h5).1).imp fun σ H Q hh => ?_
          exact nil_of h6 (read σ H Q hh)
        | cons y ys =>
          have ns := chkL_ns h6
          exact (pe_make (sp := spC t u C f) hmk hF hR (g.gl h4) hm hB .nil passN0 (hs W c X (y :: ys) g h6) (okN_of h5).1 (star_ns (ns y List.mem_cons_self)) (plain_ns fun z hz => ns z (List.mem_cons_of_mem _ hz))).imp read
      | cons _ _ => cases h
    | _ => cases h
  | _ => cases h
theorem blt_name {b : B1} : b1N b ∈ blts := by cases b <;> decide
theorem pe_b1 {X : Cx} {l : Expr} {te : TE} {p pos : Pos} (hc : X.calm = true) (hg : Gl X (b1N b')) (hm : X.mg (b1N b') = none) (hl : PE X l te) (ns : notStar l = true) : PE X (.Call (.Name (b1N b') p) [l] [] pos) (tCB (rB1 X.K b') (tCons te tNil)) := by
  have ha : PA X [l] (tCons te tNil) := pa_cons hl pa_nil (star_ns ns)
  cases b' with
  | len => exact pe_callB (b1_ok hc .len) hg hm (by decide +kernel) ha (by decide) (by decide) (star_ns ns) rfl
  | sum => exact pe_callB (b1_ok hc .sum) hg hm (by decide +kernel) ha (by decide) (by decide) (star_ns ns) rfl
  | all => exact pe_callB (b1_ok hc .all) hg hm (by decide +kernel) ha (by decide) (by decide) (star_ns ns) rfl
  | any => exact pe_callB (b1_ok hc .any) hg hm (by decide +kernel) ha (by decide) (by decide) (star_ns ns) rfl
  | abs => exact pe_callB (b1_ok hc .abs) hg hm (by decide +kernel) ha (by decide) (by decide) (star_ns ns) rfl
  | tuple => exact pe_callTy (b1_ok hc .tuple) hg hm (by decide +kernel) ha (by decide) (by decide) (star_ns ns) rfl
  | sorted => exact pe_callB (b1_ok hc .sorted) hg hm (by decide +kernel) ha (by decide) (by decide) (star_ns ns) rfl
  | sortedK => exact pe_callB (b1_ok hc .sortedK) hg hm (by decide +kernel) ha (by decide) (by decide) (star_ns ns) rfl
  | min => exact pe_callB (b1_ok hc .min) hg hm (by decide +kernel) ha (by decide) (by decide) (star_ns ns) rfl
  | minK => exact pe_callB (b1_ok hc .minK) hg hm (by decide +kernel) ha (by decide) (by decide) (star_ns ns) rfl
  | max => exact pe_callB (b1_ok hc .max) hg hm (by decide +kernel) ha (by decide) (by decide) (star_ns ns) rfl
  | int => exact pe_callTy (b1_ok hc .int) hg hm (by decide +kernel) ha (by decide) (by decide) (star_ns ns) rfl
theorem s_b1 {k : B1} {m : Bool} (ha : SE t u C a) : SE t u C (.b1 k m a) := fun W c X x g h => by
  cases x with
  | Call fn as kws pos =>
    match as, kws, h with
    | [l], [], h =>
      have h : (isNm (b1N k) c.sc fn && notStar l && chkE t c a l) = true := h
      simp only [Bool.and_eq_true] at h
      obtain ⟨⟨h1, h2⟩, h3⟩ := h
      obtain ⟨p, rfl, hg⟩ := isNm_of h1
      refine (pe_b1 g.calm (g.gl hg) (g.bl blt_name) (ha W c X l g h3) h2).imp fun σ H Q hh => ?_
      obtain ⟨F, L, env, M, Φ, Ξ, he, hm, hw, hQ, hX⟩ := hh
      refine ⟨F, L, env, M, _, Ξ, he, hm, hw, fun x M1 L1 H1 v h1 s1 m1 r1 => ?_, hX⟩
      show rB1 X.K k [v] H1 Q
      rw [g.K]
      exact b1D_ok m1 r1 k h1 (aft_from s1 hQ)
    | [], _, h => cases h
    | _ :: _ :: _, _, h => cases h
    | [_], _ :: _, h => cases h
  | _ => cases h
theorem s_lof {m : Bool} (ha : SE t u C a) : SE t u C (.lof m a) := fun W c X x g h => by
  cases x with
  | Call fn as kws pos =>
    match as, kws, h with
    | [l], [], h =>
      have h : (isNm "list" c.sc fn && notStar l && chkE t c a l) = true := h
      simp only [Bool.and_eq_true] at h
      obtain ⟨⟨h1, h2⟩, h3⟩ := h
      obtain ⟨p, rfl, hg⟩ := isNm_of h1
      refine (pe_callTy call_list_of (g.gl hg) (g.bl (by decide)) (by decide +kernel) (pa_cons (ha W c X l g h3) pa_nil (star_ns h2)) (by decide) (by decide) (star_ns h2) rfl).imp fun σ H Q hh => ?_
      obtain ⟨F, L, env, M, Φ, Ξ, he, hm, hw, hQ, hX⟩ := hh
      refine ⟨F, L, env, M, _, Ξ, he, hm, hw, fun x M1 L1 H1 v h1 s1 m1 r1 => ?_, hX⟩
      rw [g.K]
      exact lofD_ok m1 r1 h1 (aft_from s1 hQ)
    | [], _, h => cases h
    | _ :: _ :: _, _, h => cases h
    | [_], _ :: _, h => cases h
  | _ => cases h
theorem s_b2 {k : B2} (ha : SE t u C a) (hb : SE t u C b) : SE t u C (.b2 k a b) := fun W c X x g h => by
  cases x with
  | Call fn as kws pos =>
    match as, kws, h with
    | [l, r], [], h =>
      have h : (isNm (b2N k) c.sc fn && notStar l && notStar r && chkE t c a l && chkE t c b r) = true := h
      simp only [Bool.and_eq_true] at h
      obtain ⟨⟨⟨⟨h1, h2⟩, h3⟩, h4⟩, h5⟩ := h
      obtain ⟨p, rfl, hg⟩ := isNm_of h1
      have pa : PA X [l, r] (tCons (tW t u C W a) (tCons (tW t u C W b) tNil)) := pa_cons (ha W c X l g h4) (pa_cons (hb W c X r g h5) pa_nil (star_ns h3)) (star_ns h2)
      have pc : PE X (.Call (.Name (b2N k) p) [l, r] [] pos) (tCB (rB2 k) (tCons (tW t u C W a) (tCons (tW t u C W b) tNil))) := by
        cases k with
        | min2 => exact pe_callB (b2_ok g.calm .min2) (g.gl hg) (g.bl (by decide)) (by decide +kernel) pa (by decide) (by decide) (star_ns h2) (plain_ns fun z hz => by rw [List.mem_singleton.mp hz]; exact h3)
        | max2 => exact pe_callB (b2_ok g.calm .max2) (g.gl hg) (g.bl (by decide)) (by decide +kernel) pa (by decide) (by decide) (star_ns h2) (plain_ns fun z hz => by rw [List.mem_singleton.mp hz]; exact h3)
      refine pc.imp fun σ H Q hh => ?_
      obtain ⟨F, L, env, M, Φ, Ξ, he, hm, hw, hQ, hX⟩ := hh
      exact ⟨F, L, env, M, _, Ξ, he, hm, hw, fun x M1 L1 H1 v h1 s1 m1 r1 => ⟨F, L1, env, M1, _, Ξ, he.step s1, m1, h1, fun y M2 L2 H2 w h2 s2 m2 r2 => b2D_ok m2 (r1.step s2) r2 k h2 (aft_from (s1.trans s2) hQ), bad_from s1 hX⟩, hX⟩
    | [], _, h => cases h
    | [_], _, h => cases h
    | _ :: _ :: _ :: _, _, h => cases h
    | [_, _], _ :: _, h => cases h
  | _ => cases h
theorem s_attr {f : Nat} (ho : SE t u C a) : SE t u C (.attr a f) := fun W c X x g h => by
  cases x with
  | Attribute l n pos =>
    have h : (notSup l && (t.fld.all fun nm => nm[f]? == some n || nm[f]? == none) && chkE t c a l) = true := h
    simp only [Bool.and_eq_true] at h
    obtain ⟨⟨h1, h2⟩, h3⟩ := h
    refine (pe_fld (ho W c X l g h3) (base_ns h1)).imp fun σ H Q hh => ?_
    obtain ⟨F, L, env, M, Φ, Ξ, he, hm, hw, hQ, hX⟩ := hh
    refine ⟨F, L, env, M, _, Ξ, he, hm, hw, fun x M1 L1 H1 v h1 s1 m1 r1 => ?_, hX⟩
    obtain ⟨i, cc, fs, d, p, dx, fs', nm, rfl, hM, hf, h1, rfl, hp, hn, rr⟩ := attrD_ok m1 r1 h1
    have hf2 : f < nm.length := by
      rw [← rr.len]
      exact (List.getElem?_eq_some_iff.mp hf).1
    have hx : nm[f]? = some n := by
      have q := List.all_eq_true.mp h2 nm (List.mem_of_getElem? hn)
      simp only [Bool.or_eq_true, beq_iff_eq] at q
      rcases q with q | q
      · exact q
      · rw [List.getElem?_eq_getElem hf2] at q
        cases q
    obtain ⟨v, hv, rv⟩ := rr.at_ f n d hx hf
    obtain ⟨hc, _, _, hno⟩ := g.fac.fld cc nm hn
    rw [← g.K] at hc hno
    exact ⟨p, u.ca cc, dx, fs', v, rfl, hp, hc, hno n (List.mem_of_getElem? hx), hv, aft_same m1 h1 (aft_from s1 hQ) rv⟩
  | _ => cases h
def tyS : Ty → String
  | .int => "int" | .bool => "bool" | .str => "str" | .tuple => "tuple"
theorem isi_ty {F L : List Addr} {H : Hp} {M : Mem} {x : D} {v : V} {K : PySem.W.Frag} (m : MRep t u F L H M) (r : VRep t u F L H x v) (ok : isiOk x = true) (ty : Ty) (hK : u.K = K) :
    ∃ tt, TyX K H v tt ∧ PySem.W.kitOne K tt (.type (tyS ty)) = some (isiD x ty) := by
  subst hK
  cases x with
  | ref _ => cases ok
  | rep _ => cases ok
  | non =>
    obtain rfl : v = .non := r
    exact ⟨_, .base .non, by cases ty <;> simp only [tyS, isiD] <;> first | exact kit_ty (r := true) (by decide +kernel) | exact kit_ty (r := false) (by decide +kernel)⟩
  | bl b =>
    obtain rfl : v = .bl b := r
    exact ⟨_, .base (.bl b), by cases ty <;> simp only [tyS, isiD] <;> first | exact kit_ty (r := true) (by decide +kernel) | exact kit_ty (r := false) (by decide +kernel)⟩
  | int i =>
    obtain rfl : v = .int i := r
    exact ⟨_, .base (.int i), by cases ty <;> simp only [tyS, isiD] <;> first | exact kit_ty (r := true) (by decide +kernel) | exact kit_ty (r := false) (by decide +kernel)⟩
  | str n =>
    obtain ⟨z, _, rfl⟩ := r
    exact ⟨_, .base (.str z), by cases ty <;> simp only [tyS, isiD] <;> first | exact kit_ty (r := true) (by decide +kernel) | exact kit_ty (r := false) (by decide +kernel)⟩
  | tup ds =>
    obtain ⟨p, vs, rfl, ⟨o, h1, _⟩, _⟩ := r
    exact ⟨_, .fTuple h1, by cases ty <;> simp only [tyS, isiD] <;> first | exact kit_ty (r := true) (by decide +kernel) | exact kit_ty (r := false) (by decide +kernel)⟩
  | lst ds =>
    obtain ⟨p, vs, rfl, h1, _⟩ := r
    exact ⟨_, .base (.lst h1), by cases ty <;> simp only [tyS, isiD] <;> first | exact kit_ty (r := true) (by decide +kernel) | exact kit_ty (r := false) (by decide +kernel)⟩
  | scr ds => cases ok
theorem s_isi {ty : Ty} (ha : SE t u C a) : SE t u C (.isi a ty) := fun W c X x g h => by
  cases x with
  | Call fn as kws pos =>
    match as, kws, h with
    | [l, r], [], h =>
      have h : (isNm "isinstance" c.sc fn && isNm (tyN ty) c.sc r && notStar l && chkE t c a l) = true := h
      simp only [Bool.and_eq_true] at h
      obtain ⟨⟨⟨h1, h2⟩, h3⟩, h4⟩ := h
      obtain ⟨p, rfl, hg⟩ := isNm_of h1
      obtain ⟨p', rfl, hg'⟩ := isNm_of h2
      have pt : PE X (.Name (tyN ty) p') (tC (.ty (tyS ty))) := by
        cases ty with
        | int => exact pe_bltn (u := .type "int") (g.gl hg') (g.bl (by decide)) (by decide +kernel) rfl (by decide) (by decide)
        | bool => exact pe_bltn (u := .type "bool") (g.gl hg') (g.bl (by decide)) (by decide +kernel) rfl (by decide) (by decide)
        | str => exact pe_bltn (u := .type "str") (g.gl hg') (g.bl (by decide)) (by decide +kernel) rfl (by decide) (by decide)
        | tuple => exact pe_bltn (u := .type "tuple") (g.gl hg') (g.bl (by decide)) (by decide +kernel) rfl (by decide) (by decide)
      refine (pe_callB call_isi (g.gl hg) (g.bl (by decide)) (by decide +kernel) (pa_cons (ha W c X l g h4) (pa_cons pt pa_nil rfl) (star_ns h3)) (by decide) (by decide) (star_ns h3) rfl).imp fun σ H Q hh => ?_
      obtain ⟨F, L, env, M, Φ, Ξ, he, hm, hw, hQ, hX⟩ := hh
      refine ⟨F, L, env, M, _, Ξ, he, hm, hw, fun x M1 L1 H1 v h1 s1 m1 r1 => ?_, hX⟩
      obtain ⟨ok, h1⟩ := h1
      obtain ⟨tt, k1, k2⟩ := isi_ty m1 r1 ok ty g.K.symm
      exact ⟨v, _, tt, _, _, rfl, .ty _, k1, k2, aft_same m1 (d := .bl (isiD x ty)) h1 (aft_from s1 hQ) rfl⟩
    | [], _, h => cases h
    | [_], _, h => cases h
    | _ :: _ :: _ :: _, _, h => cases h
    | [_, _], _ :: _, h => cases h
  | _ => cases h
end
end Z
set_option Elab.async false
set_option linter.all false
set_option maxRecDepth 100000
set_option maxHeartbeats 1000000
namespace Z
open PySem PySem.Spec PyProof.Rows L2
def rRpr (K : PySem.W.Frag) : List V → Hp → VK → Prop := fun xs H Q => ∃ a d, xs = [.ref a] ∧ Dp K H (.ref a) d ∧ d.showable = true ∧ d.hasDict = false ∧ d.depth ≤ 20 ∧ d.shown.length ≤ sizeLine ∧ Q (.str d.shown) H
theorem call_reprD {X : Cx} (hg : X.A.guards = some []) (hu : X.A.units + 65 < cLine) : CallR X (.builtin "repr") (rRpr X.K) := by
  intro pins s σ H xs us Q I r h
  obtain ⟨a, d, rfl, hd, h1, h2, h3, h4, q⟩ := h
  obtain ⟨u, rfl, rx⟩ := vals1 r
  obtain ⟨as, rd⟩ := Dp.reads I d _ _ hd rx
  cases rx
  exact repr_of_reads' rd h1 (fun z => by rw [h2] at z; cases z) hg (by omega) (fun _ _ e => e) (fun h' u' tk hk => ⟨.str d.shown, H, I.kept hk, ⟨u', rfl⟩, q⟩) h4
section
variable {t : Tb}
mutual
theorem rok_py : ∀ (n : Nat) (d : D), d.rok n = true → (toPy t d).showable = true ∧ (toPy t d).hasDict = false ∧ (toPy t d).shown.length ≤ d.rlen
  | _, .int i, h => by
    have h : i.natAbs.log2 < 1920 := of_decide_eq_true (by simpa [D.rok] using h)
    refine ⟨decide_eq_true h, rfl, ?_⟩
    have := int_text_len_1921 h
    show (PySem.Str.ofString (toString i)).length ≤ 1930
    omega
  | n + 1, .tup ds, h => by
    have h : ∀ d ∈ ds, d.rok n = true := by simpa [D.rok] using h
    obtain ⟨a, b, c⟩ := rok_pyL n ds h
    refine ⟨a, b, ?_⟩
    have := fmt_text (PyData.shownAll (toPyL t ds))
    show (tupleText (PyData.shownAll (toPyL t ds))).length ≤ D.rlenL ds + 2
    omega
  | 0, .tup ds, h => by simp [D.rok] at h
  | _, .non, h => by simp [D.rok] at h
  | _, .bl _, h => by simp [D.rok] at h
  | _, .str _, h => by simp [D.rok] at h
  | _, .lst _, h => by simp [D.rok] at h
  | _, .scr _, h => by simp [D.rok] at h
  | _, .ref _, h => by simp [D.rok] at h
  | _, .rep _, h => by simp [D.rok] at h
theorem rok_pyL : ∀ (n : Nat) (ds : List D), (∀ d ∈ ds, d.rok n = true) → PyData.showableAll (toPyL t ds) = true ∧ PyData.hasDictAll (toPyL t ds) = false ∧ piled (PyData.shownAll (toPyL t ds)) ≤ D.rlenL ds
  | _, [], _ => ⟨rfl, rfl, Nat.le_refl _⟩
  | n, d :: r, h => by
    obtain ⟨a1, b1, c1⟩ := rok_py n d (h d List.mem_cons_self)
    obtain ⟨a2, b2, c2⟩ := rok_pyL n r fun x hx => h x (List.mem_cons_of_mem _ hx)
    refine ⟨?_, ?_, ?_⟩
    · show ((toPy t d).showable && PyData.showableAll (toPyL t r)) = true
      rw [a1, a2]; rfl
    · show ((toPy t d).hasDict || PyData.hasDictAll (toPyL t r)) = false
      rw [b1, b2]; rfl
    · show piled ((toPy t d).shown :: PyData.shownAll (toPyL t r)) ≤ D.rlen d + 2 + D.rlenL r
      rw [piled_cons]
      omega
end
end
section
variable {t : Tb} {u : At} {C : Calls} {a : E}
theorem s_rpr (ha : SE t u C a) : SE t u C (.rpr a) := fun W c X x g h => by
  cases x with
  | Call fn as kws pos =>
    match as, kws, h with
    | [l], [], h =>
      have h : (c.grd && isNm "repr" c.sc fn && notStar l && chkE t c a l) = true := h
      simp only [Bool.and_eq_true] at h
      obtain ⟨⟨⟨h0, h1⟩, h2⟩, h3⟩ := h
      obtain ⟨p, rfl, hg⟩ := isNm_of h1
      have pa := pa_cons (ha W c X l g h3) pa_nil (star_ns h2)
      have hu := g.hu
      refine (pe_callB (call_reprD (X := X) (g.grd h0) hu) (g.gl hg) (g.bl (by decide)) (by decide +kernel) pa (by decide) (by decide) (star_ns h2) rfl).imp fun σ H Q hh => ?_
      obtain ⟨F, L, env, M, Φ, Ξ, he, hm, hw, hQ, hX⟩ := hh
      refine ⟨F, L, env, M, _, Ξ, he, hm, hw, fun x M1 L1 H1 v k1 s1 m1 r1 => ?_, hX⟩
      obtain ⟨ds, rfl, ⟨c1, c2, c3⟩, k2⟩ := ifTup_ex k1
      obtain ⟨q1, q2, q3⟩ := rok_py (t := t) 10 _ c2
      have dp := dp_of (u := u) g.fac.txt 10 _ _ c1 r1
      have dl := (canLay_of g.fac.txt 10 _ _ c1 r1).2
      obtain ⟨pa', vs, rfl, _⟩ := r1
      rw [g.K]
      refine ⟨pa', toPy t (.tup ds), rfl, dp, q1, q2, by omega, by rw [szL]; omega, ?_⟩
      exact aft_same m1 (d := .rep (.tup ds)) k2 (aft_from s1 hQ) rfl
    | [], _, h => cases h
    | _ :: _ :: _, _, h => cases h
    | [_], _ :: _, h => cases h
  | _ => cases h
end
end Z
set_option Elab.async false
set_option linter.all false
set_option maxRecDepth 100000
set_option maxHeartbeats 1000000
namespace Z
open PySem PySem.Spec PyProof.Rows L2
theorem pw_of {X : Cx} {op : BoolOp} {es : List Expr} {pos : Pos} {t : TT} (h : PT X (.BoolOp op es pos) t) : PW X (.BoolOp op es pos) t := by
  refine ⟨fun wh pins s σ H Q I q => ?_⟩
  have e : PySem.isTrue (.BoolOp op es pos) X.env wh = PySem.isTrue (.BoolOp op es pos) X.env (eval (.BoolOp op es pos) X.env) := by cases op <;> rfl
  rw [e]
  exact h.run pins s σ H Q I q
section
variable {t : Tb} {u : At} {C : Calls} {a b d e r es : E}
theorem t_and (ha : ST t u C a) (hb : ST t u C b) : ST t u C (.and a b) := fun W c X x g h => by
  cases x with
  | BoolOp op es pos =>
    cases op with
    | And =>
      match es, h with
      | l :: r :: rest, h =>
        have h12 : chkT t c a l = true ∧ PW X (.BoolOp .And (r :: rest) pos) (tT t u C W b) := by
          cases rest with
          | nil =>
            have h : (chkT t c a l && chkT t c b r) = true := h
            simp only [Bool.and_eq_true] at h
            exact ⟨h.1, pw_and1 (hb W c X r g h.2)⟩
          | cons q qs =>
            have h : (chkT t c a l && chkT t c b (.BoolOp .And (r :: q :: qs) pos)) = true := h
            simp only [Bool.and_eq_true] at h
            exact ⟨h.1, pw_of (hb W c X _ g h.2)⟩
        obtain ⟨h1, hr⟩ := h12
        refine (pw_and (ha W c X l g h1) hr).pt.imp fun σ H Q hh => ?_
        obtain ⟨F, L, env, M, Φ, Ξ, he, hm, hw, hQ, hX⟩ := hh
        refine ⟨F, L, env, M, _, Ξ, he, hm, hw, fun k M1 L1 H1 h1 s1 m1 => ?_, hX⟩
        cases k with
        | true => exact iteT ⟨F, L1, env, M1, _, Ξ, he.step s1, m1, h1.1 rfl, fun b' M' L' H' a1 a2 a3 => hQ b' M' L' H' a1 (s1.trans a2) a3, bad_from s1 hX⟩
        | false => exact iteF (hQ false M1 L1 H1 (h1.2 rfl) s1 m1)
      | [], h => cases h
      | [_], h => cases h
    | Or => cases h
  | _ => cases h
theorem t_or (ha : ST t u C a) (hb : ST t u C b) : ST t u C (.or a b) := fun W c X x g h => by
  cases x with
  | BoolOp op es pos =>
    cases op with
    | Or =>
      match es, h with
      | l :: r :: rest, h =>
        have h12 : chkT t c a l = true ∧ PW X (.BoolOp .Or (r :: rest) pos) (tT t u C W b) := by
          cases rest with
          | nil =>
            have h : (chkT t c a l && chkT t c b r) = true := h
            simp only [Bool.and_eq_true] at h
            exact ⟨h.1, pw_or1 (hb W c X r g h.2)⟩
          | cons q qs =>
            have h : (chkT t c a l && chkT t c b (.BoolOp .Or (r :: q :: qs) pos)) = true := h
            simp only [Bool.and_eq_true] at h
            exact ⟨h.1, pw_of (hb W c X _ g h.2)⟩
        obtain ⟨h1, hr⟩ := h12
        refine (pw_or (ha W c X l g h1) hr).pt.imp fun σ H Q hh => ?_
        obtain ⟨F, L, env, M, Φ, Ξ, he, hm, hw, hQ, hX⟩ := hh
        refine ⟨F, L, env, M, _, Ξ, he, hm, hw, fun k M1 L1 H1 h1 s1 m1 => ?_, hX⟩
        cases k with
        | true => exact iteT (hQ true M1 L1 H1 (h1.1 rfl) s1 m1)
        | false => exact iteF ⟨F, L1, env, M1, _, Ξ, he.step s1, m1, h1.2 rfl, fun b' M' L' H' a1 a2 a3 => hQ b' M' L' H' a1 (s1.trans a2) a3, bad_from s1 hX⟩
      | [], h => cases h
      | [_], h => cases h
    | And => cases h
  | _ => cases h
theorem rngL_eq (lo : Int) : ∀ n : Nat, rngL lo n = (List.range n).map fun i => D.int (lo + (i : Nat))
  | 0 => rfl
  | n + 1 => by
    show D.int lo :: rngL (lo + 1) n = _
    rw [rngL_eq (lo + 1) n, List.range_succ_eq_map, List.map_cons, List.map_map]
    congr 1
    · simp
    · refine List.map_congr_left fun i _ => ?_
      show D.int (lo + 1 + (i : Nat)) = D.int (lo + ((i + 1 : Nat) : Int))
      congr 1
      omega
theorem rngL_rep {F L : List Addr} {H : Hp} (i j : Int) : VRepL t u F L H (rngL i (j - i).toNat) (rgV i j) := by
  have e : rngL i (j - i).toNat = (((List.range (j - i).toNat).map fun k => i + (k : Nat)).map D.int) := by
    rw [rngL_eq, List.map_map]; rfl
  have e2 : rgV i j = (((List.range (j - i).toNat).map fun k => i + (k : Nat)).map V.int) := by
    rw [List.map_map]; rfl
  rw [e, e2]
  exact VRepL.ofInts _
theorem VRepL.rev {F L : List Addr} {H : Hp} : ∀ {ds : List D} {vs : List V}, VRepL t u F L H ds vs → VRepL t u F L H ds.reverse vs.reverse
  | [], vs, h => by
    obtain rfl : vs = [] := h
    exact rfl
  | d :: ds, vs, h => by
    obtain ⟨v, r, rfl, h1, h2⟩ := h
    rw [List.reverse_cons, List.reverse_cons]
    exact VRepL.app (VRepL.rev h2) ⟨v, [], rfl, h1, rfl⟩
theorem s_rev (ha : SE t u C a) : SE t u C (.rev a) := fun W c X x g h => by
  cases x with
  | Subscript l q pos =>
    cases q with
    | Slice lo hi st p3 =>
      match lo, hi, st, h with
      | none, none, some s, h =>
        cases s with
        | UnaryOp op o p2 =>
          cases op with
          | USub =>
            cases o with
            | Constant k j p1 =>
              cases k with
              | int i =>
                match i, h with
                | 1, h =>
                  have h : chkE t c a l = true := h
                  refine (pe_revL (ha W c X l g h)).imp fun σ H Q hh => ?_
                  obtain ⟨F, L, env, M, Φ, Ξ, he, hm, hw, hQ, hX⟩ := hh
                  refine ⟨F, L, env, M, _, Ξ, he, hm, hw, fun x M1 L1 H1 v h1 s1 m1 r1 => ?_, hX⟩
                  obtain ⟨ds, a, vs, rfl, h2, r, h3⟩ := ifLst_rep m1 r1 h1
                  rw [g.K]
                  exact ⟨a, vs, rfl, h2, new_lst m1 (VRepL.rev r) h3 (aft_from s1 hQ)⟩
              | _ => cases h
            | _ => cases h
          | _ => cases h
        | _ => cases h
      | some _, _, _, h => cases h
      | none, some _, _, h => cases h
      | none, none, none, h => cases h
    | _ => cases h
  | _ => cases h
theorem s_trng (ha : SE t u C a) (hb : SE t u C b) : SE t u C (.trng a b) := fun W c X x g h => by
  cases x with
  | Call fn as kws pos =>
    match as, kws, h with
    | [y], [], h =>
      cases y with
      | Call fn' as' kws' pos' =>
        match as', kws', h with
        | [l, r], [], h =>
          have h : (isNm "tuple" c.sc fn && isNm "range" c.sc fn' && notStar l && notStar r && chkE t c a l && chkE t c b r) = true := h
          simp only [Bool.and_eq_true] at h
          obtain ⟨⟨⟨⟨⟨h1, h2⟩, h3⟩, h4⟩, h5⟩, h6⟩ := h
          obtain ⟨p, rfl, hg⟩ := isNm_of h1
          obtain ⟨p', rfl, hg'⟩ := isNm_of h2
          refine (pe_tupRgF g.calm (g.gl hg) (g.bl (by decide)) (prg_2 (g.gl hg') (g.bl (by decide)) (ha W c X l g h5) (hb W c X r g h6) (star_ns h3) (star_ns h4) (plain_ns fun z hz => by rw [List.mem_singleton.mp hz]; exact h4))).imp fun σ H Q hh => ?_
          obtain ⟨F, L, env, M, Φ, Ξ, he, hm, hw, hQ, hX⟩ := hh
          refine ⟨F, L, env, M, _, Ξ, he, hm, hw, fun x M1 L1 H1 v h1 s1 m1 r1 => ⟨F, L1, env, M1, _, Ξ, he.step s1, m1, h1, fun y M2 L2 H2 w k2 s2 m2 r2 => ?_, bad_from s1 hX⟩, hX⟩
          obtain ⟨i, e1, k3⟩ := ifInt_ex k2
          obtain ⟨j, e2, k4⟩ := ifInt_ex k3
          obtain ⟨⟨b1, b2, b3, b4, b5⟩, k5⟩ := k4
          subst e1 e2
          obtain rfl : v = .int i := r1
          obtain rfl : w = .int j := r2
          exact ⟨i, j, rfl, rfl, ⟨b1, b2, b3, b4, by omega⟩, new_tup m2 (rngL_rep i j) k5 (aft_from (s1.trans s2) hQ)⟩
        | [], _, h => cases h
        | [_], _, h => cases h
        | _ :: _ :: _ :: _, _, h => cases h
        | [_, _], _ :: _, h => cases h
      | _ => cases h
    | [], _, h => cases h
    | _ :: _ :: _, _, h => cases h
    | [_], _ :: _, h => cases h
  | _ => cases h
theorem k_nil : SK t u C .nil := fun W c X ks vs pos g h => by
  match ks, vs, h with
  | [], [], _ =>
    refine ⟨[], pps_nil, fun σ H Q hh => ?_, rfl, rfl⟩
    obtain ⟨F, L, env, M, Φ, Ξ, he, hm, hw, hQ, hX⟩ := hh
    exact hQ [] M L H [] hw Step.refl hm rfl
  | [], _ :: _, h => cases h
  | _ :: _, _, h => cases h
theorem k_pair (ha : SE t u C a) (hb : SE t u C b) (hr : SK t u C r) : SK t u C (.pair a b r) := fun W c X ks vs pos g h => by
  match ks, vs, h with
  | some x :: xs, y :: ys, h =>
    have h : (chkE t c a x && chkE t c b y && chkK t c r xs ys) = true := h
    simp only [Bool.and_eq_true] at h
    obtain ⟨⟨h1, h2⟩, h3⟩ := h
    obtain ⟨trs, p, q, e1, e2⟩ := hr W c X xs ys pos g h3
    refine ⟨_, pps_cons (ha W c X x g h1) (hb W c X y g h2) p, fun σ H Q hh => ?_, by rw [List.all_cons, e1]; rfl, by rw [List.length_cons, List.length_cons, e2]⟩
    obtain ⟨F, L, env, M, Φ, Ξ, he, hm, hw, hQ, hX⟩ := hh
    refine ⟨F, L, env, M, _, Ξ, he, hm, hw, fun x M1 L1 H1 v k1 s1 m1 r1 => ⟨F, L1, env, M1, _, Ξ, he.step s1, m1, k1, fun y M2 L2 H2 w k2 s2 m2 r2 => ?_, bad_from s1 hX⟩, hX⟩
    refine q σ H2 _ ⟨F, L2, env, M2, _, Ξ, (he.step s1).step s2, m2, k2, fun ps M3 L3 H3 kvs k3 s3 m3 r3 => ?_, bad_from (s1.trans s2) hX⟩
    obtain ⟨k, ek, k4⟩ := ifKy_ex k3
    obtain ⟨k', hk', ev⟩ := ky_of r1 ek
    subst ev
    exact hQ _ M3 L3 H3 ((k', w) :: kvs) k4 (s1.trans (s2.trans s3)) m3 ⟨k', w, kvs, rfl, hk', VRep.step s3 _ _ r2, r3⟩
  | [], _, h => cases h
  | none :: _, _, h => cases h
  | some _ :: _, [], h => cases h
theorem KRep.fold (K : TxtOk t) {F L : List Addr} {H : Hp} : ∀ {ps acc : List (Ky × D)} {ws wacc : List (Key × V)}, KRep t u F L H ps ws → KRep t u F L H acc wacc → KRep t u F L H (ps.foldl (fun acc p => kput acc p.1 p.2) acc) (mergeK wacc ws)
  | [], acc, ws, wacc, r, q => by
    obtain rfl : ws = [] := r
    exact q
  | p :: ps, acc, ws, wacc, r, q => by
    obtain ⟨k, v, rest, rfl, hk, hv, hr⟩ := r
    exact KRep.fold K (ps := ps) (acc := kput acc p.1 p.2) (wacc := putK wacc k v) hr (q.put K hk hv)
theorem Step.fin {L L2 : List Addr} {H H2 : Hp} {z : Addr} {o0 o : HO} (hz : H z = none) (s : Step L (upd H z o0) L2 H2) : Step L H L2 (upd H2 z o) :=
  ⟨s.pre, fun a q e n => by
    have ne := ne_of_none e hz
    obtain ⟨k1, k2⟩ := s.keep a q (by rw [upd_ne ne]; exact e) n
    exact ⟨by rw [upd_ne ne]; exact k1, k2⟩⟩
theorem Step.finL {L L2 : List Addr} {H H2 : Hp} {z : Addr} {o0 o : HO} (hz : H z = none) (s : Step L (upd H z o0) L2 H2) : Step L H (L2 ++ [z]) (upd H2 z o) := by
  refine ⟨?_, fun a q e n => ?_⟩
  · obtain ⟨m, e⟩ := s.pre
    exact ⟨m ++ [z], by rw [e, List.append_assoc]⟩
  · have ne := ne_of_none e hz
    obtain ⟨k1, k2⟩ := s.keep a q (by rw [upd_ne ne]; exact e) n
    exact ⟨by rw [upd_ne ne]; exact k1, by simp only [List.mem_append, List.mem_singleton, not_or]; exact ⟨k2, ne⟩⟩
theorem goLay {F L : List Addr} {H : Hp} {z : Addr} {o : HO} : Go (z :: F) L H F (L ++ [z]) (upd H z o) :=
  ⟨fun a q e nf n => by
    have ne : a ≠ z := fun y => nf (by rw [y]; exact List.mem_cons_self)
    exact ⟨by rw [upd_ne ne]; exact e, fun y => nf (List.mem_cons_of_mem _ y), by simp only [List.mem_append, List.mem_singleton, not_or]; exact ⟨n, ne⟩⟩,
   fun n a e => by rw [List.getElem?_append_left (List.getElem?_eq_some_iff.mp e).1]; exact e⟩
theorem MRep.layF {F L : List Addr} {H : Hp} {M : Mem} {z : Addr} {o : HO} {q : O} (r : MRep t u (z :: F) L H M) (hz : z ∉ F) (hq : ORep t u F (L ++ [z]) (upd H z o) q z) : MRep t u F (L ++ [z]) (upd H z o) (M ++ [q]) := by
  have nz := (r.frb z List.mem_cons_self).1
  refine ⟨by rw [List.length_append, List.length_append, r.len]; rfl, ?_, fun a ha => ?_, fun n a p h1 h2 => ?_⟩
  · rw [List.nodup_append]
    refine ⟨r.nd, List.nodup_cons.mpr ⟨by simp, List.nodup_nil⟩, fun a ha b hb => ?_⟩
    rw [List.mem_singleton.mp hb]
    intro e
    exact nz (e ▸ ha)
  · obtain ⟨n, p, e⟩ := r.frb a (List.mem_cons_of_mem _ ha)
    have ne : a ≠ z := fun y => hz (y ▸ ha)
    exact ⟨by simp only [List.mem_append, List.mem_singleton, not_or]; exact ⟨n, ne⟩, p, by rw [upd_ne ne]; exact e⟩
  · by_cases hn : n < L.length
    · rw [List.getElem?_append_left hn] at h1
      rw [List.getElem?_append_left (by rw [← r.len]; exact hn)] at h2
      refine (r.at_ n a p h1 h2).mapV (fun d v h => h.go goLay) (upd_ne ?_)
      intro e
      exact nz (e ▸ List.mem_of_getElem? h1)
    · have hn' : L.length ≤ n := Nat.le_of_not_lt hn
      rw [List.getElem?_append_right hn'] at h1
      rw [List.getElem?_append_right (by rw [← r.len]; exact hn')] at h2
      rw [r.len] at h1
      cases k : n - M.length with
      | zero =>
        rw [k] at h1 h2
        cases h1; cases h2
        exact hq
      | succ j =>
        rw [k] at h1
        cases h1
theorem bad_open {F L : List Addr} {H : Hp} {Ξ : XQ} {W : WX} {σ : L2.St} {z : Addr} {o : HO} (hz : H z = none) (h : Bad t u F L H Ξ W σ) : Bad t u (z :: F) L (upd H z o) Ξ W σ :=
  fun c M' L' H' a b e => h c M' L' H' a ((Step.new hz).trans b) e.lessF
theorem ky_rep {F L : List Addr} {H : Hp} {v : V} : ∀ {k : Ky}, VRep t u F L H (kyD k) v → ∃ q : Key, v = kV q ∧ kyR t k q
  | .i n, h => ⟨.inl n, h, rfl⟩
  | .s n, h => by
    obtain ⟨z, h1, h2⟩ := h
    exact ⟨.inr z, h2, z, h1, rfl⟩
theorem pairs_rep {K : PySem.W.Frag} {F L : List Addr} {H : Hp} : ∀ {kvs : List (Ky × D)} {vs : List V}, VRepL t u F L H (kvs.map prD) vs →
    ∃ (ps : List Addr) (ws : List (Key × V)), vs = ps.map V.ref ∧ Paired (fun p kv => SqT K H p [kV kv.1, kv.2]) ps ws ∧ KRep t u F L H kvs ws
  | [], vs, h => by
    obtain rfl : vs = [] := h
    exact ⟨[], [], rfl, .nil, rfl⟩
  | p :: kvs, vs, h => by
    obtain ⟨v, r, rfl, h1, h2⟩ := h
    obtain ⟨a, ws, rfl, h3, _, _, h4⟩ := h1
    obtain ⟨k, r1, rfl, h5, h6⟩ := h4
    obtain ⟨y, r2, rfl, h7, h8⟩ := h6
    obtain rfl : r2 = [] := h8
    obtain ⟨q, rfl, h9⟩ := ky_rep h5
    obtain ⟨ps, ws', rfl, g2, g3⟩ := pairs_rep (K := K) h2
    exact ⟨a :: ps, (q, y) :: ws', rfl, .cons (.inl h3.rd) g2, q, y, ws', rfl, h9, h7, g3⟩
theorem s_dctp (ha : SE t u C a) : SE t u C (.dctp a) := fun W c X x g h => by
  cases x with
  | Call fn as kws pos =>
    match as, kws, h with
    | [l], [], h =>
      have h : (isNm "dict" c.sc fn && notStar l && chkE t c a l) = true := h
      simp only [Bool.and_eq_true] at h
      obtain ⟨⟨h1, h2⟩, h3⟩ := h
      obtain ⟨p, rfl, hg⟩ := isNm_of h1
      refine (pe_callTy (call_dictP g.calm) (g.gl hg) (g.bl (by decide)) (by decide +kernel) (pa_cons (ha W c X l g h3) pa_nil (star_ns h2)) (by decide) (by decide) (star_ns h2) rfl).imp fun σ H Q hh => ?_
      obtain ⟨F, L, env, M, Φ, Ξ, he, hm, hw, hQ, hX⟩ := hh
      refine ⟨F, L, env, M, _, Ξ, he, hm, hw, fun x M1 L1 H1 v h1 s1 m1 r1 => ?_, hX⟩
      obtain ⟨ds, a, vs, rfl, h2, r, kvs, rfl, hΦ⟩ := ifLst_rep m1 r1 h1
      rw [g.K]
      obtain ⟨ps, ws, rfl, e2, e3⟩ := pairs_rep (K := u.K) r
      refine ⟨a, ps, ws, rfl, h2, e2, fun p hp => ?_⟩
      refine aft_from s1 hQ _ _ (L1 ++ [p]) _ _ hΦ (Step.lay hp) (m1.lay hp ⟨_, upd_same, KRep.fold g.fac.txt (KRep.step (Step.lay hp) _ _ e3) rfl⟩) ⟨p, rfl, ?_⟩
      rw [← m1.len]
      simp
    | [], _, h => cases h
    | _ :: _ :: _, _, h => cases h
    | [_], _ :: _, h => cases h
  | _ => cases h
theorem pyL_ints (t : Tb) : ∀ ns : List Int, toPyL t (ns.map D.int) = ns.map PyData.int
  | [] => rfl
  | n :: ns => congrArg (PyData.int n :: ·) (pyL_ints t ns)
def ipD (p : Int × List Int) : D := .tup [.int p.1, .tup (p.2.map D.int)]
def ipP (p : Int × List Int) : Int × PyData := (p.1, .tuple (p.2.map PyData.int))
theorem pyL_ps (t : Tb) : ∀ ps : List (Int × List Int), toPyL t (ps.map ipD) = (ps.map ipP).map tpD
  | [] => rfl
  | p :: ps => by
    show toPy t (ipD p) :: toPyL t (ps.map ipD) = tpD (ipP p) :: (ps.map ipP).map tpD
    rw [pyL_ps t ps]
    have e : toPy t (ipD p) = tpD (ipP p) := by
      show PyData.tuple [.int p.1, .tuple (toPyL t (p.2.map D.int))] = _
      rw [pyL_ints]; rfl
    rw [e]
theorem alike_ints : ∀ a b : List Int, PySem.W.alikeAll (a.map PyData.int) (b.map PyData.int) = true
  | [], _ => by simp [PySem.W.alikeAll]
  | _ :: _, [] => by simp [PySem.W.alikeAll]
  | x :: a, y :: b => by
    have := alike_ints a b
    simp [PySem.W.alikeAll, PySem.W.alike, this]
theorem alike_ps (ps : List (Int × List Int)) : PySem.W.AlikeAll ((ps.map ipP).map tpD) := by
  refine ⟨fun x hx y hy => ?_, fun x hx => ?_⟩
  · rw [List.map_map] at hx hy
    obtain ⟨p, _, rfl⟩ := List.mem_map.mp hx
    obtain ⟨q, _, rfl⟩ := List.mem_map.mp hy
    show PySem.W.alike (.tuple [.int p.1, .tuple (p.2.map PyData.int)]) (.tuple [.int q.1, .tuple (q.2.map PyData.int)]) = true
    simp [PySem.W.alikeAll, PySem.W.alike, alike_ints]
  · rw [List.map_map] at hx
    obtain ⟨p, _, rfl⟩ := List.mem_map.mp hx
    exact fun z => by cases z
theorem ip_flat (ps : List (Int × List Int)) : ∀ d ∈ ps.map ipD, d.flat 20 = true := fun d hd => by
  obtain ⟨p, _, rfl⟩ := List.mem_map.mp hd
  have h : ∀ (k : Nat) (ns : List Int), D.flat (k + 1) (.tup (ns.map D.int)) = true := fun k ns => by
    show (ns.map D.int).all (D.flat k) = true
    rw [List.all_eq_true]
    intro z hz
    obtain ⟨w, _, rfl⟩ := List.mem_map.mp hz
    cases k <;> rfl
  show (D.flat 19 (.int p.1) && (D.flat 19 (.tup (p.2.map D.int)) && true)) = true
  rw [h 18]; rfl
theorem s_mint (ha : SE t u C a) : SE t u C (.mint a) := fun W c X x g h => by
  cases x with
  | Call fn as kws pos =>
    match as, kws, h with
    | [l], [], h =>
      have h : (isNm "min" c.sc fn && notStar l && chkE t c a l) = true := h
      simp only [Bool.and_eq_true] at h
      obtain ⟨⟨h1, h2⟩, h3⟩ := h
      obtain ⟨p, rfl, hg⟩ := isNm_of h1
      refine (pe_callB (call_minT g.calm g.hu) (g.gl hg) (g.bl (by decide)) (by decide +kernel) (pa_cons (ha W c X l g h3) pa_nil (star_ns h2)) (by decide) (by decide) (star_ns h2) rfl).imp fun σ H Q hh => ?_
      obtain ⟨F, L, env, M, Φ, Ξ, he, hm, hw, hQ, hX⟩ := hh
      refine ⟨F, L, env, M, _, Ξ, he, hm, hw, fun x M1 L1 H1 v h1 s1 m1 r1 => ?_, hX⟩
      obtain ⟨ds, a, vs, rfl, h2, r, ps, hne, rfl, hΦ⟩ := ifLst_rep m1 r1 h1
      have r : VRepL t u _ L1 H1 (ps.map ipD) vs := r
      rw [g.K]
      have hd := dpAll_of g.fac.txt 20 (ps.map ipD) vs (ip_flat ps) r
      have hc := canLayAll_of g.fac.txt 20 (ps.map ipD) vs (ip_flat ps) r
      rw [pyL_ps] at hd hc
      refine ⟨a, vs, ps.map ipP, rfl, h2, hd, by simpa using hne, ?_, alike_ps ps, fun i v q hv hq hmin => ?_⟩
      · unfold SeqAt.shaped
        have e1 : (PyData.list ((ps.map ipP).map tpD)).canLay0 = true := by simpa [PyData.canLay0] using hc.1
        have e2 : (PyData.list ((ps.map ipP).map tpD)).depth ≤ 64 := by simp only [PyData.depth]; omega
        rw [e1, decide_eq_true e2]
        rfl
      · rw [List.getElem?_map] at hq
        obtain ⟨p', hp', rfl⟩ := Option.map_eq_some_iff.mp hq
        obtain ⟨w, hw', rw'⟩ := r.get (d := ipD p') (i := i) (by rw [List.getElem?_map, hp']; rfl)
        rw [hv] at hw'
        obtain rfl : v = w := Option.some.inj hw'
        have hmem : p' ∈ ps := List.mem_of_getElem? hp'
        exact aft_same m1 (hΦ p' hmem fun q hq => hmin (ipP q) (List.mem_map_of_mem hq)) (aft_from s1 hQ) rw'
    | [], _, h => cases h
    | _ :: _ :: _, _, h => cases h
    | [_], _ :: _, h => cases h
  | _ => cases h
theorem s_lset (ha : SE t u C a) : SE t u C (.lset a) := fun W c X x g h => by
  cases x with
  | Call fn as kws pos =>
    match as, kws, h with
    | [y], [], h =>
      cases y with
      | Call fn' as' kws' pos' =>
        match as', kws', h with
        | [l], [], h =>
          have h : (isNm "len" c.sc fn && isNm "set" c.sc fn' && notStar l && chkE t c a l) = true := h
          simp only [Bool.and_eq_true] at h
          obtain ⟨⟨⟨h1, h1'⟩, h2⟩, h3⟩ := h
          obtain ⟨p, rfl, hg⟩ := isNm_of h1
          obtain ⟨p', rfl, hg'⟩ := isNm_of h1'
          refine (pe_lset (g.gl hg) (g.bl (by decide)) (g.gl hg') (g.bl (by decide)) (ha W c X l g h3) g.calm (star_ns h2)).imp fun σ H Q hh => ?_
          obtain ⟨F, L, env, M, Φ, Ξ, he, hm, hw, hQ, hX⟩ := hh
          refine ⟨F, L, env, M, _, Ξ, he, hm, hw, fun x M1 L1 H1 v k1 s1 m1 r1 => ?_, hX⟩
          obtain ⟨ds, b, vs, rfl, k2, r, ns, rfl, k3, k4⟩ := ifLst_rep m1 r1 k1
          obtain rfl := r.ints
          rw [g.K]
          exact ⟨b, ns, rfl, k2, k3, aft_same m1 (d := .int ((dist [] ns).length : Nat)) k4 (aft_from s1 hQ) rfl⟩
        | [], _, h => cases h
        | _ :: _ :: _, _, h => cases h
        | [_], _ :: _, h => cases h
      | _ => cases h
    | [], _, h => cases h
    | _ :: _ :: _, _, h => cases h
    | [_], _ :: _, h => cases h
  | _ => cases h
theorem s_dict (hs : SK t u C es) : SE t u C (.dict es) := fun W c X x g h => by
  cases x with
  | Dict ks vs pos =>
    have h : (decide (ks.length ≤ 15) && chkK t c es ks vs) = true := h
    simp only [Bool.and_eq_true, decide_eq_true_eq] at h
    obtain ⟨h1, h2⟩ := h
    obtain ⟨trs, p, q, e1, e2⟩ := hs W c X ks vs pos g h2
    have main : ∀ σ H Q, tW t u C W (.dict es) σ H Q → ∀ z, H z = none → tPairs trs σ (upd H z (.dK [])) fun ps H2 => H2 z = some (.dK []) ∧ ∃ kvs : List (Key × V), ps = kvs.map (fun kv => (kV kv.1, kv.2)) ∧ kvs.length ≤ 15 ∧ Q (.ref z) (upd H2 z (.dK (mergeK [] kvs))) := fun σ H Q hh z hz => by
      obtain ⟨F, L, env, M, Φ, Ξ, he, hm, hw, hQ, hX⟩ := hh
      refine q σ _ _ ⟨z :: F, L, env, M, _, Ξ, he.openF hz, hm.openF hz, hw, fun ps M2 L2 H2 kvs k2 s2 m2 r2 => ?_, bad_open hz hX⟩
      have hzF := hm.ninF hz
      have hzL := hm.nin hz
      obtain ⟨k1, k2⟩ := k2
      refine ⟨(s2.keep z _ upd_same hzL).1, kvs, rfl, by rw [← KRep.len r2]; exact k1, ?_⟩
      have e3 : (L2 ++ [z])[M2.length]? = some z := by rw [← m2.len]; simp
      refine hQ _ _ (L2 ++ [z]) _ _ k2 (Step.finL hz s2) (m2.layF hzF ⟨_, upd_same, ?_⟩) ⟨z, rfl, e3⟩
      exact KRep.fold g.fac.txt (KRep.mapV (fun d v h => h.go goLay) _ _ r2) rfl
    by_cases h0 : ks = []
    · subst h0
      have : vs = [] := by
        rw [List.length_nil] at e2
        exact List.eq_nil_of_length_eq_zero e2.symm
      subst this
      have e5 : es = .nil := by
        cases es <;> first | rfl | cases h2
      subst e5
      refine pe_dnewK.imp fun σ H Q hh => ?_
      obtain ⟨F, L, env, M, Φ, Ξ, he, hm, hw, hQ, hX⟩ := hh
      intro z hz
      have hw : ([] : List (Ky × D)).length ≤ 15 ∧ Φ (D.ref M.length) (M ++ [O.dct []]) := hw
      obtain ⟨k1, k2⟩ := hw
      exact hQ _ _ (L ++ [z]) _ _ k2 (Step.lay hz) (hm.lay hz ⟨[], upd_same, rfl⟩) ⟨z, rfl, by rw [← hm.len]; simp⟩
    · exact (pe_disp p e1 e2 h0 h1).imp main
  | _ => cases h
end
end Z
set_option Elab.async false
set_option linter.all false
set_option maxRecDepth 100000
set_option maxHeartbeats 1000000
namespace Z
open PySem PySem.Spec PyProof.Rows L2
section
variable {t : Tb} {u : At} {C : Calls} {a b d e r es : E}
theorem ix_seq {n k : Nat} {i : Int} (h : ix? n i = some k) : seqIndex? i n = some k ∧ k < n ∧ -(n : Int) ≤ i ∧ i < n := by
  unfold ix? at h
  have fin : ∀ j : Int, (if i < 0 then i + (n : Int) else i) = j → 0 ≤ j → j < n → seqIndex? i n = some j.toNat := fun j e h1 h2 => by
    unfold seqIndex?
    simp only [e]
    rw [if_pos (by rw [decide_eq_true h1, decide_eq_true h2]; rfl)]
  by_cases h1 : 0 ≤ i
  · rw [if_pos h1] at h
    by_cases h2 : i < n
    · rw [if_pos h2] at h
      cases h
      exact ⟨fin i (if_neg (by omega)) h1 h2, by omega, by omega, h2⟩
    · rw [if_neg h2] at h; cases h
  · rw [if_neg h1] at h
    by_cases h2 : -(n : Int) ≤ i
    · rw [if_pos h2] at h
      cases h
      exact ⟨fin _ (if_pos (by omega)) (by omega) (by omega), by omega, h2, by omega⟩
    · rw [if_neg h2] at h; cases h
theorem VRepL.one {F L : List Addr} {H : Hp} {y : D} {vs : List V} (h : VRepL t u F L H [y] vs) : ∃ w, vs = [w] ∧ VRep t u F L H y w := by
  obtain ⟨w, r, e, h1, h2⟩ := h
  have h2 : r = [] := h2
  subst h2
  exact ⟨w, e, h1⟩
theorem VRepL.two {F L : List Addr} {H : Hp} {y z : D} {vs : List V} (h : VRepL t u F L H [y, z] vs) : ∃ w x, vs = [w, x] ∧ VRep t u F L H y w ∧ VRep t u F L H z x := by
  obtain ⟨w, r, e, h1, h2⟩ := h
  obtain ⟨x, e2, h3⟩ := VRepL.one h2
  subst e2
  exact ⟨w, x, e, h1, h3⟩
def bmTy : BM → String
  | .dpop => "dict" | .get => "dict" | .tcount => "tuple" | .tindex => "tuple" | _ => "list"
def bmTyP (K : PySem.W.Frag) (k : BM) (v : V) (H : Hp) : Prop := match k with
  | .tcount => ∃ a ys, v = .ref a ∧ FT H a ys
  | .tindex => ∃ a ys, v = .ref a ∧ FT H a ys
  | k => tyV K (bmTy k) v H
def rGet2 : V → List V → Hp → VK → Prop := fun x vs H Q => ∃ a y z o, x = .ref a ∧ vs = [y, z] ∧ DGet H a y o ∧ Q (o.getD z) H
theorem mt_get2 {X : Cx} (hu : X.A.units + 1 < cLine) : MtR X "dict.get" rGet2 := by
  intro pins s σ H x vs v us Q I rx rv h
  obtain ⟨a, y, z, o, rfl, rfl, g, q⟩ := h
  obtain rfl : v = .ref a := rx
  obtain ⟨w1, w2, rfl, r1, r2⟩ := rv.two
  exact d_get2 hu I g r1 r2 fun w' s' I' r' => ⟨_, H, I', r', q⟩
def rDPop : V → List V → Hp → VK → Prop := fun x vs H Q => ∃ a kvs k v, x = .ref a ∧ vs = [kV k] ∧ H a = some (.dK kvs) ∧ valV kvs k = some v ∧ Q v (upd H a (.dK (dropK kvs k)))
theorem mt_dpop {X : Cx} : MtR X "dict.pop" rDPop := by
  intro pins s σ H x vs v us Q I rx rv h
  obtain ⟨a, kvs, k, v', rfl, rfl, e, l, q⟩ := h
  obtain rfl : v = .ref a := rx
  obtain ⟨w1, rfl, r1⟩ := rv.one
  exact d_pop I e r1 l (.inl rfl) fun w' s' I' r' => ⟨_, _, I', r', q⟩
def rCntF : V → List V → Hp → VK → Prop := fun x vs H Q => ∃ (p : Addr) (ys : List V) (y : V), x = V.ref p ∧ vs = [y] ∧ H p = some (.lst ys) ∧ flatV y = true ∧ ys.all flatV = true ∧ Q (.int (ys.countP fun z => eqV z y : Nat)) H
theorem count_eqU {x : V} : ∀ {xs : List V} {us : List Value}, Vals xs us → xs.all flatV = true → us.countP (eqU x) = xs.countP fun y => eqV y x
  | _, _, .nil, _ => rfl
  | y :: xs, u :: us, .cons r t, f => by
    rw [List.all_cons, Bool.and_eq_true] at f
    rw [List.countP_cons, List.countP_cons, eqU_of r f.1, count_eqU t f.2]
theorem mt_cntF {X : Cx} : MtR X "list.count" rCntF := by
  intro pins s σ H x xs v us Q I rx rxs h
  obtain ⟨p, ys, y, rfl, rfl, hp, fy, fys, q⟩ := h
  cases rx
  obtain ⟨u, rfl, ry⟩ := rxs.one
  obtain ⟨its, rv, ⟨⟨cls, dd, data, sl⟩, n, ho, hc, hdn, hd⟩, hlen⟩ := I.list (show SqL X.K H p ys from .inl (.inl hp))
  simp only at hc hd
  subst hc hd
  refine call_meets PySem.F.slot_list_count ⟨_, ho, rfl⟩ PySem.F.entry_list_count (PySem.F.args_list_count_2 _ _)
    (SeqAt.list_countAt p its.toArray n dd sl u (eqU y)) ⟨ho, fun w hw => mem_eqAt ry fy rv fys w (by simpa using hw), ?_⟩
  refine ⟨.int (ys.countP fun z => eqV z y : Nat), H, I.tok _, ⟨s.toks, ?_⟩, q⟩
  show Value.int ((its.toArray.toList.countP (eqU y) : Nat) : Int) s.toks = _
  rw [← count_eqU rv fys]
def rBM (K : PySem.W.Frag) : BM → V → List V → Hp → VK → Prop
  | .append => rAppend | .lpop => rPopAt | .lpop0 => rPop | .dpop => rDPop | .get => rGet2 | .extend => rExtend | .lcount => rCntF | .tcount => rTcn K | .tindex => rTix K | .remove => rRemF K
  | _ => fun _ _ _ _ => False
theorem bmT_ok {F L : List Addr} {H : Hp} {M : Mem} {x : D} {v : V} (m : MRep t u F L H M) (r : VRep t u F L H x v) (k : BM) {P : Prop} (hb : (bmA k).isSome = true) (h : bmT k M x P) : bmTyP u.K k v H ∧ P := by
  have lsts : ifLs M x (fun _ => P) → tyV u.K "list" v H ∧ P := fun h => by
    obtain ⟨ds, a, vs, rfl, h1, _, p⟩ := ifLs_rep m r h
    exact ⟨.inl ⟨rfl, vs, .inl (.inl h1)⟩, p⟩
  have dcts : ifRef x (fun n => ifK M n fun _ => P) → tyV u.K "dict" v H ∧ P := fun h => by
    obtain ⟨n, rfl, h⟩ := ifRef_ex h
    obtain ⟨kvs, h1, p⟩ := ifK_ex h
    obtain ⟨a, ws, rfl, _, h2, _⟩ := ref_dc m r h1
    exact ⟨.inr (.inr (.inl ⟨rfl, .inl ⟨ws, h2⟩⟩)), p⟩
  cases k with
  | append => exact lsts h
  | lpop => exact lsts h
  | lpop0 => exact lsts h
  | dpop => exact dcts h
  | get => exact dcts h
  | extend => exact lsts h
  | lcount => exact lsts h
  | remove => exact lsts h
  | tcount =>
    obtain ⟨ds, rfl, p⟩ := ifTup_ex h
    obtain ⟨a, vs, rfl, h1, _⟩ := r
    exact ⟨⟨a, vs, rfl, h1⟩, p⟩
  | tindex =>
    obtain ⟨ds, rfl, p⟩ := ifTup_ex h
    obtain ⟨a, vs, rfl, h1, _⟩ := r
    exact ⟨⟨a, vs, rfl, h1⟩, p⟩
  | _ => cases hb
theorem itn_of (K : TxtOk t) {F L : List Addr} {H : Hp} {d : D} {v : V} (f : d.flat 18 = true) (r : VRep t u F L H d v) : ItN u.K H v ∧ isN v = d.isNon := by
  refine ⟨⟨toPy t d, dp_of K 18 d v f r, ?_⟩, ?_⟩
  · obtain ⟨a, b⟩ := canLay_of K 18 d v f r
    exact Bool.and_eq_true_iff.mpr ⟨a, decide_eq_true (by omega)⟩
  · cases d with
    | non => obtain rfl : v = .non := r; rfl
    | bl b => obtain rfl : v = .bl b := r; rfl
    | int i => obtain rfl : v = .int i := r; rfl
    | str n => obtain ⟨z, _, rfl⟩ := r; rfl
    | tup ds => obtain ⟨a, vs, rfl, _⟩ := r; rfl
    | lst ds => obtain ⟨a, vs, rfl, _⟩ := r; rfl
    | scr ds => obtain ⟨a, vs, rfl, _⟩ := r; rfl
    | rep n => obtain rfl : v = .str (toPy t n).shown := r; rfl
    | ref n => obtain ⟨a, rfl, _⟩ := r; rfl
theorem itn_all (K : TxtOk t) {F L : List Addr} {H : Hp} : ∀ {ds : List D} {ws : List V}, (∀ d ∈ ds, d.flat 18 = true) → VRepL t u F L H ds ws → (∀ w ∈ ws, ItN u.K H w) ∧ ws.countP isN = ds.countP D.isNon
  | [], ws, _, r => by
    obtain rfl : ws = [] := r
    exact ⟨fun _ h => (by cases h), rfl⟩
  | d :: ds, ws, f, r => by
    obtain ⟨v, r', rfl, h1, h2⟩ := r
    obtain ⟨a1, a2⟩ := itn_of K (f d List.mem_cons_self) h1
    obtain ⟨b1, b2⟩ := itn_all K (fun e he => f e (List.mem_cons_of_mem _ he)) h2
    refine ⟨fun w hw => ?_, by rw [List.countP_cons, List.countP_cons, b2, a2]⟩
    rcases List.mem_cons.mp hw with rfl | hw
    · exact a1
    · exact b1 w hw
theorem itn_ix (K : TxtOk t) {F L : List Addr} {H : Hp} {ds : List D} {ws : List V} (f : ∀ d ∈ ds, d.flat 18 = true) (r : VRepL t u F L H ds ws) {m : Nat} (h : ws[m]? = some .non) : ds[m]? = some .non := by
  obtain ⟨d, hd, rd⟩ := r.getV h
  have := (itn_of K (f d (List.mem_of_getElem? hd)) rd).2
  cases d with
  | non => exact hd
  | _ => cases this
theorem tc_ex {ys : List D} {A : Prop} (h : (match ys with | [.non] => A | _ => False)) : ys = [.non] ∧ A := by
  cases ys with
  | nil => exact h.elim
  | cons y r =>
    cases r with
    | nil =>
      cases y with
      | non => exact ⟨rfl, h⟩
      | _ => exact h.elim
    | cons _ _ => cases y <;> exact h.elim
theorem one_ex {ys : List D} {A : D → Prop} (h : (match ys with | [y] => A y | _ => False)) : ∃ y, ys = [y] ∧ A y := by
  cases ys with
  | nil => exact h.elim
  | cons y r =>
    cases r with
    | nil => exact ⟨y, rfl, h⟩
    | cons _ _ => exact h.elim
theorem bmD_ok (K : TxtOk t) {F L : List Addr} {H : Hp} {M : Mem} {x : D} {v : V} {ys : List D} {vs : List V} {Φ : VQ} {Q : VK} (hz : Sized u.K H) (m : MRep t u F L H M) (r : VRep t u F L H x v) (rs : VRepL t u F L H ys vs) (k : BM) (h : bmD k M x ys Φ) (hQ : Aft t u F L H Φ Q) : rBM u.K k v vs H Q := by
  cases k with
  | append =>
    obtain ⟨n, rfl, h⟩ := ifRef_ex h
    obtain ⟨ds, h1, h⟩ := ifL_ex h
    obtain ⟨p, ws, rfl, hn, hp, rr⟩ := ref_ls m r h1
    match ys, rs, h with
    | [y], rs, h =>
      obtain ⟨w, rfl, rw'⟩ := rs.one
      obtain ⟨h2, h3⟩ := h
      refine ⟨p, ws, w, rfl, rfl, hp, by rw [szL, ← VRepL.len _ _ rr]; exact h2, ?_⟩
      have st : Step L H L (upd H p (.lst (ws ++ [w]))) := Step.mut (List.mem_of_getElem? hn)
      exact hQ _ _ L _ _ h3 st (m.mut hn ⟨_, upd_same, VRepL.step st _ _ (rr.app ⟨w, [], rfl, rw', rfl⟩)⟩) rfl
  | lpop =>
    obtain ⟨n, rfl, h⟩ := ifRef_ex h
    obtain ⟨ds, h1, h⟩ := ifL_ex h
    obtain ⟨p, ws, rfl, hn, hp, rr⟩ := ref_ls m r h1
    match ys, rs, h with
    | [y], rs, h =>
      obtain ⟨w, rfl, rw'⟩ := rs.one
      obtain ⟨i, rfl, k, y, h2, h3, h4⟩ := ifInt_ex h
      obtain rfl : w = .int i := rw'
      obtain ⟨q1, q2, q3, q4⟩ := ix_seq h2
      obtain ⟨v', hv, rv⟩ := rr.get h3
      have hl := VRepL.len _ _ rr
      have hzz := hz p ws (.inl (.inl (.inl hp)))
      have := line63
      have hsz := szL
      have hsz2 : sz = 16777216 := rfl
      refine ⟨p, ws, i, k, v', rfl, rfl, hp, by omega, by omega, by rw [← hl]; exact q1, hv, ?_⟩
      have st : Step L H L (upd H p (.lst (ws.eraseIdx k))) := Step.mut (List.mem_of_getElem? hn)
      exact hQ _ _ L _ _ h4 st (m.mut hn ⟨_, upd_same, VRepL.step st _ _ (rr.erase k)⟩) (VRep.step st _ _ rv)
  | lpop0 =>
    obtain ⟨n, rfl, h⟩ := ifRef_ex h
    obtain ⟨ds, h1, h⟩ := ifL_ex h
    obtain ⟨p, ws, rfl, hn, hp, rr⟩ := ref_ls m r h1
    match ys, rs, h with
    | [], e, ⟨y, h3, h4⟩ =>
      obtain rfl : vs = [] := e
      obtain ⟨v', hv, rv⟩ := rr.get h3
      have hl := VRepL.len _ _ rr
      refine ⟨p, ws, v', rfl, rfl, hp, by rw [← hl]; exact hv, ?_⟩
      have st : Step L H L (upd H p (.lst ws.dropLast)) := Step.mut (List.mem_of_getElem? hn)
      exact hQ _ _ L _ _ h4 st (m.mut hn ⟨_, upd_same, VRepL.step st _ _ rr.dropLast⟩) (VRep.step st _ _ rv)
  | dpop =>
    obtain ⟨n, rfl, h⟩ := ifRef_ex h
    obtain ⟨kvs, h1, h⟩ := ifK_ex h
    obtain ⟨p, ws, rfl, hn, hp, rr⟩ := ref_dc m r h1
    match ys, rs, h with
    | [y], rs, h =>
      obtain ⟨w, rfl, rw'⟩ := rs.one
      obtain ⟨k, hk, dd, h2, h3⟩ := ifKy_ex h
      obtain ⟨k', hk', rfl⟩ := ky_of rw' hk
      obtain ⟨v', hv, rv⟩ := (kget_ok K hk' rr).1 dd h2
      refine ⟨p, ws, k', v', rfl, rfl, hp, hv, ?_⟩
      have st : Step L H L (upd H p (.dK (dropK ws k'))) := Step.mut (List.mem_of_getElem? hn)
      exact hQ _ _ L _ _ h3 st (m.mut hn ⟨_, upd_same, KRep.step st _ _ (KRep.drop K hk' rr)⟩) (VRep.step st _ _ rv)
  | get =>
    obtain ⟨n, rfl, h⟩ := ifRef_ex h
    obtain ⟨kvs, h1, h⟩ := ifK_ex h
    obtain ⟨p, ws, rfl, hn, hp, rr⟩ := ref_dc m r h1
    match ys, rs, h with
    | [y, z], rs, h =>
      obtain ⟨w, w2, rfl, rw', rw2⟩ := rs.two
      obtain ⟨k, hk, h2⟩ := ifKy_ex h
      obtain ⟨k', hk', rfl⟩ := ky_of rw' hk
      have kk := kget_ok K hk' rr
      refine ⟨p, kV k', w2, valV ws k', rfl, rfl, .inl ⟨ws, k', .inl hp, rfl, rfl⟩, ?_⟩
      cases e : kget kvs k with
      | none =>
        rw [e] at h2
        rw [kk.2 e]
        exact aft_same m h2 hQ rw2
      | some dd =>
        rw [e] at h2
        obtain ⟨v', hv, rv⟩ := kk.1 dd e
        rw [hv]
        exact aft_same m h2 hQ rv
  | extend =>
    obtain ⟨n, rfl, h⟩ := ifRef_ex h
    obtain ⟨ds, h1, h⟩ := ifL_ex h
    obtain ⟨p, ws, rfl, hn, hp, rr⟩ := ref_ls m r h1
    match ys, rs, h with
    | [y], rs, h =>
      obtain ⟨w, rfl, rw'⟩ := rs.one
      obtain ⟨es, b, zs, rfl, hb, rz, h2, h3⟩ := ifLs_rep m rw' h
      refine ⟨p, b, ws, zs, rfl, rfl, hp, hb, by rw [szL, ← VRepL.len _ _ rr, ← VRepL.len _ _ rz]; exact h2, ?_⟩
      have st : Step L H L (upd H p (.lst (ws ++ zs))) := Step.mut (List.mem_of_getElem? hn)
      exact hQ _ _ L _ _ h3 st (m.mut hn ⟨_, upd_same, VRepL.step st _ _ (rr.app rz)⟩) rfl
  | lcount =>
    obtain ⟨ds, p, ws, rfl, hp, rr, h⟩ := ifLs_rep m r h
    match ys, rs, h with
    | [y], rs, h =>
      obtain ⟨w, rfl, rw'⟩ := rs.one
      obtain ⟨f1, f2, h3⟩ := h
      refine ⟨p, ws, w, rfl, rfl, hp, atom_flat f1 rw', atoms_flat f2 rr, ?_⟩
      have cnt : ∀ (ds : List D) (ws : List V), ds.all D.atom = true → VRepL t u F L H ds ws → ws.countP (fun z => eqV z w) = ds.countP fun z => z.eqv y := by
        intro ds
        induction ds with
        | nil =>
          intro ws _ q
          obtain rfl : ws = [] := q
          rfl
        | cons d ds ih =>
          intro ws f q
          obtain ⟨v, rest, rfl, q1, q2⟩ := q
          rw [List.all_cons, Bool.and_eq_true] at f
          rw [List.countP_cons, List.countP_cons, ih rest f.2 q2, atom_eqV K f.1 f1 q1 rw']
      rw [cnt ds ws f2 rr]
      exact aft_same m (d := .int _) h3 hQ rfl
  | remove =>
    obtain ⟨n, rfl, h⟩ := ifRef_ex h
    obtain ⟨ds, h1, h⟩ := ifL_ex h
    obtain ⟨p, ws, rfl, hn, hp, rr⟩ := ref_ls m r h1
    obtain ⟨y, rfl, fy, fd, j, hj, hit, hno, h2⟩ := one_ex h
    obtain ⟨w, rfl, rw'⟩ := rs.one
    have hl := VRepL.len _ _ rr
    have st : Step L H L (upd H p (.lst (ws.eraseIdx j))) := Step.mut (List.mem_of_getElem? hn)
    refine ⟨p, ws, w, toPy t y, fun k => match ds[k]? with | some z => z.eqv y | none => false, j, rfl, rfl, hp, dp_of K 20 y w fy rw', shaped_of K fy rw', fun k z hz => ?_, by omega, ?_, fun k hk => ?_, ?_⟩
    · obtain ⟨d, hd, rd⟩ := rr.getV hz
      have fd' := fd d (List.mem_of_getElem? hd)
      refine ⟨toPy t d, dp_of K 20 d z fd' rd, shaped_of K fd' rd, ?_⟩
      dsimp only
      rw [hd]
      exact eqv_of K 20 20 d y z w fd' fy rd rw'
    · dsimp only
      rw [List.getElem?_eq_getElem hj]
      exact hit _ (List.getElem?_eq_getElem hj)
    · dsimp only
      rw [List.getElem?_eq_getElem (show k < ds.length by omega)]
      exact hno k _ hk (List.getElem?_eq_getElem (show k < ds.length by omega))
    · exact hQ _ _ L _ _ h2 st (m.mut hn ⟨_, upd_same, VRepL.step st _ _ (rr.erase j)⟩) rfl
  | tcount =>
    obtain ⟨ds, rfl, h⟩ := ifTup_ex h
    obtain ⟨p, ws, rfl, h1, _, _, rr⟩ := r
    obtain ⟨rfl, f, h2⟩ := tc_ex h
    obtain ⟨w, rfl, rw'⟩ := rs.one
    obtain rfl : w = .non := rw'
    obtain ⟨q1, q2⟩ := itn_all K f rr
    have h3 : Q (.int (ws.countP isN : Nat)) H := by
      rw [q2]
      exact aft_same m (d := .int _) h2 hQ rfl
    exact ⟨p, ws, rfl, rfl, h1.sq, q1, h3⟩
  | tindex =>
    obtain ⟨ds, rfl, h⟩ := ifTup_ex h
    obtain ⟨p, ws, rfl, h1, _, _, rr⟩ := r
    obtain ⟨rfl, f, j, hj, hno, h2⟩ := tc_ex h
    obtain ⟨w, rfl, rw'⟩ := rs.one
    obtain rfl : w = .non := rw'
    obtain ⟨q1, q2⟩ := itn_all K f rr
    obtain ⟨v, hv, rv⟩ := rr.get hj
    obtain rfl : v = .non := rv
    exact ⟨p, ws, j, rfl, rfl, h1.sq, q1, hv, fun m hm e => hno m hm (itn_ix K f rr e), aft_same m (d := .int _) h2 hQ rfl⟩
  | _ => exact (show False from h).elim
theorem _root_.L2.PA.sized {X : Cx} {es : List Expr} {ta : TA} (h : PA X es ta) : PA X es (fun σ H Q => ta σ H fun vs H' => Sized X.K H' → Q vs H') := by
  refine ⟨fun pos pins s σ H Q I q => thn (h.run pos pins s σ H _ I q) fun us s1 ⟨vs, H1, I1, r1, q1⟩ => ⟨vs, H1, I1, r1, q1 I1.sized⟩⟩
theorem _root_.L2.PE.sized {X : Cx} {e : Expr} {te : TE} (h : PE X e te) : PE X e (fun σ H Q => te σ H fun v H' => Sized X.K H' → Q v H') := by
  refine ⟨fun pins s σ H Q I q => thn (h.run pins s σ H _ I q) fun us s1 ⟨vs, H1, I1, r1, q1⟩ => ⟨vs, H1, I1, r1, q1 I1.sized⟩⟩
theorem mt_bm {X : Cx} (hu : X.A.units + 65 < cLine) (k : BM) {o : Expr} {es : List Expr} {to : TE} {ta : TA} {ap cp : Pos} (ho : PE X o to) (ha : PA X es ta) (hn : bmA k = some es.length) (ns : notSup o = true) (hl : lineOk ap cp = true) (hs : ∀ z ∈ es, notStar z = true)
    (h0 : es = [] → ∀ σ H Q, (to σ H fun x H1 => bmTyP X.K k x H1 ∧ ta σ H1 fun vs H2 => Sized X.K H2 → rBM X.K k x vs H2 Q) → to σ H fun x H1 => Sized X.K H1 → bmTyP X.K k x H1 ∧ rBM X.K k x [] H1 Q) :
    PE X (.Call (.Attribute o (bmN k) ap) es [] cp) (fun σ H Q => to σ H fun x H1 => bmTyP X.K k x H1 ∧ ta σ H1 fun vs H2 => Sized X.K H2 → rBM X.K k x vs H2 Q) := by
  have few : ∀ (y : Expr) (ys : List Expr), es = y :: ys → ys.length < 5 → ((backTo cp (starEach (y :: ys) X.env)).all (fun x => !x.1) && (backToKw cp (keywordEach [] X.env)).all (fun x => x.1.isSome)
      && decide ((y :: ys).length + ([] : List Keyword).length + (if ([] : List Keyword).isEmpty then 0 else 1) < 30)) = true := fun y ys e h5 => by
    rw [few_ns (by rw [← e]; exact hs)]
    show (true && true && decide ((y :: ys).length + 0 + 0 < 30)) = true
    rw [decide_eq_true (by rw [List.length_cons]; omega)]
    rfl
  cases k with
  | append =>
    match es, ha, hn, hs, few with
    | [y], ha, _, hs, few => exact pe_bm (r := fun x vs H Q => rAppend x vs H Q) PySem.F.plainAttrs_list PySem.F.slot_list_append PySem.F.type_list_append mt_append ho ha.sized (base_ns ns) (few y [] rfl (by decide)) hl (star_ns (hs y List.mem_cons_self)) rfl |>.imp fun σ H Q h => h
    | [], _, hn, _, _ => cases hn
    | _ :: _ :: _, _, hn, _, _ => cases hn
  | lpop =>
    match es, ha, hn, hs, few with
    | [y], ha, _, hs, few => exact pe_bm (r := fun x vs H Q => rPopAt x vs H Q) PySem.F.plainAttrs_list PySem.F.slot_list_pop PySem.F.type_list_pop mt_popAt ho ha.sized (base_ns ns) (few y [] rfl (by decide)) hl (star_ns (hs y List.mem_cons_self)) rfl |>.imp fun σ H Q h => h
    | [], _, hn, _, _ => cases hn
    | _ :: _ :: _, _, hn, _, _ => cases hn
  | lpop0 =>
    match es, ha, hn, h0 with
    | [], ha, _, h0 => exact (pe_bm0 (r := rPop) PySem.F.plainAttrs_list PySem.F.slot_list_pop PySem.F.type_list_pop mt_pop ho.sized (base_ns ns) hl).imp fun σ H Q h => h0 rfl σ H Q h
    | _ :: _, _, hn, _ => cases hn
  | dpop =>
    match es, ha, hn, hs, few with
    | [y], ha, _, hs, few => exact pe_bm (r := fun x vs H Q => rDPop x vs H Q) PySem.F.plainAttrs_dict PySem.F.slot_dict_pop PySem.F.type_dict_pop mt_dpop ho ha.sized (base_ns ns) (few y [] rfl (by decide)) hl (star_ns (hs y List.mem_cons_self)) rfl |>.imp fun σ H Q h => h
    | [], _, hn, _, _ => cases hn
    | _ :: _ :: _, _, hn, _, _ => cases hn
  | extend =>
    match es, ha, hn, hs, few with
    | [y], ha, _, hs, few => exact pe_bm (r := fun x vs H Q => rExtend x vs H Q) PySem.F.plainAttrs_list PySem.F.slot_list_extend PySem.F.type_list_extend mt_extend ho ha.sized (base_ns ns) (few y [] rfl (by decide)) hl (star_ns (hs y List.mem_cons_self)) rfl |>.imp fun σ H Q h => h
    | [], _, hn, _, _ => cases hn
    | _ :: _ :: _, _, hn, _, _ => cases hn
  | lcount =>
    match es, ha, hn, hs, few with
    | [y], ha, _, hs, few => exact pe_bm (r := fun x vs H Q => rCntF x vs H Q) PySem.F.plainAttrs_list PySem.F.slot_list_count PySem.F.type_list_count mt_cntF ho ha.sized (base_ns ns) (few y [] rfl (by decide)) hl (star_ns (hs y List.mem_cons_self)) rfl |>.imp fun σ H Q h => h
    | [], _, hn, _, _ => cases hn
    | _ :: _ :: _, _, hn, _, _ => cases hn
  | get =>
    match es, ha, hn, hs, few with
    | [y, z], ha, _, hs, few => exact pe_bm (r := fun x vs H Q => rGet2 x vs H Q) PySem.F.plainAttrs_dict PySem.F.slot_dict_get PySem.F.type_dict_get (mt_get2 (by omega)) ho ha.sized (base_ns ns) (few y [z] rfl (by show 1 < 5; decide)) hl (star_ns (hs y List.mem_cons_self)) (plain_ns fun q hq => hs q (List.mem_cons_of_mem _ hq)) |>.imp fun σ H Q h => h
    | [], _, hn, _, _ => cases hn
    | [_], _, hn, _, _ => cases hn
    | _ :: _ :: _ :: _, _, hn, _, _ => cases hn
  | remove =>
    match es, ha, hn, hs, few with
    | [y], ha, _, hs, few => exact pe_bm (r := fun x vs H Q => rRemF X.K x vs H Q) PySem.F.plainAttrs_list PySem.F.slot_list_remove PySem.F.type_list_remove (mt_remF hu) ho ha.sized (base_ns ns) (few y [] rfl (by decide)) hl (star_ns (hs y List.mem_cons_self)) rfl |>.imp fun σ H Q h => h
    | [], _, hn, _, _ => cases hn
    | _ :: _ :: _, _, hn, _, _ => cases hn
  | tcount =>
    match es, ha, hn, hs, few with
    | [y], ha, _, hs, few => exact pe_bmF (r := rTcn X.K) PySem.F.slot_tuple_count PySem.F.type_tuple_count (mt_tcn hu) ho ha.sized (base_ns ns) (few y [] rfl (by decide)) hl (star_ns (hs y List.mem_cons_self)) rfl |>.imp fun σ H Q h => h
    | [], _, hn, _, _ => cases hn
    | _ :: _ :: _, _, hn, _, _ => cases hn
  | tindex =>
    match es, ha, hn, hs, few with
    | [y], ha, _, hs, few => exact pe_bmF (r := rTix X.K) PySem.F.slot_tuple_index PySem.F.type_tuple_index (mt_tix hu) ho ha.sized (base_ns ns) (few y [] rfl (by decide)) hl (star_ns (hs y List.mem_cons_self)) rfl |>.imp fun σ H Q h => h
    | [], _, hn, _, _ => cases hn
    | _ :: _ :: _, _, hn, _, _ => cases hn
  | _ => cases hn
theorem s_bm {k : BM} (ho : SE t u C a) (hs : SL t u C es) : SE t u C (.bm k a es) := fun W c X x g h => by
  cases x with
  | Call fn as kws pos =>
    cases fn with
    | Attribute l n ap =>
      cases kws with
      | nil =>
        have h : ((n == bmN k) && (bmA k == some as.length) && notSup l && lineOk ap pos && chkE t c a l && chkL t c es as) = true := h
        simp only [Bool.and_eq_true, beq_iff_eq] at h
        obtain ⟨⟨⟨⟨⟨h1, h2⟩, h3⟩, h4⟩, h5⟩, h6⟩ := h
        subst h1
        have hb : (bmA k).isSome = true := by rw [h2]; rfl
        have read : ∀ σ H Q, tW t u C W (.bm k a es) σ H Q → tW t u C W a σ H fun x H1 => bmTyP X.K k x H1 ∧ tL t u C W es σ H1 fun vs H2 => Sized X.K H2 → rBM X.K k x vs H2 Q := fun σ H Q hh => by
          obtain ⟨F, L, env, M, Φ, Ξ, he, hm, hw, hQ, hX⟩ := hh
          refine ⟨F, L, env, M, _, Ξ, he, hm, hw, fun x M1 L1 H1 v k1 s1 m1 r1 => ?_, hX⟩
          obtain ⟨ty, k2⟩ := bmT_ok m1 r1 k hb k1
          rw [g.K]
          exact ⟨ty, F, L1, env, M1, _, Ξ, he.step s1, m1, k2, fun ds M2 L2 H2 vs k3 s2 m2 r2 hz => bmD_ok g.fac.txt hz m2 (VRep.step s2 _ _ r1) r2 k k3 (aft_from (s1.trans s2) hQ), bad_from s1 hX⟩
        refine (mt_bm g.hu k (ho W c X l g h5) (hs W c X as g h6) h2 h3 h4 (chkL_ns h6) fun e0 σ H Q hh => ?_).imp read
        subst e0
        obtain ⟨F, L, env, M, Φ, Ξ, he, hm, hw, hQ, hX⟩ := hh
        refine ⟨F, L, env, M, Φ, Ξ, he, hm, hw, fun x M1 L1 H1 v k1 s1 m1 r1 hz => ?_, hX⟩
        obtain ⟨q1, q2⟩ := hQ x M1 L1 H1 v k1 s1 m1 r1
        exact ⟨q1, nil_of h6 q2 hz⟩
      | cons _ _ => cases h
    | _ => cases h
  | _ => cases h
end
end Z
set_option Elab.async false
set_option linter.all false
set_option maxRecDepth 100000
set_option maxHeartbeats 1000000
namespace Z
open PySem PySem.Spec PyProof.Rows L2
def SqB (K : PySem.W.Frag) (b : Bool) (H : Hp) (a : Addr) (xs : List V) : Prop := match b with
  | true => SqT K H a xs
  | false => SqL K H a xs
def itS (K : PySem.W.Frag) (b : Bool) (a : Addr) : It := match b with
  | true => Itt K a
  | false => Itl K a
def itE (K : PySem.W.Frag) (b : Bool) (a : Addr) : It := match b with
  | true => IteT K a
  | false => Ite K a
def itZ (K : PySem.W.Frag) (b : Bool) (a c : Addr) : It := match b with
  | true => RZ.ItzT K a c
  | false => Itz K a c
def iSeq (K : PySem.W.Frag) (tl : TE) : TI := fun σ H R => tl σ H fun x H1 => ∃ a xs, x = .ref a ∧ ((SqL K H1 a xs ∧ R (Itl K a) H1) ∨ (SqT K H1 a xs ∧ R (Itt K a) H1))
theorem pi_seq {X : Cx} {tg l : Expr} {tl : TE} (hl : PE X l tl) : PI X tg l (iSeq X.K tl) := by
  refine ⟨fun pins s σ H R I h => ?_⟩
  refine thn (hl.run pins s σ H _ I h) fun v s1 ⟨x, H1, I1, r1, q1⟩ => ?_
  obtain ⟨a, xs, e, q⟩ := q1
  subst e
  cases r1
  rcases q with ⟨hq, q⟩ | ⟨hq, q⟩
  · obtain ⟨its, rv, p, hz⟩ := I1.list hq
    refine wpAny_pyIter_list p.isList ?_
    refine ⟨s1.heap.objs.size, [s1.heap.objs.size], _, _, H1, rfl, I1.kept (t' := s1.toks) fun b o e => Heap.get?_push_of_some _ e, turn_list a _, ⟨_, Heap.get?_push_size _ rfl, rfl, rfl⟩, fun b hb => ?_, q⟩
    have e : b = s1.heap.objs.size := by simpa using hb
    subst e
    exact I1.fpOk (Nat.le_refl _) (I1.hok.fresh (Nat.le_refl _))
  · obtain ⟨its, rv, p, hz⟩ := I1.tuple hq
    refine wpAny_pyIter_tuple (show s1.heap.IsTuple a its.toArray from p) ?_
    refine ⟨s1.heap.objs.size, [s1.heap.objs.size], _, _, H1, rfl, I1.kept (t' := s1.toks) fun b o e => Heap.get?_push_of_some _ e, turn_tuple a _, ⟨_, Heap.get?_push_size _ rfl, rfl, rfl⟩, fun b hb => ?_, q⟩
    have e : b = s1.heap.objs.size := by simpa using hb
    subst e
    exact I1.fpOk (Nat.le_refl _) (I1.hok.fresh (Nat.le_refl _))
section
variable {t : Tb} {u : At} {C : Calls} {a b d e r es : E}
theorem itD_ok {F L : List Addr} {H : Hp} {M : Mem} {x : D} {v : V} {P : List Nat → List D → Prop} (m : MRep t u F L H M) (r : VRep t u F L H x v) (h : itD M x P) :
    ∃ a src ds, v = .ref a ∧ P src ds ∧ ∀ F' L' H' M', Go F L H F' L' H' → MRep t u F' L' H' M' → (∀ n ∈ src, M'[n]? = M[n]?) → ∃ vs, SqB u.K (isTup x) H' a vs ∧ VRepL t u F' L' H' ds vs := by
  cases x with
  | tup ds =>
    obtain ⟨p, vs, rfl, h1, n1, n2, rr⟩ := r
    exact ⟨p, [], ds, rfl, h, fun F' L' H' M' g _ _ => ⟨vs, .inl (let ⟨o, h1, _⟩ := h1; .inr ⟨o, (g.keep p _ h1 n1 n2).1⟩), VRepL.go g _ _ rr⟩⟩
  | lst ds =>
    obtain ⟨p, vs, rfl, h1, n1, n2, rr⟩ := r
    exact ⟨p, [], ds, rfl, h, fun F' L' H' M' g _ _ => ⟨vs, .inl (.inl (g.keep p _ h1 n1 n2).1), VRepL.go g _ _ rr⟩⟩
  | scr ds =>
    obtain ⟨p, vs, rfl, h1, rr⟩ := r
    refine ⟨p, [], ds, rfl, h, fun F' L' H' M' g _ _ => ⟨vs, ?_, VRepL.go g _ _ rr⟩⟩
    rcases h1 with ⟨h1, n1, n2⟩ | h1
    · rcases h1 with h1 | ⟨q, h1⟩
      · exact .inl (.inl (g.keep p _ h1 n1 n2).1)
      · exact .inl (.inr ⟨q, (g.keep p _ h1 n1 n2).1⟩)
    · exact .inr h1
  | ref n =>
    obtain ⟨ds, h1, h2⟩ := ifL_ex h
    obtain ⟨p, rfl, hp⟩ := r
    refine ⟨p, [n], ds, rfl, h2, fun F' L' H' M' g m' e => ?_⟩
    obtain ⟨vs, k1, k2⟩ := m'.ref (g.ref n p hp) (by rw [e n List.mem_cons_self]; exact h1)
    exact ⟨vs, .inl (.inl k1), k2⟩
  | _ => exact (show False from h).elim
theorem SqL.sz {K : PySem.W.Frag} {H : Hp} (z : Sized K H) {b : Bool} {a : Addr} {xs : List V} (h : SqB K b H a xs) : xs.length ≤ sz := by
  rw [← szL]
  cases b with
  | true => exact z a xs (.inr h)
  | false => exact z a xs (.inl h)
theorem itok_seq {pr : Bool} {F L : List Addr} {H : Hp} {M : Mem} {a : Addr} {src : List Nat} {ds : List D} {b : Bool} (h : ∀ F' L' H' M', Go F L H F' L' H' → MRep t u F' L' H' M' → (∀ n ∈ src, M'[n]? = M[n]?) → ∃ vs, SqB u.K b H' a vs ∧ VRepL t u F' L' H' ds vs) :
    ItOk t u pr F L H M src ds (itS u.K b a) := by
  cases b with
  | true =>
    refine ⟨fun F' L' H' M' g m e i hi => ?_, fun F' L' H' M' g m e => ?_⟩
    · obtain ⟨vs, hv, rv⟩ := h F' L' H' M' g m e
      obtain ⟨v, h1, h2⟩ := rv.get (List.getElem?_eq_getElem hi)
      refine ⟨⟨vs, v, hv, h1⟩, fun x H2 y => ?_⟩
      obtain ⟨e2, y⟩ := y
      subst e2
      have hx := y vs hv
      rw [h1] at hx
      obtain rfl : v = x := Option.some.inj hx
      exact ⟨Step.refl, m, fun _ _ => rfl, _, List.getElem?_eq_getElem hi, .inl h2⟩
    · obtain ⟨vs, hv, rv⟩ := h F' L' H' M' g m e
      exact ⟨vs, hv, by rw [← VRepL.len _ _ rv]; exact Nat.le_refl _⟩
  | false =>
    refine ⟨fun F' L' H' M' g m e i hi => ?_, fun F' L' H' M' g m e => ?_⟩
    · obtain ⟨vs, hv, rv⟩ := h F' L' H' M' g m e
      obtain ⟨v, h1, h2⟩ := rv.get (List.getElem?_eq_getElem hi)
      refine ⟨⟨vs, v, hv, h1⟩, fun x H2 y => ?_⟩
      obtain ⟨e2, y⟩ := y
      subst e2
      have hx := y vs hv
      rw [h1] at hx
      obtain rfl : v = x := Option.some.inj hx
      exact ⟨Step.refl, m, fun _ _ => rfl, _, List.getElem?_eq_getElem hi, .inl h2⟩
    · obtain ⟨vs, hv, rv⟩ := h F' L' H' M' g m e
      exact ⟨vs, hv, by rw [← VRepL.len _ _ rv]; exact Nat.le_refl _⟩
theorem itok_rng {pr : Bool} {F L : List Addr} {H : Hp} {M : Mem} {lo : Int} {n : Nat} : ItOk t u pr F L H M [] (rngL lo n) (Itr lo n) := by
  have hl : (rngL lo n).length = n := by rw [rngL_eq, List.length_map, List.length_range]
  refine ⟨fun F' L' H' M' g m e i hi => ?_, fun F' L' H' M' g m e => by rw [hl]; exact Nat.le_refl n⟩
  rw [hl] at hi
  refine ⟨hi, fun x H2 y => ?_⟩
  obtain ⟨rfl, rfl⟩ := y
  refine ⟨Step.refl, m, fun _ _ => rfl, .int (lo + i), ?_, .inl rfl⟩
  rw [rngL_eq, List.getElem?_map, List.getElem?_range hi]
  rfl
theorem pair_ok {F L : List Addr} {H : Hp} {M : Mem} {T : Addr} {d1 d2 : D} {v1 v2 : V} (m : MRep t u F L H M) (hT : H T = none) (r1 : VRep t u F L H d1 v1) (r2 : VRep t u F L H d2 v2) :
    Step L H L (upd H T (.tup [v1, v2])) ∧ MRep t u F L (upd H T (.tup [v1, v2])) M ∧ (∀ p, p ∈ F → upd H T (.tup [v1, v2]) p = H p) ∧ IRep t u true F L (upd H T (.tup [v1, v2])) (.tup [d1, d2]) (.ref T) := by
  have st : Step L H L (upd H T (.tup [v1, v2])) := Step.new hT
  refine ⟨st, m.new hT, fun p hp => upd_ne (fun e => ?_), .inr ⟨rfl, [d1, d2], T, [v1, v2], rfl, rfl, upd_same, m.ninF hT, m.nin hT, v1, [v2], rfl, VRep.step st _ _ r1, v2, [], rfl, VRep.step st _ _ r2, rfl⟩⟩
  exact m.ninF hT (e ▸ hp)
theorem enum_len : ∀ (ds : List D) (k : Nat), (enumFrom k ds).length = ds.length
  | [], _ => rfl
  | _ :: r, k => by show (enumFrom (k + 1) r).length + 1 = _; rw [enum_len r (k + 1)]; rfl
theorem enum_get : ∀ (ds : List D) (k i : Nat) (d : D), ds[i]? = some d → (enumFrom k ds)[i]? = some (.tup [.int ((k + i : Nat) : Int), d])
  | [], _, _, _, h => by simp at h
  | x :: r, k, 0, d, h => by
    have e : x = d := by simpa using h
    subst e
    rfl
  | x :: r, k, i + 1, d, h => by
    have h : r[i]? = some d := by simpa using h
    show (enumFrom (k + 1) r)[i]? = _
    rw [enum_get r (k + 1) i d h]
    show some (D.tup [.int ((k + 1 + i : Nat) : Int), d]) = some (.tup [.int ((k + (i + 1) : Nat) : Int), d])
    have e : k + 1 + i = k + (i + 1) := Nat.add_right_comm k 1 i
    exact congrArg (fun z : Nat => some (D.tup [.int (z : Int), d])) e
theorem itok_enum {F L : List Addr} {H : Hp} {M : Mem} {a : Addr} {src : List Nat} {ds : List D} {b : Bool} (h : ∀ F' L' H' M', Go F L H F' L' H' → MRep t u F' L' H' M' → (∀ n ∈ src, M'[n]? = M[n]?) → ∃ vs, SqB u.K b H' a vs ∧ VRepL t u F' L' H' ds vs) :
    ItOk t u true F L H M src (enumFrom 0 ds) (itE u.K b a) := by
  have main : ∀ F' L' H' M' i (vs : List V) (x : V) (H2 : Hp), MRep t u F' L' H' M' → VRepL t u F' L' H' ds vs → i < ds.length → (∃ T y, x = .ref T ∧ H' T = none ∧ H2 = upd H' T (.tup [.int (i : Nat), y]) ∧ vs[i]? = some y) →
      Step L' H' L' H2 ∧ MRep t u F' L' H2 M' ∧ (∀ p, p ∈ F' → H2 p = H' p) ∧ ∃ d, (enumFrom 0 ds)[i]? = some d ∧ IRep t u true F' L' H2 d x := fun F' L' H' M' i vs x H2 m rv hi y => by
    obtain ⟨T, y, rfl, hT, rfl, hy⟩ := y
    obtain ⟨v, h1, h2⟩ := rv.get (List.getElem?_eq_getElem hi)
    rw [h1] at hy
    obtain rfl : v = y := Option.some.inj hy
    obtain ⟨k1, k2, k3, k4⟩ := pair_ok (d1 := .int (i : Nat)) (v1 := .int (i : Nat)) m hT rfl h2
    refine ⟨k1, k2, k3, _, enum_get ds 0 i _ (List.getElem?_eq_getElem hi), ?_⟩
    rw [Nat.zero_add]
    exact k4
  cases b with
  | true =>
    refine ⟨fun F' L' H' M' g m e i hi => ?_, fun F' L' H' M' g m e => ?_⟩
    · rw [enum_len] at hi
      obtain ⟨vs, hv, rv⟩ := h F' L' H' M' g m e
      obtain ⟨v, h1, h2⟩ := rv.get (List.getElem?_eq_getElem hi)
      refine ⟨⟨vs, v, hv, h1⟩, fun x H2 y => ?_⟩
      obtain ⟨T, y, e1, e2, e3, e4⟩ := y
      exact main F' L' H' M' i vs x H2 m rv hi ⟨T, y, e1, e2, e3, e4 vs hv⟩
    · obtain ⟨vs, hv, rv⟩ := h F' L' H' M' g m e
      exact ⟨vs, hv, by have := VRepL.len _ _ rv; rw [enum_len]; omega⟩
  | false =>
    refine ⟨fun F' L' H' M' g m e i hi => ?_, fun F' L' H' M' g m e => ?_⟩
    · rw [enum_len] at hi
      obtain ⟨vs, hv, rv⟩ := h F' L' H' M' g m e
      obtain ⟨v, h1, h2⟩ := rv.get (List.getElem?_eq_getElem hi)
      refine ⟨⟨vs, v, hv, h1⟩, fun x H2 y => ?_⟩
      obtain ⟨T, y, e1, e2, e3, e4⟩ := y
      exact main F' L' H' M' i vs x H2 m rv hi ⟨T, y, e1, e2, e3, e4 vs hv⟩
    · obtain ⟨vs, hv, rv⟩ := h F' L' H' M' g m e
      exact ⟨vs, hv, by have := VRepL.len _ _ rv; rw [enum_len]; omega⟩
theorem zip_len : ∀ (ds es : List D), (zipD ds es).length = min ds.length es.length
  | [], es => by cases es <;> simp [zipD]
  | a :: r, [] => by simp [zipD]
  | a :: r, b :: s => by show (zipD r s).length + 1 = _; rw [zip_len r s, List.length_cons, List.length_cons]; omega
theorem zip_get : ∀ (ds es : List D) (i : Nat) (d e : D), ds[i]? = some d → es[i]? = some e → (zipD ds es)[i]? = some (.tup [d, e])
  | [], _, _, _, _, h, _ => by simp at h
  | _ :: _, [], _, _, _, _, h => by simp at h
  | x :: r, y :: s, 0, d, e, h, g => by
    have e1 : x = d := by simpa using h
    have e2 : y = e := by simpa using g
    subst e1 e2
    rfl
  | x :: r, y :: s, i + 1, d, e, h, g => by
    have h : r[i]? = some d := by simpa using h
    have g : s[i]? = some e := by simpa using g
    exact zip_get r s i d e h g
theorem itok_zip {F L : List Addr} {H : Hp} {M : Mem} {a c : Addr} {s1 s2 : List Nat} {ds es : List D} {b : Bool}
    (h : ∀ F' L' H' M', Go F L H F' L' H' → MRep t u F' L' H' M' → (∀ n ∈ s1, M'[n]? = M[n]?) → ∃ vs, SqB u.K b H' a vs ∧ VRepL t u F' L' H' ds vs)
    (h' : ∀ F' L' H' M', Go F L H F' L' H' → MRep t u F' L' H' M' → (∀ n ∈ s2, M'[n]? = M[n]?) → ∃ vs, SqB u.K b H' c vs ∧ VRepL t u F' L' H' es vs) :
    ItOk t u true F L H M (s1 ++ s2) (zipD ds es) (itZ u.K b a c) := by
  have main : ∀ F' L' H' M' i (vs ws : List V) (x : V) (H2 : Hp), MRep t u F' L' H' M' → VRepL t u F' L' H' ds vs → VRepL t u F' L' H' es ws → i < ds.length → i < es.length → (∃ T y z, x = .ref T ∧ H' T = none ∧ H2 = upd H' T (.tup [y, z]) ∧ vs[i]? = some y ∧ ws[i]? = some z) →
      Step L' H' L' H2 ∧ MRep t u F' L' H2 M' ∧ (∀ p, p ∈ F' → H2 p = H' p) ∧ ∃ d, (zipD ds es)[i]? = some d ∧ IRep t u true F' L' H2 d x := fun F' L' H' M' i vs ws x H2 m rv rw' hi hi2 y => by
    obtain ⟨T, y, z, rfl, hT, rfl, hy, hz⟩ := y
    obtain ⟨v, h1, h2⟩ := rv.get (List.getElem?_eq_getElem hi)
    obtain ⟨w, h3, h4⟩ := rw'.get (List.getElem?_eq_getElem hi2)
    rw [h1] at hy
    rw [h3] at hz
    obtain rfl : v = y := Option.some.inj hy
    obtain rfl : w = z := Option.some.inj hz
    obtain ⟨k1, k2, k3, k4⟩ := pair_ok m hT h2 h4
    exact ⟨k1, k2, k3, _, zip_get ds es i _ _ (List.getElem?_eq_getElem hi) (List.getElem?_eq_getElem hi2), k4⟩
  cases b with
  | true =>
    refine ⟨fun F' L' H' M' g m e i hi => ?_, fun F' L' H' M' g m e => ?_⟩
    · rw [zip_len] at hi
      obtain ⟨vs, hv, rv⟩ := h F' L' H' M' g m fun n hn => e n (List.mem_append_left _ hn)
      obtain ⟨ws, hw, rw'⟩ := h' F' L' H' M' g m fun n hn => e n (List.mem_append_right _ hn)
      obtain ⟨v, h1, h2⟩ := rv.get (List.getElem?_eq_getElem (show i < ds.length by omega))
      obtain ⟨w, h3, h4⟩ := rw'.get (List.getElem?_eq_getElem (show i < es.length by omega))
      refine ⟨⟨vs, ws, v, w, hv, hw, h1, h3⟩, fun x H2 y => ?_⟩
      obtain ⟨T, y, z, e1, e2, e3, e4, e5⟩ := y
      exact main F' L' H' M' i vs ws x H2 m rv rw' (by omega) (by omega) ⟨T, y, z, e1, e2, e3, e4 vs hv, e5 ws hw⟩
    · obtain ⟨vs, hv, rv⟩ := h F' L' H' M' g m fun n hn => e n (List.mem_append_left _ hn)
      obtain ⟨ws, hw, rw'⟩ := h' F' L' H' M' g m fun n hn => e n (List.mem_append_right _ hn)
      have l1 := VRepL.len _ _ rv
      have l2 := VRepL.len _ _ rw'
      exact ⟨vs, ws, hv, hw, by rw [zip_len]; omega⟩
  | false =>
    refine ⟨fun F' L' H' M' g m e i hi => ?_, fun F' L' H' M' g m e => ?_⟩
    · rw [zip_len] at hi
      obtain ⟨vs, hv, rv⟩ := h F' L' H' M' g m fun n hn => e n (List.mem_append_left _ hn)
      obtain ⟨ws, hw, rw'⟩ := h' F' L' H' M' g m fun n hn => e n (List.mem_append_right _ hn)
      obtain ⟨v, h1, h2⟩ := rv.get (List.getElem?_eq_getElem (show i < ds.length by omega))
      obtain ⟨w, h3, h4⟩ := rw'.get (List.getElem?_eq_getElem (show i < es.length by omega))
      refine ⟨⟨vs, ws, v, w, hv, hw, h1, h3⟩, fun x H2 y => ?_⟩
      obtain ⟨T, y, z, e1, e2, e3, e4, e5⟩ := y
      exact main F' L' H' M' i vs ws x H2 m rv rw' (by omega) (by omega) ⟨T, y, z, e1, e2, e3, e4 vs hv, e5 ws hw⟩
    · obtain ⟨vs, hv, rv⟩ := h F' L' H' M' g m fun n hn => e n (List.mem_append_left _ hn)
      obtain ⟨ws, hw, rw'⟩ := h' F' L' H' M' g m fun n hn => e n (List.mem_append_right _ hn)
      have l1 := VRepL.len _ _ rv
      have l2 := VRepL.len _ _ rw'
      exact ⟨vs, ws, hv, hw, by rw [zip_len]; omega⟩
theorem itok_zipm {F L : List Addr} {H : Hp} {M : Mem} {a c : Addr} {s1 s2 : List Nat} {ds es : List D}
    (h : ∀ F' L' H' M', Go F L H F' L' H' → MRep t u F' L' H' M' → (∀ n ∈ s1, M'[n]? = M[n]?) → ∃ vs, SqT u.K H' a vs ∧ VRepL t u F' L' H' ds vs)
    (h' : ∀ F' L' H' M', Go F L H F' L' H' → MRep t u F' L' H' M' → (∀ n ∈ s2, M'[n]? = M[n]?) → ∃ vs, SqL u.K H' c vs ∧ VRepL t u F' L' H' es vs) :
    ItOk t u true F L H M (s1 ++ s2) (zipD ds es) (ItzM u.K a c) := by
  have main : ∀ F' L' H' M' i (vs ws : List V) (x : V) (H2 : Hp), MRep t u F' L' H' M' → VRepL t u F' L' H' ds vs → VRepL t u F' L' H' es ws → i < ds.length → i < es.length → (∃ T y z, x = .ref T ∧ H' T = none ∧ H2 = upd H' T (.tup [y, z]) ∧ vs[i]? = some y ∧ ws[i]? = some z) →
      Step L' H' L' H2 ∧ MRep t u F' L' H2 M' ∧ (∀ p, p ∈ F' → H2 p = H' p) ∧ ∃ d, (zipD ds es)[i]? = some d ∧ IRep t u true F' L' H2 d x := fun F' L' H' M' i vs ws x H2 m rv rw' hi hi2 y => by
    obtain ⟨T, y, z, rfl, hT, rfl, hy, hz⟩ := y
    obtain ⟨v, h1, h2⟩ := rv.get (List.getElem?_eq_getElem hi)
    obtain ⟨w, h3, h4⟩ := rw'.get (List.getElem?_eq_getElem hi2)
    rw [h1] at hy
    rw [h3] at hz
    obtain rfl : v = y := Option.some.inj hy
    obtain rfl : w = z := Option.some.inj hz
    obtain ⟨k1, k2, k3, k4⟩ := pair_ok m hT h2 h4
    exact ⟨k1, k2, k3, _, zip_get ds es i _ _ (List.getElem?_eq_getElem hi) (List.getElem?_eq_getElem hi2), k4⟩
  refine ⟨fun F' L' H' M' g m e i hi => ?_, fun F' L' H' M' g m e => ?_⟩
  · rw [zip_len] at hi
    obtain ⟨vs, hv, rv⟩ := h F' L' H' M' g m fun n hn => e n (List.mem_append_left _ hn)
    obtain ⟨ws, hw, rw'⟩ := h' F' L' H' M' g m fun n hn => e n (List.mem_append_right _ hn)
    obtain ⟨v, h1, h2⟩ := rv.get (List.getElem?_eq_getElem (show i < ds.length by omega))
    obtain ⟨w, h3, h4⟩ := rw'.get (List.getElem?_eq_getElem (show i < es.length by omega))
    refine ⟨⟨vs, ws, v, w, hv, hw, h1, h3⟩, fun x H2 y => ?_⟩
    obtain ⟨T, y, z, e1, e2, e3, e4, e5⟩ := y
    exact main F' L' H' M' i vs ws x H2 m rv rw' (by omega) (by omega) ⟨T, y, z, e1, e2, e3, e4 vs hv, e5 ws hw⟩
  · obtain ⟨vs, hv, rv⟩ := h F' L' H' M' g m fun n hn => e n (List.mem_append_left _ hn)
    obtain ⟨ws, hw, rw'⟩ := h' F' L' H' M' g m fun n hn => e n (List.mem_append_right _ hn)
    have l1 := VRepL.len _ _ rv
    have l2 := VRepL.len _ _ rw'
    exact ⟨vs, ws, hv, hw, by rw [zip_len]; omega⟩
theorem i_w (ha : SE t u C a) : SI t u C (.w a) := fun W c X tg x g h => by
  have h1 : chkE t c a x = true := h
  refine (pi_seq (ha W c X x g h1)).sized.imp fun σ H R hh => ?_
  obtain ⟨F, L, env, M, Φ, Ξ, he, hm, hw, hQ, hX⟩ := hh
  refine ⟨F, L, env, M, _, Ξ, he, hm, hw, fun x M1 L1 H1 v k1 s1 m1 r1 => ?_, hX⟩
  obtain ⟨p, src, ds, rfl, k2, k3⟩ := itD_ok m1 r1 k1
  obtain ⟨vs, hv, rv⟩ := k3 F L1 H1 M1 Step.refl.go m1 fun _ _ => rfl
  have ik := itok_seq (pr := isTupX tg) k3
  rw [g.K]
  refine ⟨p, vs, rfl, ?_⟩
  have fin : ∀ J, ItOk t u (isTupX tg) F L1 H1 M1 src ds J → Sized u.K H1 → R J H1 := fun J hJ hz => hQ src ds M1 L1 H1 J k2 s1 m1 (by rw [VRepL.len _ _ rv]; exact SqL.sz hz hv) hJ
  cases hb : isTup x with
  | true =>
    rw [hb] at hv ik
    exact .inr ⟨hv, fin _ ik⟩
  | false =>
    rw [hb] at hv ik
    exact .inl ⟨hv, fin _ ik⟩
theorem i_rng1 (ha : SE t u C a) : SI t u C (.rng1 a) := fun W c X tg x g h => by
  cases x with
  | Call fn as kws pos =>
    match as, kws, h with
    | [l], [], h =>
      have h : (isNm "range" c.sc fn && notStar l && chkE t c a l) = true := h
      simp only [Bool.and_eq_true] at h
      obtain ⟨⟨h1, h2⟩, h3⟩ := h
      obtain ⟨p, rfl, hg⟩ := isNm_of h1
      refine (pi_range1 (g.gl hg) (g.bl (by decide)) (pa_cons (ha W c X l g h3) pa_nil (star_ns h2)) (star_ns h2)).imp fun σ H R hh => ?_
      obtain ⟨F, L, env, M, Φ, Ξ, he, hm, hw, hQ, hX⟩ := hh
      refine ⟨F, L, env, M, _, Ξ, he, hm, hw, fun x M1 L1 H1 v k1 s1 m1 r1 => ?_, hX⟩
      obtain ⟨j, rfl, ⟨b1, b2⟩, k2⟩ := ifInt_ex k1
      obtain rfl : v = .int j := r1
      refine ⟨j, rfl, b1, by omega, hQ [] _ M1 L1 H1 _ k2 s1 m1 ?_ itok_rng⟩
      rw [rngL_eq, List.length_map, List.length_range]
      show j.toNat ≤ 16777216
      omega
    | [], _, h => cases h
    | _ :: _ :: _, _, h => cases h
    | [_], _ :: _, h => cases h
  | _ => cases h
theorem i_rng2 (ha : SE t u C a) (hb : SE t u C b) : SI t u C (.rng2 a b) := fun W c X tg x g h => by
  cases x with
  | Call fn as kws pos =>
    match as, kws, h with
    | [l, r], [], h =>
      have h : (isNm "range" c.sc fn && notStar l && notStar r && chkE t c a l && chkE t c b r) = true := h
      simp only [Bool.and_eq_true] at h
      obtain ⟨⟨⟨⟨h1, h2⟩, h3⟩, h4⟩, h5⟩ := h
      obtain ⟨p, rfl, hg⟩ := isNm_of h1
      refine (pi_range2 (g.gl hg) (g.bl (by decide)) (pa_cons (ha W c X l g h4) (pa_cons (hb W c X r g h5) pa_nil (star_ns h3)) (star_ns h2)) (by rw [star_ns h2, star_ns h3]; rfl) (star_ns h3)).imp fun σ H R hh => ?_
      obtain ⟨F, L, env, M, Φ, Ξ, he, hm, hw, hQ, hX⟩ := hh
      refine ⟨F, L, env, M, _, Ξ, he, hm, hw, fun x M1 L1 H1 v k1 s1 m1 r1 => ⟨F, L1, env, M1, _, Ξ, he.step s1, m1, k1, fun y M2 L2 H2 w k2 s2 m2 r2 => ?_, bad_from s1 hX⟩, hX⟩
      obtain ⟨i, e1, k3⟩ := ifInt_ex k2
      obtain ⟨j, e2, k4⟩ := ifInt_ex k3
      obtain ⟨⟨b1, b2, b3, b4, b5⟩, k5⟩ := k4
      subst e1 e2
      obtain rfl : v = .int i := r1
      obtain rfl : w = .int j := r2
      refine ⟨i, j, rfl, ⟨b1, b2, b3, b4⟩, hQ [] _ M2 L2 H2 _ k5 (s1.trans s2) m2 ?_ itok_rng⟩
      rw [rngL_eq, List.length_map, List.length_range]
      show (j - i).toNat ≤ 16777216
      omega
    | [], _, h => cases h
    | [_], _, h => cases h
    | _ :: _ :: _ :: _, _, h => cases h
    | [_, _], _ :: _, h => cases h
  | _ => cases h
theorem i_enum (ha : SE t u C a) : SI t u C (.enum a) := fun W c X tg x g h => by
  cases x with
  | Call fn as kws pos =>
    match as, kws, h with
    | [l], [], h =>
      have h : (isTupX tg && isNm "enumerate" c.sc fn && notStar l && chkE t c a l) = true := h
      simp only [Bool.and_eq_true] at h
      obtain ⟨⟨⟨h0, h1⟩, h2⟩, h3⟩ := h
      obtain ⟨p, rfl, hg⟩ := isNm_of h1
      cases tg with
      | Tuple elts kk tpos =>
        refine (pi_enumA (g.gl hg) (g.bl (by decide)) (pa_cons (ha W c X l g h3) pa_nil (star_ns h2)) (star_ns h2)).sized.imp fun σ H R hh => ?_
        obtain ⟨F, L, env, M, Φ, Ξ, he, hm, hw, hQ, hX⟩ := hh
        refine ⟨F, L, env, M, _, Ξ, he, hm, hw, fun x M1 L1 H1 v k1 s1 m1 r1 => ?_, hX⟩
        obtain ⟨p, src, ds, rfl, k2, k3⟩ := itD_ok m1 r1 k1
        obtain ⟨vs, hv, rv⟩ := k3 F L1 H1 M1 Step.refl.go m1 fun _ _ => rfl
        have ik := itok_enum k3
        rw [g.K]
        refine ⟨p, vs, rfl, ?_⟩
        have fin : ∀ J, ItOk t u true F L1 H1 M1 src (enumFrom 0 ds) J → Sized u.K H1 → R J H1 := fun J hJ hz => hQ src _ M1 L1 H1 J k2 s1 m1 (by rw [enum_len, VRepL.len _ _ rv]; exact SqL.sz hz hv) hJ
        cases hb : isTup x with
        | true =>
          rw [hb] at hv ik
          exact .inr ⟨hv, fin _ ik⟩
        | false =>
          rw [hb] at hv ik
          exact .inl ⟨hv, fin _ ik⟩
      | _ => cases h0
    | [], _, h => cases h
    | _ :: _ :: _, _, h => cases h
    | [_], _ :: _, h => cases h
  | _ => cases h
theorem i_zip (ha : SE t u C a) (hb : SE t u C b) : SI t u C (.zip a b) := fun W c X tg x g h => by
  cases x with
  | Call fn as kws pos =>
    match as, kws, h with
    | [l, r], [], h =>
      have h : (isTupX tg && isNm "zip" c.sc fn && notStar l && notStar r && chkE t c a l && chkE t c b r) = true := h
      simp only [Bool.and_eq_true] at h
      obtain ⟨⟨⟨⟨⟨h0, h1⟩, h2⟩, h3⟩, h4⟩, h5⟩ := h
      obtain ⟨p, rfl, hg⟩ := isNm_of h1
      cases tg with
      | Tuple elts kk tpos =>
        refine (RZ.pi_zipA (g.gl hg) (g.bl (by decide)) (pa_cons (ha W c X l g h4) (pa_cons (hb W c X r g h5) pa_nil (star_ns h3)) (star_ns h2)) (star_ns h2) (plain_ns fun z hz => by rw [List.mem_singleton.mp hz]; exact h3)).sized.imp fun σ H R hh => ?_
        obtain ⟨F, L, env, M, Φ, Ξ, he, hm, hw, hQ, hX⟩ := hh
        refine ⟨F, L, env, M, _, Ξ, he, hm, hw, fun x M1 L1 H1 v k1 s1 m1 r1 => ⟨F, L1, env, M1, _, Ξ, he.step s1, m1, k1, fun y M2 L2 H2 w k2 s2 m2 r2 => ?_, bad_from s1 hX⟩, hX⟩
        obtain ⟨p, src, ds, e1, k4, k3⟩ := itD_ok m2 (VRep.step s2 _ _ r1) k2
        obtain ⟨q, src', ds', e2, ⟨hk, k5⟩, k6⟩ := itD_ok m2 r2 k4
        obtain ⟨vs, hv, rv⟩ := k3 F L2 H2 M2 Step.refl.go m2 fun _ _ => rfl
        obtain ⟨ws, hw', rw'⟩ := k6 F L2 H2 M2 Step.refl.go m2 fun _ _ => rfl
        rw [← hk] at k6 hw'
        have ik := itok_zip k3 k6
        rw [g.K]
        subst e1 e2
        refine ⟨p, q, vs, ws, rfl, ?_⟩
        have fin : ∀ J, ItOk t u true F L2 H2 M2 (src ++ src') (zipD ds ds') J → Sized u.K H2 → R J H2 := fun J hJ hz => hQ _ _ M2 L2 H2 J k5 (s1.trans s2) m2 (by
          have z1 := SqL.sz hz hv
          rw [zip_len, VRepL.len _ _ rv]
          omega) hJ
        cases hb : isTup x with
        | true =>
          rw [hb] at hv hw' ik
          exact .inr ⟨hv, hw', fin _ ik⟩
        | false =>
          rw [hb] at hv hw' ik
          exact .inl ⟨hv, hw', fin _ ik⟩
      | _ => cases h0
    | [], _, h => cases h
    | [_], _, h => cases h
    | _ :: _ :: _ :: _, _, h => cases h
    | [_, _], _ :: _, h => cases h
  | _ => cases h
theorem i_zipm (ha : SE t u C a) (hb : SE t u C b) : SI t u C (.zipm a b) := fun W c X tg x g h => by
  cases x with
  | Call fn as kws pos =>
    match as, kws, h with
    | [l, r], [], h =>
      have h : (isTupX tg && isNm "zip" c.sc fn && notStar l && notStar r && chkE t c a l && chkE t c b r) = true := h
      simp only [Bool.and_eq_true] at h
      obtain ⟨⟨⟨⟨⟨h0, h1⟩, h2⟩, h3⟩, h4⟩, h5⟩ := h
      obtain ⟨p, rfl, hg⟩ := isNm_of h1
      cases tg with
      | Tuple elts kk tpos =>
        refine (pi_zm (g.gl hg) (g.bl (by decide)) (pa_cons (ha W c X l g h4) (pa_cons (hb W c X r g h5) pa_nil (star_ns h3)) (star_ns h2)) (star_ns h2) (plain_ns fun z hz => by rw [List.mem_singleton.mp hz]; exact h3)).sized.imp fun σ H R hh => ?_
        obtain ⟨F, L, env, M, Φ, Ξ, he, hm, hw, hQ, hX⟩ := hh
        refine ⟨F, L, env, M, _, Ξ, he, hm, hw, fun x M1 L1 H1 v k1 s1 m1 r1 => ⟨F, L1, env, M1, _, Ξ, he.step s1, m1, k1, fun y M2 L2 H2 w k2 s2 m2 r2 => ?_, bad_from s1 hX⟩, hX⟩
        obtain ⟨p, src, ds, e1, k4, k3⟩ := itD_ok m2 (VRep.step s2 _ _ r1) k2
        obtain ⟨q, src', ds', e2, ⟨⟨hx, hy⟩, k5⟩, k6⟩ := itD_ok m2 r2 k4
        obtain ⟨vs, hv, rv⟩ := k3 F L2 H2 M2 Step.refl.go m2 fun _ _ => rfl
        obtain ⟨ws, hw', rw'⟩ := k6 F L2 H2 M2 Step.refl.go m2 fun _ _ => rfl
        rw [hx] at k3 hv
        rw [hy] at k6 hw'
        have ik := itok_zipm k3 k6
        rw [g.K]
        subst e1 e2
        refine ⟨p, q, vs, ws, rfl, hv, hw', ?_⟩
        intro hz
        exact hQ _ _ M2 L2 H2 _ k5 (s1.trans s2) m2 (by
          have z1 := SqL.sz (b := true) hz hv
          rw [zip_len, VRepL.len _ _ rv]
          omega) ik
      | _ => cases h0
    | [], _, h => cases h
    | [_], _, h => cases h
    | _ :: _ :: _ :: _, _, h => cases h
    | [_, _], _ :: _, h => cases h
  | _ => cases h
theorem lock_ok {F L : List Addr} {H : Hp} {M : Mem} {T : Addr} {o : Obj} {ds : List D} {vs : List V} (m : MRep t u F L H M) (hT : H T = none) (ho : TpO o) (r : VRepL t u F L H ds vs) :
    Step L H L (upd H T (.frz o (.tup vs))) ∧ MRep t u F L (upd H T (.frz o (.tup vs))) M ∧ (∀ p, p ∈ F → upd H T (.frz o (.tup vs)) p = H p) ∧ VRep t u F L (upd H T (.frz o (.tup vs))) (.tup ds) (.ref T) := by
  have st : Step L H L (upd H T (.frz o (.tup vs))) := Step.new hT
  refine ⟨st, m.new hT, fun p hp => upd_ne (fun e => ?_), T, vs, rfl, ⟨o, upd_same, ho⟩, m.ninF hT, m.nin hT, VRepL.step st _ _ r⟩
  exact m.ninF hT (e ▸ hp)
theorem itok_ez {F L : List Addr} {H : Hp} {M : Mem} {a c : Addr} {ds es : List D}
    (h : ∀ F' L' H' M', Go F L H F' L' H' → MRep t u F' L' H' M' → ∃ vs, SqT u.K H' a vs ∧ VRepL t u F' L' H' ds vs)
    (h' : ∀ F' L' H' M', Go F L H F' L' H' → MRep t u F' L' H' M' → ∃ vs, SqT u.K H' c vs ∧ VRepL t u F' L' H' es vs) :
    ItOk t u true F L H M [] (enumFrom 0 (zipD ds es)) (ItEz u.K a c) := by
  refine ⟨fun F' L' H' M' g m _ i hi => ?_, fun F' L' H' M' g m _ => ?_⟩
  · rw [enum_len, zip_len] at hi
    obtain ⟨vs, hv, rv⟩ := h F' L' H' M' g m
    obtain ⟨ws, hw, rw'⟩ := h' F' L' H' M' g m
    obtain ⟨v, h1, h2⟩ := rv.get (List.getElem?_eq_getElem (show i < ds.length by omega))
    obtain ⟨w, h3, h4⟩ := rw'.get (List.getElem?_eq_getElem (show i < es.length by omega))
    refine ⟨⟨vs, ws, v, w, hv, hw, h1, h3⟩, fun x H2 y => ?_⟩
    obtain ⟨T1, T2, o1, o2, x', y', rfl, n2, n1, ne, p1, p2, rfl, e4, e5⟩ := y
    have ex := e4 vs hv
    have ey := e5 ws hw
    rw [h1] at ex
    rw [h3] at ey
    obtain rfl : v = x' := Option.some.inj ex
    obtain rfl : w = y' := Option.some.inj ey
    obtain ⟨s1, m1, f1, r1⟩ := lock_ok (T := T2) (o := o2) (ds := [_, _]) (vs := [v, w]) m n2 p2 ⟨v, [w], rfl, h2, w, [], rfl, h4, rfl⟩
    have n1' : upd H' T2 (.frz o2 (.tup [v, w])) T1 = none := by rw [upd_ne ne]; exact n1
    obtain ⟨s2, m2, f2, r2⟩ := lock_ok (T := T1) (o := o1) (ds := [.int (i : Nat), _]) (vs := [.int (i : Nat), .ref T2]) m1 n1' p1 ⟨_, _, rfl, rfl, _, _, rfl, r1, rfl⟩
    refine ⟨s1.trans s2, m2, fun p hp => (f2 p hp).trans (f1 p hp), _, ?_, .inl r2⟩
    have q := enum_get (zipD ds es) 0 i _ (zip_get ds es i _ _ (List.getElem?_eq_getElem (show i < ds.length by omega)) (List.getElem?_eq_getElem (show i < es.length by omega)))
    rw [Nat.zero_add] at q
    exact q
  · obtain ⟨vs, hv, rv⟩ := h F' L' H' M' g m
    obtain ⟨ws, hw, rw'⟩ := h' F' L' H' M' g m
    have l1 := VRepL.len _ _ rv
    have l2 := VRepL.len _ _ rw'
    exact ⟨vs, ws, hv, hw, by rw [enum_len, zip_len]; omega⟩
theorem i_enumz (ha : SE t u C a) (hb : SE t u C b) : SI t u C (.enumz a b) := fun W c X tg x g h => by
  cases x with
  | Call fn as kws pos =>
    match as, kws, h with
    | [q], [], h =>
      cases q with
      | Call fn2 as2 kws2 pos2 =>
        match as2, kws2, h with
        | [l, r], [], h =>
          have h : (isTupX tg && isNm "enumerate" c.sc fn && isNm "zip" c.sc fn2 && notStar l && notStar r && chkE t c a l && chkE t c b r) = true := h
          simp only [Bool.and_eq_true] at h
          obtain ⟨⟨⟨⟨⟨⟨h0, h1⟩, h1'⟩, h2⟩, h3⟩, h4⟩, h5⟩ := h
          obtain ⟨p, rfl, hg⟩ := isNm_of h1
          obtain ⟨p2, rfl, hg2⟩ := isNm_of h1'
          cases tg with
          | Tuple elts kk tpos =>
            refine (pi_ez (g.gl hg) (g.bl (by decide)) (g.gl hg2) (g.bl (by decide)) (pa_cons (ha W c X l g h4) (pa_cons (hb W c X r g h5) pa_nil (star_ns h3)) (star_ns h2)) (star_ns h2) (plain_ns fun z hz => by rw [List.mem_singleton.mp hz]; exact h3)).sized.imp fun σ H R hh => ?_
            obtain ⟨F, L, env, M, Φ, Ξ, he, hm, hw, hQ, hX⟩ := hh
            refine ⟨F, L, env, M, _, Ξ, he, hm, hw, fun x M1 L1 H1 v k1 s1 m1 r1 => ⟨F, L1, env, M1, _, Ξ, he.step s1, m1, k1, fun y M2 L2 H2 w k2 s2 m2 r2 => ?_, bad_from s1 hX⟩, hX⟩
            obtain ⟨ds, rfl, k3⟩ := ifTup_ex k2
            obtain ⟨es, rfl, k4⟩ := ifTup_ex k3
            have r1' := VRep.step s2 _ _ r1
            obtain ⟨pa, vs, rfl, fa, na1, na2, rv⟩ := r1'
            obtain ⟨pb, ws, rfl, fb, nb1, nb2, rw'⟩ := r2
            have ka : ∀ F' L' H' M', Go F L2 H2 F' L' H' → MRep t u F' L' H' M' → ∃ vs, SqT u.K H' pa vs ∧ VRepL t u F' L' H' ds vs := fun F' L' H' M' gg mm => by
              obtain ⟨p', vs', e1, fa', _, _, rv'⟩ := VRep.go gg (.tup ds) (.ref pa) ⟨pa, vs, rfl, fa, na1, na2, rv⟩
              cases e1
              exact ⟨vs', fa'.sq, rv'⟩
            have kb : ∀ F' L' H' M', Go F L2 H2 F' L' H' → MRep t u F' L' H' M' → ∃ vs, SqT u.K H' pb vs ∧ VRepL t u F' L' H' es vs := fun F' L' H' M' gg mm => by
              obtain ⟨p', vs', e1, fa', _, _, rv'⟩ := VRep.go gg (.tup es) (.ref pb) ⟨pb, ws, rfl, fb, nb1, nb2, rw'⟩
              cases e1
              exact ⟨vs', fa'.sq, rv'⟩
            have ik := itok_ez (M := M2) ka kb
            rw [g.K]
            refine ⟨pa, pb, vs, ws, rfl, fa.sq, fb.sq, ?_⟩
            intro hz
            exact hQ _ _ M2 L2 H2 _ k4 (s1.trans s2) m2 (by
              have z1 := SqL.sz (b := true) hz fa.sq
              rw [enum_len, zip_len, VRepL.len _ _ rv]
              omega) ik
          | _ => cases h0
        | [], _, h => cases h
        | [_], _, h => cases h
        | _ :: _ :: _ :: _, _, h => cases h
        | [_, _], _ :: _, h => cases h
      | _ => cases h
    | [], _, h => cases h
    | _ :: _ :: _, _, h => cases h
    | [_], _ :: _, h => cases h
  | _ => cases h
end
end Z
set_option Elab.async false
set_option linter.all false
set_option maxRecDepth 100000
set_option maxHeartbeats 1000000
namespace Z
open PySem PySem.Spec PyProof.Rows L2
theorem wipe_get {σ : L2.St} {j : Nat} : ∀ vs : List Nat, (wipe σ vs)[j]? = if j ∈ vs then σ[j]?.map (fun _ => none) else σ[j]?
  | [] => by simp [wipe]
  | v :: vs => by
    show ((wipe σ vs).set v none)[j]? = _
    by_cases h : v = j
    · subst h
      rw [if_pos List.mem_cons_self]
      by_cases hl : v < σ.length
      · rw [List.getElem?_set_self (by rw [wipe_length]; exact hl), List.getElem?_eq_getElem hl]; rfl
      · rw [List.getElem?_eq_none (by rw [List.length_set, wipe_length]; omega), List.getElem?_eq_none (by omega)]; rfl
    · rw [List.getElem?_set_ne h, wipe_get vs]
      have e : (j ∈ v :: vs) ↔ j ∈ vs := by
        constructor
        · intro q
          rcases List.mem_cons.mp q with q | q
          · exact absurd q.symm h
          · exact q
        · exact List.mem_cons_of_mem _
      simp only [e]
theorem kill_get {j : Nat} : ∀ (vs : List Nat) (env : Env), (kill vs env)[j]? = if j ∈ vs then env[j]?.map (fun _ => none) else env[j]?
  | [], env => by simp [kill]
  | v :: vs, env => by
    show (kill vs (env.set v none))[j]? = _
    rw [kill_get vs]
    by_cases h : v = j
    · subst h
      rw [if_pos (List.mem_cons_self (a := v) (l := vs))]
      have e : (env.set v none)[v]?.map (fun _ => (none : Option D)) = env[v]?.map (fun _ => none) := by
        by_cases hl : v < env.length
        · rw [List.getElem?_set_self hl, List.getElem?_eq_getElem hl]; rfl
        · rw [List.getElem?_eq_none (by rw [List.length_set]; omega), List.getElem?_eq_none (by omega)]
      have e2 : (env.set v none)[v]? = env[v]?.map (fun _ => none) := by
        by_cases hl : v < env.length
        · rw [List.getElem?_set_self hl, List.getElem?_eq_getElem hl]; rfl
        · rw [List.getElem?_eq_none (by rw [List.length_set]; omega), List.getElem?_eq_none (by omega)]; rfl
      rw [e, e2]
      split <;> rfl
    · rw [List.getElem?_set_ne h]
      have e : (j ∈ v :: vs) ↔ j ∈ vs := by
        constructor
        · intro q
          rcases List.mem_cons.mp q with q | q
          · exact absurd q.symm h
          · exact q
        · exact List.mem_cons_of_mem _
      simp only [e]
theorem wipe_set {σ : L2.St} {i : Nat} {x : Option V} {vs : List Nat} (h : i ∈ vs) : wipe (σ.set i x) vs = wipe σ vs := by
  apply List.ext_getElem?
  intro j
  rw [wipe_get, wipe_get]
  split
  · by_cases hj : i = j
    · subst hj
      by_cases hl : i < σ.length
      · rw [List.getElem?_set_self hl, List.getElem?_eq_getElem hl]; rfl
      · rw [List.getElem?_eq_none (by rw [List.length_set]; omega), List.getElem?_eq_none (by omega)]
    · rw [List.getElem?_set_ne hj]
  · rw [List.getElem?_set_ne (fun e => by subst e; contradiction)]
theorem wipe_wipe {σ : L2.St} {vs : List Nat} : wipe (wipe σ vs) vs = wipe σ vs := by
  apply List.ext_getElem?
  intro j
  rw [wipe_get, wipe_get]
  split
  · cases σ[j]? <;> rfl
  · rfl
theorem kill_len : ∀ (vs : List Nat) (env : Env), (kill vs env).length = env.length
  | [], _ => rfl
  | v :: vs, env => by show (kill vs (env.set v none)).length = _; rw [kill_len vs, List.length_set]
section
variable {t : Tb} {u : At} {C : Calls} {a b d e r es : E}
theorem ERep.kill {F L : List Addr} {H : Hp} {env : Env} {σ : L2.St} (r : ERep t u F L H env σ) (vs : List Nat) : ERep t u F L H (kill vs env) (wipe σ vs) := by
  refine ⟨by rw [kill_len, wipe_length]; exact r.len, fun i d h => ?_⟩
  rw [kill_get] at h
  rw [wipe_get]
  split at h
  · cases e : env[i]? <;> rw [e] at h <;> cases h
  · rename_i q
    rw [if_neg q]
    exact r.at_ i d h
theorem ERep.killE {F L : List Addr} {H : Hp} {env : Env} {σ : L2.St} (r : ERep t u F L H env σ) (vs : List Nat) : ERep t u F L H (Z.kill vs env) σ := by
  refine ⟨by rw [kill_len]; exact r.len, fun i d h => ?_⟩
  rw [kill_get] at h
  split at h
  · cases e : env[i]? <;> rw [e] at h <;> cases h
  · exact r.at_ i d h
theorem ERep.go {F L F' L' : List Addr} {H H' : Hp} {env : Env} {σ : L2.St} (s : Go F L H F' L' H') (r : ERep t u F L H env σ) : ERep t u F' L' H' env σ :=
  ⟨r.len, fun i d h => let ⟨v, a, b⟩ := r.at_ i d h; ⟨v, a, VRep.go s _ _ b⟩⟩
theorem ERep.set {F L : List Addr} {H : Hp} {env : Env} {σ : L2.St} (r : ERep t u F L H env σ) {d : D} {v : V} (h : VRep t u F L H d v) (i : Nat) : ERep t u F L H (env.set i (some d)) (σ.set i (some v)) := by
  refine ⟨by rw [List.length_set, List.length_set]; exact r.len, fun j d' e => ?_⟩
  by_cases hj : i = j
  · subst hj
    by_cases hl : i < env.length
    · rw [List.getElem?_set_self hl] at e
      obtain rfl : d = d' := Option.some.inj (Option.some.inj e)
      exact ⟨v, List.getElem?_set_self (by rw [← r.len]; exact hl), h⟩
    · rw [List.getElem?_eq_none (by rw [List.length_set]; omega)] at e
      cases e
  · rw [List.getElem?_set_ne hj] at e ⊢
    exact r.at_ j d' e
def tG (t : Tb) (u : At) (pr : Bool) (e : E) : TG := fun v σ H Q => ∃ F L env d Ψ, ERep t u F L H env σ ∧ IRep t u pr F L H d v ∧ bindT e d env Ψ ∧
  ∀ env' σ', Ψ env' → ERep t u F L H env' σ' → (∀ vs : List Nat, (∀ i ∈ slotsOf e, i ∈ vs) → wipe σ' vs = wipe σ vs) → Q σ' H
def tGs (t : Tb) (u : At) (e : E) : TGs := fun vs σ H Q => ∃ F L env ds Ψ, ERep t u F L H env σ ∧ VRepL t u F L H ds vs ∧ bindT e (.tup ds) env Ψ ∧
  ∀ env' σ', Ψ env' → ERep t u F L H env' σ' → (∀ ws : List Nat, (∀ i ∈ slotsOf e, i ∈ ws) → wipe σ' ws = wipe σ ws) → Q σ' H
theorem asg_ns {e : Expr} {es : List Expr} {env : PySem.Env} (h : notStar e = true) : assignEach (e :: es) env = (false, assign e env) :: assignEach es env := by
  cases e <;> first | rfl | cases h
theorem _root_.L2.PG.imp {X : Cx} {e : Expr} {te te' : TG} (h : PG X e te) (f : ∀ v σ H Q, te' v σ H Q → te v σ H Q) : PG X e te' := ⟨fun pins s σ H v w Q I r q => h.run pins s σ H v w Q I r (f v σ H Q q)⟩
theorem _root_.L2.PGs.imp {X : Cx} {e : List Expr} {te te' : TGs} (h : PGs X e te) (f : ∀ v σ H Q, te' v σ H Q → te v σ H Q) : PGs X e te' := ⟨fun pins s σ H v w Q I r q => h.run pins s σ H v w Q I r (f v σ H Q q)⟩
theorem sto_of {c : Cc} {x : Str} {X : Cx} {W : WX} (g : Gd t u C W c X) (h : sto c x = true) : Loc X.env.scope x ∧ (X.fn x = true ∨ X.env.scope.names.lookup x = some .local) := by
  rw [g.sc]
  unfold sto at h
  split at h
  · rename_i q; exact ⟨.inl q, .inr q⟩
  · rename_i q; exact ⟨.inr q, .inl (g.fnx x h)⟩
  · cases h
theorem gs_len {c : Cc} {env : PySem.Env} : ∀ {es : E} {as : List Expr}, chkG.chkGs c es as = true → (assignEach as env).length = as.length ∧ (assignEach as env).findIdx? (·.1) = none := by
  intro es
  induction es with
  | nil =>
    intro as h
    cases as with
    | nil => exact ⟨rfl, rfl⟩
    | cons x xs => cases h
  | cons a r _ ih =>
    intro as h
    cases as with
    | nil => cases h
    | cons x xs =>
      have h : (notStar x && chkG c a x && chkG.chkGs c r xs) = true := h
      simp only [Bool.and_eq_true] at h
      obtain ⟨q1, q2⟩ := ih h.2
      rw [asg_ns h.1.1]
      refine ⟨by rw [List.length_cons, List.length_cons, q1], ?_⟩
      rw [List.findIdx?_cons]
      simp only [Bool.false_eq_true, if_false]
      rw [q2]; rfl
  | _ => intro as h; cases h
theorem bindT_ex : ∀ (e : E) (d : D) (env : Env) (Ψ : Env → Prop), bindT e d env Ψ → ∃ env', Ψ env' := by
  intro e
  induction e with
  | v i => intro d env Ψ h; exact ⟨_, h⟩
  | tup es ih =>
    intro d env Ψ h
    cases d with
    | tup ds => exact ih (.tup ds) env Ψ h
    | _ => exact (show False from h).elim
  | nil =>
    intro d env Ψ h
    match d, h with
    | .tup [], h => exact ⟨_, h⟩
  | cons a r iha ihr =>
    intro d env Ψ h
    match d, h with
    | .tup (x :: xs), h =>
      obtain ⟨env', h⟩ := iha x env _ h
      exact ihr (.tup xs) env' Ψ h
  | _ => intro d env Ψ h; exact (show False from h).elim
theorem gs_count {c : Cc} : ∀ {e : E} {as : List Expr} {ds : List D} {env : Env} {Ψ : Env → Prop}, chkG.chkGs c e as = true → bindT e (.tup ds) env Ψ → ds.length = as.length := by
  intro e
  induction e with
  | nil =>
    intro as ds env Ψ h b
    match as, ds, h, b with
    | [], [], _, _ => rfl
    | _ :: _, _, h, _ => cases h
  | cons a r iha ihr =>
    intro as ds env Ψ h b
    match as, ds, h, b with
    | x :: xs, d :: ds, h, b =>
      have h : (notStar x && chkG c a x && chkG.chkGs c r xs) = true := h
      simp only [Bool.and_eq_true] at h
      obtain ⟨env', b'⟩ := bindT_ex a d env _ b
      rw [List.length_cons, List.length_cons, ihr h.2 b']
    | [], _, h, _ => cases h
    | _ :: _, [], _, b => exact (show False from b).elim
  | _ => intro as ds env Ψ h b; cases h
theorem g_ok (c : Cc) (X : Cx) (W : WX) (g : Gd t u C W c X) : ∀ e : E, (∀ a, chkG c e a = true → PG X a (tG t u (isTupX a) e)) ∧ (∀ as, chkG.chkGs c e as = true → PGs X as (tGs t u e)) := by
  intro e
  induction e with
  | v i =>
    refine ⟨fun a h => ?_, fun as h => by cases h⟩
    cases a with
    | Name x pos =>
      have h : ((c.N[i]? == some x) && sto c x) = true := h
      simp only [Bool.and_eq_true, beq_iff_eq] at h
      obtain ⟨h1, h2⟩ := h
      obtain ⟨l1, l2⟩ := sto_of g h2
      refine (pg_name (i := i) (by rw [g.N]; exact g.nd) (by rw [g.N]; exact h1) l1 l2).imp fun v σ H Q hh => ?_
      obtain ⟨F, L, env, d, Ψ, he, hv, hb, hQ⟩ := hh
      rcases hv with hv | ⟨hp, _⟩
      · exact hQ _ _ hb (he.set hv i) fun vs hvs => wipe_set (hvs i List.mem_cons_self)
      · cases hp
    | _ => cases h
  | tup es ih =>
    refine ⟨fun a h => ?_, fun as h => by cases h⟩
    cases a with
    | Tuple as k pos =>
      have h : chkG.chkGs c es as = true := h
      obtain ⟨e1, e2⟩ := gs_len (env := X.env) h
      refine (pg_tup (n := as.length) g.calm (ih.2 as h) e1 e2).imp fun v σ H Q hh => ?_
      obtain ⟨F, L, env, d, Ψ, he, hv, hb, hQ⟩ := hh
      cases d with
      | tup ds =>
        rcases hv with ⟨p, vs, rfl, h1, n1, n2, rr⟩ | ⟨_, ds', p, vs, e1, rfl, h1, n1, n2, rr⟩
        · refine ⟨p, vs, rfl, .inl h1.rd, ?_, F, L, env, ds, Ψ, he, rr, hb, hQ⟩
          rw [← VRepL.len _ _ rr]
          exact gs_count h hb
        · obtain rfl : ds = ds' := D.tup.inj e1
          refine ⟨p, vs, rfl, .inl (.inl h1), ?_, F, L, env, ds, Ψ, he, rr, hb, hQ⟩
          rw [← VRepL.len _ _ rr]
          exact gs_count h hb
      | _ => exact (show False from hb).elim
    | _ => cases h
  | nil =>
    refine ⟨fun a h => (by cases h), fun as h => ?_⟩
    cases as with
    | nil =>
      refine pgs_nil.imp fun vs σ H Q hh => ?_
      obtain ⟨F, L, env, ds, Ψ, he, hv, hb, hQ⟩ := hh
      cases ds with
      | nil =>
        obtain rfl : vs = [] := hv
        exact ⟨rfl, hQ _ _ hb he fun _ _ => rfl⟩
      | cons _ _ => exact (show False from hb).elim
    | cons x xs => cases h
  | cons a r iha ihr =>
    refine ⟨fun a h => (by cases h), fun as h => ?_⟩
    cases as with
    | nil => cases h
    | cons x xs =>
      have h : (notStar x && chkG c a x && chkG.chkGs c r xs) = true := h
      simp only [Bool.and_eq_true] at h
      refine (pgs_cons (iha.1 x h.1.2) (ihr.2 xs h.2) (by rw [asg_ns h.1.1]; rfl)).imp fun vs σ H Q hh => ?_
      obtain ⟨F, L, env, ds, Ψ, he, hv, hb, hQ⟩ := hh
      cases ds with
      | nil => exact (show False from hb).elim
      | cons d ds =>
        obtain ⟨v, vr, rfl, r1, r2⟩ := hv
        refine ⟨v, vr, rfl, F, L, env, d, _, he, .inl r1, hb, fun env' σ' k1 he' k2 => ?_⟩
        refine ⟨F, L, env', ds, Ψ, he', r2, k1, fun env2 σ2 k3 he2 k4 => hQ env2 σ2 k3 he2 fun ws hws => ?_⟩
        rw [k4 ws fun i hi => hws i (List.mem_append_right _ hi), k2 ws fun i hi => hws i (List.mem_append_left _ hi)]
  | _ => exact ⟨fun a h => (by cases h), fun as h => (by cases h)⟩
end
end Z
set_option Elab.async false
set_option linter.all false
set_option maxRecDepth 100000
set_option maxHeartbeats 1000000
namespace Z
open PySem PySem.Spec PyProof.Rows L2
abbrev WF : WX := fun _ _ _ _ => False
theorem _root_.L2.PTs.imp {X : Cx} {e : List Expr} {te te' : TT} (h : PTs X e te) (f : ∀ σ H Q, te' σ H Q → te σ H Q) : PTs X e te' := ⟨fun pins s σ H Q I q => h.run pins s σ H Q I (f σ H Q q)⟩
theorem stab_ok : ∀ {src : List Nat} {M M' : Mem} {P : Prop}, stab src M M' P → (∀ n ∈ src, M'[n]? = M[n]?) ∧ P
  | [], _, _, _, h => ⟨fun n hn => by simp at hn, h⟩
  | k :: r, M, M', P, h => by
    obtain ⟨h1, h2⟩ := h
    obtain ⟨q1, q2⟩ := stab_ok h2
    refine ⟨fun n hn => ?_, q2⟩
    rcases List.mem_cons.mp hn with e | hn
    · rw [e]; exact h1
    · exact q1 n hn
theorem upd_back {H : Hp} {p : Addr} {o : HO} (h : H p = some o) : upd H p o = H := by
  funext a
  by_cases e : a = p
  · rw [e, upd_same, h]
  · rw [upd_ne e]
theorem takesN0 {X : Cx} : L2N.Takes X WF := fun _ _ x => by
  obtain ⟨_, _, _, _, _, _, _, _, _, _, _, _, _, _, _, _, w⟩ := x
  exact w.elim
section
variable {t : Tb} {u : At} {C : Calls} {a b d e r es : E}
theorem Gd.blk {W : WX} {c : Cc} {X : Cx} (g : Gd t u C W c X) {s : Shared} {H : Hp} {scope : Scope} {cl : List (Str × Addr)} {CC : Addr} {fp : List Addr} : Gd t u C WF (c.inner scope) (X.blk s H scope (compEnvC scope cl CC X.env) fp) where
  K := g.K
  N := g.N
  nd := g.nd
  sc := by
    show relabel scope X.env = relS scope c.sc
    rw [← g.sc]; rfl
  fnx := fun x h => h
  calm := g.calm
  tk := takesN0
  fac := g.fac
  room := g.room
  grd := fun z => (by cases z)
  hot := g.hot
  call := g.call
  hotf := g.hotf
theorem Step.updD {L L' : List Addr} {H H' : Hp} {z : Addr} {o : HO} (hz : H z = none) (s : Step L H L' H') : Step L H L' (upd H' z o) :=
  ⟨s.pre, fun a q e n => by
    have ne := ne_of_none e hz
    obtain ⟨k1, k2⟩ := s.keep a q e n
    exact ⟨by rw [upd_ne ne]; exact k1, k2⟩⟩
theorem Step.layD {L L' : List Addr} {H H' : Hp} {z : Addr} (hz : H z = none) (s : Step L H L' H') : Step L H (L' ++ [z]) H' := by
  refine ⟨?_, fun a q e n => ?_⟩
  · obtain ⟨m, e⟩ := s.pre
    exact ⟨m ++ [z], by rw [e, List.append_assoc]⟩
  · have ne := ne_of_none e hz
    obtain ⟨k1, k2⟩ := s.keep a q e n
    exact ⟨k1, by simp only [List.mem_append, List.mem_singleton, not_or]; exact ⟨k2, ne⟩⟩
theorem Step.goD {F L L' : List Addr} {H H' : Hp} {z : Addr} (hz : H z = none) (s : Step L H L' H') : Go F L H (z :: F) L' H' :=
  ⟨fun a q e nf n => by
    obtain ⟨k1, k2⟩ := s.keep a q e n
    exact ⟨k1, fun y => (List.mem_cons.mp y).elim (ne_of_none e hz) nf, k2⟩, fun n a h => s.get h⟩
theorem bad0 {F L : List Addr} {H : Hp} {W : WX} {σ : L2.St} : Bad t u F L H (fun _ _ => False) W σ := fun _ _ _ _ z => z.elim
theorem comp_rd {pr : Bool} {W : WX} {m : Bool} {own : List Nat} {tg it cond elt : E} (hslots : ∀ i ∈ slotsOf tg, i ∈ own) : ∀ σ H Q, tW t u C W (.comp m own tg it cond elt) σ H Q →
    tLc (tI t u C W pr it) (tG t u pr tg) (tT t u C WF cond) (tW t u C WF elt) own σ H Q := fun σ H Q hh => by
  obtain ⟨F, L, env, M, Φ, Ξ, he, hm, hw, hQ, hX⟩ := hh
  refine ⟨F, L, env, M, _, Ξ, he, hm, hw, fun src ds M1 L1 H1 J k1 s1 m1 hlen hJ => ?_, hX⟩
  obtain ⟨-, k1⟩ := stab_ok k1
  intro z hz
  have zF := m1.ninF hz
  refine ⟨fun i k H => k = ds.length - i ∧ i ≤ ds.length ∧ ∃ L' M' acc accD, Step L1 H1 L' H ∧ MRep t u (z :: F) L' H M' ∧ H z = some (.lst acc) ∧ VRepL t u (z :: F) L' H accD acc ∧ accD.length ≤ i ∧ (∀ n ∈ src, M'[n]? = M1[n]?) ∧
    compL (fun d M2 k => bindT tg d (kill own env) fun env1 =>
      wpT C cond env1 M2 (fun t M3 => c2 t (wp C elt env1 M3 (fun y M4 => stab src M1 M4 (k (some y) M4)) fun _ _ => False) (stab src M1 M3 (k none M3))) fun _ _ => False) (ds.drop i) M' (fun ys M5 => fresh m (accD ++ ys) M5 Φ), ?_, ?_⟩
  · refine ⟨_, rfl, Nat.zero_le _, L1, M1, [], [], Step.new hz, m1.openF hz, upd_same, rfl, Nat.le_refl _, fun _ _ => rfl, ?_⟩
    rw [List.drop_zero]
    exact k1
  · rintro i k H2 ⟨rfl, hi, L', M', acc, accD, st, m2, hz2, racc, hle, hsrc, hcomp⟩
    by_cases hlt : i < ds.length
    · right
      obtain ⟨jg, jy⟩ := hJ.go (z :: F) L' H2 M' (st.goD hz) m2 hsrc i hlt
      refine ⟨jg, fun H3 => (fun i k H => k = ds.length - i ∧ i ≤ ds.length ∧ ∃ L' M' acc accD, Step L1 H1 L' H ∧ MRep t u (z :: F) L' H M' ∧ H z = some (.lst acc) ∧ VRepL t u (z :: F) L' H accD acc ∧ accD.length ≤ i ∧ (∀ n ∈ src, M'[n]? = M1[n]?) ∧
        compL (fun d M2 k => bindT tg d (kill own env) fun env1 =>
          wpT C cond env1 M2 (fun t M3 => c2 t (wp C elt env1 M3 (fun y M4 => stab src M1 M4 (k (some y) M4)) fun _ _ => False) (stab src M1 M3 (k none M3))) fun _ _ => False) (ds.drop i) M' (fun ys M5 => fresh m (accD ++ ys) M5 Φ)) (i + 1) (ds.length - (i + 1)) H3, fun H3 h => ⟨_, by omega, h⟩, fun x H3 y => ?_⟩
      obtain ⟨st2, m3, hF, dd, hd, rd⟩ := jy x H3 y
      have hz3 : H3 z = some (.lst acc) := by rw [hF z List.mem_cons_self]; exact hz2
      have st3 := st.trans st2
      rw [List.drop_eq_getElem_cons hlt] at hcomp
      have ed : ds[i] = dd := by
        rw [List.getElem?_eq_getElem hlt] at hd
        exact Option.some.inj hd
      rw [ed] at hcomp
      have racc3 : VRepL t u (z :: F) L' H3 accD acc := VRepL.step st2 _ _ racc
      refine ⟨z :: F, L', kill own env, dd, _, (ERep.go (st3.goD hz) (he.step s1)).kill own, rd, hcomp, fun env' σ' hΨ hE hwipe => ⟨?_, ?_⟩⟩
      · rw [hwipe own hslots, wipe_wipe]
      · refine ⟨z :: F, L', env', M', _, _, hE, m3, hΨ, fun b M4 L4 H4 k4 s4 m4 => ?_, bad0⟩
        have st4 := st3.trans s4
        have nz4 := (m3.frb z List.mem_cons_self).1
        have hz4 : H4 z = some (.lst acc) := (s4.keep z _ hz3 nz4).1
        have racc4 : VRepL t u (z :: F) L4 H4 accD acc := VRepL.step s4 _ _ racc3
        cases b with
        | true =>
          refine iteT ⟨z :: F, L4, env', M4, _, _, hE.step s4, m4, k4.1 rfl, fun y M5 L5 H5 w k5 s5 m5 r5 => ?_, bad0⟩
          obtain ⟨k6, k7⟩ := stab_ok k5
          have nz5 := (m4.frb z List.mem_cons_self).1
          have hz5 : H5 z = some (.lst acc) := (s5.keep z _ hz4 nz5).1
          have racc5 : VRepL t u (z :: F) L5 H5 accD acc := VRepL.step s5 _ _ racc4
          have el := VRepL.len _ _ racc5
          refine ⟨acc, hz5, by rw [szL]; omega, rfl, hlt, L5, M5, acc ++ [w], accD ++ [y], (st4.trans s5).updD hz, m5.updF List.mem_cons_self, upd_same, VRepL.updF List.mem_cons_self _ _ (racc5.app ⟨w, [], rfl, r5, rfl⟩), by rw [List.length_append, List.length_singleton]; omega, k6, ?_⟩
          have e5 : (fun ys M5 => fresh m (accD ++ [y] ++ ys) M5 Φ) = (fun ys M5 => fresh m (accD ++ (match some y with | some y => y :: ys | none => ys)) M5 Φ) := by
            funext ys M5
            rw [List.append_assoc]; rfl
          rw [e5]
          exact k7
        | false =>
          obtain ⟨k6, k7⟩ := stab_ok (k4.2 rfl)
          exact iteF ⟨rfl, hlt, L4, M4, acc, accD, st4, m4, hz4, racc4, by omega, k6, k7⟩
    · left
      have e : i = ds.length := by omega
      subst e
      refine ⟨hJ.stop (z :: F) L' H2 M' (st.goD hz) m2 hsrc, ?_⟩
      rw [List.drop_length] at hcomp
      have hcomp : fresh m (accD ++ []) M' Φ := hcomp
      rw [List.append_nil] at hcomp
      have nz := (m2.frb z List.mem_cons_self).1
      cases m with
      | false => exact hQ _ M' L' H2 _ hcomp (s1.trans st) m2.lessF ⟨z, acc, rfl, hz2, zF, nz, VRepL.lessF _ _ racc⟩
      | true =>
        have e2 : upd H2 z (.lst acc) = H2 := upd_back hz2
        have m5 : MRep t u F (L' ++ [z]) (upd H2 z (.lst acc)) (M' ++ [.lst accD]) := m2.layF zF ⟨acc, upd_same, VRepL.mapV (fun d v h => h.go goLay) _ _ racc⟩
        rw [e2] at m5
        exact hQ _ _ (L' ++ [z]) H2 _ hcomp (s1.trans (st.layD hz)) m5 ⟨z, rfl, by rw [← m2.len]; simp⟩
theorem own_map {N : List Str} : ∀ {own : List Nat}, (own.all fun i => (N[i]?).isSome) = true → (own.filterMap fun i => (N[i]?).map fun x => (x, i)).map (fun p : Str × Nat => p.2) = own
  | [], _ => rfl
  | i :: r, h => by
    rw [List.all_cons, Bool.and_eq_true] at h
    obtain ⟨x, hx⟩ := Option.isSome_iff_exists.mp h.1
    rw [List.filterMap_cons, hx]
    show i :: (r.filterMap fun i => (N[i]?).map fun x => (x, i)).map (fun p : Str × Nat => p.2) = _
    rw [own_map h.2]
theorem comp_parts {W : WX} {c : Cc} {X : Cx} {tg cond elt : E} {el tgt : Expr} {ifs : List Expr} {scope : Scope} (ht : ST t u C cond) (he : SE t u C elt) (g : Gd t u C W c X)
    (h1 : chkG (c.inner scope) tg tgt = true) (h2 : chkE t (c.inner scope) elt el = true) (h3 : condB ifs (isNoneE cond) (fun q => chkT t (c.inner scope) cond q) = true) :
    (∀ (s : Shared) (H : Hp) (CC : Addr) (cl : List (Str × Addr)) (fp : List Addr), PG (X.blk s H scope (compEnvC scope cl CC X.env) fp) tgt (tG t u (isTupX tgt) tg)) ∧ (∀ (s : Shared) (H : Hp) (CC : Addr) (cl : List (Str × Addr)) (fp : List Addr), PTs (X.blk s H scope (compEnvC scope cl CC X.env) fp) ifs (tT t u C WF cond)) ∧
    (∀ (s : Shared) (H : Hp) (CC : Addr) (cl : List (Str × Addr)) (fp : List Addr), PE (X.blk s H scope (compEnvC scope cl CC X.env) fp) el (tW t u C WF elt)) := by
  refine ⟨fun s H CC cl fp => (g_ok _ _ WF g.blk tg).1 tgt h1, fun s H CC cl fp => ?_, fun s H CC cl fp => he WF _ _ el g.blk h2⟩
  match ifs, h3 with
  | [], h3 =>
    have h3 : isNoneE cond = true := h3
    have e : cond = .none := by cases cond <;> first | rfl | cases h3
    subst e
    refine pts_nil.imp fun σ H Q hh => ?_
    obtain ⟨F, L, env, M, Φ, Ξ, he, hm, hw, hQ, hX⟩ := hh
    exact hQ true M L H hw Step.refl hm
  | [q], h3 => exact pts_one (ht WF _ _ q g.blk h3)
  | _ :: _ :: _, h3 => cases h3
theorem s_comp {m : Bool} {own : List Nat} {tg it cond elt : E} (hi : SI t u C it) (ht : ST t u C cond) (he : SE t u C elt) : SE t u C (.comp m own tg it cond elt) := fun W c X x g h => by
  cases x with
  | ListComp el gs sc pos =>
    match gs, h with
    | [gg], h =>
      have h : (decide (gg.is_async = 0) && (own.all fun i => (c.N[i]?).isSome) && blkC c.N c.sc sc (own.filterMap fun i => (c.N[i]?).map fun x => (x, i)) && (slotsOf tg).all (fun i => own.contains i) && notSet gg.iter &&
        chkI t c it gg.target gg.iter && chkG (c.inner sc) tg gg.target && chkE t (c.inner sc) elt el &&
        condB gg.ifs (isNoneE cond) (fun q => chkT t (c.inner sc) cond q)) = true := h
      obtain ⟨tgt, iter, ifs, asy⟩ := gg
      simp only [Bool.and_eq_true, decide_eq_true_eq] at h
      obtain ⟨⟨⟨⟨⟨⟨⟨⟨h0, h1⟩, h2⟩, h3⟩, h4⟩, h5⟩, h6⟩, h7⟩, h8⟩ := h
      subst h0
      obtain ⟨p1, p2, p3⟩ := comp_parts ht he g h6 h7 h8
      have ok : BlkOk X.N X.env.scope sc (own.filterMap fun i => (c.N[i]?).map fun x => (x, i)) := by
        rw [g.N, g.sc]
        exact blkOk_by h2
      refine (pe_lc g.calm (by rw [g.N]; exact g.nd) (hi W c X tgt iter g h5) ok p1 p2 p3 (set_ns h4)).imp fun σ H Q hh => ?_
      have h9 : ∀ i ∈ slotsOf tg, i ∈ own := fun i hi => by
        have q := List.all_eq_true.mp h3 i hi
        simpa using q
      have e9 := own_map (N := c.N) h1
      rw [e9]
      exact comp_rd h9 σ H Q hh
    | [], h => cases h
    | _ :: _ :: _, h => cases h
  | _ => cases h
structure Snd (t : Tb) (u : At) (C : Calls) (e : E) : Prop where
  E : SE t u C e
  T : ST t u C e
  L : SL t u C e
  P : SP' t u C e
  K : SK t u C e
  I : SI t u C e
theorem noE {e : E} (h : ∀ (t : Tb) (c : Cc) (x : Expr), chkE t c e x = false) : SE t u C e := fun W c X x g q => by rw [h] at q; cases q
theorem noT {e : E} (h : ∀ (t : Tb) (c : Cc) (x : Expr), chkT t c e x = false) : ST t u C e := fun W c X x g q => by rw [h] at q; cases q
theorem noL {e : E} (h : ∀ (t : Tb) (c : Cc) (x : List Expr), chkL t c e x = false) : SL t u C e := fun W c X x g q => by rw [h] at q; cases q
theorem noP {e : E} (h : ∀ (t : Tb) (c : Cc) (x : Option Expr), chkP t c e x = false) : SP' t u C e := fun W c X x g q => by rw [h] at q; cases q
theorem noK {e : E} (h : ∀ (t : Tb) (c : Cc) (x : List (Option Expr)) (y : List Expr), chkK t c e x y = false) : SK t u C e := fun W c X x y p g q => by rw [h] at q; cases q
theorem noI {e : E} (h : ∀ (t : Tb) (c : Cc) (x y : Expr), chkI t c e x y = false) : SI t u C e := fun W c X x y g q => by rw [h] at q; cases q
theorem snd_all : ∀ e : E, Snd t u C e := by
  intro e
  induction e with
  | v i => exact ⟨s_v, noT fun _ _ _ => rfl, noL fun _ _ _ => rfl, noP fun _ _ _ => rfl, noK fun _ _ _ _ => rfl, noI fun _ _ _ _ => rfl⟩
  | ki i => exact ⟨s_ki, noT fun _ _ _ => rfl, noL fun _ _ _ => rfl, noP fun _ _ _ => rfl, noK fun _ _ _ _ => rfl, noI fun _ _ _ _ => rfl⟩
  | kb i => exact ⟨s_kb, noT fun _ _ _ => rfl, noL fun _ _ _ => rfl, noP fun _ _ _ => rfl, noK fun _ _ _ _ => rfl, noI fun _ _ _ _ => rfl⟩
  | kn => exact ⟨s_kn, noT fun _ _ _ => rfl, noL fun _ _ _ => rfl, noP fun _ _ _ => rfl, noK fun _ _ _ _ => rfl, noI fun _ _ _ _ => rfl⟩
  | ks i => exact ⟨s_ks, noT fun _ _ _ => rfl, noL fun _ _ _ => rfl, noP fun _ _ _ => rfl, noK fun _ _ _ _ => rfl, noI fun _ _ _ _ => rfl⟩
  | gi k i => exact ⟨s_gi, noT fun _ _ _ => rfl, noL fun _ _ _ => rfl, noP fun _ _ _ => rfl, noK fun _ _ _ _ => rfl, noI fun _ _ _ _ => rfl⟩
  | op o a b ha hb => exact ⟨s_op ha.E hb.E, noT fun _ _ _ => rfl, noL fun _ _ _ => rfl, noP fun _ _ _ => rfl, noK fun _ _ _ _ => rfl, noI fun _ _ _ _ => rfl⟩
  | addm a b ha hb => exact ⟨s_addm ha.E hb.E, noT fun _ _ _ => rfl, noL fun _ _ _ => rfl, noP fun _ _ _ => rfl, noK fun _ _ _ _ => rfl, noI fun _ _ _ _ => rfl⟩
  | rep m a b ha hb => exact ⟨s_rep ha.E hb.E, noT fun _ _ _ => rfl, noL fun _ _ _ => rfl, noP fun _ _ _ => rfl, noK fun _ _ _ _ => rfl, noI fun _ _ _ _ => rfl⟩
  | neg a ha => exact ⟨s_neg ha.E, noT fun _ _ _ => rfl, noL fun _ _ _ => rfl, noP fun _ _ _ => rfl, noK fun _ _ _ _ => rfl, noI fun _ _ _ _ => rfl⟩
  | cmp k a b ha hb => exact ⟨s_cmp ha.E hb.E, t_cmp ha.E hb.E, noL fun _ _ _ => rfl, noP fun _ _ _ => rfl, noK fun _ _ _ _ => rfl, noI fun _ _ _ _ => rfl⟩
  | chain k k' a b d ha hb hd => exact ⟨s_chain ha.E hb.E hd.E, t_chain ha.E hb.E hd.E, noL fun _ _ _ => rfl, noP fun _ _ _ => rfl, noK fun _ _ _ _ => rfl, noI fun _ _ _ _ => rfl⟩
  | and a b ha hb => exact ⟨s_and ha.E hb.E, t_and ha.T hb.T, noL fun _ _ _ => rfl, noP fun _ _ _ => rfl, noK fun _ _ _ _ => rfl, noI fun _ _ _ _ => rfl⟩
  | or a b ha hb => exact ⟨s_or ha.E hb.E, t_or ha.T hb.T, noL fun _ _ _ => rfl, noP fun _ _ _ => rfl, noK fun _ _ _ _ => rfl, noI fun _ _ _ _ => rfl⟩
  | not a ha => exact ⟨s_not ha.E, t_not ha.T, noL fun _ _ _ => rfl, noP fun _ _ _ => rfl, noK fun _ _ _ _ => rfl, noI fun _ _ _ _ => rfl⟩
  | ife k a b hk ha hb => exact ⟨s_ife hk.T ha.E hb.E, noT fun _ _ _ => rfl, noL fun _ _ _ => rfl, noP fun _ _ _ => rfl, noK fun _ _ _ _ => rfl, noI fun _ _ _ _ => rfl⟩
  | tup es h => exact ⟨s_tup h.L, noT fun _ _ _ => rfl, noL fun _ _ _ => rfl, noP fun _ _ _ => rfl, noK fun _ _ _ _ => rfl, noI fun _ _ _ _ => rfl⟩
  | lst m es h => exact ⟨s_lst h.L, noT fun _ _ _ => rfl, noL fun _ _ _ => rfl, noP fun _ _ _ => rfl, noK fun _ _ _ _ => rfl, noI fun _ _ _ _ => rfl⟩
  | nil => exact ⟨noE fun _ _ _ => rfl, noT fun _ _ _ => rfl, l_nil, noP fun _ _ _ => rfl, k_nil, noI fun _ _ _ _ => rfl⟩
  | cons a r ha hr => exact ⟨noE fun _ _ _ => rfl, noT fun _ _ _ => rfl, l_cons ha.E hr.L, noP fun _ _ _ => rfl, noK fun _ _ _ _ => rfl, noI fun _ _ _ _ => rfl⟩
  | ix a b ha hb => exact ⟨s_ix ha.E hb.E, noT fun _ _ _ => rfl, noL fun _ _ _ => rfl, noP fun _ _ _ => rfl, noK fun _ _ _ _ => rfl, noI fun _ _ _ _ => rfl⟩
  | sl a lo hi ha hl hh => exact ⟨s_sl ha.E hl.P hh.P, noT fun _ _ _ => rfl, noL fun _ _ _ => rfl, noP fun _ _ _ => rfl, noK fun _ _ _ _ => rfl, noI fun _ _ _ _ => rfl⟩
  | sst a lo hi st ha hl hh hst => exact ⟨s_sst ha.E hl.P hh.P hst.P, noT fun _ _ _ => rfl, noL fun _ _ _ => rfl, noP fun _ _ _ => rfl, noK fun _ _ _ _ => rfl, noI fun _ _ _ _ => rfl⟩
  | call f es h => exact ⟨s_call h.L, noT fun _ _ _ => rfl, noL fun _ _ _ => rfl, noP fun _ _ _ => rfl, noK fun _ _ _ _ => rfl, noI fun _ _ _ _ => rfl⟩
  | meth k f o es ho h => exact ⟨s_meth ho.E h.L, noT fun _ _ _ => rfl, noL fun _ _ _ => rfl, noP fun _ _ _ => rfl, noK fun _ _ _ _ => rfl, noI fun _ _ _ _ => rfl⟩
  | new k f nf es h => exact ⟨s_new h.L, noT fun _ _ _ => rfl, noL fun _ _ _ => rfl, noP fun _ _ _ => rfl, noK fun _ _ _ _ => rfl, noI fun _ _ _ _ => rfl⟩
  | b1 k m a ha => exact ⟨s_b1 ha.E, noT fun _ _ _ => rfl, noL fun _ _ _ => rfl, noP fun _ _ _ => rfl, noK fun _ _ _ _ => rfl, noI fun _ _ _ _ => rfl⟩
  | b2 k a b ha hb => exact ⟨s_b2 ha.E hb.E, noT fun _ _ _ => rfl, noL fun _ _ _ => rfl, noP fun _ _ _ => rfl, noK fun _ _ _ _ => rfl, noI fun _ _ _ _ => rfl⟩
  | lof m a ha => exact ⟨s_lof ha.E, noT fun _ _ _ => rfl, noL fun _ _ _ => rfl, noP fun _ _ _ => rfl, noK fun _ _ _ _ => rfl, noI fun _ _ _ _ => rfl⟩
  | bm k o es ho h => exact ⟨s_bm ho.E h.L, noT fun _ _ _ => rfl, noL fun _ _ _ => rfl, noP fun _ _ _ => rfl, noK fun _ _ _ _ => rfl, noI fun _ _ _ _ => rfl⟩
  | comp m own tg it cond elt _ hi hc he => exact ⟨s_comp hi.I hc.T he.E, noT fun _ _ _ => rfl, noL fun _ _ _ => rfl, noP fun _ _ _ => rfl, noK fun _ _ _ _ => rfl, noI fun _ _ _ _ => rfl⟩
  | attr o f ho => exact ⟨s_attr ho.E, noT fun _ _ _ => rfl, noL fun _ _ _ => rfl, noP fun _ _ _ => rfl, noK fun _ _ _ _ => rfl, noI fun _ _ _ _ => rfl⟩
  | dict es h => exact ⟨s_dict h.K, noT fun _ _ _ => rfl, noL fun _ _ _ => rfl, noP fun _ _ _ => rfl, noK fun _ _ _ _ => rfl, noI fun _ _ _ _ => rfl⟩
  | pair a b r ha hb hr => exact ⟨noE fun _ _ _ => rfl, noT fun _ _ _ => rfl, noL fun _ _ _ => rfl, noP fun _ _ _ => rfl, k_pair ha.E hb.E hr.K, noI fun _ _ _ _ => rfl⟩
  | isi a ty ha => exact ⟨s_isi ha.E, noT fun _ _ _ => rfl, noL fun _ _ _ => rfl, noP fun _ _ _ => rfl, noK fun _ _ _ _ => rfl, noI fun _ _ _ _ => rfl⟩
  | rng1 a ha => exact ⟨noE fun _ _ _ => rfl, noT fun _ _ _ => rfl, noL fun _ _ _ => rfl, noP fun _ _ _ => rfl, noK fun _ _ _ _ => rfl, i_rng1 ha.E⟩
  | rng2 a b ha hb => exact ⟨noE fun _ _ _ => rfl, noT fun _ _ _ => rfl, noL fun _ _ _ => rfl, noP fun _ _ _ => rfl, noK fun _ _ _ _ => rfl, i_rng2 ha.E hb.E⟩
  | enum a ha => exact ⟨noE fun _ _ _ => rfl, noT fun _ _ _ => rfl, noL fun _ _ _ => rfl, noP fun _ _ _ => rfl, noK fun _ _ _ _ => rfl, i_enum ha.E⟩
  | zip a b ha hb => exact ⟨noE fun _ _ _ => rfl, noT fun _ _ _ => rfl, noL fun _ _ _ => rfl, noP fun _ _ _ => rfl, noK fun _ _ _ _ => rfl, i_zip ha.E hb.E⟩
  | zipm a b ha hb => exact ⟨noE fun _ _ _ => rfl, noT fun _ _ _ => rfl, noL fun _ _ _ => rfl, noP fun _ _ _ => rfl, noK fun _ _ _ _ => rfl, i_zipm ha.E hb.E⟩
  | enumz a b ha hb => exact ⟨noE fun _ _ _ => rfl, noT fun _ _ _ => rfl, noL fun _ _ _ => rfl, noP fun _ _ _ => rfl, noK fun _ _ _ _ => rfl, i_enumz ha.E hb.E⟩
  | trng a b ha hb => exact ⟨s_trng ha.E hb.E, noT fun _ _ _ => rfl, noL fun _ _ _ => rfl, noP fun _ _ _ => rfl, noK fun _ _ _ _ => rfl, noI fun _ _ _ _ => rfl⟩
  | rev a ha => exact ⟨s_rev ha.E, noT fun _ _ _ => rfl, noL fun _ _ _ => rfl, noP fun _ _ _ => rfl, noK fun _ _ _ _ => rfl, noI fun _ _ _ _ => rfl⟩
  | dctp a ha => exact ⟨s_dctp ha.E, noT fun _ _ _ => rfl, noL fun _ _ _ => rfl, noP fun _ _ _ => rfl, noK fun _ _ _ _ => rfl, noI fun _ _ _ _ => rfl⟩
  | cat tab a b ha hb => exact ⟨s_cat ha.E hb.E, noT fun _ _ _ => rfl, noL fun _ _ _ => rfl, noP fun _ _ _ => rfl, noK fun _ _ _ _ => rfl, noI fun _ _ _ _ => rfl⟩
  | lset a ha => exact ⟨s_lset ha.E, noT fun _ _ _ => rfl, noL fun _ _ _ => rfl, noP fun _ _ _ => rfl, noK fun _ _ _ _ => rfl, noI fun _ _ _ _ => rfl⟩
  | rpr a ha => exact ⟨s_rpr ha.E, noT fun _ _ _ => rfl, noL fun _ _ _ => rfl, noP fun _ _ _ => rfl, noK fun _ _ _ _ => rfl, noI fun _ _ _ _ => rfl⟩
  | mint a ha => exact ⟨s_mint ha.E, noT fun _ _ _ => rfl, noL fun _ _ _ => rfl, noP fun _ _ _ => rfl, noK fun _ _ _ _ => rfl, noI fun _ _ _ _ => rfl⟩
  | none => exact ⟨noE fun _ _ _ => rfl, noT fun _ _ _ => rfl, noL fun _ _ _ => rfl, p_none, noK fun _ _ _ _ => rfl, noI fun _ _ _ _ => rfl⟩
  | w a ha => exact ⟨noE fun _ _ _ => rfl, t_w ha.E, noL fun _ _ _ => rfl, p_w ha.E, noK fun _ _ _ _ => rfl, i_w ha.E⟩
end
end Z
set_option Elab.async false
set_option linter.all false
set_option maxRecDepth 100000
set_option maxHeartbeats 1000000
namespace Z
open PySem PySem.Spec PyProof.Rows L2
def rSetA : TSet := fun o i v H Q => rSetL o i v H Q ∨ rSetD o i v H Q
theorem set_any {X : Cx} (hu : X.A.units + 1 < cLine) : PSet X rSetA := by
  intro pins s σ H o i v ov iv u Q I ro ri rv h
  rcases h with h | h
  · exact set_list pins s σ H o i v ov iv u Q I ro ri rv h
  · exact set_dict hu pins s σ H o i v ov iv u Q I ro ri rv h
theorem _root_.L2.PS.imp {X : Cx} {e : Stmt} {te te' : TS} (h : PS X e te) (f : ∀ D σ H, te' D σ H → te D σ H) : PS X e te' := ⟨fun pins s σ H D I q => h.run pins s σ H D I (f D σ H q)⟩
theorem _root_.L2.PSs.imp {X : Cx} {e : List Stmt} {te te' : TS} (h : PSs X e te) (f : ∀ D σ H, te' D σ H → te D σ H) : PSs X e te' := ⟨fun pins s σ H D I q => h.run pins s σ H D I (f D σ H q)⟩
theorem pmk_own0 {X : Cx} {C : Addr} {bmB : List Value} {B newId initId : String} {x : Str} {p pos : Pos} (F : ExcBaseFacts B newId initId bmB) (q : PySem.W.excIn X.K C bmB newId = true) (gC : X.mg x = some (.ref C))
    (kC : PySem.W.keepIn X.K (.ref C) = true) (r : Raises X (.ref C)) (hg : Gl X x) (hdb : (x == ("__debug__" : Str)) = false) :
    L2N.PMk X (.Call (.Name x p) [] [] pos) (fun σ H Q => Q (.ref C) none H) := by
  intro pins s σ H Q I h
  refine wpAny_Call_Name_kw (ld_glob I hg gC ?_ hdb)
  refine PySem.W.callWith_K0 I.kIn kC ?_
  show wpAny _ _ (call (.ref C) []) _ _ _
  obtain ⟨bm, N, nm, qn, bs, hdct, sn, sub, ab, col, dd, k0, k1, k2, k3, k5, mN, hC, hN, hni, T⟩ := exc_obj I.kIn q
  refine wpAny_call_exc_subT F T hC hN hni (fun h' e hm => ?_) (Nat.zero_le _)
  exact L2N.mk_of I hm r h (I.hok.gone hm.new)
section
variable {t : Tb} {u : At} {C : Calls} {a b d e r es : E}
mutual
theorem VRep.trunc {F L : List Addr} {H : Hp} (k : Nat) : ∀ (d : D) (v : V), d.bel k = true → VRep t u F L H d v → VRep t u F (L.take k) H d v
  | .non, _, _, h => h
  | .bl _, _, _, h => h
  | .int _, _, _, h => h
  | .str _, _, _, h => h
  | .tup ds, _, hb, h => by
    obtain ⟨a, vs, e, h1, n1, n2, rr⟩ := h
    exact ⟨a, vs, e, h1, n1, fun z => n2 (List.mem_of_mem_take z), VRepL.trunc k ds vs hb rr⟩
  | .lst ds, _, hb, h => by
    obtain ⟨a, vs, e, h1, n1, n2, rr⟩ := h
    exact ⟨a, vs, e, h1, n1, fun z => n2 (List.mem_of_mem_take z), VRepL.trunc k ds vs hb rr⟩
  | .scr ds, _, hb, h => by
    obtain ⟨a, vs, e, h1, rr⟩ := h
    refine ⟨a, vs, e, ?_, VRepL.trunc k ds vs hb rr⟩
    rcases h1 with ⟨h1, n1, n2⟩ | h1
    · exact .inl ⟨h1, n1, fun z => n2 (List.mem_of_mem_take z)⟩
    · exact .inr h1
  | .ref n, _, hb, h => by
    obtain ⟨a, e, h1⟩ := h
    have hb : n < k := of_decide_eq_true hb
    exact ⟨a, e, by rw [List.getElem?_take_of_lt hb]; exact h1⟩
  | .rep _, _, _, h => h
theorem VRepL.trunc {F L : List Addr} {H : Hp} (k : Nat) : ∀ (ds : List D) (vs : List V), D.belL k ds = true → VRepL t u F L H ds vs → VRepL t u F (L.take k) H ds vs
  | [], _, _, h => h
  | d :: ds, _, hb, h => by
    obtain ⟨v, r, e, h1, h2⟩ := h
    have hb : (D.bel k d && D.belL k ds) = true := hb
    rw [Bool.and_eq_true] at hb
    exact ⟨v, r, e, VRep.trunc k d v hb.1 h1, VRepL.trunc k ds r hb.2 h2⟩
end
theorem KRep.trunc {F L : List Addr} {H : Hp} (k : Nat) : ∀ (ps : List (Ky × D)) (ws : List (Key × V)), D.belL k (ps.map (·.2)) = true → KRep t u F L H ps ws → KRep t u F (L.take k) H ps ws
  | [], _, _, h => h
  | p :: ps, _, hb, h => by
    obtain ⟨q, v, r, e, h1, h2, h3⟩ := h
    have hb : (D.bel k p.2 && D.belL k (ps.map (·.2))) = true := hb
    rw [Bool.and_eq_true] at hb
    exact ⟨q, v, r, e, h1, VRep.trunc k _ _ hb.1 h2, KRep.trunc k ps r hb.2 h3⟩
theorem ERep.trunc {F L : List Addr} {H : Hp} {env : Env} {σ : L2.St} (k : Nat) (hb : env.all (obel k) = true) (r : ERep t u F L H env σ) : ERep t u F (L.take k) H env σ := by
  refine ⟨r.len, fun i d h => ?_⟩
  obtain ⟨v, h1, h2⟩ := r.at_ i d h
  have hd : obel k (some d) = true := List.all_eq_true.mp hb _ (List.mem_of_getElem? h)
  exact ⟨v, h1, VRep.trunc k d v hd h2⟩
theorem MRep.trunc {F L : List Addr} {H : Hp} {M : Mem} (k : Nat) (hb : (M.take k).all (O.bel k) = true) (r : MRep t u F L H M) : MRep t u F (L.take k) H (M.take k) := by
  refine ⟨by rw [List.length_take, List.length_take, r.len], r.nd.sublist (List.take_sublist _ _), fun a ha => ?_, fun n a o h1 h2 => ?_⟩
  · obtain ⟨n, q⟩ := r.frb a ha
    exact ⟨fun z => n (List.mem_of_mem_take z), q⟩
  · have hn : n < k := by
      have z := (List.getElem?_eq_some_iff.mp h1).1
      rw [List.length_take] at z
      omega
    have ho : O.bel k o = true := List.all_eq_true.mp hb _ (List.mem_of_getElem? h2)
    rw [List.getElem?_take_of_lt hn] at h1 h2
    have q := r.at_ n a o h1 h2
    cases o with
    | lst ds =>
      obtain ⟨vs, e, rr⟩ := q
      exact ⟨vs, e, VRepL.trunc k _ _ ho rr⟩
    | dct kvs =>
      obtain ⟨ws, e, rr⟩ := q
      exact ⟨ws, e, KRep.trunc k _ _ ho rr⟩
    | ins c fs =>
      obtain ⟨dx, fs', nm, e, hn, rr⟩ := q
      refine ⟨dx, fs', nm, e, hn, rr.len, rr.nd, rr.sub, fun i x d h3 h4 => ?_⟩
      obtain ⟨v, h5, h6⟩ := rr.at_ i x d h3 h4
      have hd : obel k (some d) = true := List.all_eq_true.mp ho _ (List.mem_of_getElem? h4)
      exact ⟨v, h5, VRep.trunc k d v hd h6⟩
theorem Step.cut {L L' : List Addr} {H H' : Hp} (s : Step L H L' H') : L'.take L.length = L ∧ Step L H L H' := by
  obtain ⟨m, e⟩ := s.pre
  refine ⟨by rw [e, List.take_left], ⟨[], by simp⟩, fun a o h n => ?_⟩
  exact ⟨(s.keep a o h n).1, n⟩
theorem gcS_ok {F L1 L : List Addr} {H1 H : Hp} {M1 M : Mem} {gc : Bool} {env : Env} {σ : L2.St} {P : Mem → Prop} (m1 : MRep t u F L1 H1 M1) (s : Step L1 H1 L H) (m : MRep t u F L H M) (he : ERep t u F L H env σ) (h : gcS gc M1.length env M P) :
    ∃ L' M', Step L1 H1 L' H ∧ MRep t u F L' H M' ∧ ERep t u F L' H env σ ∧ P M' ∧ ∀ n : Nat, M[n]? = M1[n]? → M'[n]? = M1[n]? := by
  cases gc with
  | false => exact ⟨L, M, s, m, he, h, fun n e => e⟩
  | true =>
    obtain ⟨h1, h2, h3, h4⟩ := h
    obtain ⟨e, s'⟩ := s.cut
    rw [m1.len] at e
    have m' := m.trunc M1.length h3
    have he' := he.trunc M1.length h2
    rw [e] at m' he'
    refine ⟨L1, _, s', m', he', h4, fun n e2 => ?_⟩
    by_cases hn : n < M1.length
    · rw [List.getElem?_take_of_lt hn]; exact e2
    · rw [List.getElem?_eq_none (by rw [List.length_take]; omega), List.getElem?_eq_none (by omega)]
theorem gcR_ok {F L1 L : List Addr} {H1 H : Hp} {M1 M : Mem} {gc : Bool} {d : D} {v : V} {P : Mem → Prop} (m1 : MRep t u F L1 H1 M1) (s : Step L1 H1 L H) (m : MRep t u F L H M) (r : VRep t u F L H d v) (h : gcR gc M1.length d M P) :
    ∃ L' M', Step L1 H1 L' H ∧ MRep t u F L' H M' ∧ VRep t u F L' H d v ∧ P M' := by
  cases gc with
  | false => exact ⟨L, M, s, m, r, h⟩
  | true =>
    obtain ⟨h1, h2, h3, h4⟩ := h
    obtain ⟨e, s'⟩ := s.cut
    rw [m1.len] at e
    have m' := m.trunc M1.length h3
    have r' := VRep.trunc M1.length d v h2 r
    rw [e] at m' r'
    exact ⟨L1, _, s', m', r', h4⟩
theorem gcX_ok {F L1 L : List Addr} {H1 H : Hp} {M1 M : Mem} {gc : Bool} {P : Mem → Prop} (m1 : MRep t u F L1 H1 M1) (s : Step L1 H1 L H) (m : MRep t u F L H M) (h : gcX gc M1.length M P) :
    ∃ L' M', Step L1 H1 L' H ∧ MRep t u F L' H M' ∧ P M' := by
  cases gc with
  | false => exact ⟨L, M, s, m, h⟩
  | true =>
    obtain ⟨h1, h3, h4⟩ := h
    obtain ⟨e, s'⟩ := s.cut
    rw [m1.len] at e
    have m' := m.trunc M1.length h3
    rw [e] at m'
    exact ⟨L1, _, s', m', h4⟩
end
def isStarX : Expr → Bool
  | .Starred .. => true
  | _ => false
def swNm (sc : Scope) (line : Nat) : Expr → Option Str
  | .Name id pos => if (sc.names.lookup id == some .local && pos.line == line) = true then some id else none
  | _ => none
def swC (sc : Scope) (ts vs : List Expr) : Option (Option (List Str)) :=
  if (!(ts.length == 2 || ts.length == 3) || vs.length != ts.length) = true then some none
  else if vs.any isStarX = true then some none
  else if ((ts.filterMap (swNm sc ((ts.head?.map (·.pos.line)).getD 0))).length != ts.length || (ts.filterMap (swNm sc ((ts.head?.map (·.pos.line)).getD 0))).eraseDups.length != (ts.filterMap (swNm sc ((ts.head?.map (·.pos.line)).getD 0))).length) = true then some none
  else if vs.all (foldedForSure 8) = true then some none
  else if vs.all (constantsAlone 8) = true then none
  else some (some (ts.filterMap (swNm sc ((ts.head?.map (·.pos.line)).getD 0))))
def isFnK (sc : Scope) : Bool := match sc.kind with
  | .function => true
  | _ => false
theorem blockKind_of {env : PySem.Env} (h : isFnK env.scope = true) : env.blockKind = .function := by
  unfold isFnK at h
  unfold Env.blockKind
  split at h
  · rename_i e; rw [e]; rfl
  · cases h
theorem swap_ok {env : PySem.Env} {ts vs : List Expr} {kt k2 : Nat} {pt p2 : Pos} {o : Option (List Str)} (hk : isFnK env.scope = true) (h : swC env.scope ts vs = some o) : swappedStores [.Tuple ts kt pt] (.Tuple vs k2 p2) env = pure o := by
  have hb := blockKind_of hk
  unfold swC at h
  have bb : (env.blockKind != .function) = false := by rw [hb]; rfl
  have e0 : swappedStores [.Tuple ts kt pt] (.Tuple vs k2 p2) env = (
      if (!(ts.length == 2 || ts.length == 3) || vs.length != ts.length || env.blockKind != .function) = true then pure none
      else if vs.any isStarX = true then pure none
      else if ((ts.filterMap (swNm env.scope ((ts.head?.map (·.pos.line)).getD 0))).length != ts.length || (ts.filterMap (swNm env.scope ((ts.head?.map (·.pos.line)).getD 0))).eraseDups.length != (ts.filterMap (swNm env.scope ((ts.head?.map (·.pos.line)).getD 0))).length) = true then pure none
      else if vs.all (foldedForSure 8) = true then pure none
      else do
        if vs.all (constantsAlone 8) = true then unsupported "assign.tuple-of-constant-expressions:order-of-the-stores"
        pure (some (ts.filterMap (swNm env.scope ((ts.head?.map (·.pos.line)).getD 0))))) := rfl
  rw [e0, bb, Bool.or_false]
  split at h
  · rename_i q
    cases h
    rw [if_pos q]
  · rename_i q
    rw [if_neg q]
    split at h
    · rename_i q2
      cases h
      rw [if_pos q2]
    · rename_i q2
      rw [if_neg q2]
      split at h
      · rename_i q3
        cases h
        rw [if_pos q3]
      · rename_i q3
        rw [if_neg q3]
        split at h
        · rename_i q4
          cases h
          rw [if_pos q4]
        · rename_i q4
          rw [if_neg q4]
          split at h
          · cases h
          · rename_i q5
            cases h
            rw [if_neg q5]
end Z
set_option Elab.async false
set_option linter.all false
set_option maxRecDepth 100000
set_option maxHeartbeats 1000000
namespace Z
open PySem PySem.Spec PyProof.Rows L2
def chkA (t : Tb) (c : Cc) : E → Expr → Bool
  | .v i, a => match a with
    | .Name x _ => (c.N[i]? == some x) && sto c x
    | _ => false
  | .tup es, a => match a with
    | .Tuple as _ _ => chkAs t c es as
    | _ => false
  | .ix o i, a => match a with
    | .Subscript l r _ => notSlice r && chkE t c o l && chkE t c i r
    | _ => false
  | _, _ => false
where chkAs (t : Tb) (c : Cc) : E → List Expr → Bool
  | .nil, as => match as with
    | [] => true
    | _ => false
  | .cons a r, as => match as with
    | x :: xs => notStar x && chkA t c a x && chkAs t c r xs
    | _ => false
  | _, _ => false
section
variable (t : Tb) (u : At) (C : Calls) (W : WX)
def tGW (e : E) : TG := fun v σ H Q => ∃ F L env M d Ψ, ERep t u F L H env σ ∧ MRep t u F L H M ∧ VRep t u F L H d v ∧ wpG C e d env M Ψ (fun _ _ => False) ∧
  ∀ env' M' L' H' σ', Ψ env' M' → Step L H L' H' → MRep t u F L' H' M' → ERep t u F L' H' env' σ' → Q σ' H'
def tGWs (e : E) : TGs := fun vs σ H Q => ∃ F L env M ds Ψ, ERep t u F L H env σ ∧ MRep t u F L H M ∧ VRepL t u F L H ds vs ∧ wpG C e (.tup ds) env M Ψ (fun _ _ => False) ∧
  ∀ env' M' L' H' σ', Ψ env' M' → Step L H L' H' → MRep t u F L' H' M' → ERep t u F L' H' env' σ' → Q σ' H'
structure EndOk (F L : List Addr) (H : Hp) (K : Z.Ends) (D : L2.Ends) : Prop where
  nx : ∀ env' M' L' H' σ', K.nx env' M' → Step L H L' H' → MRep t u F L' H' M' → ERep t u F L' H' env' σ' → D.nx σ' H'
  rt : ∀ d M' L' H' v, K.rt d M' → Step L H L' H' → MRep t u F L' H' M' → VRep t u F L' H' d v → D.rt v H'
  bk : ∀ env' M' L' H' σ', K.bk env' M' → Step L H L' H' → MRep t u F L' H' M' → ERep t u F L' H' env' σ' → D.bk σ' H'
  ct : ∀ env' M' L' H' σ', K.ct env' M' → Step L H L' H' → MRep t u F L' H' M' → ERep t u F L' H' env' σ' → D.ct σ' H'
  ex : ∀ c env' M' L' H' σ', K.ex c env' M' → Step L H L' H' → MRep t u F L' H' M' → ERep t u F L' H' env' σ' → W (.ref (u.ea c)) none σ' H'
def tS (s : S) : TS := fun D σ H => ∃ F L env M K, ERep t u F L H env σ ∧ MRep t u F L H M ∧ wpS C s env M K ∧ EndOk t u W F L H K D
end
section
variable {t : Tb} {u : At} {C : Calls} {W : WX} {a b d e r es : E}
theorem EndOk.step {F L L1 : List Addr} {H H1 : Hp} {K : Z.Ends} {D : L2.Ends} (s : Step L H L1 H1) (h : EndOk t u W F L H K D) : EndOk t u W F L1 H1 K D where
  nx := fun env' M' L' H' σ' a b => h.nx env' M' L' H' σ' a (s.trans b)
  rt := fun d M' L' H' v a b => h.rt d M' L' H' v a (s.trans b)
  bk := fun env' M' L' H' σ' a b => h.bk env' M' L' H' σ' a (s.trans b)
  ct := fun env' M' L' H' σ' a b => h.ct env' M' L' H' σ' a (s.trans b)
  ex := fun c env' M' L' H' σ' a b => h.ex c env' M' L' H' σ' a (s.trans b)
theorem EndOk.bad {F L : List Addr} {H : Hp} {K : Z.Ends} {D : L2.Ends} {env : Env} {σ : L2.St} (h : EndOk t u W F L H K D) (he : ERep t u F L H env σ) : Bad t u F L H (fun c m => K.ex c env m) W σ :=
  fun c M' L' H' a b m => h.ex c env M' L' H' σ a b m (he.step b)
theorem setD_ok (K : TxtOk t) {F L : List Addr} {H : Hp} {M : Mem} {x y d : D} {v w z : V} {P : Mem → Prop} {Q : Hp → Prop} (m : MRep t u F L H M) (rx : VRep t u F L H x v) (ry : VRep t u F L H y w) (rd : VRep t u F L H d z) (h : setD M x y d P)
    (hQ : ∀ M' H', P M' → Step L H L H' → MRep t u F L H' M' → Q H') : rSetA v w z H Q := by
  obtain ⟨n, en, h2⟩ := ifRef_ex h
  subst en
  clear h
  have h := h2
  clear h2
  split at h
  · rename_i ds hM
    obtain ⟨p, vs, rfl, hn, hp, rr⟩ := ref_ls m rx hM
    obtain ⟨j, rfl, k, hk, h⟩ := ifInt_ex h
    obtain rfl : w = .int j := ry
    have st : Step L H L (upd H p (.lst (vs.set k z))) := Step.mut (List.mem_of_getElem? hn)
    refine .inl ⟨p, vs, j, k, rfl, rfl, hp, ?_, hQ _ _ h st (m.mut hn ⟨_, upd_same, VRepL.step st _ _ (VRepL.set rd k rr)⟩)⟩
    rw [← VRepL.len _ _ rr]
    exact hk
  · rename_i kvs hM
    obtain ⟨p, ws, rfl, hn, hp, rr⟩ := ref_dc m rx hM
    obtain ⟨k, hk, h1, h⟩ := ifKy_ex h
    obtain ⟨k', hk', rfl⟩ := ky_of ry hk
    have st : Step L H L (upd H p (.dK (putK ws k' z))) := Step.mut (List.mem_of_getElem? hn)
    refine .inr ⟨p, _, rfl, .inl ⟨ws, k', hp, rfl, by rw [← KRep.len rr, szL]; exact h1, rfl⟩, hQ _ _ h st (m.mut hn ⟨_, upd_same, KRep.step st _ _ (KRep.put K hk' rd rr)⟩)⟩
  · exact h.elim
theorem as_len {c : Cc} {env : PySem.Env} : ∀ {es : E} {as : List Expr}, chkA.chkAs t c es as = true → (assignEach as env).length = as.length ∧ (assignEach as env).findIdx? (·.1) = none := by
  intro es
  induction es with
  | nil =>
    intro as h
    cases as with
    | nil => exact ⟨rfl, rfl⟩
    | cons x xs => cases h
  | cons a r _ ih =>
    intro as h
    cases as with
    | nil => cases h
    | cons x xs =>
      have h : (notStar x && chkA t c a x && chkA.chkAs t c r xs) = true := h
      simp only [Bool.and_eq_true] at h
      obtain ⟨q1, q2⟩ := ih h.2
      rw [asg_ns h.1.1]
      refine ⟨by rw [List.length_cons, List.length_cons, q1], ?_⟩
      rw [List.findIdx?_cons]
      simp only [Bool.false_eq_true, if_false]
      rw [q2]; rfl
  | _ => intro as h; cases h
theorem as_elen {c : Cc} : ∀ {es : E} {as : List Expr}, chkA.chkAs t c es as = true → elen es = as.length := by
  intro es
  induction es with
  | nil =>
    intro as h
    cases as with
    | nil => rfl
    | cons x xs => cases h
  | cons a r _ ih =>
    intro as h
    cases as with
    | nil => cases h
    | cons x xs =>
      have h : (notStar x && chkA t c a x && chkA.chkAs t c r xs) = true := h
      simp only [Bool.and_eq_true] at h
      show elen r + 1 = _
      rw [ih h.2]; rfl
  | _ => intro as h; cases h
theorem ga_ok (c : Cc) (X : Cx) (g : Gd t u C W c X) : ∀ e : E, (∀ a, chkA t c e a = true → PG X a (tGW t u C e)) ∧ (∀ as, chkA.chkAs t c e as = true → PGs X as (tGWs t u C e)) := by
  intro e
  induction e with
  | v i =>
    refine ⟨fun a h => ?_, fun as h => (by cases h)⟩
    cases a with
    | Name x pos =>
      have h : ((c.N[i]? == some x) && sto c x) = true := h
      simp only [Bool.and_eq_true, beq_iff_eq] at h
      obtain ⟨h1, h2⟩ := h
      obtain ⟨l1, l2⟩ := sto_of g h2
      refine (pg_name (i := i) (by rw [g.N]; exact g.nd) (by rw [g.N]; exact h1) l1 l2).imp fun v σ H Q hh => ?_
      obtain ⟨F, L, env, M, d, Ψ, he, hm, hv, hb, hQ⟩ := hh
      exact hQ _ M L H _ hb Step.refl hm (he.set hv i)
    | _ => cases h
  | tup es ih =>
    refine ⟨fun a h => ?_, fun as h => (by cases h)⟩
    cases a with
    | Tuple as k pos =>
      have h : chkA.chkAs t c es as = true := h
      obtain ⟨e1, e2⟩ := as_len (env := X.env) h
      refine (pg_tup (n := as.length) g.calm (ih.2 as h) e1 e2).imp fun v σ H Q hh => ?_
      obtain ⟨F, L, env, M, d, Ψ, he, hm, hv, hb, hQ⟩ := hh
      cases d with
      | tup ds =>
        obtain ⟨hl, hb⟩ : elen es = ds.length ∧ wpG C es (.tup ds) env M Ψ (fun _ _ => False) := hb
        obtain ⟨p, vs, rfl, h1, n1, n2, rr⟩ := hv
        refine ⟨p, vs, rfl, .inl h1.rd, ?_, F, L, env, M, ds, Ψ, he, hm, rr, hb, hQ⟩
        rw [← VRepL.len _ _ rr, ← hl]
        exact as_elen h
      | _ => exact (show False from hb).elim
    | _ => cases h
  | ix o i _ _ =>
    refine ⟨fun a h => ?_, fun as h => (by cases h)⟩
    cases a with
    | Subscript l r pos =>
      have h : (notSlice r && chkE t c o l && chkE t c i r) = true := h
      simp only [Bool.and_eq_true] at h
      obtain ⟨⟨h1, h2⟩, h3⟩ := h
      have ha : ∀ v, assign (.Subscript l r pos) X.env v = (do
          let ov ← holding [v] (eval l X.env)
          let iv ← holding [v, ov] (eval r X.env)
          standAt pos
          holding [v, ov, iv] (setItem ov iv v)
          release [v, ov, iv] []) := by
        intro v
        cases r <;> first | rfl | cases h1
      refine (pg_sub ((snd_all o).E W c X l g h2) ((snd_all i).E W c X r g h3) (set_any g.hu1) ha).imp fun v σ H Q hh => ?_
      obtain ⟨F, L, env, M, d, Ψ, he, hm, hv, hb, hQ⟩ := hh
      refine ⟨F, L, env, M, _, _, he, hm, hb, fun x M1 L1 H1 w k1 s1 m1 r1 => ⟨F, L1, env, M1, _, _, he.step s1, m1, k1, fun y M2 L2 H2 w2 k2 s2 m2 r2 => ?_, bad0⟩, bad0⟩
      exact setD_ok g.fac.txt m2 (VRep.step s2 _ _ r1) r2 (VRep.step (s1.trans s2) _ _ hv) k2 fun M3 H3 k3 s3 m3 => hQ env M3 L2 H3 σ k3 (s1.trans (s2.trans s3)) m3 (he.step (s1.trans (s2.trans s3)))
    | _ => cases h
  | nil =>
    refine ⟨fun a h => (by cases h), fun as h => ?_⟩
    cases as with
    | nil =>
      refine pgs_nil.imp fun vs σ H Q hh => ?_
      obtain ⟨F, L, env, M, ds, Ψ, he, hm, hv, hb, hQ⟩ := hh
      cases ds with
      | nil =>
        obtain rfl : vs = [] := hv
        exact ⟨rfl, hQ _ M L H _ hb Step.refl hm he⟩
      | cons _ _ => exact (show False from hb).elim
    | cons x xs => cases h
  | cons a r iha ihr =>
    refine ⟨fun a h => (by cases h), fun as h => ?_⟩
    cases as with
    | nil => cases h
    | cons x xs =>
      have h : (notStar x && chkA t c a x && chkA.chkAs t c r xs) = true := h
      simp only [Bool.and_eq_true] at h
      refine (pgs_cons (iha.1 x h.1.2) (ihr.2 xs h.2) (by rw [asg_ns h.1.1]; rfl)).imp fun vs σ H Q hh => ?_
      obtain ⟨F, L, env, M, ds, Ψ, he, hm, hv, hb, hQ⟩ := hh
      cases ds with
      | nil => exact (show False from hb).elim
      | cons d ds =>
        obtain ⟨v, vr, rfl, r1, r2⟩ := hv
        refine ⟨v, vr, rfl, F, L, env, M, d, _, he, hm, r1, hb, fun env' M' L' H' σ' k1 s1 m1 he' => ?_⟩
        exact ⟨F, L', env', M', ds, Ψ, he', m1, VRepL.step s1 _ _ r2, k1, fun env2 M2 L2 H2 σ2 k2 s2 m2 he2 => hQ env2 M2 L2 H2 σ2 k2 (s1.trans s2) m2 he2⟩
  | _ => exact ⟨fun a h => (by cases h), fun as h => (by cases h)⟩
end
end Z
set_option Elab.async false
set_option linter.all false
set_option maxRecDepth 100000
set_option maxHeartbeats 1000000
namespace Z
open PySem PySem.Spec PyProof.Rows L2
def notTupX : Expr → Bool
  | .Tuple .. => false
  | _ => true
def lcOk (c : Cc) (x : Str) (p : Pos) (v : Expr) : Bool := match v with
  | .ListComp _ gs s q => decide (gs.length = 1) && isFnK c.sc && (c.sc.names.lookup x == some .local) && (p.line == q.line) && !(s.names.any fun (n, k) => n == x && (k == .local || k == .cell))
  | _ => false
def lcCell (c : Cc) (x : Str) (v : Expr) : Bool := match v with
  | .ListComp .. => !(c.sc.names.lookup x == some .local)
  | _ => false
def parOk (c : Cc) (es : E) (ts vs : List Expr) (ns : List Str) : Bool := match es, ts, vs with
  | .cons (.v i) (.cons (.v j) .nil), [.Name x _, .Name y _], [_, _] => (ns == [x, y]) && (c.N[i]? == some x) && (c.N[j]? == some y) && decide (i ≠ j) && (c.sc.names.lookup x == some .local) && (c.sc.names.lookup y == some .local)
  | .cons (.v i) (.cons (.v j) (.cons (.v k) .nil)), [.Name x _, .Name y _, .Name z _], [_, _, _] => (ns == [x, y, z]) && (c.N[i]? == some x) && (c.N[j]? == some y) && (c.N[k]? == some z) && decide (i ≠ j) && decide (i ≠ k) && decide (j ≠ k) &&
      (c.sc.names.lookup x == some .local) && (c.sc.names.lookup y == some .local) && (c.sc.names.lookup z == some .local)
  | _, _, _ => false
def chkAsg (t : Tb) (c : Cc) (tg e : E) (tgt v : Expr) : Bool := match tg with
  | .v i => match tgt with
    | .Name x p => (c.N[i]? == some x) && sto c x && chkE t c e v && (notLc v || lcOk c x p v || lcCell c x v)
    | _ => false
  | .attr o f => match tgt with
    | .Attribute l n _ => (t.fld.all fun nm => nm[f]? == some n || nm[f]? == none) && chkE t c o l && chkE t c e v
    | _ => false
  | .ix o i => chkA t c (.ix o i) tgt && chkE t c e v
  | .tup es => match tgt with
    | .Tuple ts kt pt => match v with
      | .Tuple vs k2 p2 => match e with
        | .tup el => isFnK c.sc && chkL t c el vs && (match swC c.sc ts vs with
          | some none => chkA t c (.tup es) (.Tuple ts kt pt)
          | some (some ns) => parOk c es ts vs ns
          | none => false)
        | _ => false
      | _ => notTupX v && chkA t c (.tup es) (.Tuple ts kt pt) && chkE t c e v
    | _ => false
  | _ => false
structure GdS (t : Tb) (u : At) (C : Calls) (W : WX) (c : Cc) (X : Cx) : Prop where
  g : Gd t u C W c X
  own : PassesOwn (model X.prog X.w) X.A X.env X.xe
  stk : X.stack = X.env :: X.outer
  fr : X.env.frame = some X.env.locals
theorem swap_lc {v : Expr} {tgt : Option Expr} {l : Nat} {env : PySem.Env} (h : notLc v = true) : swapsWith v tgt l env = pure false := by
  cases v <;> first | rfl | cases h
def notNmX : Expr → Bool
  | .Name .. => false
  | _ => true
theorem swap_nm {v tgt : Expr} {l : Nat} {env : PySem.Env} (h : notNmX tgt = true) : swapsWith v (some tgt) l env = pure false := by
  cases v <;> first | rfl | (cases tgt <;> first | rfl | cases h)
theorem sole_nm {v tgt : Expr} {l : Nat} {env : PySem.Env} (h : notNmX tgt = true) : swapsWithSole [tgt] v l env = pure false := swap_nm h
section
variable {t : Tb} {u : At} {C : Calls} {W : WX} {a b d e r es : E}
theorem asg_imp {tg e : E} {c : Cc} {X : Cx} : ∀ D σ H, tS t u C W (.asg tg e) D σ H → tAsg (tW t u C W e) (tGW t u C tg) D σ H := fun D σ H hh => by
  obtain ⟨F, L, env, M, K, he, hm, hw, hK⟩ := hh
  exact ⟨F, L, env, M, _, _, he, hm, hw, fun x M1 L1 H1 v k1 s1 m1 r1 => ⟨F, L1, env, M1, x, _, he.step s1, m1, r1, k1, fun env' M' L' H' σ' k2 s2 m2 he2 => hK.nx env' M' L' H' σ' k2 (s1.trans s2) m2 he2⟩, hK.bad he⟩
theorem asg_fld {o e : E} {f : Nat} {c : Cc} {X : Cx} (g : Gd t u C W c X) {n : Str} (h2 : (t.fld.all fun nm => nm[f]? == some n || nm[f]? == none) = true) : ∀ D σ H, tS t u C W (.asg (.attr o f) e) D σ H → sFld X.K (tW t u C W o) (tW t u C W e) n D σ H := fun D σ H hh => by
  obtain ⟨F, L, env, M, K, he, hm, hw, hK⟩ := hh
  refine ⟨F, L, env, M, _, _, he, hm, hw, fun x M1 L1 H1 v k1 s1 m1 r1 => ⟨F, L1, env, M1, _, _, he.step s1, m1, k1, fun y M2 L2 H2 w k2 s2 m2 r2 => ?_, bad0⟩, hK.bad he⟩
  obtain ⟨i, rfl, k3⟩ := ifRef_ex k2
  obtain ⟨cc, fs, hM, k4⟩ := ifI_ex k3
  obtain ⟨hf, k5⟩ := k4
  obtain ⟨p, dx, fs', nm, rfl, hi, hp, hn, rr⟩ := ref_in m2 r2 hM
  obtain ⟨hc, hnd, hlt, hno⟩ := g.fac.fld cc nm hn
  have hf2 : f < nm.length := by rw [← rr.len]; exact hf
  have hx : nm[f]? = some n := by
    have q := List.all_eq_true.mp h2 nm (List.mem_of_getElem? hn)
    simp only [Bool.or_eq_true, beq_iff_eq] at q
    rcases q with q | q
    · exact q
    · rw [List.getElem?_eq_getElem hf2] at q
      cases q
  rw [← g.K] at hc hno
  have st : Step L2 H2 L2 (upd H2 p (.ins (u.ca cc) dx (putF n v fs'))) := Step.mut (List.mem_of_getElem? hi)
  refine ⟨p, u.ca cc, dx, fs', rfl, hp, hc, hno n (List.mem_of_getElem? hx), ?_, ?_⟩
  · have := rr.short
    omega
  · exact hK.nx _ _ L2 _ σ k5 (s1.trans (s2.trans st)) (m2.mut hi ⟨dx, _, nm, upd_same, hn, (FRep.put hnd rr hx (VRep.step s2 _ _ r1)).step st⟩) (he.step (s1.trans (s2.trans st)))
theorem asg_nm {i : Nat} {e : E} : ∀ D σ H, tS t u C W (.asg (.v i) e) D σ H → tAsg (tW t u C W e) (gName i) D σ H := fun D σ H hh => by
  obtain ⟨F, L, env, M, K, he, hm, hw, hK⟩ := hh
  exact ⟨F, L, env, M, _, _, he, hm, hw, fun x M1 L1 H1 v k1 s1 m1 r1 => hK.nx _ M1 L1 H1 _ k1 s1 m1 ((he.step s1).set r1 i), hK.bad he⟩
theorem wpL_cons {a r : E} {env : Env} {M : Mem} {Q : List D → Mem → Prop} {Ξ : XQ} : wpL C (.cons a r) env M Q Ξ = wp C a env M (fun x M1 => wpL C r env M1 (fun xs M2 => Q (x :: xs) M2) Ξ) Ξ := rfl
theorem par2 {i j : Nat} {el : E} (hel : elen el = 2) : ∀ D σ H, tS t u C W (.asg (.tup (.cons (.v i) (.cons (.v j) .nil))) (.tup el)) D σ H → tPar i j (tL t u C W el) D σ H := fun D σ H hh => by
  obtain ⟨F, L, env, M, K, he, hm, hw, hK⟩ := hh
  refine ⟨F, L, env, M, _, _, he, hm, hw, fun ds M1 L1 H1 vs k1 s1 m1 r1 => ?_, hK.bad he⟩
  obtain ⟨_, hl, k1⟩ := k1
  match ds, hl, k1, r1 with
  | [x, y], _, k1, r1 =>
    obtain ⟨v, w, rfl, r2, r3⟩ := r1.two
    exact ⟨v, w, rfl, hK.nx _ M1 L1 H1 _ k1 s1 m1 (((he.step s1).set r2 i).set r3 j)⟩
  | [], hl, _, _ => cases hl
  | [_], hl, _, _ => cases hl
  | _ :: _ :: _ :: _, hl, _, _ => cases hl
theorem par3 {i j k : Nat} {el : E} (hel : elen el = 3) : ∀ D σ H, tS t u C W (.asg (.tup (.cons (.v i) (.cons (.v j) (.cons (.v k) .nil)))) (.tup el)) D σ H → tPar3 i j k (tL t u C W el) D σ H := fun D σ H hh => by
  obtain ⟨F, L, env, M, K, he, hm, hw, hK⟩ := hh
  refine ⟨F, L, env, M, _, _, he, hm, hw, fun ds M1 L1 H1 vs k1 s1 m1 r1 => ?_, hK.bad he⟩
  obtain ⟨_, hl, k1⟩ := k1
  match ds, hl, k1, r1 with
  | [x, y, z], _, k1, r1 =>
    obtain ⟨v, vr, rfl, r2, r3⟩ := r1
    obtain ⟨w, q, rfl, r4, r5⟩ := VRepL.two r3
    exact ⟨v, w, q, rfl, hK.nx _ M1 L1 H1 _ k1 s1 m1 ((((he.step s1).set r2 i).set r4 j).set r5 k)⟩
  | [], hl, _, _ => cases hl
  | [_], hl, _, _ => cases hl
  | [_, _], hl, _, _ => cases hl
  | _ :: _ :: _ :: _ :: _, hl, _, _ => cases hl
theorem el_len {c : Cc} : ∀ {e : E} {as : List Expr}, chkL t c e as = true → elen e = as.length := by
  intro e
  induction e with
  | nil =>
    intro as h
    cases as with
    | nil => rfl
    | cons x xs => cases h
  | cons a r _ ih =>
    intro as h
    cases as with
    | nil => cases h
    | cons x xs =>
      have h : (notStar x && chkE t c a x && chkL t c r xs) = true := h
      simp only [Bool.and_eq_true] at h
      show elen r + 1 = _
      rw [ih h.2]; rfl
  | _ => intro as h; cases h
theorem comp_all {W : WX} {c : Cc} {X : Cx} (g : Gd t u C W c X) {e : E} {el : Expr} {gs : List Comprehension} {sc : Scope} {pos : Pos} (h : chkE t c e (.ListComp el gs sc pos) = true) :
    ∃ (m : Bool) (own : List Nat) (tg it cond elt : E) (tgt iter : Expr) (ifs : List Expr) (ow : List (Str × Nat)), e = .comp m own tg it cond elt ∧ gs = [⟨tgt, iter, ifs, 0⟩] ∧ ow.map (·.2) = own ∧ (∀ i ∈ slotsOf tg, i ∈ own) ∧ PI X tgt iter (tI t u C W (isTupX tgt) it) ∧ BlkOk X.N X.env.scope sc ow ∧
      (∀ (s : Shared) (H : Hp) (CC : Addr) (cl : List (Str × Addr)) (fp : List Addr), PG (X.blk s H sc (compEnvC sc cl CC X.env) fp) tgt (tG t u (isTupX tgt) tg)) ∧ (∀ (s : Shared) (H : Hp) (CC : Addr) (cl : List (Str × Addr)) (fp : List Addr), PTs (X.blk s H sc (compEnvC sc cl CC X.env) fp) ifs (tT t u C WF cond)) ∧
      (∀ (s : Shared) (H : Hp) (CC : Addr) (cl : List (Str × Addr)) (fp : List Addr), PE (X.blk s H sc (compEnvC sc cl CC X.env) fp) el (tW t u C WF elt)) ∧ notSet iter = true := by
  cases e with
  | comp m own tg it cond elt =>
    match gs, h with
    | [gg], h =>
      have h : (decide (gg.is_async = 0) && (own.all fun i => (c.N[i]?).isSome) && blkC c.N c.sc sc (own.filterMap fun i => (c.N[i]?).map fun x => (x, i)) && (slotsOf tg).all (fun i => own.contains i) && notSet gg.iter &&
        chkI t c it gg.target gg.iter && chkG (c.inner sc) tg gg.target && chkE t (c.inner sc) elt el &&
        condB gg.ifs (isNoneE cond) (fun q => chkT t (c.inner sc) cond q)) = true := h
      obtain ⟨tgt, iter, ifs, asy⟩ := gg
      simp only [Bool.and_eq_true, decide_eq_true_eq] at h
      obtain ⟨⟨⟨⟨⟨⟨⟨⟨h0, h1⟩, h2⟩, h3⟩, h4⟩, h5⟩, h6⟩, h7⟩, h8⟩ := h
      subst h0
      obtain ⟨p1, p2, p3⟩ := comp_parts (snd_all cond).T (snd_all elt).E g h6 h7 h8
      refine ⟨m, own, tg, it, cond, elt, tgt, iter, ifs, _, rfl, rfl, own_map (N := c.N) h1, fun i hi => ?_, (snd_all it).I W c X tgt iter g h5, by rw [g.N, g.sc]; exact blkOk_by h2, p1, p2, p3, h4⟩
      have q := List.all_eq_true.mp h3 i hi
      simpa using q
    | [], h => cases h
    | _ :: _ :: _, h => cases h
  | _ => cases h
theorem asg_ok {c : Cc} {X : Cx} (gs : GdS t u C W c X) {tg e : E} {tgt v : Expr} {pos : Pos} (h : chkAsg t c tg e tgt v = true) : PS X (.Assign [tgt] v pos) (tS t u C W (.asg tg e)) := by
  have g := gs.g
  have hN : X.N.Nodup := by rw [g.N]; exact g.nd
  cases tg with
  | v i =>
    cases tgt with
    | Name x p =>
      have h : ((c.N[i]? == some x) && sto c x && chkE t c e v && (notLc v || lcOk c x p v || lcCell c x v)) = true := h
      simp only [Bool.and_eq_true, beq_iff_eq, Bool.or_eq_true, or_assoc] at h
      obtain ⟨⟨⟨h1, h2⟩, h3⟩, h4⟩ := h
      obtain ⟨l1, l2⟩ := sto_of g h2
      have hi : X.N[i]? = some x := by rw [g.N]; exact h1
      rcases h4 with h4 | h4 | h4
      · exact (ps_set hN hi l1 ((snd_all e).E W c X v g h3) (swap_lc h4) l2).imp asg_nm
      · cases v with
        | ListComp el gs' s q =>
          have h4 : (decide (gs'.length = 1) && isFnK c.sc && (c.sc.names.lookup x == some .local) && (p.line == q.line) && !(s.names.any fun (n, k) => n == x && (k == .local || k == .cell))) = true := h4
          simp only [Bool.and_eq_true, beq_iff_eq, decide_eq_true_eq, Bool.not_eq_true'] at h4
          obtain ⟨⟨⟨⟨_, k1⟩, k2⟩, k3⟩, k4⟩ := h4
          obtain ⟨m, own, tg', it, cond, elt, tgt', iter, ifs, ow, rfl, rfl, e1, e2, pi, ok, p1, p2, p3, p4⟩ := comp_all g h3
          have hk : X.env.scope.kind = .function := by
            rw [g.sc]
            unfold isFnK at k1
            split at k1 <;> first | assumption | cases k1
          have hy : X.env.scope.names.lookup x = some .local := by rw [g.sc]; exact k2
          refine (ps_setLc g.calm hN hi hy (sw_true hk hy (by rw [k3]; exact beq_self_eq_true _) k4) pi ok p1 p2 p3 (set_ns p4)).imp fun D σ H hh => ?_
          rw [e1]
          obtain ⟨F, L, env, M, K, he, hm, hw, hK⟩ := hh
          refine comp_rd e2 σ H _ ⟨F, L, env, M, _, _, he, hm, hw, fun x M1 L1 H1 v k1 s1 m1 r1 => hK.nx _ M1 L1 H1 _ k1 s1 m1 ((he.step s1).set r1 i), hK.bad he⟩
        | _ => cases h4
      · refine (ps_set hN hi l1 ((snd_all e).E W c X v g h3) ?_ l2).imp asg_nm
        cases v with
        | ListComp el gs' s q =>
          have h4 : (!(c.sc.names.lookup x == some .local)) = true := h4
          have hk : (X.env.kindOf x == some .local) = false := by
            rw [← g.sc] at h4
            show (X.env.scope.names.lookup x == some .local) = false
            simpa using h4
          show (pure (X.env.blockKind == .function && X.env.kindOf x == some .local && p.line == q.line && !(s.names.any fun (n, k) => n == x && (k == .local || k == .cell))) : Sem Bool) = pure false
          rw [hk, Bool.and_false, Bool.false_and, Bool.false_and]
        | _ => cases h4
    | _ => cases h
  | attr o f =>
    cases tgt with
    | Attribute l n p =>
      have h : ((t.fld.all fun nm => nm[f]? == some n || nm[f]? == none) && chkE t c o l && chkE t c e v) = true := h
      simp only [Bool.and_eq_true] at h
      obtain ⟨⟨h1, h2⟩, h3⟩ := h
      exact (ps_fld ((snd_all o).E W c X l g h2) ((snd_all e).E W c X v g h3) (swap_nm rfl)).imp (asg_fld g h1)
    | _ => cases h
  | ix o i =>
    have h : (chkA t c (.ix o i) tgt && chkE t c e v) = true := h
    simp only [Bool.and_eq_true] at h
    cases tgt with
    | Subscript l r p =>
      refine (ps_asg ((snd_all e).E W c X v g h.2) ((ga_ok c X g (.ix o i)).1 _ h.1) (sole_nm rfl) (by cases v <;> rfl)).imp (asg_imp (c := c) (X := X))
    | _ => cases h.1
  | tup es =>
    cases tgt with
    | Tuple ts kt pt =>
      by_cases hv : notTupX v = true
      · have h : (notTupX v && chkA t c (.tup es) (.Tuple ts kt pt) && chkE t c e v) = true := by
          cases v <;> first | exact h | cases hv
        simp only [Bool.and_eq_true] at h
        refine (ps_asg ((snd_all e).E W c X v g h.2) ((ga_ok c X g (.tup es)).1 _ h.1.2) (sole_nm rfl) (by cases v <;> first | rfl | cases hv)).imp (asg_imp (c := c) (X := X))
      · cases v with
        | Tuple vs k2 p2 =>
          cases e with
          | tup el =>
            have h : (isFnK c.sc && chkL t c el vs && (match swC c.sc ts vs with
              | some none => chkA t c (.tup es) (.Tuple ts kt pt)
              | some (some ns) => parOk c es ts vs ns
              | none => false)) = true := h
            rw [Bool.and_eq_true, Bool.and_eq_true] at h
            obtain ⟨⟨h1, h2⟩, h3⟩ := h
            have hel := el_len h2
            have hk : isFnK X.env.scope = true := by rw [g.sc]; exact h1
            have pl := (snd_all el).L W c X vs g h2
            cases hs : swC c.sc ts vs with
            | none => rw [hs] at h3; cases h3
            | some o =>
              rw [hs] at h3
              have hsw := hs
              rw [← g.sc] at hsw
              cases o with
              | none =>
                have h4 : chkE t c (.tup el) (.Tuple vs k2 p2) = true := h2
                exact (ps_asg ((snd_all (.tup el)).E W c X _ g h4) ((ga_ok c X g (.tup es)).1 _ h3) (sole_nm rfl) (swap_ok hk hsw)).imp (asg_imp (c := c) (X := X))
              | some ns =>
                have h3 : parOk c es ts vs ns = true := h3
                unfold parOk at h3
                split at h3
                · rename_i i j x px y py l r
                  simp only [Bool.and_eq_true, beq_iff_eq, decide_eq_true_eq] at h3
                  obtain ⟨⟨⟨⟨⟨q0, q1⟩, q2⟩, q3⟩, q4⟩, q5⟩ := h3
                  subst q0
                  exact (ps_par g.calm hN (by rw [g.N]; exact q1) (by rw [g.N]; exact q2) q3 (by rw [g.sc]; exact q4) (by rw [g.sc]; exact q5) pl (swap_ok hk hsw) (sole_nm rfl)).imp (par2 hel)
                · rename_i i j k x px y py z pz l r q
                  simp only [Bool.and_eq_true, beq_iff_eq, decide_eq_true_eq] at h3
                  obtain ⟨⟨⟨⟨⟨⟨⟨⟨⟨q0, q1⟩, q2⟩, q3⟩, q4⟩, q5⟩, q6⟩, q7⟩, q8⟩, q9⟩ := h3
                  subst q0
                  exact (ps_par3 g.calm hN (by rw [g.N]; exact q1) (by rw [g.N]; exact q2) (by rw [g.N]; exact q3) q4 q5 q6 (by rw [g.sc]; exact q7) (by rw [g.sc]; exact q8) (by rw [g.sc]; exact q9) pl (swap_ok hk hsw) (sole_nm rfl)).imp (par3 hel)
                · cases h3
          | _ => cases h
        | _ => exact absurd rfl hv
    | _ => cases h
  | _ => cases h
end
end Z
set_option Elab.async false
set_option linter.all false
set_option maxRecDepth 100000
set_option maxHeartbeats 1000000
namespace Z
open PySem PySem.Spec PyProof.Rows L2 L2H
structure GdH (t : Tb) (u : At) (C : Calls) (hs : List Nat) (W : WX) (c : Cc) (X : Cx) : Prop where
  K : X.K = u.K
  N : X.N = c.N
  nd : c.N.Nodup
  sc : X.env.scope = c.sc
  fnx : ∀ x, c.fn x = true → X.fn x = true
  fac : Fac t u X.mg
  room : RoomH 0 X.A
  pin : ∃ p, Hot1 X.A p ∧ p ∈ X.pn
  pas : ∀ σ, PassesAt (L2N.CX X.prog X.w) X σ (WE W σ)
  call : ∀ (f : Nat) (x : Str) (ps : List Str), f ∈ hs → t.fns[f]? = some (x, ps) → ∃ (k : Nat) (fd : FuncData), FnH X.prog X.w X.K X.mg X.base (L2N.CX X.prog X.w) k (u.fa f) fd ps (spC t u C f) ∧ Binds X.K fd ps [] ∧ RoomH k X.A
section
variable (t : Tb) (u : At) (C : Calls) (hs : List Nat)
def SEH (e : E) : Prop := ∀ W c X a, GdH t u C hs W c X → chkE t c e a = true → PE X a (tW t u C W e)
def SLH (e : E) : Prop := ∀ W c X as, GdH t u C hs W c X → chkL t c e as = true → PA X as (tL t u C W e)
def SIH (e : E) : Prop := ∀ W c X tg a, GdH t u C hs W c X → chkI t c e tg a = true → PIH X tg a (tI t u C W (isTupX tg) e)
end
section
variable {X : Cx} {CX : CXT} {k : Nat} {f C : Addr} {fd : FuncData} {ps : List Str} {sp : Sp} {E : L2.St → XK} {m : Str} {pos apos : Pos} {o : Expr} {ta : TE}
theorem pe_methH0 {pl : Sem Bool} (he : PE X o ta) (c : Cls X.K C) (hm : Meth X.K C m f) (F : FnH X.prog X.w X.K X.mg X.base CX k f fd ps sp) (hr : RoomH k X.A) (hp : ∃ p, Hot1 X.A p ∧ p ∈ X.pn) (hb : Binds X.K fd ps []) (hx : ∀ σ, PassesAt CX X σ (E σ))
    (ht : eval (.Call (.Attribute o m apos) [] [] pos) X.env = (do
      let ov ← eval o X.env
      standAt apos.atName
      let (f, first) ← holding [ov] (getMethod ov m pl)
      callWith pos f first (backTo pos (starEach [] X.env)) (backToKw pos (keywordEach [] X.env)))) :
    PE X (.Call (.Attribute o m apos) [] [] pos) (tMethS C m sp E ta tNil) := by
  refine ⟨fun pins s σ H Q I h => ?_⟩
  refine PySem.W.methodCall_KW (pl := pl) (thn (he.run pins s σ H _ I h) fun u s1 ⟨x, H1, I1, rx, a, dx, fs, ex, ea, l, q⟩ => ?_) ht
  subst ex
  obtain rfl : u = Value.ref a := rx
  refine getmeth_ok I1 ea c hm l ?_
  exact PySem.W.callWith_K0 (first := [.ref a]) I1.kIn hm.kp (run_fnH (us := [.ref a]) (vs := [.ref a]) F hr hp hb (hx σ) I1 (.cons rfl .nil) q)
theorem pe_b1H {l : Expr} {te : TE} {p pos : Pos} {b' : B1} (hp : ∃ p, Hot1 X.A p ∧ p ∈ X.pn) (hk : b' = .tuple ∨ b' = .sortedK) (hg : Gl X (b1N b')) (hm : X.mg (b1N b') = none) (hl : PE X l te) (ns : notStar l = true) : PE X (.Call (.Name (b1N b') p) [l] [] pos) (tCB (rB1 X.K b') (tCons te tNil)) := by
  have ha : PA X [l] (tCons te tNil) := pa_cons hl pa_nil (star_ns ns)
  rcases hk with rfl | rfl
  · exact pe_callTy call_tupleF hg hm (by decide +kernel) ha (by decide) (by decide) (star_ns ns) rfl
  · exact pe_callB (call_sortedKH hp) hg hm (by decide +kernel) ha (by decide) (by decide) (star_ns ns) rfl
theorem pi_seqH {tg l : Expr} {tl : TE} (hl : PE X l tl) : PIH X tg l (iSeq X.K tl) := by
  refine ⟨fun pins s σ H R I h => ?_⟩
  refine thn (hl.run pins s σ H _ I h) fun v s1 ⟨x, H1, I1, r1, a, xs, e, q⟩ => ?_
  subst e
  cases r1
  have fp : ∀ b ∈ [s1.heap.objs.size], FpOk X pins H1 b := fun b hb => by
    rw [List.mem_singleton.mp hb]
    exact I1.fpOk (Nat.le_refl _) (I1.hok.fresh (Nat.le_refl _))
  rcases q with ⟨hq, q⟩ | ⟨hq, q⟩
  · obtain ⟨its, rv, p, hz⟩ := I1.list hq
    refine wpAny_pyIter_list p.isList ?_
    exact ⟨s1.heap.objs.size, _, _, _, H1, rfl, I1.kept (t' := s1.toks) fun b o e => Heap.get?_push_of_some _ e, turn_lstH a _, ⟨_, Heap.get?_push_size _ rfl, rfl, rfl⟩, fp, q⟩
  · obtain ⟨its, rv, p, hz⟩ := I1.tuple hq
    refine wpAny_pyIter_tuple (show s1.heap.IsTuple a its.toArray from p) ?_
    exact ⟨s1.heap.objs.size, _, _, _, H1, rfl, I1.kept (t' := s1.toks) fun b o e => Heap.get?_push_of_some _ e, turn_tupH a _, ⟨_, Heap.get?_push_size _ rfl, rfl, rfl⟩, fp, q⟩
theorem _root_.L2H.PIH.imp {tg e : Expr} {te te' : TI} (h : PIH X tg e te) (f : ∀ σ H Q, te' σ H Q → te σ H Q) : PIH X tg e te' := ⟨fun pins s σ H Q I q => h.run pins s σ H Q I (f σ H Q q)⟩
theorem _root_.L2H.PIH.sized {tg e : Expr} {wi : TI} (h : PIH X tg e wi) : PIH X tg e (fun σ H R => wi σ H fun J H' => Sized X.K H' → R J H') := by
  refine ⟨fun pins s σ H R I q => ?_⟩
  refine thn (h.run pins s σ H _ I q) fun v s1 h1 => thn h1 fun itv s2 h2 => ?_
  obtain ⟨it, fp, tn, J, H', e1, I2, T, t0, f, r⟩ := h2
  exact ⟨it, fp, tn, J, H', e1, I2, T, t0, f, r I2.sized⟩
end
section
variable {t : Tb} {u : At} {C : Calls} {hs : List Nat} {a b d e r es : E}
theorem GdH.hu {W : WX} {c : Cc} {X : Cx} (g : GdH t u C hs W c X) : X.A.units + 65 < cLine := by
  have h := g.room.un
  omega
theorem GdH.gl {W : WX} {c : Cc} {X : Cx} (g : GdH t u C hs W c X) {x : Str} (h : glb c.sc x = true) : Gl X x := glb_of g.sc h
theorem GdH.bl {W : WX} {c : Cc} {X : Cx} (g : GdH t u C hs W c X) {x : Str} (h : x ∈ blts) : X.mg x = none := g.fac.bl x h
theorem GdH.blk {W : WX} {c : Cc} {X : Cx} (g : GdH t u C hs W c X) {s : Shared} {H : Hp} {scope : Scope} {cl : List (Str × Addr)} {CC : Addr} {fp : List Addr} {p : Addr × Obj} (hp : Hot1 X.A p) : GdH t u C hs WF (c.inner scope) (bkH X p s H scope (compEnvC scope cl CC X.env) fp) where
  K := g.K
  N := g.N
  nd := g.nd
  sc := by
    show relabel scope X.env = relS scope c.sc
    rw [← g.sc]; rfl
  fnx := fun x h => h
  fac := g.fac
  room := g.room
  pin := ⟨p, hp, List.mem_cons_self⟩
  pas := fun σ pins H s e s' I c => (cx_none c).elim
  call := g.call
theorem sto_ofH {c : Cc} {x : Str} {X : Cx} {W : WX} (g : GdH t u C hs W c X) (h : sto c x = true) : Loc X.env.scope x ∧ (X.fn x = true ∨ X.env.scope.names.lookup x = some .local) := by
  rw [g.sc]
  unfold sto at h
  split at h
  · rename_i q; exact ⟨.inl q, .inr q⟩
  · rename_i q; exact ⟨.inr q, .inl (g.fnx x h)⟩
  · cases h
theorem hs_v {i : Nat} : SEH t u C hs (.v i) := fun W c X a g h => by
  cases a with
  | Name x pos =>
    have h : ((c.N[i]? == some x) && vis c.sc x && okN x) = true := h
    simp only [Bool.and_eq_true, beq_iff_eq] at h
    obtain ⟨⟨h1, h2⟩, h3⟩ := h
    obtain ⟨n1, n2⟩ := okN_of h3
    refine (pe_var (i := i) (by rw [g.N]; exact h1) (by rw [g.sc]; exact vis_of h2) n1 n2).imp fun σ H Q hh => ?_
    obtain ⟨F, L, env, M, Φ, Ξ, he, hm, hw, hQ, hX⟩ := hh
    have hw : (match env[i]? with | some (some d) => Φ d M | _ => False) := hw
    split at hw
    · rename_i d hd
      obtain ⟨v, h4, h5⟩ := he.at_ i d hd
      exact ⟨v, h4, aft_same hm hw hQ h5⟩
    · exact hw.elim
  | _ => cases h
theorem hs_ki {i : Int} : SEH t u C hs (.ki i) := fun W c X a g h => by
  cases a with
  | Constant k j pos =>
    cases k with
    | int j =>
      obtain rfl : i = j := by simpa [chkE] using h
      refine pe_int.imp fun σ H Q hh => ?_
      obtain ⟨F, L, env, M, Φ, Ξ, he, hm, hw, hQ, hX⟩ := hh
      exact aft_same hm (d := .int i) hw hQ rfl
    | _ => cases h
  | _ => cases h
theorem hs_ks {n : Nat} : SEH t u C hs (.ks n) := fun W c X a g h => by
  cases a with
  | Constant k j pos =>
    cases k with
    | str z =>
      have h1 : t.texts[n]? = some z := by simpa [chkE] using h
      refine pe_str.imp fun σ H Q hh => ?_
      obtain ⟨F, L, env, M, Φ, Ξ, he, hm, hw, hQ, hX⟩ := hh
      exact aft_same hm (d := .str n) hw hQ ⟨z, h1, rfl⟩
    | _ => cases h
  | _ => cases h
theorem hs_cmp {k : Cm} (ha : SEH t u C hs a) (hb : SEH t u C hs b) : SEH t u C hs (.cmp k a b) := fun W c X x g h => by
  cases x with
  | Compare l ops rs pos =>
    match ops, rs, h with
    | [op], [r], h =>
      have h : (decide (cmO k = op) && notSet r && chkE t c a l && chkE t c b r) = true := h
      simp only [Bool.and_eq_true, decide_eq_true_eq] at h
      obtain ⟨⟨⟨rfl, hset⟩, h1⟩, h2⟩ := h
      refine (pe_cmpR (cm_ok g.hu k) (ha W c X l g h1) (hb W c X r g h2) (mark_ns hset)).imp fun σ H Q hh => ?_
      obtain ⟨F, L, env, M, Φ, Ξ, he, hm, hw, hQ, hX⟩ := hh
      refine ⟨F, L, env, M, _, Ξ, he, hm, hw, fun x M1 L1 H1 v h1 s1 m1 r1 => ⟨F, L1, env, M1, _, Ξ, he.step s1, m1, h1, fun y M2 L2 H2 w h2 s2 m2 r2 => ?_, bad_from s1 hX⟩, hX⟩
      rw [g.K]
      exact cmD_ok g.fac.txt m2 (r1.step s2) r2 k h2 fun b hb => aft_same m2 (d := .bl b) hb (aft_from (s1.trans s2) hQ) rfl
    | [], _, h => cases h
    | [_], [], h => cases h
    | [_], _ :: _ :: _, h => cases h
    | _ :: _ :: _, _, h => cases h
  | _ => cases h
theorem hs_tup (hl : SLH t u C hs es) : SEH t u C hs (.tup es) := fun W c X x g h => by
  cases x with
  | Tuple as k pos =>
    have h1 : chkL t c es as = true := h
    refine (pe_tupF (hl W c X as g h1)).imp fun σ H Q hh => ?_
    obtain ⟨F, L, env, M, Φ, Ξ, he, hm, hw, hQ, hX⟩ := hh
    refine ⟨F, L, env, M, _, Ξ, he, hm, hw, fun ds M1 L1 H1 vs h1 s1 m1 r1 => ?_, hX⟩
    obtain ⟨hl, h1⟩ := h1
    exact ⟨by rw [← VRepL.len _ _ r1, szL]; exact hl, new_tup m1 r1 h1 (aft_from s1 hQ)⟩
  | _ => cases h
theorem hl_nil : SLH t u C hs .nil := fun W c X as g h => by
  cases as with
  | nil =>
    refine pa_nil.imp fun σ H Q hh => ?_
    obtain ⟨F, L, env, M, Φ, Ξ, he, hm, hw, hQ, hX⟩ := hh
    exact hQ [] M L H [] hw Step.refl hm rfl
  | cons _ _ => cases h
theorem hl_cons (ha : SEH t u C hs a) (hr : SLH t u C hs r) : SLH t u C hs (.cons a r) := fun W c X as g h => by
  cases as with
  | nil => cases h
  | cons x xs =>
    have h : (notStar x && chkE t c a x && chkL t c r xs) = true := h
    simp only [Bool.and_eq_true] at h
    obtain ⟨⟨h0, h1⟩, h2⟩ := h
    refine (pa_cons (ha W c X x g h1) (hr W c X xs g h2) (star_ns h0)).imp fun σ H Q hh => ?_
    obtain ⟨F, L, env, M, Φ, Ξ, he, hm, hw, hQ, hX⟩ := hh
    exact ⟨F, L, env, M, _, Ξ, he, hm, hw, fun d M1 L1 H1 v h1 s1 m1 r1 => ⟨F, L1, env, M1, _, Ξ, he.step s1, m1, h1, fun ds M2 L2 H2 vs h2 s2 m2 r2 => hQ _ M2 L2 H2 _ h2 (s1.trans s2) m2 ⟨v, vs, rfl, r1.step s2, r2⟩, bad_from s1 hX⟩, hX⟩
theorem hs_attr {f : Nat} (ho : SEH t u C hs a) : SEH t u C hs (.attr a f) := fun W c X x g h => by
  cases x with
  | Attribute l n pos =>
    have h : (notSup l && (t.fld.all fun nm => nm[f]? == some n || nm[f]? == none) && chkE t c a l) = true := h
    simp only [Bool.and_eq_true] at h
    obtain ⟨⟨h1, h2⟩, h3⟩ := h
    refine (pe_fld (ho W c X l g h3) (base_ns h1)).imp fun σ H Q hh => ?_
    obtain ⟨F, L, env, M, Φ, Ξ, he, hm, hw, hQ, hX⟩ := hh
    refine ⟨F, L, env, M, _, Ξ, he, hm, hw, fun x M1 L1 H1 v h1 s1 m1 r1 => ?_, hX⟩
    obtain ⟨i, cc, fs, d, p, dx, fs', nm, rfl, hM, hf, h1, rfl, hp, hn, rr⟩ := attrD_ok m1 r1 h1
    have hf2 : f < nm.length := by
      rw [← rr.len]
      exact (List.getElem?_eq_some_iff.mp hf).1
    have hx : nm[f]? = some n := by
      have q := List.all_eq_true.mp h2 nm (List.mem_of_getElem? hn)
      simp only [Bool.or_eq_true, beq_iff_eq] at q
      rcases q with q | q
      · exact q
      · rw [List.getElem?_eq_getElem hf2] at q
        cases q
    obtain ⟨v, hv, rv⟩ := rr.at_ f n d hx hf
    obtain ⟨hc, _, _, hno⟩ := g.fac.fld cc nm hn
    rw [← g.K] at hc hno
    exact ⟨p, u.ca cc, dx, fs', v, rfl, hp, hc, hno n (List.mem_of_getElem? hx), hv, aft_same m1 h1 (aft_from s1 hQ) rv⟩
  | _ => cases h
theorem hs_bm {k : BM} (ho : SEH t u C hs a) (hl : SLH t u C hs es) : SEH t u C hs (.bm k a es) := fun W c X x g h => by
  cases x with
  | Call fn as kws pos =>
    cases fn with
    | Attribute l n ap =>
      cases kws with
      | nil =>
        have h : ((n == bmN k) && (bmA k == some as.length) && notSup l && lineOk ap pos && chkE t c a l && chkL t c es as) = true := h
        simp only [Bool.and_eq_true, beq_iff_eq] at h
        obtain ⟨⟨⟨⟨⟨h1, h2⟩, h3⟩, h4⟩, h5⟩, h6⟩ := h
        subst h1
        have hb : (bmA k).isSome = true := by rw [h2]; rfl
        have read : ∀ σ H Q, tW t u C W (.bm k a es) σ H Q → tW t u C W a σ H fun x H1 => bmTyP X.K k x H1 ∧ tL t u C W es σ H1 fun vs H2 => Sized X.K H2 → rBM X.K k x vs H2 Q := fun σ H Q hh => by
          obtain ⟨F, L, env, M, Φ, Ξ, he, hm, hw, hQ, hX⟩ := hh
          refine ⟨F, L, env, M, _, Ξ, he, hm, hw, fun x M1 L1 H1 v k1 s1 m1 r1 => ?_, hX⟩
          obtain ⟨ty, k2⟩ := bmT_ok m1 r1 k hb k1
          rw [g.K]
          exact ⟨ty, F, L1, env, M1, _, Ξ, he.step s1, m1, k2, fun ds M2 L2 H2 vs k3 s2 m2 r2 hz => bmD_ok g.fac.txt hz m2 (VRep.step s2 _ _ r1) r2 k k3 (aft_from (s1.trans s2) hQ), bad_from s1 hX⟩
        refine (mt_bm g.hu k (ho W c X l g h5) (hl W c X as g h6) h2 h3 h4 (chkL_ns h6) fun e0 σ H Q hh => ?_).imp read
        subst e0
        obtain ⟨F, L, env, M, Φ, Ξ, he, hm, hw, hQ, hX⟩ := hh
        refine ⟨F, L, env, M, Φ, Ξ, he, hm, hw, fun x M1 L1 H1 v k1 s1 m1 r1 hz => ?_, hX⟩
        obtain ⟨q1, q2⟩ := hQ x M1 L1 H1 v k1 s1 m1 r1
        exact ⟨q1, nil_of h6 q2 hz⟩
      | cons _ _ => cases h
    | _ => cases h
  | _ => cases h
theorem hs_b1 {k : B1} {m : Bool} (hk : k = .tuple ∨ k = .sortedK) (ha : SEH t u C hs a) : SEH t u C hs (.b1 k m a) := fun W c X x g h => by
  cases x with
  | Call fn as kws pos =>
    match as, kws, h with
    | [l], [], h =>
      have h : (isNm (b1N k) c.sc fn && notStar l && chkE t c a l) = true := h
      simp only [Bool.and_eq_true] at h
      obtain ⟨⟨h1, h2⟩, h3⟩ := h
      obtain ⟨p, rfl, hg⟩ := isNm_of h1
      refine (pe_b1H g.pin hk (g.gl hg) (g.bl blt_name) (ha W c X l g h3) h2).imp fun σ H Q hh => ?_
      obtain ⟨F, L, env, M, Φ, Ξ, he, hm, hw, hQ, hX⟩ := hh
      refine ⟨F, L, env, M, _, Ξ, he, hm, hw, fun x M1 L1 H1 v h1 s1 m1 r1 => ?_, hX⟩
      show rB1 X.K k [v] H1 Q
      rw [g.K]
      exact b1D_ok m1 r1 k h1 (aft_from s1 hQ)
    | [], _, h => cases h
    | _ :: _ :: _, _, h => cases h
    | [_], _ :: _, h => cases h
  | _ => cases h
theorem hi_w (ha : SEH t u C hs a) : SIH t u C hs (.w a) := fun W c X tg x g h => by
  have h1 : chkE t c a x = true := h
  refine (pi_seqH (ha W c X x g h1)).sized.imp fun σ H R hh => ?_
  obtain ⟨F, L, env, M, Φ, Ξ, he, hm, hw, hQ, hX⟩ := hh
  refine ⟨F, L, env, M, _, Ξ, he, hm, hw, fun x M1 L1 H1 v k1 s1 m1 r1 => ?_, hX⟩
  obtain ⟨p, src, ds, rfl, k2, k3⟩ := itD_ok m1 r1 k1
  obtain ⟨vs, hv, rv⟩ := k3 F L1 H1 M1 Step.refl.go m1 fun _ _ => rfl
  have ik := itok_seq (pr := isTupX tg) k3
  rw [g.K]
  refine ⟨p, vs, rfl, ?_⟩
  have fin : ∀ J, ItOk t u (isTupX tg) F L1 H1 M1 src ds J → Sized u.K H1 → R J H1 := fun J hJ hz => hQ src ds M1 L1 H1 J k2 s1 m1 (by rw [VRepL.len _ _ rv]; exact SqL.sz hz hv) hJ
  cases hb : isTup x with
  | true =>
    rw [hb] at hv ik
    exact .inr ⟨hv, fin _ ik⟩
  | false =>
    rw [hb] at hv ik
    exact .inl ⟨hv, fin _ ik⟩
theorem hs_meth {k f : Nat} (hf : f ∈ hs) (ho : SEH t u C hs a) : SEH t u C hs (.meth k f a .nil) := fun W c X x g h => by
  cases x with
  | Call fn as kws pos =>
    cases fn with
    | Attribute l n ap =>
      cases kws with
      | nil =>
        have h : ((t.fns[f]?.map (·.1) == some n) && (t.mth.lookup f == some k) && notSup l && lineOk ap pos && decide (as.length < 5) && chkE t c a l && chkL t c .nil as) = true := h
        simp only [Bool.and_eq_true, beq_iff_eq, decide_eq_true_eq] at h
        obtain ⟨⟨⟨⟨⟨⟨h1, h2⟩, h3⟩, h4⟩, h5⟩, h6⟩, h7⟩ := h
        obtain ⟨ps, e1⟩ := fns_of h1
        obtain ⟨kk, fd, hF, hB, hR⟩ := g.call f n ps hf e1
        obtain ⟨hc, hme, hno⟩ := g.fac.mt f n ps k e1 h2
        rw [← g.K] at hc hme
        have ns := chkL_ns h7
        have ht := eval_meth (m := n) (env := X.env) h3 ns h4 h5
        have read : ∀ σ H Q, tW t u C W (.meth k f a .nil) σ H Q → tW t u C W a σ H (fun x H1 => ∃ p dx fs, x = .ref p ∧ H1 p = some (.ins (u.ca k) dx fs) ∧ fs.lookup n = none ∧ tL t u C W .nil σ H1 (fun vs H1 => spC t u C f (x :: vs) H1 Q (WE W σ))) := fun σ H Q hh => by
          obtain ⟨F, L, env, M, Φ, Ξ, he, hm, hw, hQ, hX⟩ := hh
          refine ⟨F, L, env, M, _, Ξ, he, hm, hw, fun d M1 L1 H1 v h1 s1 m1 r1 => ?_, hX⟩
          obtain ⟨i, rfl, h1⟩ := ifRef_ex h1
          obtain ⟨cc, fs, hM, ek, h1'⟩ := ifI_ex h1
          subst ek
          obtain ⟨p, dx, fs', nm, rfl, _, hp, hn, rr⟩ := ref_in m1 r1 hM
          exact ⟨p, dx, fs', rfl, hp, lookup_none_of rr (hno nm hn), F, L1, env, M1, _, Ξ, he.step s1, m1, h1', fun ds M2 L2 H2 vs h2 s2 m2 r2 => spC_of (ds := .ref i :: ds) hQ hX (s1.trans s2) m2 ⟨_, vs, rfl, r1.step s2, r2⟩ h2, bad_from s1 hX⟩
        cases as with
        | nil =>
          refine (pe_methH0 (ho W c X l g h6) hc hme hF hR g.pin hB g.pas ht).imp fun σ H Q hh => ?_
          obtain ⟨F, L, env, M, Φ, Ξ, he, hm, hw, hQ, hX⟩ := read σ H Q hh
          refine ⟨F, L, env, M, Φ, Ξ, he, hm, hw, fun d M1 L1 H1 v a1 a2 a3 a4 => ?_, hX⟩
          obtain ⟨p, dx, fs, b1, b2, b3, b4⟩ := hQ d M1 L1 H1 v a1 a2 a3 a4
          exact ⟨p, dx, fs, b1, b2, b3, nil_of h7 b4⟩
        | cons y ys => cases h7
      | cons _ _ => cases h
    | _ => cases h
  | _ => cases h
theorem hg_v {c : Cc} {X : Cx} {W : WX} (g : GdH t u C hs W c X) {i : Nat} {a : Expr} (h : chkG c (.v i) a = true) : PG X a (tG t u (isTupX a) (.v i)) := by
  cases a with
  | Name x p =>
    have h : ((c.N[i]? == some x) && sto c x) = true := h
    simp only [Bool.and_eq_true, beq_iff_eq] at h
    obtain ⟨h1, h2⟩ := h
    obtain ⟨l1, l2⟩ := sto_ofH g h2
    refine (pg_name (i := i) (by rw [g.N]; exact g.nd) (by rw [g.N]; exact h1) l1 l2).imp fun v σ H Q hh => ?_
    obtain ⟨F, L, env, d, Ψ, he, hv, hb, hQ⟩ := hh
    rcases hv with hv | ⟨hp, _⟩
    · exact hQ _ _ hb (he.set hv i) fun vs hvs => wipe_set (hvs i List.mem_cons_self)
    · cases hp
  | _ => cases h
theorem hs_comp {m : Bool} {own : List Nat} {i : Nat} {it elt : E} (hi : SIH t u C hs it) (he : SEH t u C hs elt) : SEH t u C hs (.comp m own (.v i) it .none elt) := fun W c X x g h => by
  cases x with
  | ListComp el gs sc pos =>
    match gs, h with
    | [gg], h =>
      have h : (decide (gg.is_async = 0) && (own.all fun i => (c.N[i]?).isSome) && blkC c.N c.sc sc (own.filterMap fun i => (c.N[i]?).map fun x => (x, i)) && (slotsOf (.v i)).all (fun i => own.contains i) && notSet gg.iter &&
        chkI t c it gg.target gg.iter && chkG (c.inner sc) (.v i) gg.target && chkE t (c.inner sc) elt el &&
        condB gg.ifs (isNoneE .none) (fun q => chkT t (c.inner sc) .none q)) = true := h
      obtain ⟨tgt, iter, ifs, asy⟩ := gg
      simp only [Bool.and_eq_true, decide_eq_true_eq] at h
      obtain ⟨⟨⟨⟨⟨⟨⟨⟨h0, h1⟩, h2⟩, h3⟩, h4⟩, h5⟩, h6⟩, h7⟩, h8⟩ := h
      subst h0
      obtain ⟨p, hot, hp⟩ := g.pin
      have ok : BlkOk X.N X.env.scope sc (own.filterMap fun i => (c.N[i]?).map fun x => (x, i)) := by
        rw [g.N, g.sc]
        exact blkOk_by h2
      have pt : ∀ (s : Shared) (H : Hp) (CC : Addr) (cl : List (Str × Addr)) (fp : List Addr), PTs (bkH X p s H sc (compEnvC sc cl CC X.env) fp) ifs (tT t u C WF .none) := fun s H CC cl fp => by
        match ifs, h8 with
        | [], _ =>
          refine pts_nil.imp fun σ H Q hh => ?_
          obtain ⟨F, L, env, M, Φ, Ξ, he, hm, hw, hQ, hX⟩ := hh
          exact hQ true M L H hw Step.refl hm
        | [q], h8 => cases h8
        | _ :: _ :: _, h8 => cases h8
      refine (pe_lcH hot hp (by rw [g.N]; exact g.nd) (hi W c X tgt iter g h5) ok (fun s H CC cl fp => hg_v (g.blk hot) h6) pt (fun s H CC cl fp => he WF _ _ el (g.blk hot) h7) (set_ns h4)).imp fun σ H Q hh => ?_
      have h9 : ∀ j ∈ slotsOf (.v i), j ∈ own := fun j hj => by
        have q := List.all_eq_true.mp h3 j hj
        simpa using q
      rw [own_map (N := c.N) h1]
      exact comp_rd h9 σ H Q hh
    | [], h => cases h
    | _ :: _ :: _, h => cases h
  | _ => cases h
def hotE (hs : List Nat) : E → Bool
  | .v _ => true
  | .ki _ => true
  | .ks _ => true
  | .nil => true
  | .cons a r => hotE hs a && hotE hs r
  | .tup es => hotE hs es
  | .attr a _ => hotE hs a
  | .cmp _ a b => hotE hs a && hotE hs b
  | .bm _ a es => hotE hs a && hotE hs es
  | .b1 .tuple _ a => hotE hs a
  | .b1 .sortedK _ a => hotE hs a
  | .w a => hotE hs a
  | .comp _ _ (.v _) it .none elt => hotE hs it && hotE hs elt
  | .meth _ f a .nil => hs.contains f && hotE hs a
  | _ => false
theorem hno_E {e : E} (h : ∀ (t : Tb) (c : Cc) (x : Expr), chkE t c e x = false) : SEH t u C hs e := fun W c X x g q => by rw [h] at q; cases q
theorem hno_L {e : E} (h : ∀ (t : Tb) (c : Cc) (x : List Expr), chkL t c e x = false) : SLH t u C hs e := fun W c X x g q => by rw [h] at q; cases q
theorem hno_I {e : E} (h : ∀ (t : Tb) (c : Cc) (x y : Expr), chkI t c e x y = false) : SIH t u C hs e := fun W c X x y g q => by rw [h] at q; cases q
theorem hsn : ∀ e : E, hotE hs e = true → SEH t u C hs e ∧ SLH t u C hs e ∧ SIH t u C hs e := by
  intro e
  induction e with
  | v i => exact fun _ => ⟨hs_v, hno_L fun _ _ _ => rfl, hno_I fun _ _ _ _ => rfl⟩
  | ki i => exact fun _ => ⟨hs_ki, hno_L fun _ _ _ => rfl, hno_I fun _ _ _ _ => rfl⟩
  | ks i => exact fun _ => ⟨hs_ks, hno_L fun _ _ _ => rfl, hno_I fun _ _ _ _ => rfl⟩
  | nil => exact fun _ => ⟨hno_E fun _ _ _ => rfl, hl_nil, hno_I fun _ _ _ _ => rfl⟩
  | cons a r ha hr =>
    intro h
    obtain ⟨h1, h2⟩ := (Bool.and_eq_true _ _).mp h
    exact ⟨hno_E fun _ _ _ => rfl, hl_cons (ha h1).1 (hr h2).2.1, hno_I fun _ _ _ _ => rfl⟩
  | tup es ih => exact fun h => ⟨hs_tup (ih h).2.1, hno_L fun _ _ _ => rfl, hno_I fun _ _ _ _ => rfl⟩
  | attr a f ih => exact fun h => ⟨hs_attr (ih h).1, hno_L fun _ _ _ => rfl, hno_I fun _ _ _ _ => rfl⟩
  | cmp k a b ha hb =>
    intro h
    obtain ⟨h1, h2⟩ := (Bool.and_eq_true _ _).mp h
    exact ⟨hs_cmp (ha h1).1 (hb h2).1, hno_L fun _ _ _ => rfl, hno_I fun _ _ _ _ => rfl⟩
  | bm k a es ha hes =>
    intro h
    obtain ⟨h1, h2⟩ := (Bool.and_eq_true _ _).mp h
    exact ⟨hs_bm (ha h1).1 (hes h2).2.1, hno_L fun _ _ _ => rfl, hno_I fun _ _ _ _ => rfl⟩
  | b1 k m a ih =>
    intro h
    cases k with
    | tuple => exact ⟨hs_b1 (.inl rfl) (ih h).1, hno_L fun _ _ _ => rfl, hno_I fun _ _ _ _ => rfl⟩
    | sortedK => exact ⟨hs_b1 (.inr rfl) (ih h).1, hno_L fun _ _ _ => rfl, hno_I fun _ _ _ _ => rfl⟩
    | _ => cases h
  | w a ih => exact fun h => ⟨hno_E fun _ _ _ => rfl, hno_L fun _ _ _ => rfl, hi_w (ih h).1⟩
  | comp m own tg it cond elt _ hi _ he =>
    intro h
    cases tg with
    | v i =>
      cases cond with
      | none =>
        obtain ⟨h1, h2⟩ := (Bool.and_eq_true _ _).mp h
        exact ⟨hs_comp (hi h1).2.2 (he h2).1, hno_L fun _ _ _ => rfl, hno_I fun _ _ _ _ => rfl⟩
      | _ => cases h
    | _ => cases h
  | meth k f a es ha _ =>
    intro h
    cases es with
    | nil =>
      obtain ⟨h1, h2⟩ := (Bool.and_eq_true _ _).mp h
      exact ⟨hs_meth (by simpa using h1) (ha h2).1, hno_L fun _ _ _ => rfl, hno_I fun _ _ _ _ => rfl⟩
    | _ => cases h
  | _ => intro h; cases h
end
end Z
set_option Elab.async false
set_option linter.all false
set_option maxRecDepth 100000
set_option maxHeartbeats 1000000
namespace Z
open PySem PySem.Spec PyProof.Rows L2
def isCst : E → Bool
  | .kn => true
  | .kb _ => true
  | .ki _ => true
  | .ks _ => true
  | _ => false
def chkIsN (c : Cc) : E → Expr → Bool
  | .cmp .isN (.v i) .kn, v => match v with
    | .Compare (.Name x _) [.Is] [.Constant .none _ _] _ => (c.N[i]? == some x) && vis c.sc x && okN x
    | _ => false
  | _, _ => false
def chkH (t : Tb) (c : Cc) : S → List Stmt → Bool
  | .seq (.asg (.v i) k) .nil, ss => match ss with
    | [.Assign [.Name x _] v _] => (c.N[i]? == some x) && sto c x && isCst k && chkE t c k v && notLc v
    | _ => false
  | .seq (.ret k) .nil, ss => match ss with
    | [.Return (some v) _] => (isCst k && chkE t c k v) || chkIsN c k v || (hotE t.hs k && chkE t c k v)
    | _ => false
  | _, _ => false
def chkHc (t : Tb) (c : Cc) (h : Nat) (tab : List D) (n : Str) (v : Expr) : Bool := match v with
  | .Call (.Name f _) [.Name y _] [] _ => (match t.hot[h]? with | some q => (q.1 == f) && D.sameL q.2 tab | none => false) && glb c.sc f && okN f && (y == n) && okN y
  | _ => false
def chkHX (t : Tb) (c : Cc) (j : Nat) (tg : Option Nat) (h : Nat) (tab : List D) (n : Str) (ss : List Stmt) : Bool := match tg with
  | none => match ss with
    | [.Return (some v) _] => chkHc t c h tab n v
    | _ => false
  | some i => match ss with
    | [.Assign [.Name x _] v _] => (c.N[i]? == some x) && sto c x && decide (i ≠ j) && notLc v && chkHc t c h tab n v
    | _ => false
def docX : Expr → Bool
  | .Constant (.str _) _ _ => true
  | _ => false
mutual
def chkS (t : Tb) (c : Cc) : S → List Stmt → Bool
  | .nil, ss => match ss with
    | [] => true
    | _ => false
  | .seq a r, ss => match ss with
    | x :: xs => chk1 t c a x && chkS t c r xs
    | _ => false
  | _, _ => false
def chk1 (t : Tb) (c : Cc) : S → Stmt → Bool
  | .asg tg e, x => match x with
    | .Assign [tgt] v _ => chkAsg t c tg e tgt v
    | _ => false
  | .ex e, x => match x with
    | .Expr v _ => notLc v && chkE t c e v
    | _ => false
  | .ite k a b, x => match x with
    | .If q as bs _ => chkT t c k q && chkS t c a as && chkS t c b bs
    | _ => false
  | .for_ tg it body _ _, x => match x with
    | .For tgt iter bs [] _ => notSet iter && chkI t c it tgt iter && chkG c tg tgt && chkS t c body bs
    | _ => false
  | .while_ k body _ _, x => match x with
    | .While q bs [] _ => chkT t c k q && chkS t c body bs
    | _ => false
  | .ret e, x => match x with
    | .Return (some v) _ => chkE t c e v
    | _ => false
  | .retN, x => match x with
    | .Return none _ => true
    | _ => false
  | .raise k, x => match x with
    | .Raise (some q) none _ => match q with
      | .Call (.Name n _) [] [] _ => (t.exs[k]? == some n) && glb c.sc n && okN n
      | _ => false
    | _ => false
  | .cont, x => match x with
    | .Continue _ => true
    | _ => false
  | .brk, x => match x with
    | .Break _ => true
    | _ => false
  | .pass, x => match x with
    | .Pass _ => true
    | .Expr v _ => docX v
    | _ => false
  | .try_ k body h, x => match x with
    | .Try bs [hh] [] [] _ => match hh with
      | .ExceptHandler (some q) none hs _ => match q with
        | .Name n _ => (t.exs[k]? == some n) && glb c.sc n && okN n && chkS t c body bs && chkH t c h hs
        | _ => false
      | _ => false
    | _ => false
  | .tryX k body j tg h tab, x => match x with
    | .Try bs [hh] [] [] _ => match hh with
      | .ExceptHandler (some q) (some n) hs _ => match q with
        | .Name m _ => (t.exs[k]? == some m) && glb c.sc m && okN m && chkS t c body bs && (c.N[j]? == some n) && (c.sc.names.lookup n == some .local) && chkHX t c j tg h tab n hs
        | _ => false
      | _ => false
    | _ => false
  | _, _ => false
end
section
variable {t : Tb} {u : At} {C : Calls} {W : WX} {a b d e r es : E}
theorem cst_ok {c : Cc} {k : E} {v : Expr} (hk : isCst k = true) (h : chkE t c k v = true) : ∃ w, (∀ X : Cx, PE X v (tC w)) ∧ (∀ F L H, VRep t u F L H (cval k) w) ∧ ∀ env M Q Ξ, wp C k env M Q Ξ → Q (cval k) M := by
  cases k with
  | kn =>
    cases v with
    | Constant q j p =>
      cases q with
      | none => exact ⟨_, fun X => pe_non, fun _ _ _ => rfl, fun _ _ _ _ h => h⟩
      | _ => cases h
    | _ => cases h
  | kb b =>
    cases v with
    | Constant q j p =>
      cases q with
      | bool b' =>
        obtain rfl : b = b' := by simpa [chkE] using h
        exact ⟨_, fun X => pe_bl, fun _ _ _ => rfl, fun _ _ _ _ h => h⟩
      | _ => cases h
    | _ => cases h
  | ki b =>
    cases v with
    | Constant q j p =>
      cases q with
      | int b' =>
        obtain rfl : b = b' := by simpa [chkE] using h
        exact ⟨_, fun X => pe_int, fun _ _ _ => rfl, fun _ _ _ _ h => h⟩
      | _ => cases h
    | _ => cases h
  | ks n =>
    cases v with
    | Constant q j p =>
      cases q with
      | str z =>
        have h : (t.texts[n]? == some z) = true := h
        exact ⟨_, fun X => pe_str, fun _ _ _ => ⟨z, by simpa using h, rfl⟩, fun _ _ _ _ h => h⟩
      | _ => cases h
    | _ => cases h
  | _ => cases hk
theorem Gd.suite {c : Cc} {X : Cx} (g : Gd t u C W c X) {a : Addr} {oe : Obj} {cls : Value} {dx : Option Addr} {pn : List (Addr × Obj)} (hz : L2N.Zn cls dx oe) (hf : ∃ vs, oe.data = .fields vs) : GdH t u C t.hs WF c (X.suite a ((a, oe) :: pn)) where
  K := g.K
  N := g.N
  nd := g.nd
  sc := g.sc
  fnx := g.fnx
  fac := g.fac
  room := by
    have r := L2H.roomH_of g.room
    exact (L2H.RoomH.mono (j := 0) (k := 1) ⟨r.dp, r.un⟩ (by omega))
  pin := by
    obtain ⟨vs, hv⟩ := hf
    exact ⟨(a, oe), ⟨rfl, vs, hv, hz.2.2 vs hv⟩, List.mem_cons_self⟩
  pas := fun _ _ _ _ _ _ _ c => (cx_none c).elim
  call := fun f x ps hf e => by
    obtain ⟨fd, h1, h2⟩ := g.hotf f x ps hf e
    have r := L2H.roomH_of g.room
    exact ⟨1, fd, h1, h2, ⟨r.dp, r.un⟩⟩
theorem h_ok {c : Cc} {X : Cx} (g : Gd t u C W c X) {h : S} {hs : List Stmt} (hh : chkH t c h hs = true) : ∃ b₀ suite, hs = b₀ :: suite ∧ ∀ (a : Addr) (oe : Obj) (cls : Value) (dx : Option Addr) (pn : List (Addr × Obj)), L2N.Zn cls dx oe → (∃ vs, oe.data = .fields vs) → PSs (X.suite a ((a, oe) :: pn)) (b₀ :: suite) (tS t u C WF h) := by
  have hN : X.N.Nodup := by rw [g.N]; exact g.nd
  unfold chkH at hh
  split at hh
  · rename_i i k
    split at hh
    · rename_i x p v q
      simp only [Bool.and_eq_true, beq_iff_eq] at hh
      obtain ⟨⟨⟨⟨h1, h2⟩, h3⟩, h4⟩, h5⟩ := hh
      obtain ⟨w, pe, rv, rw'⟩ := cst_ok (u := u) (C := C) h3 h4
      obtain ⟨l1, l2⟩ := sto_of g h2
      refine ⟨_, _, rfl, fun a oe cls dx pn hz hf => (pss_one (ps_set (X := X.suite a ((a, oe) :: pn)) hN (by rw [g.N]; exact h1) l1 (pe (X.suite a ((a, oe) :: pn))) (swap_lc h5) l2)).imp fun D σ H hh => ?_⟩
      obtain ⟨F, L, env, M, K, he, hm, hw, hK⟩ := hh
      exact hK.nx _ M L H _ (rw' _ _ _ _ hw) Step.refl hm (he.set (rv F L H) i)
    · cases hh
  · rename_i k
    split at hh
    · rename_i v q
      rcases ((Bool.or_eq_true _ _).mp hh).imp (Bool.or_eq_true _ _).mp id with (hh | hh) | hh
      · simp only [Bool.and_eq_true] at hh
        obtain ⟨w, pe, rv, rw'⟩ := cst_ok (u := u) (C := C) hh.1 hh.2
        refine ⟨_, _, rfl, fun a oe cls dx pn hz hf => (pss_one (ps_ret (X := X.suite a ((a, oe) :: pn)) (pe (X.suite a ((a, oe) :: pn))))).imp fun D σ H hh => ?_⟩
        obtain ⟨F, L, env, M, K, he, hm, hw, hK⟩ := hh
        exact hK.rt _ M L H _ (rw' _ _ _ _ hw) Step.refl hm (rv F L H)
      · unfold chkIsN at hh
        split at hh
        · rename_i i _
          split at hh
          · rename_i x p j p2 p3 _
            simp only [Bool.and_eq_true, beq_iff_eq] at hh
            obtain ⟨⟨h1, h2⟩, h3⟩ := hh
            obtain ⟨n1, n2⟩ := okN_of h3
            refine ⟨_, _, rfl, fun a oe cls dx pn hz hf => (pss_one (ps_ret (X := X.suite a ((a, oe) :: pn)) (pe_cmpR (X := X.suite a ((a, oe) :: pn)) op_isN (pe_var (X := X.suite a ((a, oe) :: pn)) (i := i) (by show X.N[i]? = _; rw [g.N]; exact h1) (by show Vis X.env.scope x; rw [g.sc]; exact vis_of h2) n1 n2) pe_non rfl))).imp fun D σ H hh => ?_⟩
            obtain ⟨F, L, env, M, K, he, hm, hw, hK⟩ := hh
            have hw : (match env[i]? with | some (some d) => K.rt (.bl (isNon d)) M | _ => False) := hw
            split at hw
            · rename_i d hd
              obtain ⟨v, h4, h5⟩ := he.at_ i d hd
              exact ⟨v, h4, rfl, by rw [isNon_ok h5]; exact hK.rt _ M L H _ hw Step.refl hm rfl⟩
            · exact hw.elim
          · cases hh
        · cases hh
      · obtain ⟨k1, k2⟩ := (Bool.and_eq_true _ _).mp hh
        refine ⟨_, _, rfl, fun a oe cls dx pn hz hf => (pss_one (ps_ret ((hsn k k1).1 WF c (X.suite a ((a, oe) :: pn)) v (g.suite hz hf) k2))).imp fun D σ H hh => ?_⟩
        obtain ⟨F, L, env, M, K, he, hm, hw, hK⟩ := hh
        exact ⟨F, L, env, M, _, _, he, hm, hw, hK.rt, hK.bad he⟩
    · cases hh
  · cases hh
end
section
variable {t : Tb} {u : At} {C : Calls} {W : WX}
theorem ERep.drop {F L : List Addr} {H : Hp} {env : Env} {σ : L2.St} (r : ERep t u F L H env σ) (j : Nat) (o : Option V) : ERep t u F L H (env.set j none) (σ.set j o) := by
  refine ⟨by rw [List.length_set, List.length_set]; exact r.len, fun i d h => ?_⟩
  by_cases e : j = i
  · subst e
    by_cases hl : j < env.length
    · rw [List.getElem?_set_self hl] at h
      cases h
    · rw [List.getElem?_eq_none (by rw [List.length_set]; omega)] at h
      cases h
  · rw [List.getElem?_set_ne e] at h
    rw [List.getElem?_set_ne e]
    exact r.at_ i d h
def tsX (t : Tb) (u : At) (j : Nat) (tg : Option Nat) (tab : List D) (a : Addr) (cls : Value) (dx : Option Addr) : TS := fun D σ H => σ[j]? = some (some (.ref a)) ∧ dx = none ∧ ∃ c d F L M Φ, cls = .ref (u.ea c) ∧ tab[c]? = some d ∧ MRep t u F L H M ∧ Φ d M ∧
  Aft t u F L H Φ fun v H' => match tg with
    | some i => D.nx (σ.set i (some v)) H'
    | none => D.rt v H'
theorem hx_ok {c : Cc} {X : Cx} (g : Gd t u C W c X) {j h : Nat} {tg : Option Nat} {tab : List D} {n : Str} {ss : List Stmt} (hj : c.N[j]? = some n) (hl : c.sc.names.lookup n = some .local) (hh : chkHX t c j tg h tab n ss = true) :
    ∃ b₀ suite, ss = b₀ :: suite ∧ ∀ (a : Addr) (oe : Obj) (cls : Value) (dx : Option Addr) (pn : List (Addr × Obj)), Zc cls dx oe → (∃ vs, oe.data = .fields vs) → PSs (X.suite a ((a, oe) :: pn)) (b₀ :: suite) (tsX t u j tg tab a cls dx) := by
  have hN : X.N.Nodup := by rw [g.N]; exact g.nd
  have key : ∀ v, chkHc t c h tab n v = true → ∀ (a : Addr) (oe : Obj) (cls : Value) (dx : Option Addr) (pn : List (Addr × Obj)), Zc cls dx oe → (∃ vs, oe.data = .fields vs) →
      PE (X.suite a ((a, oe) :: pn)) v (fun σ H Q => σ[j]? = some (some (.ref a)) ∧ dx = none ∧ ∃ c d F L M Φ, cls = .ref (u.ea c) ∧ tab[c]? = some d ∧ MRep t u F L H M ∧ Φ d M ∧ Aft t u F L H Φ Q) := by
    intro v hv a oe cls dx pn hz hf
    unfold chkHc at hv
    split at hv
    · rename_i f p0 y p1 p2
      simp only [Bool.and_eq_true, beq_iff_eq] at hv
      obtain ⟨⟨⟨⟨h1, h2⟩, h3⟩, rfl⟩, h5⟩ := hv
      cases hq : t.hot[h]? with
      | none => rw [hq] at h1; cases h1
      | some q =>
        rw [hq] at h1
        obtain ⟨e1, e2⟩ := (Bool.and_eq_true _ _).mp h1
        obtain ⟨x, tab'⟩ := q
        obtain rfl : x = f := eq_of_beq e1
        obtain rfl : tab' = tab := D.sameL_eq _ _ e2
        obtain ⟨fa, fd, ps, F, hb, hm, hk⟩ := g.hot h x tab' hq
        have rm : L2H.RoomH 1 X.A := L2H.roomH_of g.room
        have rm' : L2H.RoomH 1 (X.suite a ((a, oe) :: pn)).A := ⟨rm.dp, rm.un⟩
        have pv : PE (X.suite a ((a, oe) :: pn)) (.Name y p1) (tVar j) := pe_var (X := X.suite a ((a, oe) :: pn)) (by show X.N[j]? = _; rw [g.N]; exact hj) (by show Vis X.env.scope y; rw [g.sc]; exact .inl hl) (okN_of h5).1 (okN_of h5).2
        refine (pe_callX (X := X.suite a ((a, oe) :: pn)) (p := (a, oe)) (E := fun _ _ _ => False) F rm' List.mem_cons_self (g.gl h2) hm hk hb (fun σ pins H s e s' _ z => (cx_none z).elim) (pa_cons pv pa_nil rfl) (okN_of h3).1 rfl).imp fun σ H Q hh => ?_
        obtain ⟨k1, rfl, cc, d, F', L', M', Φ, k3, k4, k5, k6, k7⟩ := hh
        exact ⟨_, k1, rfl, hf, cc, d, F', L', M', Φ, ⟨by rw [← k3]; exact hz.1, hz.2⟩, k4, k5, k6, k7⟩
    · cases hv
  unfold chkHX at hh
  cases tg with
  | none =>
    dsimp only at hh
    split at hh
    · rename_i v q
      exact ⟨_, _, rfl, fun a oe cls dx pn hz hf => pss_one (ps_ret (X := X.suite a ((a, oe) :: pn)) (key v hh a oe cls dx pn hz hf))⟩
    · cases hh
  | some i =>
    dsimp only at hh
    split at hh
    · rename_i x p v q
      simp only [Bool.and_eq_true, beq_iff_eq, decide_eq_true_eq] at hh
      obtain ⟨⟨⟨⟨h1, h2⟩, h3⟩, h4⟩, h5⟩ := hh
      obtain ⟨l1, l2⟩ := sto_of g h2
      exact ⟨_, _, rfl, fun a oe cls dx pn hz hf => pss_one (ps_set (X := X.suite a ((a, oe) :: pn)) hN (by rw [g.N]; exact h1) l1 (key v h5 a oe cls dx pn hz hf) (swap_lc h4) l2)⟩
    · cases hh
theorem hx_ne {c : Cc} {j h i : Nat} {tab : List D} {n : Str} {ss : List Stmt} (hh : chkHX t c j (some i) h tab n ss = true) : i ≠ j := by
  unfold chkHX at hh
  dsimp only at hh
  split at hh
  · simp only [Bool.and_eq_true, beq_iff_eq, decide_eq_true_eq] at hh
    exact hh.1.1.2
  · cases hh
end
section
variable (t : Tb) (u : At) (C : Calls)
def SS (s : S) : Prop := ∀ W c X ss, GdS t u C W c X → chkS t c s ss = true → PSs X ss (tS t u C W s)
def S1 (s : S) : Prop := ∀ W c X x, GdS t u C W c X → chk1 t c s x = true → PS X x (tS t u C W s)
end
section
variable {t : Tb} {u : At} {C : Calls} {a b d e r es : E}
theorem ss_nil : SS t u C .nil := fun W c X ss g h => by
  cases ss with
  | nil =>
    refine pss_nil.imp fun D σ H hh => ?_
    obtain ⟨F, L, env, M, K, he, hm, hw, hK⟩ := hh
    exact hK.nx _ M L H _ hw Step.refl hm he
  | cons _ _ => cases h
theorem ss_seq {a r : S} (ha : S1 t u C a) (hr : SS t u C r) : SS t u C (.seq a r) := fun W c X ss g h => by
  cases ss with
  | nil => cases h
  | cons x xs =>
    have h : (chk1 t c a x && chkS t c r xs) = true := h
    simp only [Bool.and_eq_true] at h
    refine (pss_cons (ha W c X x g h.1) (hr W c X xs g h.2)).imp fun D σ H hh => ?_
    obtain ⟨F, L, env, M, K, he, hm, hw, hK⟩ := hh
    refine ⟨F, L, env, M, _, he, hm, hw, ⟨fun env' M' L' H' σ' k1 s1 m1 he1 => ?_, hK.rt, hK.bk, hK.ct, hK.ex⟩⟩
    exact ⟨F, L', env', M', K, he1, m1, k1, hK.step s1⟩
theorem s1_asg {tg e : E} : S1 t u C (.asg tg e) := fun W c X x g h => by
  cases x with
  | Assign ts v pos =>
    match ts, h with
    | [tgt], h => exact asg_ok g h
    | [], h => cases h
    | _ :: _ :: _, h => cases h
  | _ => cases h
theorem s1_ex {e : E} : S1 t u C (.ex e) := fun W c X x g h => by
  cases x with
  | Expr v pos =>
    have h : (notLc v && chkE t c e v) = true := h
    simp only [Bool.and_eq_true] at h
    refine (ps_expr ((snd_all e).E W c X v g.g h.2) (swap_lc h.1)).imp fun D σ H hh => ?_
    obtain ⟨F, L, env, M, K, he, hm, hw, hK⟩ := hh
    exact ⟨F, L, env, M, _, _, he, hm, hw, fun x M1 L1 H1 v k1 s1 m1 r1 => hK.nx _ M1 L1 H1 _ k1 s1 m1 (he.step s1), hK.bad he⟩
  | _ => cases h
theorem s1_ite {k : E} {a b : S} (ha : SS t u C a) (hb : SS t u C b) : S1 t u C (.ite k a b) := fun W c X x g h => by
  cases x with
  | If q as bs pos =>
    have h : (chkT t c k q && chkS t c a as && chkS t c b bs) = true := h
    simp only [Bool.and_eq_true] at h
    refine (ps_if ((snd_all k).T W c X q g.g h.1.1) (ha W c X as g h.1.2) (hb W c X bs g h.2)).imp fun D σ H hh => ?_
    obtain ⟨F, L, env, M, K, he, hm, hw, hK⟩ := hh
    refine ⟨F, L, env, M, _, _, he, hm, hw, fun x M1 L1 H1 k1 s1 m1 => ?_, hK.bad he⟩
    cases x with
    | true => exact iteT ⟨F, L1, env, M1, K, he.step s1, m1, k1.1 rfl, hK.step s1⟩
    | false => exact iteF ⟨F, L1, env, M1, K, he.step s1, m1, k1.2 rfl, hK.step s1⟩
  | _ => cases h
theorem s1_ret {e : E} : S1 t u C (.ret e) := fun W c X x g h => by
  cases x with
  | Return v pos =>
    cases v with
    | none => cases h
    | some v =>
      have h : chkE t c e v = true := h
      refine (ps_ret ((snd_all e).E W c X v g.g h)).imp fun D σ H hh => ?_
      obtain ⟨F, L, env, M, K, he, hm, hw, hK⟩ := hh
      exact ⟨F, L, env, M, _, _, he, hm, hw, hK.rt, hK.bad he⟩
  | _ => cases h
theorem s1_retN : S1 t u C .retN := fun W c X x g h => by
  cases x with
  | Return v pos =>
    cases v with
    | none =>
      refine ps_retN.imp fun D σ H hh => ?_
      obtain ⟨F, L, env, M, K, he, hm, hw, hK⟩ := hh
      exact hK.rt .non M L H .non hw Step.refl hm rfl
    | some v => cases h
  | _ => cases h
theorem s1_cont : S1 t u C .cont := fun W c X x g h => by
  cases x with
  | Continue pos =>
    refine ps_continue.imp fun D σ H hh => ?_
    obtain ⟨F, L, env, M, K, he, hm, hw, hK⟩ := hh
    exact hK.ct _ M L H _ hw Step.refl hm he
  | _ => cases h
theorem s1_brk : S1 t u C .brk := fun W c X x g h => by
  cases x with
  | Break pos =>
    refine ps_break.imp fun D σ H hh => ?_
    obtain ⟨F, L, env, M, K, he, hm, hw, hK⟩ := hh
    exact hK.bk _ M L H _ hw Step.refl hm he
  | _ => cases h
theorem s1_pass : S1 t u C .pass := fun W c X x g h => by
  have fin : ∀ D σ H, tS t u C W .pass D σ H → tNext D σ H := fun D σ H hh => by
    obtain ⟨F, L, env, M, K, he, hm, hw, hK⟩ := hh
    exact hK.nx _ M L H _ hw Step.refl hm he
  cases x with
  | Pass pos => exact ps_pass.imp fin
  | Expr v pos =>
    have h : docX v = true := h
    cases v with
    | Constant k j p =>
      cases k with
      | str z => exact ps_doc.imp fin
      | _ => cases h
    | _ => cases h
  | _ => cases h
theorem s1_raise {k : Nat} : S1 t u C (.raise k) := fun W c X x g h => by
  cases x with
  | Raise q ca pos =>
    match q, ca, h with
    | some q, none, h =>
      cases q with
      | Call fn as kws p =>
        cases fn with
        | Name n p' =>
          match as, kws, h with
          | [], [], h =>
            have h : ((t.exs[k]? == some n) && glb c.sc n && okN n) = true := h
            simp only [Bool.and_eq_true, beq_iff_eq] at h
            obtain ⟨⟨h1, h2⟩, h3⟩ := h
            obtain ⟨f1, f2, f3, f4, ⟨B, nI, iI, bm, f5, f6⟩, _⟩ := g.g.fac.exg k n h1
            rw [← g.g.K] at f2 f3 f4 f6
            refine (L2N.ps_raise g.g.calm g.g.tk (pmk_own0 f5 f6 f1 f2 (raises_own f3 f4) (g.g.gl h2) (okN_of h3).1)).imp fun D σ H hh => ?_
            obtain ⟨F, L, env, M, K, he, hm, hw, hK⟩ := hh
            exact hK.ex k env M L H σ hw Step.refl hm he
          | [], _ :: _, h => cases h
          | _ :: _, _, h => cases h
        | _ => cases h
      | _ => cases h
    | none, _, h => cases h
    | some _, some _, h => cases h
  | _ => cases h
end
def hotS (hs : List Nat) : S → Bool
  | .nil => true
  | .seq (.asg (.v _) (.tup es)) r => hotE hs es && hotS hs r
  | .seq (.ret e) r => hotE hs e && hotS hs r
  | _ => false
section
variable {t : Tb} {u : At} {C : Calls} {hs : List Nat}
theorem hss : ∀ s : S, hotS hs s = true → ∀ W c X ss, GdH t u C hs W c X → chkS t c s ss = true → PSs X ss (tS t u C W s) := by
  intro s
  induction s with
  | nil =>
    intro _ W c X ss g h
    cases ss with
    | nil =>
      refine pss_nil.imp fun D σ H hh => ?_
      obtain ⟨F, L, env, M, K, he, hm, hw, hK⟩ := hh
      exact hK.nx _ M L H _ hw Step.refl hm he
    | cons _ _ => cases h
  | seq a r _ ih =>
    intro hh W c X ss g h
    cases ss with
    | nil => cases h
    | cons x xs =>
      have h : (chk1 t c a x && chkS t c r xs) = true := h
      simp only [Bool.and_eq_true] at h
      have go : hotS hs r = true → PS X x (tS t u C W a) → PSs X (x :: xs) (tS t u C W (.seq a r)) := fun hr h1 => by
        refine (pss_cons h1 (ih hr W c X xs g h.2)).imp fun D σ H hh => ?_
        obtain ⟨F, L, env, M, K, he, hm, hw, hK⟩ := hh
        refine ⟨F, L, env, M, _, he, hm, hw, ⟨fun env' M' L' H' σ' k1 s1 m1 he1 => ?_, hK.rt, hK.bk, hK.ct, hK.ex⟩⟩
        exact ⟨F, L', env', M', K, he1, m1, k1, hK.step s1⟩
      obtain ⟨h1, _⟩ := h
      cases a with
      | ret e =>
        obtain ⟨k1, k2⟩ := (Bool.and_eq_true _ _).mp hh
        refine go k2 ?_
        cases x with
        | Return v pos =>
          cases v with
          | none => cases h1
          | some v =>
            refine (ps_ret ((hsn e k1).1 W c X v g h1)).imp fun D σ H hh => ?_
            obtain ⟨F, L, env, M, K, he, hm, hw, hK⟩ := hh
            exact ⟨F, L, env, M, _, _, he, hm, hw, hK.rt, hK.bad he⟩
        | _ => cases h1
      | asg tg e =>
        cases tg with
        | v i =>
          cases e with
          | tup es =>
            obtain ⟨k1, k2⟩ := (Bool.and_eq_true _ _).mp hh
            refine go k2 ?_
            cases x with
            | Assign ts v pos =>
              match ts, h1 with
              | [tgt], h1 =>
                cases tgt with
                | Name y p =>
                  have h1 : ((c.N[i]? == some y) && sto c y && chkE t c (.tup es) v && (notLc v || lcOk c y p v || lcCell c y v)) = true := h1
                  simp only [Bool.and_eq_true, beq_iff_eq] at h1
                  obtain ⟨⟨⟨q1, q2⟩, q3⟩, _⟩ := h1
                  obtain ⟨l1, l2⟩ := sto_ofH g q2
                  have nl : notLc v = true := by
                    cases v with
                    | Tuple _ _ _ => rfl
                    | _ => cases q3
                  exact (ps_set (by rw [g.N]; exact g.nd) (by rw [g.N]; exact q1) l1 ((hsn (.tup es) k1).1 W c X v g q3) (swap_lc nl) l2).imp asg_nm
                | _ => cases h1
              | [], h1 => cases h1
              | _ :: _ :: _, h1 => cases h1
            | _ => cases h1
          | _ => cases hh
        | _ => cases hh
      | _ => cases hh
  | _ => intro hh; cases hh
end
end Z
set_option Elab.async false
set_option linter.all false
set_option maxRecDepth 100000
set_option maxHeartbeats 1000000
namespace Z
open PySem PySem.Spec PyProof.Rows L2
section
variable {t : Tb} {u : At} {C : Calls} {a b d e r es : E}
theorem s1_for {tg it : E} {body : S} {dead : List Nat} {gc : Bool} (hb : SS t u C body) : S1 t u C (.for_ tg it body dead gc) := fun W c X x g h => by
  cases x with
  | For tgt iter bs orelse pos =>
    cases orelse with
    | cons _ _ => cases h
    | nil =>
      have h : (notSet iter && chkI t c it tgt iter && chkG c tg tgt && chkS t c body bs) = true := h
      simp only [Bool.and_eq_true] at h
      obtain ⟨⟨⟨h1, h2⟩, h3⟩, h4⟩ := h
      refine (ps_for g.own g.g.calm ((snd_all it).I W c X tgt iter g.g h2) ((g_ok c X W g.g tg).1 tgt h3) (hb W c X bs g h4) (set_ns h1)).imp fun D σ H hh => ?_
      obtain ⟨F, L, env, M, K, he, hm, hw, hK⟩ := hh
      refine ⟨F, L, env, M, _, _, he, hm, hw, fun src ds M1 L1 H1 J k1 s1 m1 hlen hJ => ?_, hK.bad he⟩
      refine ⟨fun i m σ H => m = ds.length - i ∧ i ≤ ds.length ∧ ∃ L' M' env', Step L1 H1 L' H ∧ MRep t u F L' H M' ∧ ERep t u F L' H env' σ ∧ (∀ n ∈ src, M'[n]? = M1[n]?) ∧ forL (wpS C body) src M1 tg dead gc K (ds.drop i) env' M', ⟨_, rfl, Nat.zero_le _, L1, M1, _, Step.refl, m1, (he.step s1).killE dead, fun _ _ => rfl, by rw [List.drop_zero]; exact k1⟩, ?_⟩
      rintro i m σ H2 ⟨rfl, hi, L', M', env', st, m2, he2, hsrc, hf⟩
      have hgo : Go F L1 H1 F L' H2 := st.go
      by_cases hlt : i < ds.length
      · right
        obtain ⟨jg, jy⟩ := hJ.go F L' H2 M' hgo m2 hsrc i hlt
        refine ⟨jg, fun σ' H' => (fun i m σ H => m = ds.length - i ∧ i ≤ ds.length ∧ ∃ L' M' env', Step L1 H1 L' H ∧ MRep t u F L' H M' ∧ ERep t u F L' H env' σ ∧ (∀ n ∈ src, M'[n]? = M1[n]?) ∧ forL (wpS C body) src M1 tg dead gc K (ds.drop i) env' M') (i + 1) (ds.length - (i + 1)) σ' H', fun σ' H' h => ⟨_, by omega, h⟩, fun x H3 y => ?_⟩
        obtain ⟨st2, m3, hF, dd, hd, rd⟩ := jy x H3 y
        rw [List.drop_eq_getElem_cons hlt] at hf
        have ed : ds[i] = dd := by
          rw [List.getElem?_eq_getElem hlt] at hd
          exact Option.some.inj hd
        rw [ed] at hf
        have nxt : ∀ e' M4 L4 H4 σ4, stab src M1 M4 (gcS gc M1.length (kill dead e') M4 fun m' => forL (wpS C body) src M1 tg dead gc K (ds.drop (i + 1)) (kill dead e') m') → Step L' H3 L4 H4 → MRep t u F L4 H4 M4 → ERep t u F L4 H4 e' σ4 →
            ds.length - (i + 1) = ds.length - (i + 1) ∧ i + 1 ≤ ds.length ∧ ∃ L' M' env', Step L1 H1 L' H4 ∧ MRep t u F L' H4 M' ∧ ERep t u F L' H4 env' σ4 ∧ (∀ n ∈ src, M'[n]? = M1[n]?) ∧ forL (wpS C body) src M1 tg dead gc K (ds.drop (i + 1)) env' M' := fun e' M4 L4 H4 σ4 k4 s4 m4 he4 => by
          obtain ⟨k5, k6⟩ := stab_ok k4
          obtain ⟨L5, M5, s5, m5, he5, k7, k8⟩ := gcS_ok m1 (st.trans (st2.trans s4)) m4 (he4.killE dead) k6
          exact ⟨rfl, hlt, L5, M5, _, s5, m5, he5, fun n hn => k8 n (k5 n hn), k7⟩
        refine ⟨F, L', env', dd, _, he2.step st2, rd, hf, fun env2 σ2 hΨ he3 _ => ?_⟩
        have hk2 := hK.step (s1.trans (st.trans st2))
        exact ⟨F, L', env2, M', _, he3, m3, hΨ, ⟨fun e' M4 L4 H4 σ4 k4 s4 m4 he4 => nxt e' M4 L4 H4 σ4 k4 s4 m4 he4, hk2.rt, fun e' M4 L4 H4 σ4 k4 s4 m4 he4 => hk2.nx _ M4 L4 H4 σ4 k4 s4 m4 (he4.killE dead), fun e' M4 L4 H4 σ4 k4 s4 m4 he4 => nxt e' M4 L4 H4 σ4 k4 s4 m4 he4, hk2.ex⟩⟩
      · left
        have e : i = ds.length := by omega
        subst e
        refine ⟨hJ.stop F L' H2 M' hgo m2 hsrc, ?_⟩
        rw [List.drop_length] at hf
        exact hK.nx _ M' L' H2 σ hf (s1.trans st) m2 he2
  | _ => cases h
theorem s1_while {k : E} {body : S} {dead : List Nat} {gc : Bool} (hb : SS t u C body) : S1 t u C (.while_ k body dead gc) := fun W c X x g h => by
  cases x with
  | While q bs orelse pos =>
    cases orelse with
    | cons _ _ => cases h
    | nil =>
      have h : (chkT t c k q && chkS t c body bs) = true := h
      simp only [Bool.and_eq_true] at h
      refine (ps_while g.own ((snd_all k).T W c X q g.g h.1) (hb W c X bs g h.2)).imp fun D σ H hh => ?_
      obtain ⟨F, L, env, M, K, he, hm, hw, hK⟩ := hh
      obtain ⟨n, hn⟩ : ∃ n, whileN (wpT C k) (wpS C body) M.length dead gc K n (kill dead env) M := hw
      refine ⟨fun m σ' H' => ∃ L' M' env', Step L H L' H' ∧ MRep t u F L' H' M' ∧ ERep t u F L' H' env' σ' ∧ whileN (wpT C k) (wpS C body) M.length dead gc K m env' M', ⟨n, L, M, _, Step.refl, hm, he.killE dead, hn⟩, ?_⟩
      rintro m σ1 H1 ⟨L1, M1, env1, s1, m1, he1, hw1⟩
      cases m with
      | zero => exact hw1.elim
      | succ m =>
        have hk1 := hK.step s1
        refine ⟨F, L1, env1, M1, _, _, he1, m1, hw1, fun x M2 L2 H2 k2 s2 m2 => ?_, hk1.bad he1⟩
        cases x with
        | false => exact iteF (hk1.nx _ M2 L2 H2 _ (k2.2 rfl) s2 m2 (he1.step s2))
        | true =>
          refine iteT ⟨fun σ' H' => ∃ L' M' env', Step L H L' H' ∧ MRep t u F L' H' M' ∧ ERep t u F L' H' env' σ' ∧ whileN (wpT C k) (wpS C body) M.length dead gc K m env' M', fun σ' H' h => ⟨m, Nat.lt_succ_self _, h⟩, ?_⟩
          have nxt : ∀ e' M4 L4 H4 σ4, gcS gc M.length (kill dead e') M4 (fun m' => whileN (wpT C k) (wpS C body) M.length dead gc K m (kill dead e') m') → Step L2 H2 L4 H4 → MRep t u F L4 H4 M4 → ERep t u F L4 H4 e' σ4 →
              ∃ L' M' env', Step L H L' H4 ∧ MRep t u F L' H4 M' ∧ ERep t u F L' H4 env' σ4 ∧ whileN (wpT C k) (wpS C body) M.length dead gc K m env' M' := fun e' M4 L4 H4 σ4 k4 s4 m4 he4 => by
            obtain ⟨L5, M5, s5, m5, he5, k7, k8⟩ := gcS_ok hm (s1.trans (s2.trans s4)) m4 (he4.killE dead) k4
            exact ⟨L5, M5, _, s5, m5, he5, k7⟩
          have hk2 := hk1.step s2
          exact ⟨F, L2, env1, M2, _, he1.step s2, m2, k2.1 rfl, ⟨fun e' M4 L4 H4 σ4 k4 s4 m4 he4 => nxt e' M4 L4 H4 σ4 k4 s4 m4 he4, hk2.rt, fun e' M4 L4 H4 σ4 k4 s4 m4 he4 => hk2.nx _ M4 L4 H4 σ4 k4 s4 m4 (he4.killE dead), fun e' M4 L4 H4 σ4 k4 s4 m4 he4 => nxt e' M4 L4 H4 σ4 k4 s4 m4 he4, hk2.ex⟩⟩
  | _ => cases h
theorem s1_try {k : Nat} {body hd : S} (hb : SS t u C body) : S1 t u C (.try_ k body hd) := fun W c X x g h => by
  cases x with
  | Try bs hs orelse fin pos =>
    match hs, orelse, fin, h with
    | [hh], [], [], h =>
      cases hh with
      | ExceptHandler ty nm suite hpos =>
        match ty, nm, h with
        | some q, none, h =>
          cases q with
          | Name n np =>
            have h : ((t.exs[k]? == some n) && glb c.sc n && okN n && chkS t c body bs && chkH t c hd suite) = true := h
            simp only [Bool.and_eq_true, beq_iff_eq] at h
            obtain ⟨⟨⟨⟨h1, h2⟩, h3⟩, h4⟩, h5⟩ := h
            obtain ⟨b₀, suite', rfl, hsu⟩ := h_ok (c := c) (X := X) g.g h5
            obtain ⟨f1, f2, f3, f4, _, f7⟩ := g.g.fac.exg k n h1
            have nm : Names X n (.ref (u.ea k)) := ⟨g.g.gl h2, (okN_of h3).1, .inl f1⟩
            refine (L2N.ps_try_many (tb := fun W' => tS t u C W' body) (l := [(.ref (u.ea k), fun _ _ _ => tS t u C WF hd)]) g.stk g.fr g.g.tk (fun W' pn xe tk ow => ?_) (.cons nm (fun a oe cls d pn hz hf => hsu a oe cls d pn hz hf) .nil)).imp fun D σ H hh => ?_
            · have g' : GdS t u C W' c (X.tr pn xe) := ⟨{ g.g with tk := tk }, ow, g.stk, g.fr⟩
              exact hb W' c (X.tr pn xe) bs g' h4
            · obtain ⟨F, L, env, M, K, he, hm, hw, hK⟩ := hh
              refine ⟨F, L, env, M, _, he, hm, hw, ⟨hK.nx, hK.rt, hK.bk, hK.ct, fun c' env' M' L' H' σ' k1 s1 m1 he1 => ?_⟩⟩
              rw [g.g.K]
              refine ⟨sub c' k, f7 c', fun e a _ => ?_, fun e => hK.ex c' env' M' L' H' σ' (k1.2 e) s1 m1 he1⟩
              have hk1 := hK.step s1
              exact ⟨F, L', env', M', _, he1, m1, k1.1 e, ⟨hk1.nx, hk1.rt, hk1.bk, hk1.ct, fun _ _ _ _ _ _ z => z.elim⟩⟩
          | _ => cases h
        | none, _, h => cases h
        | some _, some _, h => cases h
    | [], _, _, h => cases h
    | _ :: _ :: _, _, _, h => cases h
    | [_], _ :: _, _, h => cases h
    | [_], [], _ :: _, h => cases h
  | _ => cases h
theorem s1_tryX {k j h : Nat} {tg : Option Nat} {tab : List D} {body : S} (hb : SS t u C body) : S1 t u C (.tryX k body j tg h tab) := fun W c X x g hc => by
  cases x with
  | Try bs hs orelse fin pos =>
    match hs, orelse, fin, hc with
    | [hh], [], [], hc =>
      cases hh with
      | ExceptHandler ty nm suite hpos =>
        match ty, nm, hc with
        | some q, some n, hc =>
          cases q with
          | Name m np =>
            have hc : ((t.exs[k]? == some m) && glb c.sc m && okN m && chkS t c body bs && (c.N[j]? == some n) && (c.sc.names.lookup n == some .local) && chkHX t c j tg h tab n suite) = true := hc
            simp only [Bool.and_eq_true, beq_iff_eq] at hc
            obtain ⟨⟨⟨⟨⟨⟨h1, h2⟩, h3⟩, h4⟩, h5⟩, h6⟩, h7⟩ := hc
            obtain ⟨b₀, suite', rfl, hsu⟩ := hx_ok (u := u) (C := C) g.g h5 h6 h7
            obtain ⟨f1, f2, f3, f4, _, f7⟩ := g.g.fac.exg k m h1
            have nm : Names X m (.ref (u.ea k)) := ⟨g.g.gl h2, (okN_of h3).1, .inl f1⟩
            have hN : X.N.Nodup := by rw [g.g.N]; exact g.g.nd
            refine (L2N.ps_try_as (i := j) (tb := fun W' => tS t u C W' body) (ts := tsX t u j tg tab) g.stk g.fr hN (by rw [g.g.N]; exact h5) (by show X.env.scope.names.lookup n = _; rw [g.g.sc]; exact h6) nm g.g.tk (fun W' pn xe tk ow => ?_) (fun a oe cls d pn hz hf => hsu a oe cls d pn hz.zc hf)).imp fun D σ H hh => ?_
            · have g' : GdS t u C W' c (X.tr pn xe) := ⟨{ g.g with tk := tk }, ow, g.stk, g.fr⟩
              exact hb W' c (X.tr pn xe) bs g' h4
            · obtain ⟨F, L, env, M, K, he, hm, hw, hK⟩ := hh
              refine ⟨F, L, env, M, _, he, hm, hw, ⟨hK.nx, hK.rt, hK.bk, hK.ct, fun c' env' M' L' H' σ' k1 s1 m1 he1 => ?_⟩⟩
              rw [g.g.K]
              refine ⟨sub c' k, f7 c', fun e a _ => ?_, fun e => hK.ex c' env' M' L' H' σ' (k1.2 e) s1 m1 he1⟩
              have hk1 := hK.step s1
              have k2 := k1.1 e
              unfold exD at k2
              split at k2
              · rename_i d hd
                obtain ⟨hj, k3⟩ := k2
                have hj2 : j < σ'.length := by rw [← he1.len]; exact hj
                cases tg with
                | none => exact ⟨List.getElem?_set_self hj2, rfl, c', d, F, L', M', K.rt, rfl, hd, m1, k3, hk1.rt⟩
                | some i =>
                  have hij := hx_ne h7
                  refine ⟨List.getElem?_set_self hj2, rfl, c', d, F, L', M', fun d M2 => K.nx ((env'.set j none).set i (some d)) M2, rfl, hd, m1, k3, fun d2 M2 L2' H2 v k4 s2 m2 r2 => ?_⟩
                  have e1 : ((σ'.set j (some (.ref a))).set i (some v)).set j none = (σ'.set j none).set i (some v) := by
                    rw [List.set_comm _ _ hij, List.set_set]
                  show D.nx (((σ'.set j (some (.ref a))).set i (some v)).set j none) H2
                  rw [e1]
                  exact hk1.nx _ M2 L2' H2 _ k4 s2 m2 (((he1.step s2).drop j none).set r2 i)
              · exact k2.elim
          | _ => cases hc
        | none, _, hc => cases hc
        | some _, none, hc => cases hc
    | [], _, _, hc => cases hc
    | _ :: _ :: _, _, _, hc => cases hc
    | [_], _ :: _, _, hc => cases hc
    | [_], [], _ :: _, hc => cases hc
  | _ => cases hc
theorem nS {s : S} (h : ∀ (t : Tb) (c : Cc) (x : List Stmt), chkS t c s x = false) : SS t u C s := fun W c X x g q => by rw [h] at q; cases q
theorem n1 {s : S} (h : ∀ (t : Tb) (c : Cc) (x : Stmt), chk1 t c s x = false) : S1 t u C s := fun W c X x g q => by rw [h] at q; cases q
theorem st_all : ∀ s : S, SS t u C s ∧ S1 t u C s := by
  intro s
  induction s with
  | nil => exact ⟨ss_nil, n1 fun _ _ _ => rfl⟩
  | seq a r ha hr => exact ⟨ss_seq ha.2 hr.1, n1 fun _ _ _ => rfl⟩
  | asg tg e => exact ⟨nS fun _ _ _ => rfl, s1_asg⟩
  | ex e => exact ⟨nS fun _ _ _ => rfl, s1_ex⟩
  | ite k a b ha hb => exact ⟨nS fun _ _ _ => rfl, s1_ite ha.1 hb.1⟩
  | for_ tg it body dead gc hb => exact ⟨nS fun _ _ _ => rfl, s1_for hb.1⟩
  | while_ k body dead gc hb => exact ⟨nS fun _ _ _ => rfl, s1_while hb.1⟩
  | ret e => exact ⟨nS fun _ _ _ => rfl, s1_ret⟩
  | retN => exact ⟨nS fun _ _ _ => rfl, s1_retN⟩
  | raise k => exact ⟨nS fun _ _ _ => rfl, s1_raise⟩
  | cont => exact ⟨nS fun _ _ _ => rfl, s1_cont⟩
  | brk => exact ⟨nS fun _ _ _ => rfl, s1_brk⟩
  | pass => exact ⟨nS fun _ _ _ => rfl, s1_pass⟩
  | try_ k body hd hb _ => exact ⟨nS fun _ _ _ => rfl, s1_try hb.1⟩
  | tryX k body j tg h tab hb => exact ⟨nS fun _ _ _ => rfl, s1_tryX hb.1⟩
end
end Z
set_option Elab.async false
set_option linter.all false
set_option maxRecDepth 100000
set_option maxHeartbeats 1000000
namespace Z
open PySem PySem.Spec PyProof.Rows L2
def fnScB (N P : List Str) (sc : Scope) : Bool :=
  isFnK sc && !sc.isCoroutine && !sc.isGenerator && decide N.Nodup && decide (N.take P.length = P) && (P.all fun x => (sc.names.lookup x == some .local) || (sc.names.lookup x == some .cell)) && (sc.names.all fun y => !(y.2 == .free))
theorem fnSc_of {N P : List Str} {sc : Scope} (h : fnScB N P sc = true) : FnScope N P sc := by
  unfold fnScB at h
  simp only [Bool.and_eq_true, decide_eq_true_eq, Bool.not_eq_true', List.all_eq_true, Bool.or_eq_true, beq_iff_eq, beq_eq_false_iff_ne] at h
  obtain ⟨⟨⟨⟨⟨⟨h1, h2⟩, h3⟩, h4⟩, h5⟩, h6⟩, h7⟩ := h
  refine ⟨?_, h2, h3, h4, h5, h6, h7⟩
  unfold isFnK at h1
  split at h1 <;> first | assumption | cases h1
def chkDefG (grd : Bool) (t : Tb) (d : Df) (N P : List Str) (st : Stmt) : Bool :=
  fnScB N P (defScope st) && decide (d.np = P.length) && decide (d.ns = N.length) && chkS t ⟨defScope st, none, N, grd⟩ d.body (defBody st)
def chkDef (t : Tb) (d : Df) (N P : List Str) (st : Stmt) : Bool := chkDefG false t d N P st
theorem start_rep {t : Tb} {u : At} {F L : List Addr} {H : Hp} {N : List Str} {ds : List D} {vs : List V} (r : VRepL t u F L H ds vs) : ERep t u F L H (Z.start N.length ds) (L2.start N vs) := by
  have hl := VRepL.len _ _ r
  refine ⟨?_, fun i d h => ?_⟩
  · unfold Z.start L2.start
    rw [List.length_append, List.length_append, List.length_map, List.length_map, List.length_replicate, List.length_replicate, hl]
  · unfold Z.start at h
    by_cases hi : i < ds.length
    · rw [List.getElem?_append_left (by rw [List.length_map]; exact hi), List.getElem?_map] at h
      cases e : ds[i]? with
      | none => rw [e] at h; cases h
      | some d' =>
        rw [e] at h
        obtain rfl : d' = d := Option.some.inj (Option.some.inj h)
        obtain ⟨v, h1, h2⟩ := r.get e
        refine ⟨v, ?_, h2⟩
        unfold L2.start
        rw [List.getElem?_append_left (by rw [List.length_map, ← hl]; exact hi), List.getElem?_map, h1]
        rfl
    · rw [List.getElem?_append_right (by rw [List.length_map]; omega), List.getElem?_replicate] at h
      split at h <;> cases h
structure DefK (K : PySem.W.Frag) (t : Tb) (u : At) (T : List Df) (f : Nat) (x : Str) (ps : List Str) (fd : FuncData) : Prop where
  ex : ∃ (d : Df) (N : List Str) (st : Stmt) (nm qual : Str), T[f]? = some d ∧ chkDef t d N ps st = true ∧ Fun K nm qual st (u.fa f) fd
  b : Binds K fd ps []
theorem callN_un {T : List Df} {n f : Nat} {d : Df} (hT : T[f]? = some d) {ds : List D} {M : Mem} {Φ : VQ} {Ξ : XQ} (h : callN T (n + 1) f ds M Φ Ξ) : ds.length = d.np ∧ wpS (callN T n) d.body (Z.start d.ns ds) M
    { nx := fun _ M' => gcR d.gc M.length .non M' fun m => Φ .non m
      rt := fun v M' => gcR d.gc M.length v M' fun m => Φ v m
      bk := fun _ _ => False
      ct := fun _ _ => False
      ex := fun c _ M' => gcX d.gc M.length M' fun m => Ξ c m } := by
  have h : (match T[f]? with
    | some d => ds.length = d.np ∧ wpS (callN T n) d.body (Z.start d.ns ds) M
        { nx := fun _ M' => gcR d.gc M.length .non M' fun m => Φ .non m
          rt := fun v M' => gcR d.gc M.length v M' fun m => Φ v m
          bk := fun _ _ => False
          ct := fun _ _ => False
          ex := fun c _ M' => gcX d.gc M.length M' fun m => Ξ c m }
    | none => False) := h
  rw [hT] at h
  exact h
theorem body_end {t : Tb} {u : At} {T : List Df} {n : Nat} {d : Df} {N : List Str} {F L : List Addr} {H : Hp} {M : Mem} {ds : List D} {vs : List V} {Φ : VQ} {Ξ : XQ} {Q : VK} {E : XK} (c3 : d.ns = N.length) (hm : MRep t u F L H M) (rv : VRepL t u F L H ds vs)
    (hw : wpS (callN T n) d.body (Z.start d.ns ds) M
      { nx := fun _ M' => gcR d.gc M.length .non M' fun m => Φ .non m
        rt := fun v M' => gcR d.gc M.length v M' fun m => Φ v m
        bk := fun _ _ => False
        ct := fun _ _ => False
        ex := fun c _ M' => gcX d.gc M.length M' fun m => Ξ c m }) (hQ : Aft t u F L H Φ Q) (hX : ∀ c M' L' H', Ξ c M' → Step L H L' H' → MRep t u F L' H' M' → E (.ref (u.ea c)) none H') :
    tS t u (callN T n) (fun cls d _ H => E cls d H) d.body { nx := fun _ H' => Q .non H', rt := Q } (L2.start N vs) H := by
  rw [c3] at hw
  refine ⟨F, L, _, M, _, start_rep rv, hm, hw, ⟨fun env' M' L' H' σ' k1 s1 m1 _ => ?_, fun d M' L' H' v k1 s1 m1 r1 => ?_, fun _ _ _ _ _ z => z.elim, fun _ _ _ _ _ z => z.elim, fun c env' M' L' H' σ' k1 s1 m1 _ => ?_⟩⟩
  · obtain ⟨L2', M2, s2, m2, r2, k2⟩ := gcR_ok (d := .non) (v := .non) hm s1 m1 rfl k1
    exact hQ .non M2 L2' H' .non k2 s2 m2 r2
  · obtain ⟨L2', M2, s2, m2, r2, k2⟩ := gcR_ok hm s1 m1 r1 k1
    exact hQ d M2 L2' H' v k2 s2 m2 r2
  · obtain ⟨L2', M2, s2, m2, k2⟩ := gcX_ok hm s1 m1 k1
    exact hX c M2 L2' H' k2 s2 m2
theorem body_rd {P : Program} {w : World} {mg : Str → Option Value} {base : Heap} {t : Tb} {u : At} {T : List Df} (fac : Fac t u mg) {n f : Nat} {fa : Addr} {grd : Bool} {d : Df} {N ps : List Str} {st : Stmt} {qual : Str} {cdv : Value} {A : Around} {outer : List PySem.Env} {s : Shared} {H : Hp} {vs : List V} {Q : VK} {E : XK}
    (hHot : ∀ (h : Nat) (x : Str) (tab : List D), t.hot[h]? = some (x, tab) → ∃ (f : Addr) (fd : FuncData) (ps : List Str), FnX P w u.K mg base (L2N.CX P w) 1 f fd ps (spX t u tab) ∧ Binds u.K fd ps [] ∧ mg x = some (.ref f) ∧ PySem.W.keepIn u.K (.ref f) = true)
    (hT : T[f]? = some d) (S : FnScope N ps (defScope st)) (c3 : d.ns = N.length) (c4 : chkS t ⟨defScope st, none, N, grd⟩ d.body (defBody st) = true) (hg : grd = true → A.guards = some [])
    (hr : Room 1 (A.deeper (envOfC qual (defScope st) s.heap.objs.size fa cdv)))
    (hcall : ∀ (f' : Nat) (x : Str) (ps' : List Str), t.fns[f']? = some (x, ps') → ∃ (k : Nat) (fd : FuncData), FnOk P w u.K mg base (L2N.CX P w) k (u.fa f') fd ps' (spC t u (callN T n) f') ∧ Binds u.K fd ps' [] ∧ Room (k + 1) (A.deeper (envOfC qual (defScope st) s.heap.objs.size fa cdv)))
    (hhs : ∀ (f : Nat) (x : Str) (ps : List Str), f ∈ t.hs → t.fns[f]? = some (x, ps) → ∃ fd : FuncData, L2H.FnH P w u.K mg base (L2N.CX P w) 1 (u.fa f) fd ps (spC t u (callN T n) f) ∧ Binds u.K fd ps [])
    (h : spC t u (callN T (n + 1)) f vs H Q E) :
    ∃ tt, PSs (cxOf (L2N.CX P w) P w u.K mg base N qual (defScope st) fa cdv A outer s H E) (defBody st) tt ∧ tt { nx := fun _ H' => Q .non H', rt := Q } (L2.start N vs) H := by
  obtain ⟨F, L, M, ds, Φ, Ξ, hm, rv, hC, hQ, hX⟩ := h
  obtain ⟨_, hw⟩ := callN_un hT hC
  have tk : L2N.Takes (cxOf (L2N.CX P w) P w u.K mg base N qual (defScope st) fa cdv A outer s H E) (fun cls d _ H => E cls d H) := L2N.takes_of rfl rfl rfl rfl
  have g : Gd t u (callN T n) (fun cls d _ H => E cls d H) ⟨defScope st, none, N, grd⟩ (cxOf (L2N.CX P w) P w u.K mg base N qual (defScope st) fa cdv A outer s H E) := {
    K := rfl
    N := rfl
    nd := S.nd
    sc := rfl
    fnx := fun _ _ => rfl
    calm := rfl
    tk := tk
    fac := fac
    room := hr
    grd := hg
    hot := hHot
    call := hcall
    hotf := hhs }
  have gs : GdS t u (callN T n) (fun cls d _ H => E cls d H) ⟨defScope st, none, N, grd⟩ (cxOf (L2N.CX P w) P w u.K mg base N qual (defScope st) fa cdv A outer s H E) := ⟨g, passes_of (K := fun e s'' => L2N.CX P w outer H s E e s'') rfl, rfl, rfl⟩
  exact ⟨_, (st_all d.body).1 _ _ _ _ gs c4, body_end c3 hm rv hw hQ hX⟩
theorem hot_fn {P : Program} {w : World} {mg : Str → Option Value} {base : Heap} {t : Tb} {u : At} {T : List Df} (fac : Fac t u mg) {f : Nat} {x : Str} {ps : List Str} {fd : FuncData} (hK : DefK u.K t u T f x ps fd) (hh : ∃ d, T[f]? = some d ∧ hotS [] d.body = true) :
    ∀ n : Nat, L2H.FnH P w u.K mg base (L2N.CX P w) 1 (u.fa f) fd ps (spC t u (callN T n) f)
  | 0 => by
    have no : ∀ vs H Q E, ¬ spC t u (callN T 0) f vs H Q E := fun vs H Q E h => by
      obtain ⟨_, _, _, _, _, _, _, _, z, _⟩ := h
      exact z
    exact ⟨fun vs H Q E h => (no vs H Q E h).elim, fun A outer s H args us vs Q E p _ _ _ _ _ _ h => (no vs H Q E h).elim⟩
  | n + 1 => by
    obtain ⟨⟨d, N, st, nm, qual, hT, hc, hF⟩, hb⟩ := hK
    obtain ⟨d', hT', hb'⟩ := hh
    obtain rfl : d = d' := Option.some.inj (hT.symm.trans hT')
    unfold chkDef chkDefG at hc
    simp only [Bool.and_eq_true, decide_eq_true_eq] at hc
    obtain ⟨⟨⟨c1, c2⟩, c3⟩, c4⟩ := hc
    have S := fnSc_of c1
    obtain ⟨oc, od, kV, doc, pm, an, cdv, ct, osl, rfl, lk, hcd⟩ := hF.ex
    refine L2H.fn_ofH (k := 0) lk hcd S (fun vs H Q E h => ?_) (fun A outer s H vs Q E p hot hr h => ?_)
    · obtain ⟨F, L, M, ds, Φ, Ξ, hm, rv, hC, _, _⟩ := h
      rw [← VRepL.len _ _ rv, (callN_un hT hC).1, c2]
    · obtain ⟨F, L, M, ds, Φ, Ξ, hm, rv, hC, hQ, hX⟩ := h
      obtain ⟨_, hw⟩ := callN_un hT hC
      have tk : L2N.Takes (L2H.cxH (L2N.CX P w) P w u.K mg base N qual (defScope st) (u.fa f) cdv A outer s H E p) (fun cls d _ H => E cls d H) := L2N.takes_of rfl rfl rfl rfl
      have g : GdH t u (callN T n) [] (fun cls d _ H => E cls d H) ⟨defScope st, none, N, false⟩ (L2H.cxH (L2N.CX P w) P w u.K mg base N qual (defScope st) (u.fa f) cdv A outer s H E p) := {
        K := rfl
        N := rfl
        nd := S.nd
        sc := rfl
        fnx := fun _ _ => rfl
        fac := fac
        room := hr
        pin := ⟨p, hot, List.mem_cons_self⟩
        pas := fun σ => L2N.passAt tk σ
        call := fun _ _ _ z => by cases z }
      exact ⟨_, hss d.body hb' _ _ _ _ g c4, body_end c3 hm rv hw hQ hX⟩
def hsB (t : Tb) (T : List Df) : Bool := t.hs.all fun f => match T[f]? with
  | some d => hotS [] d.body
  | none => false
theorem hs_of {t : Tb} {T : List Df} (h : hsB t T = true) : ∀ f ∈ t.hs, ∃ d, T[f]? = some d ∧ hotS [] d.body = true := fun f hf => by
  have q := List.all_eq_true.mp h f hf
  split at q
  · rename_i d e
    exact ⟨d, e, q⟩
  · cases q
theorem defs_ok {P : Program} {w : World} {mg : Str → Option Value} {base : Heap} {t : Tb} {u : At} {T : List Df} (fac : Fac t u mg) (hd : ∀ f x ps, t.fns[f]? = some (x, ps) → ∃ fd, DefK u.K t u T f x ps fd)
    (hHot : ∀ (h : Nat) (x : Str) (tab : List D), t.hot[h]? = some (x, tab) → ∃ (f : Addr) (fd : FuncData) (ps : List Str), FnX P w u.K mg base (L2N.CX P w) 1 f fd ps (spX t u tab) ∧ Binds u.K fd ps [] ∧ mg x = some (.ref f) ∧ PySem.W.keepIn u.K (.ref f) = true)
    (hH : ∀ f ∈ t.hs, ∃ d, T[f]? = some d ∧ hotS [] d.body = true) :
    ∀ (n f : Nat) (x : Str) (ps : List Str) (fd : FuncData), t.fns[f]? = some (x, ps) → DefK u.K t u T f x ps fd → FnOk P w u.K mg base (L2N.CX P w) (2 * n) (u.fa f) fd ps (spC t u (callN T n) f) := by
  intro n
  induction n with
  | zero =>
    intro f x ps fd hf hK
    have no : ∀ vs H Q E, ¬ spC t u (callN T 0) f vs H Q E := fun vs H Q E h => by
      obtain ⟨_, _, _, _, _, _, _, _, z, _⟩ := h
      exact z
    exact ⟨fun vs H Q E h => (no vs H Q E h).elim, fun A outer s H args us vs Q E _ _ _ _ h => (no vs H Q E h).elim⟩
  | succ n ih =>
    intro f x ps fd hf hK
    obtain ⟨⟨d, N, st, nm, qual, hT, hc, hF⟩, hb⟩ := hK
    unfold chkDef chkDefG at hc
    simp only [Bool.and_eq_true, decide_eq_true_eq] at hc
    obtain ⟨⟨⟨c1, c2⟩, c3⟩, c4⟩ := hc
    have S := fnSc_of c1
    have e2 : 2 * (n + 1) = (2 * n + 1) + 1 := by omega
    rw [e2]
    obtain ⟨oc, od, kV, doc, pm, an, cdv, ct, osl, rfl, lk, hcd⟩ := hF.ex
    refine fn_of lk hcd S (fun vs H Q E h => ?_) (fun A outer s H vs Q E hr h => ?_)
    · obtain ⟨F, L, M, ds, Φ, Ξ, hm, rv, hC, _, _⟩ := h
      rw [← VRepL.len _ _ rv, (callN_un hT hC).1, c2]
    · refine body_rd fac hHot hT S c3 c4 (fun z => by cases z) (hr.mono (by omega)) (fun f' x' ps' hf' => ?_) (fun f' x' ps' hs' hf' => ?_) h
      · obtain ⟨fd', hK'⟩ := hd f' x' ps' hf'
        exact ⟨2 * n, fd', ih f' x' ps' fd' hf' hK', hK'.b, hr⟩
      · obtain ⟨fd', hK'⟩ := hd f' x' ps' hf'
        exact ⟨fd', hot_fn fac hK' (hH f' hs') n, hK'.b⟩
theorem law_sp {t : Tb} {u : At} {C : Calls} {f : Nat} {n : Nat} (h : ∀ ns : List Int, ns.length ≤ n → C f [.scr (ns.map D.int)] [] (fun d _ => d = .bl true) (fun _ _ => False)) (H : Hp) (a : Addr) (ns : List Int) (hn : ns.length ≤ n) (hS : SqL u.K H a (ns.map V.int)) :
    spC t u C f [.ref a] H (fun v _ => v = .bl true) fun _ _ _ => False := by
  refine ⟨[], [], [], [.scr (ns.map D.int)], _, _, ⟨rfl, List.nodup_nil, fun a h => by simp at h, fun n a o h => by simp at h⟩, ⟨.ref a, [], rfl, ⟨a, ns.map V.int, rfl, ?_, VRepL.ofInts ns⟩, rfl⟩, h ns hn, fun d M' L' H' v e _ _ r => ?_, fun _ _ _ _ z => z.elim⟩
  · rcases hS with hS | hS
    · exact .inl ⟨hS, by simp, by simp⟩
    · exact .inr hS
  · subst e
    exact r
theorem law_cx {P : Program} {w : World} {H : Hp} {s : Shared} {e : Value} {s' : Shared} (h : L2N.CX P w [] H s (fun _ _ _ => False) e s') : False := by
  obtain ⟨_, _, _, _, _, _, _, _, _, _, _, _, z⟩ := h
  exact z
end Z
set_option Elab.async false
set_option linter.all false
set_option maxRecDepth 100000
set_option maxHeartbeats 1000000
namespace Z
open PySem PySem.Spec PyProof.Rows L2
def AllI {α : Type} (P : Nat → α → Prop) : Nat → List α → Prop
  | _, [] => True
  | k, a :: r => P k a ∧ AllI P (k + 1) r
theorem allI_get {α : Type} {P : Nat → α → Prop} : ∀ (l : List α) (k i : Nat) (x : α), AllI P k l → l[i]? = some x → P (k + i) x
  | [], _, _, _, _, h => by simp at h
  | a :: r, k, 0, x, h, e => by
    have e : a = x := by simpa using e
    rw [← e]; exact h.1
  | a :: r, k, i + 1, x, h, e => by
    have q := allI_get r (k + 1) i x h.2 (by simpa using e)
    rw [show k + (i + 1) = k + 1 + i by omega]
    exact q
theorem allI_get0 {α : Type} {P : Nat → α → Prop} {l : List α} (h : AllI P 0 l) {i : Nat} {x : α} (e : l[i]? = some x) : P i x := by
  have q := allI_get l 0 i x h e
  rw [Nat.zero_add] at q
  exact q
theorem allI_mem {α : Type} {P : α → Prop} {l : List α} (h : AllI (fun _ => P) 0 l) : ∀ x ∈ l, P x := fun x hx => by
  obtain ⟨i, hi, e⟩ := List.mem_iff_getElem.mp hx
  exact allI_get0 (P := fun _ => P) h (by rw [List.getElem?_eq_getElem hi, e])
def spLaw (K : PySem.W.Frag) (n : Nat) : Sp := fun vs H Q _ => ∃ (a : Addr) (ns : List Int), vs = [V.ref a] ∧ ns.length ≤ n ∧ SqL K H a (ns.map V.int) ∧ ∀ H', Q (.bl true) H'
theorem law_imp {t : Tb} {u : At} {C : Calls} {f : Nat} {n : Nat} (h : ∀ ns : List Int, ns.length ≤ n → C f [.scr (ns.map D.int)] [] (fun d _ => d = .bl true) (fun _ _ => False)) (vs : List V) (H : Hp) (Q : VK) (E : XK) (q : spLaw u.K n vs H Q E) :
    spC t u C f vs H Q E := by
  obtain ⟨a, ns, rfl, hn, hS, hQ⟩ := q
  refine ⟨[], [], [], [.scr (ns.map D.int)], _, _, ⟨rfl, List.nodup_nil, fun a h => by simp at h, fun n a o h => by simp at h⟩, ⟨.ref a, [], rfl, ⟨a, ns.map V.int, rfl, ?_, VRepL.ofInts ns⟩, rfl⟩, h ns hn, fun d M' L' H' v e _ _ r => ?_, fun _ _ _ _ z => z.elim⟩
  · rcases hS with hS | hS
    · exact .inl ⟨hS, by simp, by simp⟩
    · exact .inr hS
  · subst e
    obtain rfl : v = .bl true := r
    exact hQ H'
theorem spLaw_of {K : PySem.W.Frag} {n : Nat} (H : Hp) (a : Addr) (ns : List Int) (hn : ns.length ≤ n) (hS : SqL K H a (ns.map V.int)) : spLaw K n [.ref a] H (fun v _ => v = .bl true) fun _ _ _ => False :=
  ⟨a, ns, rfl, hn, hS, fun _ => rfl⟩
theorem exm_of {K : PySem.W.Frag} {cls : Value} {C : Addr} {b : Bool} (h1 : PySem.W.subIn K (.ref C) (.type "BaseException") = some true) (h2 : PySem.W.isClsIn K C = true) (h3 : PySem.W.typeIn K (.ref C) = some (.type "type")) (h4 : PySem.W.subIn K cls (.ref C) = some b) :
    PySem.W.exmOne K cls (.ref C) = some b := by
  unfold PySem.W.exmOne PySem.W.kitCls
  unfold PySem.W.isClsIn at h2
  rw [h1, if_pos (beq_self_eq_true _)]
  show (if ((PySem.W.clsIn K C).isSome && PySem.W.typeIn K (.ref C) == some (.type "type")) = true then PySem.W.subIn K cls (.ref C) else none) = some b
  rw [h2, h3, h4]
  rfl
theorem txt_of {t : Tb} (h : (decide t.texts.Nodup && t.texts.all PyData.strOk) = true) : TxtOk t := by
  rw [Bool.and_eq_true] at h
  exact ⟨of_decide_eq_true h.1, List.all_eq_true.mp h.2⟩
end Z
set_option Elab.async false
set_option linter.all false
set_option maxRecDepth 100000
set_option maxHeartbeats 1000000
namespace Z
open PySem PySem.Spec PyProof.Rows L2
def Asked (P : Program) (w : World) (K : PySem.W.Frag) (mg : Str → Option Value) (base : Heap) (CX : CXT) (fa : Addr) (fd : FuncData) (ps : List Str) (sp : Sp) : Prop :=
  ∀ (s : Shared) (H : Hp) (us : List Value) (vs : List V) (Q : VK) (E : XK), Env0 P w K mg base callerA [] s H → BindsTo s fd ⟨us, []⟩ (ps.zip us) → Vals vs us → sp vs H Q E → codeAny (model P w) callerA (.call (.ref fa) ⟨us, []⟩) (CR CX [] P w H s Q E) s
theorem asked_of {P : Program} {w : World} {K : PySem.W.Frag} {mg : Str → Option Value} {base : Heap} {CX : CXT} {k : Nat} {fa : Addr} {fd : FuncData} {nm qual : Str} {st : Stmt} {N ps : List Str} {sp : Sp} (F : Fun K nm qual st fa fd) (S : FnScope N ps (defScope st)) (hr : Room (k + 1) callerA)
    (len : ∀ vs H Q E, sp vs H Q E → vs.length = ps.length)
    (hb : ∀ (cdv : Value) (s : Shared) (H : Hp) (vs : List V) (Q : VK) (E : XK), Room k (callerA.deeper (envOfC qual (defScope st) s.heap.objs.size fa cdv)) → sp vs H Q E → ∃ tt, PSs (cxOf CX P w K mg base N qual (defScope st) fa cdv callerA [] s H E) (defBody st) tt ∧ tt { nx := fun _ H' => Q .non H', rt := Q } (L2.start N vs) H) :
    Asked P w K mg base CX fa fd ps sp := by
  obtain ⟨oc, od, kV, doc, pm, an, cdv, ct, osl, rfl, lk, hcd⟩ := F.ex
  intro s H us vs Q E e0 bnd rel hsp
  have hlen := len _ _ _ _ hsp
  have inK : K.In s.heap := e0.mod.kin.keeps fun b o e => (e0.bs b o e).1
  have noLim : s.heap.NoLimit := e0.mod.nolimit.keeps fun b o e => (e0.bs b o e).1
  have kinds : ∀ y ∈ ps.zip us, (defScope st).names.lookup y.1 = some .local ∨ ((defScope st).names.lookup y.1 = some .cell ∧ ((cellsFrom (s.heap.objs.size + 1) (defScope st).names []).lookup y.1).isSome = true) := by
    rintro ⟨n, v⟩ hy
    exact (S.par n (List.of_mem_zip hy).1).imp id fun q => ⟨q, PySem.W.cellsFrom_some _ _ _ (.inl q)⟩
  refine codeAny_call_function hr.depth (inK _ _ lk) rfl S.co S.gen rfl (PySem.W.codeRec_of inK hcd) (bnd _ _ _ _ ?_)
  refine wpAny_newFunctionEnv_cells S.kind kinds fun env he s1 x => ?_
  subst he
  refine ⟨noLim.keeps x.toInCall.keep, codeAny_func ?_⟩
  obtain ⟨tt, ht, hq⟩ := hb cdv s H vs Q E (hr.deeper _) hsp
  have start : Inv (cxOf CX P w K mg base N qual (defScope st) fa cdv callerA [] s H E) [] (L2.start N vs) H s1 := inv_start S hr.hd e0 hlen rel x
  refine wpAny_mono (ht.run [] s1 _ H _ start hq) (fun fl s' hs => ?_) fun e s' hs => hs
  have told : ∀ {σ' : L2.St} {H' : Hp} {v : V} {z : Value}, Inv (cxOf CX P w K mg base N qual (defScope st) fa cdv callerA [] s H E) [] σ' H' s' → RelV v z → Q v H' → CE [] P w H s Q z s' :=
    fun {σ' H' v z} J rv q => ⟨v, H', J.os, J.bare, J.base, J.hok, rv, q⟩
  cases fl with
  | ret z =>
    obtain ⟨v, σ', H', J, rv, q⟩ := hs
    exact told J rv q
  | next =>
    obtain ⟨σ', H', J, q⟩ := hs
    exact told (v := V.non) (z := Value.none) J rfl q
  | brk =>
    obtain ⟨_, _, _, q⟩ := hs
    exact False.elim q
  | cont =>
    obtain ⟨_, _, _, q⟩ := hs
    exact False.elim q
theorem lawG_ok {P : Program} {w : World} {mg : Str → Option Value} {base : Heap} {t : Tb} {u : At} {T : List Df} (fac : Fac t u mg) (hd : ∀ f x ps, t.fns[f]? = some (x, ps) → ∃ fd, DefK u.K t u T f x ps fd)
    (hHot : ∀ (h : Nat) (x : Str) (tab : List D), t.hot[h]? = some (x, tab) → ∃ (f : Addr) (fd : FuncData) (ps : List Str), FnX P w u.K mg base (L2N.CX P w) 1 f fd ps (spX t u tab) ∧ Binds u.K fd ps [] ∧ mg x = some (.ref f) ∧ PySem.W.keepIn u.K (.ref f) = true)
    (hH : ∀ f ∈ t.hs, ∃ d, T[f]? = some d ∧ hotS [] d.body = true)
    {n m f : Nat} {fa : Addr} {fd : FuncData} {d : Df} {N : List Str} {x : Str} {st : Stmt} {nm qual : Str} (hT : T[f]? = some d) (hc : chkDefG true t d N [x] st = true) (hF : Fun u.K nm qual st fa fd) (hr : Room (2 * n + 2) callerA)
    (h : ∀ ns : List Int, ns.length ≤ m → callN T (n + 1) f [.scr (ns.map D.int)] [] (fun d _ => d = .bl true) (fun _ _ => False)) :
    Asked P w u.K mg base (L2N.CX P w) fa fd [x] (spLaw u.K m) := by
  unfold chkDefG at hc
  simp only [Bool.and_eq_true, decide_eq_true_eq] at hc
  obtain ⟨⟨⟨c1, c2⟩, c3⟩, c4⟩ := hc
  have S := fnSc_of c1
  refine asked_of (k := 2 * n + 1) hF S hr (fun vs H Q E q => ?_) fun cdv s H vs Q E hr2 q => ?_
  · obtain ⟨a, ns, rfl, _⟩ := q
    rfl
  · refine body_rd fac hHot hT S c3 c4 (fun _ => rfl) (hr2.mono (by omega)) (fun f' x' ps' hf' => ?_) (fun f' x' ps' hs' hf' => ?_) (law_imp h vs H Q E q)
    · obtain ⟨fd', hK'⟩ := hd f' x' ps' hf'
      exact ⟨2 * n, fd', defs_ok fac hd hHot hH n f' x' ps' fd' hf' hK', hK'.b, hr2⟩
    · obtain ⟨fd', hK'⟩ := hd f' x' ps' hf'
      exact ⟨fd', hot_fn fac hK' (hH f' hs') n, hK'.b⟩
theorem tracked {P : Program} {w : World} {K : PySem.W.Frag} {h : Heap} {a : Addr} {vs : List Value} {ns : List Int} (inK : K.In h) (ha : h.get? a = some { cls := .type "list", data := .seq vs.toArray }) (hi : IntsAre vs ns) (hl : ns.length ≤ sizeLine) :
    ∃ H : Hp, Only H ∧ SqL K H a (ns.map V.int) ∧ HOk P w H h ∧ (∀ b u, H b = some u → b = a ∧ K.lookup a = none) := by
  have rel := vals_ints hi
  have len := hi.length
  cases e : K.lookup a with
  | some o =>
    obtain rfl : { cls := .type "list", data := .seq vs.toArray } = o := Option.some.inj (ha.symm.trans (inK a o e))
    exact ⟨fun _ => none, fun _ => .inl rfl, .inr ⟨_, vs.toArray, _, e, rfl, rfl, rfl, by rw [List.size_toArray, len]; exact hl, by simpa using rel⟩, (fun b u z => by cases (show (none : Option HO) = some u from z)), (fun b u z => by cases (show (none : Option HO) = some u from z))⟩
  | none =>
    have only : ∀ (b : Addr) (u : HO), upd (fun _ => none) a (.frz { cls := .type "list", data := .seq vs.toArray } (.lst (ns.map V.int))) b = some u → b = a ∧ u = .frz { cls := .type "list", data := .seq vs.toArray } (.lst (ns.map V.int)) := fun b u z => by
      by_cases q : b = a
      · rw [q, upd_same] at z
        exact ⟨q, (Option.some.inj z).symm⟩
      · rw [upd_ne q] at z; cases z
    refine ⟨upd (fun _ => none) a (.frz { cls := .type "list", data := .seq vs.toArray } (.lst (ns.map V.int))), fun b => ?_, .inl (.inr ⟨_, upd_same⟩), fun b u z => ?_, fun b u z => ⟨(only b u z).1, rfl⟩⟩
    · by_cases q : b = a
      · exact .inr ⟨_, _, by rw [q]; exact upd_same⟩
      · exact .inl (upd_ne q)
    · obtain ⟨rfl, rfl⟩ := only b u z
      exact ⟨ha, by rw [List.length_map]; exact hl, vs, _, rel, ha⟩
theorem law_asked {P : Program} {w : World} {K : PySem.W.Frag} {mg mb : Str → Option Value} {CX : CXT} {fa a : Addr} {fd : FuncData} {x : Str} {sp : Sp} {s₁ : Shared} {vs : List Value} {ns : List Int}
    (inK : K.In s₁.heap) (nsG : s₁.heap.Ns mainGlobals mg) (nsB : s₁.heap.Ns builtinsNs mb) (bts : ∀ x : Str, x ≠ "__name__" → mb x = bootBuiltins x) (lim : s₁.heap.NoLimit) (gens : s₁.gens = #[])
    (ha : s₁.heap.get? a = some { cls := .type "list", data := .seq vs.toArray }) (hi : IntsAre vs ns) (hl : ns.length ≤ sizeLine)
    (F : ∀ base : Heap, K.In base → base.Ns mainGlobals mg → Asked P w K mg base CX fa fd [x] sp) (bnd : ∀ (s : Shared) (u : Value), BindsTo s fd ⟨[u], []⟩ [(x, u)])
    (hsp : ∀ H : Hp, Only H → SqL K H a (ns.map V.int) → sp [.ref a] H (fun v _ => v = .bl true) fun _ _ _ => False)
    (hCX : ∀ H e s', CX [] H s₁ (fun _ _ _ => False) e s' → False) :
    codeAny (model P w) callerA (.call (.ref fa) ⟨[.ref a], []⟩) (fun r s' => r = .ok (.ret (.bool true)) ∧ OldK s₁.heap s'.heap ∧ s'.os = s₁.os ∧ AllBare s'.gens) s₁ := by
  obtain ⟨H, only, seq, ok, at_⟩ := tracked (P := P) (w := w) inK ha hi hl
 
  have none_of : ∀ {b : Addr} {o : Obj}, s₁.heap.get? b = some o → (∀ d, o.data ≠ .seq vs.toArray d) → H b = none := fun {b o} e nd => by
    cases q : H b with
    | none => rfl
    | some u =>
      obtain ⟨rfl, _⟩ := at_ b u q
      rw [ha] at e; cases e
      exact absurd rfl (nd _)
  have ns_of : ∀ {b : Addr} {m : Str → Option Value}, s₁.heap.Ns b m → (hidT s₁.heap H).Ns b m := fun {b m} ⟨o, es, ep, e, d, r⟩ => ⟨o, es, ep, hidT_get e (none_of e fun q z => by rw [d] at z; cases z), d, r⟩
  have inB : K.In (hidT s₁.heap H) := fun b o e => hidT_get (inK b o e) (by
    cases q : H b with
    | none => rfl
    | some u =>
      obtain ⟨rfl, z⟩ := at_ b u q
      rw [z] at e; cases e)
  obtain ⟨mc, l1, l2⟩ := lim
  have e0 : Env0 P w K mg (hidT s₁.heap H) callerA [] s₁ H := ⟨rfl, ⟨inB, ns_of nsG, ⟨mb, ns_of nsB, bts⟩, mc, ns_of l1, l2⟩, fun b o e => of_hidT e, Nat.le_of_eq (hidT_size _ _), trivial, (fun b hb => by cases hb), ok, .of_eq gens⟩
  refine codeAny_mono (F _ inB (ns_of nsG) s₁ H [.ref a] [.ref a] _ _ e0 (bnd s₁ (.ref a)) (.cons rfl .nil) (hsp H only seq)) fun r s' told => ?_
  cases r with
  | error e => exact (hCX H e s' told).elim
  | ok fl =>
    cases fl with
    | ret u =>
      obtain ⟨v, H', os, bare, un, ok', rv, q⟩ := told
      obtain rfl : v = .bl true := q
      obtain rfl : u = Value.bool true := rv
      refine ⟨rfl, OldK.of_keep fun b o e => ?_, os, bare⟩
      rcases only b with z | ⟨ob, ys, z⟩
      · exact un.keep b o e z (fun q => by cases q) (fun q => by cases q)
      · have o1 := (ok b _ z).1
        have o2 := (ok' b _ (un.frzs b ob _ z)).1
        rw [e] at o1; cases o1
        exact o2
    | _ => exact False.elim told
theorem walk_asked {l : PySem.W.OpenLaw} {n : Nat} {q : Program} {loose : List Str} {XP : (Str → Option Value) → Heap → Prop} {YP : World → Heap → Prop} {d : DefRec} {K : Params → PySem.W.Frag} {CX : World → CXT} {sp : World → Sp} {x : Str}
    (hn : l.most = some n) (hn2 : n ≤ sizeLine) (hdf : d.params.defaults = []) (hY : ∀ (w : World) (h : Heap), YP w h → (K w.params).In h)
    (F : ∀ (w : World) (mg : Str → Option Value) (fa : Addr) (h : Heap), (K w.params).In h → h.Ns mainGlobals mg → mg d.name = some (.ref fa) → ∃ fd : FuncData, (∀ (s : Shared) (u : Value), BindsTo s fd ⟨[u], []⟩ [(x, u)]) ∧
        ∀ base : Heap, (K w.params).In base → base.Ns mainGlobals mg → Asked l.prog w (K w.params) mg base (CX w) fa fd [x] (sp w))
    (hsp : ∀ (w : World) (H : Hp) (a : Addr) (ns : List Int), ns.length ≤ n → Only H → SqL (K w.params) H a (ns.map V.int) → sp w [.ref a] H (fun v _ => v = .bl true) fun _ _ _ => False)
    (hCX : ∀ (w : World) (H : Hp) (s : Shared) (e : Value) (s' : Shared), CX w [] H s (fun _ _ _ => False) e s' → False) :
    PySem.W.WalkO q loose XP YP l.row.toRowW d [] (fun f vs => PySem.call f vs) := by
  refine Att.attach_call hn hdf fun w s₀ s₁ mg mb fa o pm cd doc a vs ns G Y ho hd hcd hmg hobj hints hlen hg => ?_
  obtain ⟨fd, hb, hF⟩ := F w mg fa _ (hY w _ Y) G.T.g hmg
  exact law_asked (hY w _ Y) G.T.g G.T.b G.T.builtins G.T.nolimit hg hobj hints (Nat.le_trans hlen hn2) hF hb (fun H hO hS => hsp w H a ns hlen hO hS) fun H e s' => hCX w H s₁ e s'
end Z
set_option Elab.async false
set_option linter.all false
set_option maxRecDepth 100000
set_option maxHeartbeats 1000000
namespace Z
open PySem PySem.Spec PyProof.Rows L2 L2H
structure ExF (t : Tb) (u : At) (mg : Str → Option Value) : Prop where
  cls : ∀ c, c < t.exs.length → ExcC u.K (u.ea c)
  mgs : ∀ (c : Nat) (x : Str), t.exs[c]? = some x → mg x = some (.ref (u.ea c))
  kit : ∀ c k, c < t.exs.length → k < t.exs.length → PySem.W.kitOne u.K (.ref (u.ea c)) (.ref (u.ea k)) = some (sub c k)
  kv : ∀ c, c < t.exs.length → PySem.W.kitOne u.K (.ref (u.ea c)) (.type "ValueError") = some true
  z1 : mg "isinstance" = none
  z2 : mg "int" = none
  z3 : mg "ValueError" = none
theorem kit_ref {K : PySem.W.Frag} {t : Value} {C : Addr} {b : Bool} (h2 : PySem.W.isClsIn K C = true) (h3 : PySem.W.typeIn K (.ref C) = some (.type "type")) (hs : PySem.W.subIn K (.ref C) (.ref C) = some true) (h4 : PySem.W.subIn K t (.ref C) = some b) : PySem.W.kitOne K t (.ref C) = some b := by
  unfold PySem.W.kitOne PySem.W.kitCls
  by_cases e : (t == Value.ref C) = true
  · rw [if_pos e]
    have e2 : t = .ref C := by simpa using e
    rw [e2, hs] at h4
    exact h4
  · rw [if_neg e]
    unfold PySem.W.isClsIn at h2
    show (if ((PySem.W.clsIn K C).isSome && PySem.W.typeIn K (.ref C) == some (.type "type")) = true then PySem.W.subIn K t (.ref C) else none) = some b
    rw [h2, h3, if_pos (by rfl), h4]
theorem kit_ve {K : PySem.W.Frag} {D : Addr} (h4 : PySem.W.subIn K (.ref D) (.type "ValueError") = some true) : PySem.W.kitOne K (.ref D) (.type "ValueError") = some true := by
  unfold PySem.W.kitOne PySem.W.kitCls
  rw [if_neg (fun h => Bool.false_ne_true ((show (Value.ref D == Value.type "ValueError") = false from rfl).symm.trans h))]
  show (if PySem.W.kitMeta "ValueError" = true then PySem.W.subIn K (.ref D) (.type "ValueError") else none) = some true
  rw [if_pos (by decide +kernel), h4]
section
variable {t : Tb} {u : At} {X : Cx} {p : Addr × Obj} {cc : Nat} {sc : Scope} {N : List Str}
def clsOf (t : Tb) (x : Str) (k : Option Nat) : Bool := match k with
  | some k => t.exs[k]? == some x
  | none => x == "ValueError"
def isV (cc : Nat) : Option Nat → Bool
  | some k => sub cc k
  | none => true
def chkIs (t : Tb) (sc : Scope) (N : List Str) (k : Option Nat) (v : Expr) : Bool := match v with
  | .Call fn [x, y] [] _ => isNm "isinstance" sc fn && notStar x && notStar y && (match x with | .Name n _ => (N[0]? == some n) && vis sc n && okN n | _ => false) && (match y with | .Name n _ => glb sc n && okN n && clsOf t n k | _ => false)
  | _ => false
def tIs (a : Addr) (b : Bool) : TE := fun σ H Q => σ[0]? = some (some (.ref a)) ∧ Q (.bl b) H
theorem is_ok (hK : X.K = u.K) (hN : X.N = N) (hs : X.env.scope = sc) (ef : ExF t u X.mg) (hp : p ∈ X.pn) (hc : cc < t.exs.length) (hz : p.2.cls = .ref (u.ea cc) ∧ p.2.dict = none) (hf : ∃ vs, p.2.data = .fields vs) {k : Option Nat} {v : Expr} (h : chkIs t sc N k v = true) :
    PE X v (tIs p.1 (isV cc k)) := by
  unfold chkIs at h
  split at h
  · rename_i fn x y q
    simp only [Bool.and_eq_true] at h
    obtain ⟨⟨⟨⟨h1, h2⟩, h3⟩, h4⟩, h5⟩ := h
    obtain ⟨pf, rfl, hg⟩ := isNm_of h1
    cases x with
    | Name n pn =>
      cases y with
      | Name m pm =>
        simp only [Bool.and_eq_true, beq_iff_eq] at h4 h5
        have px : PE X (.Name n pn) (tVar 0) := pe_var (by rw [hN]; exact h4.1.1) (by rw [hs]; exact vis_of h4.1.2) (okN_of h4.2).1 (okN_of h4.2).2
        have gm : Gl X m := glb_of hs h5.1.1
        have py : ∃ (w : V) (cv : Value), PE X (.Name m pm) (tC w) ∧ (∀ z, RelV w z → z = cv) ∧ PySem.W.kitOne u.K (.ref (u.ea cc)) cv = some (isV cc k) := by
          cases k with
          | some k =>
            have e : t.exs[k]? = some m := by simpa [clsOf] using h5.2
            have hk : k < t.exs.length := (List.getElem?_eq_some_iff.mp e).1
            exact ⟨.ref (u.ea k), .ref (u.ea k), pe_glob gm (ef.mgs k m e) rfl (okN_of h5.1.2).1, fun z rz => rz, ef.kit cc k hc hk⟩
          | none =>
            have e : m = "ValueError" := by simpa [clsOf] using h5.2
            subst e
            exact ⟨.ty "ValueError", .type "ValueError", pe_bltn gm ef.z3 (by decide +kernel) rfl, fun z rz => rz, ef.kv cc hc⟩
        obtain ⟨w, cv, pw, hw, hk⟩ := py
        have C := ef.cls cc hc
        rw [← hK] at C hk
        refine (pe_callB (call_isX C hp hz hf) (glb_of hs hg) ef.z1 (by decide +kernel) (pa_cons px (pa_cons pw pa_nil (star_ns h3)) (star_ns h2)) (by decide) (by decide) (star_ns h2) (plain_ns fun z hz' => by rw [List.mem_singleton.mp hz']; exact h3)).imp fun σ H Q hh => ?_
        exact ⟨_, hh.1, w, cv, _, rfl, hw, hk, hh.2⟩
      | _ => simp at h5
    | _ => simp at h4
  · cases h
def chkIn (t : Tb) (sc : Scope) (N : List Str) (k : Option Nat) (v : Expr) : Bool := match v with
  | .Call fn [x] [] _ => isNm "int" sc fn && notStar x && chkIs t sc N k x
  | _ => false
def tIn (a : Addr) (b : Bool) : TE := fun σ H Q => σ[0]? = some (some (.ref a)) ∧ Q (.int (if b then 1 else 0)) H
theorem in_ok (hK : X.K = u.K) (hN : X.N = N) (hs : X.env.scope = sc) (ef : ExF t u X.mg) (hp : p ∈ X.pn) (hc : cc < t.exs.length) (hz : p.2.cls = .ref (u.ea cc) ∧ p.2.dict = none) (hf : ∃ vs, p.2.data = .fields vs) {k : Option Nat} {v : Expr} (h : chkIn t sc N k v = true) :
    PE X v (tIn p.1 (isV cc k)) := by
  unfold chkIn at h
  split at h
  · rename_i fn x q
    simp only [Bool.and_eq_true] at h
    obtain ⟨⟨h1, h2⟩, h3⟩ := h
    obtain ⟨pf, rfl, hg⟩ := isNm_of h1
    refine (pe_callTy call_int1 (glb_of hs hg) ef.z2 (by decide +kernel) (pa_cons (is_ok hK hN hs ef hp hc hz hf h3) pa_nil (star_ns h2)) (by decide) (by decide) (star_ns h2) rfl).imp fun σ H Q hh => ?_
    exact ⟨hh.1, .inr ⟨_, rfl, hh.2⟩⟩
  · cases h
end
end Z
set_option Elab.async false
set_option linter.all false
set_option maxRecDepth 100000
namespace Z
theorem compL_map {f : D → Mem → (Option D → Mem → Prop) → Prop} {M : Mem} (g : D → D) : ∀ {ds : List D} {Q : List D → Mem → Prop}, (∀ d ∈ ds, ∀ k, k (some (g d)) M → f d M k) → Q (ds.map g) M → compL f ds M Q
  | [], _, _, hq => hq
  | d :: r, Q, h, hq => h d List.mem_cons_self _ (compL_map g (ds := r) (Q := fun ys M2 => Q (g d :: ys) M2) (fun x hx => h x (List.mem_cons_of_mem _ hx)) hq)
theorem compL_opt {f : D → Mem → (Option D → Mem → Prop) → Prop} {M : Mem} (g : D → Option D) : ∀ {ds : List D} {Q : List D → Mem → Prop}, (∀ d ∈ ds, ∀ k, k (g d) M → f d M k) → Q (ds.filterMap g) M → compL f ds M Q
  | [], _, _, hq => hq
  | d :: r, Q, h, hq => by
    refine h d List.mem_cons_self _ (compL_opt g (ds := r) (Q := fun ys M2 => Q (match g d with | some y => y :: ys | none => ys) M2) (fun x hx => h x (List.mem_cons_of_mem _ hx)) ?_)
    rw [List.filterMap_cons] at hq
    cases e : g d with
    | none => rw [e] at hq; exact hq
    | some y => rw [e] at hq; exact hq
theorem compL_of {α : Type} {f : D → Mem → (Option D → Mem → Prop) → Prop} {M : Mem} (v : α → D) (g : α → D) : ∀ {xs : List α} {Q : List D → Mem → Prop}, (∀ x ∈ xs, ∀ k, k (some (g x)) M → f (v x) M k) → Q (xs.map g) M → compL f (xs.map v) M Q
  | [], _, _, hq => hq
  | x :: r, Q, h, hq => h x List.mem_cons_self _ (compL_of v g (xs := r) (Q := fun ys M2 => Q (g x :: ys) M2) (fun y hy => h y (List.mem_cons_of_mem _ hy)) hq)
theorem forL_inv {wb : Env → Mem → Ends → Prop} {src : List Nat} {M0 : Mem} {tg : E} {dead : List Nat} {gc : Bool} {K : Ends} (I : List D → Env → Mem → Prop)
    (hs : ∀ d r env M, I (d :: r) env M → ∀ N : Env → Mem → Prop, (∀ e m, I r e m → N e m) → bindT tg d env fun env1 => wb env1 M { K with
      nx := fun e m => stab src M0 m (gcS gc M0.length (kill dead e) m fun m' => N (kill dead e) m')
      ct := fun e m => stab src M0 m (gcS gc M0.length (kill dead e) m fun m' => N (kill dead e) m')
      bk := fun e m => K.nx (kill dead e) m })
    (he : ∀ env M, I [] env M → K.nx env M) : ∀ {ds : List D} {env : Env} {M : Mem}, I ds env M → forL wb src M0 tg dead gc K ds env M
  | [], env, M, h => he env M h
  | d :: r, env, M, h => hs d r env M h _ fun e m q => forL_inv I hs he q
theorem forL_of {α : Type} {wb : Env → Mem → Ends → Prop} {src : List Nat} {M0 : Mem} {tg : E} {dead : List Nat} {gc : Bool} {K : Ends} (v : α → D) (I : List α → Env → Mem → Prop)
    (hs : ∀ x r env M, I (x :: r) env M → ∀ N : Env → Mem → Prop, (∀ e m, I r e m → N e m) → bindT tg (v x) env fun env1 => wb env1 M { K with
      nx := fun e m => stab src M0 m (gcS gc M0.length (kill dead e) m fun m' => N (kill dead e) m')
      ct := fun e m => stab src M0 m (gcS gc M0.length (kill dead e) m fun m' => N (kill dead e) m')
      bk := fun e m => K.nx (kill dead e) m })
    (he : ∀ env M, I [] env M → K.nx env M) : ∀ {xs : List α} {env : Env} {M : Mem}, I xs env M → forL wb src M0 tg dead gc K (xs.map v) env M
  | [], env, M, h => he env M h
  | x :: r, env, M, h => hs x r env M h _ fun e m q => forL_of v I hs he q
theorem forL_rng {wb : Env → Mem → Ends → Prop} {src : List Nat} {M0 : Mem} {tg : E} {dead : List Nat} {gc : Bool} {K : Ends} {lo : Int} {n : Nat} (I : Nat → Env → Mem → Prop)
    (hs : ∀ i env M, i < n → I i env M → ∀ N : Env → Mem → Prop, (∀ e m, I (i + 1) e m → N e m) → bindT tg (.int (lo + (i : Nat))) env fun env1 => wb env1 M { K with
      nx := fun e m => stab src M0 m (gcS gc M0.length (kill dead e) m fun m' => N (kill dead e) m')
      ct := fun e m => stab src M0 m (gcS gc M0.length (kill dead e) m fun m' => N (kill dead e) m')
      bk := fun e m => K.nx (kill dead e) m })
    (he : ∀ env M, I n env M → K.nx env M) {env : Env} {M : Mem} (h : I 0 env M) : forL wb src M0 tg dead gc K (rngL lo n) env M := by
  have gen : ∀ (k i : Nat) (env : Env) (M : Mem), i + k = n → I i env M → forL wb src M0 tg dead gc K (rngL (lo + (i : Nat)) k) env M := by
    intro k
    induction k with
    | zero =>
      intro i env M e h
      have e : i = n := e
      subst e
      exact he env M h
    | succ k ih =>
      intro i env M e h
      refine hs i env M (by omega) h _ fun e' m' q => ?_
      have q2 := ih (i + 1) e' m' (by omega) q
      rw [show lo + ((i + 1 : Nat) : Int) = lo + (i : Nat) + 1 by omega] at q2
      exact q2
  have q := gen n 0 env M (by omega) h
  rw [show lo + ((0 : Nat) : Int) = lo by omega] at q
  exact q
theorem compL_rng {f : D → Mem → (Option D → Mem → Prop) → Prop} {M : Mem} {lo : Int} {n : Nat} {Q : List D → Mem → Prop} (g : Nat → D) (h : ∀ i, i < n → ∀ k, k (some (g i)) M → f (.int (lo + (i : Nat))) M k) (hq : Q ((List.range n).map g) M) : compL f (rngL lo n) M Q := by
  rw [rngL_eq]
  exact compL_of (fun i : Nat => D.int (lo + (i : Nat))) g (fun i hi => h i (List.mem_range.mp hi)) hq
theorem forL_enum {α : Type} {wb : Env → Mem → Ends → Prop} {src : List Nat} {M0 : Mem} {tg : E} {dead : List Nat} {gc : Bool} {K : Ends} {xs : List α} {v : α → D} (I : Nat → Env → Mem → Prop)
    (hs : ∀ i x env M, i < xs.length → xs[i]? = some x → I i env M → ∀ N : Env → Mem → Prop, (∀ e m, I (i + 1) e m → N e m) → bindT tg (.tup [.int (i : Nat), v x]) env fun env1 => wb env1 M { K with
      nx := fun e m => stab src M0 m (gcS gc M0.length (kill dead e) m fun m' => N (kill dead e) m')
      ct := fun e m => stab src M0 m (gcS gc M0.length (kill dead e) m fun m' => N (kill dead e) m')
      bk := fun e m => K.nx (kill dead e) m })
    (he : ∀ env M, I xs.length env M → K.nx env M) {env : Env} {M : Mem} (h : I 0 env M) : forL wb src M0 tg dead gc K (enumFrom 0 (xs.map v)) env M := by
  have gen : ∀ (ys : List α) (i : Nat) (env : Env) (M : Mem), xs.drop i = ys → i + ys.length = xs.length → I i env M → forL wb src M0 tg dead gc K (enumFrom i (ys.map v)) env M := by
    intro ys
    induction ys with
    | nil =>
      intro i env M _ e h
      have e : i = xs.length := e
      subst e
      exact he env M h
    | cons y r ih =>
      intro i env M hd e h
      rw [List.length_cons] at e
      have hy : xs[i]? = some y := by
        have q := congrArg (·[0]?) hd
        simpa using q
      refine hs i y env M (by omega) hy h _ fun e' m' q => ih (i + 1) e' m' ?_ (by omega) q
      rw [← List.drop_drop, hd]; rfl
  exact gen xs 0 env M rfl (by omega) h
theorem cut_map {α β : Type} (f : α → β) (xs : List α) (lo hi : Option Int) : cut (xs.map f) lo hi = (cut xs lo hi).map f := by
  unfold cut
  rw [List.length_map, List.map_take, List.map_drop]
theorem cut_to {α : Type} (xs : List α) (n : Nat) : cut xs none (some (n : Int)) = xs.take n := by
  unfold cut
  rw [HT.sIx_none, HT.sIx_nat]
  simp only [Nat.zero_min, List.drop_zero, Nat.sub_zero]
  rw [List.take_eq_take_iff]
  omega
theorem cut_from {α : Type} (xs : List α) (n : Nat) : cut xs (some (n : Int)) none = xs.drop n := by
  unfold cut
  rw [HT.sIx_none, HT.sIx_nat]
  by_cases h : n ≤ xs.length
  · rw [Nat.min_eq_left h, List.take_of_length_le (by rw [List.length_drop]; omega)]
  · rw [Nat.min_eq_right (by omega), List.drop_eq_nil_of_le (Nat.le_refl _), List.drop_eq_nil_of_le (by omega)]
    simp
theorem cut_mid {α : Type} (xs : List α) (n m : Nat) : cut xs (some (n : Int)) (some (m : Int)) = (xs.drop n).take (m - n) := by
  unfold cut
  rw [HT.sIx_nat, HT.sIx_nat]
  by_cases h : n ≤ xs.length
  · rw [Nat.min_eq_left h, List.take_eq_take_iff, List.length_drop]
    omega
  · rw [Nat.min_eq_right (show xs.length ≤ n by omega), List.drop_eq_nil_of_le (Nat.le_refl _), List.drop_eq_nil_of_le (show xs.length ≤ n by omega)]
    simp
theorem zipD_map {α β : Type} (f : α → D) (g : β → D) : ∀ (xs : List α) (ys : List β), zipD (xs.map f) (ys.map g) = (xs.zip ys).map fun p => .tup [f p.1, g p.2]
  | [], _ => rfl
  | _ :: _, [] => rfl
  | x :: xs, y :: ys => by
    show D.tup [f x, g y] :: zipD (xs.map f) (ys.map g) = _
    rw [zipD_map f g xs ys]
    rfl
theorem c2t {b : Bool} {P Q : Prop} (e : b = true) (h : P) : c2 b P Q := ⟨fun _ => h, fun z => (by rw [e] at z; cases z)⟩
theorem c2f {b : Bool} {P Q : Prop} (e : b = false) (h : Q) : c2 b P Q := ⟨fun z => (by rw [e] at z; cases z), fun _ => h⟩
theorem zipD_self : ∀ ds : List D, zipD ds ds = ds.map fun d => .tup [d, d]
  | [] => rfl
  | d :: r => by
    show D.tup [d, d] :: zipD r r = _
    rw [zipD_self r]
    rfl
def good : Nat → D → Prop
  | _, .non => True
  | _, .bl _ => True
  | _, .int _ => True
  | _, .str _ => True
  | k + 1, .tup ds => ∀ d ∈ ds, good k d
  | _, _ => False
theorem good_ints (k : Nat) (ns : List Int) : good (k + 1) (.tup (ns.map D.int)) := fun d hd => by
  obtain ⟨i, _, rfl⟩ := List.mem_map.mp hd
  cases k <;> exact trivial
theorem eqB (b : Bool) : (b == b) = true := by cases b <;> rfl
theorem eqI (i : Int) : (i == i) = true := beq_self_eq_true i
theorem eqN (i : Nat) : (i == i) = true := beq_self_eq_true i
theorem all_tt {α : Type} (ds : List α) : (ds.map fun _ => true).all id = true := by
  rw [List.all_eq_true]
  intro x hx
  obtain ⟨_, _, e⟩ := List.mem_map.mp hx
  rw [← e]; rfl
theorem at_last {xs : List D} {x : D} : at? (xs ++ [x]) (-1) = some x := by
  unfold at?
  rw [if_neg (by omega), if_pos (by rw [List.length_append, List.length_singleton]; omega)]
  have e : (-1 + ((xs ++ [x]).length : Int)).toNat = xs.length := by rw [List.length_append, List.length_singleton]; omega
  rw [e, List.getElem?_append_right (Nat.le_refl _), Nat.sub_self]
  rfl
theorem at_nat {xs : List D} (i : Nat) : at? xs (i : Int) = xs[i]? := by
  unfold at?
  rw [if_pos (by omega), Int.toNat_natCast]
theorem bel_ints (k : Nat) : ∀ ns : List Int, D.belL k (ns.map D.int) = true
  | [] => rfl
  | _ :: r => by show (true && D.belL k (r.map D.int)) = true; rw [bel_ints k r]; rfl
abbrev rowD (r : List Int) : D := .tup (r.map D.int)
theorem good_rows : ∀ rows : List (List Int), good 2 (.tup (rows.map rowD)) := fun rows d hd => by
  obtain ⟨r, _, rfl⟩ := List.mem_map.mp hd
  exact good_ints 0 r
theorem at_row {r : List Int} {k : Nat} (h : k < r.length) : at? (r.map D.int) (k : Int) = some (.int (r.getD k 0)) := by
  rw [at_nat, List.getElem?_map, List.getElem?_eq_getElem h, List.getD_eq_getElem?_getD, List.getElem?_eq_getElem h]
  rfl
theorem sum_add (c : Int) : ∀ xs : List Int, (xs.map (· + c)).sum = xs.sum + c * xs.length
  | [] => by simp
  | x :: r => by
    rw [List.map_cons, List.sum_cons, List.sum_cons, sum_add c r, List.length_cons, Int.natCast_add, Int.mul_add]
    omega
theorem range_snoc {α : Type} (f : Nat → α) (i : Nat) : (List.range (i + 1)).map f = (List.range i).map f ++ [f i] := by
  rw [List.range_succ, List.map_append]; rfl
theorem cut_neg {α : Type} (xs : List α) (j : Nat) (h : 0 < j) (hl : j ≤ xs.length) : cut xs none (some (-(j : Int))) = xs.take (xs.length - j) ∧ cut xs (some (-(j : Int))) none = xs.drop (xs.length - j) := by
  have e : HT.sIx xs.length xs.length (some (-(j : Int))) = xs.length - j := by
    show (if -(j : Int) < 0 then (-(j : Int) + (xs.length : Int)).toNat else min (-(j : Int)).toNat xs.length) = _
    rw [if_pos (by omega)]
    omega
  have e2 : HT.sIx xs.length 0 (some (-(j : Int))) = xs.length - j := e
  constructor
  · unfold cut
    rw [HT.sIx_none, e, List.drop_zero, Nat.sub_zero]
  · unfold cut
    rw [HT.sIx_none, e2, List.take_of_length_le (by rw [List.length_drop]; omega)]
theorem eqvL_ints : ∀ a b : List Int, D.eqvL (a.map D.int) (b.map D.int) = decide (a = b)
  | [], [] => rfl
  | [], _ :: _ => rfl
  | _ :: _, [] => rfl
  | x :: a, y :: b => by
    show ((x == y) && D.eqvL (a.map D.int) (b.map D.int)) = _
    rw [eqvL_ints a b]
    by_cases h1 : x = y
    · subst h1
      by_cases h2 : a = b
      · subst h2; simp
      · simp [h2]
    · simp [h1]
theorem flat_ints (k : Nat) (a : List Int) : D.flat (k + 1) (rowD a) = true := by
  show (a.map D.int).all (D.flat k) = true
  rw [List.all_eq_true]
  intro d hd
  obtain ⟨x, _, rfl⟩ := List.mem_map.mp hd
  cases k <;> rfl
theorem ne_self (xs : List Int) : (!(D.eqvL (xs.map D.int) (xs.map D.int))) = false := by rw [eqvL_ints, decide_eq_true rfl]; rfl
theorem eq_self (xs : List Int) : D.eqvL (xs.map D.int) (xs.map D.int) = true := by rw [eqvL_ints, decide_eq_true rfl]
theorem compL_filt {α : Type} {f : D → Mem → (Option D → Mem → Prop) → Prop} {M : Mem} (v : α → D) (c : α → Bool) (g : α → D) : ∀ {xs : List α} {Q : List D → Mem → Prop}, (∀ x ∈ xs, ∀ k, k (if c x = true then some (g x) else none) M → f (v x) M k) → Q ((xs.filter c).map g) M → compL f (xs.map v) M Q
  | [], _, _, hq => hq
  | x :: r, Q, h, hq => by
    refine h x List.mem_cons_self _ (compL_filt v c g (xs := r) (Q := fun ys M2 => Q (match (if c x = true then some (g x) else none) with | some y => y :: ys | none => ys) M2) (fun y hy => h y (List.mem_cons_of_mem _ hy)) ?_)
    cases e : c x with
    | true => rw [List.filter_cons_of_pos e] at hq; simpa using hq
    | false => rw [List.filter_cons_of_neg (by rw [e]; exact Bool.false_ne_true)] at hq; simpa using hq
theorem compL_rngI {f : D → Mem → (Option D → Mem → Prop) → Prop} {M : Mem} {lo : Int} {n : Nat} {Q : List D → Mem → Prop} (I : Nat → List D → Mem → Prop) (h0 : I 0 [] M)
    (hs : ∀ i ys M', i < n → I i ys M' → ∀ k, (∀ y M2, I (i + 1) (ys ++ [y]) M2 → k (some y) M2) → f (.int (lo + (i : Nat))) M' k) (hq : ∀ ys M', I n ys M' → Q ys M') : compL f (rngL lo n) M Q := by
  have gen : ∀ (j i : Nat) (ys : List D) (M' : Mem), i + j = n → I i ys M' → compL f (rngL (lo + (i : Nat)) j) M' fun zs M2 => Q (ys ++ zs) M2 := by
    intro j
    induction j with
    | zero =>
      intro i ys M' e h
      have e : i = n := e
      subst e
      show Q (ys ++ []) M'
      rw [List.append_nil]
      exact hq _ _ h
    | succ j ih =>
      intro i ys M' e h
      refine hs i ys M' (by omega) h _ fun y M2 h2 => ?_
      have q := ih (i + 1) (ys ++ [y]) M2 (by omega) h2
      rw [show lo + ((i + 1 : Nat) : Int) = lo + (i : Nat) + 1 by omega] at q
      have e : (fun zs M2 => Q (ys ++ [y] ++ zs) M2) = (fun zs M2 => Q (ys ++ (y :: zs)) M2) := by
        funext zs M2
        rw [List.append_assoc]; rfl
      rw [e] at q
      exact q
  have q := gen n 0 [] M (by omega) h0
  rw [show lo + ((0 : Nat) : Int) = lo by omega] at q
  exact q
def mapE {α : Type} (g : Nat → α → D) : Nat → List α → List D
  | _, [] => []
  | k, x :: r => g k x :: mapE g (k + 1) r
theorem compL_enum {α : Type} {f : D → Mem → (Option D → Mem → Prop) → Prop} {M : Mem} {v : α → D} (g : Nat → α → D) : ∀ {xs : List α} {j : Nat} {Q : List D → Mem → Prop}, (∀ i x, xs[i]? = some x → ∀ k, k (some (g (j + i) x)) M → f (.tup [.int ((j + i : Nat) : Int), v x]) M k) → Q (mapE g j xs) M → compL f (enumFrom j (xs.map v)) M Q
  | [], _, _, _, hq => hq
  | x :: r, j, Q, h, hq => by
    refine h 0 x rfl _ ?_
    refine compL_enum g (xs := r) (j := j + 1) (Q := fun ys M2 => Q (g j x :: ys) M2) (fun i y hy k hk => ?_) hq
    have q := h (i + 1) y hy k
    rw [show j + (i + 1) = j + 1 + i by omega] at q
    exact q hk
theorem mul_small {i j : Int} (h1 : -(2 ^ 64) < i) (h2 : i < 2 ^ 64) : MulOk i j := .inl ⟨h1, h2⟩
theorem mul_small' {i j : Int} (h1 : -(2 ^ 64) < j) (h2 : j < 2 ^ 64) : MulOk i j := .inr (.inl ⟨h1, h2⟩)
theorem c2_true {P Q : Prop} : c2 true P Q = P := propext ⟨fun h => h.1 rfl, c2T⟩
theorem c2_false {P Q : Prop} : c2 false P Q = Q := propext ⟨fun h => h.2 rfl, c2F⟩
theorem seq_of {C : Calls} {a r : S} {env : Env} {M : Mem} {K : Ends} (h : wpS C a env M { K with nx := fun env' M' => wpS C r env' M' K }) : wpS C (.seq a r) env M K := h
end Z
namespace Z.Law
open PySem PySem.Spec PyProof.Rows L2
set_option maxRecDepth 100000
def b0 : Z.S := (.seq (.asg (.v 2) (.op .sub (.op .mod (.op .add (.op .sub (.v 1) (.v 0)) (.gi 1 (32768))) (.gi 0 (65536))) (.gi 1 (32768))))
 (.seq (.ret (.op .add (.v 0) (.v 2)))
 .nil))
def d0 : Df := { np := 2, ns := 3, body := b0, gc := false }
def b1 : Z.S := (.seq (.asg (.v 2) (.b1 .len false (.v 0)))
 (.seq (.ret (.b1 .tuple false (.comp false [3] (.v 3) (.rng1 (.v 2)) .none (.op .fdiv (.op .add (.op .mul (.ix (.v 0) (.v 3)) (.op .sub (.v 2) (.v 3))) (.op .mul (.ix (.v 1) (.v 3)) (.v 3))) (.v 2)))))
 .nil))
def d1 : Df := { np := 2, ns := 4, body := b1, gc := false }
def b2 : Z.S := (.seq (.ret (.b1 .tuple false (.comp false [1] (.v 1) (.w (.v 0)) .none (.ife (.cmp .ge (.v 1) (.ki 0)) (.op .fdiv (.v 1) (.ki 2)) (.op .sub (.ki 0) (.op .fdiv (.op .sub (.ki 0) (.v 1)) (.ki 2)))))))
 .nil)
def d2 : Df := { np := 1, ns := 2, body := b2, gc := false }
def b3 : Z.S := (.seq (.asg (.attr (.v 0) 0) (.v 1))
 (.seq (.asg (.attr (.v 0) 1) (.v 2))
 (.seq (.asg (.attr (.v 0) 2) (.v 3))
 (.seq (.asg (.attr (.v 0) 3) (.dict .nil))
 (.seq (.asg (.attr (.v 0) 4) .kn)
 (.seq (.asg (.attr (.v 0) 5) (.kb false))
 (.seq (.asg (.attr (.v 0) 6) (.kb false))
 (.seq (.asg (.attr (.v 0) 7) (.op .mul (.tup (.cons (.ki 0) .nil)) (.v 1)))
 (.seq (.asg (.attr (.v 0) 8) (.ki 0))
 (.seq (.asg (.attr (.v 0) 9) (.kb false))
 (.seq (.asg (.attr (.v 0) 10) (.dict .nil))
 .nil)))))))))))
def d3 : Df := { np := 4, ns := 4, body := b3, gc := false }
def b4 : Z.S := (.seq (.asg (.ix (.attr (.v 0) 10) (.v 1)) (.op .add (.bm .get (.attr (.v 0) 10) (.cons (.v 1) (.cons (.ki 0) .nil))) (.ki 1)))
 (.seq (.ret (.v 1))
 .nil))
def d4 : Df := { np := 2, ns := 2, body := b4, gc := false }
def b5 : Z.S := (.seq (.ite (.cmp .ne (.b1 .len false (.v 2)) (.attr (.v 0) 0)) (.seq (.raise 1)
 .nil) .nil)
 (.seq (.ite (.cmp .isN (.attr (.v 0) 4) .kn) (.seq (.asg (.attr (.v 0) 4) (.v 1))
 .nil) .nil)
 (.seq (.asg (.v 3) (.call 0 (.cons (.attr (.v 0) 4) (.cons (.v 1) .nil))))
 (.seq (.ite (.cmp .in_ (.v 3) (.attr (.v 0) 3)) (.seq (.ret (.meth 0 4 (.v 0) (.cons (.ks 0) .nil)))
 .nil) .nil)
 (.seq (.ite (.and (.cmp .lt (.v 3) (.attr (.v 0) 4)) (.w (.attr (.v 0) 6))) (.seq (.ret (.meth 0 4 (.v 0) (.cons (.ks 1) .nil)))
 .nil) .nil)
 (.seq (.ite (.and (.not (.w (.attr (.v 0) 3))) (.not (.w (.attr (.v 0) 5)))) (.seq (.asg (.attr (.v 0) 4) (.v 3))
 .nil) .nil)
 (.seq (.ite (.cmp .ge (.v 3) (.op .add (.attr (.v 0) 4) (.attr (.v 0) 2))) (.seq (.ret (.meth 0 4 (.v 0) (.cons (.ks 2) .nil)))
 .nil) .nil)
 (.seq (.asg (.attr (.v 0) 4) (.b2 .min2 (.attr (.v 0) 4) (.v 3)))
 (.seq (.asg (.ix (.attr (.v 0) 3) (.v 3)) (.v 2))
 (.seq (.ret (.meth 0 4 (.v 0) (.cons (.ks 3) .nil)))
 .nil))))))))))
def d5 : Df := { np := 3, ns := 4, body := b5, gc := false }
def b6 : Z.S := (.seq (.asg (.attr (.v 0) 7) (.v 1))
 (.seq (.ret (.v 1))
 .nil))
def d6 : Df := { np := 2, ns := 2, body := b6, gc := false }
def b7 : Z.S := (.seq (.asg (.v 1) (.ix (.attr (.v 0) 3) (.attr (.v 0) 4)))
 (.seq (.asg (.attr (.v 0) 8) (.ki 0))
 (.seq (.ite (.and (.cmp .gt (.b1 .len false (.attr (.v 0) 3)) (.op .add (.attr (.v 0) 1) (.ki 1))) (.cmp .in_ (.op .add (.attr (.v 0) 4) (.ki 1)) (.attr (.v 0) 3))) (.seq (.asg (.v 2) (.call 1 (.cons (.v 1) (.cons (.ix (.attr (.v 0) 3) (.op .add (.attr (.v 0) 4) (.ki 1))) .nil))))
 (.seq (.ex (.bm .dpop (.attr (.v 0) 3) (.cons (.attr (.v 0) 4) .nil)))
 (.seq (.ex (.bm .dpop (.attr (.v 0) 3) (.cons (.op .add (.attr (.v 0) 4) (.ki 1)) .nil)))
 (.seq (.asg (.attr (.v 0) 4) (.op .add (.attr (.v 0) 4) (.ki 2)))
 (.seq (.asg (.attr (.v 0) 9) (.kb false))
 (.seq (.ex (.meth 0 4 (.v 0) (.cons (.ks 4) .nil)))
 (.seq (.ret (.meth 0 6 (.v 0) (.cons (.v 2) .nil)))
 .nil))))))) .nil)
 (.seq (.ite (.and (.cmp .eq (.b1 .len false (.attr (.v 0) 3)) (.ki 1)) (.and (.not (.w (.attr (.v 0) 9))) (.cmp .gt (.attr (.v 0) 1) (.ki 1)))) (.seq (.asg (.attr (.v 0) 9) (.kb true))
 (.seq (.ex (.meth 0 4 (.v 0) (.cons (.ks 5) .nil)))
 (.seq (.ret (.meth 0 6 (.v 0) (.cons (.call 1 (.cons (.attr (.v 0) 7) (.cons (.v 1) .nil))) .nil)))
 .nil))) .nil)
 (.seq (.ex (.bm .dpop (.attr (.v 0) 3) (.cons (.attr (.v 0) 4) .nil)))
 (.seq (.asg (.attr (.v 0) 4) (.op .add (.attr (.v 0) 4) (.ki 1)))
 (.seq (.asg (.attr (.v 0) 9) (.kb false))
 (.seq (.ex (.meth 0 4 (.v 0) (.cons (.ks 6) .nil)))
 (.seq (.ret (.meth 0 6 (.v 0) (.cons (.v 1) .nil)))
 .nil)))))))))
def d7 : Df := { np := 1, ns := 3, body := b7, gc := false }
def b8 : Z.S := (.seq (.asg (.attr (.v 0) 8) (.op .add (.attr (.v 0) 8) (.ki 1)))
 (.seq (.asg (.attr (.v 0) 4) (.op .add (.attr (.v 0) 4) (.ki 1)))
 (.seq (.asg (.attr (.v 0) 9) (.kb false))
 (.seq (.ex (.meth 0 4 (.v 0) (.cons (.ks 7) .nil)))
 (.seq (.ite (.and (.cmp .eq (.attr (.v 0) 8) (.gi 2 (3))) (.not (.w (.attr (.v 0) 3)))) (.seq (.asg (.attr (.v 0) 5) (.kb false))
 .nil) .nil)
 (.seq (.ret (.meth 0 6 (.v 0) (.cons (.call 2 (.cons (.attr (.v 0) 7) .nil)) .nil)))
 .nil))))))
def d8 : Df := { np := 1, ns := 1, body := b8, gc := false }
def b9 : Z.S := (.seq (.ite (.and (.not (.w (.attr (.v 0) 5))) (.cmp .ge (.b1 .len false (.attr (.v 0) 3)) (.attr (.v 0) 1))) (.seq (.asg (.attr (.v 0) 5) (.kb true))
 (.seq (.asg (.attr (.v 0) 6) (.kb true))
 (.seq (.asg (.attr (.v 0) 4) (.b1 .minK false (.attr (.v 0) 3)))
 (.seq (.asg (.attr (.v 0) 8) (.ki 0))
 .nil)))) .nil)
 (.seq (.ite (.not (.w (.attr (.v 0) 5))) (.seq (.ex (.meth 0 4 (.v 0) (.cons (.ks 8) .nil)))
 (.seq (.ret (.meth 0 6 (.v 0) (.cons (.op .mul (.tup (.cons (.ki 0) .nil)) (.attr (.v 0) 0)) .nil)))
 .nil)) .nil)
 (.seq (.ite (.cmp .in_ (.attr (.v 0) 4) (.attr (.v 0) 3)) (.seq (.ret (.meth 0 7 (.v 0) .nil))
 .nil) .nil)
 (.seq (.ret (.meth 0 8 (.v 0) .nil))
 .nil))))
def d9 : Df := { np := 1, ns := 1, body := b9, gc := false }
def b10 : Z.S := (.seq (.asg (.v 1) (.tup (.cons (.ks 3) (.cons (.ks 1) (.cons (.ks 0) (.cons (.ks 2) (.cons (.ks 6) (.cons (.ks 4) (.cons (.ks 5) (.cons (.ks 7) (.cons (.ks 8) .nil)))))))))))
 (.seq (.ret (.b1 .tuple false (.comp false [2] (.v 2) (.w (.v 1)) .none (.bm .get (.attr (.v 0) 10) (.cons (.v 2) (.cons (.ki 0) .nil))))))
 .nil))
def d10 : Df := { np := 1, ns := 3, body := b10, gc := false }
def b11 : Z.S := (.seq (.ret (.b1 .tuple false (.b1 .sortedK false (.attr (.v 0) 3))))
 .nil)
def d11 : Df := { np := 1, ns := 1, body := b11, gc := false }
def b12 : Z.S := (.seq (.ex (.bm .append (.v 1) (.cons (.ki 0) .nil)))
 (.seq (.asg (.v 3) (.b1 .len false (.v 1)))
 (.seq (.asg (.v 4) (.ki 0))
 (.seq (.ite (.w (.v 0)) (.seq (.asg (.v 4) (.ix (.v 0) (.op .mod (.v 3) (.b1 .len false (.v 0)))))
 .nil) .nil)
 (.seq (.asg (.v 5) (.op .mod (.op .add (.v 4) (.op .mul (.ki 104729) (.v 3))) (.ki 4294967291)))
 (.seq (.asg (.v 5) (.op .mod (.op .mul (.op .mod (.op .mul (.v 5) (.v 5)) (.ki 4294967279)) (.ki 48271)) (.ki 4294967291)))
 (.seq (.asg (.v 6) (.op .mod (.op .mul (.op .mod (.op .mul (.v 5) (.v 5)) (.ki 4294967279)) (.ki 69621)) (.ki 4294967291)))
 (.seq (.ret (.op .mod (.op .add (.op .mul (.op .fdiv (.v 5) (.ki 64)) (.ki 67108864)) (.op .fdiv (.v 6) (.ki 64))) (.v 2)))
 .nil))))))))
def d12 : Df := { np := 3, ns := 7, body := b12, gc := false }
def b13 : Z.S := (.seq (.ret (.ix (.v 2) (.call 12 (.cons (.v 0) (.cons (.v 1) (.cons (.b1 .len false (.v 2)) .nil))))))
 .nil)
def d13 : Df := { np := 3, ns := 3, body := b13, gc := false }
def b14 : Z.S := (.seq (.ret (.b1 .tuple false (.comp false [3] (.v 3) (.rng1 (.v 2)) .none (.op .sub (.call 12 (.cons (.v 0) (.cons (.v 1) (.cons (.ki 2001) .nil)))) (.ki 1000)))))
 .nil)
def d14 : Df := { np := 3, ns := 4, body := b14, gc := false }
def b15 : Z.S := (.seq (.ite (.cmp .lt (.call 12 (.cons (.v 0) (.cons (.v 1) (.cons (.ki 5) .nil)))) (.ki 2)) (.seq (.ret (.tup (.cons (.ks 9) (.cons (.ki 0) (.cons (.tup .nil) .nil)))))
 .nil) .nil)
 (.seq (.asg (.v 4) (.op .add (.v 2) (.call 13 (.cons (.v 0) (.cons (.v 1) (.cons (.lst false (.cons (.ki 0) (.cons (.ki 0) (.cons (.ki 1) (.cons (.ki 1) (.cons (.ki 2) (.cons (.ki 3) (.cons (.neg (.ki 1)) (.cons (.neg (.ki 2)) (.cons (.ki 5) (.cons (.ki 12) (.cons (.ki 40) .nil)))))))))))) .nil))))))
 (.seq (.ret (.tup (.cons (.ks 10) (.cons (.op .sub (.v 4) (.op .mul (.op .fdiv (.v 4) (.ki 65536)) (.ki 65536))) (.cons (.call 14 (.cons (.v 0) (.cons (.v 1) (.cons (.v 3) .nil)))) .nil)))))
 .nil)))
def d15 : Df := { np := 4, ns := 5, body := b15, gc := false }
def b16 : Z.S := (.seq (.ite (.cmp .eq (.ix (.v 1) (.ki 0)) (.ks 9)) (.seq (.ret (.meth 0 9 (.v 0) .nil))
 .nil) .nil)
 (.seq (.ret (.meth 0 5 (.v 0) (.cons (.ix (.v 1) (.ki 1)) (.cons (.ix (.v 1) (.ki 2)) .nil))))
 .nil))
def d16 : Df := { np := 2, ns := 2, body := b16, gc := false }
def b17 : Z.S := (.seq (.asg (.v 5) (.tup (.cons (.meth 0 11 (.v 2) .nil) (.cons (.meth 0 10 (.v 2) .nil) .nil))))
 (.seq (.asg (.v 6) (.call 13 (.cons (.v 0) (.cons (.v 1) (.cons (.lst false (.cons (.op .add (.v 3) (.ki 1)) (.cons (.op .sub (.v 3) (.ki 1)) (.cons (.ki 0) (.cons (.op .add (.v 3) (.ki 5)) .nil))))) .nil)))))
 (.seq (.try_ 1 (.seq (.ex (.meth 0 5 (.v 2) (.cons (.op .sub (.v 4) (.op .mul (.op .fdiv (.v 4) (.ki 65536)) (.ki 65536))) (.cons (.op .mul (.tup (.cons (.ki 7) .nil)) (.v 6)) .nil))))
 .nil) (.seq (.ret (.cmp .eq (.tup (.cons (.meth 0 11 (.v 2) .nil) (.cons (.meth 0 10 (.v 2) .nil) .nil))) (.v 5)))
 .nil))
 (.seq (.ret (.cmp .eq (.v 6) (.v 3)))
 .nil))))
def d17 : Df := { np := 5, ns := 7, body := b17, gc := false }
@[irreducible] def L18_3 : Z.S := .for_ (.v 10) (.rng1 (.call 12 (.cons (.v 0) (.cons (.v 1) (.cons (.ki 3) .nil))))) (.seq (.ite (.not (.w (.call 17 (.cons (.v 0) (.cons (.v 1) (.cons (.v 7) (.cons (.v 3) (.cons (.op .sub (.op .add (.v 8) (.call 12 (.cons (.v 0) (.cons (.v 1) (.cons (.ki 9) .nil))))) (.ki 4)) .nil)))))))) (.seq (.ret (.kb false))
 .nil) .nil)
 .nil) [10] false
@[irreducible] def L18_2 : Z.S := .for_ (.v 9) (.rng1 (.ki 35)) (.seq L18_3
 (.seq (.asg (.v 11) (.call 15 (.cons (.v 0) (.cons (.v 1) (.cons (.v 8) (.cons (.v 3) .nil))))))
 (.seq (.ite (.cmp .ne (.call 16 (.cons (.v 6) (.cons (.v 11) .nil))) (.call 16 (.cons (.v 7) (.cons (.v 11) .nil)))) (.seq (.ret (.kb false))
 .nil) .nil)
 (.seq (.ite (.or (.cmp .ne (.meth 0 11 (.v 6) .nil) (.meth 0 11 (.v 7) .nil)) (.cmp .ne (.meth 0 10 (.v 6) .nil) (.meth 0 10 (.v 7) .nil))) (.seq (.ret (.kb false))
 .nil) .nil)
 (.seq (.asg (.v 8) (.op .add (.v 8) (.call 12 (.cons (.v 0) (.cons (.v 1) (.cons (.ki 2) .nil))))))
 .nil))))) [9, 10, 11] false
@[irreducible] def L18_1 : Z.S := .for_ (.v 2) (.rng1 (.ki 3)) (.seq (.asg (.tup (.cons (.v 3) (.cons (.v 4) .nil))) (.tup (.cons (.op .add (.ki 1) (.call 12 (.cons (.v 0) (.cons (.v 1) (.cons (.ki 5) .nil))))) (.cons (.op .add (.ki 1) (.call 12 (.cons (.v 0) (.cons (.v 1) (.cons (.ki 4) .nil))))) .nil))))
 (.seq (.asg (.v 5) (.op .add (.ki 10) (.call 12 (.cons (.v 0) (.cons (.v 1) (.cons (.ki 10) .nil))))))
 (.seq (.asg (.tup (.cons (.v 6) (.cons (.v 7) (.cons (.v 8) .nil)))) (.tup (.cons (.new 0 3 11 (.cons (.v 3) (.cons (.v 4) (.cons (.v 5) .nil)))) (.cons (.new 0 3 11 (.cons (.v 3) (.cons (.v 4) (.cons (.v 5) .nil)))) (.cons (.call 12 (.cons (.v 0) (.cons (.v 1) (.cons (.ki 65536) .nil)))) .nil)))))
 (.seq L18_2
 .nil)))) [2, 3, 4, 5, 6, 7, 8, 9, 10, 11] true
def b18 : Z.S := (.seq (.asg (.v 1) (.lst true .nil))
 (.seq L18_1
 (.seq (.ret (.kb true))
 .nil)))
def d18 : Df := { np := 1, ns := 12, body := b18, gc := false }
def T : List Df := [d0, d1, d2, d3, d4, d5, d6, d7, d8, d9, d10, d11, d12, d13, d14, d15, d16, d17, d18]
def tb : Tb where
  texts := ["twice", "late", "far", "kept", "joined", "stretched", "played", "lost", "silent", "take", "put"]
  gis := [("ROUND", 65536), ("HALF", 32768), ("LOST_MOST", 3)]
  fns := [("near", ["last", "short"]), ("blended", ["one", "two"]), ("fainter", ["sounds"]), ("__init__", ["self", "size", "first", "most"]), ("count", ["self", "word"]), ("put", ["self", "short", "sounds"]), ("told", ["self", "sounds"]), ("play_due", ["self"]), ("play_lost", ["self"]), ("take", ["self"]), ("seen", ["self"]), ("waiting", ["self"]), ("_law_draw", ["_law_script", "_law_town", "_law_many"]), ("_law_pick", ["_law_script", "_law_town", "_law_some"]), ("_law_sounds", ["_law_script", "_law_town", "_law_size"]), ("_law_deed", ["_law_script", "_law_town", "_law_here", "_law_size"]), ("_law_do", ["_law_player", "_law_deed_here"]), ("_law_is_refused", ["_law_script", "_law_town", "_law_player", "_law_size", "_law_here"]), ("law", ["_law_script"])]
  cls := ["Player"]
  fld := [["size", "first", "most", "kept", "due", "playing", "begun", "last", "lost", "stretched", "sums"]]
  mth := [(3, 0), (4, 0), (5, 0), (6, 0), (7, 0), (8, 0), (9, 0), (10, 0), (11, 0)]
  exs := ["RoadError", "BadSounds"]
  hs := [10, 11]
def topS (i : Nat) : Stmt := PySem.Challenge.pw_soundroad_k28_whole_twin_players.main.body.getD i (.Pass ⟨0, 0, 0, 0⟩)
abbrev st0 : Stmt := topS 6
abbrev N0 : List Str := ["last", "short", "gone"]
theorem c0 : chkDef tb d0 N0 ["last", "short"] st0 = true := by decide +kernel
abbrev st1 : Stmt := topS 9
abbrev N1 : List Str := ["one", "two", "size", "k"]
theorem c1 : chkDef tb d1 N1 ["one", "two"] st1 = true := by decide +kernel
abbrev st2 : Stmt := topS 10
abbrev N2 : List Str := ["sounds", "one"]
theorem c2 : chkDef tb d2 N2 ["sounds"] st2 = true := by decide +kernel
abbrev st3 : Stmt := L2.inClass (topS 11) 0
abbrev N3 : List Str := ["self", "size", "first", "most"]
theorem c3 : chkDef tb d3 N3 ["self", "size", "first", "most"] st3 = true := by decide +kernel
abbrev st4 : Stmt := L2.inClass (topS 11) 1
abbrev N4 : List Str := ["self", "word"]
theorem c4 : chkDef tb d4 N4 ["self", "word"] st4 = true := by decide +kernel
abbrev st5 : Stmt := L2.inClass (topS 11) 2
abbrev N5 : List Str := ["self", "short", "sounds", "number"]
theorem c5 : chkDef tb d5 N5 ["self", "short", "sounds"] st5 = true := by decide +kernel
abbrev st6 : Stmt := L2.inClass (topS 11) 3
abbrev N6 : List Str := ["self", "sounds"]
theorem c6 : chkDef tb d6 N6 ["self", "sounds"] st6 = true := by decide +kernel
abbrev st7 : Stmt := L2.inClass (topS 11) 4
abbrev N7 : List Str := ["self", "own", "both"]
theorem c7 : chkDef tb d7 N7 ["self"] st7 = true := by decide +kernel
abbrev st8 : Stmt := L2.inClass (topS 11) 5
abbrev N8 : List Str := ["self"]
theorem c8 : chkDef tb d8 N8 ["self"] st8 = true := by decide +kernel
abbrev st9 : Stmt := L2.inClass (topS 11) 6
abbrev N9 : List Str := ["self"]
theorem c9 : chkDef tb d9 N9 ["self"] st9 = true := by decide +kernel
abbrev st10 : Stmt := L2.inClass (topS 11) 7
abbrev N10 : List Str := ["self", "words", "word"]
theorem c10 : chkDef tb d10 N10 ["self"] st10 = true := by decide +kernel
abbrev st11 : Stmt := L2.inClass (topS 11) 8
abbrev N11 : List Str := ["self"]
theorem c11 : chkDef tb d11 N11 ["self"] st11 = true := by decide +kernel
abbrev st12 : Stmt := topS 13
abbrev N12 : List Str := ["_law_script", "_law_town", "_law_many", "_law_k", "_law_cell", "_law_number", "_law_more"]
theorem c12 : chkDef tb d12 N12 ["_law_script", "_law_town", "_law_many"] st12 = true := by decide +kernel
abbrev st13 : Stmt := topS 14
abbrev N13 : List Str := ["_law_script", "_law_town", "_law_some"]
theorem c13 : chkDef tb d13 N13 ["_law_script", "_law_town", "_law_some"] st13 = true := by decide +kernel
abbrev st14 : Stmt := topS 15
abbrev N14 : List Str := ["_law_script", "_law_town", "_law_size", "_law_k"]
theorem c14 : chkDef tb d14 N14 ["_law_script", "_law_town", "_law_size"] st14 = true := by decide +kernel
abbrev st15 : Stmt := topS 16
abbrev N15 : List Str := ["_law_script", "_law_town", "_law_here", "_law_size", "_law_number"]
theorem c15 : chkDef tb d15 N15 ["_law_script", "_law_town", "_law_here", "_law_size"] st15 = true := by decide +kernel
abbrev st16 : Stmt := topS 17
abbrev N16 : List Str := ["_law_player", "_law_deed_here"]
theorem c16 : chkDef tb d16 N16 ["_law_player", "_law_deed_here"] st16 = true := by decide +kernel
abbrev st17 : Stmt := topS 18
abbrev N17 : List Str := ["_law_script", "_law_town", "_law_player", "_law_size", "_law_here", "_law_before", "_law_many"]
theorem c17 : chkDef tb d17 N17 ["_law_script", "_law_town", "_law_player", "_law_size", "_law_here"] st17 = true := by decide +kernel
abbrev st18 : Stmt := topS 19
abbrev N18 : List Str := ["_law_script", "_law_town", "_law_k", "_law_size", "_law_first", "_law_most", "_law_one", "_law_other", "_law_here", "_law_j", "_law_turn", "_law_deed_here"]
theorem c18 : chkDef tb d18 N18 ["_law_script"] st18 = true := by decide +kernel
end Z.Law
set_option Elab.async false
set_option linter.all false
set_option maxRecDepth 100000
set_option maxHeartbeats 8000000
namespace Z.Law
variable {n : Nat} {M : Mem} {Q : VQ} {X : XQ}
abbrev zs (k : Nat) : List D := List.replicate k (D.int 0)
theorem zs_succ (k : Nat) : zs k ++ [D.int 0] = zs (k + 1) := by unfold zs; rw [List.replicate_succ']
theorem at_in {ns : List Int} {i : Int} (h0 : 0 ≤ i) (h1 : i < ns.length) : ∃ c : Int, at? (ns.map D.int) i = some (.int c) := by
  obtain ⟨j, rfl⟩ := Int.eq_ofNat_of_zero_le h0
  have hj : j < ns.length := by omega
  exact ⟨ns[j], by rw [at_nat, List.getElem?_map, List.getElem?_eq_getElem hj]; rfl⟩
theorem dv64 : DivOk 64 := ⟨by decide, by decide⟩
theorem draw_ok {ns : List Int} {k : Nat} {m : Int} {R : Mem} (hk : k < 16777215) (hm : 0 < m) (h : ∀ v : Int, 0 ≤ v → v < m → Q (.int v) (.lst (zs (k + 1)) :: R)) : callN T (n + 1) 12 [.scr (ns.map D.int), .ref 0, .int m] (.lst (zs k) :: R) Q X := by
  refine ⟨rfl, ?_⟩
  rw [← zs_succ] at h
  refine ⟨by show (zs k).length < 16777216; rw [List.length_replicate]; omega, ?_⟩
  have fin : ∀ c L : Int, MulOk 104729 L ∧ 0 < (4294967291 : Int) ∧ MulOk ((c + 104729 * L) % 4294967291) ((c + 104729 * L) % 4294967291) ∧ 0 < (4294967279 : Int) ∧ MulOk ((c + 104729 * L) % 4294967291 * ((c + 104729 * L) % 4294967291) % 4294967279) 48271 ∧ 0 < (4294967291 : Int) := fun c L => by
    have b0 := Int.emod_nonneg (c + 104729 * L) (show (4294967291 : Int) ≠ 0 by decide)
    have b1 := Int.emod_lt_of_pos (c + 104729 * L) (show (0 : Int) < 4294967291 by decide)
    exact ⟨mul_small (by decide) (by decide), by decide, mul_small (by omega) (by omega), by decide, mul_small' (by decide) (by decide), by decide⟩
  have sq : ∀ y : Int, MulOk (y % 4294967291) (y % 4294967291) := fun y => by
    have b0 := Int.emod_nonneg y (show (4294967291 : Int) ≠ 0 by decide)
    have b1 := Int.emod_lt_of_pos y (show (0 : Int) < 4294967291 by decide)
    exact mul_small (by omega) (by omega)
  cases ns with
  | nil =>
    refine c2F ?_
    obtain ⟨f1, f2, f3, f4, f5, f6⟩ := fin 0 (((zs k ++ [D.int 0]).length : Nat) : Int)
    exact ⟨f1, f2, f3, f4, f5, f6, sq _, by decide, mul_small' (by decide) (by decide), by decide, dv64, mul_small' (by decide) (by decide), dv64, hm, h _ (Int.emod_nonneg _ (by omega)) (Int.emod_lt_of_pos _ hm)⟩
  | cons a r =>
    refine c2T ?_
    have hl : (0 : Int) < (((a :: r).map D.int).length : Nat) := by rw [List.length_map, List.length_cons]; omega
    obtain ⟨c, hc⟩ := at_in (ns := a :: r) (i := (((zs k ++ [D.int 0]).length : Nat) : Int) % (((a :: r).map D.int).length : Nat)) (Int.emod_nonneg _ (by omega)) (by
      have q := Int.emod_lt_of_pos (((zs k ++ [D.int 0]).length : Nat) : Int) hl
      rw [List.length_map] at q
      rw [List.length_map]
      exact q)
    refine ⟨hl, _, hc, ?_⟩
    obtain ⟨f1, f2, f3, f4, f5, f6⟩ := fin c (((zs k ++ [D.int 0]).length : Nat) : Int)
    exact ⟨f1, f2, f3, f4, f5, f6, sq _, by decide, mul_small' (by decide) (by decide), by decide, dv64, mul_small' (by decide) (by decide), dv64, hm, h _ (Int.emod_nonneg _ (by omega)) (Int.emod_lt_of_pos _ hm)⟩
theorem pick_ok {ns : List Int} {k : Nat} {ds : List D} {R : Mem} (hk : k < 16777215) (hd : ds ≠ []) (h : ∀ d ∈ ds, Q d (.lst (zs (k + 1)) :: R)) : callN T (n + 2) 13 [.scr (ns.map D.int), .ref 0, .lst ds] (.lst (zs k) :: R) Q X := by
  refine ⟨rfl, ?_⟩
  have hl : 0 < ds.length := List.length_pos_iff.mpr hd
  refine draw_ok (n := n) hk (by omega) fun v v0 v1 => ?_
  obtain ⟨j, rfl⟩ := Int.eq_ofNat_of_zero_le v0
  have hj : j < ds.length := by omega
  exact ⟨ds[j], by rw [at_nat, List.getElem?_eq_getElem hj], h _ (List.getElem_mem hj)⟩
theorem pickT_ok {ns : List Int} {k : Nat} {ds : List D} {R : Mem} (hk : k < 16777215) (hd : ds ≠ []) (h : ∀ d ∈ ds, Q d (.lst (zs (k + 1)) :: R)) : callN T (n + 2) 13 [.scr (ns.map D.int), .ref 0, .tup ds] (.lst (zs k) :: R) Q X := by
  refine ⟨rfl, ?_⟩
  have hl : 0 < ds.length := List.length_pos_iff.mpr hd
  refine draw_ok (n := n) hk (by omega) fun v v0 v1 => ?_
  obtain ⟨j, rfl⟩ := Int.eq_ofNat_of_zero_le v0
  have hj : j < ds.length := by omega
  exact ⟨ds[j], by rw [at_nat, List.getElem?_eq_getElem hj], h _ (List.getElem_mem hj)⟩
def near (l s : Int) : Int := l + ((s - l + 32768) % 65536 - 32768)
theorem near_ok {l s : Int} (h : Q (.int (near l s)) M) : callN T (n + 1) 0 [.int l, .int s] M Q X := by
  refine ⟨rfl, ?_⟩
  exact ⟨by decide, h⟩
structure Lens (mm : List (Option D) → List (Ky × D) → List (Ky × D) → Mem) (r k s : Nat) : Prop where
  gR : ∀ a b c, (mm a b c)[r]? = some (.ins 0 a)
  gK : ∀ a b c, (mm a b c)[k]? = some (.dct b)
  gS : ∀ a b c, (mm a b c)[s]? = some (.dct c)
  sR : ∀ a b c a', (mm a b c).set r (.ins 0 a') = mm a' b c
  sK : ∀ a b c b', (mm a b c).set k (.dct b') = mm a b' c
  sS : ∀ a b c c', (mm a b c).set s (.dct c') = mm a b c'
structure Pl where
  size : Nat
  first : Int
  most : Int
  kept : List (Int × List Int)
  due : Option Int
  playing : Bool
  begun : Bool
  last : List Int
  lost : Int
  stretched : Bool
def dueD : Option Int → D
  | none => .non
  | some i => .int i
def Pl.fs (p : Pl) (k s : Nat) : List (Option D) := [some (.int p.size), some (.int p.first), some (.int p.most), some (.ref k), some (dueD p.due), some (.bl p.playing), some (.bl p.begun), some (rowD p.last), some (.int p.lost), some (.bl p.stretched), some (.ref s)]
def kvl (l : List (Int × List Int)) : List (Ky × D) := l.map fun x => (Ky.i x.1, rowD x.2)
def tx : Nat → Nat
  | 0 => 3
  | 1 => 1
  | 2 => 0
  | 3 => 2
  | 4 => 6
  | 5 => 4
  | 6 => 5
  | 7 => 7
  | _ => 8
def bump (c : Nat → Int) (w : Nat) : Nat → Int := fun v => if v = w then c v + 1 else c v
structure Sm (sm : List (Ky × D)) (c : Nat → Int) : Prop where
  get : ∀ w, w < 9 → (kget sm (.s (tx w))).getD (.int 0) = .int (c w)
  nod : (sm.map (·.1)).Nodup
  key : ∀ x ∈ sm.map (·.1), x ∈ (List.range 9).map fun w => Ky.s (tx w)
theorem sub_len {α : Type} [DecidableEq α] : ∀ {l m : List α}, l.Nodup → (∀ x ∈ l, x ∈ m) → l.length ≤ m.length
  | [], _, _, _ => Nat.zero_le _
  | a :: l, m, h, hs => by
    rw [List.nodup_cons] at h
    have e := sub_len (l := l) (m := m.erase a) h.2 fun x hx => (List.mem_erase_of_ne (fun z => h.1 (by rw [← z]; exact hx))).mpr (hs x (List.mem_cons_of_mem _ hx))
    have q := List.length_erase_of_mem (hs a List.mem_cons_self)
    have q2 := List.length_pos_of_mem (hs a List.mem_cons_self)
    rw [List.length_cons]
    omega
theorem Sm.len {sm : List (Ky × D)} {c : Nat → Int} (h : Sm sm c) : sm.length ≤ 9 := by
  have q := sub_len h.nod h.key
  rw [List.length_map, List.length_map, List.length_range] at q
  exact q
theorem tx_inj {a b : Nat} (ha : a < 9) (hb : b < 9) (h : tx a = tx b) : a = b := by
  have q : ∀ a, a < 9 → ∀ b, b < 9 → tx a = tx b → a = b := by decide
  exact q a ha b hb h
theorem any_key (kvs : List (Ky × D)) (k : Ky) : (kvs.any fun kv => decide (kv.1 = k)) = true ↔ k ∈ kvs.map (·.1) := by
  rw [List.any_eq_true]
  constructor
  · rintro ⟨x, hx, e⟩
    rw [decide_eq_true_iff] at e
    exact e ▸ List.mem_map_of_mem hx
  · intro h
    obtain ⟨x, hx, e⟩ := List.mem_map.mp h
    exact ⟨x, hx, decide_eq_true e⟩
theorem kget_cons (x : Ky × D) (r : List (Ky × D)) (k : Ky) : kget (x :: r) k = if x.1 = k then some x.2 else kget r k := by
  unfold kget
  rw [List.find?_cons]
  by_cases e : x.1 = k
  · rw [decide_eq_true e, if_pos e]; rfl
  · rw [decide_eq_false e, if_neg e]
theorem kget_map_ne {kvs : List (Ky × D)} {k k' : Ky} {v : D} (h : k' ≠ k) : kget (kvs.map fun kv => if kv.1 = k then (kv.1, v) else kv) k' = kget kvs k' := by
  induction kvs with
  | nil => rfl
  | cons x r ih =>
    rw [List.map_cons, kget_cons, kget_cons, ih]
    by_cases e : x.1 = k
    · rw [if_pos e, if_neg (fun z => h (by rw [← z]; exact e)), if_neg (fun z => h (by rw [← z]; exact e))]
    · rw [if_neg e]
theorem kget_map_self {kvs : List (Ky × D)} {k : Ky} {v : D} (h : k ∈ kvs.map (·.1)) : kget (kvs.map fun kv => if kv.1 = k then (kv.1, v) else kv) k = some v := by
  induction kvs with
  | nil => cases h
  | cons x r ih =>
    rw [List.map_cons, kget_cons]
    by_cases e : x.1 = k
    · rw [if_pos e, if_pos e]
    · rw [if_neg e, if_neg e]
      refine ih ?_
      rcases List.mem_cons.mp h with z | z
      · exact absurd z.symm e
      · exact z
theorem kget_none {kvs : List (Ky × D)} {k : Ky} (h : k ∉ kvs.map (·.1)) : kget kvs k = none := by
  induction kvs with
  | nil => rfl
  | cons x r ih =>
    rw [kget_cons, if_neg (fun z => h (by rw [← z]; exact List.mem_cons_self))]
    exact ih fun z => h (List.mem_cons_of_mem _ z)
theorem kget_app (a b : List (Ky × D)) (k : Ky) : kget (a ++ b) k = (kget a k).or (kget b k) := by
  induction a with
  | nil => rfl
  | cons x r ih =>
    rw [List.cons_append, kget_cons, kget_cons, ih]
    split <;> rfl
theorem kget_app_ne {kvs : List (Ky × D)} {k k' : Ky} {v : D} (h : k' ≠ k) : kget (kvs ++ [(k, v)]) k' = kget kvs k' := by
  rw [kget_app, kget_cons, if_neg (fun z => h z.symm)]
  exact Option.or_none
theorem kget_app_self {kvs : List (Ky × D)} {k : Ky} {v : D} (h : k ∉ kvs.map (·.1)) : kget (kvs ++ [(k, v)]) k = some v := by
  rw [kget_app, kget_none h, kget_cons, if_pos rfl]; rfl
theorem kget_put_self (kvs : List (Ky × D)) (k : Ky) (v : D) : kget (kput kvs k v) k = some v := by
  unfold kput
  by_cases h : k ∈ kvs.map (·.1)
  · rw [if_pos ((any_key _ _).mpr h)]; exact kget_map_self h
  · rw [if_neg (fun z => h ((any_key _ _).mp z))]; exact kget_app_self h
theorem kget_put_ne {kvs : List (Ky × D)} {k k' : Ky} {v : D} (h : k' ≠ k) : kget (kput kvs k v) k' = kget kvs k' := by
  unfold kput
  split
  · exact kget_map_ne h
  · exact kget_app_ne h
theorem kput_keys (kvs : List (Ky × D)) (k : Ky) (v : D) : (kput kvs k v).map (·.1) = if k ∈ kvs.map (·.1) then kvs.map (·.1) else kvs.map (·.1) ++ [k] := by
  unfold kput
  by_cases h : k ∈ kvs.map (·.1)
  · rw [if_pos ((any_key _ _).mpr h), if_pos h, List.map_map]
    refine List.map_congr_left fun x _ => ?_
    show (if x.1 = k then (x.1, v) else x).1 = x.1
    split <;> rfl
  · rw [if_neg (fun z => h ((any_key _ _).mp z)), if_neg h, List.map_append]
    rfl
theorem Sm.put {sm : List (Ky × D)} {c : Nat → Int} (h : Sm sm c) {w : Nat} (hw : w < 9) : Sm (kput sm (.s (tx w)) (.int (c w + 1))) (bump c w) := by
  refine ⟨fun v hv => ?_, ?_, ?_⟩
  · by_cases e : v = w
    · subst e
      rw [kget_put_self]
      unfold bump
      rw [if_pos rfl]; rfl
    · rw [kget_put_ne (fun z => e (tx_inj hv hw (Ky.s.inj z))), h.get v hv]
      unfold bump
      rw [if_neg e]
  · rw [kput_keys]
    split
    · exact h.nod
    · rename_i hk
      rw [List.nodup_append]
      refine ⟨h.nod, by simp, fun a ha b hb => ?_⟩
      rw [List.mem_singleton.mp hb]
      exact fun z => hk (z ▸ ha)
  · rw [kput_keys]
    intro x hx
    split at hx
    · exact h.key x hx
    · rcases List.mem_append.mp hx with hx | hx
      · exact h.key x hx
      · rw [List.mem_singleton.mp hx]
        exact List.mem_map.mpr ⟨w, List.mem_range.mpr hw, rfl⟩
theorem Sm.nil : Sm [] (fun _ => 0) := ⟨fun _ _ => rfl, List.nodup_nil, fun x hx => by cases hx⟩
variable {mm : List (Option D) → List (Ky × D) → List (Ky × D) → Mem} {r k s : Nat}
theorem attr_of {M : Mem} {r i : Nat} {fs : List (Option D)} {d : D} {Q : VQ} (h : M[r]? = some (.ins 0 fs)) (e : fs[i]? = some (some d)) (q : Q d M) : attrD M (.ref r) i Q := by
  show ifI M r _
  refine ifI_of h ?_
  show (match fs[i]? with | some (some d) => Q d M | _ => False)
  rw [e]; exact q
theorem count_ok (L : Lens mm r k s) {fs : List (Option D)} (hf : fs[10]? = some (some (.ref s))) {kv sm : List (Ky × D)} {c : Nat → Int} (hs : Sm sm c) {w : Nat} (hw : w < 9) (h : ∀ sm', Sm sm' (bump c w) → Q (.str (tx w)) (mm fs kv sm')) :
    callN T (n + 1) 4 [.ref r, .str (tx w)] (mm fs kv sm) Q X := by
  have hl := Nat.lt_of_le_of_lt hs.len (show 9 < sz by decide)
  refine ⟨rfl, ?_⟩
  show wpS _ b4 [some (.ref r), some (.str (tx w))] _ _
  simp only [d4, b4, wpS, wp, wpT, wpL, wpP, wpK, wpI, wpG, bmT, bmD, attrD, ifRef, ifI, ifL, ifK, ifInt, ifTup, ifLs, ifLst, ifKy, setD, opD, addD, mulD, cmD, cmI, inD, ixD, ixL, trD, b1D, b2D, lofD, fresh, gcR, gcS, gcX, isNon, isTup, isiOk, isiD, dueD, List.getElem?_cons_zero, List.getElem?_cons_succ, List.set_cons_zero, List.set_cons_succ, c2_true, c2_false, List.length_cons, List.length_nil, Nat.reduceAdd, Nat.reduceLT, true_and, and_true, Bool.not_true, Bool.not_false, Option.some.injEq, exists_eq_left', L.gR, L.gK, L.gS, L.sS, hs.get w hw, hf]
  exact ⟨hl, h _ (hs.put hw)⟩
theorem told_ok (L : Lens mm r k s) {fs : List (Option D)} (hf : 7 < fs.length) {kv sm : List (Ky × D)} {d : D} (h : Q d (mm (fs.set 7 (some d)) kv sm)) :
    callN T (n + 1) 6 [.ref r, d] (mm fs kv sm) Q X := by
  refine ⟨rfl, ?_⟩
  show wpS _ b6 [some (.ref r), some d] _ _
  simp only [d6, b6, wpS, wp, wpT, wpL, wpP, wpK, wpI, wpG, bmT, bmD, attrD, ifRef, ifI, ifL, ifK, ifInt, ifTup, ifLs, ifLst, ifKy, setD, opD, addD, mulD, cmD, cmI, inD, ixD, ixL, trD, b1D, b2D, lofD, fresh, gcR, gcS, gcX, isNon, isTup, isiOk, isiD, dueD, List.getElem?_cons_zero, List.getElem?_cons_succ, List.set_cons_zero, List.set_cons_succ, c2_true, c2_false, List.length_cons, List.length_nil, Nat.reduceAdd, Nat.reduceLT, true_and, and_true, Bool.not_true, Bool.not_false, Option.some.injEq, exists_eq_left', L.gR, L.sR]
  exact ⟨hf, h⟩
def hasK (l : List (Int × List Int)) (i : Int) : Bool := l.any fun x => decide (x.1 = i)
def getK (l : List (Int × List Int)) (i : Int) : Option (List Int) := (l.find? fun x => decide (x.1 = i)).map (·.2)
def dropK (l : List (Int × List Int)) (i : Int) : List (Int × List Int) := l.filter fun x => decide (x.1 ≠ i)
theorem kget_kvl (l : List (Int × List Int)) (i : Int) : kget (kvl l) (.i i) = (getK l i).map rowD := by
  induction l with
  | nil => rfl
  | cons x t ih =>
    show kget ((Ky.i x.1, rowD x.2) :: kvl t) (.i i) = _
    rw [kget_cons, ih]
    unfold getK
    rw [List.find?_cons]
    by_cases e : x.1 = i
    · rw [if_pos (by rw [e]), decide_eq_true e]; rfl
    · rw [if_neg (fun z => e (Ky.i.inj z)), decide_eq_false e]
theorem getK_isSome (l : List (Int × List Int)) (i : Int) : (getK l i).isSome = hasK l i := by
  unfold getK hasK
  rw [Option.isSome_map]
  rw [Bool.eq_iff_iff, List.find?_isSome, List.any_eq_true]
theorem has_kvl (l : List (Int × List Int)) (i : Int) : (kget (kvl l) (.i i)).isSome = hasK l i := by
  rw [kget_kvl, Option.isSome_map, getK_isSome]
theorem kput_kvl {l : List (Int × List Int)} {i : Int} {v : List Int} (h : hasK l i = false) : kput (kvl l) (.i i) (rowD v) = kvl (l ++ [(i, v)]) := by
  unfold kput kvl
  rw [if_neg, List.map_append]; rfl
  rw [List.any_eq_true]
  rintro ⟨x, hx, e⟩
  obtain ⟨y, hy, rfl⟩ := List.mem_map.mp hx
  have e : y.1 = i := Ky.i.inj (of_decide_eq_true e)
  have : hasK l i = true := List.any_eq_true.mpr ⟨y, hy, decide_eq_true e⟩
  rw [h] at this
  cases this
theorem kdrop_kvl (l : List (Int × List Int)) (i : Int) : kdrop (kvl l) (.i i) = kvl (dropK l i) := by
  unfold kdrop kvl dropK
  rw [List.filter_map]
  congr 1
  refine List.filter_congr fun x _ => ?_
  show decide (Ky.i x.1 ≠ Ky.i i) = decide (x.1 ≠ i)
  rw [decide_eq_decide]
  exact not_congr ⟨Ky.i.inj, fun z => by rw [z]⟩
def Pl.put (p : Pl) (short : Int) (snds : List Int) : Pl × Nat :=
  let due0 := p.due.getD short
  let number := near due0 short
  if hasK p.kept number = true then ({ p with due := some due0 }, 2)
  else if number < due0 ∧ p.begun = true then ({ p with due := some due0 }, 1)
  else
    let due1 := if p.kept = [] ∧ p.playing = false then number else due0
    if due1 + p.most ≤ number then ({ p with due := some due1 }, 3)
    else ({ p with due := some (if number < due1 then number else due1), kept := p.kept ++ [(number, snds)] }, 0)
theorem put_bad (L : Lens mm r k s) {p : Pl} {sm : List (Ky × D)} {short : D} {ds : List D} (hl : ds.length ≠ p.size) (h : X 1 (mm (p.fs k s) (kvl p.kept) sm)) :
    callN T (n + 1) 5 [.ref r, short, .tup ds] (mm (p.fs k s) (kvl p.kept) sm) Q X := by
  refine ⟨rfl, ?_⟩
  show wpS _ b5 [some (.ref r), some short, some (.tup ds), none] _ _
  simp only [d5, b5, wpS, wp, wpT, wpL, wpP, wpK, wpI, wpG, bmT, bmD, attrD, ifRef, ifI, ifL, ifK, ifInt, ifTup, ifLs, ifLst, ifKy, setD, opD, addD, mulD, cmD, cmI, inD, ixD, ixL, trD, b1D, b2D, lofD, fresh, gcR, gcS, gcX, isNon, isTup, isiOk, isiD, dueD, List.getElem?_cons_zero, List.getElem?_cons_succ, List.set_cons_zero, List.set_cons_succ, c2_true, c2_false, List.length_cons, List.length_nil, Nat.reduceAdd, Nat.reduceLT, true_and, and_true, Bool.not_true, Bool.not_false, Option.some.injEq, exists_eq_left', L.gR, Pl.fs]
  refine ⟨rfl, rfl, c2t ?_ h⟩
  show (!((ds.length : Int) == (p.size : Int))) = true
  simp; omega
theorem near_eq {l s : Int} : callN T (n + 1) 0 [.int l, .int s] M Q X = Q (.int (near l s)) M := by
  refine propext ⟨fun h => ?_, fun h => near_ok h⟩
  obtain ⟨_, _, h⟩ := h
  exact h
theorem len_kvl (l : List (Int × List Int)) : (kvl l).length = l.length := List.length_map _
theorem emp_kvl (l : List (Int × List Int)) : (kvl l).isEmpty = l.isEmpty := by cases l <;> rfl
theorem put_ok (L : Lens mm r k s) {p : Pl} {sm : List (Ky × D)} {c : Nat → Int} (hs : Sm sm c) {short : Int} {snds : List Int} (hl : snds.length = p.size) (hk : p.kept.length < sz)
    (h : ∀ sm', Sm sm' (bump c (p.put short snds).2) → Q (.str (tx (p.put short snds).2)) (mm ((p.put short snds).1.fs k s) (kvl (p.put short snds).1.kept) sm')) :
    callN T (n + 2) 5 [.ref r, .int short, rowD snds] (mm (p.fs k s) (kvl p.kept) sm) Q X := by
  obtain ⟨size, first, most, kept, due, playing, begun, last, lost, stretched⟩ := p
  have e0 : (!((snds.map D.int).length : Int) == (size : Int)) = false := by rw [List.length_map, hl]; simp
 
  have main : ∀ d0 : Int, due.getD short = d0 → wpS (callN T (n + 1)) (.seq (.asg (.v 3) (.call 0 (.cons (.attr (.v 0) 4) (.cons (.v 1) .nil)))) (.seq (.ite (.cmp .in_ (.v 3) (.attr (.v 0) 3)) (.seq (.ret (.meth 0 4 (.v 0) (.cons (.ks 0) .nil)))
 .nil) .nil) (.seq (.ite (.and (.cmp .lt (.v 3) (.attr (.v 0) 4)) (.w (.attr (.v 0) 6))) (.seq (.ret (.meth 0 4 (.v 0) (.cons (.ks 1) .nil)))
 .nil) .nil) (.seq (.ite (.and (.not (.w (.attr (.v 0) 3))) (.not (.w (.attr (.v 0) 5)))) (.seq (.asg (.attr (.v 0) 4) (.v 3))
 .nil) .nil) (.seq (.ite (.cmp .ge (.v 3) (.op .add (.attr (.v 0) 4) (.attr (.v 0) 2))) (.seq (.ret (.meth 0 4 (.v 0) (.cons (.ks 2) .nil)))
 .nil) .nil) (.seq (.asg (.attr (.v 0) 4) (.b2 .min2 (.attr (.v 0) 4) (.v 3))) (.seq (.asg (.ix (.attr (.v 0) 3) (.v 3)) (.v 2)) (.seq (.ret (.meth 0 4 (.v 0) (.cons (.ks 3) .nil))) .nil)))))))) [some (.ref r), some (.int short), some (rowD snds), none] (mm (Pl.fs ⟨size, first, most, kept, some d0, playing, begun, last, lost, stretched⟩ k s) (kvl kept) sm)
        { nx := fun _ M' => gcR false (mm (Pl.fs ⟨size, first, most, kept, due, playing, begun, last, lost, stretched⟩ k s) (kvl kept) sm).length .non M' fun m => Q .non m
          rt := fun v M' => gcR false (mm (Pl.fs ⟨size, first, most, kept, due, playing, begun, last, lost, stretched⟩ k s) (kvl kept) sm).length v M' fun m => Q v m
          bk := fun _ _ => False
          ct := fun _ _ => False
          ex := fun c _ M' => gcX false (mm (Pl.fs ⟨size, first, most, kept, due, playing, begun, last, lost, stretched⟩ k s) (kvl kept) sm).length M' fun m => X c m } := by
    intro d0 hd0
    unfold Pl.put at h
    simp only [hd0] at h
    generalize hnr : near d0 short = nr at h
    cases h1 : hasK kept nr with
    | true =>
      simp only [h1, if_true] at h
      simp only [wpS, wp, wpT, wpL, wpP, wpK, wpI, wpG, bmT, bmD, attrD, ifRef, ifI, ifL, ifK, ifInt, ifTup, ifLs, ifLst, ifKy, setD, opD, addD, mulD, cmD, cmI, inD, ixD, ixL, trD, b1D, b2D, lofD, fresh, gcR, gcS, gcX, isNon, isTup, isiOk, isiD, dueD, List.getElem?_cons_zero, List.getElem?_cons_succ, List.set_cons_zero, List.set_cons_succ, c2_true, c2_false, List.length_cons, List.length_nil, Nat.reduceAdd, Nat.reduceLT, true_and, and_true, Bool.not_true, Bool.not_false, Option.some.injEq, exists_eq_left', L.gR, L.sR, L.gK, L.gS, L.sK, L.sS, Pl.fs, near_eq, hnr, has_kvl, len_kvl, emp_kvl, h1]
      exact count_ok L rfl hs (w := 2) (by decide) h
    | false =>
      simp only [h1, Bool.false_eq_true, if_false] at h
      have hE : kept.isEmpty = decide (kept = []) := by cases kept <;> simp
      rcases Classical.propComplete (nr < d0) with hlt | hlt <;> cases begun <;> cases playing <;> rcases Classical.propComplete (kept = []) with he | he <;>
        (simp only [hlt, he, true_and, and_true, false_and, and_false, if_true, if_false, Bool.false_eq_true, reduceCtorEq] at h
         simp only [wpS, wp, wpT, wpL, wpP, wpK, wpI, wpG, bmT, bmD, attrD, ifRef, ifI, ifL, ifK, ifInt, ifTup, ifLs, ifLst, ifKy, setD, opD, addD, mulD, cmD, cmI, inD, ixD, ixL, trD, b1D, b2D, lofD, fresh, gcR, gcS, gcX, isNon, isTup, isiOk, isiD, dueD, List.getElem?_cons_zero, List.getElem?_cons_succ, List.set_cons_zero, List.set_cons_succ, c2_true, c2_false, List.length_cons, List.length_nil, Nat.reduceAdd, Nat.reduceLT, true_and, and_true, Bool.not_true, Bool.not_false, Option.some.injEq, exists_eq_left', L.gR, L.sR, L.gK, L.gS, L.sK, L.sS, Pl.fs, near_eq, hnr, has_kvl, len_kvl, emp_kvl, h1, hE, hlt, he, decide_true, decide_false, if_true, if_false]
         first
         | exact count_ok L rfl hs (w := 1) (by decide) h
         | (refine c2B (fun hf => ?_) (fun hf => ?_)
            · rw [if_pos (of_decide_eq_true hf)] at h
              exact count_ok L rfl hs (w := 3) (by decide) h
            · rw [if_neg (of_decide_eq_false hf)] at h
              rw [kput_kvl h1]
              exact ⟨hk, count_ok L rfl hs (w := 0) (by decide) h⟩))
  refine ⟨rfl, ?_⟩
  show wpS _ b5 [some (.ref r), some (.int short), some (rowD snds), none] _ _
  unfold b5
  have st1 : ∀ (K : Ends) (rest : Z.S), (∀ d0, due.getD short = d0 → wpS (callN T (n + 1)) rest [some (.ref r), some (.int short), some (rowD snds), none] (mm (Pl.fs ⟨size, first, most, kept, some d0, playing, begun, last, lost, stretched⟩ k s) (kvl kept) sm) K) →
      wpS (callN T (n + 1)) (.seq ((.ite (.cmp .ne (.b1 .len false (.v 2)) (.attr (.v 0) 0)) (.seq (.raise 1)
 .nil) .nil)) (.seq ((.ite (.cmp .isN (.attr (.v 0) 4) .kn) (.seq (.asg (.attr (.v 0) 4) (.v 1))
 .nil) .nil)) rest)) [some (.ref r), some (.int short), some (rowD snds), none] (mm (Pl.fs ⟨size, first, most, kept, due, playing, begun, last, lost, stretched⟩ k s) (kvl kept) sm) K := by
    intro K rest hK
    cases due with
    | none =>
      simp only [wpS, wp, wpT, wpL, wpP, wpK, wpI, wpG, bmT, bmD, attrD, ifRef, ifI, ifL, ifK, ifInt, ifTup, ifLs, ifLst, ifKy, setD, opD, addD, mulD, cmD, cmI, inD, ixD, ixL, trD, b1D, b2D, lofD, fresh, gcR, gcS, gcX, isNon, isTup, isiOk, isiD, dueD, List.getElem?_cons_zero, List.getElem?_cons_succ, List.set_cons_zero, List.set_cons_succ, c2_true, c2_false, List.length_cons, List.length_nil, Nat.reduceAdd, Nat.reduceLT, true_and, and_true, Bool.not_true, Bool.not_false, Option.some.injEq, exists_eq_left', L.gR, L.sR, Pl.fs]
      refine ⟨rfl, rfl, c2f e0 ?_⟩
      exact hK _ rfl
    | some d0 =>
      simp only [wpS, wp, wpT, wpL, wpP, wpK, wpI, wpG, bmT, bmD, attrD, ifRef, ifI, ifL, ifK, ifInt, ifTup, ifLs, ifLst, ifKy, setD, opD, addD, mulD, cmD, cmI, inD, ixD, ixL, trD, b1D, b2D, lofD, fresh, gcR, gcS, gcX, isNon, isTup, isiOk, isiD, dueD, List.getElem?_cons_zero, List.getElem?_cons_succ, List.set_cons_zero, List.set_cons_succ, c2_true, c2_false, List.length_cons, List.length_nil, Nat.reduceAdd, Nat.reduceLT, true_and, and_true, Bool.not_true, Bool.not_false, Option.some.injEq, exists_eq_left', L.gR, L.sR, Pl.fs]
      refine ⟨rfl, rfl, c2f e0 ?_⟩
      exact hK _ rfl
  exact st1 _ _ main
def blend (a b : List Int) : List Int := (List.range a.length).map fun k => (a.getD k 0 * ((a.length : Int) - k) + b.getD k 0 * k) / a.length
theorem blend_len (a b : List Int) : (blend a b).length = a.length := by unfold blend; rw [List.length_map, List.length_range]
theorem blended_ok {a b : List Int} (hl : b.length = a.length) (h1 : a.length ≤ 1000) (h : Q (rowD (blend a b)) M) : callN T (n + 1) 1 [rowD a, rowD b] M Q X := by
  refine ⟨rfl, ?_⟩
  have e : ((a.map D.int).length : Int) = a.length := by rw [List.length_map]
  refine ⟨by rw [e]; omega, ?_⟩
  show compL _ (rngL 0 ((a.map D.int).length : Int).toNat) _ _
  rw [e, Int.toNat_natCast]
  refine compL_rng (fun k => .int ((a.getD k 0 * ((a.length : Int) - k) + b.getD k 0 * k) / a.length)) (fun i hi q hq => c2T ?_) ?_
  · rw [Int.zero_add]
    refine ⟨_, at_row hi, ?_⟩
    refine ⟨mul_small' (by omega) (by omega), _, at_row (by omega), mul_small' (by omega) (by omega), ⟨by omega, ?_⟩, hq⟩
    rw [Int.natAbs_natCast]
    refine Nat.lt_of_le_of_lt (Nat.log2_le_self _) ?_
    omega
  · have e2 : ((List.range a.length).map fun k => D.int ((a.getD k 0 * ((a.length : Int) - k) + b.getD k 0 * k) / a.length)) = (blend a b).map D.int := by unfold blend; rw [List.map_map]; rfl
    rw [e2]
    exact h
def half (x : Int) : Int := if 0 ≤ x then x / 2 else 0 - (0 - x) / 2
theorem div2 : DivOk 2 := ⟨by decide, by decide⟩
theorem fainter_ok {a : List Int} (h : Q (rowD (a.map half)) M) : callN T (n + 1) 2 [rowD a] M Q X := by
  refine ⟨rfl, ?_⟩
  refine compL_of D.int (fun x => .int (half x)) (fun x _ q hq => c2T ?_) ?_
  · refine c2D (fun hx => ⟨div2, ?_⟩) (fun hx => ⟨div2, ?_⟩)
    · unfold half at hq; rw [if_pos hx] at hq; exact hq
    · unfold half at hq; rw [if_neg hx] at hq; exact hq
  · have e2 : a.map (fun x => D.int (half x)) = (a.map half).map D.int := by rw [List.map_map]; rfl
    rw [e2]
    exact h
def minK (l : List (Int × List Int)) : Int := match l.map (·.1) with
  | [] => 0
  | a :: t => minL a t
def Pl.wake (p : Pl) : Pl := if p.playing = false ∧ p.first ≤ p.kept.length then { p with playing := true, begun := true, due := some (minK p.kept), lost := 0 } else p
def Pl.play (p : Pl) (d : Int) : Pl × Nat :=
  if p.first + 1 < p.kept.length ∧ hasK p.kept (d + 1) = true then
    ({ p with lost := 0, kept := dropK (dropK p.kept d) (d + 1), due := some (d + 2), stretched := false, last := blend ((getK p.kept d).getD []) ((getK p.kept (d + 1)).getD []) }, 5)
  else if p.kept.length = 1 ∧ p.stretched = false ∧ 1 < p.first then
    ({ p with lost := 0, stretched := true, last := blend p.last ((getK p.kept d).getD []) }, 6)
  else ({ p with lost := 0, kept := dropK p.kept d, due := some (d + 1), stretched := false, last := (getK p.kept d).getD [] }, 4)
def Pl.lose (p : Pl) (d : Int) : Pl × Nat :=
  ({ p with lost := p.lost + 1, due := some (d + 1), stretched := false, playing := if p.lost + 1 = 3 ∧ p.kept = [] then false else p.playing, last := p.last.map half }, 7)
def Pl.take (p : Pl) : Pl × Nat :=
  if p.wake.playing = false then ({ p.wake with last := List.replicate p.size 0 }, 8)
  else if hasK p.wake.kept (p.wake.due.getD 0) = true then p.wake.play (p.wake.due.getD 0)
  else p.wake.lose (p.wake.due.getD 0)
structure Pl.Ok (p : Pl) : Prop where
  sz : p.size ≤ 1000
  fst : 1 ≤ p.first
  du : p.playing = true → p.due.isSome = true
  kl : ∀ x ∈ p.kept, x.2.length = p.size
  ll : p.last.length = p.size
  nod : (p.kept.map (·.1)).Nodup
theorem getK_len {l : List (Int × List Int)} {i : Int} {v : List Int} (e : getK l i = some v) : ∃ x ∈ l, x.1 = i ∧ x.2 = v := by
  unfold getK at e
  obtain ⟨x, hx, e⟩ := Option.map_eq_some_iff.mp e
  have q := List.find?_some hx
  exact ⟨x, List.mem_of_find?_eq_some hx, of_decide_eq_true q, e⟩
theorem getK_drop {l : List (Int × List Int)} {i j : Int} (h : j ≠ i) : getK (dropK l i) j = getK l j := by
  unfold getK dropK
  congr 1
  induction l with
  | nil => rfl
  | cons x t ih =>
    rw [List.find?_cons, List.filter_cons]
    by_cases e : x.1 = i
    · rw [if_neg (by simpa using e), decide_eq_false (p := x.1 = j) (fun z => h (by rw [← z]; exact e))]
      exact ih
    · rw [if_pos (by simpa using e), List.find?_cons]
      by_cases e2 : x.1 = j
      · rw [decide_eq_true e2]
      · rw [decide_eq_false e2]; exact ih
theorem zerosE (n : Nat) : (List.replicate ((n : Int)).toNat [D.int 0]).flatten = (List.replicate n (0 : Int)).map D.int := by
  rw [Int.toNat_natCast]
  induction n with
  | zero => rfl
  | succ n ih => rw [List.replicate_succ, List.flatten_cons, ih, List.replicate_succ]; rfl
theorem lose_ok (L : Lens mm r k s) {p : Pl} {sm : List (Ky × D)} {c : Nat → Int} (hs : Sm sm c) {d : Int} (hd : p.due = some d)
    (h : ∀ sm', Sm sm' (bump c 7) → Q (rowD (p.lose d).1.last) (mm ((p.lose d).1.fs k s) (kvl (p.lose d).1.kept) sm')) :
    callN T (n + 2) 8 [.ref r] (mm (p.fs k s) (kvl p.kept) sm) Q X := by
  obtain ⟨size, first, most, kept, due, playing, begun, last, lost, stretched⟩ := p
  have hd : due = some d := hd
  subst hd
  have hE : kept.isEmpty = decide (kept = []) := by cases kept <;> simp
  refine ⟨rfl, ?_⟩
  show wpS _ b8 [some (.ref r)] _ _
  simp only [b8, d8, wpS, wp, wpT, wpL, wpP, wpK, wpI, wpG, bmT, bmD, attrD, ifRef, ifI, ifL, ifK, ifInt, ifTup, ifLs, ifLst, ifKy, setD, opD, addD, mulD, cmD, cmI, inD, ixD, ixL, trD, b1D, b2D, lofD, fresh, gcR, gcS, gcX, isNon, isTup, isiOk, isiD, dueD, List.getElem?_cons_zero, List.getElem?_cons_succ, List.set_cons_zero, List.set_cons_succ, c2_true, c2_false, List.length_cons, List.length_nil, Nat.reduceAdd, Nat.reduceLT, true_and, and_true, Bool.not_true, Bool.not_false, Option.some.injEq, exists_eq_left', L.gR, L.sR, L.gK, L.gS, L.sK, L.sS, Pl.fs]
  refine count_ok L rfl hs (w := 7) (by decide) fun sm' hs' => ?_
  have h := h sm' hs'
  simp only [wpS, wp, wpT, wpL, wpP, wpK, wpI, wpG, bmT, bmD, attrD, ifRef, ifI, ifL, ifK, ifInt, ifTup, ifLs, ifLst, ifKy, setD, opD, addD, mulD, cmD, cmI, inD, ixD, ixL, trD, b1D, b2D, lofD, fresh, gcR, gcS, gcX, isNon, isTup, isiOk, isiD, dueD, List.getElem?_cons_zero, List.getElem?_cons_succ, List.set_cons_zero, List.set_cons_succ, c2_true, c2_false, List.length_cons, List.length_nil, Nat.reduceAdd, Nat.reduceLT, true_and, and_true, Bool.not_true, Bool.not_false, Option.some.injEq, exists_eq_left', L.gR, L.sR, L.gK, L.gS, L.sK, L.sS, Pl.fs, emp_kvl, hE]
  have e3 : ∀ b : Bool, (if lost + 1 = 3 ∧ kept = [] then false else playing) = b → Q (rowD (last.map half)) (mm (Pl.fs ⟨size, first, most, kept, some (d + 1), b, begun, last.map half, lost + 1, false⟩ k s) (kvl kept) sm') := fun b e => by
    unfold Pl.lose at h
    simp only [e] at h
    exact h
  refine ⟨rfl, rfl, c2B (fun hb => ?_) (fun hb => ?_)⟩
  · have hb : lost + 1 = 3 := by simpa using (show (lost + 1 == 3) = true from hb)
    rcases Classical.propComplete (kept = []) with he | he <;> (simp only [he, hb, decide_true, decide_false, Bool.not_true, Bool.not_false, c2_true, c2_false]; refine fainter_ok (told_ok L (by show 7 < 11; decide) ?_))
    · rw [← hb]
      exact e3 false (by rw [if_pos ⟨hb, of_eq_true he⟩])
    · rw [← hb]
      exact e3 playing (by rw [if_neg (fun z => of_eq_false he z.2)])
  · have hb : ¬ lost + 1 = 3 := by simpa using (show (lost + 1 == 3) = false from hb)
    refine fainter_ok (told_ok L (by show 7 < 11; decide) ?_)
    exact e3 playing (by rw [if_neg (fun z => hb z.1)])
theorem play_ok (L : Lens mm r k s) {p : Pl} (hO : p.Ok) {sm : List (Ky × D)} {c : Nat → Int} (hs : Sm sm c) {d : Int} (hd : p.due = some d) (hk : hasK p.kept d = true)
    (h : ∀ sm', Sm sm' (bump c (p.play d).2) → Q (rowD (p.play d).1.last) (mm ((p.play d).1.fs k s) (kvl (p.play d).1.kept) sm')) :
    callN T (n + 2) 7 [.ref r] (mm (p.fs k s) (kvl p.kept) sm) Q X := by
  obtain ⟨size, first, most, kept, due, playing, begun, last, lost, stretched⟩ := p
  have hd : due = some d := hd
  subst hd
  have hk : hasK kept d = true := hk
  obtain ⟨own, ho⟩ : ∃ own, getK kept d = some own := Option.isSome_iff_exists.mp (by rw [getK_isSome]; exact hk)
  have lo : own.length = size := by
    obtain ⟨x, hx, _, rfl⟩ := getK_len ho
    exact hO.kl x hx
  have ll : last.length = size := hO.ll
  have lz : size ≤ 1000 := hO.sz
  refine ⟨rfl, ?_⟩
  show wpS _ b7 [some (.ref r), none, none] _ _
  unfold Pl.play at h
  simp only [ho, Option.getD_some] at h
  by_cases hJ : first + 1 < (kept.length : Int) ∧ hasK kept (d + 1) = true
  · obtain ⟨two, h2⟩ : ∃ two, getK kept (d + 1) = some two := Option.isSome_iff_exists.mp (by rw [getK_isSome]; exact hJ.2)
    have l2 : two.length = size := by
      obtain ⟨x, hx, _, rfl⟩ := getK_len h2
      exact hO.kl x hx
    have h3 : getK (dropK kept d) (d + 1) = some two := by rw [getK_drop (by omega)]; exact h2
    rw [if_pos hJ] at h
    simp only [h2, Option.getD_some] at h
    simp only [b7, d7, wpS, wp, wpT, wpL, wpP, wpK, wpI, wpG, bmT, bmD, attrD, ifRef, ifI, ifL, ifK, ifInt, ifTup, ifLs, ifLst, ifKy, setD, opD, addD, mulD, cmD, cmI, inD, ixD, ixL, trD, b1D, b2D, lofD, fresh, gcR, gcS, gcX, isNon, isTup, isiOk, isiD, dueD, List.getElem?_cons_zero, List.getElem?_cons_succ, List.set_cons_zero, List.set_cons_succ, c2_true, c2_false, List.length_cons, List.length_nil, Nat.reduceAdd, Nat.reduceLT, true_and, and_true, Bool.not_true, Bool.not_false, Option.some.injEq, exists_eq_left', L.gR, L.sR, L.gK, L.gS, L.sK, L.sS, Pl.fs, kget_kvl, ho, Option.map_some, len_kvl, decide_eq_true hJ.1, h2, Option.isSome_some]
    refine blended_ok (by omega) (by omega) ?_
    simp only [wpS, wp, wpT, wpL, wpP, wpK, wpI, wpG, bmT, bmD, attrD, ifRef, ifI, ifL, ifK, ifInt, ifTup, ifLs, ifLst, ifKy, setD, opD, addD, mulD, cmD, cmI, inD, ixD, ixL, trD, b1D, b2D, lofD, fresh, gcR, gcS, gcX, isNon, isTup, isiOk, isiD, dueD, List.getElem?_cons_zero, List.getElem?_cons_succ, List.set_cons_zero, List.set_cons_succ, c2_true, c2_false, List.length_cons, List.length_nil, Nat.reduceAdd, Nat.reduceLT, true_and, and_true, Bool.not_true, Bool.not_false, Option.some.injEq, exists_eq_left', L.gR, L.sR, L.gK, L.gS, L.sK, L.sS, Pl.fs, kget_kvl, ho, Option.map_some, kdrop_kvl, h3]
    refine count_ok L rfl hs (w := 5) (by decide) fun sm' hs' => ?_
    simp only [wpS, wp, wpT, wpL, wpP, wpK, wpI, wpG, bmT, bmD, attrD, ifRef, ifI, ifL, ifK, ifInt, ifTup, ifLs, ifLst, ifKy, setD, opD, addD, mulD, cmD, cmI, inD, ixD, ixL, trD, b1D, b2D, lofD, fresh, gcR, gcS, gcX, isNon, isTup, isiOk, isiD, dueD, List.getElem?_cons_zero, List.getElem?_cons_succ, List.set_cons_zero, List.set_cons_succ, c2_true, c2_false, List.length_cons, List.length_nil, Nat.reduceAdd, Nat.reduceLT, true_and, and_true, Bool.not_true, Bool.not_false, Option.some.injEq, exists_eq_left', L.gR]
    exact told_ok L (by show 7 < 11; decide) (h sm' hs')
  · rw [if_neg hJ] at h
    have sk : ∀ K : Ends, K.nx [some (.ref r), some (rowD own), none] (mm (Pl.fs ⟨size, first, most, kept, some d, playing, begun, last, 0, stretched⟩ k s) (kvl kept) sm) →
        wpS (callN T (n + 1)) ((.ite (.and (.cmp .gt (.b1 .len false (.attr (.v 0) 3)) (.op .add (.attr (.v 0) 1) (.ki 1))) (.cmp .in_ (.op .add (.attr (.v 0) 4) (.ki 1)) (.attr (.v 0) 3))) (.seq (.asg (.v 2) (.call 1 (.cons (.v 1) (.cons (.ix (.attr (.v 0) 3) (.op .add (.attr (.v 0) 4) (.ki 1))) .nil))))
 (.seq (.ex (.bm .dpop (.attr (.v 0) 3) (.cons (.attr (.v 0) 4) .nil)))
 (.seq (.ex (.bm .dpop (.attr (.v 0) 3) (.cons (.op .add (.attr (.v 0) 4) (.ki 1)) .nil)))
 (.seq (.asg (.attr (.v 0) 4) (.op .add (.attr (.v 0) 4) (.ki 2)))
 (.seq (.asg (.attr (.v 0) 9) (.kb false))
 (.seq (.ex (.meth 0 4 (.v 0) (.cons (.ks 4) .nil)))
 (.seq (.ret (.meth 0 6 (.v 0) (.cons (.v 2) .nil)))
 .nil))))))) .nil)) [some (.ref r), some (rowD own), none] (mm (Pl.fs ⟨size, first, most, kept, some d, playing, begun, last, 0, stretched⟩ k s) (kvl kept) sm) K := by
      intro K hK
      rcases Classical.propComplete (first + 1 < (kept.length : Int)) with h1 | h1
      · have h2 : hasK kept (d + 1) = false := by
          rcases Bool.eq_false_or_eq_true (hasK kept (d + 1)) with e | e
          · exact absurd ⟨of_eq_true h1, e⟩ hJ
          · exact e
        simp only [wpS, wp, wpT, wpL, wpP, wpK, wpI, wpG, bmT, bmD, attrD, ifRef, ifI, ifL, ifK, ifInt, ifTup, ifLs, ifLst, ifKy, setD, opD, addD, mulD, cmD, cmI, inD, ixD, ixL, trD, b1D, b2D, lofD, fresh, gcR, gcS, gcX, isNon, isTup, isiOk, isiD, dueD, List.getElem?_cons_zero, List.getElem?_cons_succ, List.set_cons_zero, List.set_cons_succ, c2_true, c2_false, List.length_cons, List.length_nil, Nat.reduceAdd, Nat.reduceLT, true_and, and_true, Bool.not_true, Bool.not_false, Option.some.injEq, exists_eq_left', L.gR, L.sR, L.gK, L.gS, L.sK, L.sS, Pl.fs, has_kvl, len_kvl, h1, h2, decide_true]
        exact hK
      · simp only [wpS, wp, wpT, wpL, wpP, wpK, wpI, wpG, bmT, bmD, attrD, ifRef, ifI, ifL, ifK, ifInt, ifTup, ifLs, ifLst, ifKy, setD, opD, addD, mulD, cmD, cmI, inD, ixD, ixL, trD, b1D, b2D, lofD, fresh, gcR, gcS, gcX, isNon, isTup, isiOk, isiD, dueD, List.getElem?_cons_zero, List.getElem?_cons_succ, List.set_cons_zero, List.set_cons_succ, c2_true, c2_false, List.length_cons, List.length_nil, Nat.reduceAdd, Nat.reduceLT, true_and, and_true, Bool.not_true, Bool.not_false, Option.some.injEq, exists_eq_left', L.gR, L.sR, L.gK, L.gS, L.sK, L.sS, Pl.fs, has_kvl, len_kvl, h1, decide_false]
        exact hK
    have sk2 : ∀ (K : Ends) (rest st : Z.S), (∀ K : Ends, K.nx [some (.ref r), some (rowD own), none] (mm (Pl.fs ⟨size, first, most, kept, some d, playing, begun, last, 0, stretched⟩ k s) (kvl kept) sm) →
        wpS (callN T (n + 1)) st [some (.ref r), some (rowD own), none] (mm (Pl.fs ⟨size, first, most, kept, some d, playing, begun, last, 0, stretched⟩ k s) (kvl kept) sm) K) → wpS (callN T (n + 1)) rest [some (.ref r), some (rowD own), none] (mm (Pl.fs ⟨size, first, most, kept, some d, playing, begun, last, 0, stretched⟩ k s) (kvl kept) sm) K →
        wpS (callN T (n + 1)) (.seq ((.asg (.v 1) (.ix (.attr (.v 0) 3) (.attr (.v 0) 4)))) (.seq ((.asg (.attr (.v 0) 8) (.ki 0))) (.seq st rest))) [some (.ref r), none, none] (mm (Pl.fs ⟨size, first, most, kept, some d, playing, begun, last, lost, stretched⟩ k s) (kvl kept) sm) K := by
      intro K rest st sk hK
      simp only [wpS, wp, wpT, wpL, wpP, wpK, wpI, wpG, bmT, bmD, attrD, ifRef, ifI, ifL, ifK, ifInt, ifTup, ifLs, ifLst, ifKy, setD, opD, addD, mulD, cmD, cmI, inD, ixD, ixL, trD, b1D, b2D, lofD, fresh, gcR, gcS, gcX, isNon, isTup, isiOk, isiD, dueD, List.getElem?_cons_zero, List.getElem?_cons_succ, List.set_cons_zero, List.set_cons_succ, c2_true, c2_false, List.length_cons, List.length_nil, Nat.reduceAdd, Nat.reduceLT, true_and, and_true, Bool.not_true, Bool.not_false, Option.some.injEq, exists_eq_left', L.gR, L.sR, L.gK, L.gS, L.sK, L.sS, Pl.fs, kget_kvl, ho, Option.map_some, len_kvl]
      refine sk _ ?_
      exact hK
    unfold b7
    refine sk2 _ _ _ sk ?_
    by_cases hS : kept.length = 1 ∧ stretched = false ∧ 1 < first
    · rw [if_pos hS] at h
      obtain ⟨s1, rfl, s3⟩ := hS
      simp only [d7, wpS, wp, wpT, wpL, wpP, wpK, wpI, wpG, bmT, bmD, attrD, ifRef, ifI, ifL, ifK, ifInt, ifTup, ifLs, ifLst, ifKy, setD, opD, addD, mulD, cmD, cmI, inD, ixD, ixL, trD, b1D, b2D, lofD, fresh, gcR, gcS, gcX, isNon, isTup, isiOk, isiD, dueD, List.getElem?_cons_zero, List.getElem?_cons_succ, List.set_cons_zero, List.set_cons_succ, c2_true, c2_false, List.length_cons, List.length_nil, Nat.reduceAdd, Nat.reduceLT, true_and, and_true, Bool.not_true, Bool.not_false, Option.some.injEq, exists_eq_left', L.gR, L.sR, L.gK, L.gS, L.sK, L.sS, Pl.fs, len_kvl, decide_eq_true s3]
      refine ⟨rfl, rfl, c2t (by rw [s1]; rfl) ?_⟩
      refine count_ok L rfl hs (w := 6) (by decide) fun sm' hs' => ?_
      simp only [wpS, wp, wpT, wpL, wpP, wpK, wpI, wpG, bmT, bmD, attrD, ifRef, ifI, ifL, ifK, ifInt, ifTup, ifLs, ifLst, ifKy, setD, opD, addD, mulD, cmD, cmI, inD, ixD, ixL, trD, b1D, b2D, lofD, fresh, gcR, gcS, gcX, isNon, isTup, isiOk, isiD, dueD, List.getElem?_cons_zero, List.getElem?_cons_succ, List.set_cons_zero, List.set_cons_succ, c2_true, c2_false, List.length_cons, List.length_nil, Nat.reduceAdd, Nat.reduceLT, true_and, and_true, Bool.not_true, Bool.not_false, Option.some.injEq, exists_eq_left', L.gR]
      refine blended_ok (by omega) (by omega) ?_
      exact told_ok L (by show 7 < 11; decide) (h sm' hs')
    · rw [if_neg hS] at h
      have fin : ∀ K : Ends, K.nx [some (.ref r), some (rowD own), none] (mm (Pl.fs ⟨size, first, most, kept, some d, playing, begun, last, 0, stretched⟩ k s) (kvl kept) sm) →
        wpS (callN T (n + 1)) ((.ite (.and (.cmp .eq (.b1 .len false (.attr (.v 0) 3)) (.ki 1)) (.and (.not (.w (.attr (.v 0) 9))) (.cmp .gt (.attr (.v 0) 1) (.ki 1)))) (.seq (.asg (.attr (.v 0) 9) (.kb true))
 (.seq (.ex (.meth 0 4 (.v 0) (.cons (.ks 5) .nil)))
 (.seq (.ret (.meth 0 6 (.v 0) (.cons (.call 1 (.cons (.attr (.v 0) 7) (.cons (.v 1) .nil))) .nil)))
 .nil))) .nil)) [some (.ref r), some (rowD own), none] (mm (Pl.fs ⟨size, first, most, kept, some d, playing, begun, last, 0, stretched⟩ k s) (kvl kept) sm) K := by
        intro K hK
        simp only [wpS, wp, wpT, wpL, wpP, wpK, wpI, wpG, bmT, bmD, attrD, ifRef, ifI, ifL, ifK, ifInt, ifTup, ifLs, ifLst, ifKy, setD, opD, addD, mulD, cmD, cmI, inD, ixD, ixL, trD, b1D, b2D, lofD, fresh, gcR, gcS, gcX, isNon, isTup, isiOk, isiD, dueD, List.getElem?_cons_zero, List.getElem?_cons_succ, List.set_cons_zero, List.set_cons_succ, c2_true, c2_false, List.length_cons, List.length_nil, Nat.reduceAdd, Nat.reduceLT, true_and, and_true, Bool.not_true, Bool.not_false, Option.some.injEq, exists_eq_left', L.gR, L.sR, L.gK, L.gS, L.sK, L.sS, Pl.fs, len_kvl]
        refine ⟨rfl, rfl, c2B (fun hb => ?_) (fun _ => hK)⟩
        have hb1 : kept.length = 1 := by
          have : (((kept.length : Int)) == 1) = true := hb
          have : (kept.length : Int) = 1 := by simpa using this
          omega
        cases stretched with
        | true => exact c2F hK
        | false =>
          refine c2T (c2f (decide_eq_false fun z => ?_) hK)
          exact hS ⟨hb1, rfl, z⟩
      refine fin _ ?_
      simp only [d7, wpS, wp, wpT, wpL, wpP, wpK, wpI, wpG, bmT, bmD, attrD, ifRef, ifI, ifL, ifK, ifInt, ifTup, ifLs, ifLst, ifKy, setD, opD, addD, mulD, cmD, cmI, inD, ixD, ixL, trD, b1D, b2D, lofD, fresh, gcR, gcS, gcX, isNon, isTup, isiOk, isiD, dueD, List.getElem?_cons_zero, List.getElem?_cons_succ, List.set_cons_zero, List.set_cons_succ, c2_true, c2_false, List.length_cons, List.length_nil, Nat.reduceAdd, Nat.reduceLT, true_and, and_true, Bool.not_true, Bool.not_false, Option.some.injEq, exists_eq_left', L.gR, L.sR, L.gK, L.gS, L.sK, L.sS, Pl.fs, kget_kvl, ho, Option.map_some, kdrop_kvl]
      refine count_ok L rfl hs (w := 4) (by decide) fun sm' hs' => ?_
      simp only [wpS, wp, wpT, wpL, wpP, wpK, wpI, wpG, bmT, bmD, attrD, ifRef, ifI, ifL, ifK, ifInt, ifTup, ifLs, ifLst, ifKy, setD, opD, addD, mulD, cmD, cmI, inD, ixD, ixL, trD, b1D, b2D, lofD, fresh, gcR, gcS, gcX, isNon, isTup, isiOk, isiD, dueD, List.getElem?_cons_zero, List.getElem?_cons_succ, List.set_cons_zero, List.set_cons_succ, c2_true, c2_false, List.length_cons, List.length_nil, Nat.reduceAdd, Nat.reduceLT, true_and, and_true, Bool.not_true, Bool.not_false, Option.some.injEq, exists_eq_left', L.gR]
      exact told_ok L (by show 7 < 11; decide) (h sm' hs')
theorem isort_keys (l : List (Int × List Int)) : (kvl l).map (·.1) = (l.map (·.1)).map Ky.i := by unfold kvl; rw [List.map_map, List.map_map]; rfl
theorem take_ok (L : Lens mm r k s) {p : Pl} (hO : p.Ok) {sm : List (Ky × D)} {c : Nat → Int} (hs : Sm sm c)
    (h : ∀ sm', Sm sm' (bump c p.take.2) → Q (rowD p.take.1.last) (mm (p.take.1.fs k s) (kvl p.take.1.kept) sm')) :
    callN T (n + 3) 9 [.ref r] (mm (p.fs k s) (kvl p.kept) sm) Q X := by
  refine ⟨rfl, ?_⟩
  show wpS _ b9 [some (.ref r)] _ _
  have st1 : ∀ (K : Ends) (rest : Z.S), wpS (callN T (n + 2)) rest [some (.ref r)] (mm (p.wake.fs k s) (kvl p.wake.kept) sm) K →
      wpS (callN T (n + 2)) (.seq ((.ite (.and (.not (.w (.attr (.v 0) 5))) (.cmp .ge (.b1 .len false (.attr (.v 0) 3)) (.attr (.v 0) 1))) (.seq (.asg (.attr (.v 0) 5) (.kb true))
 (.seq (.asg (.attr (.v 0) 6) (.kb true))
 (.seq (.asg (.attr (.v 0) 4) (.b1 .minK false (.attr (.v 0) 3)))
 (.seq (.asg (.attr (.v 0) 8) (.ki 0))
 .nil)))) .nil)) rest) [some (.ref r)] (mm (p.fs k s) (kvl p.kept) sm) K := by
    intro K rest hK
    obtain ⟨size, first, most, kept, due, playing, begun, last, lost, stretched⟩ := p
    unfold Pl.wake at hK
    cases playing with
    | true =>
      rw [if_neg (fun z => by cases z.1)] at hK
      simp only [wpS, wp, wpT, wpL, wpP, wpK, wpI, wpG, bmT, bmD, attrD, ifRef, ifI, ifL, ifK, ifInt, ifTup, ifLs, ifLst, ifKy, setD, opD, addD, mulD, cmD, cmI, inD, ixD, ixL, trD, b1D, b2D, lofD, fresh, gcR, gcS, gcX, isNon, isTup, isiOk, isiD, dueD, List.getElem?_cons_zero, List.getElem?_cons_succ, List.set_cons_zero, List.set_cons_succ, c2_true, c2_false, List.length_cons, List.length_nil, Nat.reduceAdd, Nat.reduceLT, true_and, and_true, Bool.not_true, Bool.not_false, Option.some.injEq, exists_eq_left', L.gR, L.sR, L.gK, L.gS, L.sK, L.sS, Pl.fs]
      exact hK
    | false =>
      by_cases hf : first ≤ (kept.length : Int)
      · rw [if_pos ⟨rfl, hf⟩] at hK
        obtain ⟨a, t, rfl⟩ : ∃ a t, kept = a :: t := by
          cases kept with
          | nil =>
            have q : 1 ≤ first := hO.fst
            have hf : first ≤ 0 := hf
            omega
          | cons a t => exact ⟨a, t, rfl⟩
        simp only [wpS, wp, wpT, wpL, wpP, wpK, wpI, wpG, bmT, bmD, attrD, ifRef, ifI, ifL, ifK, ifInt, ifTup, ifLs, ifLst, ifKy, setD, opD, addD, mulD, cmD, cmI, inD, ixD, ixL, trD, b1D, b2D, lofD, fresh, gcR, gcS, gcX, isNon, isTup, isiOk, isiD, dueD, List.getElem?_cons_zero, List.getElem?_cons_succ, List.set_cons_zero, List.set_cons_succ, c2_true, c2_false, List.length_cons, List.length_nil, Nat.reduceAdd, Nat.reduceLT, true_and, and_true, Bool.not_true, Bool.not_false, Option.some.injEq, exists_eq_left', L.gR, L.sR, L.gK, L.gS, L.sK, L.sS, Pl.fs, len_kvl]
        refine c2t (decide_eq_true hf) ⟨a.1, List.map (fun x : Int × List Int => x.1) t, isort_keys (a :: t), ?_⟩
        exact hK
      · rw [if_neg (fun z => hf z.2)] at hK
        simp only [wpS, wp, wpT, wpL, wpP, wpK, wpI, wpG, bmT, bmD, attrD, ifRef, ifI, ifL, ifK, ifInt, ifTup, ifLs, ifLst, ifKy, setD, opD, addD, mulD, cmD, cmI, inD, ixD, ixL, trD, b1D, b2D, lofD, fresh, gcR, gcS, gcX, isNon, isTup, isiOk, isiD, dueD, List.getElem?_cons_zero, List.getElem?_cons_succ, List.set_cons_zero, List.set_cons_succ, c2_true, c2_false, List.length_cons, List.length_nil, Nat.reduceAdd, Nat.reduceLT, true_and, and_true, Bool.not_true, Bool.not_false, Option.some.injEq, exists_eq_left', L.gR, L.sR, L.gK, L.gS, L.sK, L.sS, Pl.fs, len_kvl]
        exact c2f (decide_eq_false hf) hK
  unfold b9
  refine st1 _ _ ?_
  have hW : p.wake.Ok := by
    unfold Pl.wake
    split
    · exact ⟨hO.sz, hO.fst, fun _ => rfl, hO.kl, hO.ll, hO.nod⟩
    · exact hO
  have hsz : p.wake.size = p.size := by unfold Pl.wake; split <;> rfl
  unfold Pl.take at h
  rw [← hsz] at h
  clear hsz st1 hO
  generalize p.wake = q at h hW
  have hsz := hW.sz
  have st2 : q.playing = false → ∀ (K : Ends) (rest : Z.S), (∀ sm', Sm sm' (bump c 8) → K.rt (rowD (List.replicate q.size 0)) (mm (Pl.fs { q with last := List.replicate q.size 0 } k s) (kvl q.kept) sm')) → wpS (callN T (n + 2)) (.seq ((.ite (.not (.w (.attr (.v 0) 5))) (.seq (.ex (.meth 0 4 (.v 0) (.cons (.ks 8) .nil)))
 (.seq (.ret (.meth 0 6 (.v 0) (.cons (.op .mul (.tup (.cons (.ki 0) .nil)) (.attr (.v 0) 0)) .nil)))
 .nil)) .nil)) rest) [some (.ref r)] (mm (q.fs k s) (kvl q.kept) sm) K := by
    intro hp K rest h
    obtain ⟨size, first, most, kept, due, playing, begun, last, lost, stretched⟩ := q
    have hp : playing = false := hp
    subst hp
    simp only [wpS, wp, wpT, wpL, wpP, wpK, wpI, wpG, bmT, bmD, attrD, ifRef, ifI, ifL, ifK, ifInt, ifTup, ifLs, ifLst, ifKy, setD, opD, addD, mulD, cmD, cmI, inD, ixD, ixL, trD, b1D, b2D, lofD, fresh, gcR, gcS, gcX, isNon, isTup, isiOk, isiD, dueD, List.getElem?_cons_zero, List.getElem?_cons_succ, List.set_cons_zero, List.set_cons_succ, c2_true, c2_false, List.length_cons, List.length_nil, Nat.reduceAdd, Nat.reduceLT, true_and, and_true, Bool.not_true, Bool.not_false, Option.some.injEq, exists_eq_left', L.gR, L.sR, L.gK, L.gS, L.sK, L.sS, Pl.fs]
    refine count_ok L rfl hs (w := 8) (by decide) fun sm' hs' => ?_
    have h := h sm' hs'
    simp only [wpS, wp, wpT, wpL, wpP, wpK, wpI, wpG, bmT, bmD, attrD, ifRef, ifI, ifL, ifK, ifInt, ifTup, ifLs, ifLst, ifKy, setD, opD, addD, mulD, cmD, cmI, inD, ixD, ixL, trD, b1D, b2D, lofD, fresh, gcR, gcS, gcX, isNon, isTup, isiOk, isiD, dueD, List.getElem?_cons_zero, List.getElem?_cons_succ, List.set_cons_zero, List.set_cons_succ, c2_true, c2_false, List.length_cons, List.length_nil, Nat.reduceAdd, Nat.reduceLT, true_and, and_true, Bool.not_true, Bool.not_false, Option.some.injEq, exists_eq_left', L.gR, ne_eq, reduceCtorEq, not_false_eq_true]
    have hsz : size ≤ 1000 := hsz
    refine ⟨by decide, by omega, by omega, by decide, ?_⟩
    rw [zerosE]
    exact told_ok L (by show 7 < 11; decide) h
  by_cases hp : q.playing = false
  · rw [if_pos hp] at h
    exact st2 hp _ _ h
  · rw [if_neg hp] at h
    have hp : q.playing = true := by simpa using hp
    obtain ⟨d, hd⟩ := Option.isSome_iff_exists.mp (hW.du hp)
    rw [hd] at h
    simp only [Option.getD_some] at h
    have go : ∀ (K : Ends) (C : Calls), (hasK q.kept d = true → C 7 [.ref r] (mm (q.fs k s) (kvl q.kept) sm) K.rt fun c m => K.ex c [some (.ref r)] m) → (hasK q.kept d = false → C 8 [.ref r] (mm (q.fs k s) (kvl q.kept) sm) K.rt fun c m => K.ex c [some (.ref r)] m) → wpS C (.seq (.ite (.not (.w (.attr (.v 0) 5))) (.seq (.ex (.meth 0 4 (.v 0) (.cons (.ks 8) .nil)))
 (.seq (.ret (.meth 0 6 (.v 0) (.cons (.op .mul (.tup (.cons (.ki 0) .nil)) (.attr (.v 0) 0)) .nil)))
 .nil)) .nil) (.seq (.ite (.cmp .in_ (.attr (.v 0) 4) (.attr (.v 0) 3)) (.seq (.ret (.meth 0 7 (.v 0) .nil))
 .nil) .nil) (.seq (.ret (.meth 0 8 (.v 0) .nil)) .nil))) [some (.ref r)] (mm (q.fs k s) (kvl q.kept) sm) K := by
      intro K C g1 g2
      obtain ⟨size, first, most, kept, due, playing, begun, last, lost, stretched⟩ := q
      have hp : playing = true := hp
      subst hp
      have hd : due = some d := hd
      subst hd
      cases hh : hasK kept d with
      | true =>
        simp only [wpS, wp, wpT, wpL, wpP, wpK, wpI, wpG, bmT, bmD, attrD, ifRef, ifI, ifL, ifK, ifInt, ifTup, ifLs, ifLst, ifKy, setD, opD, addD, mulD, cmD, cmI, inD, ixD, ixL, trD, b1D, b2D, lofD, fresh, gcR, gcS, gcX, isNon, isTup, isiOk, isiD, dueD, List.getElem?_cons_zero, List.getElem?_cons_succ, List.set_cons_zero, List.set_cons_succ, c2_true, c2_false, List.length_cons, List.length_nil, Nat.reduceAdd, Nat.reduceLT, true_and, and_true, Bool.not_true, Bool.not_false, Option.some.injEq, exists_eq_left', L.gR, L.sR, L.gK, L.gS, L.sK, L.sS, Pl.fs, has_kvl, hh]
        exact g1 hh
      | false =>
        simp only [wpS, wp, wpT, wpL, wpP, wpK, wpI, wpG, bmT, bmD, attrD, ifRef, ifI, ifL, ifK, ifInt, ifTup, ifLs, ifLst, ifKy, setD, opD, addD, mulD, cmD, cmI, inD, ixD, ixL, trD, b1D, b2D, lofD, fresh, gcR, gcS, gcX, isNon, isTup, isiOk, isiD, dueD, List.getElem?_cons_zero, List.getElem?_cons_succ, List.set_cons_zero, List.set_cons_succ, c2_true, c2_false, List.length_cons, List.length_nil, Nat.reduceAdd, Nat.reduceLT, true_and, and_true, Bool.not_true, Bool.not_false, Option.some.injEq, exists_eq_left', L.gR, L.sR, L.gK, L.gS, L.sK, L.sS, Pl.fs, has_kvl, hh]
        exact g2 hh
    refine go _ _ (fun hh => ?_) (fun hh => ?_)
    · rw [if_pos hh] at h
      exact play_ok L hW hs hd hh h
    · rw [if_neg (by rw [hh]; exact Bool.false_ne_true)] at h
      exact lose_ok L hs hd h
theorem Pl.put_Ok {p : Pl} (h : p.Ok) {short : Int} {snds : List Int} (hl : snds.length = p.size) : (p.put short snds).1.Ok := by
  unfold Pl.put
  simp only
  generalize near (p.due.getD short) short = nr
  generalize (if p.kept = [] ∧ p.playing = false then nr else p.due.getD short) = d1
  by_cases hk : hasK p.kept nr = true
  · rw [if_pos hk]
    exact ⟨h.sz, h.fst, fun _ => rfl, h.kl, h.ll, h.nod⟩
  · rw [if_neg hk]
    by_cases h2 : nr < p.due.getD short ∧ p.begun = true
    · rw [if_pos h2]
      exact ⟨h.sz, h.fst, fun _ => rfl, h.kl, h.ll, h.nod⟩
    · rw [if_neg h2]
      by_cases h3 : d1 + p.most ≤ nr
      · rw [if_pos h3]
        exact ⟨h.sz, h.fst, fun _ => rfl, h.kl, h.ll, h.nod⟩
      · rw [if_neg h3]
        refine ⟨h.sz, h.fst, fun _ => rfl, fun x hx => ?_, h.ll, ?_⟩
        · rcases List.mem_append.mp hx with hx | hx
          · exact h.kl x hx
          · rw [List.mem_singleton.mp hx]; exact hl
        · show ((p.kept ++ [(nr, snds)]).map (·.1)).Nodup
          rw [List.map_append, List.nodup_append]
          refine ⟨h.nod, by simp, fun a ha b hb => ?_⟩
          rw [show b = nr from List.mem_singleton.mp hb]
          intro e
          obtain ⟨x, hx, rfl⟩ := List.mem_map.mp ha
          exact hk (List.any_eq_true.mpr ⟨x, hx, decide_eq_true e⟩)
theorem Pl.wake_Ok {p : Pl} (h : p.Ok) : p.wake.Ok := by
  unfold Pl.wake
  split
  · exact ⟨h.sz, h.fst, fun _ => rfl, h.kl, h.ll, h.nod⟩
  · exact h
theorem drop_nod {l : List (Int × List Int)} (h : (l.map (·.1)).Nodup) (i : Int) : ((dropK l i).map (·.1)).Nodup := h.sublist (List.Sublist.map _ List.filter_sublist)
theorem drop_mem {l : List (Int × List Int)} {i : Int} {x : Int × List Int} (h : x ∈ dropK l i) : x ∈ l := (List.mem_filter.mp h).1
theorem Pl.take_Ok {p : Pl} (h : p.Ok) : p.take.1.Ok := by
  have hW := Pl.wake_Ok h
  have hs : p.wake.size = p.size := by unfold Pl.wake; split <;> rfl
  unfold Pl.take
  rw [← hs]
  generalize p.wake = q at hW
  split
  · exact ⟨hW.sz, hW.fst, hW.du, hW.kl, List.length_replicate, hW.nod⟩
  · split
    · rename_i hh
      obtain ⟨own, ho⟩ : ∃ own, getK q.kept (q.due.getD 0) = some own := Option.isSome_iff_exists.mp (by rw [getK_isSome]; exact hh)
      have lo : own.length = q.size := by
        obtain ⟨x, hx, _, rfl⟩ := getK_len ho
        exact hW.kl x hx
      unfold Pl.play
      rw [ho]
      split
      · exact ⟨hW.sz, hW.fst, fun _ => rfl, fun x hx => hW.kl x (drop_mem (drop_mem hx)), by rw [blend_len]; exact lo, drop_nod (drop_nod hW.nod _) _⟩
      · split
        · exact ⟨hW.sz, hW.fst, hW.du, hW.kl, by rw [blend_len]; exact hW.ll, hW.nod⟩
        · exact ⟨hW.sz, hW.fst, fun _ => rfl, fun x hx => hW.kl x (drop_mem hx), lo, drop_nod hW.nod _⟩
    · exact ⟨hW.sz, hW.fst, fun _ => rfl, hW.kl, by show (q.last.map half).length = _; rw [List.length_map]; exact hW.ll, hW.nod⟩
abbrev words : List D := [.str 3, .str 1, .str 0, .str 2, .str 6, .str 4, .str 5, .str 7, .str 8]
theorem words_eq : words = (List.range 9).map fun w => D.str (tx w) := by
  rw [show List.range 9 = [0, 1, 2, 3, 4, 5, 6, 7, 8] by decide]
  rfl
theorem seen_ok (L : Lens mm r k s) {fs : List (Option D)} (hf : fs[10]? = some (some (.ref s))) {kv sm : List (Ky × D)} {c : Nat → Int} (hs : Sm sm c)
    (h : Q (rowD ((List.range 9).map c)) (mm fs kv sm)) : callN T (n + 1) 10 [.ref r] (mm fs kv sm) Q X := by
  refine ⟨rfl, ?_⟩
  show wpS _ b10 [some (.ref r), none, none] _ _
  unfold b10
  simp only [wpS, wp, wpT, wpL, wpP, wpK, wpI, wpG, bmT, bmD, attrD, ifRef, ifI, ifL, ifK, ifInt, ifTup, ifLs, ifLst, ifKy, setD, opD, addD, mulD, cmD, cmI, inD, ixD, ixL, trD, b1D, b2D, lofD, fresh, gcR, gcS, gcX, isNon, isTup, isiOk, isiD, dueD, List.getElem?_cons_zero, List.getElem?_cons_succ, List.set_cons_zero, List.set_cons_succ, c2_true, c2_false, List.length_cons, List.length_nil, Nat.reduceAdd, Nat.reduceLT, true_and, and_true, Bool.not_true, Bool.not_false, Option.some.injEq, exists_eq_left', itD, stab, bindT, kill, d10]
  refine ⟨by decide, ?_⟩
  show compL _ words _ _
  rw [words_eq]
  refine compL_of (fun w => D.str (tx w)) (fun w => .int (c w)) (fun w hw q hq => ?_) ?_
  · simp only [wpS, wp, wpT, wpL, wpP, wpK, wpI, wpG, bmT, bmD, attrD, ifRef, ifI, ifL, ifK, ifInt, ifTup, ifLs, ifLst, ifKy, setD, opD, addD, mulD, cmD, cmI, inD, ixD, ixL, trD, b1D, b2D, lofD, fresh, gcR, gcS, gcX, isNon, isTup, isiOk, isiD, dueD, List.getElem?_cons_zero, List.getElem?_cons_succ, List.set_cons_zero, List.set_cons_succ, c2_true, c2_false, List.length_cons, List.length_nil, Nat.reduceAdd, Nat.reduceLT, true_and, and_true, Bool.not_true, Bool.not_false, Option.some.injEq, exists_eq_left', L.gR, L.gS, hf, hs.get w (List.mem_range.mp hw)]
    exact hq
  · rw [show (List.range 9).map (fun w => D.int (c w)) = ((List.range 9).map c).map D.int by rw [List.map_map]; rfl]
    exact h
theorem waiting_ok (L : Lens mm r k s) {p : Pl} {sm : List (Ky × D)} (hk : p.kept.length < 64)
    (h : Q (rowD (isort (p.kept.map (·.1)))) (mm (p.fs k s) (kvl p.kept) sm)) : callN T (n + 1) 11 [.ref r] (mm (p.fs k s) (kvl p.kept) sm) Q X := by
  refine ⟨rfl, ?_⟩
  show wpS _ b11 [some (.ref r)] _ _
  simp only [b11, d11, wpS, wp, wpT, wpL, wpP, wpK, wpI, wpG, bmT, bmD, attrD, ifRef, ifI, ifL, ifK, ifInt, ifTup, ifLs, ifLst, ifKy, setD, opD, addD, mulD, cmD, cmI, inD, ixD, ixL, trD, b1D, b2D, lofD, fresh, gcR, gcS, gcX, isNon, isTup, isiOk, isiD, dueD, List.getElem?_cons_zero, List.getElem?_cons_succ, List.set_cons_zero, List.set_cons_succ, c2_true, c2_false, List.length_cons, List.length_nil, Nat.reduceAdd, Nat.reduceLT, true_and, and_true, Bool.not_true, Bool.not_false, Option.some.injEq, exists_eq_left', L.gR, L.gK, Pl.fs]
  exact ⟨p.kept.map (·.1), isort_keys _, by rw [List.length_map]; exact hk, h⟩
theorem app_get {α : Type} (M : List α) (a : α) (l : List α) : (M ++ a :: l)[M.length]? = some a := by
  rw [List.getElem?_append_right (Nat.le_refl _), Nat.sub_self]; rfl
theorem app_set {α : Type} (M : List α) (a b : α) (l : List α) : (M ++ a :: l).set M.length b = M ++ b :: l := by
  rw [List.set_append_right _ _ (Nat.le_refl _), Nat.sub_self]; rfl
def Pl.new (size : Nat) (first most : Int) : Pl := ⟨size, first, most, [], none, false, false, List.replicate size 0, 0, false⟩
theorem Pl.new_Ok {size : Nat} {first most : Int} (h : size ≤ 1000) (h1 : 1 ≤ first) : (Pl.new size first most).Ok :=
  ⟨h, h1, fun z => (by cases z), fun x hx => (by cases hx), List.length_replicate, List.nodup_nil⟩
theorem init_ok {M : Mem} {size : Nat} {first most : Int} (hs : size ≤ 1000) (h : Q .non (M ++ [.ins 0 ((Pl.new size first most).fs (M.length + 1) (M.length + 2)), .dct [], .dct []])) :
    callN T (n + 1) 3 [.ref M.length, .int size, .int first, .int most] (M ++ [.ins 0 (List.replicate 11 none)]) Q X := by
  refine ⟨rfl, ?_⟩
  show wpS _ b3 [some (.ref M.length), some (.int size), some (.int first), some (.int most)] _ _
  have e11 : List.replicate 11 (none : Option D) = [none, none, none, none, none, none, none, none, none, none, none] := rfl
  simp only [b3, d3, wpS, wp, wpT, wpL, wpP, wpK, wpI, wpG, bmT, bmD, attrD, ifRef, ifI, ifL, ifK, ifInt, ifTup, ifLs, ifLst, ifKy, setD, opD, addD, mulD, cmD, cmI, inD, ixD, ixL, trD, b1D, b2D, lofD, fresh, gcR, gcS, gcX, isNon, isTup, isiOk, isiD, dueD, List.getElem?_cons_zero, List.getElem?_cons_succ, List.set_cons_zero, List.set_cons_succ, c2_true, c2_false, List.length_cons, List.length_nil, Nat.reduceAdd, Nat.reduceLT, true_and, and_true, Bool.not_true, Bool.not_false, Option.some.injEq, exists_eq_left', e11, app_get, app_set, List.append_assoc, List.cons_append, List.nil_append, List.length_append, List.foldl, Nat.add_assoc, Nat.reduceAdd, zerosE, Nat.zero_add]
  exact ⟨by decide, by decide, fun z => (by cases z), by omega, by omega, by decide, by decide, h⟩
abbrev Deed := Option (Int × List Int)
def Pl.doit (p : Pl) : Deed → Pl × Nat
  | none => p.take
  | some (s, x) => p.put s x
def toldD (r : Pl × Nat) : Deed → D
  | none => rowD r.1.last
  | some _ => .str (tx r.2)
def Deed.Ok (size : Nat) : Deed → Prop
  | none => True
  | some (s, x) => 0 ≤ s ∧ s < 65536 ∧ x.length = size ∧ ∀ y ∈ x, -1000 ≤ y ∧ y ≤ 1000
theorem told_ne (r : Pl × Nat) (d : Deed) : (toldD r d).flat 20 = true ∧ (toldD r d).eqv (toldD r d) = true ∧ ∀ M, rd M (toldD r d) = toldD r d := by
  cases d with
  | none => exact ⟨flat_ints 19 _, eq_self _, fun _ => rfl⟩
  | some q => exact ⟨rfl, eqN _, fun _ => rfl⟩
theorem Pl.doit_Ok {p : Pl} (h : p.Ok) {d : Deed} (hd : d.Ok p.size) : (p.doit d).1.Ok := by
  cases d with
  | none => exact Pl.take_Ok h
  | some q => exact Pl.put_Ok h hd.2.2.1
theorem Pl.put_len (p : Pl) (short : Int) (snds : List Int) : (p.put short snds).1.kept.length ≤ p.kept.length + 1 := by
  unfold Pl.put
  simp only
  generalize near (p.due.getD short) short = nr
  generalize (if p.kept = [] ∧ p.playing = false then nr else p.due.getD short) = d1
  by_cases hk : hasK p.kept nr = true
  · rw [if_pos hk]; exact Nat.le_succ _
  · rw [if_neg hk]
    by_cases h2 : nr < p.due.getD short ∧ p.begun = true
    · rw [if_pos h2]; exact Nat.le_succ _
    · rw [if_neg h2]
      by_cases h3 : d1 + p.most ≤ nr
      · rw [if_pos h3]; exact Nat.le_succ _
      · rw [if_neg h3]
        show (p.kept ++ [(nr, snds)]).length ≤ _
        rw [List.length_append]; exact Nat.le_refl _
theorem drop_len (l : List (Int × List Int)) (i : Int) : (dropK l i).length ≤ l.length := List.length_filter_le ..
theorem Pl.wake_kept (p : Pl) : p.wake.kept = p.kept := by unfold Pl.wake; split <;> rfl
theorem Pl.take_len (p : Pl) : p.take.1.kept.length ≤ p.kept.length := by
  rw [← Pl.wake_kept p]
  unfold Pl.take
  generalize p.wake = q
  split
  · exact Nat.le_refl _
  · split
    · unfold Pl.play
      split
      · exact Nat.le_trans (drop_len _ _) (drop_len _ _)
      · split
        · exact Nat.le_refl _
        · exact drop_len _ _
    · exact Nat.le_refl _
theorem Pl.doit_len (p : Pl) (d : Deed) : (p.doit d).1.kept.length ≤ p.kept.length + 1 := by
  cases d with
  | none => exact Nat.le_succ_of_le (Pl.take_len p)
  | some q => exact Pl.put_len p q.1 q.2
theorem Pl.wake_size (p : Pl) : p.wake.size = p.size := by unfold Pl.wake; split <;> rfl
theorem Pl.put_size (p : Pl) (short : Int) (snds : List Int) : (p.put short snds).1.size = p.size := by
  unfold Pl.put
  simp only
  generalize near (p.due.getD short) short = nr
  generalize (if p.kept = [] ∧ p.playing = false then nr else p.due.getD short) = d1
  by_cases hk : hasK p.kept nr = true
  · rw [if_pos hk]
  · rw [if_neg hk]
    by_cases h2 : nr < p.due.getD short ∧ p.begun = true
    · rw [if_pos h2]
    · rw [if_neg h2]
      by_cases h3 : d1 + p.most ≤ nr
      · rw [if_pos h3]
      · rw [if_neg h3]
theorem Pl.take_size (p : Pl) : p.take.1.size = p.size := by
  rw [← Pl.wake_size p]
  unfold Pl.take
  rw [← Pl.wake_size p]
  generalize p.wake = q
  split
  · rfl
  · split
    · unfold Pl.play
      split
      · rfl
      · split <;> rfl
    · rfl
theorem Pl.doit_size (p : Pl) (d : Deed) : (p.doit d).1.size = p.size := by
  cases d with
  | none => exact Pl.take_size p
  | some q => exact Pl.put_size p q.1 q.2
theorem psounds_ok {ns : List Int} {k size : Nat} {R : Mem} (hk : k ≤ 9000000) (hs : size ≤ 1000) (h : ∀ s : List Int, s.length = size → (∀ x ∈ s, -1000 ≤ x ∧ x ≤ 1000) → Q (rowD s) (.lst (zs (k + size)) :: R)) : callN T (n + 2) 14 [.scr (ns.map D.int), .ref 0, .int size] (.lst (zs k) :: R) Q X := by
  refine ⟨rfl, ?_⟩
  refine ⟨⟨by omega, by omega⟩, ?_⟩
  rw [Int.toNat_natCast]
  refine compL_rngI (fun i ys M' => M' = .lst (zs (k + i)) :: R ∧ ∃ s : List Int, ys = s.map D.int ∧ s.length = i ∧ ∀ x ∈ s, -1000 ≤ x ∧ x ≤ 1000) ⟨rfl, [], rfl, rfl, fun x hx => by cases hx⟩ ?_ ?_
  · rintro i ys M' hi ⟨rfl, s, rfl, hl, hx⟩ kk hkk
    refine c2T (draw_ok (n := n) (by omega) (by decide) fun v v0 v1 => ?_)
    refine hkk _ _ ⟨rfl, s ++ [v - 1000], by rw [List.map_append]; rfl, by rw [List.length_append, hl]; rfl, fun x hx' => ?_⟩
    rcases List.mem_append.mp hx' with hx' | hx'
    · exact hx x hx'
    · rw [List.mem_singleton.mp hx']; omega
  · rintro ys M' ⟨rfl, s, rfl, hl, hx⟩
    exact h s hl hx
def deedD : Deed → D
  | none => .tup [.str 9, .int 0, .tup []]
  | some (s, x) => .tup [.str 10, .int s, rowD x]
theorem div65536 : DivOk 65536 := ⟨by decide, by decide⟩
def dsteps : List Int := [0, 0, 1, 1, 2, 3, -1, -2, 5, 12, 40]
theorem deed_ok {ns : List Int} {k size : Nat} {here : Int} {R : Mem} (hk : k ≤ 8000000) (hs : size ≤ 1000) (h : ∀ (d : Deed) (k' : Nat), d.Ok size → k' ≤ k + 2 + size → Q (deedD d) (.lst (zs k') :: R)) :
    callN T (n + 3) 15 [.scr (ns.map D.int), .ref 0, .int here, .int size] (.lst (zs k) :: R) Q X := by
  refine ⟨rfl, ?_⟩
  refine draw_ok (n := n + 1) (by omega) (by decide) fun v v0 v1 => ?_
  refine c2B (fun _ => ?_) (fun _ => ?_)
  · exact ⟨Nat.zero_le _, by show 3 ≤ 16777216; decide, h none _ trivial (by omega)⟩
  · refine ⟨by show 11 ≤ 16777216; decide, ?_⟩
    refine pick_ok (n := n) (ds := [0, 0, 1, 1, 2, 3, -1, -2, 5, 12, 40].map D.int) (by omega) (by simp) fun d hd => ?_
    obtain ⟨st, hst, rfl⟩ := List.mem_map.mp hd
    refine ⟨div65536, mul_small' (by decide) (by decide), ?_⟩
    refine psounds_ok (n := n) (by omega) hs fun s hl hx => ?_
    refine ⟨by show 3 ≤ 16777216; decide, ?_⟩
    exact h (some (here + st - (here + st) / 65536 * 65536, s)) _ ⟨by omega, by omega, hl, hx⟩ (by omega)
theorem do_ok {mm : List (Option D) → List (Ky × D) → List (Ky × D) → Mem} {r k s : Nat} (L : Lens mm r k s) {p : Pl} (hO : p.Ok) {sm : List (Ky × D)} {c : Nat → Int} (hs : Sm sm c) (hk : p.kept.length < sz) {d : Deed} (hd : d.Ok p.size)
    (h : ∀ sm', Sm sm' (bump c (p.doit d).2) → Q (toldD (p.doit d) d) (mm ((p.doit d).1.fs k s) (kvl (p.doit d).1.kept) sm')) :
    callN T (n + 4) 16 [.ref r, deedD d] (mm (p.fs k s) (kvl p.kept) sm) Q X := by
  refine ⟨rfl, ?_⟩
  cases d with
  | none =>
    show wpS _ b16 [some (.ref r), some (.tup [.str 9, .int 0, .tup []])] _ _
    simp only [b16, d16, wpS, wp, wpT, wpL, wpP, wpK, wpI, wpG, bmT, bmD, attrD, ifRef, ifI, ifL, ifK, ifInt, ifTup, ifLs, ifLst, ifKy, setD, opD, addD, mulD, cmD, cmI, inD, ixD, ixL, trD, b1D, b2D, lofD, fresh, gcR, gcS, gcX, isNon, isTup, isiOk, isiD, dueD, List.getElem?_cons_zero, List.getElem?_cons_succ, List.set_cons_zero, List.set_cons_succ, c2_true, c2_false, List.length_cons, List.length_nil, Nat.reduceAdd, Nat.reduceLT, true_and, and_true, Bool.not_true, Bool.not_false, Option.some.injEq, exists_eq_left', L.gR]
    refine ⟨.str 9, rfl, rfl, rfl, c2t rfl ?_⟩
    exact take_ok L hO hs h
  | some q =>
    obtain ⟨st, x⟩ := q
    show wpS _ b16 [some (.ref r), some (.tup [.str 10, .int st, rowD x])] _ _
    simp only [b16, d16, wpS, wp, wpT, wpL, wpP, wpK, wpI, wpG, bmT, bmD, attrD, ifRef, ifI, ifL, ifK, ifInt, ifTup, ifLs, ifLst, ifKy, setD, opD, addD, mulD, cmD, cmI, inD, ixD, ixL, trD, b1D, b2D, lofD, fresh, gcR, gcS, gcX, isNon, isTup, isiOk, isiD, dueD, List.getElem?_cons_zero, List.getElem?_cons_succ, List.set_cons_zero, List.set_cons_succ, c2_true, c2_false, List.length_cons, List.length_nil, Nat.reduceAdd, Nat.reduceLT, true_and, and_true, Bool.not_true, Bool.not_false, Option.some.injEq, exists_eq_left', L.gR]
    refine ⟨.str 10, rfl, rfl, rfl, c2f rfl ⟨_, rfl, _, rfl, ?_⟩⟩
    exact put_ok (n := n + 1) L hs hd.2.2.1 hk h
theorem lenA {t x y z : O} : Lens (fun a b c => [t, .ins 0 a, .dct b, .dct c, x, y, z]) 1 2 3 := ⟨fun _ _ _ => rfl, fun _ _ _ => rfl, fun _ _ _ => rfl, fun _ _ _ _ => rfl, fun _ _ _ _ => rfl, fun _ _ _ _ => rfl⟩
theorem lenB {t x y z : O} : Lens (fun a b c => [t, x, y, z, .ins 0 a, .dct b, .dct c]) 4 5 6 := ⟨fun _ _ _ => rfl, fun _ _ _ => rfl, fun _ _ _ => rfl, fun _ _ _ _ => rfl, fun _ _ _ _ => rfl, fun _ _ _ _ => rfl⟩
def two2 (k : Nat) (p : Pl) (s1 s2 : List (Ky × D)) : Mem := [.lst (zs k), .ins 0 (p.fs 2 3), .dct (kvl p.kept), .dct s1, .ins 0 (p.fs 5 6), .dct (kvl p.kept), .dct s2]
theorem repl_len (d : D) (m : Int) : ((List.replicate m.toNat [d]).flatten).length = m.toNat := by
  generalize m.toNat = j
  induction j with
  | zero => rfl
  | succ j ih => rw [List.replicate_succ, List.flatten_cons, List.length_append, ih]; exact Nat.add_comm _ _
theorem eqPair (a b : List Int) : D.eqv (.tup [rowD a, rowD b]) (.tup [rowD a, rowD b]) = true := by
  show (D.eqvL (a.map D.int) (a.map D.int) && (D.eqvL (b.map D.int) (b.map D.int) && true)) = true
  rw [eq_self, eq_self]; rfl
theorem flatPair (a b : List Int) : D.flat 20 (.tup [rowD a, rowD b]) = true := by
  show (D.flat 19 (rowD a) && (D.flat 19 (rowD b) && true)) = true
  rw [flat_ints 18, flat_ints 18]; rfl
theorem refused_ok {ns : List Int} {k : Nat} {p : Pl} {s1 s2 : List (Ky × D)} {c : Nat → Int} {here : Int} (hk : k ≤ 9000000) (hs1 : 1 ≤ p.size) (hs2 : p.size ≤ 100) (hl : p.kept.length < 64) (hsm : Sm s2 c) (h : Q (.bl true) (two2 (k + 1) p s1 s2)) :
    callN T (n + 5) 17 [.scr (ns.map D.int), .ref 0, .ref 4, .int p.size, .int here] (two2 k p s1 s2) Q X := by
  refine ⟨rfl, ?_⟩
  refine ⟨rfl, ?_⟩
  refine waiting_ok (n := n + 3) lenB (p := p) hl ?_
  refine ⟨rfl, ?_⟩
  refine seen_ok (n := n + 3) lenB (c := c) rfl hsm ?_
  refine ⟨by show 2 ≤ 16777216; decide, by show 4 ≤ 16777216; decide, ?_⟩
  refine pick_ok (n := n + 2) (ds := [(p.size : Int) + 1, (p.size : Int) - 1, 0, (p.size : Int) + 5].map D.int) (by omega) (by simp) fun d hd => ?_
  obtain ⟨m, hm, rfl⟩ := List.mem_map.mp hd
  simp only [List.mem_cons, List.not_mem_nil, or_false] at hm
  refine ⟨rfl, div65536, mul_small' (by decide) (by decide), by show 1 ≤ 16777216; decide, fun z => (by cases z), by omega, by omega, by show 1 ≤ 1000; decide, ?_⟩
  refine put_bad (n := n + 3) lenB (p := p) (by rw [repl_len]; omega) ?_
  refine c2T ?_
  refine ⟨rfl, ?_⟩
  refine waiting_ok (n := n + 3) lenB (p := p) hl ?_
  refine ⟨rfl, ?_⟩
  refine seen_ok (n := n + 3) lenB (c := c) rfl hsm ?_
  refine ⟨by show 2 ≤ 16777216; decide, flatPair _ _, flatPair _ _, ?_⟩
  show Q (.bl (D.eqv (.tup [rowD _, rowD _]) (.tup [rowD _, rowD _]))) _
  rw [eqPair]
  exact h
abbrev e28 (ns : List Int) (x2 x4 x5 : Option D) (size : Nat) (here : Int) (x9 x10 x11 : Option D) : Env := [some (.scr (ns.map D.int)), some (.ref 0), x2, some (.int size), x4, x5, some (.ref 1), some (.ref 4), some (.int here), x9, x10, x11]
theorem refs_ok {K : Ends} {ns : List Int} {k : Nat} {x2 x4 x5 x9 x11 : Option D} {here : Int} {p : Pl} {s1 s2 : List (Ky × D)} {c : Nat → Int} (hk : k ≤ 1000000) (hs1 : 1 ≤ p.size) (hs2 : p.size ≤ 100) (hl : p.kept.length < 64) (h2 : Sm s2 c)
    (h : ∀ k', k' ≤ k + 5 → K.nx (e28 ns x2 x4 x5 p.size here x9 none x11) (two2 k' p s1 s2)) :
    wpS (callN T (n + 6)) L18_3 (e28 ns x2 x4 x5 p.size here x9 none x11) (two2 k p s1 s2) K := by
  unfold L18_3
  refine draw_ok (n := n + 5) (by omega) (by decide) fun m m0 m1 => ?_
  refine ⟨⟨by omega, by omega⟩, ?_⟩
  refine forL_rng (n := m.toNat) (fun i env M' => ∃ k', k' ≤ k + 1 + 2 * i ∧ env = e28 ns x2 x4 x5 p.size here x9 none x11 ∧ M' = two2 k' p s1 s2) ?_ ?_ ⟨k + 1, by omega, rfl, rfl⟩
  · rintro i env M' hi ⟨k', hk', rfl, rfl⟩ N hN
    refine draw_ok (n := n + 5) (by omega) (by decide) fun w w0 w1 => ?_
    refine refused_ok (n := n + 1) (k := k' + 1) (c := c) (by omega) hs1 hs2 hl h2 ?_
    refine c2f rfl ?_
    exact hN _ _ ⟨k' + 1 + 1, by omega, rfl, rfl⟩
  · rintro env M' ⟨k', hk', rfl, rfl⟩
    exact h k' (by omega)
theorem loop_ok {K : Ends} {ns : List Int} {k size : Nat} {x2 x4 x5 : Option D} {here : Int} {p0 : Pl} (hk : k ≤ 500000) (hs1 : 1 ≤ size) (hs : size ≤ 10) (hp0 : p0.Ok) (hps0 : p0.size = size) (hk0 : p0.kept = [])
    (h : ∀ here p s1 s2 k' c, Sm s1 c → Sm s2 c → k' ≤ k + 1000 → K.nx (e28 ns x2 x4 x5 size here none none none) (two2 k' p s1 s2)) :
    wpS (callN T (n + 6)) L18_2 (e28 ns x2 x4 x5 size here none none none) (two2 k p0 [] []) K := by
  unfold L18_2
  refine ⟨⟨by decide, by decide⟩, ?_⟩
  refine forL_rng (n := 35) (fun i env M' => ∃ here p s1 s2 c k', p.Ok ∧ p.size = size ∧ p.kept.length ≤ i ∧ Sm s1 c ∧ Sm s2 c ∧ k' ≤ k + 25 * i ∧ env = e28 ns x2 x4 x5 size here none none none ∧ M' = two2 k' p s1 s2) ?_ ?_
    ⟨here, p0, [], [], fun _ => 0, k, hp0, hps0, by rw [hk0]; exact Nat.zero_le _, Sm.nil, Sm.nil, by omega, rfl, rfl⟩
  · rintro i env M' hi ⟨here, p, s1, s2, c, k', hO, hps, hkl, h1, h2, hk', rfl, rfl⟩ N hN
    subst hps
    have hz : (100 : Nat) < sz := by decide
    generalize htl : ((.seq (.asg (.v 11) (.call 15 (.cons (.v 0) (.cons (.v 1) (.cons (.v 8) (.cons (.v 3) .nil)))))) (.seq (.ite (.cmp .ne (.call 16 (.cons (.v 6) (.cons (.v 11) .nil))) (.call 16 (.cons (.v 7) (.cons (.v 11) .nil)))) (.seq (.ret (.kb false))
 .nil) .nil) (.seq (.ite (.or (.cmp .ne (.meth 0 11 (.v 6) .nil) (.meth 0 11 (.v 7) .nil)) (.cmp .ne (.meth 0 10 (.v 6) .nil) (.meth 0 10 (.v 7) .nil))) (.seq (.ret (.kb false))
 .nil) .nil) (.seq (.asg (.v 8) (.op .add (.v 8) (.call 12 (.cons (.v 0) (.cons (.v 1) (.cons (.ki 2) .nil)))))) .nil)))) : Z.S) = tl
    refine seq_of ?_
    refine refs_ok (n := n) (k := k') (p := p) (c := c) (by omega) hs1 (by omega) (by omega) h2 fun k1 hk1 => ?_
    subst htl
    generalize htl : ((.seq (.ite (.cmp .ne (.call 16 (.cons (.v 6) (.cons (.v 11) .nil))) (.call 16 (.cons (.v 7) (.cons (.v 11) .nil)))) (.seq (.ret (.kb false))
 .nil) .nil) (.seq (.ite (.or (.cmp .ne (.meth 0 11 (.v 6) .nil) (.meth 0 11 (.v 7) .nil)) (.cmp .ne (.meth 0 10 (.v 6) .nil) (.meth 0 10 (.v 7) .nil))) (.seq (.ret (.kb false))
 .nil) .nil) (.seq (.asg (.v 8) (.op .add (.v 8) (.call 12 (.cons (.v 0) (.cons (.v 1) (.cons (.ki 2) .nil)))))) .nil))) : Z.S) = tl
    refine deed_ok (n := n + 3) (by omega) (by omega) fun d k2 hd hk2 => ?_
    subst htl
    dsimp only [wpG]
    generalize htl : ((.seq (.ite (.or (.cmp .ne (.meth 0 11 (.v 6) .nil) (.meth 0 11 (.v 7) .nil)) (.cmp .ne (.meth 0 10 (.v 6) .nil) (.meth 0 10 (.v 7) .nil))) (.seq (.ret (.kb false))
 .nil) .nil) (.seq (.asg (.v 8) (.op .add (.v 8) (.call 12 (.cons (.v 0) (.cons (.v 1) (.cons (.ki 2) .nil)))))) .nil)) : Z.S) = tl
    refine do_ok (n := n + 2) lenA (p := p) (d := d) hO h1 (by omega) hd fun s1' h1' => ?_
    refine do_ok (n := n + 2) lenB (p := p) (d := d) hO h2 (by omega) hd fun s2' h2' => ?_
    obtain ⟨t1, t2, t3⟩ := told_ne (p.doit d) d
    refine ⟨by rw [t3]; exact t1, by rw [t3]; exact t1, c2f (by rw [t3, t2]; rfl) ?_⟩
    dsimp only [wpS]
    subst htl
    have hl' : (p.doit d).1.kept.length < 64 := by have := Pl.doit_len p d; omega
    refine ⟨rfl, ?_⟩
    refine waiting_ok (n := n + 5) lenA (p := (p.doit d).1) hl' ?_
    refine ⟨rfl, ?_⟩
    refine waiting_ok (n := n + 5) lenB (p := (p.doit d).1) hl' ?_
    refine ⟨flat_ints 19 _, flat_ints 19 _, c2f (ne_self _) ?_⟩
    refine ⟨rfl, ?_⟩
    refine seen_ok (n := n + 5) lenA rfl h1' ?_
    refine ⟨rfl, ?_⟩
    refine seen_ok (n := n + 5) lenB rfl h2' ?_
    refine ⟨flat_ints 19 _, flat_ints 19 _, c2f (ne_self _) ?_⟩
    refine draw_ok (n := n + 5) (by omega) (by decide) fun w w0 w1 => ?_
    exact hN _ _ ⟨here + w, (p.doit d).1, s1', s2', _, k2 + 1, Pl.doit_Ok hO hd, Pl.doit_size p d, by have := Pl.doit_len p d; omega, h1', h2', by omega, rfl, rfl⟩
  · rintro env M' ⟨here, p, s1, s2, c, k', hO, hps, hkl, h1, h2, hk', rfl, rfl⟩
    exact h _ _ _ _ _ _ h1 h2 (by omega)
theorem rest1_ok {K : Ends} {ns : List Int} {k size : Nat} {x2 : Option D} {sv first : Int} (hsv : sv = size) (hk : k ≤ 200000) (hs1 : 1 ≤ size) (hs : size ≤ 10) (hf : 1 ≤ first)
    (h : ∀ y3 y4 y5 y6 y7 y8 p s1 s2 k' c, Sm s1 c → Sm s2 c → k' ≤ k + 1100 → K.nx [some (.scr (ns.map D.int)), some (.ref 0), x2, y3, y4, y5, y6, y7, y8, none, none, none] (two2 k' p s1 s2)) :
    wpS (callN T (n + 6)) (.seq (.asg (.v 5) (.op .add (.ki 10) (.call 12 (.cons (.v 0) (.cons (.v 1) (.cons (.ki 10) .nil)))))) (.seq (.asg (.tup (.cons (.v 6) (.cons (.v 7) (.cons (.v 8) .nil)))) (.tup (.cons (.new 0 3 11 (.cons (.v 3) (.cons (.v 4) (.cons (.v 5) .nil)))) (.cons (.new 0 3 11 (.cons (.v 3) (.cons (.v 4) (.cons (.v 5) .nil)))) (.cons (.call 12 (.cons (.v 0) (.cons (.v 1) (.cons (.ki 65536) .nil)))) .nil))))) (.seq L18_2 .nil))) [some (.scr (ns.map D.int)), some (.ref 0), x2, some (.int sv), some (.int first), none, none, none, none, none, none, none] [.lst (zs k)] K := by
  subst hsv
  generalize hl2 : (L18_2 : Z.S) = s2
  refine draw_ok (n := n + 5) (by omega) (by decide) fun m m0 m1 => ?_
  dsimp only [opD, addD, wpG, wpS, wp, wpL, List.set_cons_zero, List.set_cons_succ, List.getElem?_cons_zero, List.getElem?_cons_succ]
  refine init_ok (n := n + 5) (M := [.lst (zs (k + 1))]) (size := size) (first := first) (most := 10 + m) (by omega) ?_
  refine ⟨rfl, ?_⟩
  refine init_ok (n := n + 5) (M := [.lst (zs (k + 1)), .ins 0 ((Pl.new size first (10 + m)).fs 2 3), .dct [], .dct []]) (size := size) (first := first) (most := 10 + m) (by omega) ?_
  refine ⟨rfl, ?_⟩
  refine draw_ok (n := n + 5) (by omega) (by decide) fun here h0 h1 => ?_
  refine ⟨by show 3 ≤ 16777216; decide, rfl, ?_⟩
  subst hl2
  show wpS (callN T (n + 6)) L18_2 (e28 ns x2 (some (.int first)) (some (.int (10 + m))) size here none none none) (two2 (k + 1 + 1) (Pl.new size first (10 + m)) [] []) _
  refine loop_ok (n := n) (k := k + 1 + 1) (by omega) hs1 hs (Pl.new_Ok (by omega) hf) rfl rfl fun here' p s1 s2 k' c g1 g2 g3 => ?_
  exact h _ _ _ _ _ _ _ _ _ _ _ g1 g2 (by omega)
theorem turn_ok {K : Ends} {ns : List Int} {k : Nat} (hk : k ≤ 100000) (h : ∀ k', K.nx [some (.scr (ns.map D.int)), some (.ref 0), none, none, none, none, none, none, none, none, none, none] [.lst (zs k')]) :
    wpS (callN T (n + 6)) L18_1 [some (.scr (ns.map D.int)), some (.ref 0), none, none, none, none, none, none, none, none, none, none] [.lst (zs k)] K := by
  unfold L18_1
  refine ⟨⟨by decide, by decide⟩, ?_⟩
  refine forL_rng (n := 3) (fun i env M' => ∃ k', M' = [.lst (zs k')] ∧ k' ≤ k + 2000 * i ∧ env = [some (.scr (ns.map D.int)), some (.ref 0), none, none, none, none, none, none, none, none, none, none]) ?_ ?_ ⟨k, rfl, by omega, rfl⟩
  · rintro i env M' hi ⟨k', rfl, hk', rfl⟩ N hN
    generalize htl : ((.seq (.asg (.v 5) (.op .add (.ki 10) (.call 12 (.cons (.v 0) (.cons (.v 1) (.cons (.ki 10) .nil)))))) (.seq (.asg (.tup (.cons (.v 6) (.cons (.v 7) (.cons (.v 8) .nil)))) (.tup (.cons (.new 0 3 11 (.cons (.v 3) (.cons (.v 4) (.cons (.v 5) .nil)))) (.cons (.new 0 3 11 (.cons (.v 3) (.cons (.v 4) (.cons (.v 5) .nil)))) (.cons (.call 12 (.cons (.v 0) (.cons (.v 1) (.cons (.ki 65536) .nil)))) .nil))))) (.seq L18_2 .nil))) : Z.S) = tl
    refine draw_ok (n := n + 5) (by omega) (by decide) fun w w0 w1 => ?_
    refine draw_ok (n := n + 5) (by omega) (by decide) fun w2 w20 w21 => ?_
    refine ⟨by show 2 ≤ 16777216; decide, rfl, ?_⟩
    dsimp only
    subst htl
    refine rest1_ok (n := n) (k := k' + 1 + 1) (size := (1 + w).toNat) (by omega) (by omega) (by omega) (by omega) (by omega) fun y3 y4 y5 y6 y7 y8 p s1 s2 k2 c hsm1 hsm2 hk2 => ?_
    dsimp only
    refine ⟨by show 1 ≤ 7; decide, by show (D.belL 1 (ns.map D.int) && _) = true; rw [bel_ints]; rfl, ?_, ?_⟩
    · show (O.bel 1 (.lst (zs k2)) && true) = true
      rw [show O.bel 1 (.lst (zs k2)) = true by
        show D.belL 1 (zs k2) = true
        rw [show zs k2 = (List.replicate k2 (0 : Int)).map D.int by rw [List.map_replicate]]
        exact bel_ints 1 _]
      rfl
    · exact hN _ _ ⟨k2, rfl, by omega, rfl⟩
  · rintro env M' ⟨k', rfl, hk', rfl⟩
    exact h k'
theorem law_ok : ∀ ns : List Int, ns.length ≤ 63 → callN T 20 18 [.scr (ns.map D.int)] [] (fun d _ => d = .bl true) (fun _ _ => False) := by
  intro ns hns
  suffices H : ∀ n, callN T (n + 7) 18 [.scr (ns.map D.int)] [] (fun d _ => d = .bl true) (fun _ _ => False) from H 13
  intro n
  refine ⟨rfl, ?_⟩
  refine ⟨Nat.zero_le _, ?_⟩
  refine turn_ok (n := n) (k := 0) (by omega) fun k1 => ?_
  exact rfl
end Z.Law
namespace Z.Law
open PySem PySem.Spec PyProof.Rows L2
set_option maxRecDepth 100000
set_option maxHeartbeats 4000000
theorem all_mk {l : PySem.W.OpenLaw} {w : World} {K : PySem.W.Frag} {h : Heap} {mg : Str → Option Value} {fa f0 f1 f2 f3 f4 f5 f6 f7 f8 f9 f10 f11 f12 f13 f14 f15 f16 f17 f18 C0 X0 X1 : Addr} (KX : K.In h) (G : h.Ns mainGlobals mg) (hfa : mg "law" = some (.ref fa))
    {od0 an0 : Option Addr} {sl0 : Array (Option Value)} {oc0 kV0 dc0 pm0 cd0 ct0 : Value}
    {od1 an1 : Option Addr} {sl1 : Array (Option Value)} {oc1 kV1 dc1 pm1 cd1 ct1 : Value}
    {od2 an2 : Option Addr} {sl2 : Array (Option Value)} {oc2 kV2 dc2 pm2 cd2 ct2 : Value}
    {od3 an3 : Option Addr} {sl3 : Array (Option Value)} {oc3 kV3 dc3 pm3 cd3 ct3 : Value}
    {od4 an4 : Option Addr} {sl4 : Array (Option Value)} {oc4 kV4 dc4 pm4 cd4 ct4 : Value}
    {od5 an5 : Option Addr} {sl5 : Array (Option Value)} {oc5 kV5 dc5 pm5 cd5 ct5 : Value}
    {od6 an6 : Option Addr} {sl6 : Array (Option Value)} {oc6 kV6 dc6 pm6 cd6 ct6 : Value}
    {od7 an7 : Option Addr} {sl7 : Array (Option Value)} {oc7 kV7 dc7 pm7 cd7 ct7 : Value}
    {od8 an8 : Option Addr} {sl8 : Array (Option Value)} {oc8 kV8 dc8 pm8 cd8 ct8 : Value}
    {od9 an9 : Option Addr} {sl9 : Array (Option Value)} {oc9 kV9 dc9 pm9 cd9 ct9 : Value}
    {od10 an10 : Option Addr} {sl10 : Array (Option Value)} {oc10 kV10 dc10 pm10 cd10 ct10 : Value}
    {od11 an11 : Option Addr} {sl11 : Array (Option Value)} {oc11 kV11 dc11 pm11 cd11 ct11 : Value}
    {od12 an12 : Option Addr} {sl12 : Array (Option Value)} {oc12 kV12 dc12 pm12 cd12 ct12 : Value}
    {od13 an13 : Option Addr} {sl13 : Array (Option Value)} {oc13 kV13 dc13 pm13 cd13 ct13 : Value}
    {od14 an14 : Option Addr} {sl14 : Array (Option Value)} {oc14 kV14 dc14 pm14 cd14 ct14 : Value}
    {od15 an15 : Option Addr} {sl15 : Array (Option Value)} {oc15 kV15 dc15 pm15 cd15 ct15 : Value}
    {od16 an16 : Option Addr} {sl16 : Array (Option Value)} {oc16 kV16 dc16 pm16 cd16 ct16 : Value}
    {od17 an17 : Option Addr} {sl17 : Array (Option Value)} {oc17 kV17 dc17 pm17 cd17 ct17 : Value}
    {od18 an18 : Option Addr} {sl18 : Array (Option Value)} {oc18 kV18 dc18 pm18 cd18 ct18 : Value}
    {tk0 : Tok}
    {tk1 : Tok}
    {tk2 : Tok}
    (ca0 : PySem.W.nsIn K mainGlobals "Player" = some (some (.ref C0)))
    (ck0 : PySem.W.keepIn K (.ref C0) = true)
    (cp0 : PySem.W.plainGet K C0 Str.empty = true)
    (ch0 : PySem.W.hasDictIn K C0 = true)
    (co0 : PySem.W.plainOver K C0 = true)
    (cs0 : PySem.W.findIn K (.ref C0) "__setattr__" = some (some (.builtin "object.__setattr__")))
    (cf0_0 : PySem.W.findIn K (.ref C0) "size" = some none)
    (cf0_1 : PySem.W.findIn K (.ref C0) "first" = some none)
    (cf0_2 : PySem.W.findIn K (.ref C0) "most" = some none)
    (cf0_3 : PySem.W.findIn K (.ref C0) "kept" = some none)
    (cf0_4 : PySem.W.findIn K (.ref C0) "due" = some none)
    (cf0_5 : PySem.W.findIn K (.ref C0) "playing" = some none)
    (cf0_6 : PySem.W.findIn K (.ref C0) "begun" = some none)
    (cf0_7 : PySem.W.findIn K (.ref C0) "last" = some none)
    (cf0_8 : PySem.W.findIn K (.ref C0) "lost" = some none)
    (cf0_9 : PySem.W.findIn K (.ref C0) "stretched" = some none)
    (cf0_10 : PySem.W.findIn K (.ref C0) "sums" = some none)
    (a0 : PySem.W.nsIn K mainGlobals "near" = some (some (.ref f0)))
    (l0 : K.lookup f0 = some ⟨oc0, od0, .func (PySem.W.fnOf "near" "near" (defArgs st0) (defBody st0) (defScope st0) .none kV0 dc0 pm0 an0 cd0 ct0), sl0⟩)
    (cc0 : PySem.W.codeIn K cd0 "near" = true)
    (k0 : PySem.W.keepIn K (.ref f0) = true)
    (a1 : PySem.W.nsIn K mainGlobals "blended" = some (some (.ref f1)))
    (l1 : K.lookup f1 = some ⟨oc1, od1, .func (PySem.W.fnOf "blended" "blended" (defArgs st1) (defBody st1) (defScope st1) .none kV1 dc1 pm1 an1 cd1 ct1), sl1⟩)
    (cc1 : PySem.W.codeIn K cd1 "blended" = true)
    (k1 : PySem.W.keepIn K (.ref f1) = true)
    (a2 : PySem.W.nsIn K mainGlobals "fainter" = some (some (.ref f2)))
    (l2 : K.lookup f2 = some ⟨oc2, od2, .func (PySem.W.fnOf "fainter" "fainter" (defArgs st2) (defBody st2) (defScope st2) .none kV2 dc2 pm2 an2 cd2 ct2), sl2⟩)
    (cc2 : PySem.W.codeIn K cd2 "fainter" = true)
    (k2 : PySem.W.keepIn K (.ref f2) = true)
    (a3 : PySem.W.findIn K (.ref C0) "__init__" = some (some (.ref f3)))
    (i3 : PySem.W.isFn K (.ref f3) = true)
    (l3 : K.lookup f3 = some ⟨oc3, od3, .func (PySem.W.fnOf "__init__" "Player.__init__" (defArgs st3) (defBody st3) (defScope st3) .none kV3 dc3 pm3 an3 cd3 ct3), sl3⟩)
    (cc3 : PySem.W.codeIn K cd3 "Player.__init__" = true)
    (k3 : PySem.W.keepIn K (.ref f3) = true)
    (a4 : PySem.W.findIn K (.ref C0) "count" = some (some (.ref f4)))
    (i4 : PySem.W.isFn K (.ref f4) = true)
    (l4 : K.lookup f4 = some ⟨oc4, od4, .func (PySem.W.fnOf "count" "Player.count" (defArgs st4) (defBody st4) (defScope st4) .none kV4 dc4 pm4 an4 cd4 ct4), sl4⟩)
    (cc4 : PySem.W.codeIn K cd4 "Player.count" = true)
    (k4 : PySem.W.keepIn K (.ref f4) = true)
    (a5 : PySem.W.findIn K (.ref C0) "put" = some (some (.ref f5)))
    (i5 : PySem.W.isFn K (.ref f5) = true)
    (l5 : K.lookup f5 = some ⟨oc5, od5, .func (PySem.W.fnOf "put" "Player.put" (defArgs st5) (defBody st5) (defScope st5) .none kV5 dc5 pm5 an5 cd5 ct5), sl5⟩)
    (cc5 : PySem.W.codeIn K cd5 "Player.put" = true)
    (k5 : PySem.W.keepIn K (.ref f5) = true)
    (a6 : PySem.W.findIn K (.ref C0) "told" = some (some (.ref f6)))
    (i6 : PySem.W.isFn K (.ref f6) = true)
    (l6 : K.lookup f6 = some ⟨oc6, od6, .func (PySem.W.fnOf "told" "Player.told" (defArgs st6) (defBody st6) (defScope st6) .none kV6 dc6 pm6 an6 cd6 ct6), sl6⟩)
    (cc6 : PySem.W.codeIn K cd6 "Player.told" = true)
    (k6 : PySem.W.keepIn K (.ref f6) = true)
    (a7 : PySem.W.findIn K (.ref C0) "play_due" = some (some (.ref f7)))
    (i7 : PySem.W.isFn K (.ref f7) = true)
    (l7 : K.lookup f7 = some ⟨oc7, od7, .func (PySem.W.fnOf "play_due" "Player.play_due" (defArgs st7) (defBody st7) (defScope st7) .none kV7 dc7 pm7 an7 cd7 ct7), sl7⟩)
    (cc7 : PySem.W.codeIn K cd7 "Player.play_due" = true)
    (k7 : PySem.W.keepIn K (.ref f7) = true)
    (a8 : PySem.W.findIn K (.ref C0) "play_lost" = some (some (.ref f8)))
    (i8 : PySem.W.isFn K (.ref f8) = true)
    (l8 : K.lookup f8 = some ⟨oc8, od8, .func (PySem.W.fnOf "play_lost" "Player.play_lost" (defArgs st8) (defBody st8) (defScope st8) .none kV8 dc8 pm8 an8 cd8 ct8), sl8⟩)
    (cc8 : PySem.W.codeIn K cd8 "Player.play_lost" = true)
    (k8 : PySem.W.keepIn K (.ref f8) = true)
    (a9 : PySem.W.findIn K (.ref C0) "take" = some (some (.ref f9)))
    (i9 : PySem.W.isFn K (.ref f9) = true)
    (l9 : K.lookup f9 = some ⟨oc9, od9, .func (PySem.W.fnOf "take" "Player.take" (defArgs st9) (defBody st9) (defScope st9) .none kV9 dc9 pm9 an9 cd9 ct9), sl9⟩)
    (cc9 : PySem.W.codeIn K cd9 "Player.take" = true)
    (k9 : PySem.W.keepIn K (.ref f9) = true)
    (a10 : PySem.W.findIn K (.ref C0) "seen" = some (some (.ref f10)))
    (i10 : PySem.W.isFn K (.ref f10) = true)
    (l10 : K.lookup f10 = some ⟨oc10, od10, .func (PySem.W.fnOf "seen" "Player.seen" (defArgs st10) (defBody st10) (defScope st10) .none kV10 dc10 pm10 an10 cd10 ct10), sl10⟩)
    (cc10 : PySem.W.codeIn K cd10 "Player.seen" = true)
    (k10 : PySem.W.keepIn K (.ref f10) = true)
    (a11 : PySem.W.findIn K (.ref C0) "waiting" = some (some (.ref f11)))
    (i11 : PySem.W.isFn K (.ref f11) = true)
    (l11 : K.lookup f11 = some ⟨oc11, od11, .func (PySem.W.fnOf "waiting" "Player.waiting" (defArgs st11) (defBody st11) (defScope st11) .none kV11 dc11 pm11 an11 cd11 ct11), sl11⟩)
    (cc11 : PySem.W.codeIn K cd11 "Player.waiting" = true)
    (k11 : PySem.W.keepIn K (.ref f11) = true)
    (a12 : PySem.W.nsIn K mainGlobals "_law_draw" = some (some (.ref f12)))
    (l12 : K.lookup f12 = some ⟨oc12, od12, .func (PySem.W.fnOf "_law_draw" "_law_draw" (defArgs st12) (defBody st12) (defScope st12) .none kV12 dc12 pm12 an12 cd12 ct12), sl12⟩)
    (cc12 : PySem.W.codeIn K cd12 "_law_draw" = true)
    (k12 : PySem.W.keepIn K (.ref f12) = true)
    (a13 : PySem.W.nsIn K mainGlobals "_law_pick" = some (some (.ref f13)))
    (l13 : K.lookup f13 = some ⟨oc13, od13, .func (PySem.W.fnOf "_law_pick" "_law_pick" (defArgs st13) (defBody st13) (defScope st13) .none kV13 dc13 pm13 an13 cd13 ct13), sl13⟩)
    (cc13 : PySem.W.codeIn K cd13 "_law_pick" = true)
    (k13 : PySem.W.keepIn K (.ref f13) = true)
    (a14 : PySem.W.nsIn K mainGlobals "_law_sounds" = some (some (.ref f14)))
    (l14 : K.lookup f14 = some ⟨oc14, od14, .func (PySem.W.fnOf "_law_sounds" "_law_sounds" (defArgs st14) (defBody st14) (defScope st14) .none kV14 dc14 pm14 an14 cd14 ct14), sl14⟩)
    (cc14 : PySem.W.codeIn K cd14 "_law_sounds" = true)
    (k14 : PySem.W.keepIn K (.ref f14) = true)
    (a15 : PySem.W.nsIn K mainGlobals "_law_deed" = some (some (.ref f15)))
    (l15 : K.lookup f15 = some ⟨oc15, od15, .func (PySem.W.fnOf "_law_deed" "_law_deed" (defArgs st15) (defBody st15) (defScope st15) .none kV15 dc15 pm15 an15 cd15 ct15), sl15⟩)
    (cc15 : PySem.W.codeIn K cd15 "_law_deed" = true)
    (k15 : PySem.W.keepIn K (.ref f15) = true)
    (a16 : PySem.W.nsIn K mainGlobals "_law_do" = some (some (.ref f16)))
    (l16 : K.lookup f16 = some ⟨oc16, od16, .func (PySem.W.fnOf "_law_do" "_law_do" (defArgs st16) (defBody st16) (defScope st16) .none kV16 dc16 pm16 an16 cd16 ct16), sl16⟩)
    (cc16 : PySem.W.codeIn K cd16 "_law_do" = true)
    (k16 : PySem.W.keepIn K (.ref f16) = true)
    (a17 : PySem.W.nsIn K mainGlobals "_law_is_refused" = some (some (.ref f17)))
    (l17 : K.lookup f17 = some ⟨oc17, od17, .func (PySem.W.fnOf "_law_is_refused" "_law_is_refused" (defArgs st17) (defBody st17) (defScope st17) .none kV17 dc17 pm17 an17 cd17 ct17), sl17⟩)
    (cc17 : PySem.W.codeIn K cd17 "_law_is_refused" = true)
    (k17 : PySem.W.keepIn K (.ref f17) = true)
    (a18 : PySem.W.nsIn K mainGlobals "law" = some (some (.ref f18)))
    (l18 : K.lookup f18 = some ⟨oc18, od18, .func (PySem.W.fnOf "law" "law" (defArgs st18) (defBody st18) (defScope st18) .none kV18 dc18 pm18 an18 cd18 ct18), sl18⟩)
    (cc18 : PySem.W.codeIn K cd18 "law" = true)
    (k18 : PySem.W.keepIn K (.ref f18) = true)
    (cm0 : PySem.W.makesIn K C0 = true)
    (g0 : PySem.W.nsIn K mainGlobals "ROUND" = some (some (.int (65536) tk0)))
    (g1 : PySem.W.nsIn K mainGlobals "HALF" = some (some (.int (32768) tk1)))
    (g2 : PySem.W.nsIn K mainGlobals "LOST_MOST" = some (some (.int (3) tk2)))
    (xa0 : PySem.W.nsIn K mainGlobals "RoadError" = some (some (.ref X0)))
    (xk0 : PySem.W.keepIn K (.ref X0) = true)
    (xb0 : PySem.W.subIn K (.ref X0) (.type "BaseException") = some true)
    (xt0 : PySem.W.typeIn K (.ref X0) = some (.type "type"))
    (xi0 : PySem.W.isClsIn K X0 = true)
    (xe0 : PySem.W.excIn K X0 [.type "ValueError", .type "Exception", .type "BaseException", .type "object"] "ValueError.__new__" = true)
    (xa1 : PySem.W.nsIn K mainGlobals "BadSounds" = some (some (.ref X1)))
    (xk1 : PySem.W.keepIn K (.ref X1) = true)
    (xb1 : PySem.W.subIn K (.ref X1) (.type "BaseException") = some true)
    (xt1 : PySem.W.typeIn K (.ref X1) = some (.type "type"))
    (xi1 : PySem.W.isClsIn K X1 = true)
    (xe1 : PySem.W.excIn K X1 [.type "ValueError", .type "Exception", .type "BaseException", .type "object"] "ValueError.__new__" = true)
    (xs0_0 : PySem.W.subIn K (.ref X0) (.ref X0) = some true)
    (xs0_1 : PySem.W.subIn K (.ref X0) (.ref X1) = some false)
    (xs1_0 : PySem.W.subIn K (.ref X1) (.ref X0) = some true)
    (xs1_1 : PySem.W.subIn K (.ref X1) (.ref X1) = some true)
    (z0 : PySem.W.nsIn K mainGlobals "len" = some none)
    (z1 : PySem.W.nsIn K mainGlobals "sum" = some none)
    (z2 : PySem.W.nsIn K mainGlobals "all" = some none)
    (z3 : PySem.W.nsIn K mainGlobals "any" = some none)
    (z4 : PySem.W.nsIn K mainGlobals "abs" = some none)
    (z5 : PySem.W.nsIn K mainGlobals "tuple" = some none)
    (z6 : PySem.W.nsIn K mainGlobals "sorted" = some none)
    (z7 : PySem.W.nsIn K mainGlobals "min" = some none)
    (z8 : PySem.W.nsIn K mainGlobals "max" = some none)
    (z9 : PySem.W.nsIn K mainGlobals "int" = some none)
    (z10 : PySem.W.nsIn K mainGlobals "isinstance" = some none)
    (z11 : PySem.W.nsIn K mainGlobals "range" = some none)
    (z12 : PySem.W.nsIn K mainGlobals "enumerate" = some none)
    (z13 : PySem.W.nsIn K mainGlobals "zip" = some none)
    (z14 : PySem.W.nsIn K mainGlobals "list" = some none)
    (z15 : PySem.W.nsIn K mainGlobals "bool" = some none)
    (z16 : PySem.W.nsIn K mainGlobals "str" = some none)
    (z17 : PySem.W.nsIn K mainGlobals "dict" = some none)
    (z18 : PySem.W.nsIn K mainGlobals "set" = some none)
    (z19 : PySem.W.nsIn K mainGlobals "ValueError" = some none)
    (z20 : PySem.W.nsIn K mainGlobals "repr" = some none)
    (hlaw : ∀ ns : List Int, ns.length ≤ 63 → callN T 20 18 [.scr (ns.map D.int)] [] (fun d _ => d = .bl true) (fun _ _ => False)) :
    ∃ fd : FuncData, (∀ (s : Shared) (v : Value), BindsTo s fd ⟨[v], []⟩ [("_law_script", v)]) ∧ ∀ base : Heap, K.In base → base.Ns mainGlobals mg → FnOk l.prog w K mg base (L2N.CX l.prog w) (2 * 20) fa fd ["_law_script"] (spLaw K 63) := by
  have e := hfa.symm.trans (PySem.W.mg_of KX G a18)
  obtain rfl : f18 = fa := by cases e; rfl
  let u : At := ⟨K, fun i => [f0, f1, f2, f3, f4, f5, f6, f7, f8, f9, f10, f11, f12, f13, f14, f15, f16, f17, f18].getD i 0, fun i => [C0].getD i 0, fun i => [X0, X1].getD i X0⟩
  have F0 := fun_mk (st := st0) l0 cc0 k0
  have b0 := F0.binds (ps := ["last", "short"]) fun _ _ _ _ _ _ us hl => match us, hl with | [_, _], _ => rfl
  have F1 := fun_mk (st := st1) l1 cc1 k1
  have b1 := F1.binds (ps := ["one", "two"]) fun _ _ _ _ _ _ us hl => match us, hl with | [_, _], _ => rfl
  have F2 := fun_mk (st := st2) l2 cc2 k2
  have b2 := F2.binds (ps := ["sounds"]) fun _ _ _ _ _ _ us hl => match us, hl with | [_], _ => rfl
  have F3 := fun_mk (st := st3) l3 cc3 k3
  have b3 := F3.binds (ps := ["self", "size", "first", "most"]) fun _ _ _ _ _ _ us hl => match us, hl with | [_, _, _, _], _ => rfl
  have F4 := fun_mk (st := st4) l4 cc4 k4
  have b4 := F4.binds (ps := ["self", "word"]) fun _ _ _ _ _ _ us hl => match us, hl with | [_, _], _ => rfl
  have F5 := fun_mk (st := st5) l5 cc5 k5
  have b5 := F5.binds (ps := ["self", "short", "sounds"]) fun _ _ _ _ _ _ us hl => match us, hl with | [_, _, _], _ => rfl
  have F6 := fun_mk (st := st6) l6 cc6 k6
  have b6 := F6.binds (ps := ["self", "sounds"]) fun _ _ _ _ _ _ us hl => match us, hl with | [_, _], _ => rfl
  have F7 := fun_mk (st := st7) l7 cc7 k7
  have b7 := F7.binds (ps := ["self"]) fun _ _ _ _ _ _ us hl => match us, hl with | [_], _ => rfl
  have F8 := fun_mk (st := st8) l8 cc8 k8
  have b8 := F8.binds (ps := ["self"]) fun _ _ _ _ _ _ us hl => match us, hl with | [_], _ => rfl
  have F9 := fun_mk (st := st9) l9 cc9 k9
  have b9 := F9.binds (ps := ["self"]) fun _ _ _ _ _ _ us hl => match us, hl with | [_], _ => rfl
  have F10 := fun_mk (st := st10) l10 cc10 k10
  have b10 := F10.binds (ps := ["self"]) fun _ _ _ _ _ _ us hl => match us, hl with | [_], _ => rfl
  have F11 := fun_mk (st := st11) l11 cc11 k11
  have b11 := F11.binds (ps := ["self"]) fun _ _ _ _ _ _ us hl => match us, hl with | [_], _ => rfl
  have F12 := fun_mk (st := st12) l12 cc12 k12
  have b12 := F12.binds (ps := ["_law_script", "_law_town", "_law_many"]) fun _ _ _ _ _ _ us hl => match us, hl with | [_, _, _], _ => rfl
  have F13 := fun_mk (st := st13) l13 cc13 k13
  have b13 := F13.binds (ps := ["_law_script", "_law_town", "_law_some"]) fun _ _ _ _ _ _ us hl => match us, hl with | [_, _, _], _ => rfl
  have F14 := fun_mk (st := st14) l14 cc14 k14
  have b14 := F14.binds (ps := ["_law_script", "_law_town", "_law_size"]) fun _ _ _ _ _ _ us hl => match us, hl with | [_, _, _], _ => rfl
  have F15 := fun_mk (st := st15) l15 cc15 k15
  have b15 := F15.binds (ps := ["_law_script", "_law_town", "_law_here", "_law_size"]) fun _ _ _ _ _ _ us hl => match us, hl with | [_, _, _, _], _ => rfl
  have F16 := fun_mk (st := st16) l16 cc16 k16
  have b16 := F16.binds (ps := ["_law_player", "_law_deed_here"]) fun _ _ _ _ _ _ us hl => match us, hl with | [_, _], _ => rfl
  have F17 := fun_mk (st := st17) l17 cc17 k17
  have b17 := F17.binds (ps := ["_law_script", "_law_town", "_law_player", "_law_size", "_law_here"]) fun _ _ _ _ _ _ us hl => match us, hl with | [_, _, _, _, _], _ => rfl
  have F18 := fun_mk (st := st18) l18 cc18 k18
  have b18 := F18.binds (ps := ["_law_script"]) fun _ _ _ _ _ _ us hl => match us, hl with | [_], _ => rfl
  have fac : Fac tb u mg := {
    txt := txt_of (by decide +kernel)
    gi := fun g x i hh => allI_get0 (P := fun _ p => ∃ tk, mg p.1 = some (.int p.2 tk)) (l := tb.gis) ⟨⟨_, PySem.W.mg_of KX G g0⟩, ⟨_, PySem.W.mg_of KX G g1⟩, ⟨_, PySem.W.mg_of KX G g2⟩, trivial⟩ hh
    fn := fun f x ps hh => allI_get0 (P := fun f p => tb.mth.lookup f = none → mg p.1 = some (.ref (u.fa f)) ∧ PySem.W.keepIn u.K (.ref (u.fa f)) = true) (l := tb.fns) ⟨fun _ => ⟨PySem.W.mg_of KX G a0, k0⟩, fun _ => ⟨PySem.W.mg_of KX G a1, k1⟩, fun _ => ⟨PySem.W.mg_of KX G a2, k2⟩, fun e => (by cases e), fun e => (by cases e), fun e => (by cases e), fun e => (by cases e), fun e => (by cases e), fun e => (by cases e), fun e => (by cases e), fun e => (by cases e), fun e => (by cases e), fun _ => ⟨PySem.W.mg_of KX G a12, k12⟩, fun _ => ⟨PySem.W.mg_of KX G a13, k13⟩, fun _ => ⟨PySem.W.mg_of KX G a14, k14⟩, fun _ => ⟨PySem.W.mg_of KX G a15, k15⟩, fun _ => ⟨PySem.W.mg_of KX G a16, k16⟩, fun _ => ⟨PySem.W.mg_of KX G a17, k17⟩, fun _ => ⟨PySem.W.mg_of KX G a18, k18⟩, trivial⟩ hh
    mt := fun f x ps cl hh => allI_get0 (P := fun f p => ∀ cl, tb.mth.lookup f = some cl → Cls u.K (u.ca cl) ∧ Meth u.K (u.ca cl) p.1 (u.fa f) ∧ ∀ nm, tb.fld[cl]? = some nm → p.1 ∉ nm) (l := tb.fns) ⟨fun c e => (by cases e), fun c e => (by cases e), fun c e => (by cases e), fun c e => (by obtain rfl : 0 = c := Option.some.inj e; exact ⟨⟨cp0, ch0, co0, cs0⟩, ⟨a3, i3, k3⟩, fun nm e => (by obtain rfl := Option.some.inj e; decide +kernel)⟩), fun c e => (by obtain rfl : 0 = c := Option.some.inj e; exact ⟨⟨cp0, ch0, co0, cs0⟩, ⟨a4, i4, k4⟩, fun nm e => (by obtain rfl := Option.some.inj e; decide +kernel)⟩), fun c e => (by obtain rfl : 0 = c := Option.some.inj e; exact ⟨⟨cp0, ch0, co0, cs0⟩, ⟨a5, i5, k5⟩, fun nm e => (by obtain rfl := Option.some.inj e; decide +kernel)⟩), fun c e => (by obtain rfl : 0 = c := Option.some.inj e; exact ⟨⟨cp0, ch0, co0, cs0⟩, ⟨a6, i6, k6⟩, fun nm e => (by obtain rfl := Option.some.inj e; decide +kernel)⟩), fun c e => (by obtain rfl : 0 = c := Option.some.inj e; exact ⟨⟨cp0, ch0, co0, cs0⟩, ⟨a7, i7, k7⟩, fun nm e => (by obtain rfl := Option.some.inj e; decide +kernel)⟩), fun c e => (by obtain rfl : 0 = c := Option.some.inj e; exact ⟨⟨cp0, ch0, co0, cs0⟩, ⟨a8, i8, k8⟩, fun nm e => (by obtain rfl := Option.some.inj e; decide +kernel)⟩), fun c e => (by obtain rfl : 0 = c := Option.some.inj e; exact ⟨⟨cp0, ch0, co0, cs0⟩, ⟨a9, i9, k9⟩, fun nm e => (by obtain rfl := Option.some.inj e; decide +kernel)⟩), fun c e => (by obtain rfl : 0 = c := Option.some.inj e; exact ⟨⟨cp0, ch0, co0, cs0⟩, ⟨a10, i10, k10⟩, fun nm e => (by obtain rfl := Option.some.inj e; decide +kernel)⟩), fun c e => (by obtain rfl : 0 = c := Option.some.inj e; exact ⟨⟨cp0, ch0, co0, cs0⟩, ⟨a11, i11, k11⟩, fun nm e => (by obtain rfl := Option.some.inj e; decide +kernel)⟩), fun c e => (by cases e), fun c e => (by cases e), fun c e => (by cases e), fun c e => (by cases e), fun c e => (by cases e), fun c e => (by cases e), fun c e => (by cases e), trivial⟩ hh cl
    bl := allI_mem (P := fun x => mg x = none) ⟨PySem.W.mg_none_of KX G z0, PySem.W.mg_none_of KX G z1, PySem.W.mg_none_of KX G z2, PySem.W.mg_none_of KX G z3, PySem.W.mg_none_of KX G z4, PySem.W.mg_none_of KX G z5, PySem.W.mg_none_of KX G z6, PySem.W.mg_none_of KX G z7, PySem.W.mg_none_of KX G z8, PySem.W.mg_none_of KX G z9, PySem.W.mg_none_of KX G z10, PySem.W.mg_none_of KX G z11, PySem.W.mg_none_of KX G z12, PySem.W.mg_none_of KX G z13, PySem.W.mg_none_of KX G z14, PySem.W.mg_none_of KX G z15, PySem.W.mg_none_of KX G z16, PySem.W.mg_none_of KX G z17, PySem.W.mg_none_of KX G z18, PySem.W.mg_none_of KX G z19, PySem.W.mg_none_of KX G z20, trivial⟩
    cl := fun c x hh => allI_get0 (P := fun c x => mg x = some (.ref (u.ca c))) (l := tb.cls) ⟨PySem.W.mg_of KX G ca0, trivial⟩ hh
    ini := fun cl f ps h1 h2 => allI_get0 (P := fun f p => ∀ cl, tb.mth.lookup f = some cl → p.1 = ("__init__" : Str) → Mk u.K (u.ca cl) (u.fa f)) (l := tb.fns) ⟨fun c e e2 => (by first | exact absurd e2 (by decide +kernel) | cases e), fun c e e2 => (by first | exact absurd e2 (by decide +kernel) | cases e), fun c e e2 => (by first | exact absurd e2 (by decide +kernel) | cases e), fun c e _ => (by obtain rfl : 0 = c := Option.some.inj e; exact ⟨cm0, a3, i3, ck0⟩), fun c e e2 => (by first | exact absurd e2 (by decide +kernel) | cases e), fun c e e2 => (by first | exact absurd e2 (by decide +kernel) | cases e), fun c e e2 => (by first | exact absurd e2 (by decide +kernel) | cases e), fun c e e2 => (by first | exact absurd e2 (by decide +kernel) | cases e), fun c e e2 => (by first | exact absurd e2 (by decide +kernel) | cases e), fun c e e2 => (by first | exact absurd e2 (by decide +kernel) | cases e), fun c e e2 => (by first | exact absurd e2 (by decide +kernel) | cases e), fun c e e2 => (by first | exact absurd e2 (by decide +kernel) | cases e), fun c e e2 => (by first | exact absurd e2 (by decide +kernel) | cases e), fun c e e2 => (by first | exact absurd e2 (by decide +kernel) | cases e), fun c e e2 => (by first | exact absurd e2 (by decide +kernel) | cases e), fun c e e2 => (by first | exact absurd e2 (by decide +kernel) | cases e), fun c e e2 => (by first | exact absurd e2 (by decide +kernel) | cases e), fun c e e2 => (by first | exact absurd e2 (by decide +kernel) | cases e), fun c e e2 => (by first | exact absurd e2 (by decide +kernel) | cases e), trivial⟩ h2 cl h1 rfl
    exg := fun c x hh => allI_get0 (P := fun c x => mg x = some (.ref (u.ea c)) ∧ PySem.W.keepIn u.K (.ref (u.ea c)) = true ∧ PySem.W.subIn u.K (.ref (u.ea c)) (.type "BaseException") = some true ∧ PySem.W.typeIn u.K (.ref (u.ea c)) = some (.type "type") ∧
      (∃ B newId initId bmB, ExcBaseFacts B newId initId bmB ∧ PySem.W.excIn u.K (u.ea c) bmB newId = true) ∧ ∀ c', PySem.W.exmOne u.K (.ref (u.ea c')) (.ref (u.ea c)) = some (sub c' c)) (l := tb.exs) ⟨⟨PySem.W.mg_of KX G xa0, xk0, xb0, xt0, ⟨_, _, _, _, PySem.F.excBase_ValueError, xe0⟩, fun c' => match c' with | 0 => exm_of xb0 xi0 xt0 xs0_0 | 1 => exm_of xb0 xi0 xt0 xs1_0 | _ + 2 => exm_of xb0 xi0 xt0 xs0_0⟩, ⟨PySem.W.mg_of KX G xa1, xk1, xb1, xt1, ⟨_, _, _, _, PySem.F.excBase_ValueError, xe1⟩, fun c' => match c' with | 0 => exm_of xb1 xi1 xt1 xs0_1 | 1 => exm_of xb1 xi1 xt1 xs1_1 | _ + 2 => exm_of xb1 xi1 xt1 xs0_1⟩, trivial⟩ hh
    fld := fun cl nm hh => allI_get0 (P := fun cl nm => Cls u.K (u.ca cl) ∧ nm.Nodup ∧ nm.length < 1000 ∧ ∀ x ∈ nm, NoAttr u.K (u.ca cl) x) (l := tb.fld) ⟨⟨⟨cp0, ch0, co0, cs0⟩, by decide +kernel, by decide +kernel, allI_mem (P := fun x => NoAttr K C0 x) ⟨cf0_0, cf0_1, cf0_2, cf0_3, cf0_4, cf0_5, cf0_6, cf0_7, cf0_8, cf0_9, cf0_10, trivial⟩⟩, trivial⟩ hh }
  have hd : ∀ f x ps, tb.fns[f]? = some (x, ps) → ∃ fd, DefK u.K tb u T f x ps fd := fun f x ps hh => allI_get0 (P := fun f p => ∃ fd, DefK u.K tb u T f p.1 p.2 fd) (l := tb.fns) ⟨⟨_, ⟨⟨d0, N0, st0, "near", "near", rfl, c0, F0⟩, b0⟩⟩, ⟨_, ⟨⟨d1, N1, st1, "blended", "blended", rfl, c1, F1⟩, b1⟩⟩, ⟨_, ⟨⟨d2, N2, st2, "fainter", "fainter", rfl, c2, F2⟩, b2⟩⟩, ⟨_, ⟨⟨d3, N3, st3, "__init__", "Player.__init__", rfl, c3, F3⟩, b3⟩⟩, ⟨_, ⟨⟨d4, N4, st4, "count", "Player.count", rfl, c4, F4⟩, b4⟩⟩, ⟨_, ⟨⟨d5, N5, st5, "put", "Player.put", rfl, c5, F5⟩, b5⟩⟩, ⟨_, ⟨⟨d6, N6, st6, "told", "Player.told", rfl, c6, F6⟩, b6⟩⟩, ⟨_, ⟨⟨d7, N7, st7, "play_due", "Player.play_due", rfl, c7, F7⟩, b7⟩⟩, ⟨_, ⟨⟨d8, N8, st8, "play_lost", "Player.play_lost", rfl, c8, F8⟩, b8⟩⟩, ⟨_, ⟨⟨d9, N9, st9, "take", "Player.take", rfl, c9, F9⟩, b9⟩⟩, ⟨_, ⟨⟨d10, N10, st10, "seen", "Player.seen", rfl, c10, F10⟩, b10⟩⟩, ⟨_, ⟨⟨d11, N11, st11, "waiting", "Player.waiting", rfl, c11, F11⟩, b11⟩⟩, ⟨_, ⟨⟨d12, N12, st12, "_law_draw", "_law_draw", rfl, c12, F12⟩, b12⟩⟩, ⟨_, ⟨⟨d13, N13, st13, "_law_pick", "_law_pick", rfl, c13, F13⟩, b13⟩⟩, ⟨_, ⟨⟨d14, N14, st14, "_law_sounds", "_law_sounds", rfl, c14, F14⟩, b14⟩⟩, ⟨_, ⟨⟨d15, N15, st15, "_law_deed", "_law_deed", rfl, c15, F15⟩, b15⟩⟩, ⟨_, ⟨⟨d16, N16, st16, "_law_do", "_law_do", rfl, c16, F16⟩, b16⟩⟩, ⟨_, ⟨⟨d17, N17, st17, "_law_is_refused", "_law_is_refused", rfl, c17, F17⟩, b17⟩⟩, ⟨_, ⟨⟨d18, N18, st18, "law", "law", rfl, c18, F18⟩, b18⟩⟩, trivial⟩ hh
  have hHot : ∀ base : Heap, ∀ (h : Nat) (x : Str) (tab : List D), tb.hot[h]? = some (x, tab) → ∃ (f : Addr) (fd : FuncData) (ps : List Str), FnX l.prog w u.K mg base (L2N.CX l.prog w) 1 f fd ps (spX tb u tab) ∧ Binds u.K fd ps [] ∧ mg x = some (.ref f) ∧ PySem.W.keepIn u.K (.ref f) = true := fun base h x tab hh =>
    allI_get0 (P := fun _ (p : Str × List D) => ∃ (f : Addr) (fd : FuncData) (ps : List Str), FnX l.prog w u.K mg base (L2N.CX l.prog w) 1 f fd ps (spX tb u p.2) ∧ Binds u.K fd ps [] ∧ mg p.1 = some (.ref f) ∧ PySem.W.keepIn u.K (.ref f) = true) (l := tb.hot) trivial hh
  refine ⟨_, fun s v => .of_eq rfl, fun base _ _ => (defs_ok fac hd (hHot base) (hs_of (by decide +kernel)) 20 18 "law" ["_law_script"] _ rfl ⟨⟨d18, N18, st18, "law", "law", rfl, c18, F18⟩, b18⟩).imp (law_imp (u := u) hlaw)⟩
end Z.Law
open PySem PySem.W PyProof.Rows
set_option maxHeartbeats 0 in
theorem PySem.Challenge.cw_soundroad_k28_whole_twin_players_holds : PySem.Challenge.rw_soundroad_k28_whole_twin_players.Holds := by
  w_on; o_law; k_head; (case hw => w_witness2)
  k_fill
  refine L2.walk_of (l := PySem.Challenge.rw_soundroad_k28_whole_twin_players) (n := 63) (k := 2 * 20) (x := "_law_script") (CX := fun w => L2N.CX PySem.Challenge.rw_soundroad_k28_whole_twin_players.prog w) (sp := fun w => Z.spLaw _ 63) rfl (by decide) rfl ⟨rfl, by decide, by decide⟩ (fun w h Y => PySem.W.kIn_of Y) ?F (fun _ H a ns hl _ hS => Z.spLaw_of H a ns hl hS) (fun _ _ _ _ _ h => Z.law_cx h)
  case F =>
    intro w mg fa h KX G hmg
    refine' Z.Law.all_mk KX G hmg ?yy_ca0 ?yy_ck0 ?yy_cp0 ?yy_ch0 ?yy_co0 ?yy_cs0 ?yy_cf0_0 ?yy_cf0_1 ?yy_cf0_2 ?yy_cf0_3 ?yy_cf0_4 ?yy_cf0_5 ?yy_cf0_6 ?yy_cf0_7 ?yy_cf0_8 ?yy_cf0_9 ?yy_cf0_10 ?yy_a0 ?yy_l0 ?yy_cc0 ?yy_k0 ?yy_a1 ?yy_l1 ?yy_cc1 ?yy_k1 ?yy_a2 ?yy_l2 ?yy_cc2 ?yy_k2 ?yy_a3 ?yy_i3 ?yy_l3 ?yy_cc3 ?yy_k3 ?yy_a4 ?yy_i4 ?yy_l4 ?yy_cc4 ?yy_k4 ?yy_a5 ?yy_i5 ?yy_l5 ?yy_cc5 ?yy_k5 ?yy_a6 ?yy_i6 ?yy_l6 ?yy_cc6 ?yy_k6 ?yy_a7 ?yy_i7 ?yy_l7 ?yy_cc7 ?yy_k7 ?yy_a8 ?yy_i8 ?yy_l8 ?yy_cc8 ?yy_k8 ?yy_a9 ?yy_i9 ?yy_l9 ?yy_cc9 ?yy_k9 ?yy_a10 ?yy_i10 ?yy_l10 ?yy_cc10 ?yy_k10 ?yy_a11 ?yy_i11 ?yy_l11 ?yy_cc11 ?yy_k11 ?yy_a12 ?yy_l12 ?yy_cc12 ?yy_k12 ?yy_a13 ?yy_l13 ?yy_cc13 ?yy_k13 ?yy_a14 ?yy_l14 ?yy_cc14 ?yy_k14 ?yy_a15 ?yy_l15 ?yy_cc15 ?yy_k15 ?yy_a16 ?yy_l16 ?yy_cc16 ?yy_k16 ?yy_a17 ?yy_l17 ?yy_cc17 ?yy_k17 ?yy_a18 ?yy_l18 ?yy_cc18 ?yy_k18 ?yy_cm0 ?yy_g0 ?yy_g1 ?yy_g2 ?yy_xa0 ?yy_xk0 ?yy_xb0 ?yy_xt0 ?yy_xi0 ?yy_xe0 ?yy_xa1 ?yy_xk1 ?yy_xb1 ?yy_xt1 ?yy_xi1 ?yy_xe1 ?yy_xs0_0 ?yy_xs0_1 ?yy_xs1_0 ?yy_xs1_1 ?yy_z0 ?yy_z1 ?yy_z2 ?yy_z3 ?yy_z4 ?yy_z5 ?yy_z6 ?yy_z7 ?yy_z8 ?yy_z9 ?yy_z10 ?yy_z11 ?yy_z12 ?yy_z13 ?yy_z14 ?yy_z15 ?yy_z16 ?yy_z17 ?yy_z18 ?yy_z19 ?yy_z20 Z.Law.law_ok
    (case yy_ca0 => k_is); (case yy_ck0 => k_is); (case yy_cp0 => k_is); (case yy_ch0 => k_is); (case yy_co0 => k_is); (case yy_cs0 => k_is); (case yy_cf0_0 => k_is); (case yy_cf0_1 => k_is); (case yy_cf0_2 => k_is); (case yy_cf0_3 => k_is); (case yy_cf0_4 => k_is); (case yy_cf0_5 => k_is); (case yy_cf0_6 => k_is); (case yy_cf0_7 => k_is); (case yy_cf0_8 => k_is); (case yy_cf0_9 => k_is); (case yy_cf0_10 => k_is); (case yy_a0 => k_is); (case yy_l0 => k_is); (case yy_cc0 => k_is); (case yy_k0 => k_is); (case yy_a1 => k_is); (case yy_l1 => k_is); (case yy_cc1 => k_is); (case yy_k1 => k_is); (case yy_a2 => k_is); (case yy_l2 => k_is); (case yy_cc2 => k_is); (case yy_k2 => k_is); (case yy_a3 => k_is); (case yy_i3 => k_is); (case yy_l3 => k_is); (case yy_cc3 => k_is); (case yy_k3 => k_is); (case yy_a4 => k_is); (case yy_i4 => k_is); (case yy_l4 => k_is); (case yy_cc4 => k_is); (case yy_k4 => k_is); (case yy_a5 => k_is); (case yy_i5 => k_is); (case yy_l5 => k_is); (case yy_cc5 => k_is); (case yy_k5 => k_is); (case yy_a6 => k_is); (case yy_i6 => k_is); (case yy_l6 => k_is); (case yy_cc6 => k_is); (case yy_k6 => k_is); (case yy_a7 => k_is); (case yy_i7 => k_is); (case yy_l7 => k_is); (case yy_cc7 => k_is); (case yy_k7 => k_is); (case yy_a8 => k_is); (case yy_i8 => k_is); (case yy_l8 => k_is); (case yy_cc8 => k_is); (case yy_k8 => k_is); (case yy_a9 => k_is); (case yy_i9 => k_is); (case yy_l9 => k_is); (case yy_cc9 => k_is); (case yy_k9 => k_is); (case yy_a10 => k_is); (case yy_i10 => k_is); (case yy_l10 => k_is); (case yy_cc10 => k_is); (case yy_k10 => k_is); (case yy_a11 => k_is); (case yy_i11 => k_is); (case yy_l11 => k_is); (case yy_cc11 => k_is); (case yy_k11 => k_is); (case yy_a12 => k_is); (case yy_l12 => k_is); (case yy_cc12 => k_is); (case yy_k12 => k_is); (case yy_a13 => k_is); (case yy_l13 => k_is); (case yy_cc13 => k_is); (case yy_k13 => k_is); (case yy_a14 => k_is); (case yy_l14 => k_is); (case yy_cc14 => k_is); (case yy_k14 => k_is); (case yy_a15 => k_is); (case yy_l15 => k_is); (case yy_cc15 => k_is); (case yy_k15 => k_is); (case yy_a16 => k_is); (case yy_l16 => k_is); (case yy_cc16 => k_is); (case yy_k16 => k_is); (case yy_a17 => k_is); (case yy_l17 => k_is); (case yy_cc17 => k_is); (case yy_k17 => k_is); (case yy_a18 => k_is); (case yy_l18 => k_is); (case yy_cc18 => k_is); (case yy_k18 => k_is); (case yy_cm0 => k_is); (case yy_g0 => k_is); (case yy_g1 => k_is); (case yy_g2 => k_is); (case yy_xa0 => k_is); (case yy_xk0 => k_is); (case yy_xb0 => k_is); (case yy_xt0 => k_is); (case yy_xi0 => k_is); (case yy_xe0 => k_exc); (case yy_xa1 => k_is); (case yy_xk1 => k_is); (case yy_xb1 => k_is); (case yy_xt1 => k_is); (case yy_xi1 => k_is); (case yy_xe1 => k_exc); (case yy_xs0_0 => k_is); (case yy_xs0_1 => k_is); (case yy_xs1_0 => k_is); (case yy_xs1_1 => k_is); (case yy_z0 => k_is); (case yy_z1 => k_is); (case yy_z2 => k_is); (case yy_z3 => k_is); (case yy_z4 => k_is); (case yy_z5 => k_is); (case yy_z6 => k_is); (case yy_z7 => k_is); (case yy_z8 => k_is); (case yy_z9 => k_is); (case yy_z10 => k_is); (case yy_z11 => k_is); (case yy_z12 => k_is); (case yy_z13 => k_is); (case yy_z14 => k_is); (case yy_z15 => k_is); (case yy_z16 => k_is); (case yy_z17 => k_is); (case yy_z18 => k_is); (case yy_z19 => k_is); (case yy_z20 => k_is)
