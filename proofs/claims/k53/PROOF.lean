import PyProof.Rows.All
import Wide.All
import OpenK.AllK
import Wide.FinOn
import HandS.ForMost
import HandS.Exc
import HandS.TryOnly
import HandS.ExcOwn
import HandS.CallSlots
import HandS.WordsExc
import HandS.Wide
import HandS.Conv
import HandS.Flow
import HandS.IsInst
import HandS.Defaults
import HandS.TupAny
import HandS.Deep
import KE.SortData
import KE.SortLaws
import PySem.Challenge.RW_madeahead_k53_worlds_listed
set_option autoImplicit false
set_option Elab.async false
set_option linter.all false
set_option maxRecDepth 100000
set_option maxHeartbeats 4000000
/-! The small machine: values, objects, code, and what code does. -/
namespace Vm
open PySem

/-- a value: tuples, texts and a list that is only read by what they hold, lists and objects by their place in the store -/
inductive D where
  | non | bl (b : Bool) | int (i : Int) | str (s : List Nat) | tup (xs : List D) | rol (xs : List D) | ref (i : Nat) | cls (c : Nat)
  deriving Inhabited, Repr

mutual
def D.beq : D → D → Bool
  | .non, .non => true
  | .bl a, .bl b => a == b
  | .int a, .int b => a == b
  | .str a, .str b => a == b
  | .tup a, .tup b => D.beqs a b
  | .rol a, .rol b => D.beqs a b
  | .ref a, .ref b => a == b
  | .cls a, .cls b => a == b
  | _, _ => false
def D.beqs : List D → List D → Bool
  | [], [] => true
  | a :: as, b :: bs => D.beq a b && D.beqs as bs
  | _, _ => false
end
mutual
theorem D.of_beq : ∀ {a b : D}, D.beq a b = true → a = b
  | .non, b, h => by cases b <;> simp [D.beq] at h <;> rfl
  | .bl _, b, h => by cases b <;> simp [D.beq] at h <;> rw [h]
  | .int _, b, h => by cases b <;> simp [D.beq] at h <;> rw [h]
  | .str _, b, h => by cases b <;> simp [D.beq] at h <;> rw [h]
  | .tup xs, b, h => by
    cases b with
    | tup ys => simp only [D.beq] at h; rw [D.of_beqs h]
    | _ => simp [D.beq] at h
  | .rol xs, b, h => by
    cases b with
    | rol ys => simp only [D.beq] at h; rw [D.of_beqs h]
    | _ => simp [D.beq] at h
  | .ref _, b, h => by cases b <;> simp [D.beq] at h <;> rw [h]
  | .cls _, b, h => by cases b <;> simp [D.beq] at h <;> rw [h]
theorem D.of_beqs : ∀ {a b : List D}, D.beqs a b = true → a = b
  | [], b, h => by cases b <;> simp [D.beqs] at h <;> rfl
  | x :: xs, b, h => by
    cases b with
    | nil => simp [D.beqs] at h
    | cons y ys =>
      simp only [D.beqs, Bool.and_eq_true] at h
      rw [D.of_beq h.1, D.of_beqs h.2]
end
mutual
theorem D.beq_self : ∀ a : D, D.beq a a = true
  | .non => rfl
  | .bl _ => by simp [D.beq]
  | .int _ => by simp [D.beq]
  | .str _ => by simp [D.beq]
  | .tup xs => by simp only [D.beq]; exact D.beqs_self xs
  | .rol xs => by simp only [D.beq]; exact D.beqs_self xs
  | .ref _ => by simp [D.beq]
  | .cls _ => by simp [D.beq]
theorem D.beqs_self : ∀ a : List D, D.beqs a a = true
  | [] => rfl
  | x :: xs => by simp only [D.beqs, Bool.and_eq_true]; exact ⟨D.beq_self x, D.beqs_self xs⟩
end
instance : DecidableEq D := fun a b => if h : D.beq a b = true then .isTrue (D.of_beq h) else .isFalse fun e => h (e ▸ D.beq_self a)

/-- what stands in the store: a list, an instance, a dict, a set -/
inductive Ob where
  | lst (xs : List D) | ins (c : Nat) (fs : List (Nat × D)) | dct (kvs : List (D × D)) | set (xs : List D)
  deriving Inhabited, Repr
def Ob.isLst : Ob → List D → Bool
  | .lst xs, ys => D.beqs xs ys
  | _, _ => false

abbrev Sl := List (Option D)
abbrev Sto := List Ob
/-- the items of a list at i -/
def Sto.l (S : Sto) (i : Nat) : Option (List D) :=
  match S[i]? with
  | some (.lst xs) => some xs
  | _ => none

inductive Res where
  | val (ds : List D) (S : Sto)
  | nx (σ : Sl) (S : Sto) | rt (d : D) (S : Sto) | bk (σ : Sl) (S : Sto) | ct (σ : Sl) (S : Sto)
  | exc (c : Nat) (fs : List (Nat × D)) (σ : Sl) (S : Sto)
  | bad
  deriving Inhabited, Repr

/-- a value, then k -/
def b1 (σ : Sl) (r : Res) (k : D → Sto → Res) : Res :=
  match r with
  | .val [d] S => k d S
  | .exc c fs _ S => .exc c fs σ S
  | _ => .bad
/-- values, then k -/
def bv (σ : Sl) (r : Res) (k : List D → Sto → Res) : Res :=
  match r with
  | .val ds S => k ds S
  | .exc c fs _ S => .exc c fs σ S
  | _ => .bad
/-- a statement, then k -/
def bn (r : Res) (k : Sl → Sto → Res) : Res :=
  match r with
  | .nx σ S => k σ S
  | r => r

/-- a target's end, then k -/
def bg (r : Res) (k : Sl → Sto → Res) : Res :=
  match r with
  | .nx σ S => k σ S
  | _ => .bad
/-- a turn of a loop, then k -/
def turnR (r : Res) (k : Sl → Sto → Res) : Res :=
  match r with
  | .nx σ S => k σ S
  | .ct σ S => k σ S
  | .bk σ S => .nx σ S
  | .rt d S => .rt d S
  | .exc c fs σ S => .exc c fs σ S
  | _ => .bad

abbrev SL : Nat := 16777216

/-! ### plain data -/
def mapO {α β : Type} (f : α → Option β) : List α → Option (List β)
  | [] => some []
  | x :: xs => match f x with
    | some p => match mapO f xs with
      | some q => some (p :: q)
      | none => none
    | none => none
/-- what a value reads as; the number bounds the depth -/
def pd (S : Sto) : Nat → D → Option PyData
  | 0 => fun d => match d with
    | .non => some .none
    | .bl b => some (.bool b)
    | .int i => some (.int i)
    | .str s => some (.str ⟨s.toArray⟩)
    | _ => none
  | n + 1 => fun d => match d with
    | .non => some .none
    | .bl b => some (.bool b)
    | .int i => some (.int i)
    | .str s => some (.str ⟨s.toArray⟩)
    | .tup xs => match mapO (pd S n) xs with
      | some ps => some (.tuple ps)
      | none => none
    | .rol xs => match mapO (pd S n) xs with
      | some ps => some (.list ps)
      | none => none
    | .ref i => match S.l i with
      | some xs => match mapO (pd S n) xs with
        | some ps => some (.list ps)
        | none => none
      | none => none
    | .cls _ => none
def pds (S : Sto) (n : Nat) (xs : List D) : Option (List PyData) := mapO (pd S n) xs
section
variable {S : Sto} {n : Nat}
theorem pd_non : pd S n .non = some .none := by cases n <;> rfl
theorem pd_bl {b : Bool} : pd S n (.bl b) = some (.bool b) := by cases n <;> rfl
theorem pd_int {i : Int} : pd S n (.int i) = some (.int i) := by cases n <;> rfl
theorem pd_str {s : List Nat} : pd S n (.str s) = some (.str ⟨s.toArray⟩) := by cases n <;> rfl
theorem pd_cls {c : Nat} : pd S n (.cls c) = none := by cases n <;> rfl
theorem pd_tup {xs : List D} : pd S (n + 1) (.tup xs) = (pds S n xs).map PyData.tuple := by
  unfold pds
  simp only [pd]
  cases mapO (pd S n) xs <;> rfl
theorem pd_rol {xs : List D} : pd S (n + 1) (.rol xs) = (pds S n xs).map PyData.list := by
  unfold pds
  simp only [pd]
  cases mapO (pd S n) xs <;> rfl
theorem pd_ref {i : Nat} : pd S (n + 1) (.ref i) = (S.l i).bind fun xs => (pds S n xs).map PyData.list := by
  unfold pds
  simp only [pd]
  cases S.l i with
  | none => rfl
  | some xs =>
    simp only [Option.bind_some]
    cases mapO (pd S n) xs <;> rfl
theorem pds_nil : pds S n [] = some [] := rfl
theorem pds_con {x : D} {xs : List D} : pds S n (x :: xs) = match pd S n x with
    | some p => (pds S n xs).map (p :: ·)
    | none => none := by
  unfold pds
  simp only [mapO]
  cases pd S n x with
  | none => rfl
  | some p => cases mapO (pd S n) xs <;> rfl
end
/-- Python's == of plain data -/
def eqD (S : Sto) (a b : D) : Option Bool :=
  match pd S 40 a, pd S 40 b with
  | some x, some y => some (PyData.eqv x y)
  | _, _ => none

/-! ### arithmetic -/
def mulOk (i j : Int) : Bool := decide (i.natAbs < 18446744073709551616) || decide (j.natAbs < 18446744073709551616) || decide (i.natAbs.log2 + j.natAbs.log2 < 1000000)
def divOk (j : Int) : Bool := decide (j ≠ 0) && (decide (j.natAbs < 1073741824) || (decide (0 < j) && decide (j.natAbs.log2 < 9000)))
def powOk (i j : Int) : Bool := decide (0 ≤ j) && decide (j ≤ 1000000) && decide (i.natAbs < 18446744073709551616)
def arith (op : Operator) (i j : Int) : Option Int :=
  match op with
  | .Add => some (i + j)
  | .Sub => some (i - j)
  | .Mult => if mulOk i j then some (i * j) else none
  | .FloorDiv => if divOk j then some (i.fdiv j) else none
  | .Mod => if j = 0 then none else some (i.fmod j)
  | .Pow => if powOk i j then some (i ^ j.toNat) else none
  | .BitAnd => some (Builtin.bitAnd i j)
  | .BitOr => some (Builtin.bitOr i j)
  | .BitXor => some (Builtin.bitXor i j)
  | _ => none
def opBin (op : Operator) (a b : D) (S : Sto) : Res :=
  match a, b with
  | .int i, .int j => match arith op i j with
    | some k => .val [.int k] S
    | none => .bad
  | .str x, .str y => match op with
    | .Add => if x.length + y.length ≤ SL then .val [.str (x ++ y)] S else .bad
    | _ => .bad
  | .tup xs, .tup ys => match op with
    | .Add => if xs.length + ys.length ≤ SL then .val [.tup (xs ++ ys)] S else .bad
    | _ => .bad
  | .ref i, .ref j => match op with
    | .Add => match S[i]?, S[j]? with
      | some (.lst xs), some (.lst ys) => if xs.length + ys.length ≤ SL then .val [.ref S.length] (S ++ [.lst (xs ++ ys)]) else .bad
      | _, _ => .bad
    | _ => .bad
  | _, _ => .bad

/-! ### truth, comparisons -/
def tru (S : Sto) (d : D) : Option Bool :=
  match d with
  | .non => some false
  | .bl b => some b
  | .int i => some (i != 0)
  | .str s => some (!s.isEmpty)
  | .tup xs => some (!xs.isEmpty)
  | .rol xs => some (!xs.isEmpty)
  | .ref i => (S.l i).map fun xs => !xs.isEmpty
  | .cls _ => none
/-- is x, a plain value, equal to one of these -/
def inD (S : Sto) (x : D) : List D → Option Bool
  | [] => some false
  | y :: ys => match eqD S x y with
    | some true => some true
    | some false => inD S x ys
    | none => none
/-- are they all data -/
def allD (S : Sto) (xs : List D) : Bool := (pds S 39 xs).isSome
def contains (S : Sto) (x c : D) : Option Bool :=
  match c with
  | .tup ys => match pd S 40 x, pds S 39 ys with
    | some p, some ps => some (ps.any fun q => PyData.eqv q p)
    | _, _ => none
  | .ref i => match S.l i with
    | some ys => match pd S 40 x, pds S 39 ys with
      | some p, some ps => some (ps.any fun q => PyData.eqv q p)
      | _, _ => none
    | none => none
  | .str s => match x with
    | .str t => some (!(Builtin.Str.occurrences ⟨s.toArray⟩ ⟨t.toArray⟩ 0 s.length 1).isEmpty)
    | _ => none
  | _ => none
/-- i < j, so that it is reckoned by the numbers' shape -/
def ltI : Int → Int → Bool
  | .ofNat a, .ofNat b => Nat.blt a b
  | .ofNat _, .negSucc _ => false
  | .negSucc _, .ofNat _ => true
  | .negSucc a, .negSucc b => Nat.blt b a
def leI (i j : Int) : Bool := !ltI j i
theorem ltI_eq (i j : Int) : ltI i j = decide (i < j) := by
  rw [Bool.eq_iff_iff, decide_eq_true_eq]
  cases i with
  | ofNat a =>
    cases j with
    | ofNat b => simp only [ltI, Nat.blt_eq]; exact Int.ofNat_lt.symm
    | negSucc b => simp only [ltI]; constructor
                   · intro h; cases h
                   · intro h; exact absurd h (by rw [Int.ofNat_eq_natCast]; omega)
  | negSucc a =>
    cases j with
    | ofNat b => simp only [ltI]; constructor
                 · intro _; rw [Int.ofNat_eq_natCast]; omega
                 · intro _; trivial
    | negSucc b => simp only [ltI, Nat.blt_eq]; omega
theorem leI_eq (i j : Int) : leI i j = decide (i ≤ j) := by
  rw [leI, ltI_eq, Bool.eq_iff_iff]
  simp
def opCmp (op : CmpOp) (a b : D) (S : Sto) : Option Bool :=
  match op with
  | .Eq => eqD S a b
  | .NotEq => (eqD S a b).map (!·)
  | .Lt => match a, b with
    | .int i, .int j => some (ltI i j)
    | _, _ => none
  | .LtE => match a, b with
    | .int i, .int j => some (leI i j)
    | _, _ => none
  | .Gt => match a, b with
    | .int i, .int j => some (ltI j i)
    | _, _ => none
  | .GtE => match a, b with
    | .int i, .int j => some (leI j i)
    | _, _ => none
  | .Is => match b with
    | .non => some (match a with | .non => true | _ => false)
    | _ => none
  | .IsNot => match b with
    | .non => some (match a with | .non => false | _ => true)
    | _ => none
  | .In => contains S a b
  | .NotIn => (contains S a b).map (!·)

/-! ### places, slices -/
def opIx (a i : D) (S : Sto) : Option D :=
  match i with
  | .int k => match a with
    | .tup xs => L2.atI xs k
    | .rol xs => L2.atI xs k
    | .ref r => match S.l r with
      | some xs => L2.atI xs k
      | none => none
    | .str s => (L2.atI s k).map fun c => .str [c]
    | _ => none
  | _ => none
def cutD {α : Type} (xs : List α) (lo hi : Option Int) : List α := (xs.drop (HT.sIx xs.length 0 lo)).take (HT.sIx xs.length xs.length hi - HT.sIx xs.length 0 lo)
def opSlice (a : D) (lo hi : Option Int) (S : Sto) : Res :=
  match a with
  | .tup xs => .val [.tup (cutD xs lo hi)] S
  | .rol xs => if xs.length ≤ SL then .val [.ref S.length] (S ++ [.lst (cutD xs lo hi)]) else .bad
  | .str s => .val [.str (cutD s lo hi)] S
  | .ref r => match S.l r with
    | some xs => .val [.ref S.length] (S ++ [.lst (cutD xs lo hi)])
    | none => .bad
  | _ => .bad
def ends : D → Option (Option Int)
  | .non => some none
  | .int i => some (some i)
  | _ => none

/-! ### sorting -/
def ins1 {α : Type} (le : α → α → Bool) (x : α) : List α → List α
  | [] => [x]
  | y :: ys => if le x y then x :: y :: ys else y :: ins1 le x ys
def isort {α : Type} (le : α → α → Bool) : List α → List α
  | [] => []
  | x :: xs => ins1 le x (isort le xs)
def alikeB (ps : List PyData) : Bool := ps.all fun p => ps.all fun q => PySem.W.alike p q
def sortableB (ps : List PyData) : Bool :=
  (ps.all fun p => match p with | .tuple (_ :: _) => true | _ => false) || (ps.all fun p => match p with | .tuple _ => false | .none => false | _ => true)
/-- a list of data in order -/
def sortD (S : Sto) (xs : List D) : Option (List D) :=
  match pds S 39 xs with
  | some ps => if alikeB ps && sortableB ps then some ((isort (PySem.W.dataLe false fun b : D × PyData => b.2) (xs.zip ps)).map (·.1)) else none
  | none => none

/-! ### built-in calls -/
inductive Ty where
  | int | str | bool | tuple | list | dict | own (c : Nat) | obj (c : Nat)
  deriving DecidableEq, Inhabited, Repr
inductive Bi where
  | len | abs | max | min | int | bool | str | list | tuple | sorted | all | any | isinst (t : Ty) | sum | repr
  deriving DecidableEq, Inhabited, Repr
def bools : List D → Option (List Bool)
  | [] => some []
  | .bl b :: r => (bools r).map (b :: ·)
  | _ => none
/-- the kind of plain data -/
inductive DT where
  | non | bool | int | str | tuple | list
  deriving DecidableEq, Inhabited, Repr
def dty (S : Sto) : D → Option DT
  | .non => some .non
  | .bl _ => some .bool
  | .int _ => some .int
  | .str _ => some .str
  | .tup _ => some .tuple
  | .rol _ => some .list
  | .ref i => match S[i]? with
    | some (.lst _) => some .list
    | _ => none
  | .cls _ => none
def kin : DT → Ty → Option Bool
  | .bool, .int => some true
  | .bool, .bool => some true
  | .int, .int => some true
  | .str, .str => some true
  | .tuple, .tuple => some true
  | .list, .list => some true
  | _, .own _ => none
  | _, .obj _ => none
  | _, _ => some false
def isTy (S : Sto) (d : D) (t : Ty) : Option Bool := (dty S d).bind fun n => kin n t
/-- the items of what is walked -/
def items (S : Sto) : D → Option (List D)
  | .tup xs => some xs
  | .rol xs => some xs
  | .ref i => S.l i
  | .str s => some (s.map fun c => .str [c])
  | _ => none
def callB1 (b : Bi) (d : D) (S : Sto) : Res :=
  match b with
  | .len => match d with
    | .str s => .val [.int s.length] S
    | .tup xs => .val [.int xs.length] S
    | .rol xs => .val [.int xs.length] S
    | .ref i => match S.l i with
      | some xs => .val [.int xs.length] S
      | none => .bad
    | _ => .bad
  | .abs => match d with
    | .int i => .val [.int (if i < 0 then -i else i)] S
    | _ => .bad
  | .int => match d with
    | .int i => .val [.int i] S
    | .bl b => .val [.int (if b then 1 else 0)] S
    | _ => .bad
  | .bool => match d with
    | .int i => .val [.bl (i != 0)] S
    | .bl b => .val [.bl b] S
    | _ => .bad
  | .list => match d with
    | .tup xs => .val [.ref S.length] (S ++ [.lst xs])
    | .ref i => match S.l i with
      | some xs => .val [.ref S.length] (S ++ [.lst xs])
      | none => .bad
    | _ => .bad
  | .tuple => match d with
    | .tup xs => .val [.tup xs] S
    | .ref i => match S.l i with
      | some xs => .val [.tup xs] S
      | none => .bad
    | _ => .bad
  | .sorted => match d with
    | .ref i => match S.l i with
      | some xs => match sortD S xs with
        | some ys => .val [.ref S.length] (S ++ [.lst ys])
        | none => .bad
      | none => .bad
    | _ => .bad
  | .all => match d with
    | .ref i => match (S.l i).bind bools with
      | some bs => .val [.bl (bs.all id)] S
      | none => .bad
    | _ => .bad
  | .any => match d with
    | .ref i => match (S.l i).bind bools with
      | some bs => .val [.bl (bs.any id)] S
      | none => .bad
    | _ => .bad
  | .isinst t => match isTy S d t with
    | some b => .val [.bl b] S
    | none => .bad
  | _ => .bad
def callB2 (b : Bi) (d e : D) (S : Sto) : Res :=
  match b with
  | .max => match d with
    | .int i => match e with
      | .int j => .val [.int (if j > i then j else i)] S
      | _ => .bad
    | _ => .bad
  | .min => match d with
    | .int i => match e with
      | .int j => .val [.int (if j < i then j else i)] S
      | _ => .bad
    | _ => .bad
  | _ => .bad
def callB (b : Bi) (as : List D) (S : Sto) : Res :=
  match as with
  | [d] => callB1 b d S
  | [d, e] => callB2 b d e S
  | _ => .bad
/-- methods of the built-in types -/
inductive Bm where
  | append | pop0 | pop1 | extend | index | count | get1 | get2 | setdefault | items0 | join | partition | split | insert
  deriving DecidableEq, Inhabited, Repr
/-- whether it is a receiver of such a method -/
def rcv (m : Bm) (x : D) (S : Sto) : Bool :=
  match m with
  | .join | .partition | .split => match x with | .str _ => true | _ => false
  | .get1 | .get2 | .setdefault | .items0 => false
  | _ => match x with | .ref i => (S.l i).isSome | _ => false
def callM (m : Bm) (o : D) (as : List D) (S : Sto) : Res :=
  match o with
  | .ref i => match S[i]? with
    | some (.lst xs) => match m, as with
      | .append, [d] => if xs.length < SL then .val [.non] (S.set i (.lst (xs ++ [d]))) else .bad
      | .pop1, [.int k] => match L2.ixN xs.length k with
        | some j => match xs[j]? with
          | some d => .val [d] (S.set i (.lst (xs.eraseIdx j)))
          | none => .bad
        | none => .bad
      | _, _ => .bad
    | _ => .bad
  | _ => .bad

/-! ### code -/
inductive C where
  -- expressions
  | var (i : Nat) | kon (d : D) | gl (x : Nat) | bin (op : Operator) (a b : C) | neg (a : C) | notv (a : C) | cmp (op : CmpOp) (a b : C) | chn (op op' : CmpOp) (a b c : C)
  | andv (a b : C) | orv (a b : C) | ite (t a b : C) | att (f : Nat) (a : C) | idx (a i : C) | slc (a lo hi : C) | part (a : C) | tup (as : C) | lst (as : C)
  | cal (f : Nat) (as : C) | calk (f na nk : Nat) (as ks : C) (prm : List (Nat ⊕ D)) | blt (b : Bi) (as : C) | btm (m : Bm) (o as : C) | mth (m : Nat) (o as : C) | new (c : Nat) (as : C)
  | lc (own : List Nat) (g it t e : C)
  -- lists of arguments
  | anil | acons (a r : C) | adef (d : D)
  -- what a loop walks
  | rng1 (a : C) | rng2 (a b : C) | rng3 (a b c : C) | enu (a : C)
  -- statements
  | nop | seq (a b : C) | asg (g e : C) | aug (i : Nat) (op : Operator) (e : C) | iff (t a b : C) | whl (t b : C) | forr (g it b : C) | ret (e : C) | retn | exp (e : C) | brk | cnt
  | rse (c : Nat) (as : C)
  -- targets
  | gn (i : Nat) | gt (gs : C) | ga (f : Nat) (o : C) | gi (o i : C) | gnil | gcons (g r : C)
  deriving Inhabited, Repr

structure Fn where
  np : Nat
  ns : Nat
  body : C
  deriving Inhabited
structure Pg where
  fn : Nat → Option Fn
  gl : Nat → Option D
  /-- class, name: a method (its def) -/
  me : Nat → Nat → Option Nat
  /-- class, name: a property (its def) -/
  pr : Nat → Nat → Option Nat
  /-- class: its __init__ -/
  ini : Nat → Option Nat
  /-- how often a while may turn -/
  wf : Nat

/-- a loop over items; chk: may the walk go on -/
def loopR (chk : Sto → Bool) (f : D → Sl → Sto → Res) : List D → Sl → Sto → Res
  | [], σ, S => if chk S then .nx σ S else .bad
  | x :: xs, σ, S => if chk S then turnR (f x σ S) (loopR chk f xs) else .bad
/-- the loop of a comprehension: what is made so far, and the rest -/
def loopC (chk : Sto → Bool) (f : D → Sto → Res) : List D → List D → Sto → Res
  | acc, [], S => if chk S then .val acc S else .bad
  | acc, x :: xs, S => if chk S then
      match f x S with
      | .val ds S => loopC chk f (acc ++ ds) xs S
      | _ => .bad
    else .bad
/-- a turn of a comprehension -/
def turnC (rg : Res) (t e : Sl → Sto → Res) : Res :=
  bg rg fun σ2 S => b1 σ2 (t σ2 S) fun y S => match tru S y with
    | some true => b1 σ2 (e σ2 S) fun z S => .val [z] S
    | some false => .val [] S
    | none => .bad
def endC (r : Res) : Res :=
  match r with
  | .val ys S => if ys.length ≤ SL then .val [.ref S.length] (S ++ [.lst ys]) else .bad
  | _ => .bad
def whileR (t : Sl → Sto → Res) (b : Sl → Sto → Res) : Nat → Sl → Sto → Res
  | 0, _, _ => .bad
  | n + 1, σ, S => b1 σ (t σ S) fun d S => match tru S d with
    | some true => turnR (b σ S) (whileR t b n)
    | some false => .nx σ S
    | none => .bad
/-- whether what is walked stands as it stood -/
def still (d : D) (xs : List D) (S : Sto) : Bool :=
  match d with
  | .ref i => match S[i]? with
    | some o => o.isLst xs
    | none => false
  | _ => true
def putD (f : Nat) (d : D) : List (Nat × D) → List (Nat × D)
  | [] => [(f, d)]
  | (g, x) :: r => if g = f then (g, d) :: r else (g, x) :: putD f d r
def wipeD (σ : Sl) : List Nat → Sl
  | [] => σ
  | v :: vs => (wipeD σ vs).set v none
def rangeD (lo hi : Int) : List D := (List.range (hi - lo).toNat).map fun (k : Nat) => .int (lo + k)
def inR (i : Int) : Bool := decide (-4611686018427387904 ≤ i) && decide (i < 4611686018427387904)

/-- the arguments in the parameters' order: places of what is given, and defaults -/
def rearr : List (Nat ⊕ D) → List D → Option (List D)
  | [], _ => some []
  | .inl i :: r, ds => match ds[i]?, rearr r ds with
    | some d, some q => some (d :: q)
    | _, _ => none
  | .inr d :: r, ds => (rearr r ds).map (d :: ·)
/-- what code does: ins, what comes to a target -/
def ev (P : Pg) (Φ : Nat → List D → Sto → Res) : C → List D → Sl → Sto → Res
  | .var i, _, σ, S => match σ[i]? with
    | some (some d) => .val [d] S
    | _ => .bad
  | .kon d, _, _, S => .val [d] S
  | .gl x, _, _, S => match P.gl x with
    | some d => .val [d] S
    | none => .bad
  | .bin op a b, _, σ, S => b1 σ (ev P Φ a [] σ S) fun x S => b1 σ (ev P Φ b [] σ S) fun y S => opBin op x y S
  | .neg a, _, σ, S => b1 σ (ev P Φ a [] σ S) fun x S => match x with
    | .int i => .val [.int (-i)] S
    | _ => .bad
  | .notv a, _, σ, S => b1 σ (ev P Φ a [] σ S) fun x S => match tru S x with
    | some b => .val [.bl (!b)] S
    | none => .bad
  | .cmp op a b, _, σ, S => b1 σ (ev P Φ a [] σ S) fun x S => b1 σ (ev P Φ b [] σ S) fun y S => match opCmp op x y S with
    | some b => .val [.bl b] S
    | none => .bad
  | .chn op op' a b c, _, σ, S => b1 σ (ev P Φ a [] σ S) fun x S => b1 σ (ev P Φ b [] σ S) fun y S => match opCmp op x y S with
    | some true => b1 σ (ev P Φ c [] σ S) fun z S => match opCmp op' y z S with
      | some b => .val [.bl b] S
      | none => .bad
    | some false => .val [.bl false] S
    | none => .bad
  | .andv a b, _, σ, S => b1 σ (ev P Φ a [] σ S) fun x S => match tru S x with
    | some true => ev P Φ b [] σ S
    | some false => .val [x] S
    | none => .bad
  | .orv a b, _, σ, S => b1 σ (ev P Φ a [] σ S) fun x S => match tru S x with
    | some true => .val [x] S
    | some false => ev P Φ b [] σ S
    | none => .bad
  | .ite t a b, _, σ, S => b1 σ (ev P Φ t [] σ S) fun x S => match tru S x with
    | some true => ev P Φ a [] σ S
    | some false => ev P Φ b [] σ S
    | none => .bad
  | .att f a, _, σ, S => b1 σ (ev P Φ a [] σ S) fun x S => match x with
    | .ref i => match S[i]? with
      | some (.ins c fs) => match fs.lookup f with
        | some d => .val [d] S
        | none => match P.pr c f with
          | some g => Φ g [.ref i] S
          | none => .bad
      | _ => .bad
    | _ => .bad
  | .idx a i, _, σ, S => b1 σ (ev P Φ a [] σ S) fun x S => b1 σ (ev P Φ i [] σ S) fun y S => match opIx x y S with
    | some d => .val [d] S
    | none => .bad
  | .slc a lo hi, _, σ, S => b1 σ (ev P Φ a [] σ S) fun x S => b1 σ (ev P Φ lo [] σ S) fun y S => match ends y with
    | some l => b1 σ (ev P Φ hi [] σ S) fun z S => match ends z with
      | some h => opSlice x l h S
      | none => .bad
    | none => .bad
  | .part a, _, σ, S => b1 σ (ev P Φ a [] σ S) fun x S => match x with
    | .int i => .val [.int i] S
    | _ => .bad
  | .tup as, _, σ, S => bv σ (ev P Φ as [] σ S) fun ds S => if ds.length ≤ SL then .val [.tup ds] S else .bad
  | .lst as, _, σ, S => bv σ (ev P Φ as [] σ S) fun ds S => if ds.length ≤ SL then .val [.ref S.length] (S ++ [.lst ds]) else .bad
  | .cal f as, _, σ, S => bv σ (ev P Φ as [] σ S) fun ds S => match Φ f ds S with
    | .val [d] S => .val [d] S
    | .exc c fs _ S => .exc c fs σ S
    | _ => .bad
  | .calk f na nk as ks prm, _, σ, S => bv σ (ev P Φ as [] σ S) fun ds S => bv σ (ev P Φ ks [] σ S) fun es S => if ds.length = na ∧ es.length = nk then match rearr prm (ds ++ es) with
    | some gs => match Φ f gs S with
      | .val [d] S => .val [d] S
      | .exc c fs _ S => .exc c fs σ S
      | _ => .bad
    | none => .bad
    else .bad
  | .blt b as, _, σ, S => bv σ (ev P Φ as [] σ S) fun ds S => callB b ds S
  | .btm m o as, _, σ, S => b1 σ (ev P Φ o [] σ S) fun x S => if rcv m x S then bv σ (ev P Φ as [] σ S) fun ds S => callM m x ds S else .bad
  | .mth m o as, _, σ, S => b1 σ (ev P Φ o [] σ S) fun x S => match x with
    | .ref i => match S[i]? with
      | some (.ins c fs) => match P.me c m, fs.lookup m with
        | some g, none => bv σ (ev P Φ as [] σ S) fun ds S => match Φ g (.ref i :: ds) S with
          | .val [d] S => .val [d] S
          | .exc c fs _ S => .exc c fs σ S
          | _ => .bad
        | _, _ => .bad
      | _ => .bad
    | _ => .bad
  | .new c as, _, σ, S => bv σ (ev P Φ as [] σ S) fun ds S => match P.ini c with
    | some g => match Φ g (.ref S.length :: ds) (S ++ [.ins c []]) with
      | .val [.non] S' => .val [.ref S.length] S'
      | .exc c fs _ S => .exc c fs σ S
      | _ => .bad
    | none => .bad
  | .lc own g it t e, _, σ, S => b1 σ (ev P Φ it [] σ S) fun d S => match items S d with
    | some xs => endC (loopC (still d xs) (fun x S => turnC (ev P Φ g [x] (wipeD σ own) S) (fun σ S => ev P Φ t [] σ S) fun σ S => ev P Φ e [] σ S) [] xs S)
    | none => .bad
  | .anil, _, _, S => .val [] S
  | .acons a r, _, σ, S => b1 σ (ev P Φ a [] σ S) fun d S => bv σ (ev P Φ r [] σ S) fun ds S => .val (d :: ds) S
  | .adef d, _, _, S => .val [d] S
  | .rng1 a, _, σ, S => b1 σ (ev P Φ a [] σ S) fun x S => match x with
    | .int j => if inR j then .val [.tup (rangeD 0 j)] S else .bad
    | _ => .bad
  | .rng2 a b, _, σ, S => b1 σ (ev P Φ a [] σ S) fun x S => b1 σ (ev P Φ b [] σ S) fun y S => match x, y with
    | .int i, .int j => if inR i && inR j then .val [.tup (rangeD i j)] S else .bad
    | _, _ => .bad
  | .rng3 _ _ _, _, _, _ => .bad
  | .enu _, _, _, _ => .bad
  | .nop, _, σ, S => .nx σ S
  | .seq a b, _, σ, S => bn (ev P Φ a [] σ S) fun σ S => ev P Φ b [] σ S
  | .asg g e, _, σ, S => b1 σ (ev P Φ e [] σ S) fun d S => bg (ev P Φ g [d] σ S) fun σ S => .nx σ S
  | .aug i op e, _, σ, S => match σ[i]? with
    | some (some x) => b1 σ (ev P Φ e [] σ S) fun y S => match x, y with
      | .int i1, .int i2 => match op with
        | .Add => .nx (σ.set i (some (.int (i1 + i2)))) S
        | .Sub => .nx (σ.set i (some (.int (i1 - i2)))) S
        | _ => .bad
      | _, _ => .bad
    | _ => .bad
  | .iff t a b, _, σ, S => b1 σ (ev P Φ t [] σ S) fun x S => match tru S x with
    | some true => ev P Φ a [] σ S
    | some false => ev P Φ b [] σ S
    | none => .bad
  | .whl t b, _, σ, S => whileR (fun σ S => ev P Φ t [] σ S) (fun σ S => ev P Φ b [] σ S) P.wf σ S
  | .forr g it b, _, σ, S => b1 σ (ev P Φ it [] σ S) fun d S => match items S d with
    | some xs => loopR (still d xs) (fun x σ S => bg (ev P Φ g [x] σ S) fun σ S => ev P Φ b [] σ S) xs σ S
    | none => .bad
  | .ret e, _, σ, S => b1 σ (ev P Φ e [] σ S) fun d S => .rt d S
  | .retn, _, _, S => .rt .non S
  | .exp e, _, σ, S => b1 σ (ev P Φ e [] σ S) fun _ S => .nx σ S
  | .brk, _, σ, S => .bk σ S
  | .cnt, _, σ, S => .ct σ S
  | .rse _ _, _, _, _ => .bad
  | .gn i, ins, σ, S => match ins with
    | [d] => if i < σ.length then .nx (σ.set i (some d)) S else .bad
    | _ => .bad
  | .gt gs, ins, σ, S => match ins with
    | [.tup xs] => ev P Φ gs xs σ S
    | _ => .bad
  | .ga f o, ins, σ, S => match ins with
    | [d] => b1 σ (ev P Φ o [] σ S) fun x S => match x with
      | .ref i => match S[i]? with
        | some (.ins c fs) => if fs.length < 1000 then .nx σ (S.set i (.ins c (putD f d fs))) else .bad
        | _ => .bad
      | _ => .bad
    | _ => .bad
  | .gi o i, ins, σ, S => match ins with
    | [d] => b1 σ (ev P Φ o [] σ S) fun x S => b1 σ (ev P Φ i [] σ S) fun y S => match x, y with
      | .ref r, .int k => match S[r]? with
        | some (.lst xs) => match L2.ixN xs.length k with
          | some j => .nx σ (S.set r (.lst (xs.set j d)))
          | none => .bad
        | _ => .bad
      | _, _ => .bad
    | _ => .bad
  | .gnil, ins, σ, S => match ins with
    | [] => .nx σ S
    | _ => .bad
  | .gcons g r, ins, σ, S => match ins with
    | d :: ds => bg (ev P Φ g [d] σ S) fun σ S => ev P Φ r ds σ S
    | [] => .bad

def fin : Res → Res
  | .rt d S => .val [d] S
  | .nx _ S => .val [.non] S
  | .exc c fs _ S => .exc c fs [] S
  | _ => .bad
/-- a call of a def, so many calls deep at the most -/
def run (P : Pg) : Nat → Nat → List D → Sto → Res
  | 0, _, _, _ => .bad
  | n + 1, f, as, S => match P.fn f with
    | some F => if as.length = F.np then fin (ev P (run P n) F.body [] (as.map some ++ List.replicate (F.ns - F.np) none) S) else .bad
    | none => .bad
end Vm

/-! What the small machine's state stands for in the layer's heap. -/
namespace Vm
open PySem L2

/-- what the text fixes: the written part, where the classes stand, the names of attributes -/
structure Zz where
  K : PySem.W.Frag
  ca : Nat → Addr
  nm : Nat → Str

theorem SL_eq : SL = sizeLine := by rw [sizeLine_eq]

section
variable (Z : Zz)
/-- a list that is read alone: locked, or of the written part -/
def Rol (H : Hp) (a : Addr) (vs : List V) : Prop :=
  (∃ o, H a = some (.frz o (.lst vs))) ∨ ∃ (o : Obj) (its : Array Value) (n : Nat), Z.K.lookup a = some o ∧ o.cls = .type "list" ∧ o.dict = none ∧ o.data = .seq its n ∧ its.size ≤ sizeLine ∧ Vals vs its.toList
mutual
/-- a value of the small machine stands for one of the layer -/
def DV (H : Hp) (μ : List Addr) : D → V → Prop
  | .non, v => v = .non
  | .bl b, v => v = .bl b
  | .int i, v => v = .int i
  | .str s, v => s.length ≤ SL ∧ (∀ c ∈ s, c < 0x110000) ∧ v = .str ⟨s.toArray⟩
  | .tup xs, v => ∃ a vs, v = .ref a ∧ SqT Z.K H a vs ∧ DVs H μ xs vs
  | .rol xs, v => ∃ a vs, v = .ref a ∧ Rol Z H a vs ∧ DVs H μ xs vs
  | .ref i, v => ∃ a, μ[i]? = some a ∧ v = .ref a
  | .cls c, v => v = .ref (Z.ca c)
def DVs (H : Hp) (μ : List Addr) : List D → List V → Prop
  | [], vs => vs = []
  | x :: xs, vs => ∃ v r, vs = v :: r ∧ DV H μ x v ∧ DVs H μ xs r
end
/-- fields -/
def FVs (H : Hp) (μ : List Addr) : List (Nat × D) → List (Str × V) → Prop
  | [], fs => fs = []
  | (f, d) :: r, fs => ∃ v q, fs = (Z.nm f, v) :: q ∧ DV Z H μ d v ∧ FVs H μ r q
def OOk (H : Hp) (μ : List Addr) (a : Addr) : Ob → Prop
  | .lst xs => xs.length ≤ SL ∧ ∃ vs, H a = some (.lst vs) ∧ DVs Z H μ xs vs
  | .ins c fs => ∃ dx gs, H a = some (.ins (Z.ca c) dx gs) ∧ FVs Z H μ fs gs
  | .dct _ => False
  | .set _ => False
structure RS (μ : List Addr) (S : Sto) (H : Hp) : Prop where
  len : μ.length = S.length
  nd : μ.Nodup
  obj : ∀ (i : Nat) (o : Ob) (a : Addr), S[i]? = some o → μ[i]? = some a → OOk Z H μ a o
end
/-- what was ahead is kept; what is new was free -/
structure Ext (μ : List Addr) (H : Hp) (μ' : List Addr) (H' : Hp) : Prop where
  pre : ∃ ν, μ' = μ ++ ν
  keep : ∀ b o, b ∉ μ → H b = some o → H' b = some o
  new : ∀ b ∈ μ', b ∈ μ ∨ H b = none
  tup : ∀ b xs, Rd H b (.tup xs) → Rd H' b (.tup xs)
  frz : ∀ b o u, H b = some (.frz o u) → H' b = some (.frz o u)
/-- slots -/
structure SV (Z : Zz) (H : Hp) (μ : List Addr) (σ : Sl) (τ : St) : Prop where
  len : σ.length = τ.length
  at_ : ∀ (i : Nat) (d : D), σ[i]? = some (some d) → ∃ v, τ[i]? = some (some v) ∧ DV Z H μ d v

section
variable {Z : Zz} {H H' H'' : Hp} {μ μ' μ'' : List Addr} {S : Sto}
theorem Ext.refl : Ext μ H μ H := ⟨⟨[], by simp⟩, fun _ _ _ h => h, fun _ h => .inl h, fun _ _ h => h, fun _ _ _ h => h⟩
theorem Ext.trans (a : Ext μ H μ' H') (b : Ext μ' H' μ'' H'') : Ext μ H μ'' H'' where
  pre := by
    obtain ⟨ν, rfl⟩ := a.pre
    obtain ⟨ν', rfl⟩ := b.pre
    exact ⟨ν ++ ν', by simp⟩
  keep := fun x o hx h => by
    have h1 := a.keep x o hx h
    refine b.keep x o (fun hm => ?_) h1
    rcases a.new x hm with z | z
    · exact hx z
    · rw [z] at h; cases h
  new := fun x hx => by
    rcases b.new x hx with z | z
    · exact a.new x z
    · by_cases hm : x ∈ μ
      · exact .inl hm
      · refine .inr ?_
        cases e : H x with
        | none => rfl
        | some o => rw [a.keep x o hm e] at z; cases z
  tup := fun x xs h => b.tup x xs (a.tup x xs h)
  frz := fun x o u h => b.frz x o u (a.frz x o u h)
/-- what values lean on -/
structure Mo (μ : List Addr) (H : Hp) (μ' : List Addr) (H' : Hp) : Prop where
  pre : ∃ ν, μ' = μ ++ ν
  tup : ∀ b xs, Rd H b (.tup xs) → Rd H' b (.tup xs)
  frz : ∀ b o u, H b = some (.frz o u) → H' b = some (.frz o u)
theorem Ext.mo (e : Ext μ H μ' H') : Mo μ H μ' H' := ⟨e.pre, e.tup, e.frz⟩
theorem Mo.at (e : Mo μ H μ' H') {i : Nat} {a : Addr} (h : μ[i]? = some a) : μ'[i]? = some a := by
  obtain ⟨ν, rfl⟩ := e.pre
  rw [List.getElem?_append_left (List.getElem?_eq_some_iff.mp h).1]
  exact h
theorem Mo.sqT {K : PySem.W.Frag} (e : Mo μ H μ' H') {a : Addr} {vs : List V} (h : SqT K H a vs) : SqT K H' a vs := by
  rcases h with h | h
  · exact .inl (e.tup _ _ h)
  · exact .inr h
theorem Mo.rol (e : Mo μ H μ' H') {a : Addr} {vs : List V} (h : Rol Z H a vs) : Rol Z H' a vs := by
  rcases h with ⟨o, h⟩ | h
  · exact .inl ⟨o, e.frz _ _ _ h⟩
  · exact .inr h
theorem Ext.at (e : Ext μ H μ' H') {i : Nat} {a : Addr} (h : μ[i]? = some a) : μ'[i]? = some a := by
  obtain ⟨ν, rfl⟩ := e.pre
  rw [List.getElem?_append_left (List.getElem?_eq_some_iff.mp h).1]
  exact h
theorem Ext.sqT {K : PySem.W.Frag} (e : Ext μ H μ' H') {a : Addr} {vs : List V} (h : SqT K H a vs) : SqT K H' a vs := by
  rcases h with h | h
  · exact .inl (e.tup _ _ h)
  · exact .inr h
theorem Ext.rol (e : Ext μ H μ' H') {a : Addr} {vs : List V} (h : Rol Z H a vs) : Rol Z H' a vs := by
  rcases h with ⟨o, h⟩ | h
  · exact .inl ⟨o, e.frz _ _ _ h⟩
  · exact .inr h
mutual
theorem DV.mo (e : Mo μ H μ' H') : ∀ {d : D} {v : V}, DV Z H μ d v → DV Z H' μ' d v
  | .non, v, h => by simpa only [DV] using h
  | .bl _, v, h => by simpa only [DV] using h
  | .int _, v, h => by simpa only [DV] using h
  | .str _, v, h => by simpa only [DV] using h
  | .tup xs, v, h => by
    simp only [DV] at h ⊢
    obtain ⟨a, vs, rfl, h1, h2⟩ := h
    exact ⟨a, vs, rfl, e.sqT h1, DVs.mo e h2⟩
  | .rol xs, v, h => by
    simp only [DV] at h ⊢
    obtain ⟨a, vs, rfl, h1, h2⟩ := h
    exact ⟨a, vs, rfl, e.rol h1, DVs.mo e h2⟩
  | .ref i, v, h => by
    simp only [DV] at h ⊢
    obtain ⟨a, h1, rfl⟩ := h
    exact ⟨a, e.at h1, rfl⟩
  | .cls _, v, h => by simpa only [DV] using h
theorem DVs.mo (e : Mo μ H μ' H') : ∀ {ds : List D} {vs : List V}, DVs Z H μ ds vs → DVs Z H' μ' ds vs
  | [], vs, h => by simpa only [DVs] using h
  | d :: ds, vs, h => by
    simp only [DVs] at h ⊢
    obtain ⟨v, r, rfl, h1, h2⟩ := h
    exact ⟨v, r, rfl, DV.mo e h1, DVs.mo e h2⟩
end
theorem FVs.mo (e : Mo μ H μ' H') : ∀ {fs : List (Nat × D)} {gs : List (Str × V)}, FVs Z H μ fs gs → FVs Z H' μ' fs gs
  | [], gs, h => by simpa only [FVs] using h
  | (f, d) :: r, gs, h => by
    simp only [FVs] at h ⊢
    obtain ⟨v, q, rfl, h1, h2⟩ := h
    exact ⟨v, q, rfl, h1.mo e, FVs.mo e h2⟩
theorem DV.mono (e : Ext μ H μ' H') {d : D} {v : V} (h : DV Z H μ d v) : DV Z H' μ' d v := h.mo e.mo
theorem DVs.mono (e : Ext μ H μ' H') {ds : List D} {vs : List V} (h : DVs Z H μ ds vs) : DVs Z H' μ' ds vs := h.mo e.mo
theorem FVs.mono (e : Ext μ H μ' H') {fs : List (Nat × D)} {gs : List (Str × V)} (h : FVs Z H μ fs gs) : FVs Z H' μ' fs gs := h.mo e.mo
theorem SV.mono (e : Ext μ H μ' H') {σ : Sl} {τ : St} (h : SV Z H μ σ τ) : SV Z H' μ' σ τ :=
  ⟨h.len, fun i d q => let ⟨v, h1, h2⟩ := h.at_ i d q; ⟨v, h1, h2.mono e⟩⟩
theorem DVs.length : ∀ {ds : List D} {vs : List V}, DVs Z H μ ds vs → ds.length = vs.length
  | [], vs, h => by simp only [DVs] at h; subst h; rfl
  | d :: ds, vs, h => by
    simp only [DVs] at h
    obtain ⟨v, r, rfl, _, h2⟩ := h
    simp only [List.length_cons, DVs.length h2]
theorem DVs.get : ∀ {ds : List D} {vs : List V} {i : Nat} {d : D}, DVs Z H μ ds vs → ds[i]? = some d → ∃ v, vs[i]? = some v ∧ DV Z H μ d v
  | [], vs, i, d, h, e => by simp at e
  | x :: xs, vs, 0, d, h, e => by
    simp only [DVs] at h
    obtain ⟨v, r, rfl, h1, _⟩ := h
    simp at e
    subst e
    exact ⟨v, rfl, h1⟩
  | x :: xs, vs, i + 1, d, h, e => by
    simp only [DVs] at h
    obtain ⟨v, r, rfl, _, h2⟩ := h
    simp at e
    obtain ⟨w, h3, h4⟩ := DVs.get h2 e
    exact ⟨w, by simpa using h3, h4⟩
theorem DVs.append : ∀ {ds es : List D} {vs ws : List V}, DVs Z H μ ds vs → DVs Z H μ es ws → DVs Z H μ (ds ++ es) (vs ++ ws)
  | [], es, vs, ws, h, k => by simp only [DVs] at h; subst h; exact k
  | d :: ds, es, vs, ws, h, k => by
    simp only [DVs] at h
    obtain ⟨v, r, rfl, h1, h2⟩ := h
    show DVs Z H μ (d :: (ds ++ es)) (v :: (r ++ ws))
    simp only [DVs]
    exact ⟨v, r ++ ws, rfl, h1, DVs.append h2 k⟩
theorem DVs.take : ∀ {ds : List D} {vs : List V} (n : Nat), DVs Z H μ ds vs → DVs Z H μ (ds.take n) (vs.take n)
  | ds, vs, 0, h => by simp only [List.take_zero, DVs]
  | [], vs, n + 1, h => by simp only [DVs] at h; subst h; simp only [List.take_nil, DVs]
  | d :: ds, vs, n + 1, h => by
    simp only [DVs] at h
    obtain ⟨v, r, rfl, h1, h2⟩ := h
    simp only [List.take_succ_cons, DVs]
    exact ⟨v, _, rfl, h1, DVs.take n h2⟩
theorem DVs.drop : ∀ {ds : List D} {vs : List V} (n : Nat), DVs Z H μ ds vs → DVs Z H μ (ds.drop n) (vs.drop n)
  | ds, vs, 0, h => by simpa only [List.drop_zero] using h
  | [], vs, n + 1, h => by simp only [DVs] at h; subst h; simp only [List.drop_nil, DVs]
  | d :: ds, vs, n + 1, h => by
    simp only [DVs] at h
    obtain ⟨v, r, rfl, h1, h2⟩ := h
    simp only [List.drop_succ_cons]
    exact DVs.drop n h2
theorem DVs.one {d : D} {v : V} (h : DV Z H μ d v) : DVs Z H μ [d] [v] := by
  simp only [DVs]
  exact ⟨v, [], rfl, h, rfl⟩
theorem DVs.of_one {d : D} {vs : List V} (h : DVs Z H μ [d] vs) : ∃ v, vs = [v] ∧ DV Z H μ d v := by
  simp only [DVs] at h
  obtain ⟨v, r, rfl, h1, rfl⟩ := h
  exact ⟨v, rfl, h1⟩
theorem DVs.of_two {d e : D} {vs : List V} (h : DVs Z H μ [d, e] vs) : ∃ v w, vs = [v, w] ∧ DV Z H μ d v ∧ DV Z H μ e w := by
  simp only [DVs] at h
  obtain ⟨v, r, rfl, h1, w, q, rfl, h2, rfl⟩ := h
  exact ⟨v, w, rfl, h1, h2⟩
theorem DVs.set {d : D} {v : V} (k : DV Z H μ d v) : ∀ {ds : List D} {vs : List V} (i : Nat), DVs Z H μ ds vs → DVs Z H μ (ds.set i d) (vs.set i v)
  | [], vs, i, h => by simp only [DVs] at h; subst h; simp only [List.set_nil, DVs]
  | x :: xs, vs, 0, h => by
    simp only [DVs] at h
    obtain ⟨w, r, rfl, h1, h2⟩ := h
    simp only [List.set_cons_zero, DVs]
    exact ⟨v, r, rfl, k, h2⟩
  | x :: xs, vs, i + 1, h => by
    simp only [DVs] at h
    obtain ⟨w, r, rfl, h1, h2⟩ := h
    simp only [List.set_cons_succ, DVs]
    exact ⟨w, _, rfl, h1, DVs.set k i h2⟩
theorem DVs.eraseIdx : ∀ {ds : List D} {vs : List V} (i : Nat), DVs Z H μ ds vs → DVs Z H μ (ds.eraseIdx i) (vs.eraseIdx i)
  | [], vs, i, h => by simp only [DVs] at h; subst h; simp only [List.eraseIdx_nil, DVs]
  | x :: xs, vs, 0, h => by
    simp only [DVs] at h
    obtain ⟨w, r, rfl, h1, h2⟩ := h
    simpa only [List.eraseIdx_cons_zero] using h2
  | x :: xs, vs, i + 1, h => by
    simp only [DVs] at h
    obtain ⟨w, r, rfl, h1, h2⟩ := h
    simp only [List.eraseIdx_cons_succ, DVs]
    exact ⟨w, _, rfl, h1, DVs.eraseIdx i h2⟩

theorem Rol.sqL {a : Addr} {vs : List V} (h : Rol Z H a vs) : SqL Z.K H a vs := by
  rcases h with ⟨o, h⟩ | h
  · exact .inl (.inr ⟨o, h⟩)
  · exact .inr h
theorem RS.at (R : RS Z μ S H) {i : Nat} {o : Ob} (h : S[i]? = some o) : ∃ a, μ[i]? = some a ∧ OOk Z H μ a o := by
  have hi := (List.getElem?_eq_some_iff.mp h).1
  have hm : i < μ.length := by rw [R.len]; exact hi
  exact ⟨μ[i], List.getElem?_eq_getElem hm, R.obj i o _ h (List.getElem?_eq_getElem hm)⟩
/-- a list of the store, as the layer reads it -/
theorem RS.list (R : RS Z μ S H) {i : Nat} {xs : List D} (h : S.l i = some xs) : ∃ a vs, μ[i]? = some a ∧ SqL Z.K H a vs ∧ DVs Z H μ xs vs ∧ xs.length ≤ SL := by
  unfold Sto.l at h
  cases e : S[i]? with
  | none => rw [e] at h; cases h
  | some o =>
    rw [e] at h
    obtain ⟨a, ha, ok⟩ := R.at e
    cases o with
    | lst ys =>
      cases h
      obtain ⟨z, vs, h1, h2⟩ := ok
      exact ⟨a, vs, ha, SqL.of h1, h2, z⟩
    | ins c fs => cases h
    | dct _ => cases h
    | set _ => cases h
/-- behind a step, an object that was not written -/
theorem OOk.mo (e : Mo μ H μ' H') {a : Addr} {o : Ob} (hk : ∀ q, H a = some q → H' a = some q) (h : OOk Z H μ a o) : OOk Z H' μ' a o := by
  cases o with
  | lst xs =>
    obtain ⟨z, vs, h1, h2⟩ := h
    exact ⟨z, vs, hk _ h1, h2.mo e⟩
  | ins c fs =>
    obtain ⟨dx, gs, h1, h2⟩ := h
    exact ⟨dx, gs, hk _ h1, h2.mo e⟩
  | dct _ => exact h.elim
  | set _ => exact h.elim
theorem OOk.mono (e : Ext μ H μ' H') {a : Addr} {o : Ob} (hk : ∀ q, H a = some q → H' a = some q) (h : OOk Z H μ a o) : OOk Z H' μ' a o := h.mo e.mo hk

/-- what the store has is tracked -/
theorem RS.tracked (R : RS Z μ S H) {a : Addr} (h : a ∈ μ) : ∃ q, H a = some q ∧ (∀ xs, q ≠ .tup xs) ∧ ∀ w u, q ≠ .frz w u := by
  obtain ⟨i, hi, e⟩ := List.mem_iff_getElem.mp h
  have hs : i < S.length := by rw [← R.len]; exact hi
  have ok := R.obj i S[i] a (List.getElem?_eq_getElem hs) (by rw [List.getElem?_eq_getElem hi, e])
  cases ho : S[i] with
  | lst ys =>
    rw [ho] at ok
    obtain ⟨_, vs, h1, _⟩ := ok
    exact ⟨_, h1, (fun _ z => by cases z), (fun _ _ z => by cases z)⟩
  | ins c fs =>
    rw [ho] at ok
    obtain ⟨dx, gs, h1, _⟩ := ok
    exact ⟨_, h1, (fun _ z => by cases z), (fun _ _ z => by cases z)⟩
  | dct _ => rw [ho] at ok; exact ok.elim
  | set _ => rw [ho] at ok; exact ok.elim
theorem RS.fresh (R : RS Z μ S H) {a : Addr} (h : H a = none) : a ∉ μ := fun hm => by
  obtain ⟨q, hq, _⟩ := R.tracked hm
  rw [h] at hq; cases hq
/-- an object laid anew that the store does not have (a tuple, a dict of an error) -/
theorem RS.aside (R : RS Z μ S H) {a : Addr} {o : HO} (hn : H a = none) : Ext μ H μ (upd H a o) ∧ RS Z μ S (upd H a o) := by
  have e : Ext μ H μ (upd H a o) := by
    refine ⟨⟨[], by simp⟩, fun b q _ h => by rw [upd_ne (ne_of_none h hn)]; exact h, fun b h => .inl h, fun b xs h => ?_, fun b q u h => by rw [upd_ne (ne_of_none h hn)]; exact h⟩
    rcases h with h | ⟨w, h⟩
    · exact .inl (by rw [upd_ne (ne_of_none h hn)]; exact h)
    · exact .inr ⟨w, by rw [upd_ne (ne_of_none h hn)]; exact h⟩
  exact ⟨e, R.len, R.nd, fun i q b h1 h2 => (R.obj i q b h1 h2).mono e fun x hx => by rw [upd_ne (ne_of_none hx hn)]; exact hx⟩
/-- an object laid anew and put into the store -/
theorem RS.push (R : RS Z μ S H) {a : Addr} {o : HO} {ob : Ob} (hn : H a = none) (ho : Ext μ H (μ ++ [a]) (upd H a o) → OOk Z (upd H a o) (μ ++ [a]) a ob) : Ext μ H (μ ++ [a]) (upd H a o) ∧ RS Z (μ ++ [a]) (S ++ [ob]) (upd H a o) := by
  have e : Ext μ H (μ ++ [a]) (upd H a o) := by
    refine ⟨⟨[a], rfl⟩, fun b q _ h => by rw [upd_ne (ne_of_none h hn)]; exact h, fun b h => ?_, fun b xs h => ?_, fun b q u h => by rw [upd_ne (ne_of_none h hn)]; exact h⟩
    · rcases List.mem_append.mp h with h | h
      · exact .inl h
      · rw [List.mem_singleton.mp h]; exact .inr hn
    · rcases h with h | ⟨w, h⟩
      · exact .inl (by rw [upd_ne (ne_of_none h hn)]; exact h)
      · exact .inr ⟨w, by rw [upd_ne (ne_of_none h hn)]; exact h⟩
  refine ⟨e, by simp [R.len], ?_, fun i q b h1 h2 => ?_⟩
  · rw [List.nodup_append]
    refine ⟨R.nd, by simp, fun x hx y hy => ?_⟩
    rw [List.mem_singleton.mp hy]
    rintro rfl
    exact R.fresh hn hx
  · by_cases hi : i < S.length
    · rw [List.getElem?_append_left hi] at h1
      rw [List.getElem?_append_left (by rw [R.len]; exact hi)] at h2
      exact (R.obj i q b h1 h2).mono e fun x hx => by rw [upd_ne (ne_of_none hx hn)]; exact hx
    · have hi' : i = S.length := by
        have := (List.getElem?_eq_some_iff.mp h1).1
        simp at this
        omega
      subst hi'
      rw [List.getElem?_append_right (Nat.le_refl _)] at h1
      rw [← R.len, List.getElem?_append_right (Nat.le_refl _)] at h2
      simp at h1 h2
      subst h1; subst h2
      exact ho e
/-- an object of the store written -/
theorem RS.write (R : RS Z μ S H) {i : Nat} {a : Addr} {o : HO} {ob : Ob} (h0 : μ[i]? = some a) (ho : Ext μ H μ (upd H a o) → OOk Z (upd H a o) μ a ob) : Ext μ H μ (upd H a o) ∧ RS Z μ (S.set i ob) (upd H a o) := by
  have ham := List.mem_of_getElem? h0
  have hil : i < S.length := by rw [← R.len]; exact (List.getElem?_eq_some_iff.mp h0).1
  obtain ⟨q, hs, hq, hq2⟩ := R.tracked ham
  have nt : ∀ xs, ¬ Rd H a (.tup xs) := fun xs z => by
    rcases z with z | ⟨w, z⟩
    · rw [hs] at z; cases z; exact hq _ rfl
    · rw [hs] at z; cases z; exact hq2 _ _ rfl
  have e : Ext μ H μ (upd H a o) := by
    refine ⟨⟨[], by simp⟩, fun b q hb h => ?_, fun b h => .inl h, fun b xs h => ?_, fun b w u h => ?_⟩
    · rw [upd_ne (fun z : b = a => hb (by rw [z]; exact ham))]; exact h
    · have hb : b ≠ a := fun z => nt xs (z ▸ h)
      rcases h with h | ⟨w, h⟩
      · exact .inl (by rw [upd_ne hb]; exact h)
      · exact .inr ⟨w, by rw [upd_ne hb]; exact h⟩
    · have hb : b ≠ a := fun z => by rw [z, hs] at h; cases h; exact hq2 _ _ rfl
      rw [upd_ne hb]; exact h
  refine ⟨e, by rw [List.length_set]; exact R.len, R.nd, fun j q' b h1 h2 => ?_⟩
  by_cases hj : j = i
  · subst hj
    rw [h0] at h2; cases h2
    rw [List.getElem?_set_self hil] at h1
    cases h1
    exact ho e
  · rw [List.getElem?_set_ne (Ne.symm hj)] at h1
    have hb : b ≠ a := by
      rintro rfl
      obtain ⟨l1, e1⟩ := List.getElem?_eq_some_iff.mp h2
      obtain ⟨l2, e2⟩ := List.getElem?_eq_some_iff.mp h0
      exact hj ((List.getElem_inj R.nd).mp (e1.trans e2.symm))
    exact (R.obj j q' b h1 h2).mono e fun x hx => by rw [upd_ne hb]; exact hx
end

section
variable {Z : Zz} {H H' H1 : Hp} {μ μ1 : List Addr} {S : Sto}
/-- an object that the store does not have is written -/
theorem RS.over (R : RS Z μ S H) {a : Addr} {o q : HO} (hq : H a = some q) (h1 : ∀ xs, q ≠ .tup xs) (h2 : ∀ w u, q ≠ .frz w u) (ha : a ∉ μ) : Mo μ H μ (upd H a o) ∧ RS Z μ S (upd H a o) := by
  have e : Mo μ H μ (upd H a o) := by
    refine ⟨⟨[], by simp⟩, fun b xs h => ?_, fun b w u h => ?_⟩
    · have hb : b ≠ a := fun z => by
        subst z
        rcases h with h | ⟨w, h⟩
        · rw [hq] at h; cases h; exact h1 _ rfl
        · rw [hq] at h; cases h; exact h2 _ _ rfl
      rcases h with h | ⟨w, h⟩
      · exact .inl (by rw [upd_ne hb]; exact h)
      · exact .inr ⟨w, by rw [upd_ne hb]; exact h⟩
    · have hb : b ≠ a := fun z => by subst z; rw [hq] at h; cases h; exact h2 _ _ rfl
      rw [upd_ne hb]; exact h
  exact ⟨e, R.len, R.nd, fun i ob b g1 g2 => (R.obj i ob b g1 g2).mo e fun x hx => by rw [upd_ne (fun z : b = a => ha (z ▸ List.mem_of_getElem? g2))]; exact hx⟩
theorem Ext.over (e : Ext μ1 H1 μ H) {a : Addr} {o : HO} (hn : H1 a = none) : Ext μ1 H1 μ (upd H a o) where
  pre := e.pre
  keep := fun b q hb h => by rw [upd_ne (ne_of_none h hn)]; exact e.keep b q hb h
  new := e.new
  tup := fun b xs h => by
    have hb : b ≠ a := fun z => by
      subst z
      rcases h with h | ⟨w, h⟩ <;> (rw [hn] at h; cases h)
    rcases e.tup b xs h with h | ⟨w, h⟩
    · exact .inl (by rw [upd_ne hb]; exact h)
    · exact .inr ⟨w, by rw [upd_ne hb]; exact h⟩
  frz := fun b q u h => by rw [upd_ne (ne_of_none h hn)]; exact e.frz b q u h
theorem Ext.out (e : Ext μ H μ1 H1) {a : Addr} {o : HO} (hq : H a = some o) (ha : a ∉ μ) : a ∉ μ1 ∧ H1 a = some o :=
  ⟨fun h => (e.new a h).elim ha (fun z => by rw [hq] at z; cases z), e.keep a o ha hq⟩
/-- a list that the store did not have is taken in -/
theorem RS.adopt (R : RS Z μ S H) (e : Ext μ1 H1 μ H) {a : Addr} {xs : List D} {vs : List V} (hq : H a = some (.lst vs)) (hn : H1 a = none) (ha : a ∉ μ) (hz : xs.length ≤ SL) (hv : DVs Z H μ xs vs) :
    Ext μ1 H1 (μ ++ [a]) H ∧ RS Z (μ ++ [a]) (S ++ [.lst xs]) H := by
  have m : Mo μ H (μ ++ [a]) H := ⟨⟨[a], rfl⟩, fun _ _ h => h, fun _ _ _ h => h⟩
  refine ⟨⟨?_, e.keep, fun b hb => ?_, e.tup, e.frz⟩, by simp [R.len], ?_, fun i q b h1 h2 => ?_⟩
  · obtain ⟨ν, rfl⟩ := e.pre
    exact ⟨ν ++ [a], by simp⟩
  · rcases List.mem_append.mp hb with hb | hb
    · exact e.new b hb
    · rw [List.mem_singleton.mp hb]; exact .inr hn
  · rw [List.nodup_append]
    refine ⟨R.nd, by simp, fun x hx y hy => ?_⟩
    rw [List.mem_singleton.mp hy]
    rintro rfl
    exact ha hx
  · by_cases hi : i < S.length
    · rw [List.getElem?_append_left hi] at h1
      rw [List.getElem?_append_left (by rw [R.len]; exact hi)] at h2
      exact (R.obj i q b h1 h2).mo m fun x hx => hx
    · have hi' : i = S.length := by
        have := (List.getElem?_eq_some_iff.mp h1).1
        simp at this
        omega
      subst hi'
      rw [List.getElem?_append_right (Nat.le_refl _)] at h1
      rw [← R.len, List.getElem?_append_right (Nat.le_refl _)] at h2
      simp at h1 h2
      subst h1; subst h2
      exact ⟨hz, vs, hq, hv.mo m⟩
end

/-! ### what is wanted of an end -/
structure Kt where
  v : List D → Sto → List Addr → Hp → Prop := fun _ _ _ _ => False
  nx : Sl → Sto → List Addr → Hp → Prop := fun _ _ _ _ => False
  rt : D → Sto → List Addr → Hp → Prop := fun _ _ _ _ => False
  bk : Sl → Sto → List Addr → Hp → Prop := fun _ _ _ _ => False
  ct : Sl → Sto → List Addr → Hp → Prop := fun _ _ _ _ => False
  x : Nat → List (Nat × D) → Sl → Sto → List Addr → Hp → Prop := fun _ _ _ _ _ _ => False
def Want (Z : Zz) (μ : List Addr) (H : Hp) (k : Kt) (r : Res) : Prop :=
  match r with
  | .val ds S => ∀ μ' H', Ext μ H μ' H' → RS Z μ' S H' → k.v ds S μ' H'
  | .nx σ S => ∀ μ' H', Ext μ H μ' H' → RS Z μ' S H' → k.nx σ S μ' H'
  | .rt d S => ∀ μ' H', Ext μ H μ' H' → RS Z μ' S H' → k.rt d S μ' H'
  | .bk σ S => ∀ μ' H', Ext μ H μ' H' → RS Z μ' S H' → k.bk σ S μ' H'
  | .ct σ S => ∀ μ' H', Ext μ H μ' H' → RS Z μ' S H' → k.ct σ S μ' H'
  | .exc c fs σ S => ∀ μ' H', Ext μ H μ' H' → RS Z μ' S H' → k.x c fs σ S μ' H'
  | .bad => False
section
variable {Z : Zz} {H H' : Hp} {μ μ' : List Addr} {k k' : Kt} {r : Res} {σ : Sl}
theorem Want.ext (e : Ext μ H μ' H') (h : Want Z μ H k r) : Want Z μ' H' k r := by
  cases r <;> first
    | exact h
    | (intro μ2 H2 e2 R2; exact h μ2 H2 (e.trans e2) R2)
/-- k is weakened -/
theorem Want.mono (h : Want Z μ H k r) (hv : ∀ ds S μ' H', Ext μ H μ' H' → RS Z μ' S H' → k.v ds S μ' H' → k'.v ds S μ' H')
    (hnx : ∀ ds S μ' H', Ext μ H μ' H' → RS Z μ' S H' → k.nx ds S μ' H' → k'.nx ds S μ' H')
    (hrt : ∀ ds S μ' H', Ext μ H μ' H' → RS Z μ' S H' → k.rt ds S μ' H' → k'.rt ds S μ' H')
    (hbk : ∀ ds S μ' H', Ext μ H μ' H' → RS Z μ' S H' → k.bk ds S μ' H' → k'.bk ds S μ' H')
    (hct : ∀ ds S μ' H', Ext μ H μ' H' → RS Z μ' S H' → k.ct ds S μ' H' → k'.ct ds S μ' H')
    (hx : ∀ c fs σ S μ' H', Ext μ H μ' H' → RS Z μ' S H' → k.x c fs σ S μ' H' → k'.x c fs σ S μ' H') : Want Z μ H k' r := by
  cases r with
  | bad => exact h
  | val ds S => intro μ2 H2 e2 R2; exact hv _ _ _ _ e2 R2 (h _ _ e2 R2)
  | nx ds S => intro μ2 H2 e2 R2; exact hnx _ _ _ _ e2 R2 (h _ _ e2 R2)
  | rt ds S => intro μ2 H2 e2 R2; exact hrt _ _ _ _ e2 R2 (h _ _ e2 R2)
  | bk ds S => intro μ2 H2 e2 R2; exact hbk _ _ _ _ e2 R2 (h _ _ e2 R2)
  | ct ds S => intro μ2 H2 e2 R2; exact hct _ _ _ _ e2 R2 (h _ _ e2 R2)
  | exc c fs σ S => intro μ2 H2 e2 R2; exact hx _ _ _ _ _ _ e2 R2 (h _ _ e2 R2)
/-- a value first -/
theorem Want.b1 {f : D → Sto → Res} (h : Want Z μ H k (b1 σ r f)) :
    Want Z μ H { v := fun ds S μ1 H1 => ∃ d, ds = [d] ∧ Want Z μ1 H1 k (f d S), x := fun c fs _ S μ1 H1 => k.x c fs σ S μ1 H1 } r := by
  cases r with
  | val ds S =>
    match ds, h with
    | [d], h => exact fun μ1 H1 e R => ⟨d, rfl, Want.ext e h⟩
    | [], h => exact h.elim
    | _ :: _ :: _, h => exact h.elim
  | exc c fs σ' S => exact fun μ1 H1 e R => h μ1 H1 e R
  | nx _ _ => exact h.elim
  | rt _ _ => exact h.elim
  | bk _ _ => exact h.elim
  | ct _ _ => exact h.elim
  | bad => exact h.elim
theorem Want.bv {f : List D → Sto → Res} (h : Want Z μ H k (bv σ r f)) :
    Want Z μ H { v := fun ds S μ1 H1 => Want Z μ1 H1 k (f ds S), x := fun c fs _ S μ1 H1 => k.x c fs σ S μ1 H1 } r := by
  cases r with
  | val ds S => exact fun μ1 H1 e R => Want.ext e h
  | exc c fs σ' S => exact fun μ1 H1 e R => h μ1 H1 e R
  | nx _ _ => exact h.elim
  | rt _ _ => exact h.elim
  | bk _ _ => exact h.elim
  | ct _ _ => exact h.elim
  | bad => exact h.elim
theorem Want.bn {f : Sl → Sto → Res} (h : Want Z μ H k (bn r f)) : Want Z μ H { k with nx := fun σ S μ1 H1 => Want Z μ1 H1 k (f σ S) } r := by
  cases r with
  | nx σ' S => exact fun μ1 H1 e R => Want.ext e h
  | _ => exact h
end

/-! ### the readings -/
/-- an error as it stands in the layer's heap -/
def XV (Z : Zz) (H : Hp) (μ : List Addr) (c : Nat) (fs : List (Nat × D)) (cls : Value) (dd : Option Addr) : Prop :=
  cls = .ref (Z.ca c) ∧ ((fs = [] ∧ dd = none) ∨ ∃ d gs, dd = some d ∧ d ∉ μ ∧ H d = some (.xd gs) ∧ FVs Z H μ fs gs)
abbrev kX (Z : Zz) (W : WX) (τ : St) : Nat → List (Nat × D) → Sl → Sto → List Addr → Hp → Prop := fun c fs _ _ μ H => ∀ cls dd, XV Z H μ c fs cls dd → W cls dd τ H
abbrev kE (Z : Zz) (W : WX) (τ : St) (Q : VK) : Kt := { v := fun ds _ μ H => ∃ d, ds = [d] ∧ ∀ v, DV Z H μ d v → Q v H, x := kX Z W τ }
abbrev kA (Z : Zz) (W : WX) (τ : St) (Q : List V → Hp → Prop) : Kt := { v := fun ds _ μ H => ∀ vs, DVs Z H μ ds vs → Q vs H, x := kX Z W τ }
abbrev kT (Z : Zz) (W : WX) (τ : St) (Q : Bool → Hp → Prop) : Kt := { v := fun ds S _ H => ∃ d b, ds = [d] ∧ tru S d = some b ∧ Q b H, x := kX Z W τ }
abbrev kS (Z : Zz) (W : WX) (D : Ends) : Kt :=
  { nx := fun σ _ μ H => ∀ τ, SV Z H μ σ τ → D.nx τ H, rt := fun d _ μ H => ∀ v, DV Z H μ d v → D.rt v H, bk := fun σ _ μ H => ∀ τ, SV Z H μ σ τ → D.bk τ H, ct := fun σ _ μ H => ∀ τ, SV Z H μ σ τ → D.ct τ H,
    x := fun c fs σ _ μ H => ∀ τ, SV Z H μ σ τ → ∀ cls dd, XV Z H μ c fs cls dd → W cls dd τ H }
/-- a statement in a place from which no error is let out -/
abbrev kG (Z : Zz) (Q : St → Hp → Prop) : Kt := { nx := fun σ _ μ H => ∀ τ, SV Z H μ σ τ → Q τ H }
section
variable (Z : Zz) (P : Pg) (Φ : Nat → List D → Sto → Res) (W : WX) (c : C)
def rdE : TE := fun τ H Q => ∃ μ σ S, RS Z μ S H ∧ SV Z H μ σ τ ∧ Want Z μ H (kE Z W τ Q) (ev P Φ c [] σ S)
def rdA : TA := fun τ H Q => ∃ μ σ S, RS Z μ S H ∧ SV Z H μ σ τ ∧ Want Z μ H (kA Z W τ Q) (ev P Φ c [] σ S)
def rdT : TT := fun τ H Q => ∃ μ σ S, RS Z μ S H ∧ SV Z H μ σ τ ∧ Want Z μ H (kT Z W τ Q) (ev P Φ c [] σ S)
def rdS : TS := fun D τ H => ∃ μ σ S, RS Z μ S H ∧ SV Z H μ σ τ ∧ Want Z μ H (kS Z W D) (ev P Φ c [] σ S)
def rdG : TG := fun v τ H Q => ∃ μ σ S d, RS Z μ S H ∧ SV Z H μ σ τ ∧ DV Z H μ d v ∧ Want Z μ H (kG Z Q) (ev P Φ c [d] σ S)
def rdGs : TGs := fun vs τ H Q => ∃ μ σ S ds, RS Z μ S H ∧ SV Z H μ σ τ ∧ DVs Z H μ ds vs ∧ Want Z μ H (kG Z Q) (ev P Φ c ds σ S)
end
theorem PE.imp {X : Cx} {e : Expr} {t t' : TE} (h : PE X e t) (f : ∀ σ H Q, t' σ H Q → t σ H Q) : PE X e t' := ⟨fun pins s σ H Q I q => h.run pins s σ H Q I (f σ H Q q)⟩
theorem PT.imp {X : Cx} {e : Expr} {t t' : TT} (h : PT X e t) (f : ∀ σ H Q, t' σ H Q → t σ H Q) : PT X e t' := ⟨fun pins s σ H Q I q => h.run pins s σ H Q I (f σ H Q q)⟩
theorem PW.imp {X : Cx} {e : Expr} {t t' : TT} (h : PW X e t) (f : ∀ σ H Q, t' σ H Q → t σ H Q) : PW X e t' := ⟨fun wh pins s σ H Q I q => h.run wh pins s σ H Q I (f σ H Q q)⟩
theorem PA.imp {X : Cx} {e : List Expr} {t t' : TA} (h : PA X e t) (f : ∀ σ H Q, t' σ H Q → t σ H Q) : PA X e t' := ⟨fun p pins s σ H Q I q => h.run p pins s σ H Q I (f σ H Q q)⟩
theorem PS.imp {X : Cx} {e : Stmt} {t t' : TS} (h : PS X e t) (f : ∀ D σ H, t' D σ H → t D σ H) : PS X e t' := ⟨fun pins s σ H D I q => h.run pins s σ H D I (f D σ H q)⟩
theorem PSs.imp {X : Cx} {e : List Stmt} {t t' : TS} (h : PSs X e t) (f : ∀ D σ H, t' D σ H → t D σ H) : PSs X e t' := ⟨fun pins s σ H D I q => h.run pins s σ H D I (f D σ H q)⟩
theorem PG.imp {X : Cx} {e : Expr} {t t' : TG} (h : PG X e t) (f : ∀ v σ H Q, t' v σ H Q → t v σ H Q) : PG X e t' := ⟨fun pins s σ H v u Q I r q => h.run pins s σ H v u Q I r (f v σ H Q q)⟩
theorem PGs.imp {X : Cx} {e : List Expr} {t t' : TGs} (h : PGs X e t) (f : ∀ v σ H Q, t' v σ H Q → t v σ H Q) : PGs X e t' := ⟨fun pins s σ H v u Q I r q => h.run pins s σ H v u Q I r (f v σ H Q q)⟩
theorem PI.imp {X : Cx} {tg e : Expr} {t t' : TI} (h : PI X tg e t) (f : ∀ σ H Q, t' σ H Q → t σ H Q) : PI X tg e t' := ⟨fun pins s σ H Q I q => h.run pins s σ H Q I (f σ H Q q)⟩
end Vm

/-! The operations: what the small machine says is what the layer's rules give. -/
namespace Vm
open PySem L2

section
variable {Z : Zz} {H : Hp} {μ : List Addr} {S : Sto}
/-! ### data -/
theorem strOk_of {s : List Nat} (h : ∀ c ∈ s, c < 0x110000) : PyData.strOk ⟨s.toArray⟩ = true := by
  unfold PyData.strOk
  simp only [List.all_toArray, List.all_eq_true, decide_eq_true_eq]
  exact h
theorem pds_cons {n : Nat} {x : D} {xs : List D} {ps : List PyData} (h : pds S n (x :: xs) = some ps) : ∃ p q, pd S n x = some p ∧ pds S n xs = some q ∧ ps = p :: q := by
  rw [pds_con] at h
  cases e : pd S n x with
  | none => rw [e] at h; cases h
  | some p =>
    rw [e] at h
    cases e2 : pds S n xs with
    | none => rw [e2] at h; cases h
    | some q => rw [e2] at h; cases h; exact ⟨p, q, rfl, rfl, rfl⟩
/-- what reads as data -/
def PdOk (Z : Zz) (H : Hp) (μ : List Addr) (S : Sto) (n : Nat) : Prop := ∀ (d : D) (p : PyData) (v : V), pd S n d = some p → DV Z H μ d v → Dp Z.K H v p ∧ p.canLay0 = true ∧ p.depth ≤ n
theorem pds_ok {n : Nat} (h : PdOk Z H μ S n) : ∀ (ds : List D) (ps : List PyData) (vs : List V), pds S n ds = some ps → DVs Z H μ ds vs → DpAll Z.K H vs ps ∧ PyData.canLayAll0 ps = true ∧ PyData.depthAll ps ≤ n
  | [], ps, vs, h1, h2 => by
    rw [pds_nil] at h1
    cases h1
    simp only [DVs] at h2
    subst h2
    exact ⟨.nil, by rw [PyData.canLayAll0], by rw [PyData.depthAll]; exact Nat.zero_le _⟩
  | x :: xs, ps, vs, h1, h2 => by
    obtain ⟨p, q, e1, e2, rfl⟩ := pds_cons h1
    simp only [DVs] at h2
    obtain ⟨v, r, rfl, h3, h4⟩ := h2
    obtain ⟨a1, a2, a3⟩ := h x p v e1 h3
    obtain ⟨b1, b2, b3⟩ := pds_ok h xs q r e2 h4
    refine ⟨.cons a1 b1, by rw [PyData.canLayAll0, a2, b2]; rfl, by rw [PyData.depthAll]; exact Nat.max_le.mpr ⟨a3, b3⟩⟩
theorem pd_ok (R : RS Z μ S H) : ∀ n, PdOk Z H μ S n := by
  have flat : ∀ (n : Nat) (d : D) (p : PyData) (v : V), (∀ xs, d ≠ .tup xs) → (∀ xs, d ≠ .rol xs) → (∀ i, d ≠ .ref i) → pd S n d = some p → DV Z H μ d v → Dp Z.K H v p ∧ p.canLay0 = true ∧ p.depth ≤ n := by
    intro n d p v n1 n3 n2 h1 h2
    cases d with
    | non => rw [pd_non] at h1; cases h1; simp only [DV] at h2; subst h2; exact ⟨.non, rfl, Nat.zero_le _⟩
    | bl b => rw [pd_bl] at h1; cases h1; simp only [DV] at h2; subst h2; exact ⟨.bl b, rfl, Nat.zero_le _⟩
    | int i => rw [pd_int] at h1; cases h1; simp only [DV] at h2; subst h2; exact ⟨.int i, rfl, Nat.zero_le _⟩
    | str s =>
      rw [pd_str] at h1; cases h1
      simp only [DV] at h2
      obtain ⟨_, h3, rfl⟩ := h2
      exact ⟨.str _, by rw [PyData.canLay0]; exact strOk_of h3, by rw [PyData.depth]; exact Nat.zero_le _⟩
    | tup xs => exact absurd rfl (n1 xs)
    | rol xs => exact absurd rfl (n3 xs)
    | ref i => exact absurd rfl (n2 i)
    | cls c => rw [pd_cls] at h1; cases h1
  intro n
  induction n with
  | zero =>
    intro d p v h1 h2
    cases d with
    | tup xs => simp [pd] at h1
    | rol xs => simp [pd] at h1
    | ref i => simp [pd] at h1
    | _ => exact flat 0 _ p v (fun _ z => by cases z) (fun _ z => by cases z) (fun _ z => by cases z) h1 h2
  | succ n ih =>
    intro d p v h1 h2
    cases d with
    | tup xs =>
      rw [pd_tup] at h1
      cases e : pds S n xs with
      | none => rw [e] at h1; cases h1
      | some ps =>
        rw [e] at h1; cases h1
        simp only [DV] at h2
        obtain ⟨a, vs, rfl, h3, h4⟩ := h2
        obtain ⟨b1, b2, b3⟩ := pds_ok ih xs ps vs e h4
        exact ⟨.tup h3 b1, by rw [PyData.canLay0]; exact b2, by rw [PyData.depth]; omega⟩
    | rol xs =>
      rw [pd_rol] at h1
      cases e : pds S n xs with
      | none => rw [e] at h1; cases h1
      | some ps =>
        rw [e] at h1; cases h1
        simp only [DV] at h2
        obtain ⟨a, vs, rfl, h3, h4⟩ := h2
        obtain ⟨b1, b2, b3⟩ := pds_ok ih xs ps vs e h4
        exact ⟨.lst h3.sqL b1, by rw [PyData.canLay0]; exact b2, by rw [PyData.depth]; omega⟩
    | ref i =>
      rw [pd_ref] at h1
      cases e0 : S.l i with
      | none => rw [e0] at h1; cases h1
      | some xs =>
        rw [e0] at h1
        rw [Option.bind_some] at h1
        cases e : pds S n xs with
        | none => rw [e] at h1; cases h1
        | some ps =>
          rw [e] at h1; cases h1
          simp only [DV] at h2
          obtain ⟨a, ha, rfl⟩ := h2
          obtain ⟨a', vs, ha', h3, h4, _⟩ := R.list e0
          rw [ha] at ha'; cases ha'
          obtain ⟨b1, b2, b3⟩ := pds_ok ih xs ps vs e h4
          exact ⟨.lst h3 b1, by rw [PyData.canLay0]; exact b2, by rw [PyData.depth]; omega⟩
    | _ => exact flat (n + 1) _ p v (fun _ z => by cases z) (fun _ z => by cases z) (fun _ z => by cases z) h1 h2
theorem shaped_of {p : PyData} (h1 : p.canLay0 = true) (h2 : p.depth ≤ 40) : SeqAt.shaped p = true := by
  unfold SeqAt.shaped
  rw [h1, decide_eq_true (by omega : p.depth ≤ 64)]
  rfl
theorem eqD_ok (R : RS Z μ S H) {a b : D} {x y : V} {r : Bool} (h : eqD S a b = some r) (ha : DV Z H μ a x) (hb : DV Z H μ b y) :
    ∃ d e, Dp Z.K H x d ∧ Dp Z.K H y e ∧ SeqAt.shaped d = true ∧ SeqAt.shaped e = true ∧ PyData.eqv d e = r := by
  unfold eqD at h
  cases e1 : pd S 40 a with
  | none => rw [e1] at h; cases h
  | some d =>
    cases e2 : pd S 40 b with
    | none => rw [e1, e2] at h; cases h
    | some e =>
      rw [e1, e2] at h
      cases h
      obtain ⟨a1, a2, a3⟩ := pd_ok R 40 a d x e1 ha
      obtain ⟨b1, b2, b3⟩ := pd_ok R 40 b e y e2 hb
      exact ⟨d, e, a1, b1, shaped_of a2 a3, shaped_of b2 b3, rfl⟩
end

/-! ### two values -/
/-- what is wanted of a value that comes back -/
abbrev kQ (Z : Zz) (Q : VK) : Kt := { v := fun ds _ μ H => ∃ d, ds = [d] ∧ ∀ v, DV Z H μ d v → Q v H }
def rB (Z : Zz) (f : D → D → Sto → Res) : R2 := fun x y H Q => ∃ μ S d e, RS Z μ S H ∧ DV Z H μ d x ∧ DV Z H μ e y ∧ Want Z μ H (kQ Z Q) (f d e S)
def rC (Z : Zz) (f : D → D → Sto → Option Bool) : R2 := fun x y H Q => ∃ μ S d e b, RS Z μ S H ∧ DV Z H μ d x ∧ DV Z H μ e y ∧ f d e S = some b ∧ Q (.bl b) H
section
variable {X : Cx} {Z : Zz} {H H' : Hp} {μ μ' : List Addr} {S : Sto} {Q : VK}
theorem Want.dn {d : D} {v : V} (h : Want Z μ H (kQ Z Q) (.val [d] S)) (R : RS Z μ S H) (hv : DV Z H μ d v) : Q v H := by
  obtain ⟨d', e, h'⟩ := h μ H Ext.refl R
  cases e
  exact h' v hv
theorem Want.dn' {d : D} {v : V} (h : Want Z μ H (kQ Z Q) (.val [d] S)) (e : Ext μ H μ' H') (R : RS Z μ' S H') (hv : DV Z H' μ' d v) : Q v H' := by
  obtain ⟨d', e, h'⟩ := h μ' H' e R
  cases e
  exact h' v hv
/-- a new tuple -/
theorem new_tup (R : RS Z μ S H) {xs : List D} {vs : List V} (hxs : DVs Z H μ xs vs) (h : Want Z μ H (kQ Z Q) (.val [.tup xs] S)) {p : Addr} (hp : H p = none) : Q (.ref p) (upd H p (.tup vs)) := by
  obtain ⟨e, R'⟩ := R.aside (o := .tup vs) hp
  refine h.dn' e R' ?_
  simp only [DV]
  exact ⟨p, vs, rfl, SqT.of upd_same, hxs.mono e⟩
/-- a new list -/
theorem new_lst (R : RS Z μ S H) {xs : List D} {vs : List V} (hz : xs.length ≤ SL) (hxs : DVs Z H μ xs vs) (h : Want Z μ H (kQ Z Q) (.val [.ref S.length] (S ++ [.lst xs]))) {p : Addr} (hp : H p = none) : Q (.ref p) (upd H p (.lst vs)) := by
  obtain ⟨e, R'⟩ := R.push (o := .lst vs) (ob := .lst xs) hp fun e => ⟨hz, vs, upd_same, hxs.mono e⟩
  refine h.dn' e R' ?_
  simp only [DV]
  exact ⟨p, by rw [← R.len, List.getElem?_append_right (Nat.le_refl _)]; simp, rfl⟩
/-- a place that is free in the layer's heap is no place of the store, but for a read-only list -/
theorem RS.lst_tracked (R : RS Z μ S H) {i : Nat} {xs : List D} (h : S[i]? = some (.lst xs)) : ∃ a vs, μ[i]? = some a ∧ H a = some (.lst vs) ∧ DVs Z H μ xs vs ∧ xs.length ≤ SL := by
  obtain ⟨a, ha, z, vs, h1, h2⟩ := R.at h
  exact ⟨a, vs, ha, h1, h2, z⟩
end
end Vm

namespace Vm
open PySem L2
section
variable {X : Cx} {Z : Zz}

theorem fmod_pos {i j : Int} (h : 0 < j) : i.fmod j = i % j := Int.fmod_eq_emod_of_nonneg i (by omega)
theorem fdiv_pos {i j : Int} (h : 0 < j) : i.fdiv j = i / j := Int.fdiv_eq_ediv_of_nonneg i (by omega)
theorem mulOk_ok {i j : Int} (h : mulOk i j = true) : CMul i j ∨ CMulW i j := by
  unfold mulOk at h
  simp only [Bool.or_eq_true, decide_eq_true_eq] at h
  rcases h with (h | h) | h
  · left; left; exact ⟨by omega, by omega⟩
  · left; right; exact ⟨by omega, by omega⟩
  · right; exact h
theorem divOk_ok {j : Int} (h : divOk j = true) : CDivN 0 j ∨ CDivW 0 j := by
  unfold divOk at h
  simp only [Bool.and_eq_true, Bool.or_eq_true, decide_eq_true_eq] at h
  obtain ⟨h0, h | h⟩ := h
  · left; exact ⟨h0, h⟩
  · right; exact h
theorem powOk_ok {i j : Int} (h : powOk i j = true) : CPow i j := by
  unfold powOk at h
  simp only [Bool.and_eq_true, decide_eq_true_eq] at h
  exact ⟨h.1.1, h.1.2, h.2⟩

theorem op_int (op : Operator) {i j k : Int} (h : arith op i j = some k) :
    ∀ (pins : List (Addr × Obj)) (s : Shared) (σ : St) (H : Hp) (v u : Value) (Q : VK), Inv X pins σ H s → RelV (.int i) v → RelV (.int j) u → Q (.int k) H → wpAny (model X.prog X.w) X.A (binaryOp op v u) (EP X pins σ Q) X.xe s := by
  intro pins s σ H v u Q I rx ry q
  cases op with
  | Add => cases h; exact op_add pins s σ H _ _ v u Q I rx ry ⟨i, j, rfl, rfl, q⟩
  | Sub => cases h; exact op_sub pins s σ H _ _ v u Q I rx ry ⟨i, j, rfl, rfl, q⟩
  | Mult =>
    simp only [arith] at h
    split at h
    · rename_i hm
      cases h
      rcases mulOk_ok hm with c | c
      · exact op_mul pins s σ H _ _ v u Q I rx ry ⟨i, j, rfl, rfl, c, q⟩
      · exact op_mulW pins s σ H _ _ v u Q I rx ry ⟨i, j, rfl, rfl, c, q⟩
    · cases h
  | FloorDiv =>
    simp only [arith] at h
    split at h
    · rename_i hm
      cases h
      rcases divOk_ok hm with c | c
      · exact op_fdivN pins s σ H _ _ v u Q I rx ry ⟨i, j, rfl, rfl, c, q⟩
      · exact op_fdivW pins s σ H _ _ v u Q I rx ry ⟨i, j, rfl, rfl, c, by rw [fdiv_pos c.1] at q; exact q⟩
    · cases h
  | Mod =>
    simp only [arith] at h
    split at h
    · cases h
    · rename_i hm
      cases h
      exact op_modN pins s σ H _ _ v u Q I rx ry ⟨i, j, rfl, rfl, hm, q⟩
  | Pow =>
    simp only [arith] at h
    split at h
    · rename_i hm
      cases h
      exact op_pow pins s σ H _ _ v u Q I rx ry ⟨i, j, rfl, rfl, powOk_ok hm, q⟩
    · cases h
  | BitAnd => cases h; exact op_and pins s σ H _ _ v u Q I rx ry ⟨i, j, rfl, rfl, q⟩
  | BitOr => cases h; exact op_or pins s σ H _ _ v u Q I rx ry ⟨i, j, rfl, rfl, q⟩
  | BitXor => cases h; exact op_xor pins s σ H _ _ v u Q I rx ry ⟨i, j, rfl, rfl, q⟩
  | _ => cases h

theorem str_append (x y : List Nat) : ((⟨x.toArray⟩ : Str) ++ ⟨y.toArray⟩) = ⟨(x ++ y).toArray⟩ := by
  show (⟨x.toArray ++ y.toArray⟩ : Str) = _
  simp
theorem DVs.nil_iff {H : Hp} {μ : List Addr} {xs : List D} {vs : List V} (h : DVs Z H μ xs vs) : xs = [] ↔ vs = [] := by
  have := h.length
  rw [← List.length_eq_zero_iff, ← List.length_eq_zero_iff, this]

theorem Want.bad {μ : List Addr} {H : Hp} {k : Kt} (h : Want Z μ H k .bad) {p : Prop} : p := False.elim h

/-- the lists of the store that a sum of lists may have -/
theorem op_bin (op : Operator) (hZ : X.K = Z.K) (hc : X.calm = true) : OpR X (binaryOp op) (rB Z (opBin op)) := by
  intro pins s σ H x y v u Q I rx ry h
  obtain ⟨μ, S, d, e, R, hd, he, h⟩ := h
  cases d with
  | int i =>
    cases e with
    | int j =>
      simp only [DV] at hd he
      subst hd; subst he
      simp only [opBin] at h
      cases ha : arith op i j with
      | none => rw [ha] at h; exact h.bad
      | some k =>
        rw [ha] at h
        exact op_int op ha pins s σ H v u Q I rx ry (h.dn R (by simp only [DV]))
    | _ => exact h.bad
  | str x1 =>
    cases e with
    | str y1 =>
      simp only [DV] at hd he
      obtain ⟨hx1, hx2, rfl⟩ := hd
      obtain ⟨hy1, hy2, rfl⟩ := he
      cases op with
      | Add =>
        simp only [opBin] at h
        split at h
        · rename_i hl
          refine op_add_str pins s σ H _ _ v u Q I rx ry ⟨_, _, rfl, rfl, ?_, ?_⟩
          · rw [sizeLine_eq]
            simpa [Str.length] using hl
          · rw [str_append]
            refine h.dn R ?_
            simp only [DV]
            refine ⟨by rw [List.length_append]; exact hl, fun c hc => ?_, trivial⟩
            rcases List.mem_append.mp hc with z | z
            · exact hx2 c z
            · exact hy2 c z
        · exact h.bad
      | _ => exact h.bad
    | _ => exact h.bad
  | tup xs =>
    cases e with
    | tup ys =>
      cases op with
      | Add =>
        simp only [opBin] at h
        split at h
        · rename_i hl
          have hd0 := hd
          have he0 := he
          simp only [DV] at hd he
          obtain ⟨a, vs, rfl, h1, h2⟩ := hd
          obtain ⟨b, ws, rfl, h3, h4⟩ := he
          rw [← hZ] at h1 h3
          refine op_catA pins s σ H _ _ v u Q I rx ry ⟨a, b, vs, ws, rfl, rfl, h1, h3, ?_, fun e0 => ?_, fun e0 e1 => ?_, fun e0 e1 p hp => ?_⟩
          · rw [sizeLine_eq, ← h2.length, ← h4.length]; exact hl
          · rw [h2.nil_iff.mpr e0, List.nil_append] at h
            exact h.dn R he0
          · rw [h4.nil_iff.mpr e1, List.append_nil] at h
            exact h.dn R hd0
          · exact new_tup R (h2.append h4) h hp
        · exact h.bad
      | _ => exact h.bad
    | _ => exact h.bad
  | ref i =>
    cases e with
    | ref j =>
      cases op with
      | Add =>
        simp only [opBin] at h
        split at h
        · rename_i xs ys e1 e2
          split at h
          · rename_i hl
            simp only [DV] at hd he
            obtain ⟨a, ha, rfl⟩ := hd
            obtain ⟨b, hb, rfl⟩ := he
            obtain ⟨a', vs, ha', h1, h2, _⟩ := R.lst_tracked e1
            rw [ha] at ha'; cases ha'
            obtain ⟨b', ws, hb', h3, h4, _⟩ := R.lst_tracked e2
            rw [hb] at hb'; cases hb'
            refine op_cat pins s σ H _ _ v u Q I rx ry ⟨a, b, vs, ws, rfl, rfl, h1, h3, ?_, fun p hp => ?_⟩
            · rw [sizeLine_eq, ← h2.length, ← h4.length]; exact hl
            · exact new_lst R (by rw [List.length_append]; exact hl) (h2.append h4) h hp
          · exact h.bad
        · exact h.bad
      | _ => exact h.bad
    | _ => exact h.bad
  | non => exact h.bad
  | bl b => exact h.bad
  | rol b => exact h.bad
  | cls c => exact h.bad

/-! ### comparisons -/
theorem fin_c {H : Hp} {Q : VK} {b : Bool} (h : Q (.bl b) H) : Q (.bl b) H := h
theorem op_cmp (op : CmpOp) (hZ : X.K = Z.K) (hu : X.A.units + 65 < cLine) : OpR X (compareOp op) (rC Z (opCmp op)) := by
  intro pins s σ H x y v u Q I rx ry h
  obtain ⟨μ, S, d, e, b, R, hd, he, h, q⟩ := h
  have isN : ∀ {d : D} {x : V}, DV Z H μ d x → decide (x = .non) = (match d with | .non => true | _ => false) := fun {d x} hd => by
    cases d with
    | non => simp only [DV] at hd; subst hd; rfl
    | bl _ => simp only [DV] at hd; subst hd; simp
    | int _ => simp only [DV] at hd; subst hd; simp
    | str _ => simp only [DV] at hd; obtain ⟨_, _, rfl⟩ := hd; simp
    | tup _ => simp only [DV] at hd; obtain ⟨_, _, rfl, _⟩ := hd; simp
    | rol _ => simp only [DV] at hd; obtain ⟨_, _, rfl, _⟩ := hd; simp
    | ref _ => simp only [DV] at hd; obtain ⟨_, _, rfl⟩ := hd; simp
    | cls _ => simp only [DV] at hd; subst hd; simp
  have inn : ∀ {b : Bool}, contains S d e = some b → (∀ k, k = b → Q (.bl k) H → wpAny (model X.prog X.w) X.A (compareOp .In v u) (EP X pins σ Q) X.xe s) ∧ (∀ k, k = (!b) → Q (.bl k) H → wpAny (model X.prog X.w) X.A (compareOp .NotIn v u) (EP X pins σ Q) X.xe s) := by
    intro b h
    cases e with
    | tup ys =>
      simp only [contains] at h
      cases e1 : pd S 40 d with
      | none => rw [e1] at h; cases h
      | some p =>
        cases e2 : pds S 39 ys with
        | none => rw [e1, e2] at h; cases h
        | some ps =>
          rw [e1, e2] at h
          cases h
          obtain ⟨a1, a2, a3⟩ := pd_ok R 40 d p x e1 hd
          simp only [DV] at he
          obtain ⟨a, vs, rfl, h3, h4⟩ := he
          obtain ⟨b1, b2, b3⟩ := pds_ok (pd_ok R 39) ys ps vs e2 h4
          rw [← hZ] at a1 h3 b1
          obtain ⟨as, r1⟩ := Dp.reads I p x v a1 rx
          obtain ⟨bs, r2⟩ := Dp.reads I (.tuple ps) _ u (.tup h3 b1) ry
          have hr : X.A.units + 1 + min (PyData.depthAll ps) p.depth < cLine := by
            have := Nat.min_le_right (PyData.depthAll ps) p.depth
            omega
          exact ⟨fun k hk q => SeqAt.in_tuple_reads r2 r1 b2 a2 hr ⟨.bl _, H, I, rfl, hk ▸ q⟩, fun k hk q => SeqAt.notIn_tuple_reads r2 r1 b2 a2 hr ⟨.bl _, H, I, rfl, hk ▸ q⟩⟩
    | ref i =>
      simp only [contains] at h
      cases e0 : S.l i with
      | none => rw [e0] at h; cases h
      | some ys =>
        rw [e0] at h
        dsimp only at h
        cases e1 : pd S 40 d with
        | none => rw [e1] at h; cases h
        | some p =>
          cases e2 : pds S 39 ys with
          | none => rw [e1, e2] at h; cases h
          | some ps =>
            rw [e1, e2] at h
            cases h
            obtain ⟨a1, a2, a3⟩ := pd_ok R 40 d p x e1 hd
            simp only [DV] at he
            obtain ⟨a, ha, rfl⟩ := he
            obtain ⟨a', vs, ha', h3, h4, _⟩ := R.list e0
            rw [ha] at ha'; cases ha'
            obtain ⟨b1, b2, b3⟩ := pds_ok (pd_ok R 39) ys ps vs e2 h4
            rw [← hZ] at a1 h3 b1
            obtain ⟨as, r1⟩ := Dp.reads I p x v a1 rx
            obtain ⟨bs, r2⟩ := Dp.reads I (.list ps) _ u (.lst h3 b1) ry
            have hr : X.A.units + 1 + min (PyData.depthAll ps) p.depth < cLine := by
              have := Nat.min_le_right (PyData.depthAll ps) p.depth
              omega
            exact ⟨fun k hk q => SeqAt.in_list_reads r2 r1 b2 a2 hr ⟨.bl _, H, I, rfl, hk ▸ q⟩, fun k hk q => SeqAt.notIn_list_reads r2 r1 b2 a2 hr ⟨.bl _, H, I, rfl, hk ▸ q⟩⟩
    | str z =>
      cases d with
      | str t =>
        simp only [contains] at h
        cases h
        simp only [DV] at hd he
        obtain ⟨_, _, rfl⟩ := hd
        obtain ⟨_, _, rfl⟩ := he
        have hl : (⟨z.toArray⟩ : Str).length = z.length := by simp [Str.length]
        exact ⟨fun k hk q => op_in_str pins s σ H _ _ v u Q I rx ry ⟨_, _, rfl, rfl, by rw [hl]; exact hk ▸ q⟩, fun k hk q => op_notin_str pins s σ H _ _ v u Q I rx ry ⟨_, _, rfl, rfl, by rw [hl]; exact hk ▸ q⟩⟩
      | _ => cases h
    | _ => cases h
  cases op with
  | Eq =>
    obtain ⟨p, q', h1, h2, h3, h4, h5⟩ := eqD_ok R (show eqD S d e = some b from h) hd he
    rw [← hZ] at h1 h2
    exact op_eqD (by omega) pins s σ H x y v u Q I rx ry ⟨p, q', h1, h2, h3, h4, by rw [h5]; exact q⟩
  | NotEq =>
    have h : (eqD S d e).map (!·) = some b := h
    cases e0 : eqD S d e with
    | none => rw [e0] at h; cases h
    | some c =>
      rw [e0] at h
      cases h
      obtain ⟨p, q', h1, h2, h3, h4, h5⟩ := eqD_ok R e0 hd he
      rw [← hZ] at h1 h2
      exact op_neD (by omega) pins s σ H x y v u Q I rx ry ⟨p, q', h1, h2, h3, h4, by rw [h5]; exact q⟩
  | Lt =>
    cases d <;> cases e <;> first
      | (simp only [opCmp, ltI_eq, leI_eq] at h; cases h; simp only [DV] at hd he; subst hd; subst he; exact op_lt pins s σ H _ _ v u Q I rx ry ⟨_, _, rfl, rfl, q⟩)
      | cases h
  | LtE =>
    cases d <;> cases e <;> first
      | (simp only [opCmp, ltI_eq, leI_eq] at h; cases h; simp only [DV] at hd he; subst hd; subst he; exact op_le pins s σ H _ _ v u Q I rx ry ⟨_, _, rfl, rfl, q⟩)
      | cases h
  | Gt =>
    cases d <;> cases e <;> first
      | (simp only [opCmp, ltI_eq, leI_eq] at h; cases h; simp only [DV] at hd he; subst hd; subst he; exact op_gt pins s σ H _ _ v u Q I rx ry ⟨_, _, rfl, rfl, q⟩)
      | cases h
  | GtE =>
    cases d <;> cases e <;> first
      | (simp only [opCmp, ltI_eq, leI_eq] at h; cases h; simp only [DV] at hd he; subst hd; subst he; exact op_ge pins s σ H _ _ v u Q I rx ry ⟨_, _, rfl, rfl, q⟩)
      | cases h
  | Is =>
    cases e with
    | non =>
      simp only [opCmp] at h
      simp only [DV] at he
      subst he
      refine op_isN pins s σ H _ _ v u Q I rx ry ⟨rfl, ?_⟩
      rw [isN hd]
      cases h
      exact q
    | _ => cases h
  | IsNot =>
    cases e with
    | non =>
      simp only [opCmp] at h
      simp only [DV] at he
      subst he
      refine op_notN pins s σ H _ _ v u Q I rx ry ⟨rfl, ?_⟩
      rw [isN hd]
      cases d <;> (cases h; exact q)
    | _ => cases h
  | In => exact (inn (show contains S d e = some b from h)).1 b rfl q
  | NotIn =>
    have h : (contains S d e).map (!·) = some b := h
    cases e0 : contains S d e with
    | none => rw [e0] at h; cases h
    | some c =>
      rw [e0] at h
      cases h
      exact (inn e0).2 _ rfl q

/-! ### truth -/
theorem tru_of {H : Hp} {μ : List Addr} {S : Sto} {d : D} {x : V} {b : Bool} (hZ : X.K = Z.K) (R : RS Z μ S H) (hd : DV Z H μ d x) (h : tru S d = some b) : TruV X.K x H b := by
  have emp : ∀ {ds : List D} {vs : List V}, DVs Z H μ ds vs → (!ds.isEmpty) = !vs.isEmpty := fun {ds vs} k => by
    have := k.nil_iff
    cases ds <;> cases vs <;> simp_all
  cases d with
  | non => cases h; simp only [DV] at hd; subst hd; rfl
  | bl _ => cases h; simp only [DV] at hd; subst hd; rfl
  | int _ => cases h; simp only [DV] at hd; subst hd; rfl
  | str s =>
    cases h
    simp only [DV] at hd
    obtain ⟨h1, _, rfl⟩ := hd
    refine ⟨by rw [sizeLine_eq]; simpa [Str.length] using h1, ?_⟩
    show (!List.isEmpty s) = (((s.toArray.size : Nat) : Int) != 0)
    cases s with
    | nil => rfl
    | cons c r =>
      have e : ((((c :: r).toArray.size : Nat) : Int) != 0) = true := by
        rw [bne_iff_ne, List.size_toArray, List.length_cons]
        omega
      rw [e]
      rfl
  | tup xs =>
    cases h
    simp only [DV] at hd
    obtain ⟨a, vs, rfl, h1, h2⟩ := hd
    rw [← hZ] at h1
    exact .inr (.inl ⟨vs, h1, emp h2⟩)
  | rol xs =>
    cases h
    simp only [DV] at hd
    obtain ⟨a, vs, rfl, h1, h2⟩ := hd
    have h1 := h1.sqL
    rw [← hZ] at h1
    exact .inl ⟨vs, h1, emp h2⟩
  | ref i =>
    simp only [tru] at h
    cases e : S.l i with
    | none => rw [e] at h; cases h
    | some xs =>
      rw [e] at h
      cases h
      simp only [DV] at hd
      obtain ⟨a, ha, rfl⟩ := hd
      obtain ⟨a', vs, ha', h1, h2, _⟩ := R.list e
      rw [ha] at ha'; cases ha'
      rw [← hZ] at h1
      exact .inl ⟨vs, h1, emp h2⟩
  | cls _ => cases h
end
end Vm

namespace Vm
open PySem L2
section
variable {X : Cx} {Z : Zz} {P : Pg} {Φ : Nat → List D → Sto → Res} {W : WX}
variable {H H' : Hp} {μ μ' : List Addr} {S S' : Sto} {σ : Sl} {τ : St} {Q : VK} {k : Kt}

/-- a value's end in an expression -/
theorem Want.dE {d : D} {v : V} (h : Want Z μ H (kE Z W τ Q) (.val [d] S)) (R : RS Z μ S H) (hv : DV Z H μ d v) : Q v H := by
  obtain ⟨d', e, h'⟩ := h μ H Ext.refl R
  cases e
  exact h' v hv
theorem Want.dE' {d : D} {v : V} (h : Want Z μ H (kE Z W τ Q) (.val [d] S)) (e : Ext μ H μ' H') (R : RS Z μ' S H') (hv : DV Z H' μ' d v) : Q v H' := by
  obtain ⟨d', e, h'⟩ := h μ' H' e R
  cases e
  exact h' v hv
/-- the end of an operation that raises nothing -/
theorem Want.toQ {r : Res} (h : Want Z μ H (kE Z W τ Q) r) (hr : ∀ c fs σ S, r ≠ .exc c fs σ S) : Want Z μ H (kQ Z Q) r := by
  cases r with
  | exc c fs σ S => exact absurd rfl (hr c fs σ S)
  | _ => exact h
/-- one value, then the rest -/
theorem stepE {a : C} {f : D → Sto → Res} (R : RS Z μ S H) (L : SV Z H μ σ τ) (h : Want Z μ H k (b1 σ (ev P Φ a [] σ S) f)) (R' : V → Hp → Prop)
    (hx : ∀ c fs S1 μ1 H1, Ext μ H μ1 H1 → RS Z μ1 S1 H1 → k.x c fs σ S1 μ1 H1 → kX Z W τ c fs σ S1 μ1 H1)
    (hk : ∀ d S1 μ1 H1 v, Ext μ H μ1 H1 → RS Z μ1 S1 H1 → SV Z H1 μ1 σ τ → DV Z H1 μ1 d v → Want Z μ1 H1 k (f d S1) → R' v H1) : rdE Z P Φ W a τ H R' := by
  refine ⟨μ, σ, S, R, L, h.b1.mono ?_ (fun _ _ _ _ _ _ z => z) (fun _ _ _ _ _ _ z => z) (fun _ _ _ _ _ _ z => z) (fun _ _ _ _ _ _ z => z) ?_⟩
  · rintro ds S1 μ1 H1 e R1 ⟨d, rfl, w⟩
    exact ⟨d, rfl, fun v hv => hk d S1 μ1 H1 v e R1 (L.mono e) hv w⟩
  · intro c fs σ1 S1 μ1 H1 e R1 z
    exact hx c fs S1 μ1 H1 e R1 z
/-- .. in an expression -/
theorem stepEE {a : C} {f : D → Sto → Res} (R : RS Z μ S H) (L : SV Z H μ σ τ) (h : Want Z μ H (kE Z W τ Q) (b1 σ (ev P Φ a [] σ S) f)) (R' : V → Hp → Prop)
    (hk : ∀ d S1 μ1 H1 v, Ext μ H μ1 H1 → RS Z μ1 S1 H1 → SV Z H1 μ1 σ τ → DV Z H1 μ1 d v → Want Z μ1 H1 (kE Z W τ Q) (f d S1) → R' v H1) : rdE Z P Φ W a τ H R' :=
  stepE R L h R' (fun _ _ _ _ _ _ _ z => z) hk
/-- many values, then the rest -/
theorem stepA {a : C} {f : List D → Sto → Res} (R : RS Z μ S H) (L : SV Z H μ σ τ) (h : Want Z μ H k (bv σ (ev P Φ a [] σ S) f)) (R' : List V → Hp → Prop)
    (hx : ∀ c fs S1 μ1 H1, Ext μ H μ1 H1 → RS Z μ1 S1 H1 → k.x c fs σ S1 μ1 H1 → kX Z W τ c fs σ S1 μ1 H1)
    (hk : ∀ ds S1 μ1 H1 vs, Ext μ H μ1 H1 → RS Z μ1 S1 H1 → SV Z H1 μ1 σ τ → DVs Z H1 μ1 ds vs → Want Z μ1 H1 k (f ds S1) → R' vs H1) : rdA Z P Φ W a τ H R' := by
  refine ⟨μ, σ, S, R, L, h.bv.mono ?_ (fun _ _ _ _ _ _ z => z) (fun _ _ _ _ _ _ z => z) (fun _ _ _ _ _ _ z => z) (fun _ _ _ _ _ _ z => z) ?_⟩
  · intro ds S1 μ1 H1 e R1 w vs hvs
    exact hk ds S1 μ1 H1 vs e R1 (L.mono e) hvs w
  · intro c fs σ1 S1 μ1 H1 e R1 z
    exact hx c fs S1 μ1 H1 e R1 z
/-- a test, then the rest -/
theorem stepT {a : C} {f : D → Sto → Res} (R : RS Z μ S H) (L : SV Z H μ σ τ) (h : Want Z μ H k (b1 σ (ev P Φ a [] σ S) f)) (R' : Bool → Hp → Prop)
    (hx : ∀ c fs S1 μ1 H1, Ext μ H μ1 H1 → RS Z μ1 S1 H1 → k.x c fs σ S1 μ1 H1 → kX Z W τ c fs σ S1 μ1 H1)
    (ht : ∀ d S1 μ1 H1, Want Z μ1 H1 k (f d S1) → ∃ b, tru S1 d = some b)
    (hk : ∀ d S1 μ1 H1 b, Ext μ H μ1 H1 → RS Z μ1 S1 H1 → SV Z H1 μ1 σ τ → tru S1 d = some b → Want Z μ1 H1 k (f d S1) → R' b H1) : rdT Z P Φ W a τ H R' := by
  refine ⟨μ, σ, S, R, L, h.b1.mono ?_ (fun _ _ _ _ _ _ z => z) (fun _ _ _ _ _ _ z => z) (fun _ _ _ _ _ _ z => z) (fun _ _ _ _ _ _ z => z) ?_⟩
  · rintro ds S1 μ1 H1 e R1 ⟨d, rfl, w⟩
    obtain ⟨b, hb⟩ := ht d S1 μ1 H1 w
    exact ⟨d, b, rfl, hb, hk d S1 μ1 H1 b e R1 (L.mono e) hb w⟩
  · intro c fs σ1 S1 μ1 H1 e R1 z
    exact hx c fs S1 μ1 H1 e R1 z

/-! ### names, constants -/
theorem v_var {i : Nat} {x : Str} {pos : Pos} (hN : X.N[i]? = some x) (hv : Vis X.env.scope x) (hd : (x == ("__debug__" : Str)) = false := by decide) (hcd : (x == ("__classdict__" : Str)) = false := by decide) :
    PE X (.Name x pos) (rdE Z P Φ W (.var i)) := by
  refine PE.imp (pe_var hN hv hd hcd) ?_
  rintro τ H Q ⟨μ, σ, S, R, V, h⟩
  simp only [ev] at h
  split at h
  · rename_i d e
    obtain ⟨v, h1, h2⟩ := V.at_ i d e
    exact ⟨v, h1, h.dE R h2⟩
  · exact h.bad
theorem v_int {i : Int} {j : Nat} {pos : Pos} : PE X (.Constant (.int i) j pos) (rdE Z P Φ W (.kon (.int i))) := by
  refine PE.imp pe_int ?_
  rintro τ H Q ⟨μ, σ, S, R, V, h⟩
  exact Want.dE h R (by simp only [DV])
theorem v_bl {b : Bool} {j : Nat} {pos : Pos} : PE X (.Constant (.bool b) j pos) (rdE Z P Φ W (.kon (.bl b))) := by
  refine PE.imp pe_bl ?_
  rintro τ H Q ⟨μ, σ, S, R, V, h⟩
  exact Want.dE h R (by simp only [DV])
theorem v_non {j : Nat} {pos : Pos} : PE X (.Constant .none j pos) (rdE Z P Φ W (.kon .non)) := by
  refine PE.imp pe_non ?_
  rintro τ H Q ⟨μ, σ, S, R, V, h⟩
  exact Want.dE h R (by simp only [DV])
/-- a written text that fits -/
def strFit (x : Str) (s : List Nat) : Bool := decide (x.cps.toList = s) && decide (s.length ≤ SL) && s.all fun c => decide (c < 0x110000)
theorem strFit_ok {x : Str} {s : List Nat} (h : strFit x s = true) : x = ⟨s.toArray⟩ ∧ s.length ≤ SL ∧ ∀ c ∈ s, c < 0x110000 := by
  unfold strFit at h
  simp only [Bool.and_eq_true, decide_eq_true_eq, List.all_eq_true] at h
  obtain ⟨⟨h1, h2⟩, h3⟩ := h
  refine ⟨?_, h2, h3⟩
  subst h1
  simp
theorem v_str {x : Str} {s : List Nat} {j : Nat} {pos : Pos} (hs : strFit x s = true) : PE X (.Constant (.str x) j pos) (rdE Z P Φ W (.kon (.str s))) := by
  obtain ⟨rfl, h1, h2⟩ := strFit_ok hs
  refine PE.imp pe_str ?_
  rintro τ H Q ⟨μ, σ, S, R, V, h⟩
  exact Want.dE h R (by simp only [DV]; exact ⟨h1, h2, trivial⟩)
/-- what a module's name holds: a value without the store -/
def GV (Z : Zz) (d : D) (v : V) : Prop := ∀ H μ, DV Z H μ d v
theorem v_gl {x : Str} {n : Nat} {d : D} {v : V} {u : Value} {pos : Pos} (hg : Gl X x) (hm : X.mg x = some u) (r : RelV v u) (hn : P.gl n = some d) (hv : GV Z d v) (hd : (x == ("__debug__" : Str)) = false := by decide) :
    PE X (.Name x pos) (rdE Z P Φ W (.gl n)) := by
  refine PE.imp (pe_glob hg hm r hd) ?_
  rintro τ H Q ⟨μ, σ, S, R, V, h⟩
  simp only [ev, hn] at h
  exact Want.dE h R (hv H μ)

/-! ### operators -/
variable {a b c : Expr} {ca cb cc : C} {pos : Pos}
theorem opBin_noexc (op : Operator) (d e : D) (S : Sto) : ∀ c fs σ S1, opBin op d e S ≠ .exc c fs σ S1 := by
  intro c fs σ S1 z
  unfold opBin at z
  repeat' (split at z)
  all_goals cases z
theorem v_bin {op : Operator} (hZ : X.K = Z.K) (hc : X.calm = true) (ha : PE X a (rdE Z P Φ W ca)) (hb : PE X b (rdE Z P Φ W cb)) : PE X (.BinOp a op b pos) (rdE Z P Φ W (.bin op ca cb)) := by
  refine PE.imp (pe_op (op_bin op hZ hc) ha hb) ?_
  rintro τ H Q ⟨μ, σ, S, R, V, h⟩
  simp only [ev] at h
  refine stepEE R V h _ fun d S1 μ1 H1 v e1 R1 V1 hv h1 => stepEE R1 V1 h1 _ fun d2 S2 μ2 H2 v2 e2 R2 V2 hv2 h2 => ?_
  exact ⟨μ2, S2, d, d2, R2, hv.mono e2, hv2, h2.toQ (opBin_noexc _ _ _ _)⟩
theorem v_cmp {op : CmpOp} (hZ : X.K = Z.K) (hu : X.A.units + 65 < cLine) (ha : PE X a (rdE Z P Φ W ca)) (hb : PE X b (rdE Z P Φ W cb)) (hm : behindInMarks op b = false) : PE X (.Compare a [op] [b] pos) (rdE Z P Φ W (.cmp op ca cb)) := by
  refine PE.imp (pe_cmpR (op_cmp op hZ hu) ha hb hm) ?_
  rintro τ H Q ⟨μ, σ, S, R, V, h⟩
  simp only [ev] at h
  refine stepEE R V h _ fun d S1 μ1 H1 v e1 R1 V1 hv h1 => stepEE R1 V1 h1 _ fun d2 S2 μ2 H2 v2 e2 R2 V2 hv2 h2 => ?_
  split at h2
  · rename_i r hr
    exact ⟨μ2, S2, d, d2, r, R2, hv.mono e2, hv2, hr, h2.dE R2 (by simp only [DV])⟩
  · exact h2.bad
/-- a comparison as a test -/
theorem t_cmp {op : CmpOp} (hZ : X.K = Z.K) (hu : X.A.units + 65 < cLine) (ha : PE X a (rdE Z P Φ W ca)) (hb : PE X b (rdE Z P Φ W cb)) (hm : behindInMarks op b = false) : PT X (.Compare a [op] [b] pos) (rdT Z P Φ W (.cmp op ca cb)) := by
  refine PT.imp (pt_cmpR (op_cmp op hZ hu) ha hb hm) ?_
  rintro τ H Q ⟨μ, σ, S, R, V, h⟩
  simp only [ev] at h
  refine stepE R V h _ (fun _ _ _ _ _ _ _ z => z) fun d S1 μ1 H1 v e1 R1 V1 hv h1 => stepE R1 V1 h1 _ (fun _ _ _ _ _ _ _ z => z) fun d2 S2 μ2 H2 v2 e2 R2 V2 hv2 h2 => ?_
  split at h2
  · rename_i r hr
    refine ⟨μ2, S2, d, d2, r, R2, hv.mono e2, hv2, hr, r, rfl, ?_⟩
    obtain ⟨d3, b3, e3, e4, q⟩ := h2 μ2 H2 Ext.refl R2
    cases e3
    cases e4
    exact q
  · exact h2.bad
theorem v_chn {op op' : CmpOp} (hZ : X.K = Z.K) (hu : X.A.units + 65 < cLine) (ha : PE X a (rdE Z P Φ W ca)) (hb : PE X b (rdE Z P Φ W cb)) (hc : PE X c (rdE Z P Φ W cc)) (hm : lastMarks [op, op'] [b, c] = false := by with_unfolding_all rfl) :
    PE X (.Compare a [op, op'] [b, c] pos) (rdE Z P Φ W (.chn op op' ca cb cc)) := by
  refine PE.imp (pe_chain (op_cmp op hZ hu) (op_cmp op' hZ hu) ha hb hc hm) ?_
  rintro τ H Q ⟨μ, σ, S, R, V, h⟩
  simp only [ev] at h
  refine stepEE R V h _ fun d S1 μ1 H1 v e1 R1 V1 hv h1 => stepEE R1 V1 h1 _ fun d2 S2 μ2 H2 v2 e2 R2 V2 hv2 h2 => ?_
  split at h2
  · rename_i hr
    refine ⟨μ2, S2, d, d2, true, R2, hv.mono e2, hv2, hr, true, rfl, iteT ?_⟩
    refine stepEE R2 V2 h2 _ fun d3 S3 μ3 H3 v3 e3 R3 V3 hv3 h3 => ?_
    split at h3
    · rename_i r hr
      exact ⟨μ3, S3, d2, d3, r, R3, hv2.mono e3, hv3, hr, h3.dE R3 (by simp only [DV])⟩
    · exact h3.bad
  · rename_i hr
    exact ⟨μ2, S2, d, d2, false, R2, hv.mono e2, hv2, hr, false, rfl, iteF (h2.dE R2 (by simp only [DV]))⟩
  · exact h2.bad
theorem t_chn {op op' : CmpOp} (hZ : X.K = Z.K) (hu : X.A.units + 65 < cLine) (ha : PE X a (rdE Z P Φ W ca)) (hb : PE X b (rdE Z P Φ W cb)) (hc : PE X c (rdE Z P Φ W cc)) (hm : lastMarks [op, op'] [b, c] = false := by with_unfolding_all rfl) :
    PT X (.Compare a [op, op'] [b, c] pos) (rdT Z P Φ W (.chn op op' ca cb cc)) := by
  refine PT.imp (pt_chain (op_cmp op hZ hu) (op_cmp op' hZ hu) ha hb hc hm) ?_
  rintro τ H Q ⟨μ, σ, S, R, V, h⟩
  simp only [ev] at h
  have out : ∀ {r : Bool} {S2 : Sto} {μ2 : List Addr} {H2 : Hp}, RS Z μ2 S2 H2 → Want Z μ2 H2 (kT Z W τ Q) (.val [.bl r] S2) → Q r H2 := fun {r S2 μ2 H2} R2 h2 => by
    obtain ⟨d3, b3, e3, e4, q⟩ := h2 μ2 H2 Ext.refl R2
    cases e3
    cases e4
    exact q
  refine stepE R V h _ (fun _ _ _ _ _ _ _ z => z) fun d S1 μ1 H1 v e1 R1 V1 hv h1 => stepE R1 V1 h1 _ (fun _ _ _ _ _ _ _ z => z) fun d2 S2 μ2 H2 v2 e2 R2 V2 hv2 h2 => ?_
  split at h2
  · rename_i hr
    refine ⟨μ2, S2, d, d2, true, R2, hv.mono e2, hv2, hr, true, rfl, iteT ?_⟩
    refine stepE R2 V2 h2 _ (fun _ _ _ _ _ _ _ z => z) fun d3 S3 μ3 H3 v3 e3 R3 V3 hv3 h3 => ?_
    split at h3
    · rename_i r hr
      exact ⟨μ3, S3, d2, d3, r, R3, hv2.mono e3, hv3, hr, r, rfl, out R3 h3⟩
    · exact h3.bad
  · rename_i hr
    exact ⟨μ2, S2, d, d2, false, R2, hv.mono e2, hv2, hr, false, rfl, iteF ⟨false, rfl, out R2 h2⟩⟩
  · exact h2.bad
theorem v_neg (ha : PE X a (rdE Z P Φ W ca)) : PE X (.UnaryOp .USub a pos) (rdE Z P Φ W (.neg ca)) := by
  refine PE.imp (pe_un un_neg ha) ?_
  rintro τ H Q ⟨μ, σ, S, R, V, h⟩
  simp only [ev] at h
  refine stepEE R V h _ fun d S1 μ1 H1 v e1 R1 V1 hv h1 => ?_
  cases d with
  | int i =>
    simp only [DV] at hv
    exact ⟨i, hv, h1.dE R1 (by simp only [DV])⟩
  | _ => exact h1.bad

/-! ### tests -/
/-- any expression as a test, by its value's truth -/
theorem t_val (hZ : X.K = Z.K) (ha : PE X a (rdE Z P Φ W ca)) (he : ∀ whole, isTrue a X.env whole = (do let v ← whole; standAt a.pos; holding [v] (truthy v))) : PT X a (rdT Z P Φ W ca) := by
  refine PT.imp (pt_truth ha he) ?_
  rintro τ H Q ⟨μ, σ, S, R, V, h⟩
  refine ⟨μ, σ, S, R, V, h.mono ?_ (fun _ _ _ _ _ _ z => z) (fun _ _ _ _ _ _ z => z) (fun _ _ _ _ _ _ z => z) (fun _ _ _ _ _ _ z => z) (fun _ _ _ _ _ _ _ _ z => z)⟩
  rintro ds S1 μ1 H1 e R1 ⟨d, b, rfl, hb, q⟩
  exact ⟨d, rfl, fun v hv => ⟨b, tru_of hZ R1 hv hb, q⟩⟩
theorem t_not (ha : PT X a (rdT Z P Φ W ca)) : PT X (.UnaryOp .Not a pos) (rdT Z P Φ W (.notv ca)) := by
  refine PT.imp (pt_not ha) ?_
  rintro τ H Q ⟨μ, σ, S, R, V, h⟩
  simp only [ev] at h
  refine stepT R V h _ (fun _ _ _ _ _ _ _ z => z) ?_ ?_
  · intro d S1 μ1 H1 h1
    split at h1
    · rename_i b hb; exact ⟨b, hb⟩
    · exact h1.bad
  · intro d S1 μ1 H1 b e1 R1 V1 hb h1
    rw [hb] at h1
    obtain ⟨d3, b3, e3, e4, q⟩ := h1 μ1 H1 Ext.refl R1
    cases e3
    cases e4
    exact q
theorem v_not (hZ : X.K = Z.K) (ha : PE X a (rdE Z P Φ W ca)) : PE X (.UnaryOp .Not a pos) (rdE Z P Φ W (.notv ca)) := by
  refine PE.imp (pe_notT ha) ?_
  rintro τ H Q ⟨μ, σ, S, R, V, h⟩
  simp only [ev] at h
  refine stepEE R V h _ fun d S1 μ1 H1 v e1 R1 V1 hv h1 => ?_
  split at h1
  · rename_i b hb
    exact ⟨b, tru_of hZ R1 hv hb, h1.dE R1 (by simp only [DV])⟩
  · exact h1.bad
variable {rest : List Expr}
theorem v_one {op : BoolOp} (ha : PE X a (rdE Z P Φ W ca)) : PE X (.BoolOp op [a] pos) (rdE Z P Φ W ca) := pe_one ha
theorem v_and (hZ : X.K = Z.K) (ha : PE X a (rdE Z P Φ W ca)) (hb : PE X (.BoolOp .And (b :: rest) pos) (rdE Z P Φ W cb)) : PE X (.BoolOp .And (a :: b :: rest) pos) (rdE Z P Φ W (.andv ca cb)) := by
  refine PE.imp (pe_andT ha hb) ?_
  rintro τ H Q ⟨μ, σ, S, R, V, h⟩
  simp only [ev] at h
  refine stepEE R V h _ fun d S1 μ1 H1 v e1 R1 V1 hv h1 => ?_
  split at h1
  · rename_i hb
    exact ⟨true, tru_of hZ R1 hv hb, iteT ⟨μ1, σ, S1, R1, V1, h1⟩⟩
  · rename_i hb
    exact ⟨false, tru_of hZ R1 hv hb, iteF (h1.dE R1 hv)⟩
  · exact h1.bad
theorem v_or (hZ : X.K = Z.K) (ha : PE X a (rdE Z P Φ W ca)) (hb : PE X (.BoolOp .Or (b :: rest) pos) (rdE Z P Φ W cb)) : PE X (.BoolOp .Or (a :: b :: rest) pos) (rdE Z P Φ W (.orv ca cb)) := by
  refine PE.imp (pe_orT ha hb) ?_
  rintro τ H Q ⟨μ, σ, S, R, V, h⟩
  simp only [ev] at h
  refine stepEE R V h _ fun d S1 μ1 H1 v e1 R1 V1 hv h1 => ?_
  split at h1
  · rename_i hb
    exact ⟨true, tru_of hZ R1 hv hb, iteT (h1.dE R1 hv)⟩
  · rename_i hb
    exact ⟨false, tru_of hZ R1 hv hb, iteF ⟨μ1, σ, S1, R1, V1, h1⟩⟩
  · exact h1.bad
/-- .. as tests -/
theorem w_one_and (ha : PT X a (rdT Z P Φ W ca)) : PW X (.BoolOp .And [a] pos) (rdT Z P Φ W ca) := pw_and1 ha
theorem w_one_or (ha : PT X a (rdT Z P Φ W ca)) : PW X (.BoolOp .Or [a] pos) (rdT Z P Φ W ca) := pw_or1 ha
theorem w_and (ha : PT X a (rdT Z P Φ W ca)) (hb : PW X (.BoolOp .And (b :: rest) pos) (rdT Z P Φ W cb)) : PW X (.BoolOp .And (a :: b :: rest) pos) (rdT Z P Φ W (.andv ca cb)) := by
  refine PW.imp (pw_and ha hb) ?_
  rintro τ H Q ⟨μ, σ, S, R, V, h⟩
  simp only [ev] at h
  refine stepT R V h _ (fun _ _ _ _ _ _ _ z => z) ?_ ?_
  · intro d S1 μ1 H1 h1
    split at h1
    · rename_i hb; exact ⟨_, hb⟩
    · rename_i hb; exact ⟨_, hb⟩
    · exact h1.bad
  · intro d S1 μ1 H1 b e1 R1 V1 hb h1
    cases b with
    | true =>
      rw [hb] at h1
      exact iteT ⟨μ1, σ, S1, R1, V1, h1⟩
    | false =>
      rw [hb] at h1
      obtain ⟨d3, b3, e3, e4, q⟩ := h1 μ1 H1 Ext.refl R1
      cases e3
      rw [hb] at e4
      cases e4
      exact iteF q
theorem w_or (ha : PT X a (rdT Z P Φ W ca)) (hb : PW X (.BoolOp .Or (b :: rest) pos) (rdT Z P Φ W cb)) : PW X (.BoolOp .Or (a :: b :: rest) pos) (rdT Z P Φ W (.orv ca cb)) := by
  refine PW.imp (pw_or ha hb) ?_
  rintro τ H Q ⟨μ, σ, S, R, V, h⟩
  simp only [ev] at h
  refine stepT R V h _ (fun _ _ _ _ _ _ _ z => z) ?_ ?_
  · intro d S1 μ1 H1 h1
    split at h1
    · rename_i hb; exact ⟨_, hb⟩
    · rename_i hb; exact ⟨_, hb⟩
    · exact h1.bad
  · intro d S1 μ1 H1 b e1 R1 V1 hb h1
    cases b with
    | false =>
      rw [hb] at h1
      exact iteF ⟨μ1, σ, S1, R1, V1, h1⟩
    | true =>
      rw [hb] at h1
      obtain ⟨d3, b3, e3, e4, q⟩ := h1 μ1 H1 Ext.refl R1
      cases e3
      rw [hb] at e4
      cases e4
      exact iteT q
theorem v_ite {t : Expr} {ct : C} (ht : PT X t (rdT Z P Φ W ct)) (ha : PE X a (rdE Z P Φ W ca)) (hb : PE X b (rdE Z P Φ W cb)) : PE X (.IfExp t a b pos) (rdE Z P Φ W (.ite ct ca cb)) := by
  refine PE.imp (pe_ifExp ht ha hb) ?_
  rintro τ H Q ⟨μ, σ, S, R, V, h⟩
  simp only [ev] at h
  refine stepT R V h _ (fun _ _ _ _ _ _ _ z => z) ?_ ?_
  · intro d S1 μ1 H1 h1
    split at h1
    · rename_i hb; exact ⟨_, hb⟩
    · rename_i hb; exact ⟨_, hb⟩
    · exact h1.bad
  · intro d S1 μ1 H1 b e1 R1 V1 hb h1
    cases b with
    | true =>
      rw [hb] at h1
      exact iteT ⟨μ1, σ, S1, R1, V1, h1⟩
    | false =>
      rw [hb] at h1
      exact iteF ⟨μ1, σ, S1, R1, V1, h1⟩

/-! ### arguments, displays -/
variable {e : Expr} {es : List Expr} {cr : C}
theorem v_anil : PA X [] (rdA Z P Φ W .anil) := by
  refine PA.imp pa_nil ?_
  rintro τ H Q ⟨μ, σ, S, R, V, h⟩
  exact h μ H Ext.refl R [] (by simp only [DVs])
theorem v_acons (ha : PE X e (rdE Z P Φ W ca)) (hr : PA X es (rdA Z P Φ W cr)) (hs : starEach (e :: es) X.env = (false, eval e X.env) :: starEach es X.env := by rfl) : PA X (e :: es) (rdA Z P Φ W (.acons ca cr)) := by
  refine PA.imp (pa_cons ha hr hs) ?_
  rintro τ H Q ⟨μ, σ, S, R, V, h⟩
  simp only [ev] at h
  refine stepE R V h _ (fun _ _ _ _ _ _ _ z => z) fun d S1 μ1 H1 v e1 R1 V1 hv h1 => stepA R1 V1 h1 _ (fun _ _ _ _ _ _ _ z => z) fun ds S2 μ2 H2 vs e2 R2 V2 hvs h2 => ?_
  refine h2 μ2 H2 Ext.refl R2 (v :: vs) ?_
  simp only [DVs]
  exact ⟨v, vs, rfl, hv.mono e2, hvs⟩
theorem v_tup {kk : Nat} (h : PA X es (rdA Z P Φ W ca)) : PE X (.Tuple es kk pos) (rdE Z P Φ W (.tup ca)) := by
  refine PE.imp (pe_tup h) ?_
  rintro τ H Q ⟨μ, σ, S, R, V, h⟩
  simp only [ev] at h
  refine stepA R V h _ (fun _ _ _ _ _ _ _ z => z) fun ds S1 μ1 H1 vs e1 R1 V1 hvs h1 => ?_
  split at h1
  · rename_i hl
    exact ⟨by rw [sizeLine_eq, ← hvs.length]; exact hl, fun p hp => new_tup R1 hvs h1 hp⟩
  · exact h1.bad
theorem v_lst (h : PA X es (rdA Z P Φ W ca)) : PE X (.List es pos) (rdE Z P Φ W (.lst ca)) := by
  refine PE.imp (pe_lst h) ?_
  rintro τ H Q ⟨μ, σ, S, R, V, h⟩
  simp only [ev] at h
  refine stepA R V h _ (fun _ _ _ _ _ _ _ z => z) fun ds S1 μ1 H1 vs e1 R1 V1 hvs h1 => ?_
  split at h1
  · rename_i hl
    exact ⟨by rw [sizeLine_eq, ← hvs.length]; exact hl, fun p hp => new_lst R1 hl hvs h1 hp⟩
  · exact h1.bad
end
end Vm

namespace Vm
open PySem L2
section
variable {X : Cx} {Z : Zz} {P : Pg} {Φ : Nat → List D → Sto → Res} {W : WX}
variable {H H' : Hp} {μ μ' : List Addr} {S S' : Sto} {σ : Sl} {τ : St} {Q : VK} {k : Kt}

theorem Want.bg {r : Res} {f : Sl → Sto → Res} (h : Want Z μ H k (bg r f)) : Want Z μ H { nx := fun σ S μ1 H1 => Want Z μ1 H1 k (f σ S) } r := by
  cases r with
  | nx σ' S => exact fun μ1 H1 e R => Want.ext e h
  | _ => exact h.elim
theorem Want.turn {r : Res} {f : Sl → Sto → Res} (h : Want Z μ H k (turnR r f)) :
    Want Z μ H { k with v := fun _ _ _ _ => False, nx := fun σ S μ1 H1 => Want Z μ1 H1 k (f σ S), ct := fun σ S μ1 H1 => Want Z μ1 H1 k (f σ S), bk := k.nx } r := by
  cases r with
  | nx σ' S => exact fun μ1 H1 e R => Want.ext e h
  | ct σ' S => exact fun μ1 H1 e R => Want.ext e h
  | bk σ' S => exact h
  | rt _ _ => exact h
  | exc _ _ _ _ => exact h
  | val _ _ => exact h.elim
  | bad => exact h.elim
/-- the errors of a part, in a statement -/
theorem kS_x {D : Ends} : ∀ c fs S1 μ1 H1, SV Z H μ σ τ → Ext μ H μ1 H1 → RS Z μ1 S1 H1 → (kS Z W D).x c fs σ S1 μ1 H1 → kX Z W τ c fs σ S1 μ1 H1 := fun c fs S1 μ1 H1 L e _ z => z τ (L.mono e)
theorem stepSE {D : Ends} {a : C} {f : Vm.D → Sto → Res} (R : RS Z μ S H) (L : SV Z H μ σ τ) (h : Want Z μ H (kS Z W D) (b1 σ (ev P Φ a [] σ S) f)) (R' : V → Hp → Prop)
    (hk : ∀ d S1 μ1 H1 v, Ext μ H μ1 H1 → RS Z μ1 S1 H1 → SV Z H1 μ1 σ τ → DV Z H1 μ1 d v → Want Z μ1 H1 (kS Z W D) (f d S1) → R' v H1) : rdE Z P Φ W a τ H R' :=
  stepE R L h R' (fun c fs S1 μ1 H1 e R1 z => kS_x c fs S1 μ1 H1 L e R1 z) hk

/-! ### statements -/
variable {st : Stmt} {rest : List Stmt} {e : Expr} {ca cb cc cr : C} {pos : Pos}
theorem s_nil : PSs X [] (rdS Z P Φ W .nop) := by
  refine PSs.imp pss_nil ?_
  rintro D τ H ⟨μ, σ, S, R, L, h⟩
  exact h μ H Ext.refl R τ L
theorem s_cons (h1 : PS X st (rdS Z P Φ W ca)) (h2 : PSs X rest (rdS Z P Φ W cb)) : PSs X (st :: rest) (rdS Z P Φ W (.seq ca cb)) := by
  refine PSs.imp (pss_cons h1 h2) ?_
  rintro D τ H ⟨μ, σ, S, R, L, h⟩
  simp only [ev] at h
  refine ⟨μ, σ, S, R, L, h.bn.mono (fun _ _ _ _ _ _ z => z) ?_ (fun _ _ _ _ _ _ z => z) (fun _ _ _ _ _ _ z => z) (fun _ _ _ _ _ _ z => z) (fun _ _ _ _ _ _ _ _ z => z)⟩
  intro σ1 S1 μ1 H1 e R1 w τ1 L1
  exact ⟨μ1, σ1, S1, R1, L1, w⟩
theorem s_one (h1 : PS X st (rdS Z P Φ W ca)) : PSs X [st] (rdS Z P Φ W ca) := pss_one h1
theorem s_pass : PS X (.Pass pos) (rdS Z P Φ W .nop) := by
  refine PS.imp ps_pass ?_
  rintro D τ H ⟨μ, σ, S, R, L, h⟩
  exact h μ H Ext.refl R τ L
theorem s_brk : PS X (.Break pos) (rdS Z P Φ W .brk) := by
  refine PS.imp ps_break ?_
  rintro D τ H ⟨μ, σ, S, R, L, h⟩
  exact h μ H Ext.refl R τ L
theorem s_cnt : PS X (.Continue pos) (rdS Z P Φ W .cnt) := by
  refine PS.imp ps_continue ?_
  rintro D τ H ⟨μ, σ, S, R, L, h⟩
  exact h μ H Ext.refl R τ L
theorem s_ret (ha : PE X e (rdE Z P Φ W ca)) : PS X (.Return (some e) pos) (rdS Z P Φ W (.ret ca)) := by
  refine PS.imp (ps_ret ha) ?_
  rintro D τ H ⟨μ, σ, S, R, L, h⟩
  simp only [ev] at h
  exact stepSE R L h _ fun d S1 μ1 H1 v e1 R1 L1 hv h1 => h1 μ1 H1 Ext.refl R1 v hv
theorem s_retN : PS X (.Return none pos) (rdS Z P Φ W .retn) := by
  refine PS.imp ps_retN ?_
  rintro D τ H ⟨μ, σ, S, R, L, h⟩
  exact h μ H Ext.refl R .non (by simp only [DV])
theorem s_exp (ha : PE X e (rdE Z P Φ W ca)) (hs : swapsWith e none pos.line X.env = pure false := by rfl) : PS X (.Expr e pos) (rdS Z P Φ W (.exp ca)) := by
  refine PS.imp (ps_expr ha hs) ?_
  rintro D τ H ⟨μ, σ, S, R, L, h⟩
  simp only [ev] at h
  exact stepSE R L h _ fun d S1 μ1 H1 v e1 R1 L1 hv h1 => h1 μ1 H1 Ext.refl R1 τ L1
theorem s_if {t : Expr} {a b : List Stmt} {ct : C} (ht : PT X t (rdT Z P Φ W ct)) (ha : PSs X a (rdS Z P Φ W ca)) (hb : PSs X b (rdS Z P Φ W cb)) : PS X (.If t a b pos) (rdS Z P Φ W (.iff ct ca cb)) := by
  refine PS.imp (ps_if ht ha hb) ?_
  rintro D τ H ⟨μ, σ, S, R, L, h⟩
  simp only [ev] at h
  refine stepT R L h _ (fun c fs S1 μ1 H1 e R1 z => kS_x c fs S1 μ1 H1 L e R1 z) ?_ ?_
  · intro d S1 μ1 H1 h1
    split at h1
    · rename_i hb; exact ⟨_, hb⟩
    · rename_i hb; exact ⟨_, hb⟩
    · exact h1.bad
  · intro d S1 μ1 H1 b e1 R1 L1 hb h1
    cases b with
    | true =>
      rw [hb] at h1
      exact iteT ⟨μ1, σ, S1, R1, L1, h1⟩
    | false =>
      rw [hb] at h1
      exact iteF ⟨μ1, σ, S1, R1, L1, h1⟩

/-! ### targets -/
variable {tg : Expr} {cg : C}
theorem SV.set (L : SV Z H μ σ τ) {i : Nat} {d : D} {v : V} (hv : DV Z H μ d v) : SV Z H μ (σ.set i (some d)) (τ.set i (some v)) := by
  refine ⟨by rw [List.length_set, List.length_set]; exact L.len, fun j e h => ?_⟩
  by_cases hj : i = j
  · subst hj
    have hi : i < σ.length := by
      have := (List.getElem?_eq_some_iff.mp h).1
      rwa [List.length_set] at this
    rw [List.getElem?_set_self hi] at h
    cases h
    exact ⟨v, by rw [List.getElem?_set_self (by rw [← L.len]; exact hi)], hv⟩
  · rw [List.getElem?_set_ne hj] at h ⊢
    exact L.at_ j e h
theorem g_name {i : Nat} {x : Str} (hN : X.N.Nodup) (hi : X.N[i]? = some x) (hx : Loc X.env.scope x) (hf : X.fn x = true ∨ X.env.scope.names.lookup x = some .local := by first | exact .inl rfl | exact .inr rfl | assumption) : PG X (.Name x pos) (rdG Z P Φ (.gn i)) := by
  refine PG.imp (pg_name hN hi hx hf) ?_
  rintro v τ H Q ⟨μ, σ, S, d, R, L, hv, h⟩
  simp only [ev] at h
  split at h
  · exact h μ H Ext.refl R _ (L.set hv)
  · exact h.bad
theorem g_nil : PGs X [] (rdGs Z P Φ .gnil) := by
  refine PGs.imp pgs_nil ?_
  rintro vs τ H Q ⟨μ, σ, S, ds, R, L, hv, h⟩
  cases ds with
  | nil =>
    simp only [ev] at h
    simp only [DVs] at hv
    exact ⟨hv, h μ H Ext.refl R τ L⟩
  | cons d ds => exact h.bad
theorem g_cons {es : List Expr} (h1 : PG X tg (rdG Z P Φ cg)) (h2 : PGs X es (rdGs Z P Φ cr)) (hs : (assignEach (tg :: es) X.env).map (·.2) = assign tg X.env :: (assignEach es X.env).map (·.2) := by rfl) :
    PGs X (tg :: es) (rdGs Z P Φ (.gcons cg cr)) := by
  refine PGs.imp (pgs_cons h1 h2 hs) ?_
  rintro vs τ H Q ⟨μ, σ, S, ds, R, L, hv, h⟩
  cases ds with
  | nil => exact h.bad
  | cons d ds =>
    simp only [ev] at h
    simp only [DVs] at hv
    obtain ⟨v, r, rfl, hv1, hv2⟩ := hv
    refine ⟨v, r, rfl, μ, σ, S, d, R, L, hv1, h.bg.mono (fun _ _ _ _ _ _ z => z) ?_ (fun _ _ _ _ _ _ z => z) (fun _ _ _ _ _ _ z => z) (fun _ _ _ _ _ _ z => z) (fun _ _ _ _ _ _ _ _ z => z)⟩
    intro σ1 S1 μ1 H1 e R1 w τ1 L1
    exact ⟨μ1, σ1, S1, ds, R1, L1, hv2.mono e, w⟩
theorem g_tup {es : List Expr} {kk n : Nat} (hZ : X.K = Z.K) (hc : X.calm = true) (h : PGs X es (rdGs Z P Φ cg)) (hlen : ∀ ds σ S, ev P Φ cg ds σ S ≠ .bad → ds.length = n)
    (hn : (assignEach es X.env).length = n := by rfl) (hst : (assignEach es X.env).findIdx? (·.1) = none := by rfl) : PG X (.Tuple es kk pos) (rdG Z P Φ (.gt cg)) := by
  refine PG.imp (pg_tup hc h hn hst) ?_
  rintro v τ H Q ⟨μ, σ, S, d, R, L, hv, h⟩
  cases d with
  | tup xs =>
    simp only [ev] at h
    simp only [DV] at hv
    obtain ⟨a, vs, rfl, h1, h2⟩ := hv
    rw [← hZ] at h1
    refine ⟨a, vs, rfl, h1, ?_, μ, σ, S, xs, R, L, h2, h⟩
    rw [← h2.length]
    exact hlen xs σ S fun z => by rw [z] at h; exact h.bad
  | _ => exact h.bad
theorem gnil_len {P : Pg} {Φ : Nat → List D → Sto → Res} : ∀ ds σ S, ev P Φ .gnil ds σ S ≠ .bad → ds.length = 0 := by
  intro ds σ S h
  cases ds with
  | nil => rfl
  | cons d ds => exact absurd rfl h
theorem gcons_len {P : Pg} {Φ : Nat → List D → Sto → Res} {g r : C} {n : Nat} (hr : ∀ ds σ S, ev P Φ r ds σ S ≠ .bad → ds.length = n) : ∀ ds σ S, ev P Φ (.gcons g r) ds σ S ≠ .bad → ds.length = n + 1 := by
  intro ds σ S h
  cases ds with
  | nil => exact absurd rfl h
  | cons d ds =>
    rw [List.length_cons]
    simp only [ev] at h
    cases e : ev P Φ g [d] σ S with
    | nx σ1 S1 =>
      rw [e] at h
      rw [hr ds σ1 S1 h]
    | _ => rw [e] at h; exact absurd rfl h
theorem s_asg (ha : PE X e (rdE Z P Φ W ca)) (hg : PG X tg (rdG Z P Φ cg)) (hs : swapsWithSole [tg] e pos.line X.env = pure false := by rfl) (hw : swappedStores [tg] e X.env = pure none := by rfl)
    (h1 : (assignEach [tg] X.env).map (·.2) = [assign tg X.env] := by rfl) : PS X (.Assign [tg] e pos) (rdS Z P Φ W (.asg cg ca)) := by
  refine PS.imp (ps_asg ha hg hs hw h1) ?_
  rintro D τ H ⟨μ, σ, S, R, L, h⟩
  simp only [ev] at h
  refine stepSE R L h _ fun d S1 μ1 H1 v e1 R1 L1 hv h1 => ⟨μ1, σ, S1, d, R1, L1, hv, ?_⟩
  refine h1.bg.mono (fun _ _ _ _ _ _ z => z) ?_ (fun _ _ _ _ _ _ z => z) (fun _ _ _ _ _ _ z => z) (fun _ _ _ _ _ _ z => z) (fun _ _ _ _ _ _ _ _ z => z)
  intro σ1 S2 μ2 H2 e R2 w τ1 L2
  exact w μ2 H2 Ext.refl R2 τ1 L2
/-- name = value -/
theorem s_set {i : Nat} {x : Str} {pos' : Pos} (hN : X.N.Nodup) (hi : X.N[i]? = some x) (hx : Loc X.env.scope x) (ha : PE X e (rdE Z P Φ W ca)) (hs : swapsWith e (some (.Name x pos')) pos.line X.env = pure false := by rfl)
    (hf : X.fn x = true ∨ X.env.scope.names.lookup x = some .local := by first | exact .inl rfl | exact .inr rfl | assumption) : PS X (.Assign [.Name x pos'] e pos) (rdS Z P Φ W (.asg (.gn i) ca)) := by
  refine PS.imp (ps_set hN hi hx ha hs hf) ?_
  rintro D τ H ⟨μ, σ, S, R, L, h⟩
  simp only [ev] at h
  refine stepSE R L h _ fun d S1 μ1 H1 v e1 R1 L1 hv h1 => ?_
  split at h1
  · exact h1 μ1 H1 Ext.refl R1 _ (L1.set hv)
  · exact h1.bad
/-- a, b = x, y with plain names: the right one is stored first -/
theorem s_par {i j : Nat} {x y : Str} {a b : Expr} {px py pt : Pos} {kt k2 : Nat} {pt2 : Pos} (hc : X.calm = true) (hN : X.N.Nodup) (hi : X.N[i]? = some x) (hj : X.N[j]? = some y) (hij : i ≠ j)
    (hx : X.env.scope.names.lookup x = some .local) (hy : X.env.scope.names.lookup y = some .local) (ha : PE X a (rdE Z P Φ W ca)) (hb : PE X b (rdE Z P Φ W cb))
    (hw : swappedStores [.Tuple [.Name x px, .Name y py] kt pt] (.Tuple [a, b] k2 pt2) X.env = pure (some [x, y]))
    (hs1 : starEach [a, b] X.env = (false, eval a X.env) :: starEach [b] X.env := by rfl) (hs2 : starEach [b] X.env = (false, eval b X.env) :: starEach [] X.env := by rfl)
    (hs : swapsWithSole [.Tuple [.Name x px, .Name y py] kt pt] (.Tuple [a, b] k2 pt2) pos.line X.env = pure false := by rfl) :
    PS X (.Assign [.Tuple [.Name x px, .Name y py] kt pt] (.Tuple [a, b] k2 pt2) pos) (rdS Z P Φ W (.asg (.gt (.gcons (.gn i) (.gcons (.gn j) .gnil))) (.tup (.acons ca (.acons cb .anil))))) := by
  refine PS.imp (ps_par hc hN hi hj hij hx hy (v_acons ha (v_acons hb v_anil hs2) hs1) hw hs) ?_
  rintro D τ H ⟨μ, σ, S, R, L, h⟩
  rw [ev] at h
  have h' : Want Z μ H (kS Z W D) (bv σ (ev P Φ (.acons ca (.acons cb .anil)) [] σ S) fun ds S1 => b1 σ (if ds.length ≤ SL then .val [.tup ds] S1 else .bad) fun d S => bg (ev P Φ (.gt (.gcons (.gn i) (.gcons (.gn j) .gnil))) [d] σ S) fun σ S => .nx σ S) := by
    rw [ev] at h
    cases q : ev P Φ (.acons ca (.acons cb .anil)) [] σ S with
    | val ds S1 => rw [q] at h; exact h
    | exc c fs σ1 S1 => rw [q] at h; exact h
    | _ => rw [q] at h; exact h
  refine stepA R L h' _ (fun c fs S1 μ1 H1 e R1 z => kS_x c fs S1 μ1 H1 L e R1 z) fun ds S1 μ1 H1 vs e1 R1 L1 hvs h1 => ?_
  split at h1
  · have hl : ds.length = 2 := gcons_len (P := P) (Φ := Φ) (gcons_len gnil_len) ds σ _ fun z => by
      simp only [b1] at h1
      rw [ev, z] at h1
      exact h1.bad
    match ds, hl, hvs, h1 with
    | [d, e], _, hvs, h1 =>
      obtain ⟨v, w, rfl, hv, hw⟩ := hvs.of_two
      refine ⟨v, w, rfl, ?_⟩
      simp only [b1, ev, bg] at h1
      by_cases z1 : i < σ.length
      · by_cases z2 : j < (σ.set i (some d)).length
        · simp only [if_pos z1, if_pos z2] at h1
          exact h1 μ1 H1 Ext.refl R1 _ ((L1.set hv).set hw)
        · simp only [if_pos z1, if_neg z2] at h1
          exact h1.bad
      · simp only [if_neg z1] at h1
        exact h1.bad
  · exact h1.bad
end
end Vm

namespace Vm
open PySem L2
section
variable {X : Cx} {Z : Zz} {P : Pg} {Φ : Nat → List D → Sto → Res} {W : WX}
variable {H H' : Hp} {μ μ' : List Addr} {S S' : Sto} {σ : Sl} {τ : St} {Q : VK} {k : Kt}
variable {a b e l o : Expr} {es : List Expr} {ca cb cc ce co : C} {pos p apos cpos : Pos}

/-! ### places, slices -/
def rIx (Z : Zz) : R2 := fun x y H Q => ∃ μ S d e r, RS Z μ S H ∧ DV Z H μ d x ∧ DV Z H μ e y ∧ opIx d e S = some r ∧ ∀ v, DV Z H μ r v → Q v H
theorem atI_DVs {xs : List D} {vs : List V} {i : Int} {r : D} (h : DVs Z H μ xs vs) (e : atI xs i = some r) : ∃ v, atI vs i = some v ∧ DV Z H μ r v := by
  unfold atI at e ⊢
  rw [← h.length]
  cases q : ixN xs.length i with
  | none => rw [q] at e; cases e
  | some j =>
    rw [q] at e
    exact h.get (by simpa using e)
theorem ix_dyn (hZ : X.K = Z.K) : IxR X (rIx Z) := by
  intro value slice pins s σ H x y v u Q I rx ry h hs
  obtain ⟨μ, S, d, e, r, R, hd, he, h, q⟩ := h
  cases e with
  | int i =>
    simp only [DV] at he
    subst he
    cases d with
    | tup xs =>
      simp only [opIx] at h
      simp only [DV] at hd
      obtain ⟨a, vs, rfl, h1, h2⟩ := hd
      obtain ⟨w, h3, h4⟩ := atI_DVs h2 h
      rw [← hZ] at h1
      exact ix_tup value slice pins s σ H _ _ v u Q I rx ry ⟨a, vs, i, w, rfl, rfl, h1, h3, q w h4⟩ hs
    | rol xs =>
      simp only [opIx] at h
      simp only [DV] at hd
      obtain ⟨a, vs, rfl, h1, h2⟩ := hd
      obtain ⟨w, h3, h4⟩ := atI_DVs h2 h
      have h1 := h1.sqL
      rw [← hZ] at h1
      exact ix_list value slice pins s σ H _ _ v u Q I rx ry ⟨a, vs, i, w, rfl, rfl, h1, h3, q w h4⟩ hs
    | ref j =>
      simp only [opIx] at h
      cases e1 : S.l j with
      | none => rw [e1] at h; cases h
      | some xs =>
        rw [e1] at h
        dsimp only at h
        simp only [DV] at hd
        obtain ⟨a, ha, rfl⟩ := hd
        obtain ⟨a', vs, ha', h1, h2, _⟩ := R.list e1
        rw [ha] at ha'; cases ha'
        obtain ⟨w, h3, h4⟩ := atI_DVs h2 h
        rw [← hZ] at h1
        exact ix_list value slice pins s σ H _ _ v u Q I rx ry ⟨a, vs, i, w, rfl, rfl, h1, h3, q w h4⟩ hs
    | str z =>
      simp only [opIx] at h
      cases e1 : atI z i with
      | none => rw [e1] at h; cases h
      | some c =>
        rw [e1] at h
        cases h
        simp only [DV] at hd
        obtain ⟨h1, h2, rfl⟩ := hd
        refine ix_str value slice pins s σ H _ _ v u Q I rx ry ⟨_, i, c, rfl, rfl, ?_, by simpa using e1, q _ ?_⟩ hs
        · rw [sizeLine_eq]; simpa [Str.length] using h1
        · have hc : c ∈ z := by
            unfold atI at e1
            cases q1 : ixN z.length i with
            | none => rw [q1] at e1; cases e1
            | some j => rw [q1] at e1; exact List.mem_of_getElem? (by simpa using e1)
          simp only [DV]
          refine ⟨by rw [List.length_singleton]; decide, fun c' hc' => ?_, trivial⟩
          rw [List.mem_singleton.mp hc']
          exact h2 c hc
    | _ => cases h
  | _ => cases h
theorem v_idx (hZ : X.K = Z.K) (ha : PE X a (rdE Z P Φ W ca)) (hb : PE X b (rdE Z P Φ W cb)) (hs : PlainIx b) : PE X (.Subscript a b pos) (rdE Z P Φ W (.idx ca cb)) := by
  refine PE.imp (pe_ix (ix_dyn hZ) ha hb hs) ?_
  rintro τ H Q ⟨μ, σ, S, R, L, h⟩
  simp only [ev] at h
  refine stepEE R L h _ fun d S1 μ1 H1 v e1 R1 V1 hv h1 => stepEE R1 V1 h1 _ fun d2 S2 μ2 H2 v2 e2 R2 V2 hv2 h2 => ?_
  split at h2
  · rename_i r hr
    exact ⟨μ2, S2, d, d2, r, R2, hv.mono e2, hv2, hr, fun w hw => h2.dE R2 hw⟩
  · exact h2.bad
/-- an end of a slice -/
def rdO (Z : Zz) (P : Pg) (Φ : Nat → List D → Sto → Res) (W : WX) (c : C) : TO := fun τ H Q => ∃ μ σ S, RS Z μ S H ∧ SV Z H μ σ τ ∧
  Want Z μ H { v := fun ds _ _ H => ∃ d o, ds = [d] ∧ ends d = some o ∧ Q o H, x := kX Z W τ } (ev P Φ c [] σ S)
theorem o_none : PO X none (rdO Z P Φ W (.kon .non)) := ⟨fun pins s σ H Q I h => po_none.run pins s σ H Q I (by
  obtain ⟨μ, σ, S, R, L, h⟩ := h
  obtain ⟨d, o, h1, h2, q⟩ := h μ H Ext.refl R
  cases h1
  cases h2
  exact q)⟩
theorem o_some (ha : PE X a (rdE Z P Φ W ca)) : PO X (some a) (rdO Z P Φ W (.part ca)) := ⟨fun pins s σ H Q I h => (po_some ha).run pins s σ H Q I (by
  obtain ⟨μ, σ, S, R, L, h⟩ := h
  simp only [ev] at h
  refine stepE R L h _ (fun _ _ _ _ _ _ _ z => z) fun d S1 μ1 H1 v e1 R1 V1 hv h1 => ?_
  cases d with
  | int i =>
    obtain ⟨d, o, h2, h3, q⟩ := h1 μ1 H1 Ext.refl R1
    cases h2
    cases h3
    simp only [DV] at hv
    exact ⟨i, hv, q⟩
  | _ => exact h1.bad)⟩
def rSl (Z : Zz) : V → Option Int → Option Int → Hp → VK → Prop := fun x lo hi H Q => ∃ μ S d, RS Z μ S H ∧ DV Z H μ d x ∧ Want Z μ H (kQ Z Q) (opSlice d lo hi S)
theorem cutD_DVs {xs : List D} {vs : List V} {lo hi : Option Int} (h : DVs Z H μ xs vs) : DVs Z H μ (cutD xs lo hi) (cutV vs lo hi) := by
  unfold cutD cutV
  rw [← h.length]
  exact (h.drop _).take _
theorem cutD_length {α : Type} (xs : List α) (lo hi : Option Int) : (cutD xs lo hi).length ≤ xs.length := by
  unfold cutD
  rw [List.length_take, List.length_drop]
  omega
theorem sIx_le' (n d : Nat) (hd : d ≤ n) (o : Option Int) : HT.sIx n d o ≤ n := HT.sIx_le n d hd o
theorem sl_dyn (hZ : X.K = Z.K) : SlR X (rSl Z) := by
  intro pins s σ H x v vl vu lo hi sl Q I rx hs pl pu h
  obtain ⟨μ, S, d, R, hd, h⟩ := h
  cases d with
  | tup xs =>
    simp only [opSlice] at h
    have hd0 := hd
    simp only [DV] at hd
    obtain ⟨a, vs, rfl, h1, h2⟩ := hd
    rw [← hZ] at h1
    refine sl_tupA pins s σ H _ v vl vu lo hi sl Q I rx hs pl pu ⟨a, vs, rfl, h1, fun hw => ?_, fun _ p hp => new_tup R (cutD_DVs h2) h hp⟩
    rw [← h2.length] at hw
    have e : cutD xs lo hi = xs := by
      unfold cutD
      rw [hw.1, hw.2]
      simp
    rw [e] at h
    exact h.dn R hd0
  | str z =>
    simp only [opSlice] at h
    simp only [DV] at hd
    obtain ⟨h1, h2, rfl⟩ := hd
    refine sl_str pins s σ H _ v vl vu lo hi sl Q I rx hs pl pu ⟨_, rfl, by rw [sizeLine_eq]; simpa [Str.length] using h1, h.dn R ?_⟩
    simp only [DV]
    refine ⟨Nat.le_trans (cutD_length _ _ _) h1, fun c hc => h2 c (List.mem_of_mem_drop (List.mem_of_mem_take hc)), ?_⟩
    unfold cutS cutD
    simp [Str.length]
  | rol xs =>
    simp only [opSlice] at h
    split at h
    · rename_i hz
      simp only [DV] at hd
      obtain ⟨a, vs, rfl, h1, h2⟩ := hd
      have h1 := h1.sqL
      rw [← hZ] at h1
      exact sl_list pins s σ H _ v vl vu lo hi sl Q I rx hs pl pu ⟨a, vs, rfl, h1, fun p hp => new_lst R (Nat.le_trans (cutD_length _ _ _) hz) (cutD_DVs h2) h hp⟩
    · exact h.bad
  | ref i =>
    simp only [opSlice] at h
    cases e1 : S.l i with
    | none => rw [e1] at h; exact h.bad
    | some xs =>
      rw [e1] at h
      simp only [DV] at hd
      obtain ⟨a, ha, rfl⟩ := hd
      obtain ⟨a', vs, ha', h1, h2, hz⟩ := R.list e1
      rw [ha] at ha'; cases ha'
      rw [← hZ] at h1
      exact sl_list pins s σ H _ v vl vu lo hi sl Q I rx hs pl pu ⟨a, vs, rfl, h1, fun p hp => new_lst R (Nat.le_trans (cutD_length _ _ _) hz) (cutD_DVs h2) h hp⟩
  | _ => exact h.bad
theorem opSlice_noexc (d : D) (lo hi : Option Int) (S : Sto) : ∀ c fs σ S1, opSlice d lo hi S ≠ .exc c fs σ S1 := by
  intro c fs σ S1 z
  unfold opSlice at z
  repeat' (split at z)
  all_goals cases z
theorem v_slc {lo hi : Option Expr} {p2 : Pos} {cl ch : C} (hZ : X.K = Z.K) (ha : PE X a (rdE Z P Φ W ca)) (hl : PO X lo (rdO Z P Φ W cl)) (hh : PO X hi (rdO Z P Φ W ch)) : PE X (.Subscript a (.Slice lo hi none p2) pos) (rdE Z P Φ W (.slc ca cl ch)) := by
  refine PE.imp (pe_slice (sl_dyn hZ) ha hl hh) ?_
  rintro τ H Q ⟨μ, σ, S, R, L, h⟩
  simp only [ev] at h
  refine stepEE R L h _ fun d S1 μ1 H1 v e1 R1 V1 hv h1 => ⟨μ1, σ, S1, R1, V1, h1.b1.mono ?_ (fun _ _ _ _ _ _ z => z) (fun _ _ _ _ _ _ z => z) (fun _ _ _ _ _ _ z => z) (fun _ _ _ _ _ _ z => z) (fun _ _ _ _ _ _ _ _ z => z)⟩
  rintro ds S2 μ2 H2 e2 R2 ⟨y, rfl, w⟩
  cases hy : ends y with
  | none => rw [hy] at w; exact w.bad
  | some lo' =>
    rw [hy] at w
    refine ⟨y, lo', rfl, hy, μ2, σ, S2, R2, V1.mono e2, w.b1.mono ?_ (fun _ _ _ _ _ _ z => z) (fun _ _ _ _ _ _ z => z) (fun _ _ _ _ _ _ z => z) (fun _ _ _ _ _ _ z => z) (fun _ _ _ _ _ _ _ _ z => z)⟩
    rintro ds S3 μ3 H3 e3 R3 ⟨z, rfl, w3⟩
    cases hz : ends z with
    | none => rw [hz] at w3; exact w3.bad
    | some hi' =>
      rw [hz] at w3
      exact ⟨z, hi', rfl, hz, μ3, S3, d, R3, (hv.mono e2).mono e3, w3.toQ (opSlice_noexc _ _ _ _)⟩
end
end Vm

namespace Vm
open PySem L2
section
variable {X : Cx} {Z : Zz} {P : Pg} {Φ : Nat → List D → Sto → Res} {W : WX}
variable {H H' : Hp} {μ μ' : List Addr} {S S' : Sto} {σ : Sl} {τ : St} {Q : VK} {k : Kt}
variable {a b e l o tg iter : Expr} {es : List Expr} {ca cb cc ce co ci cg : C} {pos p apos cpos : Pos}

/-! ### walks -/
/-- J walks xs, the items of d -/
def WalkOk (Z : Zz) (J : It) (d : D) (xs : List D) (μ1 : List Addr) (H1 : Hp) : Prop :=
  ∀ μ' S' H', Ext μ1 H1 μ' H' → RS Z μ' S' H' → still d xs S' = true →
    (∀ (i : Nat) (x : D), xs[i]? = some x → J.go i H' ∧ ∀ v H'', J.yld i H' v H'' → Ext μ' H' μ' H'' ∧ RS Z μ' S' H'' ∧ DV Z H'' μ' x v) ∧ (∀ i, xs.length ≤ i → J.stop i H')
def rdI (Z : Zz) (P : Pg) (Φ : Nat → List D → Sto → Res) (W : WX) (c : C) : TI := fun τ H R => ∃ μ σ S, RS Z μ S H ∧ SV Z H μ σ τ ∧
  Want Z μ H { v := fun ds S1 μ1 H1 => ∃ d xs, ds = [d] ∧ items S1 d = some xs ∧ ∀ J, WalkOk Z J d xs μ1 H1 → R J H1, x := kX Z W τ } (ev P Φ c [] σ S)
def iDyn (K : PySem.W.Frag) (tl : TE) : TI := fun σ H R => tl σ H fun x H1 => (∃ a, x = .ref a ∧ (∃ xs, SqL K H1 a xs) ∧ R (Itl K a) H1) ∨ (∃ a, x = .ref a ∧ (∃ xs, SqT K H1 a xs) ∧ R (Itt K a) H1) ∨ ∃ z, x = .str z ∧ R (Its z) H1
theorem pi_dyn {l : Expr} {tl : TE} (hl : PE X l tl) : PI X tg l (iDyn X.K tl) := by
  refine ⟨fun pins s σ H R I h => ?_⟩
  refine thn (hl.run pins s σ H _ I h) fun v s1 ⟨x, H1, I1, r1, q1⟩ => ?_
  rcases q1 with ⟨a, e, ⟨xs, hq⟩, q⟩ | ⟨a, e, ⟨xs, hq⟩, q⟩ | ⟨z, e, q⟩
  · subst e
    cases r1
    obtain ⟨its, rv, p, hz⟩ := I1.list hq
    refine wpAny_pyIter_list p.isList ?_
    refine ⟨s1.heap.objs.size, [s1.heap.objs.size], _, _, H1, rfl, I1.kept (t' := s1.toks) fun b o e => Heap.get?_push_of_some _ e, turn_list a _, ⟨_, Heap.get?_push_size _ rfl, rfl, rfl⟩, fun b hb => ?_, q⟩
    have e : b = s1.heap.objs.size := by simpa using hb
    subst e
    exact I1.fpOk (Nat.le_refl _) (I1.hok.fresh (Nat.le_refl _))
  · subst e
    cases r1
    obtain ⟨its, rv, p, hz⟩ := I1.tuple hq
    refine wpAny_pyIter_tuple (show s1.heap.IsTuple a its.toArray from p) ?_
    refine ⟨s1.heap.objs.size, [s1.heap.objs.size], _, _, H1, rfl, I1.kept (t' := s1.toks) fun b o e => Heap.get?_push_of_some _ e, turn_tuple a _, ⟨_, Heap.get?_push_size _ rfl, rfl, rfl⟩, fun b hb => ?_, q⟩
    have e : b = s1.heap.objs.size := by simpa using hb
    subst e
    exact I1.fpOk (Nat.le_refl _) (I1.hok.fresh (Nat.le_refl _))
  · subst e
    obtain ⟨t, rfl⟩ := r1
    cases ha : z.cps.all (· < 128)
    · exact wpAny_pyIter_wide ha (pi_one (tk := s1.toks) I1 _ (turn_str _ z t "str_iterator" (.inr rfl)) ⟨_, Heap.get?_push_size _ rfl, rfl, rfl⟩ q)
    · exact wpAny_pyIter_ascii ha (pi_one (tk := s1.toks) I1 _ (turn_str _ z t "str_ascii_iterator" (.inl rfl)) ⟨_, Heap.get?_push_size _ rfl, rfl, rfl⟩ q)
theorem still_ref {S : Sto} {i : Nat} {xs : List D} (h : still (.ref i) xs S = true) : S.l i = some xs := by
  unfold still at h
  unfold Sto.l
  dsimp only at h
  cases e : S[i]? with
  | none => rw [e] at h; cases h
  | some o =>
    rw [e] at h
    cases o with
    | lst ys => exact congrArg some (D.of_beqs h)
    | _ => cases h
/-- a list, a tuple, a text is walked -/
theorem i_val (hZ : X.K = Z.K) (ha : PE X l (rdE Z P Φ W ca)) : PI X tg l (rdI Z P Φ W ca) := by
  refine PI.imp (pi_dyn ha) ?_
  rintro τ H R' ⟨μ, σ, S, R, L, h⟩
  refine ⟨μ, σ, S, R, L, h.mono ?_ (fun _ _ _ _ _ _ z => z) (fun _ _ _ _ _ _ z => z) (fun _ _ _ _ _ _ z => z) (fun _ _ _ _ _ _ z => z) (fun _ _ _ _ _ _ _ _ z => z)⟩
  rintro ds S1 μ1 H1 e1 R1 ⟨d, xs, rfl, hi, q⟩
  refine ⟨d, rfl, fun v hv => ?_⟩
  cases d with
  | tup ys =>
    cases hi
    have hv0 := hv
    simp only [DV] at hv
    obtain ⟨a, vs, rfl, h1, h2⟩ := hv
    rw [← hZ] at h1
    refine .inr (.inl ⟨a, rfl, ⟨vs, h1⟩, q _ fun μ' S' H' e R' _ => ⟨fun i x hx => ?_, fun i hi => ⟨vs, e.sqT h1, by rw [← h2.length]; exact hi⟩⟩⟩)
    obtain ⟨w, h3, h4⟩ := h2.get hx
    refine ⟨⟨vs, w, e.sqT h1, h3⟩, ?_⟩
    rintro v H'' ⟨rfl, y⟩
    have := y vs (e.sqT h1)
    rw [h3] at this
    cases this
    exact ⟨Ext.refl, R', h4.mono e⟩
  | rol ys =>
    cases hi
    simp only [DV] at hv
    obtain ⟨a, vs, rfl, h1, h2⟩ := hv
    have sq : ∀ {μ' H'}, Ext μ1 H1 μ' H' → SqL X.K H' a vs := fun e => by rw [hZ]; exact (e.rol h1).sqL
    refine .inl ⟨a, rfl, ⟨vs, sq Ext.refl⟩, q _ fun μ' S' H' e R' _ => ⟨fun i x hx => ?_, fun i hi => ⟨vs, sq e, by rw [← h2.length]; exact hi⟩⟩⟩
    obtain ⟨w, h3, h4⟩ := h2.get hx
    refine ⟨⟨vs, w, sq e, h3⟩, ?_⟩
    rintro v H'' ⟨rfl, y⟩
    have := y vs (sq e)
    rw [h3] at this
    cases this
    exact ⟨Ext.refl, R', h4.mono e⟩
  | ref j =>
    simp only [items] at hi
    simp only [DV] at hv
    obtain ⟨a, ha, rfl⟩ := hv
    obtain ⟨a', vs, ha', h1, h2, _⟩ := R1.list hi
    rw [ha] at ha'; cases ha'
    rw [← hZ] at h1
    refine .inl ⟨a, rfl, ⟨vs, h1⟩, q _ fun μ' S' H' e R' hs => ?_⟩
    obtain ⟨a2, ws, ha2, h3, h4, _⟩ := R'.list (still_ref hs)
    rw [e.at ha] at ha2; cases ha2
    rw [← hZ] at h3
    refine ⟨fun i x hx => ?_, fun i hi => ⟨ws, h3, by rw [← h4.length]; exact hi⟩⟩
    obtain ⟨w, h5, h6⟩ := h4.get hx
    refine ⟨⟨ws, w, h3, h5⟩, ?_⟩
    rintro v H'' ⟨rfl, y⟩
    have := y ws h3
    rw [h5] at this
    cases this
    exact ⟨Ext.refl, R', h6⟩
  | str z =>
    cases hi
    simp only [DV] at hv
    obtain ⟨h1, h2, rfl⟩ := hv
    refine .inr (.inr ⟨_, rfl, q _ fun μ' S' H' e R' _ => ⟨fun i x hx => ?_, fun i hi => ?_⟩⟩)
    · rw [List.getElem?_map] at hx
      cases hz : z[i]? with
      | none => rw [hz] at hx; cases hx
      | some c =>
        rw [hz] at hx
        cases hx
        have hil : i < z.length := (List.getElem?_eq_some_iff.mp hz).1
        refine ⟨by show i < z.toArray.size; simpa using hil, ?_⟩
        rintro v H'' ⟨rfl, c', hc', rfl⟩
        have : c' = c := by
          have h3 : z.toArray[i]? = some c' := hc'
          rw [List.getElem?_toArray, hz] at h3
          exact (Option.some.inj h3).symm
        subst this
        refine ⟨Ext.refl, R', ?_⟩
        simp only [DV]
        refine ⟨by rw [List.length_singleton]; decide, fun c2 h2' => ?_, trivial⟩
        rw [List.mem_singleton.mp h2']
        exact h2 _ (List.mem_of_getElem? hz)
    · rw [List.length_map] at hi
      show z.toArray.size ≤ i
      simpa using hi
  | _ => cases hi
theorem rangeD_get {lo hi : Int} {i : Nat} {x : D} (h : (rangeD lo hi)[i]? = some x) : x = .int (lo + i) ∧ i < (hi - lo).toNat := by
  unfold rangeD at h
  rw [List.getElem?_map] at h
  by_cases hl : i < (hi - lo).toNat
  · rw [List.getElem?_range hl] at h
    cases h
    exact ⟨rfl, hl⟩
  · rw [List.getElem?_eq_none (by rw [List.length_range]; omega)] at h
    cases h
theorem inR_ok {i : Int} (h : inR i = true) : -(2 ^ 62) ≤ i ∧ i < 2 ^ 62 := by
  unfold inR at h
  simp only [Bool.and_eq_true, decide_eq_true_eq] at h
  omega
/-- range(n) -/
theorem i_rng1 (hg : Gl X "range") (hm : X.mg "range" = none) (ha : PE X a (rdE Z P Φ W ca)) (hs : starEach [a] X.env = [(false, eval a X.env)] := by rfl) : PI X tg (.Call (.Name "range" p) [a] [] pos) (rdI Z P Φ W (.rng1 ca)) := by
  refine PI.imp (pi_range1 hg hm (pa_cons ha pa_nil hs) hs) ?_
  rintro τ H R' ⟨μ, σ, S, R, L, h⟩
  simp only [ev] at h
  refine stepE R L h _ (fun _ _ _ _ _ _ _ z => z) fun d S1 μ1 H1 v e1 R1 L1 hv h1 => ?_
  cases d with
  | int j =>
    dsimp only at h1
    split at h1
    · rename_i hj
      simp only [DV] at hv
      subst hv
      obtain ⟨h3, h4⟩ := inR_ok hj
      obtain ⟨d, xs, e2, hi, q⟩ := h1 μ1 H1 Ext.refl R1
      cases e2
      cases hi
      refine ⟨j, rfl, h3, h4, q _ fun μ' S' H' e R' _ => ⟨fun i x hx => ?_, fun i hi => ?_⟩⟩
      · obtain ⟨rfl, hil⟩ := rangeD_get hx
        refine ⟨by show i < j.toNat; omega, ?_⟩
        rintro v H'' ⟨rfl, rfl⟩
        exact ⟨Ext.refl, R', by simp only [DV]⟩
      · unfold rangeD at hi
        rw [List.length_map, List.length_range] at hi
        show j.toNat ≤ i
        omega
    · exact h1.bad
  | _ => exact h1.bad
theorem i_rng2 (hg : Gl X "range") (hm : X.mg "range" = none) (ha : PE X a (rdE Z P Φ W ca)) (hb : PE X b (rdE Z P Φ W cb)) (hs : starEach [a, b] X.env = [(false, eval a X.env), (false, eval b X.env)] := by rfl) (hs2 : starEach [b] X.env = [(false, eval b X.env)] := by rfl)
    (hs1 : starEach [a, b] X.env = (false, eval a X.env) :: starEach [b] X.env := by rfl) :
    PI X tg (.Call (.Name "range" p) [a, b] [] pos) (rdI Z P Φ W (.rng2 ca cb)) := by
  refine PI.imp (pi_range2 hg hm (pa_cons ha (pa_cons hb pa_nil hs2) hs1) hs hs2) ?_
  rintro τ H R' ⟨μ, σ, S, R, L, h⟩
  simp only [ev] at h
  refine stepE R L h _ (fun _ _ _ _ _ _ _ z => z) fun d S1 μ1 H1 v e1 R1 L1 hv h1 => stepE R1 L1 h1 _ (fun _ _ _ _ _ _ _ z => z) fun d2 S2 μ2 H2 v2 e2 R2 L2 hv2 h2 => ?_
  cases d with
  | int i =>
    cases d2 with
    | int j =>
      dsimp only at h2
      split at h2
      · rename_i hj
        rw [Bool.and_eq_true] at hj
        simp only [DV] at hv hv2
        subst hv; subst hv2
        obtain ⟨h3, h4⟩ := inR_ok hj.1
        obtain ⟨h5, h6⟩ := inR_ok hj.2
        obtain ⟨d, xs, e2, hi, q⟩ := h2 μ2 H2 Ext.refl R2
        cases e2
        cases hi
        refine ⟨i, j, rfl, ⟨h3, h4, h5, h6⟩, q _ fun μ' S' H' e R' _ => ⟨fun i' x hx => ?_, fun i' hi => ?_⟩⟩
        · obtain ⟨rfl, hil⟩ := rangeD_get hx
          refine ⟨hil, ?_⟩
          rintro v H'' ⟨rfl, rfl⟩
          exact ⟨Ext.refl, R', by simp only [DV]⟩
        · unfold rangeD at hi
          rw [List.length_map, List.length_range] at hi
          exact hi
      · exact h2.bad
    | _ => exact h2.bad
  | _ => exact h2.bad

/-! ### loops -/
theorem drop_at' {α : Type} : ∀ (l : List α) (i : Nat), i < l.length → ∃ x, l[i]? = some x ∧ l.drop i = x :: l.drop (i + 1)
  | [], i, h => by simp at h
  | x :: r, 0, h => ⟨x, rfl, rfl⟩
  | x :: r, i + 1, h => by
    obtain ⟨y, h1, h2⟩ := drop_at' r i (by simpa using h)
    exact ⟨y, by simpa using h1, by simpa using h2⟩
theorem s_for {body : List Stmt} (hp : PassesOwn (model X.prog X.w) X.A X.env X.xe) (hc : X.calm = true) (hi : PI X tg iter (rdI Z P Φ W ci)) (hg : PG X tg (rdG Z P Φ cg)) (hb : PSs X body (rdS Z P Φ W cb))
    (hs : ∀ x, foldedSetIterable iter X.env x = pure x := by intro _; rfl) : PS X (.For tg iter body [] pos) (rdS Z P Φ W (.forr cg ci cb)) := by
  refine PS.imp (ps_for hp hc hi hg hb hs) ?_
  rintro D τ H ⟨μ, σ, S, R, L, h⟩
  simp only [ev] at h
  refine ⟨μ, σ, S, R, L, h.b1.mono ?_ (fun _ _ _ _ _ _ z => z) (fun _ _ _ _ _ _ z => z) (fun _ _ _ _ _ _ z => z) (fun _ _ _ _ _ _ z => z) (fun c fs σ1 S1 μ1 H1 e R1 z => kS_x (D := D) c fs S1 μ1 H1 L e R1 z)⟩
  rintro ds S1 μ1 H1 e1 R1 ⟨d, rfl, w⟩
  cases hxs : items S1 d with
  | none => rw [hxs] at w; exact w.bad
  | some xs =>
    rw [hxs] at w
    refine ⟨d, xs, rfl, hxs, fun J hJ => ?_⟩
    refine ⟨fun i m τ' H' => m = xs.length - i ∧ i ≤ xs.length ∧ ∃ μ2 σ2 S2, Ext μ1 H1 μ2 H' ∧ RS Z μ2 S2 H' ∧ SV Z H' μ2 σ2 τ' ∧ Want Z μ2 H' (kS Z W D) (loopR (still d xs) (fun x σ S => bg (ev P Φ cg [x] σ S) fun σ S => ev P Φ cb [] σ S) (xs.drop i) σ2 S2),
      ⟨_, rfl, Nat.zero_le _, μ1, σ, S1, Ext.refl, R1, L.mono e1, by rw [List.drop_zero]; exact w⟩, ?_⟩
    rintro i m τ' H' ⟨rfl, hi, μ2, σ2, S2, e2, R2, L2, w2⟩
    by_cases hlt : i < xs.length
    · obtain ⟨x, hx, hd⟩ := drop_at' xs i hlt
      rw [hd, loopR] at w2
      split at w2
      · rename_i hst
        obtain ⟨hgo, hstop⟩ := hJ μ2 S2 H' e2 R2 hst
        obtain ⟨go, hy⟩ := hgo i x hx
        refine .inr ⟨go, fun τ3 H3 => ∃ μ3 σ3 S3, Ext μ1 H1 μ3 H3 ∧ RS Z μ3 S3 H3 ∧ SV Z H3 μ3 σ3 τ3 ∧ Want Z μ3 H3 (kS Z W D) (loopR (still d xs) (fun x σ S => bg (ev P Φ cg [x] σ S) fun σ S => ev P Φ cb [] σ S) (xs.drop (i + 1)) σ3 S3), ?_, ?_⟩
        · rintro τ3 H3 ⟨μ3, σ3, S3, e3, R3, L3, w3⟩
          exact ⟨xs.length - (i + 1), by omega, rfl, hlt, μ3, σ3, S3, e3, R3, L3, w3⟩
        · intro v H'' hyld
          obtain ⟨e4, R4, hv⟩ := hy v H'' hyld
          have w4 := (w2.turn.bg).ext e4
          refine ⟨μ2, σ2, S2, x, R4, L2.mono e4, hv, w4.mono (fun _ _ _ _ _ _ z => z) ?_ (fun _ _ _ _ _ _ z => z) (fun _ _ _ _ _ _ z => z) (fun _ _ _ _ _ _ z => z) (fun _ _ _ _ _ _ _ _ z => z)⟩
          intro σ5 S5 μ5 H5 e5 R5 w5 τ5 L5
          refine ⟨μ5, σ5, S5, R5, L5, w5.mono (fun _ _ _ _ _ _ z => z) ?_ (fun _ _ _ _ _ _ z => z) (fun _ _ _ _ _ _ z => z) ?_ (fun _ _ _ _ _ _ _ _ z => z)⟩
          · intro σ6 S6 μ6 H6 e6 R6 w6 τ6 L6
            exact ⟨μ6, σ6, S6, ((e2.trans e4).trans e5).trans e6, R6, L6, w6⟩
          · intro σ6 S6 μ6 H6 e6 R6 w6 τ6 L6
            exact ⟨μ6, σ6, S6, ((e2.trans e4).trans e5).trans e6, R6, L6, w6⟩
      · exact w2.bad
    · have hi' : i = xs.length := by omega
      subst hi'
      rw [List.drop_length, loopR] at w2
      split at w2
      · rename_i hst
        obtain ⟨_, hstop⟩ := hJ μ2 S2 H' e2 R2 hst
        exact .inl ⟨hstop _ (Nat.le_refl _), w2 μ2 H' Ext.refl R2 τ' L2⟩
      · exact w2.bad
theorem s_whl {body : List Stmt} {t : Expr} {ct : C} (hp : PassesOwn (model X.prog X.w) X.A X.env X.xe) (ht : PT X t (rdT Z P Φ W ct)) (hb : PSs X body (rdS Z P Φ W cb)) : PS X (.While t body [] pos) (rdS Z P Φ W (.whl ct cb)) := by
  refine PS.imp (ps_while hp ht hb) ?_
  rintro D τ H ⟨μ, σ, S, R, L, h⟩
  simp only [ev] at h
  refine ⟨fun m τ' H' => ∃ μ2 σ2 S2, RS Z μ2 S2 H' ∧ SV Z H' μ2 σ2 τ' ∧ Want Z μ2 H' (kS Z W D) (whileR (fun σ S => ev P Φ ct [] σ S) (fun σ S => ev P Φ cb [] σ S) m σ2 S2), ⟨P.wf, μ, σ, S, R, L, h⟩, ?_⟩
  rintro m τ' H' ⟨μ2, σ2, S2, R2, L2, w2⟩
  cases m with
  | zero => exact w2.bad
  | succ m =>
    rw [whileR] at w2
    refine stepT R2 L2 w2 _ (fun c fs S1 μ1 H1 e R1 z => kS_x c fs S1 μ1 H1 L2 e R1 z) ?_ ?_
    · intro d S1 μ1 H1 h1
      split at h1
      · rename_i hb; exact ⟨_, hb⟩
      · rename_i hb; exact ⟨_, hb⟩
      · exact h1.bad
    · intro d S1 μ1 H1 b e1 R1 L1 hb' h1
      cases b with
      | true =>
        rw [hb'] at h1
        refine iteT ⟨fun τ3 H3 => ∃ μ3 σ3 S3, RS Z μ3 S3 H3 ∧ SV Z H3 μ3 σ3 τ3 ∧ Want Z μ3 H3 (kS Z W D) (whileR (fun σ S => ev P Φ ct [] σ S) (fun σ S => ev P Φ cb [] σ S) m σ3 S3), fun τ3 H3 z => ⟨m, Nat.lt_succ_self _, z⟩, ?_⟩
        refine ⟨μ1, σ2, S1, R1, L1, h1.turn.mono (fun _ _ _ _ _ _ z => z) ?_ (fun _ _ _ _ _ _ z => z) (fun _ _ _ _ _ _ z => z) ?_ (fun _ _ _ _ _ _ _ _ z => z)⟩
        · intro σ6 S6 μ6 H6 e6 R6 w6 τ6 L6
          exact ⟨μ6, σ6, S6, R6, L6, w6⟩
        · intro σ6 S6 μ6 H6 e6 R6 w6 τ6 L6
          exact ⟨μ6, σ6, S6, R6, L6, w6⟩
      | false =>
        rw [hb'] at h1
        exact iteF (h1 μ1 H1 Ext.refl R1 τ' L1)
end
end Vm

namespace Vm
open PySem L2
section
variable {X : Cx} {Z : Zz} {P : Pg} {Φ : Nat → List D → Sto → Res} {W : WX}
variable {H H' : Hp} {μ μ' : List Addr} {S S' : Sto} {σ : Sl} {τ : St} {Q : VK} {k : Kt}
variable {a b e l o tg iter elt : Expr} {es ifs : List Expr} {ca cb cc ce co ci cg ct : C} {pos p apos cpos : Pos}

/-! ### the slots of a comprehension -/
theorem wipe_get (τ : St) (i : Nat) : ∀ own : List Nat, (wipe τ own)[i]? = if i ∈ own then (if i < τ.length then some none else none) else τ[i]?
  | [] => by simp [wipe]
  | v :: vs => by
    unfold wipe
    by_cases hi : v = i
    · subst hi
      rw [if_pos List.mem_cons_self]
      by_cases hl : v < τ.length
      · rw [if_pos hl, List.getElem?_set_self (by rw [wipe_length]; exact hl)]
      · rw [if_neg hl, List.getElem?_eq_none (by rw [List.length_set, wipe_length]; omega)]
    · rw [List.getElem?_set_ne hi, wipe_get τ i vs]
      by_cases hm : i ∈ vs
      · rw [if_pos hm, if_pos (List.mem_cons_of_mem _ hm)]
      · rw [if_neg hm, if_neg (fun z => (List.mem_cons.mp z).elim (fun q => hi q.symm) hm)]
theorem wipeD_length (σ : Sl) : ∀ own : List Nat, (wipeD σ own).length = σ.length
  | [] => rfl
  | v :: vs => by unfold wipeD; rw [List.length_set, wipeD_length σ vs]
theorem wipeD_get (σ : Sl) (i : Nat) : ∀ own : List Nat, (wipeD σ own)[i]? = if i ∈ own then (if i < σ.length then some none else none) else σ[i]?
  | [] => by simp [wipeD]
  | v :: vs => by
    unfold wipeD
    by_cases hi : v = i
    · subst hi
      rw [if_pos List.mem_cons_self]
      by_cases hl : v < σ.length
      · rw [if_pos hl, List.getElem?_set_self (by rw [wipeD_length]; exact hl)]
      · rw [if_neg hl, List.getElem?_eq_none (by rw [List.length_set, wipeD_length]; omega)]
    · rw [List.getElem?_set_ne hi, wipeD_get σ i vs]
      by_cases hm : i ∈ vs
      · rw [if_pos hm, if_pos (List.mem_cons_of_mem _ hm)]
      · rw [if_neg hm, if_neg (fun z => (List.mem_cons.mp z).elim (fun q => hi q.symm) hm)]
theorem SV.wipe (L : SV Z H μ σ τ) (own : List Nat) : SV Z H μ (wipeD σ own) (L2.wipe τ own) := by
  refine ⟨by rw [wipeD_length, wipe_length]; exact L.len, fun i d h => ?_⟩
  rw [wipeD_get] at h
  rw [wipe_get]
  by_cases hm : i ∈ own
  · rw [if_pos hm] at h
    split at h <;> cases h
  · rw [if_neg hm] at h ⊢
    exact L.at_ i d h
theorem wipe_set (τ : St) {i : Nat} (v : Option V) {own : List Nat} (h : i ∈ own) : L2.wipe (τ.set i v) own = L2.wipe τ own := by
  apply List.ext_getElem?
  intro j
  rw [wipe_get, wipe_get, List.length_set]
  by_cases hm : j ∈ own
  · rw [if_pos hm, if_pos hm]
  · rw [if_neg hm, if_neg hm, List.getElem?_set_ne (fun z : i = j => hm (z ▸ h))]
/-- a target of the comprehension's own names -/
def TgOk (Z : Zz) (P : Pg) (Φ : Nat → List D → Sto → Res) (c : C) (t : TG) (own : List Nat) : Prop :=
  ∀ (H : Hp) (μ : List Addr) (S : Sto) (σ : Sl) (τ : St) (d : D) (v : V), RS Z μ S H → SV Z H μ σ τ → DV Z H μ d v → ∀ σ2 S2, ev P Φ c [d] σ S = .nx σ2 S2 →
    S2 = S ∧ ∀ Q : St → Hp → Prop, (∀ τ2, SV Z H μ σ2 τ2 → L2.wipe τ2 own = L2.wipe τ own → Q τ2 H) → t v τ H Q
theorem tgOk_name {i : Nat} {own : List Nat} (hi : i ∈ own) : TgOk Z P Φ (.gn i) (gName i) own := by
  intro H μ S σ τ d v R L hv σ2 S2 h
  simp only [ev] at h
  split at h
  · cases h
    exact ⟨rfl, fun Q q => q _ (L.set hv) (wipe_set τ _ hi)⟩
  · cases h
/-- names of a tuple -/
def tgs : List Nat → C
  | [] => .gnil
  | i :: r => .gcons (.gn i) (tgs r)
def gNm : List Nat → TGs
  | [] => gNil
  | i :: r => gCons (gName i) (gNm r)
theorem tgs_ok {own : List Nat} : ∀ (is : List Nat), (∀ i ∈ is, i ∈ own) → ∀ (H : Hp) (μ : List Addr) (S : Sto) (σ : Sl) (τ : St) (ds : List D) (vs : List V), SV Z H μ σ τ → DVs Z H μ ds vs → ∀ σ2 S2, ev P Φ (tgs is) ds σ S = .nx σ2 S2 →
    S2 = S ∧ ds.length = is.length ∧ ∀ Q : St → Hp → Prop, (∀ τ2, SV Z H μ σ2 τ2 → L2.wipe τ2 own = L2.wipe τ own → Q τ2 H) → gNm is vs τ H Q
  | [], _, H, μ, S, σ, τ, ds, vs, L, hv, σ2, S2, h => by
    cases ds with
    | nil =>
      simp only [tgs, ev] at h
      cases h
      simp only [DVs] at hv
      subst hv
      exact ⟨rfl, rfl, fun Q q => ⟨rfl, q τ L rfl⟩⟩
    | cons d ds => cases h
  | i :: r, hi, H, μ, S, σ, τ, ds, vs, L, hv, σ2, S2, h => by
    cases ds with
    | nil => cases h
    | cons d ds =>
      simp only [tgs, ev] at h
      simp only [DVs] at hv
      obtain ⟨v, ws, rfl, hv1, hv2⟩ := hv
      by_cases z : i < σ.length
      · simp only [if_pos z, bg] at h
        obtain ⟨e1, e2, q1⟩ := tgs_ok r (fun j hj => hi j (List.mem_cons_of_mem _ hj)) H μ S _ (τ.set i (some v)) ds ws (L.set hv1) hv2 σ2 S2 h
        refine ⟨e1, by rw [List.length_cons, List.length_cons, e2], fun Q q => ⟨v, ws, rfl, q1 Q fun τ2 L2' w => q τ2 L2' (w.trans (wipe_set τ _ (hi i List.mem_cons_self)))⟩⟩
      · simp only [if_neg z, bg] at h
        cases h
theorem tgOk_tup {is own : List Nat} {n : Nat} (hn : n = is.length) (hi : ∀ i ∈ is, i ∈ own) : TgOk Z P Φ (.gt (tgs is)) (gTup Z.K n (gNm is)) own := by
  intro H μ S σ τ d v R L hv σ2 S2 h
  cases d with
  | tup xs =>
    simp only [ev] at h
    simp only [DV] at hv
    obtain ⟨a, vs, rfl, h1, h2⟩ := hv
    obtain ⟨e1, e2, q⟩ := tgs_ok is hi H μ S σ τ xs vs L h2 σ2 S2 h
    exact ⟨e1, fun Q qq => ⟨a, vs, rfl, h1, by rw [← h2.length, e2, hn], q Q qq⟩⟩
  | _ => cases h

/-! ### list comprehensions -/
/-- no error is let out -/
abbrev W0 : WX := fun _ _ _ _ => False
theorem loopC_len {chk : Sto → Bool} {f : D → Sto → Res} : ∀ {xs acc ys : List D} {S S' : Sto}, loopC chk f acc xs S = .val ys S' → acc.length ≤ ys.length
  | [], acc, ys, S, S', h => by
    rw [loopC] at h
    split at h
    · cases h; exact Nat.le_refl _
    · cases h
  | x :: xs, acc, ys, S, S', h => by
    rw [loopC] at h
    split at h
    · split at h
      · have := loopC_len h
        rw [List.length_append] at this
        omega
      · cases h
    · cases h
theorem lc_core' {g : TG} {own : List Nat} {tt : TT} {te : TE} (hg : TgOk Z P Φ cg g own) (ht : ∀ τ H Q, rdT Z P Φ W0 ct τ H Q → tt τ H Q) (he : ∀ τ H Q, rdE Z P Φ W0 ce τ H Q → te τ H Q) {τ : St} {H : Hp} {Q : VK}
    (h : rdE Z P Φ W (.lc own cg ci ct ce) τ H Q) : tLc (rdI Z P Φ W ci) g tt te own τ H Q := by
  obtain ⟨μ, σ, S, R, L, h⟩ := h
  rw [ev] at h
  refine ⟨μ, σ, S, R, L, h.b1.mono ?_ (fun _ _ _ _ _ _ z => z) (fun _ _ _ _ _ _ z => z) (fun _ _ _ _ _ _ z => z) (fun _ _ _ _ _ _ z => z) (fun _ _ _ _ _ _ _ _ z => z)⟩
  rintro ds S1 μ1 H1 e1 R1 ⟨d, rfl, w⟩
  cases hxs : items S1 d with
  | none => rw [hxs] at w; exact w.bad
  | some xs =>
    rw [hxs] at w
    refine ⟨d, xs, rfl, hxs, fun J hJ L0 hL0 => ?_⟩
    dsimp only at w
    cases hr : loopC (still d xs) (fun x S => turnC (ev P Φ cg [x] (wipeD σ own) S) (fun σ S => ev P Φ ct [] σ S) fun σ S => ev P Φ ce [] σ S) [] xs S1 with
    | val ys S3 =>
      rw [hr] at w
      have w' : Want Z μ1 H1 (kE Z W τ Q) (if ys.length ≤ SL then .val [.ref S3.length] (S3 ++ [.lst ys]) else .bad) := w
      by_cases hz : ys.length ≤ SL
      · rw [if_pos hz] at w'
        obtain ⟨ea, Ra⟩ := R1.aside (o := .lst []) hL0
        refine ⟨fun i m H' => m = xs.length - i ∧ i ≤ xs.length ∧ ∃ μ2 S2 acc vs, Ext μ1 H1 μ2 H' ∧ RS Z μ2 S2 H' ∧ SV Z H' μ2 σ τ ∧ H' L0 = some (.lst vs) ∧ L0 ∉ μ2 ∧ DVs Z H' μ2 acc vs ∧ loopC (still d xs) (fun x S => turnC (ev P Φ cg [x] (wipeD σ own) S) (fun σ S => ev P Φ ct [] σ S) fun σ S => ev P Φ ce [] σ S) acc (xs.drop i) S2 = .val ys S3,
          ⟨_, rfl, Nat.zero_le _, μ1, S1, [], [], ea, Ra, (L.mono e1).mono ea, upd_same, R1.fresh hL0, by simp only [DVs], by rw [List.drop_zero]; exact hr⟩, ?_⟩
        rintro i m H' ⟨rfl, hi, μ2, S2, acc, vs, e2, R2, L2', hq, hm, hacc, hl⟩
        by_cases hlt : i < xs.length
        · obtain ⟨x, hx, hd⟩ := drop_at' xs i hlt
          rw [hd, loopC] at hl
          split at hl
          · rename_i hst
            obtain ⟨hgo, hstop⟩ := hJ μ2 S2 H' e2 R2 hst
            obtain ⟨go, hy⟩ := hgo i x hx
            split at hl
            · rename_i zs S4 hf
              refine .inr ⟨go, fun H5 => ∃ μ5 S5 acc5 vs5, Ext μ1 H1 μ5 H5 ∧ RS Z μ5 S5 H5 ∧ SV Z H5 μ5 σ τ ∧ H5 L0 = some (.lst vs5) ∧ L0 ∉ μ5 ∧ DVs Z H5 μ5 acc5 vs5 ∧ loopC (still d xs) (fun x S => turnC (ev P Φ cg [x] (wipeD σ own) S) (fun σ S => ev P Φ ct [] σ S) fun σ S => ev P Φ ce [] σ S) acc5 (xs.drop (i + 1)) S5 = .val ys S3, ?_, ?_⟩
              · rintro H5 ⟨μ5, S5, acc5, vs5, z⟩
                exact ⟨xs.length - (i + 1), by omega, rfl, hlt, μ5, S5, acc5, vs5, z⟩
              · intro v H'' hyld
                obtain ⟨e4, R4, hv⟩ := hy v H'' hyld
                -- what the turn does
                unfold turnC at hf
                cases hg1 : ev P Φ cg [x] (wipeD σ own) S2 with
                | nx σ2 S2' =>
                  rw [hg1] at hf
                  obtain ⟨rfl, tg1⟩ := hg H'' μ2 S2 (wipeD σ own) (L2.wipe τ own) x v R4 ((L2'.mono e4).wipe own) hv σ2 S2' hg1
                  refine tg1 _ fun τ2 L6 hw => ⟨by
                    rw [hw]
                    apply List.ext_getElem?
                    intro j
                    rw [wipe_get, wipe_get, wipe_length]
                    by_cases hj : j ∈ own
                    · rw [if_pos hj, if_pos hj]
                    · rw [if_neg hj, if_neg hj], ht _ _ _ ?_⟩
                  simp only [bg] at hf
                  refine ⟨μ2, σ2, S2', R4, L6, ?_⟩
                  -- the test
                  cases ht1 : ev P Φ ct [] σ2 S2' with
                  | val ts S6 =>
                    rw [ht1] at hf
                    match ts, hf with
                    | [], hf => cases hf
                    | _ :: _ :: _, hf => cases hf
                    | [y], hf =>
                      simp only [b1] at hf
                      intro μ6 H6 e6 R6
                      cases hty : tru S6 y with
                      | none => rw [hty] at hf; cases hf
                      | some bb =>
                        refine ⟨y, bb, rfl, hty, ?_⟩
                        obtain ⟨m6, q6⟩ := (e4.trans e6).out hq hm
                        rw [hty] at hf
                        cases bb with
                        | false =>
                          cases hf
                          refine iteF ⟨μ6, S4, acc, vs, (e2.trans e4).trans e6, R6, (L2'.mono e4).mono e6, q6, m6, hacc.mono (e4.trans e6), ?_⟩
                          rw [List.append_nil] at hl
                          exact hl
                        | true =>
                          dsimp only at hf
                          refine iteT (he _ _ _ ⟨μ6, σ2, S6, R6, L6.mono e6, ?_⟩)
                          cases he1 : ev P Φ ce [] σ2 S6 with
                          | val us S7 =>
                            rw [he1] at hf
                            match us, hf with
                            | [], hf => cases hf
                            | _ :: _ :: _, hf => cases hf
                            | [u], hf =>
                              cases hf
                              intro μ7 H7 e7 R7
                              refine ⟨u, rfl, fun w7 hw7 => ?_⟩
                              obtain ⟨m7, q7⟩ := e7.out q6 m6
                              have hlen := loopC_len hl
                              rw [List.length_append, List.length_singleton] at hlen
                              obtain ⟨mo, R8⟩ := R7.over (o := .lst (vs ++ [w7])) q7 (fun _ z => by cases z) (fun _ _ z => by cases z) m7
                              refine ⟨vs, q7, ?_, μ7, S4, acc ++ [u], vs ++ [w7], (((e2.trans e4).trans e6).trans e7).over hL0, R8, ⟨L2'.len, fun j dd hj => ?_⟩, upd_same, m7, ?_, hl⟩
                              · rw [sizeLine_eq, ← hacc.length]
                                have : ys.length ≤ 16777216 := hz
                                omega
                              · obtain ⟨vv, g1, g2⟩ := (((L2'.mono e4).mono e6).mono e7).at_ j dd hj
                                exact ⟨vv, g1, g2.mo mo⟩
                              · exact ((hacc.mono (e4.trans e6)).mono e7 |>.append (DVs.one hw7)).mo mo
                          | _ => rw [he1] at hf; cases hf
                  | _ => rw [ht1] at hf; cases hf
                | _ => rw [hg1] at hf; cases hf
            · cases hl
          · cases hl
        · have hi' : i = xs.length := by omega
          subst hi'
          rw [List.drop_length, loopC] at hl
          split at hl
          · rename_i hst
            cases hl
            obtain ⟨_, hstop⟩ := hJ μ2 S3 H' e2 R2 hst
            obtain ⟨e9, R9⟩ := R2.adopt e2 hq hL0 hm hz hacc
            refine .inl ⟨hstop _ (Nat.le_refl _), Want.dE' w' e9 R9 ?_⟩
            simp only [DV]
            exact ⟨L0, by rw [← R2.len, List.getElem?_append_right (Nat.le_refl _)]; simp, rfl⟩
          · cases hl
      · rw [if_neg hz] at w'
        exact w'.bad
    | _ =>
      rw [hr] at w
      exact w.bad
end
end Vm

namespace Vm
open PySem L2
section
variable {X : Cx} {Z : Zz} {P : Pg} {Φ : Nat → List D → Sto → Res} {W : WX}
variable {H H' : Hp} {μ μ' : List Addr} {S S' : Sto} {σ : Sl} {τ : St} {Q : VK} {k : Kt}
variable {a b e l o tg iter elt : Expr} {es ifs : List Expr} {ca cb cc ce co ci cg ct : C} {pos p apos cpos : Pos}

theorem v_lc {scope : Scope} {own : List (Str × Nat)} {g : TG} (hc : X.calm = true) (hN : X.N.Nodup) (hi : PI X tg iter (rdI Z P Φ W ci)) (ok : BlkOk X.N X.env.scope scope own)
    (hgo : TgOk Z P Φ cg g (own.map (·.2))) (hg : ∀ (s : Shared) (H : Hp) (C : Addr) (cl : List (Str × Addr)) (fp : List Addr), PG (X.blk s H scope (compEnvC scope cl C X.env) fp) tg g)
    (ht : ∀ (s : Shared) (H : Hp) (C : Addr) (cl : List (Str × Addr)) (fp : List Addr), PTs (X.blk s H scope (compEnvC scope cl C X.env) fp) ifs (rdT Z P Φ W0 ct))
    (he : ∀ (s : Shared) (H : Hp) (C : Addr) (cl : List (Str × Addr)) (fp : List Addr), PE (X.blk s H scope (compEnvC scope cl C X.env) fp) elt (rdE Z P Φ W0 ce)) (hs : ∀ x, foldedSetIterable iter X.env x = pure x := by intro _; rfl) :
    PE X (.ListComp elt [⟨tg, iter, ifs, 0⟩] scope pos) (rdE Z P Φ W (.lc (own.map (·.2)) cg ci ct ce)) :=
  PE.imp (pe_lc hc hN hi ok hg ht he hs) fun _ _ _ h => lc_core' hgo (fun _ _ _ z => z) (fun _ _ _ z => z) h
/-- name = [..] on one line -/
theorem s_setlc {i : Nat} {y : Str} {py spos : Pos} {scope : Scope} {own : List (Str × Nat)} {g : TG} (hc : X.calm = true) (hN : X.N.Nodup) (hy : X.N[i]? = some y) (hyl : X.env.scope.names.lookup y = some .local)
    (hsw : swapsWith (.ListComp elt [⟨tg, iter, ifs, 0⟩] scope pos) (some (.Name y py)) spos.line X.env = pure true) (hi : PI X tg iter (rdI Z P Φ W ci)) (ok : BlkOk X.N X.env.scope scope own)
    (hgo : TgOk Z P Φ cg g (own.map (·.2))) (hg : ∀ (s : Shared) (H : Hp) (C : Addr) (cl : List (Str × Addr)) (fp : List Addr), PG (X.blk s H scope (compEnvC scope cl C X.env) fp) tg g)
    (ht : ∀ (s : Shared) (H : Hp) (C : Addr) (cl : List (Str × Addr)) (fp : List Addr), PTs (X.blk s H scope (compEnvC scope cl C X.env) fp) ifs (rdT Z P Φ W0 ct))
    (he : ∀ (s : Shared) (H : Hp) (C : Addr) (cl : List (Str × Addr)) (fp : List Addr), PE (X.blk s H scope (compEnvC scope cl C X.env) fp) elt (rdE Z P Φ W0 ce)) (hs : ∀ x, foldedSetIterable iter X.env x = pure x := by intro _; rfl) :
    PS X (.Assign [.Name y py] (.ListComp elt [⟨tg, iter, ifs, 0⟩] scope pos) spos) (rdS Z P Φ W (.asg (.gn i) (.lc (own.map (·.2)) cg ci ct ce))) := by
  refine PS.imp (ps_setLc hc hN hy hyl hsw hi ok hg ht he hs) ?_
  rintro D τ H ⟨μ, σ, S, R, L, h⟩
  rw [ev] at h
  have h' : rdE Z P Φ W (.lc (own.map (·.2)) cg ci ct ce) τ H (fun v H1 => gName i v τ H1 D.nx) := by
    refine stepSE R L h _ fun d S1 μ1 H1 v e1 R1 L1 hv h1 => ?_
    simp only [ev, bg] at h1
    split at h1
    · rename_i e
      split at e
      · cases e
        exact h1 μ1 H1 Ext.refl R1 _ (L1.set hv)
      · cases e
    · exact h1.bad
  exact lc_core' hgo (fun _ _ _ z => z) (fun _ _ _ z => z) h'
/-- no test -/
theorem ts_nil : PTs X [] (rdT Z P Φ W (.kon (.bl true))) := ⟨fun pins s σ H Q I h => pts_nil.run pins s σ H Q I (by
  obtain ⟨μ, σ', S, R, L, h⟩ := h
  simp only [ev] at h
  obtain ⟨d, b, e1, e2, q⟩ := h μ H Ext.refl R
  cases e1
  cases e2
  exact q)⟩
theorem ts_one (h : PT X a (rdT Z P Φ W ca)) : PTs X [a] (rdT Z P Φ W ca) := pts_one h

/-! ### built-in calls -/
def rCB (Z : Zz) (b : Bi) : List V → Hp → VK → Prop := fun vs H Q => ∃ μ S ds, RS Z μ S H ∧ DVs Z H μ ds vs ∧ Want Z μ H (kQ Z Q) (callB b ds S)
theorem callB_noexc (b : Bi) (ds : List D) (S : Sto) : ∀ c fs σ S1, callB b ds S ≠ .exc c fs σ S1 := by
  intro c fs σ S1 z
  unfold callB callB1 callB2 at z
  repeat' (split at z)
  all_goals cases z
theorem rd_blt {b : Bi} {τ : St} {H : Hp} {Q : VK} (h : rdE Z P Φ W (.blt b ca) τ H Q) : tCB (rCB Z b) (rdA Z P Φ W ca) τ H Q := by
  obtain ⟨μ, σ, S, R, L, h⟩ := h
  simp only [ev] at h
  exact stepA R L h _ (fun _ _ _ _ _ _ _ z => z) fun ds S1 μ1 H1 vs e1 R1 L1 hvs h1 => ⟨μ1, S1, ds, R1, hvs, h1.toQ (callB_noexc _ _ _)⟩
theorem v_blt {x : Str} {id : String} {bi : Bi} (hc : CallR X (.builtin id) (rCB Z bi)) (hg : Gl X x) (hm : X.mg x = none) (hv : bootBuiltins x = some (.builtin id)) (ha : PA X (e :: es) (rdA Z P Φ W ca)) (hn : x ≠ "__name__" := by decide) (hdb : (x == ("__debug__" : Str)) = false := by decide)
    (he : starEach (e :: es) X.env = (false, eval e X.env) :: starEach es X.env := by rfl) (hpl : (backTo pos (starEach es X.env)).any (·.1) = false := by rfl) : PE X (.Call (.Name x p) (e :: es) [] pos) (rdE Z P Φ W (.blt bi ca)) :=
  PE.imp (pe_callB hc hg hm hv ha hn hdb he hpl) fun _ _ _ h => rd_blt h
theorem v_blty {x : Str} {T : String} {bi : Bi} (hc : CallR X (.type T) (rCB Z bi)) (hg : Gl X x) (hm : X.mg x = none) (hv : bootBuiltins x = some (.type T)) (ha : PA X (e :: es) (rdA Z P Φ W ca)) (hn : x ≠ "__name__" := by decide) (hdb : (x == ("__debug__" : Str)) = false := by decide)
    (he : starEach (e :: es) X.env = (false, eval e X.env) :: starEach es X.env := by rfl) (hpl : (backTo pos (starEach es X.env)).any (·.1) = false := by rfl) : PE X (.Call (.Name x p) (e :: es) [] pos) (rdE Z P Φ W (.blt bi ca)) :=
  PE.imp (pe_callTy hc hg hm hv ha hn hdb he hpl) fun _ _ _ h => rd_blt h
theorem strlen (s : List Nat) : (⟨s.toArray⟩ : Str).length = s.length := by simp [Str.length]
theorem cb_len (hZ : X.K = Z.K) : CallR X (.builtin "len") (rCB Z .len) := by
  intro pins s σ H xs us Q I r h
  obtain ⟨μ, S, ds, R, hv0, h0⟩ := h
  match ds, hv0, h0 with
  | [], _, h => exact h.bad
  | [d], hvs, h =>
    obtain ⟨v, rfl, hv⟩ := hvs.of_one
    clear hvs
    have fin : ∀ {n : Nat}, callB .len [d] S = .val [.int n] S → LenV X.K v H n → wpAny (model X.prog X.w) X.A (call (.builtin "len") us) (EP X pins σ Q) X.xe s := fun {n} e hl => by
      rw [e] at h
      exact call_len pins s σ H _ us Q I r ⟨v, n, rfl, hl, h.dn R (by simp only [DV])⟩
    cases d with
    | str z =>
      simp only [DV] at hv
      obtain ⟨h1, h2, rfl⟩ := hv
      exact fin rfl ⟨by rw [sizeLine_eq, strlen]; exact h1, (strlen z).symm⟩
    | tup xs =>
      simp only [DV] at hv
      obtain ⟨a, vs, rfl, h1, h2⟩ := hv
      rw [← hZ] at h1
      exact fin rfl (.inr ⟨vs, h1, h2.length⟩)
    | rol xs =>
      simp only [DV] at hv
      obtain ⟨a, vs, rfl, h1, h2⟩ := hv
      have h1 := h1.sqL
      rw [← hZ] at h1
      exact fin rfl (.inl ⟨vs, h1, h2.length⟩)
    | ref i =>
      cases e1 : S.l i with
      | none => simp only [callB, callB1, e1] at h; exact h.bad
      | some xs =>
        simp only [DV] at hv
        obtain ⟨a, ha, rfl⟩ := hv
        obtain ⟨a', vs, ha', h1, h2, _⟩ := R.list e1
        rw [ha] at ha'; cases ha'
        rw [← hZ] at h1
        exact fin (by simp only [callB, callB1, e1]) (.inl ⟨vs, h1, h2.length⟩)
    | _ => exact h.bad
  | [_, _], _, h => exact h.bad
  | _ :: _ :: _ :: _, _, h => exact h.bad
theorem cb_abs : CallR X (.builtin "abs") (rCB Z .abs) := by
  intro pins s σ H xs us Q I r h
  obtain ⟨μ, S, ds, R, hv0, h0⟩ := h
  match ds, hv0, h0 with
  | [], _, h => exact h.bad
  | [d], hvs, h =>
    obtain ⟨v, rfl, hv⟩ := hvs.of_one
    clear hvs
    cases d with
    | int i =>
      simp only [DV] at hv
      subst hv
      exact call_abs pins s σ H _ us Q I r ⟨i, rfl, h.dn R (by simp only [DV])⟩
    | _ => exact h.bad
  | [_, _], _, h => exact h.bad
  | _ :: _ :: _ :: _, _, h => exact h.bad
theorem cb_max (hc : X.calm = true) : CallR X (.builtin "max") (rCB Z .max) := by
  intro pins s σ H xs us Q I r h
  obtain ⟨μ, S, ds, R, hv0, h0⟩ := h
  match ds, hv0, h0 with
  | [], _, h => exact h.bad
  | [_], _, h => exact h.bad
  | [d, e], hvs, h =>
    obtain ⟨v, w, rfl, hv, hw⟩ := hvs.of_two
    clear hvs
    cases d with
    | int i =>
      cases e with
      | int j =>
        simp only [DV] at hv hw
        subst hv; subst hw
        exact call_max2 hc pins s σ H _ us Q I r ⟨i, j, rfl, h.dn R (by simp only [DV])⟩
      | _ => exact h.bad
    | _ => exact h.bad
  | _ :: _ :: _ :: _, _, h => exact h.bad
theorem cb_min (hc : X.calm = true) : CallR X (.builtin "min") (rCB Z .min) := by
  intro pins s σ H xs us Q I r h
  obtain ⟨μ, S, ds, R, hv0, h0⟩ := h
  match ds, hv0, h0 with
  | [], _, h => exact h.bad
  | [_], _, h => exact h.bad
  | [d, e], hvs, h =>
    obtain ⟨v, w, rfl, hv, hw⟩ := hvs.of_two
    clear hvs
    cases d with
    | int i =>
      cases e with
      | int j =>
        simp only [DV] at hv hw
        subst hv; subst hw
        exact call_min2 hc pins s σ H _ us Q I r ⟨i, j, rfl, h.dn R (by simp only [DV])⟩
      | _ => exact h.bad
    | _ => exact h.bad
  | _ :: _ :: _ :: _, _, h => exact h.bad
theorem cb_int : CallR X (.type "int") (rCB Z .int) := by
  intro pins s σ H xs us Q I r h
  obtain ⟨μ, S, ds, R, hv0, h0⟩ := h
  match ds, hv0, h0 with
  | [], _, h => exact h.bad
  | [d], hvs, h =>
    obtain ⟨v, rfl, hv⟩ := hvs.of_one
    clear hvs
    cases d with
    | int i =>
      simp only [DV] at hv
      subst hv
      exact call_int1 pins s σ H _ us Q I r (.inl ⟨i, rfl, h.dn R (by simp only [DV])⟩)
    | bl i =>
      simp only [DV] at hv
      subst hv
      exact call_int1 pins s σ H _ us Q I r (.inr ⟨i, rfl, h.dn R (by simp only [DV])⟩)
    | _ => exact h.bad
  | [_, _], _, h => exact h.bad
  | _ :: _ :: _ :: _, _, h => exact h.bad
theorem cb_bool : CallR X (.type "bool") (rCB Z .bool) := by
  intro pins s σ H xs us Q I r h
  obtain ⟨μ, S, ds, R, hv0, h0⟩ := h
  match ds, hv0, h0 with
  | [], _, h => exact h.bad
  | [d], hvs, h =>
    obtain ⟨v, rfl, hv⟩ := hvs.of_one
    clear hvs
    cases d with
    | int i =>
      simp only [DV] at hv
      subst hv
      exact call_bool1 pins s σ H _ us Q I r (.inl ⟨i, rfl, h.dn R (by simp only [DV])⟩)
    | bl i =>
      simp only [DV] at hv
      subst hv
      exact call_bool1 pins s σ H _ us Q I r (.inr ⟨i, rfl, h.dn R (by simp only [DV])⟩)
    | _ => exact h.bad
  | [_, _], _, h => exact h.bad
  | _ :: _ :: _ :: _, _, h => exact h.bad
theorem SqT.len_le {pins : List (Addr × Obj)} {s : Shared} {σ : St} (I : Inv X pins σ H s) {a : Addr} {vs : List V} (h : SqT X.K H a vs) : vs.length ≤ SL := by
  obtain ⟨_, _, _, hz⟩ := I.tuple h
  rw [sizeLine_eq] at hz
  exact hz
theorem SqL.len_le {pins : List (Addr × Obj)} {s : Shared} {σ : St} (I : Inv X pins σ H s) {a : Addr} {vs : List V} (h : SqL X.K H a vs) : vs.length ≤ SL := by
  obtain ⟨_, _, _, hz⟩ := I.list h
  rw [sizeLine_eq] at hz
  exact hz
theorem cb_list (hZ : X.K = Z.K) : CallR X (.type "list") (rCB Z .list) := by
  intro pins s σ H xs us Q I r h
  obtain ⟨μ, S, ds, R, hv0, h0⟩ := h
  match ds, hv0, h0 with
  | [], _, h => exact h.bad
  | [d], hvs, h =>
    obtain ⟨v, rfl, hv⟩ := hvs.of_one
    clear hvs
    cases d with
    | tup xs =>
      simp only [DV] at hv
      obtain ⟨a, vs, rfl, h1, h2⟩ := hv
      rw [← hZ] at h1
      have hz : xs.length ≤ SL := by rw [h2.length]; exact SqT.len_le I h1
      exact call_list_of pins s σ H _ us Q I r ⟨a, vs, rfl, .inr h1, fun p hp => new_lst R hz h2 h hp⟩
    | ref i =>
      simp only [callB, callB1] at h
      cases e1 : S.l i with
      | none => rw [e1] at h; exact h.bad
      | some xs =>
        rw [e1] at h
        simp only [DV] at hv
        obtain ⟨a, ha, rfl⟩ := hv
        obtain ⟨a', vs, ha', h1, h2, hz⟩ := R.list e1
        rw [ha] at ha'; cases ha'
        rw [← hZ] at h1
        exact call_list_of pins s σ H _ us Q I r ⟨a, vs, rfl, .inl h1, fun p hp => new_lst R hz h2 h hp⟩
    | _ => exact h.bad
  | [_, _], _, h => exact h.bad
  | _ :: _ :: _ :: _, _, h => exact h.bad
theorem cb_tuple (hZ : X.K = Z.K) : CallR X (.type "tuple") (rCB Z .tuple) := by
  intro pins s σ H xs us Q I r h
  obtain ⟨μ, S, ds, R, hv0, h0⟩ := h
  match ds, hv0, h0 with
  | [], _, h => exact h.bad
  | [d], hvs, h =>
    obtain ⟨v, rfl, hv⟩ := hvs.of_one
    clear hvs
    cases d with
    | tup xs =>
      have hv0 := hv
      simp only [DV] at hv
      obtain ⟨a, vs, rfl, h1, h2⟩ := hv
      rw [← hZ] at h1
      exact call_tupleT pins s σ H _ us Q I r ⟨a, vs, rfl, h1, h.dn R hv0⟩
    | ref i =>
      simp only [callB, callB1] at h
      cases e1 : S.l i with
      | none => rw [e1] at h; exact h.bad
      | some xs =>
        rw [e1] at h
        simp only [DV] at hv
        obtain ⟨a, ha, rfl⟩ := hv
        obtain ⟨a', vs, ha', h1, h2, hz⟩ := R.list e1
        rw [ha] at ha'; cases ha'
        rw [← hZ] at h1
        exact call_tuple_of pins s σ H _ us Q I r ⟨a, vs, rfl, .inl ⟨h1, fun p hp => new_tup R h2 h hp⟩⟩
    | _ => exact h.bad
  | [_, _], _, h => exact h.bad
  | _ :: _ :: _ :: _, _, h => exact h.bad
theorem bools_ok : ∀ {xs : List D} {bs : List Bool} {vs : List V}, bools xs = some bs → DVs Z H μ xs vs → vs = bs.map V.bl
  | [], bs, vs, h, hv => by cases h; simp only [DVs] at hv; subst hv; rfl
  | .bl b :: r, bs, vs, h, hv => by
    simp only [bools] at h
    cases e : bools r with
    | none => rw [e] at h; cases h
    | some q =>
      rw [e] at h
      cases h
      simp only [DVs, DV] at hv
      obtain ⟨v, w, rfl, rfl, h2⟩ := hv
      rw [bools_ok e h2]
      rfl
  | .non :: _, _, _, h, _ => by cases h
  | .int _ :: _, _, _, h, _ => by cases h
  | .str _ :: _, _, _, h, _ => by cases h
  | .tup _ :: _, _, _, h, _ => by cases h
  | .rol _ :: _, _, _, h, _ => by cases h
  | .ref _ :: _, _, _, h, _ => by cases h
  | .cls _ :: _, _, _, h, _ => by cases h
theorem cb_all (hZ : X.K = Z.K) (hc : X.calm = true) : CallR X (.builtin "all") (rCB Z .all) := by
  intro pins s σ H xs us Q I r h
  obtain ⟨μ, S, ds, R, hv0, h0⟩ := h
  match ds, hv0, h0 with
  | [], _, h => exact h.bad
  | [d], hvs, h =>
    obtain ⟨v, rfl, hv⟩ := hvs.of_one
    clear hvs
    cases d with
    | ref i =>
      simp only [callB, callB1] at h
      cases e1 : S.l i with
      | none => rw [e1] at h; exact h.bad
      | some xs =>
        rw [e1] at h
        simp only [Option.bind_some] at h
        cases e2 : bools xs with
        | none => rw [e2] at h; exact h.bad
        | some bs =>
          rw [e2] at h
          simp only [DV] at hv
          obtain ⟨a, ha, rfl⟩ := hv
          obtain ⟨a', vs, ha', h1, h2, hz⟩ := R.list e1
          rw [ha] at ha'; cases ha'
          rw [← hZ, bools_ok e2 h2] at h1
          exact cr_all hc pins s σ H _ us Q I r ⟨a, bs, rfl, h1, h.dn R (by simp only [DV])⟩
    | _ => exact h.bad
  | [_, _], _, h => exact h.bad
  | _ :: _ :: _ :: _, _, h => exact h.bad
theorem cb_any (hZ : X.K = Z.K) (hc : X.calm = true) : CallR X (.builtin "any") (rCB Z .any) := by
  intro pins s σ H xs us Q I r h
  obtain ⟨μ, S, ds, R, hv0, h0⟩ := h
  match ds, hv0, h0 with
  | [], _, h => exact h.bad
  | [d], hvs, h =>
    obtain ⟨v, rfl, hv⟩ := hvs.of_one
    clear hvs
    cases d with
    | ref i =>
      simp only [callB, callB1] at h
      cases e1 : S.l i with
      | none => rw [e1] at h; exact h.bad
      | some xs =>
        rw [e1] at h
        simp only [Option.bind_some] at h
        cases e2 : bools xs with
        | none => rw [e2] at h; exact h.bad
        | some bs =>
          rw [e2] at h
          simp only [DV] at hv
          obtain ⟨a, ha, rfl⟩ := hv
          obtain ⟨a', vs, ha', h1, h2, hz⟩ := R.list e1
          rw [ha] at ha'; cases ha'
          rw [← hZ, bools_ok e2 h2] at h1
          exact cr_any hc pins s σ H _ us Q I r ⟨a, bs, rfl, h1, h.dn R (by simp only [DV])⟩
    | _ => exact h.bad
  | [_, _], _, h => exact h.bad
  | _ :: _ :: _ :: _, _, h => exact h.bad

end
end Vm

namespace Vm
open PySem L2

/-! ### sorting by insertion is the library's sort -/
section
variable {α : Type} {le : α → α → Bool}
open PySem.W
theorem mem_ins1 {x z : α} : ∀ {l : List α}, z ∈ ins1 le x l → z = x ∨ z ∈ l
  | [], h => by simp [ins1] at h; exact .inl h
  | y :: ys, h => by
    unfold ins1 at h
    split at h
    · rcases List.mem_cons.mp h with h | h
      · exact .inl h
      · exact .inr h
    · rcases List.mem_cons.mp h with h | h
      · exact .inr (by rw [h]; exact List.mem_cons_self)
      · rcases mem_ins1 h with h | h
        · exact .inl h
        · exact .inr (List.mem_cons_of_mem _ h)
theorem ins1_sorted (T : TotalLe le) {x : α} : ∀ {l : List α}, l.Pairwise (fun a b => le a b = true) → (ins1 le x l).Pairwise (fun a b => le a b = true)
  | [], _ => by simp [ins1]
  | y :: ys, h => by
    unfold ins1
    obtain ⟨h1, h2⟩ := List.pairwise_cons.mp h
    split
    · rename_i hxy
      refine List.pairwise_cons.mpr ⟨fun z hz => ?_, h⟩
      rcases List.mem_cons.mp hz with hz | hz
      · rw [hz]; exact hxy
      · exact T.trans _ _ _ hxy (h1 z hz)
    · rename_i hxy
      refine List.pairwise_cons.mpr ⟨fun z hz => ?_, ins1_sorted T h2⟩
      rcases mem_ins1 hz with hz | hz
      · rw [hz]; exact (T.total y x).elim id fun q => absurd q hxy
      · exact h1 z hz
theorem ins1_filter (T : TotalLe le) {x c : α} : ∀ {l : List α}, (ins1 le x l).filter (sameRank le c) = (x :: l).filter (sameRank le c)
  | [] => rfl
  | y :: ys => by
    unfold ins1
    split
    · rfl
    · rename_i hxy
      rw [List.filter_cons, ins1_filter T, List.filter_cons, List.filter_cons, List.filter_cons]
      by_cases hx : sameRank le c x = true
      · by_cases hy : sameRank le c y = true
        · exfalso
          unfold sameRank at hx hy
          rw [Bool.and_eq_true] at hx hy
          exact hxy (T.trans _ _ _ hx.2 hy.1)
        · simp [hx, hy]
      · simp [hx]
theorem isort_sorted (T : TotalLe le) : ∀ l : List α, (isort le l).Pairwise (fun a b => le a b = true)
  | [] => .nil
  | x :: xs => ins1_sorted T (isort_sorted T xs)
theorem isort_filter (T : TotalLe le) (c : α) : ∀ l : List α, (isort le l).filter (sameRank le c) = l.filter (sameRank le c)
  | [] => rfl
  | x :: xs => by
    show (ins1 le x (isort le xs)).filter (sameRank le c) = _
    rw [ins1_filter T, List.filter_cons, isort_filter T c xs, ← List.filter_cons]
theorem isort_eq (T : TotalLe le) (l : List α) : isort le l = l.mergeSort le := sort_unique T (isort_sorted T l) fun c => isort_filter T c l
theorem ins1_length {x : α} : ∀ l : List α, (ins1 le x l).length = l.length + 1
  | [] => rfl
  | y :: ys => by
    unfold ins1
    split
    · rfl
    · rw [List.length_cons, ins1_length ys, List.length_cons]
theorem isort_length : ∀ l : List α, (isort le l).length = l.length
  | [] => rfl
  | x :: xs => by
    show (ins1 le x (isort le xs)).length = _
    rw [ins1_length, isort_length xs, List.length_cons]
end
theorem alikeB_ok {ps : List PyData} (h : alikeB ps = true) : PySem.W.AllAlike ps := by
  unfold alikeB at h
  rw [List.all_eq_true] at h
  intro d hd d' hd'
  have := h d hd
  rw [List.all_eq_true] at this
  exact this d' hd'
theorem sortableB_ok {ps : List PyData} (h : sortableB ps = true) : PySem.W.Sortable ps := by
  unfold sortableB at h
  rw [Bool.or_eq_true, List.all_eq_true, List.all_eq_true] at h
  rcases h with h | h
  · refine .inl fun d hd => ?_
    have := h d hd
    split at this
    · rename_i x r
      exact ⟨x, r, rfl⟩
    · cases this
  · refine .inr fun d hd => ?_
    have := h d hd
    split at this
    · cases this
    · cases this
    · rename_i h1 h2
      exact ⟨h2, h1⟩

section
variable {X : Cx} {Z : Zz} {P : Pg} {Φ : Nat → List D → Sto → Res} {W : WX}
variable {H H' : Hp} {μ μ' : List Addr} {S S' : Sto} {σ : Sl} {τ : St} {Q : VK} {k : Kt}
variable {a b e l o tg iter elt : Expr} {es ifs : List Expr} {ca cb cc ce co ci cg ct cr : C} {pos p apos cpos : Pos}

theorem pds_len : ∀ {n : Nat} {xs : List D} {ps : List PyData}, pds S n xs = some ps → ps.length = xs.length
  | n, [], ps, h => by rw [pds_nil] at h; cases h; rfl
  | n, x :: xs, ps, h => by
    obtain ⟨p, q, _, h2, rfl⟩ := pds_cons h
    rw [List.length_cons, List.length_cons, pds_len h2]
/-- each item reads as its data -/
theorem each_items {pins : List (Addr × Obj)} {s : Shared} {σ : St} (I : Inv X pins σ H s) : ∀ {xs : List D} {ps : List PyData} {vs : List V} {us : List Value}, ps.length = xs.length → DVs Z H μ xs vs → DpAll X.K H vs ps → Vals vs us →
    PySem.W.EachIs (fun (u : Value) (b : D × PyData) => (∃ v, RelV v u ∧ DV Z H μ b.1 v) ∧ ∃ as, Reads s.heap u b.2 as) us (xs.zip ps)
  | [], [], vs, us, _, hv, hd, hr => by
    simp only [DVs] at hv
    subst hv
    cases hr
    exact .nil
  | x :: xs, p :: ps, vs, us, hl, hv, hd, hr => by
    simp only [DVs] at hv
    obtain ⟨v, r, rfl, h1, h2⟩ := hv
    cases hd with
    | cons d1 d2 =>
      cases hr with
      | cons r1 r2 =>
        exact .cons ⟨⟨v, r1, h1⟩, Dp.reads I p v _ d1 r1⟩ (each_items I (by simpa using hl) h2 d2 r2)
  | [], _ :: _, _, _, hl, _, _, _ => by simp at hl
  | _ :: _, [], _, _, hl, _, _, _ => by simp at hl
theorem vals_each : ∀ {us : List Value} {bs : List (D × PyData)}, PySem.W.EachIs (fun (u : Value) (b : D × PyData) => ∃ v, RelV v u ∧ DV Z H μ b.1 v) us bs → ∃ vs, Vals vs us ∧ DVs Z H μ (bs.map (·.1)) vs
  | _, _, .nil => ⟨[], .nil, by simp only [List.map_nil, DVs]⟩
  | _, _, .cons ⟨v, h1, h2⟩ t => by
    obtain ⟨vs, h3, h4⟩ := vals_each t
    exact ⟨v :: vs, .cons h1 h3, by simp only [List.map_cons, DVs]; exact ⟨v, vs, rfl, h2, h4⟩⟩
theorem depthAll_mem : ∀ {ps : List PyData} {n : Nat}, PyData.depthAll ps ≤ n → ∀ p ∈ ps, p.depth ≤ n
  | [], _, _, p, hp => by cases hp
  | q :: ps, n, h, p, hp => by
    rw [PyData.depthAll] at h
    rcases List.mem_cons.mp hp with hp | hp
    · rw [hp]; omega
    · exact depthAll_mem (by omega) p hp
theorem cb_sorted (hZ : X.K = Z.K) (hu : X.A.units + 64 < cLine) : CallR X (.builtin "sorted") (rCB Z .sorted) := by
  intro pins s σ H xs us Q I r h
  obtain ⟨μ, S, ds, R, hv0, h0⟩ := h
  match ds, hv0, h0 with
  | [], _, h => exact h.bad
  | [d], hvs, h =>
    obtain ⟨v, rfl, hv⟩ := hvs.of_one
    clear hvs
    cases d with
    | ref i =>
      simp only [callB, callB1] at h
      cases e1 : S.l i with
      | none => rw [e1] at h; exact h.bad
      | some xs =>
        rw [e1] at h
        dsimp only at h
        cases e2 : sortD S xs with
        | none => rw [e2] at h; exact h.bad
        | some ys =>
          rw [e2] at h
          unfold sortD at e2
          cases e3 : pds S 39 xs with
          | none => rw [e3] at e2; cases e2
          | some ps =>
            rw [e3] at e2
            dsimp only at e2
            split at e2
            · rename_i hok
              rw [Bool.and_eq_true] at hok
              simp only [DV] at hv
              obtain ⟨a, ha, rfl⟩ := hv
              obtain ⟨a', vs, ha', h1, h2, hz⟩ := R.list e1
              rw [ha] at ha'; cases ha'
              obtain ⟨b1, b2, b3⟩ := pds_ok (pd_ok R 39) xs ps vs e3 h2
              rw [← hZ] at h1 b1
              obtain ⟨its, rv, hl, _⟩ := I.list h1
              rw [Vals.ref1 r]
              have pl := pds_len e3
              have ei := each_items I pl h2 b1 rv
              have hmap : (xs.zip ps).map (fun b => b.2) = ps := by
                rw [List.map_snd_zip]
                omega
              have hlen : (xs.zip ps).length = xs.length := by rw [List.length_zip, pl]; omega
              refine PySem.W.sorted_data (enc := fun b : D × PyData => b.2) hl.isList (ei.mono fun _ _ z => z.1) (ei.mono fun _ _ z => z.2) (by rw [hmap]; exact alikeB_ok hok.1) (by rw [hmap]; exact sortableB_ok hok.2) (by rw [hlen, sizeLine_eq]; exact hz) ?_ fun out ho eo => ?_
              · intro b hb
                have hp : b.2 ∈ ps := by rw [← hmap]; exact List.mem_map_of_mem hb
                have := depthAll_mem b3 b.2 hp
                omega
              · obtain ⟨ws, w1, w2⟩ := vals_each eo
                have ie : isort (PySem.W.dataLe false fun b : D × PyData => b.2) (xs.zip ps) = (xs.zip ps).mergeSort (PySem.W.dataLe false fun b : D × PyData => b.2) := isort_eq (PySem.W.sortLe_total _ _ _) _
                rw [← ie] at w2
                have e2' := Option.some.inj e2
                have w3 : DVs Z H μ ys ws := by rw [← e2']; exact w2
                have hys : ys.length ≤ SL := by
                  rw [← e2', List.length_map, isort_length, hlen]
                  exact hz
                obtain ⟨ep, he'⟩ := PyProof.Rows.sortedAll_at s.heap its out.toArray
                have hn := I.hok.fresh (Nat.le_succ s.heap.objs.size)
                exact ⟨.ref _, upd H (s.heap.objs.size + 1) (.lst ws), I.laid (t' := s.toks) (fun _ _ => PyProof.Rows.sortedAll_old) (Nat.le_succ _) ⟨by rw [sizeLine_eq, ← w3.length]; exact hys, out, ep, w1, he'⟩, rfl, new_lst R hys w3 h hn⟩
            · cases e2
    | _ => exact h.bad
  | [_, _], _, h => exact h.bad
  | _ :: _ :: _ :: _, _, h => exact h.bad

/-! ### isinstance -/
def dtn : DT → String
  | .non => "NoneType" | .bool => "bool" | .int => "int" | .str => "str" | .tuple => "tuple" | .list => "list"
def tyn : Ty → Option String
  | .int => some "int" | .str => some "str" | .bool => some "bool" | .tuple => some "tuple" | .list => some "list" | .dict => some "dict" | _ => none
theorem kin_ok : ∀ (n : DT) (t : Ty) (T : String) (b : Bool), tyn t = some T → kin n t = some b → kitB (dtn n) T = some b := by
  intro n t T b h1 h2
  cases n <;> cases t <;> first
    | (cases h1; cases h2; decide +kernel)
    | cases h1
    | cases h2
theorem dty_ok (hZ : X.K = Z.K) (R : RS Z μ S H) {d : D} {v : V} {n : DT} (hv : DV Z H μ d v) (h : dty S d = some n) : TyX X.K H v (.type (dtn n)) := by
  cases d with
  | non => cases h; simp only [DV] at hv; subst hv; exact .base .non
  | bl x => cases h; simp only [DV] at hv; subst hv; exact .base (.bl x)
  | int x => cases h; simp only [DV] at hv; subst hv; exact .base (.int x)
  | str x => cases h; simp only [DV] at hv; obtain ⟨_, _, rfl⟩ := hv; exact .base (.str _)
  | tup xs =>
    cases h
    simp only [DV] at hv
    obtain ⟨a, vs, rfl, h1, _⟩ := hv
    rw [← hZ] at h1
    rcases h1 with (h1 | ⟨o, h1⟩) | ⟨o, its, n, h1, h2, _⟩
    · exact .base (.tup h1)
    · exact .fTuple h1
    · exact .kTuple h1 h2
  | rol xs =>
    cases h
    simp only [DV] at hv
    obtain ⟨a, vs, rfl, h1, _⟩ := hv
    rcases h1 with ⟨o, h1⟩ | ⟨o, its, n, h1, h2, _⟩
    · exact .base (.frz h1)
    · rw [← hZ] at h1
      exact .kList h1 h2
  | ref i =>
    simp only [dty] at h
    cases e : S[i]? with
    | none => rw [e] at h; cases h
    | some ob =>
      rw [e] at h
      cases ob with
      | lst xs =>
        cases h
        simp only [DV] at hv
        obtain ⟨a, ha, rfl⟩ := hv
        obtain ⟨a', vs, ha', h1, _⟩ := R.lst_tracked e
        rw [ha] at ha'; cases ha'
        exact .base (.lst h1)
      | _ => cases h
  | cls _ => cases h
theorem v_isi {t : Ty} {T : Str} {TS : String} {pt : Pos} (hZ : X.K = Z.K) (ht : tyn t = some TS) (hg : Gl X "isinstance") (hm : X.mg "isinstance" = none) (hgT : Gl X T) (hmT : X.mg T = none) (hvT : bootBuiltins T = some (.type TS)) (ha : PE X a (rdE Z P Φ W ca))
    (hnT : T ≠ "__name__" := by decide) (hdT : (T == ("__debug__" : Str)) = false := by decide)
    (hs : starEach [a, .Name T pt] X.env = (false, eval a X.env) :: starEach [.Name T pt] X.env := by rfl) (hs2 : starEach [.Name T pt] X.env = (false, eval (.Name T pt) X.env) :: starEach [] X.env := by rfl)
    (hpl : (backTo pos (starEach [.Name T pt] X.env)).any (·.1) = false := by rfl) :
    PE X (.Call (.Name "isinstance" p) [a, .Name T pt] [] pos) (rdE Z P Φ W (.blt (.isinst t) (.acons ca .anil))) := by
  refine PE.imp (pe_callB call_isi hg hm (by decide +kernel) (pa_cons ha (pa_cons (pe_bltn hgT hmT hvT (v := .ty TS) rfl hnT hdT) pa_nil hs2) hs) (he := hs) (hpl := hpl)) ?_
  rintro τ H Q ⟨μ, σ, S, R, L, h⟩
  simp only [ev] at h
  have h' : Want Z μ H (kE Z W τ Q) (b1 σ (ev P Φ ca [] σ S) fun d S => callB (.isinst t) [d] S) := by
    cases q : ev P Φ ca [] σ S with
    | val ds S1 =>
      rw [q] at h
      match ds, h with
      | [], h => exact h
      | [d], h => exact h
      | _ :: _ :: _, h => exact h
    | _ => rw [q] at h; exact h
  refine stepEE R L h' _ fun d S1 μ1 H1 v e1 R1 L1 hv h1 => ?_
  simp only [callB, callB1, isTy] at h1
  cases e2 : dty S1 d with
  | none => rw [e2] at h1; exact h1.bad
  | some n =>
    rw [e2] at h1
    simp only [Option.bind_some] at h1
    cases e3 : kin n t with
    | none => rw [e3] at h1; exact h1.bad
    | some b =>
      rw [e3] at h1
      exact ⟨v, .ty TS, _, .type TS, b, rfl, .ty TS, dty_ok hZ R1 hv e2, kit_ty (kin_ok n t TS b ht e3), h1.dE R1 (by simp only [DV])⟩

/-! ### methods of lists -/
theorem callM_noexc (m : Bm) (d : D) (ds : List D) (S : Sto) : ∀ c fs σ S1, callM m d ds S ≠ .exc c fs σ S1 := by
  intro c fs σ S1 z
  unfold callM at z
  repeat' (split at z)
  all_goals cases z
def rMB (Z : Zz) (m : Bm) : V → List V → Hp → VK → Prop := fun x vs H Q => ∃ μ S d ds, RS Z μ S H ∧ DV Z H μ d x ∧ DVs Z H μ ds vs ∧ Want Z μ H (kQ Z Q) (callM m d ds S)
theorem mb_append : MtR X "list.append" (rMB Z .append) := by
  intro pins s σ H x vs v us Q I rx rv h
  obtain ⟨μ, S, d, ds, R, hd, hds, h⟩ := h
  cases d with
  | ref i =>
    simp only [callM] at h
    cases e : S[i]? with
    | none => rw [e] at h; exact h.bad
    | some ob =>
      rw [e] at h
      cases ob with
      | lst xs =>
        dsimp only at h
        match ds, hds, h with
        | [d], hds, h =>
          obtain ⟨w, rfl, hw⟩ := hds.of_one
          clear hds
          dsimp only at h
          split at h
          · rename_i hl
            simp only [DV] at hd
            obtain ⟨a, ha, rfl⟩ := hd
            obtain ⟨a', vs, ha', h1, h2, hz⟩ := R.lst_tracked e
            rw [ha] at ha'; cases ha'
            refine mt_append pins s σ H _ _ v us Q I rx rv ⟨a, vs, w, rfl, rfl, h1, by rw [sizeLine_eq, ← h2.length]; exact hl, ?_⟩
            obtain ⟨e1, R1⟩ := R.write (o := .lst (vs ++ [w])) (ob := .lst (xs ++ [d])) ha fun e1 => ⟨by rw [List.length_append, List.length_singleton]; exact hl, _, upd_same, (h2.mono e1).append (DVs.one (hw.mono e1))⟩
            exact h.dn' e1 R1 (by simp only [DV])
          · exact h.bad
        | [], _, h => exact h.bad
        | _ :: _ :: _, _, h => exact h.bad
      | _ => exact h.bad
  | _ => exact h.bad
theorem mb_pop1 : MtR X "list.pop" (rMB Z .pop1) := by
  intro pins s σ H x vs v us Q I rx rv h
  obtain ⟨μ, S, d, ds, R, hd, hds, h⟩ := h
  cases d with
  | ref i =>
    simp only [callM] at h
    cases e : S[i]? with
    | none => rw [e] at h; exact h.bad
    | some ob =>
      rw [e] at h
      cases ob with
      | lst xs =>
        dsimp only at h
        match ds, hds, h with
        | [.int k], hds, h =>
          obtain ⟨w, rfl, hw⟩ := hds.of_one
          clear hds
          dsimp only at h
          cases ek : ixN xs.length k with
          | none => rw [ek] at h; exact h.bad
          | some j =>
            rw [ek] at h
            dsimp only at h
            cases ej : xs[j]? with
            | none => rw [ej] at h; exact h.bad
            | some dj =>
              rw [ej] at h
              simp only [DV] at hd hw
              subst hw
              obtain ⟨a, ha, rfl⟩ := hd
              obtain ⟨a', vs, ha', h1, h2, hz⟩ := R.lst_tracked e
              rw [ha] at ha'; cases ha'
              obtain ⟨y, hy, hdy⟩ := h2.get ej
              rw [h2.length] at ek
              obtain ⟨q1, q2, q3, q4⟩ := ixN_seq ek
              have hz' : vs.length ≤ 16777216 := by rw [← h2.length]; exact hz
              refine mt_popAt pins s σ H _ _ v us Q I rx rv ⟨a, vs, k, j, y, rfl, rfl, h1, by omega, by omega, q1, hy, ?_⟩
              obtain ⟨e1, R1⟩ := R.write (o := .lst (vs.eraseIdx j)) (ob := .lst (xs.eraseIdx j)) ha fun e1 => ⟨Nat.le_trans (List.length_eraseIdx_le _ _) hz, _, upd_same, (h2.mono e1).eraseIdx j⟩
              exact h.dn' e1 R1 (hdy.mono e1)
        | [], _, h => exact h.bad
        | .non :: _, _, h => exact h.bad
        | .bl _ :: _, _, h => exact h.bad
        | .str _ :: _, _, h => exact h.bad
        | .tup _ :: _, _, h => exact h.bad
        | .rol _ :: _, _, h => exact h.bad
        | .ref _ :: _, _, h => exact h.bad
        | .cls _ :: _, _, h => exact h.bad
        | .int _ :: _ :: _, _, h => exact h.bad
      | _ => exact h.bad
  | _ => exact h.bad
theorem v_btm {name : Str} {id T : String} {m : Bm} (pa : PlainAttrs T) (hrc : ∀ (d : D) (S1 : Sto) (μ1 : List Addr) (H1 : Hp) (v : V), RS Z μ1 S1 H1 → DV Z H1 μ1 d v → rcv m d S1 = true → tyV X.K T v H1) (slot : Slot T name id) (hty : typeOf (.builtin id) = pure (.type "method_descriptor")) (hm : MtR X id (rMB Z m)) (ho : PE X o (rdE Z P Φ W co)) (ha : PA X (e :: es) (rdA Z P Φ W ca))
    (hbase : attributeBase o name X.env (eval o X.env) = eval o X.env := by rfl)
    (hfew : ((backTo cpos (starEach (e :: es) X.env)).all (fun x => !x.1) && (backToKw cpos (keywordEach [] X.env)).all (fun x => x.1.isSome)
      && decide ((e :: es).length + ([] : List Keyword).length + (if ([] : List Keyword).isEmpty then 0 else 1) < 30)) = true := by rfl)
    (hline : (apos.endLine == cpos.line) = true := by rfl) (hs : starEach (e :: es) X.env = (false, eval e X.env) :: starEach es X.env := by rfl) (hplain : (backTo cpos (starEach es X.env)).any (·.1) = false := by rfl) :
    PE X (.Call (.Attribute o name apos) (e :: es) [] cpos) (rdE Z P Φ W (.btm m co ca)) := by
  refine PE.imp (pe_bm pa slot hty hm ho ha hbase hfew hline hs hplain) ?_
  rintro τ H Q ⟨μ, σ, S, R, L, h⟩
  simp only [ev] at h
  refine stepEE R L h _ fun d S1 μ1 H1 v e1 R1 L1 hv h1 => ?_
  split at h1
  · rename_i hr
    refine ⟨hrc d S1 μ1 H1 v R1 hv hr, stepA R1 L1 h1 _ (fun _ _ _ _ _ _ _ z => z) fun ds S2 μ2 H2 vs e2 R2 L2' hvs h2 => ⟨μ2, S2, d, ds, R2, hv.mono e2, hvs, h2.toQ (callM_noexc _ _ _ _)⟩⟩
  · exact h1.bad
/-- the receiver of a list's method -/
theorem rcv_list (hZ : X.K = Z.K) {m : Bm} (hm : ∀ x S, rcv m x S = (match x with | .ref i => (Sto.l S i).isSome | _ => false)) : ∀ (d : D) (S1 : Sto) (μ1 : List Addr) (H1 : Hp) (v : V), RS Z μ1 S1 H1 → DV Z H1 μ1 d v → rcv m d S1 = true → tyV X.K "list" v H1 := by
  intro d S1 μ1 H1 v R hv hr
  rw [hm] at hr
  cases d with
  | ref i =>
    dsimp only at hr
    cases e : S1.l i with
    | none => rw [e] at hr; cases hr
    | some xs =>
      simp only [DV] at hv
      obtain ⟨a, ha, rfl⟩ := hv
      obtain ⟨a', vs, ha', h1, _⟩ := R.list e
      rw [ha] at ha'; cases ha'
      rw [← hZ] at h1
      exact .inl ⟨rfl, vs, h1⟩
  | _ => cases hr
end
end Vm

namespace Vm
open PySem L2
/-! Calls of the text's own defs. -/

/-- what a def of the machine does, of a call -/
def callR (σ : Sl) (r : Res) : Res :=
  match r with
  | .val [d] S => .val [d] S
  | .exc c fs _ S => .exc c fs σ S
  | _ => .bad
abbrev kC (Z : Zz) (Q : VK) (E : XK) : Kt := { v := fun ds _ μ H => ∃ d, ds = [d] ∧ ∀ v, DV Z H μ d v → Q v H, x := fun c fs _ _ μ H => ∀ cls dd, XV Z H μ c fs cls dd → E cls dd H }
/-- the promise of the def f: at most n calls deep -/
def spF (Z : Zz) (P : Pg) (n f : Nat) : Sp := fun vs H Q E => ∃ μ S ds, RS Z μ S H ∧ DVs Z H μ ds vs ∧ Want Z μ H (kC Z Q E) (run P n f ds S)
section
variable {Z : Zz} {P : Pg} {n f : Nat} {F : Fn}
theorem spF_len (hf : P.fn f = some F) : ∀ vs H Q E, spF Z P n f vs H Q E → vs.length = F.np := by
  rintro vs H Q E ⟨μ, S, ds, R, hv, h⟩
  cases n with
  | zero => exact h.elim
  | succ n =>
    unfold run at h
    rw [hf] at h
    dsimp only at h
    split at h
    · rename_i e
      rw [← hv.length, e]
    · exact h.elim
/-- nothing is asked for at the level 0 -/
theorem fnOk_zero {Pr : Program} {w : World} {K : PySem.W.Frag} {mg : Str → Option Value} {base : Heap} {CX : CXT} {k : Nat} {a : Addr} {fd : FuncData} {ps : List Str} : FnOk Pr w K mg base CX k a fd ps (spF Z P 0 f) :=
  ⟨fun _ _ _ _ ⟨_, _, _, _, _, h⟩ => h.elim, fun _ _ _ _ _ _ _ _ _ _ _ _ _ ⟨_, _, _, _, _, h⟩ => h.elim⟩
theorem DVs.some_get {H : Hp} {μ : List Addr} : ∀ {ds : List D} {vs : List V} {i : Nat} {d : D}, DVs Z H μ ds vs → (ds.map some)[i]? = some (some d) → ∃ v, (vs.map some)[i]? = some (some v) ∧ DV Z H μ d v := by
  intro ds vs i d h e
  rw [List.getElem?_map] at e
  cases q : ds[i]? with
  | none => rw [q] at e; cases e
  | some x =>
    rw [q] at e
    cases e
    obtain ⟨v, h1, h2⟩ := h.get q
    exact ⟨v, by rw [List.getElem?_map, h1]; rfl, h2⟩
theorem sv_start {H : Hp} {μ : List Addr} {N : List Str} {ds : List D} {vs : List V} {np ns : Nat} (hv : DVs Z H μ ds vs) (h1 : ds.length = np) (h2 : N.length = ns) (h3 : np ≤ ns) : SV Z H μ (ds.map some ++ List.replicate (ns - np) none) (L2.start N vs) := by
  have hl := hv.length
  constructor
  · unfold L2.start
    rw [List.length_append, List.length_append, List.length_map, List.length_map, List.length_replicate, List.length_replicate, h2, ← hl, h1]
  · intro i d e
    unfold L2.start
    by_cases hi : i < ds.length
    · rw [List.getElem?_append_left (by rw [List.length_map]; exact hi)] at e
      rw [List.getElem?_append_left (by rw [List.length_map, ← hl]; exact hi)]
      exact hv.some_get e
    · rw [List.getElem?_append_right (by rw [List.length_map]; omega)] at e
      rw [List.getElem?_replicate] at e
      split at e <;> cases e
/-- the body's reading, from the promise -/
theorem spF_body (hf : P.fn f = some F) {N : List Str} (hN : N.length = F.ns) (hp : F.np ≤ F.ns) {vs : List V} {H : Hp} {Q : VK} {E : XK} (h : spF Z P (n + 1) f vs H Q E) :
    rdS Z P (run P n) (fun cls d _ H' => E cls d H') F.body { nx := fun _ H' => Q .non H', rt := Q } (L2.start N vs) H := by
  obtain ⟨μ, S, ds, R, hv, h⟩ := h
  unfold run at h
  rw [hf] at h
  dsimp only at h
  split at h
  · rename_i e
    refine ⟨μ, _, S, R, sv_start hv e hN hp, ?_⟩
    cases q : ev P (run P n) F.body [] (ds.map some ++ List.replicate (F.ns - F.np) none) S with
    | rt d S1 =>
      rw [q] at h
      intro μ' H' e1 R1 v hv1
      obtain ⟨d', ed, h2⟩ := h μ' H' e1 R1
      cases ed
      exact h2 v hv1
    | nx σ S1 =>
      rw [q] at h
      intro μ' H' e1 R1 τ L
      obtain ⟨d', ed, h2⟩ := h μ' H' e1 R1
      cases ed
      exact h2 .non (by simp only [DV])
    | exc c fs σ S1 =>
      rw [q] at h
      intro μ' H' e1 R1 τ L cls dd hx
      exact h μ' H' e1 R1 cls dd hx
    | val _ _ => rw [q] at h; exact h.elim
    | bk _ _ => rw [q] at h; exact h.elim
    | ct _ _ => rw [q] at h; exact h.elim
    | bad => rw [q] at h; exact h.elim
  · exact h.elim
end

section
variable {X : Cx} {Z : Zz} {P : Pg} {Φ : Nat → List D → Sto → Res} {W : WX} {n f : Nat}
variable {H H' : Hp} {μ μ' : List Addr} {S S' : Sto} {σ : Sl} {τ : St} {Q : VK} {k kk : Nat}
variable {a b e o : Expr} {es : List Expr} {kws : List Keyword} {ca cb ck : C} {pos p apos kpos : Pos} {x m : Str} {g : Addr} {fd : FuncData} {ps ks : List Str} {nm : Option Str}
/-- a call's result in an expression -/
theorem Want.call {r : Res} (h : Want Z μ H (kE Z W τ Q) (callR σ r)) : Want Z μ H (kC Z Q (WE W τ)) r := by
  cases r with
  | val ds S1 =>
    match ds, h with
    | [], h => exact h.elim
    | [d], h => exact h
    | _ :: _ :: _, h => exact h.elim
  | exc c fs σ1 S1 => exact h
  | nx _ _ => exact h.elim
  | rt _ _ => exact h.elim
  | bk _ _ => exact h.elim
  | ct _ _ => exact h.elim
  | bad => exact h.elim
theorem ev_cal {f : Nat} {as : C} {i : List D} {σ : Sl} {S : Sto} : ev P Φ (.cal f as) i σ S = bv σ (ev P Φ as [] σ S) fun ds S => callR σ (Φ f ds S) := rfl
theorem v_cal (tk : Takes X W) (F : FnOk X.prog X.w X.K X.mg X.base (L2.CX X.prog X.w) k g fd ps (spF Z P n f)) (hr : Room k X.A) (hg : Gl X x) (hm : X.mg x = some (.ref g)) (hk : PySem.W.keepIn X.K (.ref g) = true) (hb : Binds X.K fd ps [])
    (ha : PA X (e :: es) (rdA Z P (run P n) W ca)) (hdb : (x == ("__debug__" : Str)) = false := by decide) (he : starEach (e :: es) X.env = (false, eval e X.env) :: starEach es X.env := by rfl) (hpl : (backTo pos (starEach es X.env)).any (·.1) = false := by rfl) :
    PE X (.Call (.Name x p) (e :: es) [] pos) (rdE Z P (run P n) W (.cal f ca)) := by
  refine PE.imp (pe_callS (E := WE W) F hr hg hm hk hb (fun σ => passAt tk σ) ha hdb he hpl) ?_
  rintro τ H Q ⟨μ, σ, S, R, L, h⟩
  rw [ev_cal] at h
  exact stepA R L h _ (fun _ _ _ _ _ _ _ z => z) fun ds S1 μ1 H1 vs e1 R1 L1 hvs h1 => ⟨μ1, S1, ds, R1, hvs, h1.call⟩
theorem v_cal0 (tk : Takes X W) (F : FnOk X.prog X.w X.K X.mg X.base (L2.CX X.prog X.w) k g fd ps (spF Z P n f)) (hr : Room k X.A) (hg : Gl X x) (hm : X.mg x = some (.ref g)) (hk : PySem.W.keepIn X.K (.ref g) = true) (hb : Binds X.K fd ps [])
    (hdb : (x == ("__debug__" : Str)) = false := by decide) : PE X (.Call (.Name x p) [] [] pos) (rdE Z P (run P n) W (.cal f .anil)) := by
  refine ⟨fun pins s τ H Q I h => ?_⟩
  refine wpAny_Call_Name_kw (ld_glob I hg hm ?_ hdb)
  obtain ⟨μ, σ, S, R, L, h⟩ := h
  exact PySem.W.callWith_K0 I.kIn hk (run_fnS (us := []) (vs := []) (E := WE W) F hr hb (passAt tk τ) I .nil ⟨μ, S, [], R, by simp only [DVs], Want.call (σ := σ) h⟩)

/-! ### keywords, defaults -/
/-- the parameters' values: of what is given, and defaults -/
def RearrV : List (Nat ⊕ D) → List Value → List Value → Prop
  | [], _, gs => gs = []
  | .inl i :: r, us, gs => ∃ u q, us[i]? = some u ∧ gs = u :: q ∧ RearrV r us q
  | .inr d :: r, us, gs => ∃ v u q, (∀ Z H μ, DV Z H μ d v) ∧ RelV v u ∧ gs = u :: q ∧ RearrV r us q
structure BK (K : PySem.W.Frag) (fd : FuncData) (ps : List Str) (n : Nat) (ks : List Str) (prm : List (Nat ⊕ D)) : Prop where
  to : ∀ (s : Shared) (us ws : List Value), K.In s.heap → us.length = n → ws.length = ks.length → ∃ gs, RearrV prm (us ++ ws) gs ∧ BindsTo s fd ⟨us, ks.zip ws⟩ (ps.zip gs)
theorem Vals.get : ∀ {vs : List V} {us : List Value} {i : Nat} {v : V}, Vals vs us → vs[i]? = some v → ∃ u, us[i]? = some u ∧ RelV v u
  | _, _, _, _, .nil, h => by simp at h
  | _, _, 0, _, .cons r _, h => by simp at h; subst h; exact ⟨_, rfl, r⟩
  | _, _, i + 1, _, .cons _ t, h => by
    simp at h
    obtain ⟨u, h1, h2⟩ := Vals.get t h
    exact ⟨u, by simpa using h1, h2⟩
/-- the arguments as the parameters have them -/
theorem rearr_ok : ∀ {prm : List (Nat ⊕ D)} {ds gs : List D} {vs : List V} {us ws : List Value}, DVs Z H μ ds vs → Vals vs us → rearr prm ds = some gs → RearrV prm us ws → ∃ zs, DVs Z H μ gs zs ∧ Vals zs ws
  | [], _, _, _, _, _, _, _, h, hr => by
    cases h; subst hr
    exact ⟨[], by simp only [DVs], .nil⟩
  | .inl i :: r, ds, gs, vs, us, ws, hd, hv, h, hr => by
    unfold rearr at h
    obtain ⟨u, q, h1, rfl, h2⟩ := hr
    cases e1 : ds[i]? with
    | none => rw [e1] at h; cases h
    | some d =>
      cases e2 : rearr r ds with
      | none => rw [e1, e2] at h; cases h
      | some q' =>
        rw [e1, e2] at h
        cases h
        obtain ⟨v, g1, g2⟩ := hd.get e1
        obtain ⟨u', g3, g4⟩ := Vals.get hv g1
        rw [h1] at g3
        cases g3
        obtain ⟨zs, z1, z2⟩ := rearr_ok hd hv e2 h2
        exact ⟨v :: zs, by simp only [DVs]; exact ⟨v, zs, rfl, g2, z1⟩, .cons g4 z2⟩
  | .inr d :: r, ds, gs, vs, us, ws, hd, hv, h, hr => by
    unfold rearr at h
    obtain ⟨v, u, q, h0, h1, rfl, h2⟩ := hr
    cases e2 : rearr r ds with
    | none => rw [e2] at h; cases h
    | some q' =>
      rw [e2] at h
      cases h
      obtain ⟨zs, z1, z2⟩ := rearr_ok hd hv e2 h2
      exact ⟨v :: zs, by simp only [DVs]; exact ⟨v, zs, rfl, h0 _ _ _, z1⟩, .cons h1 z2⟩
theorem PK.imp {t t' : TA} (h : PK X kws t) (f : ∀ σ H Q, t' σ H Q → t σ H Q) : PK X kws t' := ⟨fun p pins s σ H Q I q => h.run p pins s σ H Q I (f σ H Q q)⟩
theorem k_nil : PK X [] (rdA Z P Φ W .anil) := by
  refine PK.imp pk_nil ?_
  rintro τ H Q ⟨μ, σ, S, R, V, h⟩
  exact h μ H Ext.refl R [] (by simp only [DVs])
theorem k_cons (ha : PE X e (rdE Z P Φ W ca)) (hr : PK X kws (rdA Z P Φ W cb)) : PK X (⟨nm, e, kpos⟩ :: kws) (rdA Z P Φ W (.acons ca cb)) := by
  refine PK.imp (pk_cons ha hr) ?_
  rintro τ H Q ⟨μ, σ, S, R, V, h⟩
  simp only [ev] at h
  refine stepE R V h _ (fun _ _ _ _ _ _ _ z => z) fun d S1 μ1 H1 v e1 R1 V1 hv h1 => stepA R1 V1 h1 _ (fun _ _ _ _ _ _ _ z => z) fun ds S2 μ2 H2 vs e2 R2 V2 hvs h2 => ?_
  refine h2 μ2 H2 Ext.refl R2 (v :: vs) ?_
  simp only [DVs]
  exact ⟨v, vs, rfl, hv.mono e2, hvs⟩
/-- the callee runs, its parameters bound somehow -/
theorem run_fnG {pins : List (Addr × Obj)} {τ : St} {s : Shared} {us : List Value} {kw : List (Str × Value)} {vs : List V} {gs : List Value} {sp : Sp} (F : FnOk X.prog X.w X.K X.mg X.base (L2.CX X.prog X.w) k g fd ps sp) (hr : Room k X.A) (tk : Takes X W)
    (I : Inv X pins τ H s) (hb : BindsTo s fd ⟨us, kw⟩ (ps.zip gs)) (r : Vals vs gs) (h : sp vs H Q (WE W τ)) : wpAny (model X.prog X.w) X.A (call (.ref g) us kw) (EP X pins τ Q) X.xe s := by
  refine wpAny_call (codeAny_mono (F.run X.A X.stack s H ⟨us, kw⟩ gs vs Q (WE W τ) hr I.env0 hb r h) fun r s' hq => ?_)
  cases r with
  | error e => exact passAt tk τ pins H s e s' I hq
  | ok fl =>
    cases fl with
    | ret u => exact I.after hq
    | next => exact False.elim hq
    | brk => exact False.elim hq
    | cont => exact False.elim hq
theorem ev_calk {f na nk : Nat} {as ks : C} {prm : List (Nat ⊕ D)} {i : List D} {σ : Sl} {S : Sto} : ev P Φ (.calk f na nk as ks prm) i σ S = bv σ (ev P Φ as [] σ S) fun ds S => bv σ (ev P Φ ks [] σ S) fun es S => if ds.length = na ∧ es.length = nk then match rearr prm (ds ++ es) with
    | some gs => callR σ (Φ f gs S)
    | none => .bad
    else .bad := rfl
variable {prm : List (Nat ⊕ D)} {na nk : Nat}
/-- behind the arguments -/
theorem calk_end {pins : List (Addr × Obj)} {τ : St} {s : Shared} {us ws : List Value} {ds es' : List D} {vs zs : List V} (tk : Takes X W) (F : FnOk X.prog X.w X.K X.mg X.base (L2.CX X.prog X.w) k g fd ps (spF Z P n f)) (hr : Room k X.A) (hb : BK X.K fd ps na ks prm) (hz : ks.length = nk)
    (I : Inv X pins τ H s) (R : RS Z μ S H) (hd : DVs Z H μ ds vs) (he : DVs Z H μ es' zs) (r : Vals vs us) (rz : Vals zs ws)
    (h : Want Z μ H (kE Z W τ Q) (if ds.length = na ∧ es'.length = nk then match rearr prm (ds ++ es') with
    | some gs => callR σ (run P n f gs S)
    | none => .bad
    else .bad)) : wpAny (model X.prog X.w) X.A (call (.ref g) us (ks.zip ws)) (EP X pins τ Q) X.xe s := by
  split at h
  · rename_i hl
    obtain ⟨gs, h1, h2⟩ := hb.to s us ws I.kIn (by rw [← r.length, ← hd.length]; exact hl.1) (by rw [← rz.length, ← he.length, hz]; exact hl.2)
    cases q : rearr prm (ds ++ es') with
    | none => rw [q] at h; exact h.elim
    | some ys =>
      rw [q] at h
      obtain ⟨ts, t1, t2⟩ := rearr_ok (hd.append he) (r.append rz) q h1
      exact run_fnG F hr tk I h2 t2 ⟨μ, S, ys, R, t1, h.call⟩
  · exact h.elim
/-- f(e, .., k = v, ..), f(e, ..) with defaults -/
theorem v_calk (tk : Takes X W) (F : FnOk X.prog X.w X.K X.mg X.base (L2.CX X.prog X.w) k g fd ps (spF Z P n f)) (hr : Room k X.A) (hg : Gl X x) (hm : X.mg x = some (.ref g)) (hk : PySem.W.keepIn X.K (.ref g) = true) (hb : BK X.K fd ps na ks prm) (hz : ks.length = nk)
    (ha : PA X (e :: es) (rdA Z P (run P n) W ca)) (hkw : PK X kws (rdA Z P (run P n) W ck)) (hall : (backToKw pos (keywordEach kws X.env)).all (·.1.isSome) = true := by rfl) (hks : (backToKw pos (keywordEach kws X.env)).filterMap (·.1) = ks := by rfl)
    (hdb : (x == ("__debug__" : Str)) = false := by decide) (he : starEach (e :: es) X.env = (false, eval e X.env) :: starEach es X.env := by rfl)
    (hpl : ((backTo pos (starEach (e :: es) X.env)).any (·.1) || (backToKw pos (keywordEach kws X.env)).any (·.1.isNone)) = false := by rfl) :
    PE X (.Call (.Name x p) (e :: es) kws pos) (rdE Z P (run P n) W (.calk f na nk ca ck prm)) := by
  refine ⟨fun pins s τ H Q I h => ?_⟩
  obtain ⟨μ, σ, S, R, L, h⟩ := h
  rw [ev_calk] at h
  refine wpAny_Call_Name_kw (ld_glob I hg hm ?_ hdb)
  have hA := ha.run pos pins s τ H _ I (stepA R L h (fun vs H1 => ∃ ds S1 μ1, RS Z μ1 S1 H1 ∧ SV Z H1 μ1 σ τ ∧ DVs Z H1 μ1 ds vs ∧ Want Z μ1 H1 (kE Z W τ Q) (bv σ (ev P (run P n) ck [] σ S1) fun es S => if ds.length = na ∧ es.length = nk then match rearr prm (ds ++ es) with
    | some gs => callR σ (run P n f gs S)
    | none => .bad
    else .bad)) (fun _ _ _ _ _ _ _ z => z) fun ds S1 μ1 H1 vs e1 R1 L1 hvs h1 => ⟨ds, S1, μ1, R1, L1, hvs, h1⟩)
  refine PySem.W.callWith_KW (h₀ := X.base) I.ok.mod.kin hk hall (thn hA fun us s1 ⟨vs, H1, I1, r, ds, S1, μ1, R1, L1, hvs, h1⟩ => ?_) hpl he
  have hK := hkw.run pos pins s1 τ H1 _ I1 (stepA R1 L1 h1 (fun zs H2 => ∃ es' S2 μ2, RS Z μ2 S2 H2 ∧ DVs Z H2 μ2 es' zs ∧ DVs Z H2 μ2 ds vs ∧ Want Z μ2 H2 (kE Z W τ Q) (if ds.length = na ∧ es'.length = nk then match rearr prm (ds ++ es') with
    | some gs => callR σ (run P n f gs S2)
    | none => .bad
    else .bad)) (fun _ _ _ _ _ _ _ z => z) fun es' S2 μ2 H2 zs e2 R2 L2' hzs h2 => ⟨es', S2, μ2, R2, hzs, hvs.mono e2, h2⟩)
  refine thn hK fun ws s2 ⟨zs, H2, I2, rz, es', S2, μ2, R2, hzs, hvs2, h2⟩ => ⟨I2.kIn, ?_⟩
  rw [hks]
  exact calk_end tk F hr hb hz I2 R2 hvs2 hzs r rz h2
/-- f(k = v, ..), f() with defaults -/
theorem v_calk0 (tk : Takes X W) (F : FnOk X.prog X.w X.K X.mg X.base (L2.CX X.prog X.w) k g fd ps (spF Z P n f)) (hr : Room k X.A) (hg : Gl X x) (hm : X.mg x = some (.ref g)) (hk : PySem.W.keepIn X.K (.ref g) = true) (hb : BK X.K fd ps 0 ks prm) (hz : ks.length = nk)
    (hkw : PK X kws (rdA Z P (run P n) W ck)) (hall : (backToKw pos (keywordEach kws X.env)).all (·.1.isSome) = true := by rfl) (hks : (backToKw pos (keywordEach kws X.env)).filterMap (·.1) = ks := by rfl)
    (hdb : (x == ("__debug__" : Str)) = false := by decide)
    (hpl : ((backTo pos (starEach [] X.env)).any (·.1) || (backToKw pos (keywordEach kws X.env)).any (·.1.isNone)) = false := by rfl) :
    PE X (.Call (.Name x p) [] kws pos) (rdE Z P (run P n) W (.calk f 0 nk .anil ck prm)) := by
  refine ⟨fun pins s τ H Q I h => ?_⟩
  obtain ⟨μ, σ, S, R, L, h⟩ := h
  rw [ev_calk] at h
  refine wpAny_Call_Name_kw (ld_glob I hg hm ?_ hdb)
  have h1 : Want Z μ H (kE Z W τ Q) (bv σ (ev P (run P n) ck [] σ S) fun es S => if ([] : List D).length = 0 ∧ es.length = nk then match rearr prm ([] ++ es) with
    | some gs => callR σ (run P n f gs S)
    | none => .bad
    else .bad) := h
  have hK := hkw.run pos pins s τ H _ I (stepA R L h1 (fun zs H2 => ∃ es' S2 μ2, RS Z μ2 S2 H2 ∧ DVs Z H2 μ2 es' zs ∧ Want Z μ2 H2 (kE Z W τ Q) (if ([] : List D).length = 0 ∧ es'.length = nk then match rearr prm ([] ++ es') with
    | some gs => callR σ (run P n f gs S2)
    | none => .bad
    else .bad)) (fun _ _ _ _ _ _ _ z => z) fun es' S2 μ2 H2 zs e2 R2 L2' hzs h2 => ⟨es', S2, μ2, R2, hzs, h2⟩)
  refine PySem.W.callWith_KW0 (h₀ := X.base) I.ok.mod.kin hk hall (thn hK fun ws s2 ⟨zs, H2, I2, rz, es', S2, μ2, R2, hzs, h2⟩ => ⟨I2.kIn, ?_⟩) hpl
  rw [hks]
  exact calk_end (us := []) (vs := []) (ds := []) tk F hr hb hz I2 R2 (by simp only [DVs]) hzs .nil rz h2
end
end Vm

namespace Vm
open PySem L2
/-! Short forms of the walk. -/
section
variable {X : Cx} {Z : Zz} {P : Pg} {Φ : Nat → List D → Sto → Res} {W : WX}
/-- names, parameters ahead, in a scope: a look at it -/
def scL (N ps : List Str) (sc : Scope) : Bool :=
  (match sc.kind with
  | .function => true
  | _ => false) && (!sc.isCoroutine && (!sc.isGenerator && (decide N.Nodup && (decide (N.take ps.length = ps) && (ps.all (fun x => match sc.names.lookup x with
  | some .local => true
  | some .cell => true
  | _ => false) && sc.names.all (fun y => match y.2 with
  | .free => false
  | _ => true))))))
theorem scL_ok {N ps : List Str} {sc : Scope} (h : scL N ps sc = true) : FnScope N ps sc := by
  unfold scL at h
  simp only [Bool.and_eq_true, Bool.not_eq_true', decide_eq_true_eq, List.all_eq_true] at h
  obtain ⟨h1, h2, h3, h4, h5, h6, h7⟩ := h
  refine ⟨?_, h2, h3, h4, h5, fun x hx => ?_, fun y hy e => ?_⟩
  · split at h1
    · assumption
    · cases h1
  · have := h6 x hx
    split at this
    · rename_i e; exact .inl e
    · rename_i e; exact .inr e
    · cases this
  · have := h7 y hy
    rw [e] at this
    cases this
theorem v_v (i : Nat) {x : Str} {pos : Pos} (hN : X.N[i]? = some x := by rfl) (hv : Vis X.env.scope x := by first | exact Or.inl rfl | exact Or.inr (Or.inl rfl) | exact Or.inr (Or.inr rfl)) (hd : (x == ("__debug__" : Str)) = false := by decide)
    (hcd : (x == ("__classdict__" : Str)) = false := by decide) : PE X (.Name x pos) (rdE Z P Φ W (.var i)) := v_var hN hv hd hcd
theorem g_n (i : Nat) {x : Str} {pos : Pos} (hN : X.N.Nodup) (hi : X.N[i]? = some x := by rfl) (hx : Loc X.env.scope x := by first | exact Or.inl rfl | exact Or.inr rfl) (hf : X.fn x = true ∨ X.env.scope.names.lookup x = some .local := by first | exact .inl rfl | exact .inr rfl) :
    PG X (.Name x pos) (rdG Z P Φ (.gn i)) := g_name hN hi hx hf
theorem s_n (i : Nat) {x : Str} {e : Expr} {ca : C} {pos pos' : Pos} (hN : X.N.Nodup) (ha : PE X e (rdE Z P Φ W ca)) (hi : X.N[i]? = some x := by rfl) (hx : Loc X.env.scope x := by first | exact Or.inl rfl | exact Or.inr rfl) (hs : swapsWith e (some (.Name x pos')) pos.line X.env = pure false := by rfl)
    (hf : X.fn x = true ∨ X.env.scope.names.lookup x = some .local := by first | exact .inl rfl | exact .inr rfl) : PS X (.Assign [.Name x pos'] e pos) (rdS Z P Φ W (.asg (.gn i) ca)) := s_set hN hi hx ha hs hf
theorem g_k (i : Nat) {x : Str} {pos : Pos} (hN : X.N.Nodup) (hi : X.N[i]? = some x := by rfl) (hx : Loc X.env.scope x := by first | exact Or.inl rfl | exact Or.inr rfl) (hf : X.fn x = true ∨ X.env.scope.names.lookup x = some .local := by first | exact .inl rfl | exact .inr rfl) :
    PG X (.Name x pos) (gName i) := pg_name hN hi hx hf
end
/-! Stores in lists, names of the module. -/
section
variable {X : Cx} {Z : Zz} {P : Pg} {Φ : Nat → List D → Sto → Res} {W : WX}
variable {H H' : Hp} {μ μ' : List Addr} {S S' : Sto} {σ : Sl} {τ : St} {Q : VK} {k : Nat}
variable {a b e o : Expr} {ca cb co ci cg : C} {pos p : Pos}
theorem hu65 {A : Around} (hr : Room k A) : A.units + 65 < cLine := by
  have := hr.un
  omega
theorem kG_x {Q : St → Hp → Prop} : ∀ c fs S1 μ1 H1, Ext μ H μ1 H1 → RS Z μ1 S1 H1 → (kG Z Q).x c fs σ S1 μ1 H1 → kX Z W τ c fs σ S1 μ1 H1 := fun _ _ _ _ _ _ _ z => z.elim
theorem g_idx (ho : PE X o (rdE Z P Φ W co)) (hi : PE X e (rdE Z P Φ W ci)) (ha : ∀ v, assign (.Subscript o e pos) X.env v = (do
      let ov ← holding [v] (eval o X.env)
      let iv ← holding [v, ov] (eval e X.env)
      standAt pos
      holding [v, ov, iv] (setItem ov iv v)
      release [v, ov, iv] []) := by intro _; rfl) : PG X (.Subscript o e pos) (rdG Z P Φ (.gi co ci)) := by
  refine PG.imp (pg_sub ho hi set_list ha) ?_
  rintro v τ H Q ⟨μ, σ, S, d, R, L, hv, h⟩
  simp only [ev] at h
  refine stepE R L h _ kG_x fun x S1 μ1 H1 w e1 R1 L1 hw h1 => stepE R1 L1 h1 _ kG_x fun y S2 μ2 H2 u e2 R2 L2' hu h2 => ?_
  cases x with
  | ref r =>
    cases y with
    | int i =>
      dsimp only at h2
      cases q : S2[r]? with
      | none => rw [q] at h2; exact h2.elim
      | some ob =>
        rw [q] at h2
        cases ob with
        | lst xs =>
          dsimp only at h2
          cases q2 : ixN xs.length i with
          | none => rw [q2] at h2; exact h2.elim
          | some j =>
            rw [q2] at h2
            dsimp only at h2
            have hw2 := hw.mono e2
            simp only [DV] at hw2 hu
            subst hu
            obtain ⟨a, ha', rfl⟩ := hw2
            obtain ⟨a', vs, ha2, h3, h4, hz⟩ := R2.lst_tracked q
            rw [ha'] at ha2; cases ha2
            obtain ⟨q3, q4, q5, q6⟩ := ixN_seq q2
            obtain ⟨e3, R3⟩ := R2.write (o := .lst (vs.set j v)) (ob := .lst (xs.set j d)) ha' fun e3 => ⟨by rw [List.length_set]; exact hz, _, upd_same, (h4.mono e3).set (((hv.mono e1).mono e2).mono e3) j⟩
            refine ⟨a, vs, i, j, rfl, rfl, h3, by rw [← h4.length]; exact q2, ?_⟩
            exact h2 μ2 _ e3 R3 τ (L2'.mono e3)
        | _ => exact h2.elim
    | _ => exact h2.elim
  | _ => exact h2.elim
/-- a value that the module holds -/
def GK (K : PySem.W.Frag) (mg : Str → Option Value) (x : Str) (d : D) : Prop := ∃ u v, mg x = some u ∧ RelV v u ∧ ∀ Z : Zz, Z.K = K → GV Z d v
theorem v_glx {x : Str} {n : Nat} {d : D} {pos : Pos} (hg : Gl X x) (h : GK Z.K X.mg x d) (hn : P.gl n = some d) (hd : (x == ("__debug__" : Str)) = false := by decide) : PE X (.Name x pos) (rdE Z P Φ W (.gl n)) := by
  obtain ⟨u, v, h1, h2, h3⟩ := h
  exact v_gl hg h1 h2 hn (h3 Z rfl) hd
end
/-! The law's end. -/
theorem DVs.ints {Z : Zz} {H : Hp} {μ : List Addr} : ∀ ns : List Int, DVs Z H μ (ns.map D.int) (ns.map V.int)
  | [] => by simp only [List.map_nil, DVs]
  | n :: ns => by
    simp only [List.map_cons, DVs]
    exact ⟨_, _, rfl, by simp only [DV], DVs.ints ns⟩
/-- the law's promise, from what the machine says of it -/
theorem spF_law {Z : Zz} {P : Pg} {n f : Nat} {H : Hp} {a : Addr} {ns : List Int} (hO : Only H) (hS : SqL Z.K H a (ns.map V.int)) (h : ∃ S, run P n f [.rol (ns.map D.int)] [] = .val [.bl true] S) :
    spF Z P n f [.ref a] H (fun v _ => v = .bl true) fun _ _ _ => False := by
  obtain ⟨S', h⟩ := h
  refine ⟨[], [], [.rol (ns.map D.int)], ⟨rfl, .nil, fun i o a h => by simp at h⟩, DVs.one ?_, ?_⟩
  · simp only [DV]
    refine ⟨a, _, rfl, ?_, DVs.ints ns⟩
    rcases hS with (h | ⟨o, h⟩) | h
    · rcases hO a with q | ⟨o, xs, q⟩
      · rw [q] at h; cases h
      · rw [q] at h; cases h
    · exact .inl ⟨o, h⟩
    · exact .inr h
  · rw [h]
    intro μ' H' e R
    exact ⟨_, rfl, fun v hv => by simpa only [DV] using hv⟩
/-- the law's promise -/
def spL (K : PySem.W.Frag) : Sp := fun vs H Q _ => ∃ (a : Addr) (ns : List Int), vs = [.ref a] ∧ ns.length ≤ 63 ∧ Only H ∧ SqL K H a (ns.map V.int) ∧ ∀ H', Q (.bl true) H'
theorem spL_imp {Z : Zz} {P : Pg} {n f : Nat} (h : ∀ ns : List Int, ns.length ≤ 63 → ∃ S, run P n f [.rol (ns.map D.int)] [] = .val [.bl true] S) : ∀ vs H Q E, spL Z.K vs H Q E → spF Z P n f vs H Q E := by
  rintro vs H Q E ⟨a, ns, rfl, hl, hO, hS, hq⟩
  obtain ⟨μ, S, ds, R, hv, w⟩ := spF_law (P := P) (n := n) (f := f) hO hS (h ns hl)
  refine ⟨μ, S, ds, R, hv, w.mono ?_ (fun _ _ _ _ _ _ z => z) (fun _ _ _ _ _ _ z => z) (fun _ _ _ _ _ _ z => z) (fun _ _ _ _ _ _ z => z) ?_⟩
  · rintro ds S1 μ1 H1 _ _ ⟨d, rfl, z⟩
    refine ⟨d, rfl, fun v hv => ?_⟩
    rw [z v hv]
    exact hq H1
  · exact fun c fs _ S1 μ1 H1 _ _ z cls dd hx => (z cls dd hx).elim
theorem walkV {l : PySem.W.OpenLaw} {q : Program} {loose : List Str} {XP : (Str → Option Value) → Heap → Prop} {YP : World → Heap → Prop} {d : DefRec} {K : Params → PySem.W.Frag} {k : Nat} (hn : l.most = some 63) (hdf : d.params.defaults = []) (hr : Room k callerA)
    (hY : ∀ (w : World) (h : Heap), YP w h → (K w.params).In h)
    (F : ∀ (w : World) (mg : Str → Option Value) (fa : Addr) (h : Heap), (K w.params).In h → h.Ns mainGlobals mg → mg d.name = some (.ref fa) →
      ∃ fd : FuncData, (∀ (s : Shared) (u : Value), BindsTo s fd ⟨[u], []⟩ [("_law_script", u)]) ∧ ∀ base : Heap, (K w.params).In base → base.Ns mainGlobals mg → FnOk l.prog w (K w.params) mg base (L2.CX l.prog w) k fa fd ["_law_script"] (spL (K w.params))) :
    PySem.W.WalkO q loose XP YP l.row.toRowW d [] (fun f vs => PySem.call f vs) :=
  L2.walk_of (n := 63) (k := k) (x := "_law_script") (CX := fun w => L2.CX l.prog w) (sp := fun w => spL (K w.params)) hn (by decide) hdf hr hY F (fun w H a ns hl hO hS => ⟨a, ns, rfl, hl, hO, hS, fun _ => rfl⟩)
    fun w H s e s' ⟨_, _, _, _, _, _, _, _, _, _, _, _, z⟩ => z

/-! How arguments are bound. -/
theorem bk_of {K : PySem.W.Frag} {x qual : Str} {st : Stmt} {f : Addr} {fd : FuncData} {ps ks : List Str} {na : Nat} {prm : List (Nat ⊕ D)} (F : Fun K x qual st f fd)
    (h : ∀ (kV doc pm : Value) (an : Option Addr) (cdv ct : Value) (us ws : List Value), us.length = na → ws.length = ks.length → ∃ gs, RearrV prm (us ++ ws) gs ∧ bindArgs (PySem.W.fnOf x qual (defArgs st) (defBody st) (defScope st) .none kV doc pm an cdv ct) ⟨us, ks.zip ws⟩ = pure (ps.zip gs)) : BK K fd ps na ks prm := by
  obtain ⟨oc, od, kV, doc, pm, an, cdv, ct, osl, rfl, lk, hcd⟩ := F.ex
  refine ⟨fun s us ws _ l1 l2 => ?_⟩
  obtain ⟨gs, h1, h2⟩ := h kV doc pm an cdv ct us ws l1 l2
  exact ⟨gs, h1, .of_eq h2⟩
/-! What a name of the module holds. -/
/-- a value of the written part -/
def KV1 (K : PySem.W.Frag) (d : D) (u : Value) : Prop := ∃ v, RelV v u ∧ ∀ Z : Zz, Z.K = K → GV Z d v
def KVs (K : PySem.W.Frag) (ds : List D) (us : List Value) : Prop := ∃ vs, Vals vs us ∧ ∀ Z : Zz, Z.K = K → ∀ H μ, DVs Z H μ ds vs
section
variable {K : PySem.W.Frag}
theorem kv_non : KV1 K .non .none := ⟨.non, rfl, fun Z _ H μ => by simp only [DV]⟩
theorem kv_bl {b : Bool} : KV1 K (.bl b) (.bool b) := ⟨.bl b, rfl, fun Z _ H μ => by simp only [DV]⟩
theorem kv_int {i : Int} {t : Tok} : KV1 K (.int i) (.int i t) := ⟨.int i, ⟨t, rfl⟩, fun Z _ H μ => by simp only [DV]⟩
theorem kv_str {x : Str} {s : List Nat} {t : Tok} (h : strFit x s = true) : KV1 K (.str s) (.str x t) := by
  obtain ⟨rfl, h1, h2⟩ := strFit_ok h
  exact ⟨.str _, ⟨t, rfl⟩, fun Z _ H μ => by simp only [DV]; exact ⟨h1, h2, trivial⟩⟩
theorem kvs_nil : KVs K [] [] := ⟨[], .nil, fun Z _ H μ => by simp only [DVs]⟩
theorem kvs_cons {d : D} {ds : List D} {u : Value} {us : List Value} (h : KV1 K d u) (hs : KVs K ds us) : KVs K (d :: ds) (u :: us) := by
  obtain ⟨v, r, g⟩ := h
  obtain ⟨vs, rs, gs⟩ := hs
  exact ⟨v :: vs, .cons r rs, fun Z e H μ => by simp only [DVs]; exact ⟨v, vs, rfl, g Z e H μ, gs Z e H μ⟩⟩
theorem kv_tup {a : Addr} {od : Option Addr} {n : Nat} {sl : Array (Option Value)} {us : List Value} {ds : List D} (l : K.lookup a = some ⟨.type "tuple", od, .seq us.toArray n, sl⟩) (h : KVs K ds us) (hz : ds.length ≤ 1000 := by decide) : KV1 K (.tup ds) (.ref a) := by
  obtain ⟨vs, r, g⟩ := h
  refine ⟨.ref a, rfl, fun Z e H μ => ?_⟩
  simp only [DV]
  refine ⟨a, vs, rfl, .inr ⟨_, _, n, by rw [e]; exact l, rfl, rfl, ?_, by rw [List.toList_toArray]; exact r⟩, g Z e H μ⟩
  have h1 := (g Z e H μ).length
  have h2 := r.length
  rw [List.size_toArray, sizeLine_eq]
  omega
theorem gk_of {mg : Str → Option Value} {h : Heap} {x : Str} {u : Value} {d : D} (X : K.In h) (G : h.Ns mainGlobals mg) (e : PySem.W.nsIn K mainGlobals x = some (some u)) (v : KV1 K d u) : GK K mg x d := by
  obtain ⟨w, r, g⟩ := v
  exact ⟨u, w, PySem.W.mg_of X G e, r, g⟩
end
end Vm

namespace Vm
open PySem
/-! What code does, it does behind other objects too: all places moved on. -/
mutual
def D.sh (k : Nat) : D → D
  | .non => .non
  | .bl b => .bl b
  | .int i => .int i
  | .str s => .str s
  | .tup xs => .tup (D.shs k xs)
  | .rol xs => .rol (D.shs k xs)
  | .ref i => .ref (i + k)
  | .cls c => .cls c
def D.shs (k : Nat) : List D → List D
  | [] => []
  | x :: xs => D.sh k x :: D.shs k xs
end
theorem D.shs_map (k : Nat) : ∀ xs : List D, D.shs k xs = xs.map (D.sh k)
  | [] => rfl
  | x :: xs => by rw [D.shs, D.shs_map k xs]; rfl
def shF (k : Nat) (p : Nat × D) : Nat × D := (p.1, p.2.sh k)
def Ob.sh (k : Nat) : Ob → Ob
  | .lst xs => .lst (xs.map (D.sh k))
  | .ins c fs => .ins c (fs.map (shF k))
  | .dct kvs => .dct (kvs.map fun p => (p.1.sh k, p.2.sh k))
  | .set xs => .set (xs.map (D.sh k))
def shS (G : Sto) (S : Sto) : Sto := G ++ S.map (Ob.sh G.length)
def shL (k : Nat) (σ : Sl) : Sl := σ.map (Option.map (D.sh k))
def shR (G : Sto) : Res → Res
  | .val ds S => .val (ds.map (D.sh G.length)) (shS G S)
  | .nx σ S => .nx (shL G.length σ) (shS G S)
  | .rt d S => .rt (d.sh G.length) (shS G S)
  | .bk σ S => .bk (shL G.length σ) (shS G S)
  | .ct σ S => .ct (shL G.length σ) (shS G S)
  | .exc c fs σ S => .exc c (fs.map (shF G.length)) (shL G.length σ) (shS G S)
  | .bad => .bad
mutual
theorem D.beq_sh (k : Nat) : ∀ a b : D, D.beq (a.sh k) (b.sh k) = D.beq a b
  | .non, b => by cases b <;> rfl
  | .bl _, b => by cases b <;> rfl
  | .int _, b => by cases b <;> rfl
  | .str _, b => by cases b <;> rfl
  | .tup xs, b => by
    cases b with
    | tup ys => simp only [D.sh, D.beq]; exact D.beqs_sh k xs ys
    | _ => rfl
  | .rol xs, b => by
    cases b with
    | rol ys => simp only [D.sh, D.beq]; exact D.beqs_sh k xs ys
    | _ => rfl
  | .ref i, b => by
    cases b with
    | ref j =>
      simp only [D.sh, D.beq]
      rw [Bool.eq_iff_iff]
      simp
    | _ => rfl
  | .cls _, b => by cases b <;> rfl
theorem D.beqs_sh (k : Nat) : ∀ a b : List D, D.beqs (D.shs k a) (D.shs k b) = D.beqs a b
  | [], b => by cases b <;> rfl
  | x :: xs, b => by
    cases b with
    | nil => rfl
    | cons y ys => simp only [D.shs, D.beqs]; rw [D.beq_sh k x y, D.beqs_sh k xs ys]
end
section
variable {G S : Sto} {σ : Sl}
theorem shS_len : (shS G S).length = S.length + G.length := by
  unfold shS
  rw [List.length_append, List.length_map, Nat.add_comm]
theorem shS_get {i : Nat} : (shS G S)[i + G.length]? = (S[i]?).map (Ob.sh G.length) := by
  unfold shS
  rw [List.getElem?_append_right (Nat.le_add_left _ _), Nat.add_sub_cancel, List.getElem?_map]
theorem shS_l {i : Nat} : (shS G S).l (i + G.length) = (S.l i).map (List.map (D.sh G.length)) := by
  unfold Sto.l
  rw [shS_get]
  cases S[i]? with
  | none => rfl
  | some o => cases o <;> rfl
theorem shS_set {i : Nat} {o : Ob} : (shS G S).set (i + G.length) (o.sh G.length) = shS G (S.set i o) := by
  unfold shS
  rw [List.set_append_right _ _ (Nat.le_add_left _ _), Nat.add_sub_cancel, List.map_set]
theorem shS_app {o : Ob} : shS G S ++ [o.sh G.length] = shS G (S ++ [o]) := by
  unfold shS
  rw [List.map_append, List.append_assoc]
  rfl
theorem shL_get {k i : Nat} : (shL k σ)[i]? = (σ[i]?).map (Option.map (D.sh k)) := by
  unfold shL
  rw [List.getElem?_map]
theorem shL_set {k i : Nat} {d : D} : (shL k σ).set i (some (d.sh k)) = shL k (σ.set i (some d)) := by
  unfold shL
  rw [List.map_set]
  rfl
theorem shL_len {k : Nat} : (shL k σ).length = σ.length := by unfold shL; rw [List.length_map]
theorem sh_tup {k : Nat} {xs : List D} : (D.tup xs).sh k = .tup (xs.map (D.sh k)) := by rw [D.sh, D.shs_map]
theorem sh_rol {k : Nat} {xs : List D} : (D.rol xs).sh k = .rol (xs.map (D.sh k)) := by rw [D.sh, D.shs_map]
/-! ### operations -/
theorem mapO_congr {α β γ : Type} {f : α → Option β} {g : γ → Option β} {h : γ → α} (e : ∀ x, f (h x) = g x) : ∀ xs : List γ, mapO f (xs.map h) = mapO g xs
  | [] => rfl
  | x :: xs => by
    rw [List.map_cons, mapO, mapO, e, mapO_congr e xs]
theorem pd_sh : ∀ (n : Nat) (d : D), pd (shS G S) n (d.sh G.length) = pd S n d := by
  intro n
  induction n with
  | zero => intro d; cases d <;> rfl
  | succ n ih =>
    intro d
    cases d with
    | tup xs =>
      rw [sh_tup, pd_tup, pd_tup]
      unfold pds
      rw [mapO_congr ih]
    | rol xs =>
      rw [sh_rol, pd_rol, pd_rol]
      unfold pds
      rw [mapO_congr ih]
    | ref i =>
      show pd (shS G S) (n + 1) (.ref (i + G.length)) = _
      rw [pd_ref, pd_ref, shS_l]
      cases S.l i with
      | none => rfl
      | some xs =>
        simp only [Option.map_some, Option.bind_some]
        unfold pds
        rw [mapO_congr ih]
    | _ => rfl
theorem pds_sh {n : Nat} {xs : List D} : pds (shS G S) n (xs.map (D.sh G.length)) = pds S n xs := mapO_congr (pd_sh n) xs
theorem eqD_sh {a b : D} : eqD (shS G S) (a.sh G.length) (b.sh G.length) = eqD S a b := by unfold eqD; rw [pd_sh, pd_sh]
theorem tru_sh {d : D} : tru (shS G S) (d.sh G.length) = tru S d := by
  cases d with
  | tup xs => rw [sh_tup]; cases xs <;> rfl
  | rol xs => rw [sh_rol]; cases xs <;> rfl
  | ref i =>
    show tru (shS G S) (.ref (i + G.length)) = _
    unfold tru
    dsimp only
    rw [shS_l]
    cases S.l i with
    | none => rfl
    | some xs => cases xs <;> rfl
  | _ => rfl
theorem contains_sh {x c : D} : contains (shS G S) (x.sh G.length) (c.sh G.length) = contains S x c := by
  cases c with
  | tup ys => rw [sh_tup]; unfold contains; dsimp only; rw [pd_sh, pds_sh]
  | ref i =>
    show contains (shS G S) (x.sh G.length) (.ref (i + G.length)) = _
    unfold contains
    dsimp only
    rw [shS_l]
    cases S.l i with
    | none => rfl
    | some xs => simp only [Option.map_some]; rw [pd_sh, pds_sh]
  | str s => cases x <;> rfl
  | _ => rfl
theorem opCmp_sh {op : CmpOp} {a b : D} : opCmp op (a.sh G.length) (b.sh G.length) (shS G S) = opCmp op a b S := by
  cases op with
  | Eq => exact eqD_sh
  | NotEq => show (eqD _ _ _).map _ = _; rw [eqD_sh]; rfl
  | In => exact contains_sh
  | NotIn => show (contains _ _ _).map _ = _; rw [contains_sh]; rfl
  | Is => cases b <;> first | rfl | (cases a <;> rfl)
  | IsNot => cases b <;> first | rfl | (cases a <;> rfl)
  | _ => cases a <;> first | rfl | (cases b <;> rfl)
theorem atI_map {α β : Type} {f : α → β} {xs : List α} {k : Int} : L2.atI (xs.map f) k = (L2.atI xs k).map f := by
  unfold L2.atI
  rw [List.length_map]
  cases L2.ixN xs.length k with
  | none => rfl
  | some j => simp only [Option.bind_some]; rw [List.getElem?_map]
theorem opIx_sh {a i : D} : opIx (a.sh G.length) (i.sh G.length) (shS G S) = (opIx a i S).map (D.sh G.length) := by
  cases i with
  | int k =>
    cases a with
    | tup xs => rw [sh_tup]; exact atI_map
    | rol xs => rw [sh_rol]; exact atI_map
    | ref r =>
      show opIx (.ref (r + G.length)) (.int k) (shS G S) = _
      unfold opIx
      dsimp only
      rw [shS_l]
      cases S.l r with
      | none => rfl
      | some xs => exact atI_map
    | str s =>
      show (L2.atI s k).map _ = Option.map _ ((L2.atI s k).map _)
      cases L2.atI s k <;> rfl
    | _ => rfl
  | _ => rfl
theorem cutD_map {α β : Type} {f : α → β} {xs : List α} {lo hi : Option Int} : cutD (xs.map f) lo hi = (cutD xs lo hi).map f := by
  unfold cutD
  rw [List.length_map, List.map_take, List.map_drop]
theorem newL {xs : List D} : Res.val [D.ref (shS G S).length] (shS G S ++ [.lst (xs.map (D.sh G.length))]) = shR G (.val [.ref S.length] (S ++ [.lst xs])) := by
  show _ = Res.val [D.ref (S.length + G.length)] (shS G (S ++ [.lst xs]))
  rw [← shS_app, shS_len]
  rfl
theorem opSlice_sh {a : D} {lo hi : Option Int} : opSlice (a.sh G.length) lo hi (shS G S) = shR G (opSlice a lo hi S) := by
  cases a with
  | tup xs =>
    rw [sh_tup]
    show Res.val [.tup (cutD (xs.map _) lo hi)] _ = Res.val [(D.tup (cutD xs lo hi)).sh _] _
    rw [cutD_map, sh_tup]
  | rol xs =>
    rw [sh_rol]
    unfold opSlice
    dsimp only
    rw [List.length_map]
    split
    · rw [cutD_map]
      exact newL
    · rfl
  | ref r =>
    show opSlice (.ref (r + G.length)) lo hi (shS G S) = _
    unfold opSlice
    dsimp only
    rw [shS_l]
    cases S.l r with
    | none => rfl
    | some xs =>
      simp only [Option.map_some]
      rw [cutD_map]
      exact newL
  | _ => rfl
theorem opBin_sh {op : Operator} {a b : D} : opBin op (a.sh G.length) (b.sh G.length) (shS G S) = shR G (opBin op a b S) := by
  cases a with
  | int i =>
    cases b with
    | int j =>
      show opBin op (.int i) (.int j) _ = _
      unfold opBin
      dsimp only
      cases arith op i j <;> rfl
    | _ => rfl
  | str x =>
    cases b with
    | str y =>
      show opBin op (.str x) (.str y) _ = _
      unfold opBin
      dsimp only
      cases op <;> first
        | rfl
        | (dsimp only; split <;> rfl)
    | _ => rfl
  | tup xs =>
    cases b with
    | tup ys =>
      rw [sh_tup, sh_tup]
      unfold opBin
      dsimp only
      cases op <;> first
        | rfl
        | (dsimp only
           rw [List.length_map, List.length_map]
           split
           · show _ = Res.val [(D.tup (xs ++ ys)).sh _] _
             rw [sh_tup, List.map_append]
           · rfl)
    | _ => rw [sh_tup]; rfl
  | rol xs => cases b <;> rfl
  | ref i =>
    cases b with
    | ref j =>
      show opBin op (.ref (i + G.length)) (.ref (j + G.length)) (shS G S) = _
      unfold opBin
      dsimp only
      rw [shS_get, shS_get]
      cases op <;> first
        | rfl
        | (dsimp only
           cases S[i]? with
           | none => rfl
           | some o =>
             cases o with
             | lst xs =>
               cases S[j]? with
               | none => rfl
               | some o2 =>
                 cases o2 with
                 | lst ys =>
                   simp only [Option.map_some, Ob.sh]
                   rw [List.length_map, List.length_map]
                   split
                   · rw [← List.map_append]
                     exact newL
                   · rfl
                 | _ => rfl
             | _ => rfl)
    | _ => rfl
  | _ => cases b <;> rfl
theorem ins1_map {α β : Type} {le : α → α → Bool} {lf : β → β → Bool} {f : α → β} (h : ∀ x y, lf (f x) (f y) = le x y) (x : α) : ∀ l : List α, ins1 lf (f x) (l.map f) = (ins1 le x l).map f
  | [] => rfl
  | y :: ys => by
    rw [List.map_cons, ins1, ins1, h]
    split
    · rfl
    · rw [ins1_map h x ys]; rfl
theorem isort_map {α β : Type} {le : α → α → Bool} {lf : β → β → Bool} {f : α → β} (h : ∀ x y, lf (f x) (f y) = le x y) : ∀ l : List α, isort lf (l.map f) = (isort le l).map f
  | [] => rfl
  | x :: xs => by
    rw [List.map_cons, isort, isort, isort_map h xs, ins1_map h]
theorem sortD_sh {xs : List D} : sortD (shS G S) (xs.map (D.sh G.length)) = (sortD S xs).map (List.map (D.sh G.length)) := by
  unfold sortD
  rw [pds_sh]
  cases pds S 39 xs with
  | none => rfl
  | some ps =>
    dsimp only
    split
    · have e : (xs.map (D.sh G.length)).zip ps = (xs.zip ps).map fun p => (p.1.sh G.length, p.2) := by
        rw [List.zip_map_left]
        rfl
      rw [e, isort_map (le := PySem.W.dataLe false fun b : D × PyData => b.2) (f := fun p : D × PyData => (p.1.sh G.length, p.2)) (fun _ _ => rfl), List.map_map, Option.map_some, List.map_map]
      rfl
    · rfl
theorem dty_sh {d : D} : dty (shS G S) (d.sh G.length) = dty S d := by
  cases d with
  | ref i =>
    show dty (shS G S) (.ref (i + G.length)) = _
    unfold dty
    dsimp only
    rw [shS_get]
    cases S[i]? with
    | none => rfl
    | some o => cases o <;> rfl
  | _ => rfl
theorem items_sh {d : D} : items (shS G S) (d.sh G.length) = (items S d).map (List.map (D.sh G.length)) := by
  cases d with
  | tup xs => rw [sh_tup]; rfl
  | rol xs => rw [sh_rol]; rfl
  | ref i => exact shS_l
  | str s =>
    show some (s.map _) = some (List.map _ (s.map _))
    rw [List.map_map]
    rfl
  | _ => rfl
theorem bools_sh {k : Nat} : ∀ xs : List D, bools (xs.map (D.sh k)) = bools xs
  | [] => rfl
  | .bl b :: r => by show (bools _).map _ = _; rw [bools_sh r]; rfl
  | .non :: _ => rfl
  | .int _ :: _ => rfl
  | .str _ :: _ => rfl
  | .tup _ :: _ => rfl
  | .rol _ :: _ => rfl
  | .ref _ :: _ => rfl
  | .cls _ :: _ => rfl
theorem callB1_sh {b : Bi} {d : D} : callB1 b (d.sh G.length) (shS G S) = shR G (callB1 b d S) := by
  cases b with
  | len =>
    cases d with
    | tup xs => rw [sh_tup]; unfold callB1; dsimp only; rw [List.length_map]; rfl
    | rol xs => rw [sh_rol]; unfold callB1; dsimp only; rw [List.length_map]; rfl
    | ref i =>
      show callB1 .len (.ref (i + G.length)) (shS G S) = _
      unfold callB1; dsimp only; rw [shS_l]
      cases S.l i with
      | none => rfl
      | some xs => simp only [Option.map_some, List.length_map]; rfl
    | _ => rfl
  | list =>
    cases d with
    | tup xs => rw [sh_tup]; exact newL
    | ref i =>
      show callB1 .list (.ref (i + G.length)) (shS G S) = _
      unfold callB1; dsimp only; rw [shS_l]
      cases S.l i with
      | none => rfl
      | some xs => exact newL
    | _ => rfl
  | tuple =>
    cases d with
    | tup xs => rw [sh_tup]; show _ = Res.val [(D.tup xs).sh _] _; rw [sh_tup]; rfl
    | ref i =>
      show callB1 .tuple (.ref (i + G.length)) (shS G S) = _
      unfold callB1; dsimp only; rw [shS_l]
      cases S.l i with
      | none => rfl
      | some xs => show _ = Res.val [(D.tup xs).sh _] _; rw [sh_tup]; rfl
    | _ => rfl
  | sorted =>
    cases d with
    | ref i =>
      show callB1 .sorted (.ref (i + G.length)) (shS G S) = _
      unfold callB1; dsimp only; rw [shS_l]
      cases S.l i with
      | none => rfl
      | some xs =>
        simp only [Option.map_some]
        rw [sortD_sh]
        cases sortD S xs with
        | none => rfl
        | some ys => exact newL
    | _ => rfl
  | all =>
    cases d with
    | ref i =>
      show callB1 .all (.ref (i + G.length)) (shS G S) = _
      unfold callB1; dsimp only; rw [shS_l]
      cases S.l i with
      | none => rfl
      | some xs =>
        simp only [Option.map_some, Option.bind_some]
        rw [bools_sh]
        cases bools xs <;> rfl
    | _ => rfl
  | any =>
    cases d with
    | ref i =>
      show callB1 .any (.ref (i + G.length)) (shS G S) = _
      unfold callB1; dsimp only; rw [shS_l]
      cases S.l i with
      | none => rfl
      | some xs =>
        simp only [Option.map_some, Option.bind_some]
        rw [bools_sh]
        cases bools xs <;> rfl
    | _ => rfl
  | isinst t =>
    unfold callB1; dsimp only
    unfold isTy
    rw [dty_sh]
    cases (dty S d).bind fun n => kin n t <;> rfl
  | abs => cases d <;> rfl
  | int => cases d <;> rfl
  | bool => cases d <;> rfl
  | _ => rfl
theorem callB2_sh {b : Bi} {d e : D} : callB2 b (d.sh G.length) (e.sh G.length) (shS G S) = shR G (callB2 b d e S) := by
  cases b with
  | max => cases d <;> first | rfl | (cases e <;> rfl)
  | min => cases d <;> first | rfl | (cases e <;> rfl)
  | _ => rfl
theorem callB_sh {b : Bi} {ds : List D} : callB b (ds.map (D.sh G.length)) (shS G S) = shR G (callB b ds S) :=
  match ds with
  | [] => rfl
  | [d] => callB1_sh
  | [d, e] => callB2_sh
  | _ :: _ :: _ :: _ => rfl
theorem rcv_sh {m : Bm} {d : D} : rcv m (d.sh G.length) (shS G S) = rcv m d S := by
  cases d with
  | ref i =>
    show rcv m (.ref (i + G.length)) (shS G S) = _
    unfold rcv
    cases m <;> first
      | rfl
      | (dsimp only; rw [shS_l]; cases S.l i <;> rfl)
  | _ => cases m <;> rfl
theorem eraseIdx_map {α β : Type} {f : α → β} : ∀ (xs : List α) (j : Nat), (xs.map f).eraseIdx j = (xs.eraseIdx j).map f
  | [], _ => rfl
  | _ :: _, 0 => rfl
  | x :: xs, j + 1 => by
    rw [List.map_cons, List.eraseIdx_cons_succ, List.eraseIdx_cons_succ, List.map_cons, eraseIdx_map xs j]
theorem callM_sh {m : Bm} {d : D} {ds : List D} : callM m (d.sh G.length) (ds.map (D.sh G.length)) (shS G S) = shR G (callM m d ds S) := by
  cases d with
  | ref i =>
    show callM m (.ref (i + G.length)) (ds.map (D.sh G.length)) (shS G S) = _
    unfold callM
    dsimp only
    rw [shS_get]
    cases S[i]? with
    | none => rfl
    | some o =>
      cases o with
      | lst xs =>
        simp only [Option.map_some, Ob.sh]
        match ds with
        | [] => cases m <;> rfl
        | [d] =>
          cases m with
          | append =>
            simp only [List.map_cons, List.map_nil, List.length_map]
            split
            · show _ = Res.val [.non] (shS G _)
              rw [← shS_set]
              simp only [Ob.sh, List.map_append, List.map_cons, List.map_nil]
            · rfl
          | pop1 =>
            cases d with
            | int k =>
              simp only [List.map_cons, List.map_nil, D.sh, List.length_map]
              cases L2.ixN xs.length k with
              | none => rfl
              | some j =>
                simp only [List.getElem?_map]
                cases xs[j]? with
                | none => rfl
                | some d =>
                  simp only [Option.map_some]
                  show _ = Res.val [d.sh _] (shS G _)
                  rw [← shS_set, eraseIdx_map]
                  rfl
            | _ => rfl
          | _ => rfl
        | d1 :: _ :: _ => cases m <;> first | rfl | (cases d1 <;> rfl)
      | _ => cases m <;> rfl
  | _ => rfl
theorem still_sh {d : D} {xs : List D} : still (d.sh G.length) (xs.map (D.sh G.length)) (shS G S) = still d xs S := by
  cases d with
  | ref i =>
    show still (.ref (i + G.length)) _ (shS G S) = _
    unfold still
    dsimp only
    rw [shS_get]
    cases S[i]? with
    | none => rfl
    | some o =>
      cases o with
      | lst ys =>
        simp only [Option.map_some, Ob.sh, Ob.isLst]
        rw [← D.shs_map, ← D.shs_map, D.beqs_sh]
      | _ => rfl
  | _ => rfl
theorem rearr_sh {k : Nat} : ∀ {prm : List (Nat ⊕ D)} {ds : List D}, (∀ d, .inr d ∈ prm → d.sh k = d) → rearr prm (ds.map (D.sh k)) = (rearr prm ds).map (List.map (D.sh k))
  | [], _, _ => rfl
  | .inl i :: r, ds, h => by
    rw [rearr, rearr, rearr_sh fun d hd => h d (List.mem_cons_of_mem _ hd), List.getElem?_map]
    cases ds[i]? with
    | none => rfl
    | some d => cases rearr r ds <;> rfl
  | .inr d :: r, ds, h => by
    rw [rearr, rearr, rearr_sh fun d hd => h d (List.mem_cons_of_mem _ hd)]
    cases rearr r ds with
    | none => rfl
    | some q =>
      simp only [Option.map_some, List.map_cons]
      rw [h d List.mem_cons_self]
/-! ### code -/
mutual
/-- no place is written in it -/
def D.flat : D → Bool
  | .ref _ => false
  | .tup xs => D.flats xs
  | .rol xs => D.flats xs
  | _ => true
def D.flats : List D → Bool
  | [] => true
  | x :: xs => D.flat x && D.flats xs
end
mutual
theorem flat_sh {k : Nat} : ∀ {d : D}, d.flat = true → d.sh k = d
  | .non, _ => rfl
  | .bl _, _ => rfl
  | .int _, _ => rfl
  | .str _, _ => rfl
  | .tup xs, h => by rw [D.sh, flats_sh (xs := xs) (by simpa only [D.flat] using h)]
  | .rol xs, h => by rw [D.sh, flats_sh (xs := xs) (by simpa only [D.flat] using h)]
  | .ref _, h => by simp [D.flat] at h
  | .cls _, _ => rfl
theorem flats_sh {k : Nat} : ∀ {xs : List D}, D.flats xs = true → D.shs k xs = xs
  | [], _ => rfl
  | x :: xs, h => by
    simp only [D.flats, Bool.and_eq_true] at h
    rw [D.shs, flat_sh h.1, flats_sh h.2]
end
def okC : C → Bool
  | .kon d => d.flat
  | .adef d => d.flat
  | .calk _ _ _ as ks prm => okC as && okC ks && prm.all fun p => match p with
    | .inl _ => true
    | .inr d => d.flat
  | .neg a => okC a | .notv a => okC a | .att _ a => okC a | .part a => okC a | .tup a => okC a | .lst a => okC a | .cal _ a => okC a | .blt _ a => okC a | .new _ a => okC a | .rng1 a => okC a | .enu a => okC a
  | .aug _ _ a => okC a | .ret a => okC a | .exp a => okC a | .rse _ a => okC a | .gt a => okC a | .ga _ a => okC a
  | .bin _ a b => okC a && okC b | .cmp _ a b => okC a && okC b | .andv a b => okC a && okC b | .orv a b => okC a && okC b | .idx a b => okC a && okC b | .btm _ a b => okC a && okC b | .mth _ a b => okC a && okC b
  | .acons a b => okC a && okC b | .rng2 a b => okC a && okC b | .seq a b => okC a && okC b | .asg a b => okC a && okC b | .whl a b => okC a && okC b | .gi a b => okC a && okC b | .gcons a b => okC a && okC b
  | .chn _ _ a b c => okC a && okC b && okC c | .ite a b c => okC a && okC b && okC c | .slc a b c => okC a && okC b && okC c | .rng3 a b c => okC a && okC b && okC c | .iff a b c => okC a && okC b && okC c | .forr a b c => okC a && okC b && okC c
  | .lc _ a b c d => okC a && okC b && okC c && okC d
  | _ => true
theorem b1_sh {σ : Sl} {r r' : Res} {k k' : D → Sto → Res} (hr : r' = shR G r) (h : ∀ d S, k' (d.sh G.length) (shS G S) = shR G (k d S)) : b1 (shL G.length σ) r' k' = shR G (b1 σ r k) := by
  subst hr
  cases r with
  | val ds S =>
    match ds with
    | [] => rfl
    | [d] => exact h d S
    | _ :: _ :: _ => rfl
  | _ => rfl
theorem bv_sh {σ : Sl} {r r' : Res} {k k' : List D → Sto → Res} (hr : r' = shR G r) (h : ∀ ds S, k' (ds.map (D.sh G.length)) (shS G S) = shR G (k ds S)) : bv (shL G.length σ) r' k' = shR G (bv σ r k) := by
  subst hr
  cases r with
  | val ds S => exact h ds S
  | _ => rfl
theorem bn_sh {r r' : Res} {k k' : Sl → Sto → Res} (hr : r' = shR G r) (h : ∀ σ S, k' (shL G.length σ) (shS G S) = shR G (k σ S)) : bn r' k' = shR G (bn r k) := by
  subst hr
  cases r with
  | nx σ S => exact h σ S
  | _ => rfl
theorem bg_sh {r r' : Res} {k k' : Sl → Sto → Res} (hr : r' = shR G r) (h : ∀ σ S, k' (shL G.length σ) (shS G S) = shR G (k σ S)) : bg r' k' = shR G (bg r k) := by
  subst hr
  cases r with
  | nx σ S => exact h σ S
  | _ => rfl
theorem turnR_sh {r r' : Res} {k k' : Sl → Sto → Res} (hr : r' = shR G r) (h : ∀ σ S, k' (shL G.length σ) (shS G S) = shR G (k σ S)) : turnR r' k' = shR G (turnR r k) := by
  subst hr
  cases r with
  | nx σ S => exact h σ S
  | ct σ S => exact h σ S
  | _ => rfl
theorem callR_sh {σ : Sl} {r r' : Res} (hr : r' = shR G r) : callR (shL G.length σ) r' = shR G (callR σ r) := by
  subst hr
  cases r with
  | val ds S =>
    match ds with
    | [] => rfl
    | [d] => rfl
    | _ :: _ :: _ => rfl
  | _ => rfl
theorem loopR_sh {c c' : Sto → Bool} {f f' : D → Sl → Sto → Res} (hc : ∀ S, c' (shS G S) = c S) (h : ∀ d σ S, f' (d.sh G.length) (shL G.length σ) (shS G S) = shR G (f d σ S)) :
    ∀ (xs : List D) (σ : Sl) (S : Sto), loopR c' f' (xs.map (D.sh G.length)) (shL G.length σ) (shS G S) = shR G (loopR c f xs σ S)
  | [], σ, S => by
    rw [List.map_nil, loopR, loopR, hc]
    split <;> rfl
  | x :: xs, σ, S => by
    rw [List.map_cons, loopR, loopR, hc]
    split
    · exact turnR_sh (h x σ S) fun σ S => loopR_sh hc h xs σ S
    · rfl
theorem loopC_sh {c c' : Sto → Bool} {f f' : D → Sto → Res} (hc : ∀ S, c' (shS G S) = c S) (h : ∀ d S, f' (d.sh G.length) (shS G S) = shR G (f d S)) :
    ∀ (xs acc : List D) (S : Sto), loopC c' f' (acc.map (D.sh G.length)) (xs.map (D.sh G.length)) (shS G S) = shR G (loopC c f acc xs S)
  | [], acc, S => by
    rw [List.map_nil, loopC, loopC, hc]
    split <;> rfl
  | x :: xs, acc, S => by
    rw [List.map_cons, loopC, loopC, hc, h]
    split
    · cases f x S with
      | val ds S1 =>
        show loopC c' f' (acc.map _ ++ ds.map _) _ _ = _
        rw [← List.map_append]
        exact loopC_sh hc h xs (acc ++ ds) S1
      | _ => rfl
    · rfl
theorem endC_sh {r r' : Res} (hr : r' = shR G r) : endC r' = shR G (endC r) := by
  subst hr
  cases r with
  | val ds S =>
    show endC (.val (ds.map _) _) = _
    unfold endC
    dsimp only
    rw [List.length_map]
    split
    · exact newL
    · rfl
  | _ => rfl
theorem turnC_sh {r r' : Res} {t t' e e' : Sl → Sto → Res} (hr : r' = shR G r) (ht : ∀ σ S, t' (shL G.length σ) (shS G S) = shR G (t σ S)) (he : ∀ σ S, e' (shL G.length σ) (shS G S) = shR G (e σ S)) : turnC r' t' e' = shR G (turnC r t e) := by
  unfold turnC
  refine bg_sh hr fun σ S => b1_sh (ht σ S) fun d S => ?_
  rw [tru_sh]
  cases tru S d with
  | none => rfl
  | some b =>
    cases b with
    | true => exact b1_sh (he σ S) fun z S => rfl
    | false => rfl
theorem whileR_sh {t t' b b' : Sl → Sto → Res} (ht : ∀ σ S, t' (shL G.length σ) (shS G S) = shR G (t σ S)) (hb : ∀ σ S, b' (shL G.length σ) (shS G S) = shR G (b σ S)) :
    ∀ (n : Nat) (σ : Sl) (S : Sto), whileR t' b' n (shL G.length σ) (shS G S) = shR G (whileR t b n σ S)
  | 0, _, _ => rfl
  | n + 1, σ, S => by
    rw [whileR, whileR]
    refine b1_sh (ht σ S) fun d S => ?_
    rw [tru_sh]
    cases tru S d with
    | none => rfl
    | some x =>
      cases x with
      | true => exact turnR_sh (hb σ S) fun σ S => whileR_sh ht hb n σ S
      | false => rfl
theorem wipeD_sh {k : Nat} (σ : Sl) : ∀ own : List Nat, wipeD (shL k σ) own = shL k (wipeD σ own)
  | [] => rfl
  | v :: vs => by
    rw [wipeD, wipeD, wipeD_sh σ vs]
    unfold shL
    rw [List.map_set]
    rfl
theorem lookup_shF {k f : Nat} : ∀ fs : List (Nat × D), (fs.map (shF k)).lookup f = (fs.lookup f).map (D.sh k)
  | [] => rfl
  | (g, d) :: r => by
    show List.lookup f ((g, d.sh k) :: r.map (shF k)) = _
    rw [List.lookup_cons, List.lookup_cons]
    cases f == g with
    | true => rfl
    | false => exact lookup_shF r
theorem putD_shF {k f : Nat} {d : D} : ∀ fs : List (Nat × D), putD f (d.sh k) (fs.map (shF k)) = (putD f d fs).map (shF k)
  | [] => rfl
  | (g, x) :: r => by
    show putD f (d.sh k) ((g, x.sh k) :: r.map (shF k)) = _
    rw [putD, putD]
    split
    · rfl
    · rw [putD_shF r]; rfl
theorem ends_sh {k : Nat} {d : D} : ends (d.sh k) = ends d := by cases d <;> rfl
end
end Vm

namespace Vm
open PySem
section
variable {P : Pg} {Φ : Nat → List D → Sto → Res} {G : Sto}
theorem ev_sh (hg : ∀ x d, P.gl x = some d → d.flat = true) (hΦ : ∀ f ds S, Φ f (ds.map (D.sh G.length)) (shS G S) = shR G (Φ f ds S)) :
    ∀ c : C, okC c = true → ∀ (ins : List D) (σ : Sl) (S : Sto), ev P Φ c (ins.map (D.sh G.length)) (shL G.length σ) (shS G S) = shR G (ev P Φ c ins σ S) := by
  have hcall : ∀ (f : Nat) (ds : List D) (σ : Sl) (S : Sto), callR (shL G.length σ) (Φ f (ds.map (D.sh G.length)) (shS G S)) = shR G (callR σ (Φ f ds S)) := fun f ds σ S => callR_sh (hΦ f ds S)
  intro c
  induction c with
  | var i =>
    intro _ ins σ S
    simp only [ev]
    rw [shL_get]
    cases σ[i]? with
    | none => rfl
    | some o => cases o <;> rfl
  | kon d =>
    intro h ins σ S
    simp only [ev]
    show Res.val [d] _ = Res.val [d.sh _] _
    rw [flat_sh (by simpa only [okC] using h)]
  | gl x =>
    intro h ins σ S
    simp only [ev]
    cases e : P.gl x with
    | none => rfl
    | some d =>
      show Res.val [d] _ = Res.val [d.sh _] _
      rw [flat_sh (hg x d e)]
  | bin op a b ha hb =>
    intro h ins σ S
    simp only [okC, Bool.and_eq_true] at h
    simp only [ev]
    exact b1_sh (ha h.1 [] σ S) fun x S => b1_sh (hb h.2 [] σ S) fun y S => opBin_sh
  | neg a ha =>
    intro h ins σ S
    simp only [okC] at h
    simp only [ev]
    exact b1_sh (ha h [] σ S) fun x S => by cases x <;> rfl
  | notv a ha =>
    intro h ins σ S
    simp only [okC] at h
    simp only [ev]
    refine b1_sh (ha h [] σ S) fun x S => ?_
    rw [tru_sh]
    cases tru S x <;> rfl
  | cmp op a b ha hb =>
    intro h ins σ S
    simp only [okC, Bool.and_eq_true] at h
    simp only [ev]
    refine b1_sh (ha h.1 [] σ S) fun x S => b1_sh (hb h.2 [] σ S) fun y S => ?_
    rw [opCmp_sh]
    cases opCmp op x y S <;> rfl
  | chn op op' a b c ha hb hc =>
    intro h ins σ S
    simp only [okC, Bool.and_eq_true] at h
    simp only [ev]
    refine b1_sh (ha h.1.1 [] σ S) fun x S => b1_sh (hb h.1.2 [] σ S) fun y S => ?_
    rw [opCmp_sh]
    cases opCmp op x y S with
    | none => rfl
    | some r =>
      cases r with
      | false => rfl
      | true =>
        refine b1_sh (hc h.2 [] σ S) fun z S => ?_
        rw [opCmp_sh]
        cases opCmp op' y z S <;> rfl
  | andv a b ha hb =>
    intro h ins σ S
    simp only [okC, Bool.and_eq_true] at h
    simp only [ev]
    refine b1_sh (ha h.1 [] σ S) fun x S => ?_
    rw [tru_sh]
    cases tru S x with
    | none => rfl
    | some r => cases r with
      | true => exact hb h.2 [] σ S
      | false => rfl
  | orv a b ha hb =>
    intro h ins σ S
    simp only [okC, Bool.and_eq_true] at h
    simp only [ev]
    refine b1_sh (ha h.1 [] σ S) fun x S => ?_
    rw [tru_sh]
    cases tru S x with
    | none => rfl
    | some r => cases r with
      | true => rfl
      | false => exact hb h.2 [] σ S
  | ite t a b ht ha hb =>
    intro h ins σ S
    simp only [okC, Bool.and_eq_true] at h
    simp only [ev]
    refine b1_sh (ht h.1.1 [] σ S) fun x S => ?_
    rw [tru_sh]
    cases tru S x with
    | none => rfl
    | some r => cases r with
      | true => exact ha h.1.2 [] σ S
      | false => exact hb h.2 [] σ S
  | att f a ha =>
    intro h ins σ S
    simp only [okC] at h
    simp only [ev]
    refine b1_sh (ha h [] σ S) fun x S => ?_
    cases x with
    | ref i =>
      simp only [D.sh]
      rw [shS_get]
      cases S[i]? with
      | none => rfl
      | some o =>
        cases o with
        | ins c fs =>
          simp only [Option.map_some, Ob.sh]
          rw [lookup_shF]
          cases fs.lookup f with
          | some d => rfl
          | none =>
            simp only [Option.map_none]
            cases P.pr c f with
            | none => rfl
            | some g => exact hΦ g [.ref i] S
        | _ => rfl
    | _ => rfl
  | idx a i ha hi =>
    intro h ins σ S
    simp only [okC, Bool.and_eq_true] at h
    simp only [ev]
    refine b1_sh (ha h.1 [] σ S) fun x S => b1_sh (hi h.2 [] σ S) fun y S => ?_
    rw [opIx_sh]
    cases opIx x y S <;> rfl
  | slc a lo hi ha hlo hhi =>
    intro h ins σ S
    simp only [okC, Bool.and_eq_true] at h
    simp only [ev]
    refine b1_sh (ha h.1.1 [] σ S) fun x S => b1_sh (hlo h.1.2 [] σ S) fun y S => ?_
    rw [ends_sh]
    cases ends y with
    | none => rfl
    | some l =>
      refine b1_sh (hhi h.2 [] σ S) fun z S => ?_
      rw [ends_sh]
      cases ends z with
      | none => rfl
      | some u => exact opSlice_sh
  | part a ha =>
    intro h ins σ S
    simp only [okC] at h
    simp only [ev]
    exact b1_sh (ha h [] σ S) fun x S => by cases x <;> rfl
  | tup as ha =>
    intro h ins σ S
    simp only [okC] at h
    simp only [ev]
    refine bv_sh (ha h [] σ S) fun ds S => ?_
    rw [List.length_map]
    split
    · show _ = Res.val [(D.tup ds).sh _] _
      rw [sh_tup]
    · rfl
  | lst as ha =>
    intro h ins σ S
    simp only [okC] at h
    simp only [ev]
    refine bv_sh (ha h [] σ S) fun ds S => ?_
    rw [List.length_map]
    split
    · exact newL
    · rfl
  | cal f as ha =>
    intro h ins σ S
    simp only [okC] at h
    rw [ev_cal, ev_cal]
    exact bv_sh (ha h [] σ S) fun ds S => hcall f ds σ S
  | calk f na nk as ks prm ha hk =>
    intro h ins σ S
    simp only [okC, Bool.and_eq_true, List.all_eq_true] at h
    rw [ev_calk, ev_calk]
    refine bv_sh (ha h.1.1 [] σ S) fun ds S => bv_sh (hk h.1.2 [] σ S) fun es S => ?_
    rw [List.length_map, List.length_map, ← List.map_append, rearr_sh fun d hd => flat_sh (h.2 _ hd)]
    split
    · cases rearr prm (ds ++ es) with
      | none => rfl
      | some gs => exact hcall f gs σ S
    · rfl
  | blt b as ha =>
    intro h ins σ S
    simp only [okC] at h
    simp only [ev]
    exact bv_sh (ha h [] σ S) fun ds S => callB_sh
  | btm m o as ho ha =>
    intro h ins σ S
    simp only [okC, Bool.and_eq_true] at h
    simp only [ev]
    refine b1_sh (ho h.1 [] σ S) fun x S => ?_
    rw [rcv_sh]
    split
    · exact bv_sh (ha h.2 [] σ S) fun ds S => callM_sh
    · rfl
  | mth m o as ho ha =>
    intro h ins σ S
    simp only [okC, Bool.and_eq_true] at h
    simp only [ev]
    refine b1_sh (ho h.1 [] σ S) fun x S => ?_
    cases x with
    | ref i =>
      simp only [D.sh]
      rw [shS_get]
      cases S[i]? with
      | none => rfl
      | some ob =>
        cases ob with
        | ins c fs =>
          simp only [Option.map_some, Ob.sh]
          rw [lookup_shF]
          cases P.me c m with
          | none => rfl
          | some g =>
            cases fs.lookup m with
            | some d => rfl
            | none =>
              simp only [Option.map_none]
              exact bv_sh (ha h.2 [] σ S) fun ds S => hcall g (.ref i :: ds) σ S
        | _ => rfl
    | _ => rfl
  | new c as ha =>
    intro h ins σ S
    simp only [okC] at h
    simp only [ev]
    refine bv_sh (ha h [] σ S) fun ds S => ?_
    cases P.ini c with
    | none => rfl
    | some g =>
      dsimp only
      have e := hΦ g (.ref S.length :: ds) (S ++ [.ins c []])
      rw [← shS_app, List.map_cons] at e
      have e2 : Φ g (.ref (shS G S).length :: ds.map (D.sh G.length)) (shS G S ++ [.ins c []]) = shR G (Φ g (.ref S.length :: ds) (S ++ [.ins c []])) := by
        rw [← e, shS_len]
        rfl
      rw [e2]
      cases Φ g (.ref S.length :: ds) (S ++ [.ins c []]) with
      | val xs S1 =>
        match xs with
        | [] => rfl
        | [d] =>
          cases d with
          | non =>
            show Res.val [.ref _] _ = Res.val [.ref _] _
            rw [shS_len]
          | _ => rfl
        | d :: _ :: _ => cases d <;> rfl
      | _ => rfl
  | lc own g it t e hg1 hi ht he =>
    intro h ins σ S
    simp only [okC, Bool.and_eq_true] at h
    simp only [ev]
    refine b1_sh (hi h.1.1.2 [] σ S) fun d S => ?_
    rw [items_sh]
    cases items S d with
    | none => rfl
    | some xs =>
      simp only [Option.map_some]
      refine endC_sh (loopC_sh (acc := []) (fun S => still_sh) (fun x S => ?_) xs S)
      rw [wipeD_sh]
      exact turnC_sh (hg1 h.1.1.1 [x] _ S) (fun σ S => ht h.1.2 [] σ S) fun σ S => he h.2 [] σ S
  | anil => intro h ins σ S; rfl
  | acons a r ha hr =>
    intro h ins σ S
    simp only [okC, Bool.and_eq_true] at h
    simp only [ev]
    exact b1_sh (ha h.1 [] σ S) fun x S => bv_sh (hr h.2 [] σ S) fun ds S => rfl
  | adef d =>
    intro h ins σ S
    simp only [okC] at h
    simp only [ev]
    show Res.val [d] _ = Res.val [d.sh _] _
    rw [flat_sh h]
  | rng1 a ha =>
    intro h ins σ S
    simp only [okC] at h
    simp only [ev]
    refine b1_sh (ha h [] σ S) fun x S => ?_
    cases x with
    | int j =>
      simp only [D.sh]
      split
      · show _ = Res.val [(D.tup _).sh _] _
        rw [sh_tup]
        unfold rangeD
        rw [List.map_map]
        rfl
      · rfl
    | _ => rfl
  | rng2 a b ha hb =>
    intro h ins σ S
    simp only [okC, Bool.and_eq_true] at h
    simp only [ev]
    refine b1_sh (ha h.1 [] σ S) fun x S => b1_sh (hb h.2 [] σ S) fun y S => ?_
    cases x with
    | int i =>
      cases y with
      | int j =>
        simp only [D.sh]
        split
        · show _ = Res.val [(D.tup _).sh _] _
          rw [sh_tup]
          unfold rangeD
          rw [List.map_map]
          rfl
        · rfl
      | _ => rfl
    | _ => rfl
  | rng3 a b c => intro h ins σ S; rfl
  | enu a => intro h ins σ S; rfl
  | nop => intro h ins σ S; rfl
  | seq a b ha hb =>
    intro h ins σ S
    simp only [okC, Bool.and_eq_true] at h
    simp only [ev]
    exact bn_sh (ha h.1 [] σ S) fun σ S => hb h.2 [] σ S
  | asg g e hg1 he =>
    intro h ins σ S
    simp only [okC, Bool.and_eq_true] at h
    simp only [ev]
    exact b1_sh (he h.2 [] σ S) fun d S => bg_sh (hg1 h.1 [d] σ S) fun σ S => rfl
  | aug i op e he =>
    intro h ins σ S
    simp only [okC] at h
    simp only [ev]
    rw [shL_get]
    cases σ[i]? with
    | none => rfl
    | some o =>
      cases o with
      | none => rfl
      | some x =>
        simp only [Option.map_some]
        refine b1_sh (he h [] σ S) fun y S => ?_
        cases x with
        | int a =>
          cases y with
          | int b =>
            simp only [D.sh]
            cases op <;> first
              | rfl
              | (show Res.nx _ _ = Res.nx _ _; rw [← shL_set]; rfl)
          | _ => rfl
        | _ => cases y <;> rfl
  | iff t a b ht ha hb =>
    intro h ins σ S
    simp only [okC, Bool.and_eq_true] at h
    simp only [ev]
    refine b1_sh (ht h.1.1 [] σ S) fun x S => ?_
    rw [tru_sh]
    cases tru S x with
    | none => rfl
    | some r => cases r with
      | true => exact ha h.1.2 [] σ S
      | false => exact hb h.2 [] σ S
  | whl t b ht hb =>
    intro h ins σ S
    simp only [okC, Bool.and_eq_true] at h
    simp only [ev]
    exact whileR_sh (fun σ S => ht h.1 [] σ S) (fun σ S => hb h.2 [] σ S) P.wf σ S
  | forr g it b hg1 hi hb =>
    intro h ins σ S
    simp only [okC, Bool.and_eq_true] at h
    simp only [ev]
    refine b1_sh (hi h.1.2 [] σ S) fun d S => ?_
    rw [items_sh]
    cases items S d with
    | none => rfl
    | some xs =>
      simp only [Option.map_some]
      exact loopR_sh (fun S => still_sh) (fun x σ S => bg_sh (hg1 h.1.1 [x] σ S) fun σ S => hb h.2 [] σ S) xs σ S
  | ret e he =>
    intro h ins σ S
    simp only [okC] at h
    simp only [ev]
    exact b1_sh (he h [] σ S) fun d S => rfl
  | retn => intro h ins σ S; rfl
  | exp e he =>
    intro h ins σ S
    simp only [okC] at h
    simp only [ev]
    exact b1_sh (he h [] σ S) fun d S => rfl
  | brk => intro h ins σ S; rfl
  | cnt => intro h ins σ S; rfl
  | rse c as => intro h ins σ S; rfl
  | gn i =>
    intro h ins σ S
    match ins with
    | [] => rfl
    | [d] =>
      simp only [ev, List.map_cons, List.map_nil]
      rw [shL_len]
      split
      · show Res.nx _ _ = Res.nx _ _
        rw [← shL_set]
      · rfl
    | _ :: _ :: _ => rfl
  | gt gs hgs =>
    intro h ins σ S
    simp only [okC] at h
    match ins with
    | [] => rfl
    | [d] =>
      cases d with
      | tup xs =>
        rw [List.map_cons, sh_tup]
        simp only [ev, List.map_nil]
        exact hgs h xs σ S
      | _ => rfl
    | d :: _ :: _ => cases d <;> rfl
  | ga f o ho =>
    intro h ins σ S
    simp only [okC] at h
    match ins with
    | [] => rfl
    | [d] =>
      simp only [ev, List.map_cons, List.map_nil]
      refine b1_sh (ho h [] σ S) fun x S => ?_
      cases x with
      | ref i =>
        simp only [D.sh]
        rw [shS_get]
        cases S[i]? with
        | none => rfl
        | some ob =>
          cases ob with
          | ins c fs =>
            simp only [Option.map_some, Ob.sh]
            rw [List.length_map]
            split
            · show Res.nx _ _ = Res.nx _ _
              rw [← shS_set, putD_shF]
              rfl
            · rfl
          | _ => rfl
      | _ => rfl
    | _ :: _ :: _ => rfl
  | gi o i ho hi =>
    intro h ins σ S
    simp only [okC, Bool.and_eq_true] at h
    match ins with
    | [] => rfl
    | [d] =>
      simp only [ev, List.map_cons, List.map_nil]
      refine b1_sh (ho h.1 [] σ S) fun x S => b1_sh (hi h.2 [] σ S) fun y S => ?_
      cases x with
      | ref r =>
        cases y with
        | int k =>
          simp only [D.sh]
          rw [shS_get]
          cases S[r]? with
          | none => rfl
          | some ob =>
            cases ob with
            | lst xs =>
              simp only [Option.map_some, Ob.sh, List.length_map]
              cases L2.ixN xs.length k with
              | none => rfl
              | some j =>
                show Res.nx _ _ = Res.nx _ _
                rw [← shS_set]
                simp only [Ob.sh, List.map_set]
            | _ => rfl
        | _ => rfl
      | _ => cases y <;> rfl
    | _ :: _ :: _ => rfl
  | gnil =>
    intro h ins σ S
    cases ins <;> rfl
  | gcons g r hg1 hr =>
    intro h ins σ S
    simp only [okC, Bool.and_eq_true] at h
    cases ins with
    | nil => rfl
    | cons d ds =>
      simp only [ev, List.map_cons]
      exact bg_sh (hg1 h.1 [d] σ S) fun σ S => hr h.2 ds σ S
/-- a program without places in its text -/
structure OkP (P : Pg) : Prop where
  gl : ∀ x d, P.gl x = some d → d.flat = true
  fn : ∀ f F, P.fn f = some F → okC F.body = true
theorem fin_sh {r r' : Res} (h : r' = shR G r) : fin r' = shR G (fin r) := by
  subst h
  cases r <;> rfl
theorem run_sh (h : OkP P) : ∀ (n f : Nat) (ds : List D) (S : Sto), run P n f (ds.map (D.sh G.length)) (shS G S) = shR G (run P n f ds S)
  | 0, _, _, _ => rfl
  | n + 1, f, ds, S => by
    unfold run
    cases e : P.fn f with
    | none => rfl
    | some F =>
      dsimp only
      rw [List.length_map]
      split
      · refine fin_sh ?_
        rw [← ev_sh h.gl (run_sh h n) F.body (h.fn f F e) [] _ S]
        congr 1
        unfold shL
        rw [List.map_append, List.map_map, List.map_map, List.map_replicate]
        rfl
      · rfl
/-- what is reckoned without objects is reckoned anywhere -/
theorem run_any (h : OkP P) {n f : Nat} {ds es : List D} {S : Sto} (hd : D.flats ds = true) (hr : run P n f ds [] = .val es S) (G : Sto) : run P n f ds G = .val (es.map (D.sh G.length)) (shS G S) := by
  have e := run_sh (G := G) h n f ds []
  rw [hr] at e
  rw [← D.shs_map, flats_sh hd] at e
  simpa [shS, shR] using e
end
end Vm

namespace Vm
open PySem
/-! Tools for what code does. -/
/-- the list that comes back -/
def outL : Res → Option (List D)
  | .val [.ref i] S => S.l i
  | _ => none
theorem bn_bn {r : Res} {f g : Sl → Sto → Res} : bn (bn r f) g = bn r fun σ S => bn (f σ S) g := by cases r <;> rfl
def C.fst : C → C
  | .seq a _ => a
  | c => c
def C.snd : C → C
  | .seq _ b => b
  | c => c
def C.thn : C → C
  | .iff _ a _ => a
  | c => c
def C.els : C → C
  | .iff _ _ b => b
  | c => c
def C.tst : C → C
  | .iff t _ _ => t
  | c => c
def slots : Res → Sl
  | .nx σ _ => σ
  | _ => []
def store : Res → Sto
  | .nx _ S => S
  | _ => []
section
variable {P : Pg} {Φ : Nat → List D → Sto → Res} {σ : Sl} {S : Sto} {ins : List D}
theorem ev_seq {a b : C} : ev P Φ (.seq a b) ins σ S = bn (ev P Φ a [] σ S) fun σ S => ev P Φ b [] σ S := rfl
theorem ev_seq_assoc {a b c : C} : ev P Φ (.seq a (.seq b c)) ins σ S = ev P Φ (.seq (.seq a b) c) ins σ S := by
  rw [ev_seq, ev_seq, ev_seq, bn_bn]
  rfl
theorem run_eq {n f : Nat} {F : Fn} {ds : List D} (hf : P.fn f = some F) (hl : ds.length = F.np) : run P (n + 1) f ds S = fin (ev P (run P n) F.body [] (ds.map some ++ List.replicate (F.ns - F.np) none) S) := by
  unfold run
  rw [hf]
  dsimp only
  rw [if_pos hl]
end
end Vm

namespace Vm
open PySem
/-! Lists at places of the store, what a run gives behind other objects, loops by an invariant. -/
section
variable {P : Pg} {G S : Sto}
theorem shS_old {i : Nat} (h : i < G.length) : (shS G S)[i]? = G[i]? := by
  unfold shS
  exact List.getElem?_append_left h
/-- a list made of nothing but values -/
theorem run_list (h : OkP P) {n f : Nat} {ds xs : List D} (hd : D.flats ds = true) (hr : outL (run P n f ds []) = some xs) (hx : D.flats xs = true) (G : Sto) :
    ∃ i T, run P n f ds G = .val [.ref i] (G ++ T) ∧ (G ++ T)[i]? = some (.lst xs) ∧ G.length ≤ i := by
  cases e : run P n f ds [] with
  | val es S =>
    rw [e] at hr
    match es, hr with
    | [.ref i], hr =>
      refine ⟨i + G.length, S.map (Ob.sh G.length), run_any h hd e G, ?_, Nat.le_add_left _ _⟩
      show (shS G S)[i + G.length]? = _
      rw [shS_get]
      simp only [outL, Sto.l] at hr
      cases q : S[i]? with
      | none => rw [q] at hr; cases hr
      | some o =>
        rw [q] at hr
        cases o with
        | lst ys =>
          cases hr
          show some (Ob.lst (xs.map _)) = _
          rw [← D.shs_map, flats_sh hx]
        | _ => cases hr
    | [], hr => cases hr
    | [.non], hr => cases hr
    | [.bl _], hr => cases hr
    | [.int _], hr => cases hr
    | [.str _], hr => cases hr
    | [.tup _], hr => cases hr
    | [.rol _], hr => cases hr
    | [.cls _], hr => cases hr
    | _ :: _ :: _, hr => simp [outL] at hr
  | _ => rw [e] at hr; cases hr
theorem get_app {T : Sto} {i : Nat} {o : Ob} (h : S[i]? = some o) : (S ++ T)[i]? = some o := by
  rw [List.getElem?_append_left (List.getElem?_eq_some_iff.mp h).1, h]
theorem get_new {o : Ob} : (S ++ [o])[S.length]? = some o := by simp
theorem lt_of_get {i : Nat} {o : Ob} (h : S[i]? = some o) : i < S.length := (List.getElem?_eq_some_iff.mp h).1
theorem get_set {i : Nat} {o q : Ob} (h : S[i]? = some q) : (S.set i o)[i]? = some o := by rw [List.getElem?_set_self (lt_of_get h)]
theorem get_set_ne {i j : Nat} {o : Ob} {q : Option Ob} (hn : i ≠ j) (h : S[j]? = q) : (S.set i o)[j]? = q := by rw [List.getElem?_set_ne hn, h]
theorem l_of {i : Nat} {xs : List D} (h : S[i]? = some (.lst xs)) : S.l i = some xs := by simp only [Sto.l, h]
/-- a loop whose turns all keep I -/
theorem loop_inv (I : Sl → Sto → Prop) {chk : Sto → Bool} {f : D → Sl → Sto → Res} {xs : List D} {σ : Sl} {S : Sto} (hc : ∀ S, chk S = true) (h0 : I σ S)
    (h : ∀ x ∈ xs, ∀ σ S, I σ S → ∃ σ' S', f x σ S = .nx σ' S' ∧ I σ' S') : ∃ σ' S', loopR chk f xs σ S = .nx σ' S' ∧ I σ' S' := by
  induction xs generalizing σ S with
  | nil => exact ⟨σ, S, by rw [loopR, if_pos (hc S)], h0⟩
  | cons x xs ih =>
    obtain ⟨σ1, S1, e1, h1⟩ := h x List.mem_cons_self σ S h0
    obtain ⟨σ2, S2, e2, h2⟩ := ih h1 fun y hy => h y (List.mem_cons_of_mem _ hy)
    refine ⟨σ2, S2, ?_, h2⟩
    rw [loopR, if_pos (hc S), e1]
    exact e2
end
end Vm

namespace Vm.RA
open Vm
/-! The drawn numbers of one family of laws: a bag is a list of three whole numbers. -/
def c__law_bag : C :=
    (.seq (.asg (.gn 2) (.ite (.cmp .Lt (.var 1) (.blt .len (.acons (.var 0) .anil))) (.idx (.var 0) (.var 1)) (.kon (.int 0))))
    (.seq (.asg (.gn 3) (.ite (.cmp .GtE (.blt .abs (.acons (.var 2) .anil)) (.bin .Pow (.kon (.int 10)) (.kon (.int 18)))) (.blt .abs (.acons (.var 2) .anil)) (.kon (.int 0))))
    (.ret (.lst (.acons (.var 3) (.acons (.bin .Add (.bin .Add (.bin .Mod (.blt .int (.acons (.var 2) .anil)) (.kon (.int 2305843009213693951))) (.bin .Mult (.kon (.int 104729)) (.var 1))) (.kon (.int 61))) (.acons (.kon (.int 0)) .anil)))))))
def f__law_bag : Fn := ⟨2, 4, c__law_bag⟩
def c__law_pick : C :=
    (.seq (.iff (.cmp .Gt (.idx (.var 0) (.kon (.int 0))) (.kon (.int 0))) (.seq (.asg (.gn 2) (.bin .Mod (.blt .int (.acons (.idx (.var 0) (.kon (.int 0))) .anil)) (.var 1)))
    (.seq (.asg (.gi (.var 0) (.kon (.int 0))) (.bin .FloorDiv (.idx (.var 0) (.kon (.int 0))) (.var 1)))
    (.ret (.var 2)))) .nop)
    (.seq (.asg (.gi (.var 0) (.kon (.int 2))) (.bin .Add (.idx (.var 0) (.kon (.int 2))) (.kon (.int 1))))
    (.seq (.asg (.gn 3) (.bin .Mod (.blt .int (.acons (.bin .Pow (.bin .Add (.idx (.var 0) (.kon (.int 1))) (.bin .Mult (.kon (.int 15485863)) (.idx (.var 0) (.kon (.int 2))))) (.kon (.int 3))) .anil)) (.kon (.int 2305843009213693921))))
    (.seq (.asg (.gn 3) (.bin .Mod (.blt .int (.acons (.bin .Pow (.bin .Add (.bin .FloorDiv (.var 3) (.kon (.int 4096))) (.bin .Mult (.kon (.int 32452843)) (.idx (.var 0) (.kon (.int 2))))) (.kon (.int 2))) .anil)) (.kon (.int 2147483647))))
    (.ret (.bin .Mod (.blt .int (.acons (.bin .FloorDiv (.var 3) (.kon (.int 64))) .anil)) (.var 1)))))))
def f__law_pick : Fn := ⟨2, 4, c__law_pick⟩
def c__law_of : C :=
    (.ret (.idx (.var 1) (.cal 3 (.acons (.var 0) (.acons (.blt .len (.acons (.var 1) .anil)) .anil)))))
def f__law_of : Fn := ⟨2, 2, c__law_of⟩
section
variable {P : Pg} {S : Sto} {n : Nat}
theorem mul_ok {i j : Int} (h : i.natAbs < 18446744073709551616 ∨ j.natAbs < 18446744073709551616) : mulOk i j = true := by
  unfold mulOk
  rcases h with h | h
  · rw [decide_eq_true h]; rfl
  · rw [decide_eq_true h]; simp
theorem div_ok {j : Int} (h0 : 0 < j) (h : j < 1073741824) : divOk j = true := by
  unfold divOk
  rw [decide_eq_true (by omega : j ≠ 0), decide_eq_true (by omega : j.natAbs < 1073741824)]
  rfl
theorem pow_ok {x k : Int} (h0 : 0 ≤ x) (h1 : x < 18446744073709551616) (h2 : 0 ≤ k) (h3 : k ≤ 1000000) : powOk x k = true := by
  unfold powOk
  rw [decide_eq_true h2, decide_eq_true h3, decide_eq_true (by omega : x.natAbs < 18446744073709551616)]
  rfl
theorem pick (hf : P.fn 3 = some f__law_pick) {i : Nat} {a b c m : Int} (hS : S[i]? = some (.lst [.int a, .int b, .int c])) (ha : 0 ≤ a) (hb : 0 ≤ b) (hb2 : b < 4611686018427387904) (hc : 0 ≤ c) (hc2 : c < 1000000000) (hm : 0 < m) (hm2 : m < 1073741824) :
    ∃ d a' c' : Int, 0 ≤ d ∧ d < m ∧ 0 ≤ a' ∧ c ≤ c' ∧ c' ≤ c + 1 ∧ run P (n + 1) 3 [.ref i, .int m] S = .val [.int d] (S.set i (.lst [.int a', .int b, .int c'])) := by
  rw [run_eq hf rfl]
  show ∃ d a' c' : Int, 0 ≤ d ∧ d < m ∧ 0 ≤ a' ∧ c ≤ c' ∧ c' ≤ c + 1 ∧ fin (ev P (run P n) c__law_pick [] [some (.ref i), some (.int m), none, none] S) = .val [.int d] (S.set i (.lst [.int a', .int b, .int c']))
  have hl := l_of hS
  have hm0 : m ≠ 0 := by omega
  by_cases h : 0 < a
  · refine ⟨a.fmod m, a.fdiv m, c, Int.fmod_nonneg_of_pos _ hm, Int.fmod_lt_of_pos _ hm, Int.fdiv_nonneg ha (by omega), Int.le_refl _, by omega, ?_⟩
    simp [c__law_pick, ev, b1, bn, bg, bv, fin, opIx, hl, hS, L2.atI, L2.ixN, opCmp, ltI_eq, h, tru, callB, callB1, opBin, arith, div_ok hm hm2, if_neg hm0]
  · have h1 : (0 : Int) ≤ (((b + 15485863 * (c + 1)) ^ 3).fmod 2305843009213693921) := Int.fmod_nonneg_of_pos _ (by decide)
    have h2 : (((b + 15485863 * (c + 1)) ^ 3).fmod 2305843009213693921) < 2305843009213693921 := Int.fmod_lt_of_pos _ (by decide)
    have h3 : (0 : Int) ≤ (((b + 15485863 * (c + 1)) ^ 3).fmod 2305843009213693921).fdiv 4096 := Int.fdiv_nonneg h1 (by decide)
    have h4 : (((b + 15485863 * (c + 1)) ^ 3).fmod 2305843009213693921).fdiv 4096 ≤ (((b + 15485863 * (c + 1)) ^ 3).fmod 2305843009213693921) := by
      rw [Int.fdiv_eq_ediv_of_nonneg _ (by decide)]
      exact Int.ediv_le_self _ h1
    have p1 : powOk (b + 15485863 * (c + 1)) 3 = true := pow_ok (by omega) (by omega) (by decide) (by decide)
    have p2 : powOk ((((b + 15485863 * (c + 1)) ^ 3).fmod 2305843009213693921).fdiv 4096 + 32452843 * (c + 1)) 2 = true := pow_ok (by omega) (by omega) (by decide) (by decide)
    have m1 : mulOk 15485863 (c + 1) = true := mul_ok (.inl (by decide))
    have m2 : mulOk 32452843 (c + 1) = true := mul_ok (.inl (by decide))
    have d1 : divOk 4096 = true := by decide
    have d2 : divOk 64 = true := by decide
    refine ⟨(((((((b + 15485863 * (c + 1)) ^ 3).fmod 2305843009213693921).fdiv 4096 + 32452843 * (c + 1)) ^ 2).fmod 2147483647).fdiv 64).fmod m, a, c + 1, Int.fmod_nonneg_of_pos _ hm, Int.fmod_lt_of_pos _ hm, ha, by omega, by omega, ?_⟩
    have g0 : (S.set i (.lst [.int a, .int b, .int (c + 1)]))[i]? = some (.lst [.int a, .int b, .int (c + 1)]) := get_set hS
    have g1 := l_of g0
    simp [c__law_pick, ev, b1, bn, bg, bv, fin, opIx, hl, hS, L2.atI, L2.ixN, opCmp, ltI_eq, h, tru, callB, callB1, opBin, arith, if_neg hm0, p1, p2, m1, m2, d1, d2, g0, g1]
theorem bag (hf : P.fn 2 = some f__law_bag) {ns : List Int} {p : Nat} (hp : p < 1000) (hl : ns.length ≤ 63) :
    ∃ a b : Int, 0 ≤ a ∧ 0 ≤ b ∧ b < 4611686018427387904 ∧ run P (n + 1) 2 [.rol (ns.map D.int), .int p] S = .val [.ref S.length] (S ++ [.lst [.int a, .int b, .int 0]]) := by
  rw [run_eq hf rfl]
  show ∃ a b : Int, 0 ≤ a ∧ 0 ≤ b ∧ b < 4611686018427387904 ∧ fin (ev P (run P n) c__law_bag [] [some (.rol (ns.map D.int)), some (.int p), none, none] S) = .val [.ref S.length] (S ++ [.lst [.int a, .int b, .int 0]])
  have key : ∀ v : Int, (∀ σ : Sl, σ[0]? = some (some (.rol (ns.map D.int))) → σ[1]? = some (some (.int p)) → ev P (run P n) (.ite (.cmp .Lt (.var 1) (.blt .len (.acons (.var 0) .anil))) (.idx (.var 0) (.var 1)) (.kon (.int 0))) [] σ S = .val [.int v] S) →
      ∃ a b : Int, 0 ≤ a ∧ 0 ≤ b ∧ b < 4611686018427387904 ∧ fin (ev P (run P n) c__law_bag [] [some (.rol (ns.map D.int)), some (.int p), none, none] S) = .val [.ref S.length] (S ++ [.lst [.int a, .int b, .int 0]]) := by
    intro v hv
    have e := hv [some (.rol (ns.map D.int)), some (.int p), none, none] rfl rfl
    have h1 : (0 : Int) ≤ v.fmod 2305843009213693951 := Int.fmod_nonneg_of_pos _ (by decide)
    have h2 : v.fmod 2305843009213693951 < 2305843009213693951 := Int.fmod_lt_of_pos _ (by decide)
    have m1 : mulOk 104729 (p : Int) = true := mul_ok (.inl (by decide))
    have p1 : powOk 10 18 = true := by decide
    by_cases h : (1000000000000000000 : Int) ≤ (if v < 0 then -v else v)
    rotate_left
    · refine ⟨0, v.fmod 2305843009213693951 + 104729 * (p : Int) + 61, by decide, by omega, by omega, ?_⟩
      unfold c__law_bag
      rw [ev_seq, ev, e]
      simp [ev, b1, bn, bg, bv, fin, callB, callB1, opBin, arith, opCmp, leI_eq, p1, m1, h, tru, SL]
    · refine ⟨if v < 0 then -v else v, v.fmod 2305843009213693951 + 104729 * (p : Int) + 61, by omega, by omega, by omega, ?_⟩
      unfold c__law_bag
      rw [ev_seq, ev, e]
      simp [ev, b1, bn, bg, bv, fin, callB, callB1, opBin, arith, opCmp, leI_eq, p1, m1, h, tru, SL]
  by_cases h : p < ns.length
  · refine key (ns[p]) fun σ h0 h1 => ?_
    simp [ev, h0, h1, b1, bv, callB, callB1, opCmp, ltI_eq, h, tru, opIx, L2.atI, L2.ixN]
  · refine key 0 fun σ h0 h1 => ?_
    simp [ev, h0, h1, b1, bv, callB, callB1, opCmp, ltI_eq, h, tru]
/-- a bag stands here; c draws at the most were made -/
def Bag (S : Sto) (i : Nat) (k : Int) : Prop := ∃ a b c : Int, S[i]? = some (.lst [.int a, .int b, .int c]) ∧ 0 ≤ a ∧ 0 ≤ b ∧ b < 4611686018427387904 ∧ 0 ≤ c ∧ c ≤ k
/-- S' is S but for the bag at i -/
def Drawn (S S' : Sto) (i : Nat) : Prop := S'.length = S.length ∧ ∀ j, j ≠ i → S'[j]? = S[j]?
theorem draw (hf : P.fn 3 = some f__law_pick) {i : Nat} {k m : Int} (h : Bag S i k) (hk : k < 1000000000) (hm : 0 < m) (hm2 : m < 1073741824) :
    ∃ (d : Nat) (S' : Sto), (d : Int) < m ∧ Bag S' i (k + 1) ∧ Drawn S S' i ∧ run P (n + 1) 3 [.ref i, .int m] S = .val [.int d] S' := by
  obtain ⟨a, b, c, h0, h1, h2, h3, h4, h5⟩ := h
  obtain ⟨d, a', c', g1, g2, g3, g4, g5, g6⟩ := pick (n := n) hf h0 h1 h2 h3 h4 (by omega) hm hm2
  obtain ⟨e, rfl⟩ := Int.eq_ofNat_of_zero_le g1
  exact ⟨e, _, g2, ⟨a', b, c', get_set h0, g3, h2, h3, by omega, by omega⟩, ⟨by rw [List.length_set], fun j hj => List.getElem?_set_ne (Ne.symm hj)⟩, g6⟩
theorem one_of (hf : P.fn 3 = some f__law_pick) (hf4 : P.fn 4 = some f__law_of) {i j : Nat} {k : Int} {xs : List D} (h : Bag S i k) (hk : k < 1000000000) (hj : S[j]? = some (.lst xs)) (hij : j ≠ i) (hx : 0 < xs.length) (hx2 : xs.length < 1073741824) :
    ∃ (d : Nat) (x : D) (S' : Sto), xs[d]? = some x ∧ Bag S' i (k + 1) ∧ Drawn S S' i ∧ run P (n + 2) 4 [.ref i, .ref j] S = .val [x] S' := by
  obtain ⟨d, S', h1, h2, h3, h4⟩ := draw (n := n) hf h hk (m := xs.length) (by omega) (by omega)
  have hd : d < xs.length := by omega
  refine ⟨d, xs[d], S', List.getElem?_eq_getElem hd, h2, h3, ?_⟩
  rw [run_eq hf4 rfl]
  show fin (ev P (run P (n + 1)) c__law_of [] [some (.ref i), some (.ref j)] S) = _
  have hj' := l_of ((h3.2 j hij).trans hj)
  simp [c__law_of, ev, b1, bv, callB, callB1, l_of hj, h4, opIx, hj', L2.atI, L2.ixN, hd, fin]
theorem Bag.app {i : Nat} {k : Int} (h : Bag S i k) (T : Sto) : Bag (S ++ T) i k := by
  obtain ⟨a, b, c, h0, h1⟩ := h
  exact ⟨a, b, c, get_app h0, h1⟩
theorem Bag.lt {i : Nat} {k : Int} (h : Bag S i k) : i < S.length := by
  obtain ⟨a, b, c, h0, h1⟩ := h
  exact lt_of_get h0
theorem Bag.set {i j : Nat} {k : Int} {o : Ob} (h : Bag S i k) (hj : j ≠ i) : Bag (S.set j o) i k := by
  obtain ⟨a, b, c, h0, h1⟩ := h
  exact ⟨a, b, c, get_set_ne hj h0, h1⟩
end
end Vm.RA

namespace Vm
open PySem
/-! Data without places: equal to themselves, the same in every store. -/
section
variable {S T : Sto} {n : Nat}
theorem mapO_some {α β : Type} {f : α → Option β} : ∀ {xs : List α} {ys : List β}, mapO f xs = some ys → ∀ y ∈ ys, ∃ x ∈ xs, f x = some y
  | [], ys, h, y, hy => by cases h; cases hy
  | x :: xs, ys, h, y, hy => by
    rw [mapO] at h
    cases e : f x with
    | none => rw [e] at h; cases h
    | some p =>
      rw [e] at h
      cases e2 : mapO f xs with
      | none => rw [e2] at h; cases h
      | some q =>
        rw [e2] at h
        cases h
        rcases List.mem_cons.mp hy with hy | hy
        · subst hy; exact ⟨x, List.mem_cons_self, e⟩
        · obtain ⟨z, h1, h2⟩ := mapO_some e2 y hy
          exact ⟨z, List.mem_cons_of_mem _ h1, h2⟩
theorem mapO_all {α β : Type} {f : α → Option β} : ∀ {xs : List α}, (∀ x ∈ xs, (f x).isSome = true) → ∃ ys, mapO f xs = some ys
  | [], _ => ⟨[], rfl⟩
  | x :: xs, h => by
    obtain ⟨q, hq⟩ := mapO_all fun y hy => h y (List.mem_cons_of_mem _ hy)
    have := h x List.mem_cons_self
    cases e : f x with
    | none => rw [e] at this; cases this
    | some p => exact ⟨p :: q, by rw [mapO, e, hq]⟩
theorem eqvAll_self {ps : List PyData} (h : ∀ p ∈ ps, PyData.eqv p p = true) : PyData.eqvAll ps ps = true := by
  induction ps with
  | nil => rw [PyData.eqvAll]
  | cons p ps ih => rw [PyData.eqvAll, h p List.mem_cons_self, ih fun q hq => h q (List.mem_cons_of_mem _ hq)]; rfl
theorem pd_self : ∀ (n : Nat) (d : D) (p : PyData), pd S n d = some p → PyData.eqv p p = true := by
  intro n
  induction n with
  | zero =>
    intro d p h
    cases d with
    | non => cases h; rw [PyData.eqv]
    | bl b => cases h; rw [PyData.eqv]; simp
    | int i => cases h; rw [PyData.eqv]; simp
    | str s => cases h; rw [PyData.eqv]; simp
    | _ => cases h
  | succ n ih =>
    intro d p h
    have lists : ∀ {xs : List D} {ps : List PyData}, pds S n xs = some ps → PyData.eqvAll ps ps = true := fun {xs ps} e => eqvAll_self fun q hq => by
      obtain ⟨x, _, hx⟩ := mapO_some e q hq
      exact ih x q hx
    cases d with
    | non => cases h; rw [PyData.eqv]
    | bl b => cases h; rw [PyData.eqv]; simp
    | int i => cases h; rw [PyData.eqv]; simp
    | str s => cases h; rw [PyData.eqv]; simp
    | tup xs =>
      rw [pd_tup] at h
      cases e : pds S n xs with
      | none => rw [e] at h; cases h
      | some ps => rw [e] at h; cases h; rw [PyData.eqv]; exact lists e
    | rol xs =>
      rw [pd_rol] at h
      cases e : pds S n xs with
      | none => rw [e] at h; cases h
      | some ps => rw [e] at h; cases h; rw [PyData.eqv]; exact lists e
    | ref i =>
      rw [pd_ref] at h
      cases e0 : S.l i with
      | none => rw [e0] at h; cases h
      | some xs =>
        rw [e0, Option.bind_some] at h
        cases e : pds S n xs with
        | none => rw [e] at h; cases h
        | some ps => rw [e] at h; cases h; rw [PyData.eqv]; exact lists e
    | cls c => cases h
/-- plain data of at most this depth, without places -/
def dat (n : Nat) (d : D) : Bool := d.flat && (pd [] n d).isSome
theorem dat_pd {n : Nat} {d : D} (h : dat n d = true) (S : Sto) : pd S n d = pd [] n d := by
  unfold dat at h
  rw [Bool.and_eq_true] at h
  have e := pd_sh (G := S) (S := []) n d
  rw [flat_sh h.1] at e
  have z : shS S [] = S := by unfold shS; simp
  rwa [z] at e
theorem dat_pds {n : Nat} {xs : List D} (h : xs.all (dat n) = true) : ∃ ps, ∀ S, pds S n xs = some ps := by
  rw [List.all_eq_true] at h
  obtain ⟨ps, hp⟩ := mapO_all (f := pd [] n) (xs := xs) fun x hx => by
    have := h x hx
    unfold dat at this
    rw [Bool.and_eq_true] at this
    exact this.2
  refine ⟨ps, fun S => ?_⟩
  rw [← hp]
  unfold pds
  clear hp
  induction xs with
  | nil => rfl
  | cons x xs ih =>
    rw [mapO, mapO, dat_pd (h x List.mem_cons_self) S, ih fun y hy => h y (List.mem_cons_of_mem _ hy)]
theorem eqD_self {d : D} (h : (pd S 40 d).isSome = true) : eqD S d d = some true := by
  unfold eqD
  cases e : pd S 40 d with
  | none => rw [e] at h; cases h
  | some p => dsimp only; rw [pd_self 40 d p e]
theorem eqD_lists {i j : Nat} {xs : List D} (hi : S[i]? = some (.lst xs)) (hj : S[j]? = some (.lst xs)) (h : xs.all (dat 39) = true) : eqD S (.ref i) (.ref j) = some true := by
  obtain ⟨ps, hp⟩ := dat_pds h
  have e : ∀ {i : Nat}, S[i]? = some (.lst xs) → pd S 40 (.ref i) = some (.list ps) := fun {i} hi => by
    rw [pd_ref, l_of hi, Option.bind_some, hp S]
    rfl
  unfold eqD
  rw [e hi, e hj]
  dsimp only
  rw [pd_self 40 (.ref i) _ (e hi)]
theorem all_erase {p : D → Bool} {xs : List D} (h : xs.all p = true) (k : Nat) : (xs.eraseIdx k).all p = true := by
  rw [List.all_eq_true] at h ⊢
  exact fun x hx => h x (List.mem_of_mem_eraseIdx hx)
/-- a loop whose turns all keep I; what is walked stands under I -/
theorem loop_inv' (I : Sl → Sto → Prop) {chk : Sto → Bool} {f : D → Sl → Sto → Res} {xs : List D} {σ : Sl} {S : Sto} (hc : ∀ σ S, I σ S → chk S = true) (h0 : I σ S)
    (h : ∀ x ∈ xs, ∀ σ S, I σ S → ∃ σ' S', f x σ S = .nx σ' S' ∧ I σ' S') : ∃ σ' S', loopR chk f xs σ S = .nx σ' S' ∧ I σ' S' := by
  induction xs generalizing σ S with
  | nil => exact ⟨σ, S, by rw [loopR, if_pos (hc σ S h0)], h0⟩
  | cons x xs ih =>
    obtain ⟨σ1, S1, e1, h1⟩ := h x List.mem_cons_self σ S h0
    obtain ⟨σ2, S2, e2, h2⟩ := ih h1 fun y hy => h y (List.mem_cons_of_mem _ hy)
    refine ⟨σ2, S2, ?_, h2⟩
    rw [loopR, if_pos (hc σ S h0), e1]
    exact e2
/-- a comprehension that changes no object -/
theorem loopC_flat {chk : Sto → Bool} {f : D → Sto → Res} {g : D → List D} {S : Sto} (hc : chk S = true) : ∀ {xs acc : List D}, (∀ x ∈ xs, f x S = .val (g x) S) → loopC chk f acc xs S = .val (acc ++ xs.flatMap g) S
  | [], acc, _ => by rw [loopC, if_pos hc]; simp
  | x :: xs, acc, h => by
    rw [loopC, if_pos hc, h x List.mem_cons_self]
    dsimp only
    rw [loopC_flat hc fun y hy => h y (List.mem_cons_of_mem _ hy)]
    simp
theorem still_lst {i : Nat} {xs : List D} (h : S[i]? = some (.lst xs)) : still (.ref i) xs S = true := by
  unfold still
  simp only [h, Ob.isLst, D.beqs_self]
theorem flat_filter {p : D → Bool} (xs : List D) : xs.flatMap (fun x => if p x = true then [x] else []) = xs.filter p := by
  induction xs with
  | nil => rfl
  | cons x xs ih =>
    rw [List.flatMap_cons, ih, List.filter_cons]
    split <;> rfl
theorem str_beq (a b : List Nat) : (({ cps := a.toArray } : Str) == { cps := b.toArray }) = (a == b) := by
  rw [Bool.eq_iff_iff]
  simp
theorem str_ne {a b : List Nat} (h : ¬ a = b) : (({ cps := a.toArray } : Str) == { cps := b.toArray }) = false := by
  rw [str_beq]
  simpa using h
end
end Vm

namespace Vm.k53
open Vm
/-! The code of law_k53_worlds_listed, as the small machine has it. -/
def s_all_worlds_0 : C := (.asg (.gn 1) (.lst .anil))
def s_all_worlds_1_0_0_0 : C := (.exp (.btm .append (.var 1) (.acons (.tup (.acons (.var 3) (.acons (.var 4) (.acons (.kon (.str [110, 111, 110, 101])) (.acons (.kon (.bl false)) (.acons (.kon (.bl false)) (.acons (.var 2) .anil))))))) .anil)))
def s_all_worlds_1_0_0 : C := (.forr (.gn 4) (.tup (.acons (.kon (.str [110, 111, 110, 101])) (.acons (.kon (.str [115, 111, 109, 101])) .anil))) s_all_worlds_1_0_0_0)
def s_all_worlds_1_0 : C := (.forr (.gn 3) (.tup (.acons (.kon (.str [102, 97, 114])) (.acons (.kon (.str [110, 101, 97, 114])) (.acons (.kon (.str [111, 118, 101, 114])) .anil)))) s_all_worlds_1_0_0)
def s_all_worlds_1 : C := (.forr (.gn 2) (.gl 0) s_all_worlds_1_0)
def s_all_worlds_2 : C := (.asg (.gn 5) (.lst (.acons (.tup (.acons (.kon (.str [110, 101, 97, 114])) (.acons (.kon (.str [104, 111, 109, 101])) .anil))) (.acons (.tup (.acons (.kon (.str [111, 118, 101, 114])) (.acons (.kon (.str [104, 111, 109, 101])) .anil))) (.acons (.tup (.acons (.kon (.str [110, 101, 97, 114])) (.acons (.kon (.str [108, 97, 116, 101])) .anil))) (.acons (.tup (.acons (.kon (.str [111, 118, 101, 114])) (.acons (.kon (.str [108, 97, 116, 101])) .anil))) (.acons (.tup (.acons (.kon (.str [111, 118, 101, 114])) (.acons (.kon (.str [112, 97, 115, 116])) .anil))) .anil)))))))
def s_all_worlds_3a_0 : C := (.asg (.gn 5) (.bin .Add (.var 5) (.lst (.acons (.tup (.acons (.kon (.str [110, 101, 97, 114])) (.acons (.kon (.str [101, 97, 114, 108, 121])) .anil))) (.acons (.tup (.acons (.kon (.str [110, 101, 97, 114])) (.acons (.kon (.str [112, 97, 115, 116])) .anil))) .anil)))))
def s_all_worlds_3 : C := (.iff (.cmp .Gt (.var 0) (.kon (.int 0))) s_all_worlds_3a_0 .nop)
def s_all_worlds_4_0_0_0_0_0 : C := (.exp (.btm .append (.var 1) (.acons (.tup (.acons (.var 3) (.acons (.var 4) (.acons (.var 6) (.acons (.var 7) (.acons (.var 8) (.acons (.var 2) .anil))))))) .anil)))
def s_all_worlds_4_0_0_0_0 : C := (.forr (.gn 2) (.gl 0) s_all_worlds_4_0_0_0_0_0)
def s_all_worlds_4_0_0_0 : C := (.forr (.gn 8) (.gl 0) s_all_worlds_4_0_0_0_0)
def s_all_worlds_4_0_0 : C := (.forr (.gn 7) (.ite (.cmp .Eq (.var 6) (.kon (.str [104, 111, 109, 101]))) (.gl 0) (.tup (.acons (.kon (.bl true)) .anil))) s_all_worlds_4_0_0_0)
def s_all_worlds_4_0 : C := (.forr (.gn 4) (.tup (.acons (.kon (.str [110, 111, 110, 101])) (.acons (.kon (.str [115, 97, 109, 101])) (.acons (.kon (.str [111, 116, 104, 101, 114])) .anil)))) s_all_worlds_4_0_0)
def s_all_worlds_4 : C := (.forr (.gt (.gcons (.gn 3) (.gcons (.gn 6) .gnil))) (.var 5) s_all_worlds_4_0)
def s_all_worlds_5 : C := (.ret (.blt .sorted (.acons (.var 1) .anil)))
def c_all_worlds : C := (.seq s_all_worlds_0 (.seq s_all_worlds_1 (.seq s_all_worlds_2 (.seq s_all_worlds_3 (.seq s_all_worlds_4 s_all_worlds_5)))))
def f_all_worlds : Fn := ⟨1, 9, c_all_worlds⟩
def s_starts_0 : C := (.ret (.blt .sorted (.acons (.lc [0] (.gn 0) (.cal 0 (.acons (.kon (.int 0)) .anil)) (.andv (.cmp .Eq (.idx (.var 0) (.kon (.int 2))) (.kon (.str [110, 111, 110, 101]))) (.notv (.idx (.var 0) (.kon (.int 5))))) (.var 0)) .anil)))
def c_starts : C := s_starts_0
def f_starts : Fn := ⟨0, 1, c_starts⟩
def s__law_bag_0 : C := (.asg (.gn 2) (.ite (.cmp .Lt (.var 1) (.blt .len (.acons (.var 0) .anil))) (.idx (.var 0) (.var 1)) (.kon (.int 0))))
def s__law_bag_1 : C := (.asg (.gn 3) (.ite (.cmp .GtE (.blt .abs (.acons (.var 2) .anil)) (.bin .Pow (.kon (.int 10)) (.kon (.int 18)))) (.blt .abs (.acons (.var 2) .anil)) (.kon (.int 0))))
def s__law_bag_2 : C := (.ret (.lst (.acons (.var 3) (.acons (.bin .Add (.bin .Add (.bin .Mod (.blt .int (.acons (.var 2) .anil)) (.kon (.int 2305843009213693951))) (.bin .Mult (.kon (.int 104729)) (.var 1))) (.kon (.int 61))) (.acons (.kon (.int 0)) .anil)))))
def c__law_bag : C := (.seq s__law_bag_0 (.seq s__law_bag_1 s__law_bag_2))
def f__law_bag : Fn := ⟨2, 4, c__law_bag⟩
def s__law_pick_0a_0 : C := (.asg (.gn 2) (.bin .Mod (.blt .int (.acons (.idx (.var 0) (.kon (.int 0))) .anil)) (.var 1)))
def s__law_pick_0a_1 : C := (.asg (.gi (.var 0) (.kon (.int 0))) (.bin .FloorDiv (.idx (.var 0) (.kon (.int 0))) (.var 1)))
def s__law_pick_0a_2 : C := (.ret (.var 2))
def s__law_pick_0 : C := (.iff (.cmp .Gt (.idx (.var 0) (.kon (.int 0))) (.kon (.int 0))) (.seq s__law_pick_0a_0 (.seq s__law_pick_0a_1 s__law_pick_0a_2)) .nop)
def s__law_pick_1 : C := (.asg (.gi (.var 0) (.kon (.int 2))) (.bin .Add (.idx (.var 0) (.kon (.int 2))) (.kon (.int 1))))
def s__law_pick_2 : C := (.asg (.gn 3) (.bin .Mod (.blt .int (.acons (.bin .Pow (.bin .Add (.idx (.var 0) (.kon (.int 1))) (.bin .Mult (.kon (.int 15485863)) (.idx (.var 0) (.kon (.int 2))))) (.kon (.int 3))) .anil)) (.kon (.int 2305843009213693921))))
def s__law_pick_3 : C := (.asg (.gn 3) (.bin .Mod (.blt .int (.acons (.bin .Pow (.bin .Add (.bin .FloorDiv (.var 3) (.kon (.int 4096))) (.bin .Mult (.kon (.int 32452843)) (.idx (.var 0) (.kon (.int 2))))) (.kon (.int 2))) .anil)) (.kon (.int 2147483647))))
def s__law_pick_4 : C := (.ret (.bin .Mod (.blt .int (.acons (.bin .FloorDiv (.var 3) (.kon (.int 64))) .anil)) (.var 1)))
def c__law_pick : C := (.seq s__law_pick_0 (.seq s__law_pick_1 (.seq s__law_pick_2 (.seq s__law_pick_3 s__law_pick_4))))
def f__law_pick : Fn := ⟨2, 4, c__law_pick⟩
def s__law_of_0 : C := (.ret (.idx (.var 1) (.cal 3 (.acons (.var 0) (.acons (.blt .len (.acons (.var 1) .anil)) .anil)))))
def c__law_of : C := s__law_of_0
def f__law_of : Fn := ⟨2, 2, c__law_of⟩
def s__law_can_0 : C := (.asg (.gt (.gcons (.gn 2) (.gcons (.gn 3) (.gcons (.gn 4) (.gcons (.gn 5) (.gcons (.gn 6) (.gcons (.gn 7) .gnil))))))) (.var 0))
def s__law_can_1a_0 : C := (.ret (.andv (.cmp .In (.var 3) (.lst (.acons (.kon (.str [110, 111, 110, 101])) (.acons (.kon (.str [115, 111, 109, 101])) .anil)))) (.andv (.notv (.var 5)) (.notv (.var 6)))))
def s__law_can_1 : C := (.iff (.cmp .Eq (.var 4) (.kon (.str [110, 111, 110, 101]))) s__law_can_1a_0 .nop)
def s__law_can_2a_0 : C := (.ret (.kon (.bl false)))
def s__law_can_2 : C := (.iff (.orv (.cmp .Eq (.var 3) (.kon (.str [115, 111, 109, 101]))) (.orv (.cmp .Eq (.var 2) (.kon (.str [102, 97, 114]))) (.andv (.cmp .NotEq (.var 4) (.kon (.str [104, 111, 109, 101]))) (.notv (.var 5))))) s__law_can_2a_0 .nop)
def s__law_can_3a_0 : C := (.ret (.andv (.cmp .Eq (.var 2) (.kon (.str [110, 101, 97, 114]))) (.cmp .Gt (.var 1) (.kon (.int 0)))))
def s__law_can_3 : C := (.iff (.cmp .Eq (.var 4) (.kon (.str [101, 97, 114, 108, 121]))) s__law_can_3a_0 .nop)
def s__law_can_4 : C := (.ret (.orv (.cmp .NotEq (.var 4) (.kon (.str [112, 97, 115, 116]))) (.orv (.cmp .Eq (.var 2) (.kon (.str [111, 118, 101, 114]))) (.cmp .Gt (.var 1) (.kon (.int 0))))))
def c__law_can : C := (.seq s__law_can_0 (.seq s__law_can_1 (.seq s__law_can_2 (.seq s__law_can_3 s__law_can_4))))
def f__law_can : Fn := ⟨2, 8, c__law_can⟩
def s__law_due_0 : C := (.asg (.gt (.gcons (.gn 1) (.gcons (.gn 2) .gnil))) (.tup (.acons (.lst .anil) (.acons (.lst (.acons (.tup (.acons (.kon (.bl false)) (.acons (.kon (.bl false)) .anil))) (.acons (.tup (.acons (.kon (.bl false)) (.acons (.kon (.bl true)) .anil))) (.acons (.tup (.acons (.kon (.bl true)) (.acons (.kon (.bl false)) .anil))) (.acons (.tup (.acons (.kon (.bl true)) (.acons (.kon (.bl true)) .anil))) .anil))))) .anil))))
def s__law_due_1_0_0_0_0 : C := (.asg (.gn 7) (.lc [8] (.gn 8) (.var 2) (.kon (.bl true)) (.bin .Add (.tup (.acons (.var 3) (.acons (.var 4) (.acons (.var 5) (.acons (.var 6) .anil))))) (.var 8))))
def s__law_due_1_0_0_0_1 : C := (.asg (.gn 1) (.bin .Add (.var 1) (.lc [9] (.gn 9) (.var 7) (.cal 5 (.acons (.var 9) (.acons (.var 0) .anil))) (.var 9))))
def s__law_due_1_0_0_0 : C := (.forr (.gn 6) (.lst (.acons (.kon (.bl false)) (.acons (.kon (.bl true)) .anil))) (.seq s__law_due_1_0_0_0_0 s__law_due_1_0_0_0_1))
def s__law_due_1_0_0 : C := (.forr (.gn 5) (.lst (.acons (.kon (.str [101, 97, 114, 108, 121])) (.acons (.kon (.str [104, 111, 109, 101])) (.acons (.kon (.str [108, 97, 116, 101])) (.acons (.kon (.str [110, 111, 110, 101])) (.acons (.kon (.str [112, 97, 115, 116])) .anil)))))) s__law_due_1_0_0_0)
def s__law_due_1_0 : C := (.forr (.gn 4) (.lst (.acons (.kon (.str [110, 111, 110, 101])) (.acons (.kon (.str [111, 116, 104, 101, 114])) (.acons (.kon (.str [115, 97, 109, 101])) (.acons (.kon (.str [115, 111, 109, 101])) .anil))))) s__law_due_1_0_0)
def s__law_due_1 : C := (.forr (.gn 3) (.lst (.acons (.kon (.str [102, 97, 114])) (.acons (.kon (.str [110, 101, 97, 114])) (.acons (.kon (.str [111, 118, 101, 114])) .anil)))) s__law_due_1_0)
def s__law_due_2 : C := (.ret (.var 1))
def c__law_due : C := (.seq s__law_due_0 (.seq s__law_due_1 s__law_due_2))
def f__law_due : Fn := ⟨1, 10, c__law_due⟩
def s__law_kinds_right_0_0a_0 : C := (.ret (.kon (.bl false)))
def s__law_kinds_right_0_0 : C := (.iff (.orv (.notv (.blt (.isinst .tuple) (.acons (.var 1) .anil))) (.cmp .NotEq (.blt .len (.acons (.var 1) .anil)) (.kon (.int 6)))) s__law_kinds_right_0_0a_0 .nop)
def s__law_kinds_right_0_1a_0 : C := (.ret (.kon (.bl false)))
def s__law_kinds_right_0_1 : C := (.iff (.notv (.blt .all (.acons (.lc [2] (.gn 2) (.slc (.var 1) (.kon .non) (.part (.kon (.int 3)))) (.kon (.bl true)) (.blt (.isinst .str) (.acons (.var 2) .anil))) .anil))) s__law_kinds_right_0_1a_0 .nop)
def s__law_kinds_right_0_2a_0 : C := (.ret (.kon (.bl false)))
def s__law_kinds_right_0_2 : C := (.iff (.notv (.blt .all (.acons (.lc [2] (.gn 2) (.slc (.var 1) (.part (.kon (.int 3))) (.kon .non)) (.kon (.bl true)) (.blt (.isinst .bool) (.acons (.var 2) .anil))) .anil))) s__law_kinds_right_0_2a_0 .nop)
def s__law_kinds_right_0 : C := (.forr (.gn 1) (.var 0) (.seq s__law_kinds_right_0_0 (.seq s__law_kinds_right_0_1 s__law_kinds_right_0_2)))
def s__law_kinds_right_1 : C := (.ret (.kon (.bl true)))
def c__law_kinds_right : C := (.seq s__law_kinds_right_0 s__law_kinds_right_1)
def f__law_kinds_right : Fn := ⟨1, 3, c__law_kinds_right⟩
def s_law_0_0 : C := (.asg (.gn 2) (.cal 2 (.acons (.var 0) (.acons (.var 1) .anil))))
def s_law_0_1 : C := (.asg (.gn 3) (.cal 4 (.acons (.var 2) (.acons (.lst (.acons (.kon (.int 0)) (.acons (.kon (.int 1)) (.acons (.cal 3 (.acons (.var 2) (.acons (.kon (.int 1000)) .anil))) .anil)))) .anil))))
def s_law_0_2 : C := (.asg (.gn 4) (.ite (.cmp .Eq (.var 3) (.kon (.int 0))) (.kon (.int 1)) (.kon (.int 0))))
def s_law_0_3 : C := (.asg (.gt (.gcons (.gn 7) (.gcons (.gn 8) .gnil))) (.tup (.acons (.cal 0 (.acons (.var 3) .anil)) (.acons (.cal 1 .anil) .anil))))
def s_law_0_4a_0 : C := (.ret (.kon (.bl false)))
def s_law_0_4 : C := (.iff (.orv (.notv (.blt (.isinst .list) (.acons (.var 7) .anil))) (.notv (.blt (.isinst .list) (.acons (.var 8) .anil)))) s_law_0_4a_0 .nop)
def s_law_0_5a_0 : C := (.ret (.kon (.bl false)))
def s_law_0_5 : C := (.iff (.orv (.cmp .NotEq (.var 7) (.cal 6 (.acons (.var 3) .anil))) (.orv (.notv (.cal 7 (.acons (.var 7) .anil))) (.notv (.cal 7 (.acons (.var 8) .anil))))) s_law_0_5a_0 .nop)
def s_law_0_6a_0 : C := (.ret (.kon (.bl false)))
def s_law_0_6 : C := (.iff (.cmp .NotEq (.var 8) (.lc [9] (.gn 9) (.cal 6 (.acons (.kon (.int 0)) .anil)) (.andv (.cmp .Eq (.idx (.var 9) (.kon (.int 2))) (.kon (.str [110, 111, 110, 101]))) (.notv (.idx (.var 9) (.kon (.int 5))))) (.var 9))) s_law_0_6a_0 .nop)
def s_law_0_7 : C := (.asg (.gn 5) (.blt .list (.acons (.var 7) .anil)))
def s_law_0_8 : C := (.exp (.btm .pop1 (.var 7) (.acons (.cal 3 (.acons (.var 2) (.acons (.blt .len (.acons (.var 7) .anil)) .anil))) .anil)))
def s_law_0_9 : C := (.exp (.btm .append (.var 8) (.acons (.idx (.var 5) (.kon (.int 0))) .anil)))
def s_law_0_10 : C := (.asg (.gn 6) (.blt .list (.acons (.var 7) .anil)))
def s_law_0_11a_0 : C := (.ret (.kon (.bl false)))
def s_law_0_11 : C := (.iff (.orv (.cmp .NotEq (.calk 0 0 1 .anil (.acons (.var 4) .anil) [.inl 0]) (.cal 6 (.acons (.var 4) .anil))) (.orv (.cmp .NotEq (.cal 0 (.acons (.var 3) .anil)) (.var 5)) (.cmp .NotEq (.var 7) (.var 6)))) s_law_0_11a_0 .nop)
def s_law_0_12a_0 : C := (.ret (.kon (.bl false)))
def s_law_0_12 : C := (.iff (.orv (.cmp .NotEq (.cal 1 .anil) (.slc (.var 8) (.kon .non) (.part (.kon (.int 6))))) (.cmp .NotEq (.blt .len (.acons (.var 8) .anil)) (.kon (.int 7)))) s_law_0_12a_0 .nop)
def s_law_0 : C := (.forr (.gn 1) (.rng1 (.blt .max (.acons (.kon (.int 1)) (.acons (.blt .min (.acons (.kon (.int 10)) (.acons (.blt .len (.acons (.var 0) .anil)) .anil))) .anil)))) (.seq s_law_0_0 (.seq s_law_0_1 (.seq s_law_0_2 (.seq s_law_0_3 (.seq s_law_0_4 (.seq s_law_0_5 (.seq s_law_0_6 (.seq s_law_0_7 (.seq s_law_0_8 (.seq s_law_0_9 (.seq s_law_0_10 (.seq s_law_0_11 s_law_0_12)))))))))))))
def s_law_1 : C := (.ret (.kon (.bl true)))
def c_law : C := (.seq s_law_0 s_law_1)
def f_law : Fn := ⟨1, 10, c_law⟩
def pg : Pg where
  fn i := match i with
    | 0 => some f_all_worlds
    | 1 => some f_starts
    | 2 => some f__law_bag
    | 3 => some f__law_pick
    | 4 => some f__law_of
    | 5 => some f__law_can
    | 6 => some f__law_due
    | 7 => some f__law_kinds_right
    | 8 => some f_law
    | _ => none
  gl i := match i with
    | 0 => some (.tup [(.bl false), (.bl true)])
    | _ => none
  me _ _ := none
  pr _ _ := none
  ini _ := none
  wf := 1000000
theorem okP : OkP pg where
  gl := by
    intro x d h
    simp only [pg] at h
    split at h <;> first
      | (cases h; decide +kernel)
      | cases h
  fn := by
    intro f F h
    simp only [pg] at h
    split at h <;> first
      | (cases h; decide +kernel)
      | cases h
end Vm.k53

namespace Vm.k53
open Vm
/-! What is listed, written out. -/
def worlds0 : List D := [.tup [.str [102, 97, 114], .str [110, 111, 110, 101], .str [110, 111, 110, 101], .bl false, .bl false, .bl false],
  .tup [.str [102, 97, 114], .str [110, 111, 110, 101], .str [110, 111, 110, 101], .bl false, .bl false, .bl true],
  .tup [.str [102, 97, 114], .str [115, 111, 109, 101], .str [110, 111, 110, 101], .bl false, .bl false, .bl false],
  .tup [.str [102, 97, 114], .str [115, 111, 109, 101], .str [110, 111, 110, 101], .bl false, .bl false, .bl true],
  .tup [.str [110, 101, 97, 114], .str [110, 111, 110, 101], .str [104, 111, 109, 101], .bl false, .bl false, .bl false],
  .tup [.str [110, 101, 97, 114], .str [110, 111, 110, 101], .str [104, 111, 109, 101], .bl false, .bl false, .bl true],
  .tup [.str [110, 101, 97, 114], .str [110, 111, 110, 101], .str [104, 111, 109, 101], .bl false, .bl true, .bl false],
  .tup [.str [110, 101, 97, 114], .str [110, 111, 110, 101], .str [104, 111, 109, 101], .bl false, .bl true, .bl true],
  .tup [.str [110, 101, 97, 114], .str [110, 111, 110, 101], .str [104, 111, 109, 101], .bl true, .bl false, .bl false],
  .tup [.str [110, 101, 97, 114], .str [110, 111, 110, 101], .str [104, 111, 109, 101], .bl true, .bl false, .bl true],
  .tup [.str [110, 101, 97, 114], .str [110, 111, 110, 101], .str [104, 111, 109, 101], .bl true, .bl true, .bl false],
  .tup [.str [110, 101, 97, 114], .str [110, 111, 110, 101], .str [104, 111, 109, 101], .bl true, .bl true, .bl true],
  .tup [.str [110, 101, 97, 114], .str [110, 111, 110, 101], .str [108, 97, 116, 101], .bl true, .bl false, .bl false],
  .tup [.str [110, 101, 97, 114], .str [110, 111, 110, 101], .str [108, 97, 116, 101], .bl true, .bl false, .bl true],
  .tup [.str [110, 101, 97, 114], .str [110, 111, 110, 101], .str [108, 97, 116, 101], .bl true, .bl true, .bl false],
  .tup [.str [110, 101, 97, 114], .str [110, 111, 110, 101], .str [108, 97, 116, 101], .bl true, .bl true, .bl true],
  .tup [.str [110, 101, 97, 114], .str [110, 111, 110, 101], .str [110, 111, 110, 101], .bl false, .bl false, .bl false],
  .tup [.str [110, 101, 97, 114], .str [110, 111, 110, 101], .str [110, 111, 110, 101], .bl false, .bl false, .bl true],
  .tup [.str [110, 101, 97, 114], .str [111, 116, 104, 101, 114], .str [104, 111, 109, 101], .bl false, .bl false, .bl false],
  .tup [.str [110, 101, 97, 114], .str [111, 116, 104, 101, 114], .str [104, 111, 109, 101], .bl false, .bl false, .bl true],
  .tup [.str [110, 101, 97, 114], .str [111, 116, 104, 101, 114], .str [104, 111, 109, 101], .bl false, .bl true, .bl false],
  .tup [.str [110, 101, 97, 114], .str [111, 116, 104, 101, 114], .str [104, 111, 109, 101], .bl false, .bl true, .bl true],
  .tup [.str [110, 101, 97, 114], .str [111, 116, 104, 101, 114], .str [104, 111, 109, 101], .bl true, .bl false, .bl false],
  .tup [.str [110, 101, 97, 114], .str [111, 116, 104, 101, 114], .str [104, 111, 109, 101], .bl true, .bl false, .bl true],
  .tup [.str [110, 101, 97, 114], .str [111, 116, 104, 101, 114], .str [104, 111, 109, 101], .bl true, .bl true, .bl false],
  .tup [.str [110, 101, 97, 114], .str [111, 116, 104, 101, 114], .str [104, 111, 109, 101], .bl true, .bl true, .bl true],
  .tup [.str [110, 101, 97, 114], .str [111, 116, 104, 101, 114], .str [108, 97, 116, 101], .bl true, .bl false, .bl false],
  .tup [.str [110, 101, 97, 114], .str [111, 116, 104, 101, 114], .str [108, 97, 116, 101], .bl true, .bl false, .bl true],
  .tup [.str [110, 101, 97, 114], .str [111, 116, 104, 101, 114], .str [108, 97, 116, 101], .bl true, .bl true, .bl false],
  .tup [.str [110, 101, 97, 114], .str [111, 116, 104, 101, 114], .str [108, 97, 116, 101], .bl true, .bl true, .bl true],
  .tup [.str [110, 101, 97, 114], .str [115, 97, 109, 101], .str [104, 111, 109, 101], .bl false, .bl false, .bl false],
  .tup [.str [110, 101, 97, 114], .str [115, 97, 109, 101], .str [104, 111, 109, 101], .bl false, .bl false, .bl true],
  .tup [.str [110, 101, 97, 114], .str [115, 97, 109, 101], .str [104, 111, 109, 101], .bl false, .bl true, .bl false],
  .tup [.str [110, 101, 97, 114], .str [115, 97, 109, 101], .str [104, 111, 109, 101], .bl false, .bl true, .bl true],
  .tup [.str [110, 101, 97, 114], .str [115, 97, 109, 101], .str [104, 111, 109, 101], .bl true, .bl false, .bl false],
  .tup [.str [110, 101, 97, 114], .str [115, 97, 109, 101], .str [104, 111, 109, 101], .bl true, .bl false, .bl true],
  .tup [.str [110, 101, 97, 114], .str [115, 97, 109, 101], .str [104, 111, 109, 101], .bl true, .bl true, .bl false],
  .tup [.str [110, 101, 97, 114], .str [115, 97, 109, 101], .str [104, 111, 109, 101], .bl true, .bl true, .bl true],
  .tup [.str [110, 101, 97, 114], .str [115, 97, 109, 101], .str [108, 97, 116, 101], .bl true, .bl false, .bl false],
  .tup [.str [110, 101, 97, 114], .str [115, 97, 109, 101], .str [108, 97, 116, 101], .bl true, .bl false, .bl true],
  .tup [.str [110, 101, 97, 114], .str [115, 97, 109, 101], .str [108, 97, 116, 101], .bl true, .bl true, .bl false],
  .tup [.str [110, 101, 97, 114], .str [115, 97, 109, 101], .str [108, 97, 116, 101], .bl true, .bl true, .bl true],
  .tup [.str [110, 101, 97, 114], .str [115, 111, 109, 101], .str [110, 111, 110, 101], .bl false, .bl false, .bl false],
  .tup [.str [110, 101, 97, 114], .str [115, 111, 109, 101], .str [110, 111, 110, 101], .bl false, .bl false, .bl true],
  .tup [.str [111, 118, 101, 114], .str [110, 111, 110, 101], .str [104, 111, 109, 101], .bl false, .bl false, .bl false],
  .tup [.str [111, 118, 101, 114], .str [110, 111, 110, 101], .str [104, 111, 109, 101], .bl false, .bl false, .bl true],
  .tup [.str [111, 118, 101, 114], .str [110, 111, 110, 101], .str [104, 111, 109, 101], .bl false, .bl true, .bl false],
  .tup [.str [111, 118, 101, 114], .str [110, 111, 110, 101], .str [104, 111, 109, 101], .bl false, .bl true, .bl true],
  .tup [.str [111, 118, 101, 114], .str [110, 111, 110, 101], .str [104, 111, 109, 101], .bl true, .bl false, .bl false],
  .tup [.str [111, 118, 101, 114], .str [110, 111, 110, 101], .str [104, 111, 109, 101], .bl true, .bl false, .bl true],
  .tup [.str [111, 118, 101, 114], .str [110, 111, 110, 101], .str [104, 111, 109, 101], .bl true, .bl true, .bl false],
  .tup [.str [111, 118, 101, 114], .str [110, 111, 110, 101], .str [104, 111, 109, 101], .bl true, .bl true, .bl true],
  .tup [.str [111, 118, 101, 114], .str [110, 111, 110, 101], .str [108, 97, 116, 101], .bl true, .bl false, .bl false],
  .tup [.str [111, 118, 101, 114], .str [110, 111, 110, 101], .str [108, 97, 116, 101], .bl true, .bl false, .bl true],
  .tup [.str [111, 118, 101, 114], .str [110, 111, 110, 101], .str [108, 97, 116, 101], .bl true, .bl true, .bl false],
  .tup [.str [111, 118, 101, 114], .str [110, 111, 110, 101], .str [108, 97, 116, 101], .bl true, .bl true, .bl true],
  .tup [.str [111, 118, 101, 114], .str [110, 111, 110, 101], .str [110, 111, 110, 101], .bl false, .bl false, .bl false],
  .tup [.str [111, 118, 101, 114], .str [110, 111, 110, 101], .str [110, 111, 110, 101], .bl false, .bl false, .bl true],
  .tup [.str [111, 118, 101, 114], .str [110, 111, 110, 101], .str [112, 97, 115, 116], .bl true, .bl false, .bl false],
  .tup [.str [111, 118, 101, 114], .str [110, 111, 110, 101], .str [112, 97, 115, 116], .bl true, .bl false, .bl true],
  .tup [.str [111, 118, 101, 114], .str [110, 111, 110, 101], .str [112, 97, 115, 116], .bl true, .bl true, .bl false],
  .tup [.str [111, 118, 101, 114], .str [110, 111, 110, 101], .str [112, 97, 115, 116], .bl true, .bl true, .bl true],
  .tup [.str [111, 118, 101, 114], .str [111, 116, 104, 101, 114], .str [104, 111, 109, 101], .bl false, .bl false, .bl false],
  .tup [.str [111, 118, 101, 114], .str [111, 116, 104, 101, 114], .str [104, 111, 109, 101], .bl false, .bl false, .bl true],
  .tup [.str [111, 118, 101, 114], .str [111, 116, 104, 101, 114], .str [104, 111, 109, 101], .bl false, .bl true, .bl false],
  .tup [.str [111, 118, 101, 114], .str [111, 116, 104, 101, 114], .str [104, 111, 109, 101], .bl false, .bl true, .bl true],
  .tup [.str [111, 118, 101, 114], .str [111, 116, 104, 101, 114], .str [104, 111, 109, 101], .bl true, .bl false, .bl false],
  .tup [.str [111, 118, 101, 114], .str [111, 116, 104, 101, 114], .str [104, 111, 109, 101], .bl true, .bl false, .bl true],
  .tup [.str [111, 118, 101, 114], .str [111, 116, 104, 101, 114], .str [104, 111, 109, 101], .bl true, .bl true, .bl false],
  .tup [.str [111, 118, 101, 114], .str [111, 116, 104, 101, 114], .str [104, 111, 109, 101], .bl true, .bl true, .bl true],
  .tup [.str [111, 118, 101, 114], .str [111, 116, 104, 101, 114], .str [108, 97, 116, 101], .bl true, .bl false, .bl false],
  .tup [.str [111, 118, 101, 114], .str [111, 116, 104, 101, 114], .str [108, 97, 116, 101], .bl true, .bl false, .bl true],
  .tup [.str [111, 118, 101, 114], .str [111, 116, 104, 101, 114], .str [108, 97, 116, 101], .bl true, .bl true, .bl false],
  .tup [.str [111, 118, 101, 114], .str [111, 116, 104, 101, 114], .str [108, 97, 116, 101], .bl true, .bl true, .bl true],
  .tup [.str [111, 118, 101, 114], .str [111, 116, 104, 101, 114], .str [112, 97, 115, 116], .bl true, .bl false, .bl false],
  .tup [.str [111, 118, 101, 114], .str [111, 116, 104, 101, 114], .str [112, 97, 115, 116], .bl true, .bl false, .bl true],
  .tup [.str [111, 118, 101, 114], .str [111, 116, 104, 101, 114], .str [112, 97, 115, 116], .bl true, .bl true, .bl false],
  .tup [.str [111, 118, 101, 114], .str [111, 116, 104, 101, 114], .str [112, 97, 115, 116], .bl true, .bl true, .bl true],
  .tup [.str [111, 118, 101, 114], .str [115, 97, 109, 101], .str [104, 111, 109, 101], .bl false, .bl false, .bl false],
  .tup [.str [111, 118, 101, 114], .str [115, 97, 109, 101], .str [104, 111, 109, 101], .bl false, .bl false, .bl true],
  .tup [.str [111, 118, 101, 114], .str [115, 97, 109, 101], .str [104, 111, 109, 101], .bl false, .bl true, .bl false],
  .tup [.str [111, 118, 101, 114], .str [115, 97, 109, 101], .str [104, 111, 109, 101], .bl false, .bl true, .bl true],
  .tup [.str [111, 118, 101, 114], .str [115, 97, 109, 101], .str [104, 111, 109, 101], .bl true, .bl false, .bl false],
  .tup [.str [111, 118, 101, 114], .str [115, 97, 109, 101], .str [104, 111, 109, 101], .bl true, .bl false, .bl true],
  .tup [.str [111, 118, 101, 114], .str [115, 97, 109, 101], .str [104, 111, 109, 101], .bl true, .bl true, .bl false],
  .tup [.str [111, 118, 101, 114], .str [115, 97, 109, 101], .str [104, 111, 109, 101], .bl true, .bl true, .bl true],
  .tup [.str [111, 118, 101, 114], .str [115, 97, 109, 101], .str [108, 97, 116, 101], .bl true, .bl false, .bl false],
  .tup [.str [111, 118, 101, 114], .str [115, 97, 109, 101], .str [108, 97, 116, 101], .bl true, .bl false, .bl true],
  .tup [.str [111, 118, 101, 114], .str [115, 97, 109, 101], .str [108, 97, 116, 101], .bl true, .bl true, .bl false],
  .tup [.str [111, 118, 101, 114], .str [115, 97, 109, 101], .str [108, 97, 116, 101], .bl true, .bl true, .bl true],
  .tup [.str [111, 118, 101, 114], .str [115, 97, 109, 101], .str [112, 97, 115, 116], .bl true, .bl false, .bl false],
  .tup [.str [111, 118, 101, 114], .str [115, 97, 109, 101], .str [112, 97, 115, 116], .bl true, .bl false, .bl true],
  .tup [.str [111, 118, 101, 114], .str [115, 97, 109, 101], .str [112, 97, 115, 116], .bl true, .bl true, .bl false],
  .tup [.str [111, 118, 101, 114], .str [115, 97, 109, 101], .str [112, 97, 115, 116], .bl true, .bl true, .bl true],
  .tup [.str [111, 118, 101, 114], .str [115, 111, 109, 101], .str [110, 111, 110, 101], .bl false, .bl false, .bl false],
  .tup [.str [111, 118, 101, 114], .str [115, 111, 109, 101], .str [110, 111, 110, 101], .bl false, .bl false, .bl true]]
def worlds1 : List D := [.tup [.str [102, 97, 114], .str [110, 111, 110, 101], .str [110, 111, 110, 101], .bl false, .bl false, .bl false],
  .tup [.str [102, 97, 114], .str [110, 111, 110, 101], .str [110, 111, 110, 101], .bl false, .bl false, .bl true],
  .tup [.str [102, 97, 114], .str [115, 111, 109, 101], .str [110, 111, 110, 101], .bl false, .bl false, .bl false],
  .tup [.str [102, 97, 114], .str [115, 111, 109, 101], .str [110, 111, 110, 101], .bl false, .bl false, .bl true],
  .tup [.str [110, 101, 97, 114], .str [110, 111, 110, 101], .str [101, 97, 114, 108, 121], .bl true, .bl false, .bl false],
  .tup [.str [110, 101, 97, 114], .str [110, 111, 110, 101], .str [101, 97, 114, 108, 121], .bl true, .bl false, .bl true],
  .tup [.str [110, 101, 97, 114], .str [110, 111, 110, 101], .str [101, 97, 114, 108, 121], .bl true, .bl true, .bl false],
  .tup [.str [110, 101, 97, 114], .str [110, 111, 110, 101], .str [101, 97, 114, 108, 121], .bl true, .bl true, .bl true],
  .tup [.str [110, 101, 97, 114], .str [110, 111, 110, 101], .str [104, 111, 109, 101], .bl false, .bl false, .bl false],
  .tup [.str [110, 101, 97, 114], .str [110, 111, 110, 101], .str [104, 111, 109, 101], .bl false, .bl false, .bl true],
  .tup [.str [110, 101, 97, 114], .str [110, 111, 110, 101], .str [104, 111, 109, 101], .bl false, .bl true, .bl false],
  .tup [.str [110, 101, 97, 114], .str [110, 111, 110, 101], .str [104, 111, 109, 101], .bl false, .bl true, .bl true],
  .tup [.str [110, 101, 97, 114], .str [110, 111, 110, 101], .str [104, 111, 109, 101], .bl true, .bl false, .bl false],
  .tup [.str [110, 101, 97, 114], .str [110, 111, 110, 101], .str [104, 111, 109, 101], .bl true, .bl false, .bl true],
  .tup [.str [110, 101, 97, 114], .str [110, 111, 110, 101], .str [104, 111, 109, 101], .bl true, .bl true, .bl false],
  .tup [.str [110, 101, 97, 114], .str [110, 111, 110, 101], .str [104, 111, 109, 101], .bl true, .bl true, .bl true],
  .tup [.str [110, 101, 97, 114], .str [110, 111, 110, 101], .str [108, 97, 116, 101], .bl true, .bl false, .bl false],
  .tup [.str [110, 101, 97, 114], .str [110, 111, 110, 101], .str [108, 97, 116, 101], .bl true, .bl false, .bl true],
  .tup [.str [110, 101, 97, 114], .str [110, 111, 110, 101], .str [108, 97, 116, 101], .bl true, .bl true, .bl false],
  .tup [.str [110, 101, 97, 114], .str [110, 111, 110, 101], .str [108, 97, 116, 101], .bl true, .bl true, .bl true],
  .tup [.str [110, 101, 97, 114], .str [110, 111, 110, 101], .str [110, 111, 110, 101], .bl false, .bl false, .bl false],
  .tup [.str [110, 101, 97, 114], .str [110, 111, 110, 101], .str [110, 111, 110, 101], .bl false, .bl false, .bl true],
  .tup [.str [110, 101, 97, 114], .str [110, 111, 110, 101], .str [112, 97, 115, 116], .bl true, .bl false, .bl false],
  .tup [.str [110, 101, 97, 114], .str [110, 111, 110, 101], .str [112, 97, 115, 116], .bl true, .bl false, .bl true],
  .tup [.str [110, 101, 97, 114], .str [110, 111, 110, 101], .str [112, 97, 115, 116], .bl true, .bl true, .bl false],
  .tup [.str [110, 101, 97, 114], .str [110, 111, 110, 101], .str [112, 97, 115, 116], .bl true, .bl true, .bl true],
  .tup [.str [110, 101, 97, 114], .str [111, 116, 104, 101, 114], .str [101, 97, 114, 108, 121], .bl true, .bl false, .bl false],
  .tup [.str [110, 101, 97, 114], .str [111, 116, 104, 101, 114], .str [101, 97, 114, 108, 121], .bl true, .bl false, .bl true],
  .tup [.str [110, 101, 97, 114], .str [111, 116, 104, 101, 114], .str [101, 97, 114, 108, 121], .bl true, .bl true, .bl false],
  .tup [.str [110, 101, 97, 114], .str [111, 116, 104, 101, 114], .str [101, 97, 114, 108, 121], .bl true, .bl true, .bl true],
  .tup [.str [110, 101, 97, 114], .str [111, 116, 104, 101, 114], .str [104, 111, 109, 101], .bl false, .bl false, .bl false],
  .tup [.str [110, 101, 97, 114], .str [111, 116, 104, 101, 114], .str [104, 111, 109, 101], .bl false, .bl false, .bl true],
  .tup [.str [110, 101, 97, 114], .str [111, 116, 104, 101, 114], .str [104, 111, 109, 101], .bl false, .bl true, .bl false],
  .tup [.str [110, 101, 97, 114], .str [111, 116, 104, 101, 114], .str [104, 111, 109, 101], .bl false, .bl true, .bl true],
  .tup [.str [110, 101, 97, 114], .str [111, 116, 104, 101, 114], .str [104, 111, 109, 101], .bl true, .bl false, .bl false],
  .tup [.str [110, 101, 97, 114], .str [111, 116, 104, 101, 114], .str [104, 111, 109, 101], .bl true, .bl false, .bl true],
  .tup [.str [110, 101, 97, 114], .str [111, 116, 104, 101, 114], .str [104, 111, 109, 101], .bl true, .bl true, .bl false],
  .tup [.str [110, 101, 97, 114], .str [111, 116, 104, 101, 114], .str [104, 111, 109, 101], .bl true, .bl true, .bl true],
  .tup [.str [110, 101, 97, 114], .str [111, 116, 104, 101, 114], .str [108, 97, 116, 101], .bl true, .bl false, .bl false],
  .tup [.str [110, 101, 97, 114], .str [111, 116, 104, 101, 114], .str [108, 97, 116, 101], .bl true, .bl false, .bl true],
  .tup [.str [110, 101, 97, 114], .str [111, 116, 104, 101, 114], .str [108, 97, 116, 101], .bl true, .bl true, .bl false],
  .tup [.str [110, 101, 97, 114], .str [111, 116, 104, 101, 114], .str [108, 97, 116, 101], .bl true, .bl true, .bl true],
  .tup [.str [110, 101, 97, 114], .str [111, 116, 104, 101, 114], .str [112, 97, 115, 116], .bl true, .bl false, .bl false],
  .tup [.str [110, 101, 97, 114], .str [111, 116, 104, 101, 114], .str [112, 97, 115, 116], .bl true, .bl false, .bl true],
  .tup [.str [110, 101, 97, 114], .str [111, 116, 104, 101, 114], .str [112, 97, 115, 116], .bl true, .bl true, .bl false],
  .tup [.str [110, 101, 97, 114], .str [111, 116, 104, 101, 114], .str [112, 97, 115, 116], .bl true, .bl true, .bl true],
  .tup [.str [110, 101, 97, 114], .str [115, 97, 109, 101], .str [101, 97, 114, 108, 121], .bl true, .bl false, .bl false],
  .tup [.str [110, 101, 97, 114], .str [115, 97, 109, 101], .str [101, 97, 114, 108, 121], .bl true, .bl false, .bl true],
  .tup [.str [110, 101, 97, 114], .str [115, 97, 109, 101], .str [101, 97, 114, 108, 121], .bl true, .bl true, .bl false],
  .tup [.str [110, 101, 97, 114], .str [115, 97, 109, 101], .str [101, 97, 114, 108, 121], .bl true, .bl true, .bl true],
  .tup [.str [110, 101, 97, 114], .str [115, 97, 109, 101], .str [104, 111, 109, 101], .bl false, .bl false, .bl false],
  .tup [.str [110, 101, 97, 114], .str [115, 97, 109, 101], .str [104, 111, 109, 101], .bl false, .bl false, .bl true],
  .tup [.str [110, 101, 97, 114], .str [115, 97, 109, 101], .str [104, 111, 109, 101], .bl false, .bl true, .bl false],
  .tup [.str [110, 101, 97, 114], .str [115, 97, 109, 101], .str [104, 111, 109, 101], .bl false, .bl true, .bl true],
  .tup [.str [110, 101, 97, 114], .str [115, 97, 109, 101], .str [104, 111, 109, 101], .bl true, .bl false, .bl false],
  .tup [.str [110, 101, 97, 114], .str [115, 97, 109, 101], .str [104, 111, 109, 101], .bl true, .bl false, .bl true],
  .tup [.str [110, 101, 97, 114], .str [115, 97, 109, 101], .str [104, 111, 109, 101], .bl true, .bl true, .bl false],
  .tup [.str [110, 101, 97, 114], .str [115, 97, 109, 101], .str [104, 111, 109, 101], .bl true, .bl true, .bl true],
  .tup [.str [110, 101, 97, 114], .str [115, 97, 109, 101], .str [108, 97, 116, 101], .bl true, .bl false, .bl false],
  .tup [.str [110, 101, 97, 114], .str [115, 97, 109, 101], .str [108, 97, 116, 101], .bl true, .bl false, .bl true],
  .tup [.str [110, 101, 97, 114], .str [115, 97, 109, 101], .str [108, 97, 116, 101], .bl true, .bl true, .bl false],
  .tup [.str [110, 101, 97, 114], .str [115, 97, 109, 101], .str [108, 97, 116, 101], .bl true, .bl true, .bl true],
  .tup [.str [110, 101, 97, 114], .str [115, 97, 109, 101], .str [112, 97, 115, 116], .bl true, .bl false, .bl false],
  .tup [.str [110, 101, 97, 114], .str [115, 97, 109, 101], .str [112, 97, 115, 116], .bl true, .bl false, .bl true],
  .tup [.str [110, 101, 97, 114], .str [115, 97, 109, 101], .str [112, 97, 115, 116], .bl true, .bl true, .bl false],
  .tup [.str [110, 101, 97, 114], .str [115, 97, 109, 101], .str [112, 97, 115, 116], .bl true, .bl true, .bl true],
  .tup [.str [110, 101, 97, 114], .str [115, 111, 109, 101], .str [110, 111, 110, 101], .bl false, .bl false, .bl false],
  .tup [.str [110, 101, 97, 114], .str [115, 111, 109, 101], .str [110, 111, 110, 101], .bl false, .bl false, .bl true],
  .tup [.str [111, 118, 101, 114], .str [110, 111, 110, 101], .str [104, 111, 109, 101], .bl false, .bl false, .bl false],
  .tup [.str [111, 118, 101, 114], .str [110, 111, 110, 101], .str [104, 111, 109, 101], .bl false, .bl false, .bl true],
  .tup [.str [111, 118, 101, 114], .str [110, 111, 110, 101], .str [104, 111, 109, 101], .bl false, .bl true, .bl false],
  .tup [.str [111, 118, 101, 114], .str [110, 111, 110, 101], .str [104, 111, 109, 101], .bl false, .bl true, .bl true],
  .tup [.str [111, 118, 101, 114], .str [110, 111, 110, 101], .str [104, 111, 109, 101], .bl true, .bl false, .bl false],
  .tup [.str [111, 118, 101, 114], .str [110, 111, 110, 101], .str [104, 111, 109, 101], .bl true, .bl false, .bl true],
  .tup [.str [111, 118, 101, 114], .str [110, 111, 110, 101], .str [104, 111, 109, 101], .bl true, .bl true, .bl false],
  .tup [.str [111, 118, 101, 114], .str [110, 111, 110, 101], .str [104, 111, 109, 101], .bl true, .bl true, .bl true],
  .tup [.str [111, 118, 101, 114], .str [110, 111, 110, 101], .str [108, 97, 116, 101], .bl true, .bl false, .bl false],
  .tup [.str [111, 118, 101, 114], .str [110, 111, 110, 101], .str [108, 97, 116, 101], .bl true, .bl false, .bl true],
  .tup [.str [111, 118, 101, 114], .str [110, 111, 110, 101], .str [108, 97, 116, 101], .bl true, .bl true, .bl false],
  .tup [.str [111, 118, 101, 114], .str [110, 111, 110, 101], .str [108, 97, 116, 101], .bl true, .bl true, .bl true],
  .tup [.str [111, 118, 101, 114], .str [110, 111, 110, 101], .str [110, 111, 110, 101], .bl false, .bl false, .bl false],
  .tup [.str [111, 118, 101, 114], .str [110, 111, 110, 101], .str [110, 111, 110, 101], .bl false, .bl false, .bl true],
  .tup [.str [111, 118, 101, 114], .str [110, 111, 110, 101], .str [112, 97, 115, 116], .bl true, .bl false, .bl false],
  .tup [.str [111, 118, 101, 114], .str [110, 111, 110, 101], .str [112, 97, 115, 116], .bl true, .bl false, .bl true],
  .tup [.str [111, 118, 101, 114], .str [110, 111, 110, 101], .str [112, 97, 115, 116], .bl true, .bl true, .bl false],
  .tup [.str [111, 118, 101, 114], .str [110, 111, 110, 101], .str [112, 97, 115, 116], .bl true, .bl true, .bl true],
  .tup [.str [111, 118, 101, 114], .str [111, 116, 104, 101, 114], .str [104, 111, 109, 101], .bl false, .bl false, .bl false],
  .tup [.str [111, 118, 101, 114], .str [111, 116, 104, 101, 114], .str [104, 111, 109, 101], .bl false, .bl false, .bl true],
  .tup [.str [111, 118, 101, 114], .str [111, 116, 104, 101, 114], .str [104, 111, 109, 101], .bl false, .bl true, .bl false],
  .tup [.str [111, 118, 101, 114], .str [111, 116, 104, 101, 114], .str [104, 111, 109, 101], .bl false, .bl true, .bl true],
  .tup [.str [111, 118, 101, 114], .str [111, 116, 104, 101, 114], .str [104, 111, 109, 101], .bl true, .bl false, .bl false],
  .tup [.str [111, 118, 101, 114], .str [111, 116, 104, 101, 114], .str [104, 111, 109, 101], .bl true, .bl false, .bl true],
  .tup [.str [111, 118, 101, 114], .str [111, 116, 104, 101, 114], .str [104, 111, 109, 101], .bl true, .bl true, .bl false],
  .tup [.str [111, 118, 101, 114], .str [111, 116, 104, 101, 114], .str [104, 111, 109, 101], .bl true, .bl true, .bl true],
  .tup [.str [111, 118, 101, 114], .str [111, 116, 104, 101, 114], .str [108, 97, 116, 101], .bl true, .bl false, .bl false],
  .tup [.str [111, 118, 101, 114], .str [111, 116, 104, 101, 114], .str [108, 97, 116, 101], .bl true, .bl false, .bl true],
  .tup [.str [111, 118, 101, 114], .str [111, 116, 104, 101, 114], .str [108, 97, 116, 101], .bl true, .bl true, .bl false],
  .tup [.str [111, 118, 101, 114], .str [111, 116, 104, 101, 114], .str [108, 97, 116, 101], .bl true, .bl true, .bl true],
  .tup [.str [111, 118, 101, 114], .str [111, 116, 104, 101, 114], .str [112, 97, 115, 116], .bl true, .bl false, .bl false],
  .tup [.str [111, 118, 101, 114], .str [111, 116, 104, 101, 114], .str [112, 97, 115, 116], .bl true, .bl false, .bl true],
  .tup [.str [111, 118, 101, 114], .str [111, 116, 104, 101, 114], .str [112, 97, 115, 116], .bl true, .bl true, .bl false],
  .tup [.str [111, 118, 101, 114], .str [111, 116, 104, 101, 114], .str [112, 97, 115, 116], .bl true, .bl true, .bl true],
  .tup [.str [111, 118, 101, 114], .str [115, 97, 109, 101], .str [104, 111, 109, 101], .bl false, .bl false, .bl false],
  .tup [.str [111, 118, 101, 114], .str [115, 97, 109, 101], .str [104, 111, 109, 101], .bl false, .bl false, .bl true],
  .tup [.str [111, 118, 101, 114], .str [115, 97, 109, 101], .str [104, 111, 109, 101], .bl false, .bl true, .bl false],
  .tup [.str [111, 118, 101, 114], .str [115, 97, 109, 101], .str [104, 111, 109, 101], .bl false, .bl true, .bl true],
  .tup [.str [111, 118, 101, 114], .str [115, 97, 109, 101], .str [104, 111, 109, 101], .bl true, .bl false, .bl false],
  .tup [.str [111, 118, 101, 114], .str [115, 97, 109, 101], .str [104, 111, 109, 101], .bl true, .bl false, .bl true],
  .tup [.str [111, 118, 101, 114], .str [115, 97, 109, 101], .str [104, 111, 109, 101], .bl true, .bl true, .bl false],
  .tup [.str [111, 118, 101, 114], .str [115, 97, 109, 101], .str [104, 111, 109, 101], .bl true, .bl true, .bl true],
  .tup [.str [111, 118, 101, 114], .str [115, 97, 109, 101], .str [108, 97, 116, 101], .bl true, .bl false, .bl false],
  .tup [.str [111, 118, 101, 114], .str [115, 97, 109, 101], .str [108, 97, 116, 101], .bl true, .bl false, .bl true],
  .tup [.str [111, 118, 101, 114], .str [115, 97, 109, 101], .str [108, 97, 116, 101], .bl true, .bl true, .bl false],
  .tup [.str [111, 118, 101, 114], .str [115, 97, 109, 101], .str [108, 97, 116, 101], .bl true, .bl true, .bl true],
  .tup [.str [111, 118, 101, 114], .str [115, 97, 109, 101], .str [112, 97, 115, 116], .bl true, .bl false, .bl false],
  .tup [.str [111, 118, 101, 114], .str [115, 97, 109, 101], .str [112, 97, 115, 116], .bl true, .bl false, .bl true],
  .tup [.str [111, 118, 101, 114], .str [115, 97, 109, 101], .str [112, 97, 115, 116], .bl true, .bl true, .bl false],
  .tup [.str [111, 118, 101, 114], .str [115, 97, 109, 101], .str [112, 97, 115, 116], .bl true, .bl true, .bl true],
  .tup [.str [111, 118, 101, 114], .str [115, 111, 109, 101], .str [110, 111, 110, 101], .bl false, .bl false, .bl false],
  .tup [.str [111, 118, 101, 114], .str [115, 111, 109, 101], .str [110, 111, 110, 101], .bl false, .bl false, .bl true]]
def begun : List D := [.tup [.str [102, 97, 114], .str [110, 111, 110, 101], .str [110, 111, 110, 101], .bl false, .bl false, .bl false],
  .tup [.str [102, 97, 114], .str [115, 111, 109, 101], .str [110, 111, 110, 101], .bl false, .bl false, .bl false],
  .tup [.str [110, 101, 97, 114], .str [110, 111, 110, 101], .str [110, 111, 110, 101], .bl false, .bl false, .bl false],
  .tup [.str [110, 101, 97, 114], .str [115, 111, 109, 101], .str [110, 111, 110, 101], .bl false, .bl false, .bl false],
  .tup [.str [111, 118, 101, 114], .str [110, 111, 110, 101], .str [110, 111, 110, 101], .bl false, .bl false, .bl false],
  .tup [.str [111, 118, 101, 114], .str [115, 111, 109, 101], .str [110, 111, 110, 101], .bl false, .bl false, .bl false]]
theorem all0 (n : Nat) : outL (run pg (n + 1) 0 [.int 0] []) = some worlds0 := by kernel_rfl
theorem all1 (n m : Nat) : outL (run pg (n + 1) 0 [.int (Int.ofNat (m + 1))] []) = some worlds1 := by kernel_rfl
theorem beg (n : Nat) : outL (run pg (n + 2) 1 [] []) = some begun := by kernel_rfl
theorem due0 (n : Nat) : outL (run pg (n + 2) 6 [.int 0] []) = some worlds0 := by kernel_rfl
theorem due1 (n m : Nat) : outL (run pg (n + 2) 6 [.int (Int.ofNat (m + 1))] []) = some worlds1 := by kernel_rfl
end Vm.k53

namespace Vm.k53
open PySem L2 Vm
/-! The walk of law_k53_worlds_listed. -/
def top (i : Nat) : Stmt := PySem.Challenge.pw_madeahead_k53_worlds_listed.main.body.getD i (.Pass ⟨0, 0, 0, 0⟩)
def zz (K : PySem.W.Frag) : Zz := { K := K, ca := fun _ => 0, nm := fun _ => "" }
abbrev t_all_worlds : Stmt := top 2
abbrev p_all_worlds : List Str := ["ahead"]
abbrev n_all_worlds : List Str := ["ahead", "found", "is_cancelled", "phase", "rule", "places", "place", "touched", "booked"]
abbrev t_starts : Stmt := top 3
abbrev p_starts : List Str := []
abbrev n_starts : List Str := ["world"]
abbrev t__law_bag : Stmt := top 5
abbrev p__law_bag : List Str := ["_law_script", "_law_place"]
abbrev n__law_bag : List Str := ["_law_script", "_law_place", "_law_cell", "_law_digits"]
abbrev t__law_pick : Stmt := top 6
abbrev p__law_pick : List Str := ["_law_bag_here", "_law_many"]
abbrev n__law_pick : List Str := ["_law_bag_here", "_law_many", "_law_digit", "_law_mixed"]
abbrev t__law_of : Stmt := top 7
abbrev p__law_of : List Str := ["_law_bag_here", "_law_some"]
abbrev n__law_of : List Str := ["_law_bag_here", "_law_some"]
abbrev t__law_can : Stmt := top 8
abbrev p__law_can : List Str := ["_law_world", "_law_reach"]
abbrev n__law_can : List Str := ["_law_world", "_law_reach", "_law_phase", "_law_rule", "_law_place", "_law_touched", "_law_booked", "_law_gone"]
abbrev t__law_due : Stmt := top 9
abbrev p__law_due : List Str := ["_law_reach"]
abbrev n__law_due : List Str := ["_law_reach", "_law_found", "_law_pairs", "_law_phase", "_law_rule", "_law_place", "_law_touched", "_law_some", "_law_pair", "_law_world"]
abbrev t__law_kinds_right : Stmt := top 10
abbrev p__law_kinds_right : List Str := ["_law_told"]
abbrev n__law_kinds_right : List Str := ["_law_told", "_law_world", "_law_part"]
abbrev t_law : Stmt := top 11
abbrev p_law : List Str := ["_law_script"]
abbrev n_law : List Str := ["_law_script", "_law_place", "_law_bag_here", "_law_reach", "_law_other", "_law_held", "_law_kept", "_law_told", "_law_begun", "_law_world"]
structure Ad where
  a_all_worlds : Addr
  d_all_worlds : FuncData
  a_starts : Addr
  d_starts : FuncData
  a__law_bag : Addr
  d__law_bag : FuncData
  a__law_pick : Addr
  d__law_pick : FuncData
  a__law_of : Addr
  d__law_of : FuncData
  a__law_can : Addr
  d__law_can : FuncData
  a__law_due : Addr
  d__law_due : FuncData
  a__law_kinds_right : Addr
  d__law_kinds_right : FuncData
  a_law : Addr
  d_law : FuncData
structure Tx (K : PySem.W.Frag) (mg : Str → Option Value) (D : Ad) : Prop where
  m_all_worlds : mg "all_worlds" = some (.ref D.a_all_worlds)
  k_all_worlds : PySem.W.keepIn K (.ref D.a_all_worlds) = true
  f_all_worlds : Fun K "all_worlds" "all_worlds" t_all_worlds D.a_all_worlds D.d_all_worlds
  b_all_worlds : Binds K D.d_all_worlds p_all_worlds []
  m_starts : mg "starts" = some (.ref D.a_starts)
  k_starts : PySem.W.keepIn K (.ref D.a_starts) = true
  f_starts : Fun K "starts" "starts" t_starts D.a_starts D.d_starts
  b_starts : Binds K D.d_starts p_starts []
  m__law_bag : mg "_law_bag" = some (.ref D.a__law_bag)
  k__law_bag : PySem.W.keepIn K (.ref D.a__law_bag) = true
  f__law_bag : Fun K "_law_bag" "_law_bag" t__law_bag D.a__law_bag D.d__law_bag
  b__law_bag : Binds K D.d__law_bag p__law_bag []
  m__law_pick : mg "_law_pick" = some (.ref D.a__law_pick)
  k__law_pick : PySem.W.keepIn K (.ref D.a__law_pick) = true
  f__law_pick : Fun K "_law_pick" "_law_pick" t__law_pick D.a__law_pick D.d__law_pick
  b__law_pick : Binds K D.d__law_pick p__law_pick []
  m__law_of : mg "_law_of" = some (.ref D.a__law_of)
  k__law_of : PySem.W.keepIn K (.ref D.a__law_of) = true
  f__law_of : Fun K "_law_of" "_law_of" t__law_of D.a__law_of D.d__law_of
  b__law_of : Binds K D.d__law_of p__law_of []
  m__law_can : mg "_law_can" = some (.ref D.a__law_can)
  k__law_can : PySem.W.keepIn K (.ref D.a__law_can) = true
  f__law_can : Fun K "_law_can" "_law_can" t__law_can D.a__law_can D.d__law_can
  b__law_can : Binds K D.d__law_can p__law_can []
  m__law_due : mg "_law_due" = some (.ref D.a__law_due)
  k__law_due : PySem.W.keepIn K (.ref D.a__law_due) = true
  f__law_due : Fun K "_law_due" "_law_due" t__law_due D.a__law_due D.d__law_due
  b__law_due : Binds K D.d__law_due p__law_due []
  m__law_kinds_right : mg "_law_kinds_right" = some (.ref D.a__law_kinds_right)
  k__law_kinds_right : PySem.W.keepIn K (.ref D.a__law_kinds_right) = true
  f__law_kinds_right : Fun K "_law_kinds_right" "_law_kinds_right" t__law_kinds_right D.a__law_kinds_right D.d__law_kinds_right
  b__law_kinds_right : Binds K D.d__law_kinds_right p__law_kinds_right []
  m_law : mg "law" = some (.ref D.a_law)
  k_law : PySem.W.keepIn K (.ref D.a_law) = true
  f_law : Fun K "law" "law" t_law D.a_law D.d_law
  b_law : Binds K D.d_law p_law []
  bk_all_worlds_0_ahead : BK K D.d_all_worlds p_all_worlds 0 ["ahead"] [.inl 0]
  n_abs : mg "abs" = none
  n_all : mg "all" = none
  n_bool : mg "bool" = none
  n_int : mg "int" = none
  n_isinstance : mg "isinstance" = none
  n_len : mg "len" = none
  n_list : mg "list" = none
  n_max : mg "max" = none
  n_min : mg "min" = none
  n_range : mg "range" = none
  n_sorted : mg "sorted" = none
  n_str : mg "str" = none
  n_tuple : mg "tuple" = none
  g_FLAGS : GK K mg "FLAGS" (.tup [(.bl false), (.bl true)])
section
variable {P : Program} {w : World} {K : PySem.W.Frag} {mg : Str → Option Value} {base : Heap} {D : Ad} {n : Nat}
structure All (P : Program) (w : World) (K : PySem.W.Frag) (mg : Str → Option Value) (base : Heap) (D : Ad) (n : Nat) : Prop where
  o_all_worlds : FnOk P w K mg base (L2.CX P w) (2 * n) D.a_all_worlds D.d_all_worlds p_all_worlds (spF (zz K) pg n 0)
  o_starts : FnOk P w K mg base (L2.CX P w) (2 * n) D.a_starts D.d_starts p_starts (spF (zz K) pg n 1)
  o__law_bag : FnOk P w K mg base (L2.CX P w) (2 * n) D.a__law_bag D.d__law_bag p__law_bag (spF (zz K) pg n 2)
  o__law_pick : FnOk P w K mg base (L2.CX P w) (2 * n) D.a__law_pick D.d__law_pick p__law_pick (spF (zz K) pg n 3)
  o__law_of : FnOk P w K mg base (L2.CX P w) (2 * n) D.a__law_of D.d__law_of p__law_of (spF (zz K) pg n 4)
  o__law_can : FnOk P w K mg base (L2.CX P w) (2 * n) D.a__law_can D.d__law_can p__law_can (spF (zz K) pg n 5)
  o__law_due : FnOk P w K mg base (L2.CX P w) (2 * n) D.a__law_due D.d__law_due p__law_due (spF (zz K) pg n 6)
  o__law_kinds_right : FnOk P w K mg base (L2.CX P w) (2 * n) D.a__law_kinds_right D.d__law_kinds_right p__law_kinds_right (spF (zz K) pg n 7)
  o_law : FnOk P w K mg base (L2.CX P w) (2 * n) D.a_law D.d_law p_law (spF (zz K) pg n 8)
theorem w_all_worlds (T : Tx K mg D) (A : All P w K mg base D n) : FnOk P w K mg base (L2.CX P w) (2 * (n + 1)) D.a_all_worlds D.d_all_worlds p_all_worlds (spF (zz K) pg (n + 1) 0) := by
  have sc : FnScope n_all_worlds p_all_worlds (defScope t_all_worlds) := scL_ok (by decide +kernel)
  refine Fun.okX (k := 2 * n + 1) (N := n_all_worlds) T.f_all_worlds sc (spF_len (F := f_all_worlds) rfl) fun cdv A0 outer s H vs Q E hr h => ⟨_, ?_, spF_body (F := f_all_worlds) rfl rfl (by decide) h⟩
  have tk := takes_of (X := cxOf (L2.CX P w) P w K mg base n_all_worlds "all_worlds" (defScope t_all_worlds) D.a_all_worlds cdv A0 outer s H E) rfl rfl rfl rfl
  show PSs (cxOf (L2.CX P w) P w K mg base n_all_worlds "all_worlds" (defScope t_all_worlds) D.a_all_worlds cdv A0 outer s H E) (defBody t_all_worlds) (rdS (zz K) pg (run pg n) (fun cls d _ H2 => E cls d H2) c_all_worlds )
  exact (s_cons (s_n 1 sc.nd (v_lst v_anil))
    (s_cons (s_for (passes_of rfl) rfl (i_val rfl (v_glx (by rfl) T.g_FLAGS (by rfl))) (g_n 2 sc.nd) (s_one (s_for (passes_of rfl) rfl (i_val rfl (v_tup (v_acons (v_str (by decide +kernel)) (v_acons (v_str (by decide +kernel)) (v_acons (v_str (by decide +kernel)) v_anil))))) (g_n 3 sc.nd) (s_one (s_for (passes_of rfl) rfl (i_val rfl (v_tup (v_acons (v_str (by decide +kernel)) (v_acons (v_str (by decide +kernel)) v_anil)))) (g_n 4 sc.nd) (s_one (s_exp (v_btm PySem.F.plainAttrs_list (rcv_list rfl fun _ _ => rfl) PySem.F.slot_list_append PySem.F.type_list_append mb_append (v_v 1) (v_acons (v_tup (v_acons (v_v 3) (v_acons (v_v 4) (v_acons (v_str (by decide +kernel)) (v_acons v_bl (v_acons v_bl (v_acons (v_v 2) v_anil))))))) v_anil)))))))))
    (s_cons (s_n 5 sc.nd (v_lst (v_acons (v_tup (v_acons (v_str (by decide +kernel)) (v_acons (v_str (by decide +kernel)) v_anil))) (v_acons (v_tup (v_acons (v_str (by decide +kernel)) (v_acons (v_str (by decide +kernel)) v_anil))) (v_acons (v_tup (v_acons (v_str (by decide +kernel)) (v_acons (v_str (by decide +kernel)) v_anil))) (v_acons (v_tup (v_acons (v_str (by decide +kernel)) (v_acons (v_str (by decide +kernel)) v_anil))) (v_acons (v_tup (v_acons (v_str (by decide +kernel)) (v_acons (v_str (by decide +kernel)) v_anil))) v_anil)))))))
    (s_cons (s_if (t_cmp rfl (hu65 hr) (v_v 0) v_int (nomark _)) (s_one (s_n 5 sc.nd (v_bin rfl rfl (v_v 5) (v_lst (v_acons (v_tup (v_acons (v_str (by decide +kernel)) (v_acons (v_str (by decide +kernel)) v_anil))) (v_acons (v_tup (v_acons (v_str (by decide +kernel)) (v_acons (v_str (by decide +kernel)) v_anil))) v_anil)))))) s_nil)
    (s_cons (s_for (passes_of rfl) rfl (i_val rfl (v_v 5)) (g_tup rfl rfl (g_cons (g_n 3 sc.nd) (g_cons (g_n 6 sc.nd) g_nil)) (gcons_len (gcons_len gnil_len))) (s_one (s_for (passes_of rfl) rfl (i_val rfl (v_tup (v_acons (v_str (by decide +kernel)) (v_acons (v_str (by decide +kernel)) (v_acons (v_str (by decide +kernel)) v_anil))))) (g_n 4 sc.nd) (s_one (s_for (passes_of rfl) rfl (i_val rfl (v_ite (t_cmp rfl (hu65 hr) (v_v 6) (v_str (by decide +kernel)) (nomark _)) (v_glx (by rfl) T.g_FLAGS (by rfl)) (v_tup (v_acons v_bl v_anil)))) (g_n 7 sc.nd) (s_one (s_for (passes_of rfl) rfl (i_val rfl (v_glx (by rfl) T.g_FLAGS (by rfl))) (g_n 8 sc.nd) (s_one (s_for (passes_of rfl) rfl (i_val rfl (v_glx (by rfl) T.g_FLAGS (by rfl))) (g_n 2 sc.nd) (s_one (s_exp (v_btm PySem.F.plainAttrs_list (rcv_list rfl fun _ _ => rfl) PySem.F.slot_list_append PySem.F.type_list_append mb_append (v_v 1) (v_acons (v_tup (v_acons (v_v 3) (v_acons (v_v 4) (v_acons (v_v 6) (v_acons (v_v 7) (v_acons (v_v 8) (v_acons (v_v 2) v_anil))))))) v_anil)))))))))))))
    (s_one (s_ret (v_blt (cb_sorted rfl hr.units) (by rfl) T.n_sorted (by decide +kernel) (v_acons (v_v 1) v_anil)))))))))
theorem w_starts (T : Tx K mg D) (A : All P w K mg base D n) : FnOk P w K mg base (L2.CX P w) (2 * (n + 1)) D.a_starts D.d_starts p_starts (spF (zz K) pg (n + 1) 1) := by
  have sc : FnScope n_starts p_starts (defScope t_starts) := scL_ok (by decide +kernel)
  refine Fun.okX (k := 2 * n + 1) (N := n_starts) T.f_starts sc (spF_len (F := f_starts) rfl) fun cdv A0 outer s H vs Q E hr h => ⟨_, ?_, spF_body (F := f_starts) rfl rfl (by decide) h⟩
  have tk := takes_of (X := cxOf (L2.CX P w) P w K mg base n_starts "starts" (defScope t_starts) D.a_starts cdv A0 outer s H E) rfl rfl rfl rfl
  show PSs (cxOf (L2.CX P w) P w K mg base n_starts "starts" (defScope t_starts) D.a_starts cdv A0 outer s H E) (defBody t_starts) (rdS (zz K) pg (run pg n) (fun cls d _ H2 => E cls d H2) c_starts )
  exact (s_one (s_ret (v_blt (cb_sorted rfl hr.units) (by rfl) T.n_sorted (by decide +kernel) (v_acons (v_lc (own := [("world", 0)]) rfl sc.nd (i_val rfl (v_cal tk A.o_all_worlds (hr.mono (by omega)) (by rfl) T.m_all_worlds T.k_all_worlds T.b_all_worlds (v_acons v_int v_anil))) (blkOk_by (N := n_starts) (sc := defScope t_starts) (by decide +kernel)) (tgOk_name (by decide)) (fun _ _ _ _ _ => g_k 0 sc.nd) (fun _ _ _ _ _ => (ts_one (PW.pt (w_and (t_cmp rfl (hu65 hr) (v_idx rfl (v_v 0) v_int (fun _ _ => rfl)) (v_str (by decide +kernel)) (nomark _)) (w_one_and (t_not (t_val rfl (v_idx rfl (v_v 0) v_int (fun _ _ => rfl)) (fun _ => rfl)))))))) (fun _ _ _ _ _ => (v_v 0))) v_anil))))
theorem w__law_bag (T : Tx K mg D) (A : All P w K mg base D n) : FnOk P w K mg base (L2.CX P w) (2 * (n + 1)) D.a__law_bag D.d__law_bag p__law_bag (spF (zz K) pg (n + 1) 2) := by
  have sc : FnScope n__law_bag p__law_bag (defScope t__law_bag) := scL_ok (by decide +kernel)
  refine Fun.okX (k := 2 * n + 1) (N := n__law_bag) T.f__law_bag sc (spF_len (F := f__law_bag) rfl) fun cdv A0 outer s H vs Q E hr h => ⟨_, ?_, spF_body (F := f__law_bag) rfl rfl (by decide) h⟩
  have tk := takes_of (X := cxOf (L2.CX P w) P w K mg base n__law_bag "_law_bag" (defScope t__law_bag) D.a__law_bag cdv A0 outer s H E) rfl rfl rfl rfl
  show PSs (cxOf (L2.CX P w) P w K mg base n__law_bag "_law_bag" (defScope t__law_bag) D.a__law_bag cdv A0 outer s H E) (defBody t__law_bag) (rdS (zz K) pg (run pg n) (fun cls d _ H2 => E cls d H2) c__law_bag )
  exact (s_cons (s_n 2 sc.nd (v_ite (t_cmp rfl (hu65 hr) (v_v 1) (v_blt (cb_len rfl) (by rfl) T.n_len (by decide +kernel) (v_acons (v_v 0) v_anil)) (nomark _)) (v_idx rfl (v_v 0) (v_v 1) (fun _ _ => rfl)) v_int))
    (s_cons (s_n 3 sc.nd (v_ite (t_cmp rfl (hu65 hr) (v_blt (cb_abs) (by rfl) T.n_abs (by decide +kernel) (v_acons (v_v 2) v_anil)) (v_bin rfl rfl v_int v_int) (nomark _)) (v_blt (cb_abs) (by rfl) T.n_abs (by decide +kernel) (v_acons (v_v 2) v_anil)) v_int))
    (s_one (s_ret (v_lst (v_acons (v_v 3) (v_acons (v_bin rfl rfl (v_bin rfl rfl (v_bin rfl rfl (v_blty (cb_int) (by rfl) T.n_int (by decide +kernel) (v_acons (v_v 2) v_anil)) v_int) (v_bin rfl rfl v_int (v_v 1))) v_int) (v_acons v_int v_anil))))))))
theorem w__law_pick (T : Tx K mg D) (A : All P w K mg base D n) : FnOk P w K mg base (L2.CX P w) (2 * (n + 1)) D.a__law_pick D.d__law_pick p__law_pick (spF (zz K) pg (n + 1) 3) := by
  have sc : FnScope n__law_pick p__law_pick (defScope t__law_pick) := scL_ok (by decide +kernel)
  refine Fun.okX (k := 2 * n + 1) (N := n__law_pick) T.f__law_pick sc (spF_len (F := f__law_pick) rfl) fun cdv A0 outer s H vs Q E hr h => ⟨_, ?_, spF_body (F := f__law_pick) rfl rfl (by decide) h⟩
  have tk := takes_of (X := cxOf (L2.CX P w) P w K mg base n__law_pick "_law_pick" (defScope t__law_pick) D.a__law_pick cdv A0 outer s H E) rfl rfl rfl rfl
  show PSs (cxOf (L2.CX P w) P w K mg base n__law_pick "_law_pick" (defScope t__law_pick) D.a__law_pick cdv A0 outer s H E) (defBody t__law_pick) (rdS (zz K) pg (run pg n) (fun cls d _ H2 => E cls d H2) c__law_pick )
  exact (s_cons (s_if (t_cmp rfl (hu65 hr) (v_idx rfl (v_v 0) v_int (fun _ _ => rfl)) v_int (nomark _)) (s_cons (s_n 2 sc.nd (v_bin rfl rfl (v_blty (cb_int) (by rfl) T.n_int (by decide +kernel) (v_acons (v_idx rfl (v_v 0) v_int (fun _ _ => rfl)) v_anil)) (v_v 1)))
    (s_cons (s_asg (v_bin rfl rfl (v_idx rfl (v_v 0) v_int (fun _ _ => rfl)) (v_v 1)) (g_idx (W := W0) (v_v 0) v_int))
    (s_one (s_ret (v_v 2))))) s_nil)
    (s_cons (s_asg (v_bin rfl rfl (v_idx rfl (v_v 0) v_int (fun _ _ => rfl)) v_int) (g_idx (W := W0) (v_v 0) v_int))
    (s_cons (s_n 3 sc.nd (v_bin rfl rfl (v_blty (cb_int) (by rfl) T.n_int (by decide +kernel) (v_acons (v_bin rfl rfl (v_bin rfl rfl (v_idx rfl (v_v 0) v_int (fun _ _ => rfl)) (v_bin rfl rfl v_int (v_idx rfl (v_v 0) v_int (fun _ _ => rfl)))) v_int) v_anil)) v_int))
    (s_cons (s_n 3 sc.nd (v_bin rfl rfl (v_blty (cb_int) (by rfl) T.n_int (by decide +kernel) (v_acons (v_bin rfl rfl (v_bin rfl rfl (v_bin rfl rfl (v_v 3) v_int) (v_bin rfl rfl v_int (v_idx rfl (v_v 0) v_int (fun _ _ => rfl)))) v_int) v_anil)) v_int))
    (s_one (s_ret (v_bin rfl rfl (v_blty (cb_int) (by rfl) T.n_int (by decide +kernel) (v_acons (v_bin rfl rfl (v_v 3) v_int) v_anil)) (v_v 1))))))))
theorem w__law_of (T : Tx K mg D) (A : All P w K mg base D n) : FnOk P w K mg base (L2.CX P w) (2 * (n + 1)) D.a__law_of D.d__law_of p__law_of (spF (zz K) pg (n + 1) 4) := by
  have sc : FnScope n__law_of p__law_of (defScope t__law_of) := scL_ok (by decide +kernel)
  refine Fun.okX (k := 2 * n + 1) (N := n__law_of) T.f__law_of sc (spF_len (F := f__law_of) rfl) fun cdv A0 outer s H vs Q E hr h => ⟨_, ?_, spF_body (F := f__law_of) rfl rfl (by decide) h⟩
  have tk := takes_of (X := cxOf (L2.CX P w) P w K mg base n__law_of "_law_of" (defScope t__law_of) D.a__law_of cdv A0 outer s H E) rfl rfl rfl rfl
  show PSs (cxOf (L2.CX P w) P w K mg base n__law_of "_law_of" (defScope t__law_of) D.a__law_of cdv A0 outer s H E) (defBody t__law_of) (rdS (zz K) pg (run pg n) (fun cls d _ H2 => E cls d H2) c__law_of )
  exact (s_one (s_ret (v_idx rfl (v_v 1) (v_cal tk A.o__law_pick (hr.mono (by omega)) (by rfl) T.m__law_pick T.k__law_pick T.b__law_pick (v_acons (v_v 0) (v_acons (v_blt (cb_len rfl) (by rfl) T.n_len (by decide +kernel) (v_acons (v_v 1) v_anil)) v_anil))) (fun _ _ => rfl))))
theorem w__law_can (T : Tx K mg D) (A : All P w K mg base D n) : FnOk P w K mg base (L2.CX P w) (2 * (n + 1)) D.a__law_can D.d__law_can p__law_can (spF (zz K) pg (n + 1) 5) := by
  have sc : FnScope n__law_can p__law_can (defScope t__law_can) := scL_ok (by decide +kernel)
  refine Fun.okX (k := 2 * n + 1) (N := n__law_can) T.f__law_can sc (spF_len (F := f__law_can) rfl) fun cdv A0 outer s H vs Q E hr h => ⟨_, ?_, spF_body (F := f__law_can) rfl rfl (by decide) h⟩
  have tk := takes_of (X := cxOf (L2.CX P w) P w K mg base n__law_can "_law_can" (defScope t__law_can) D.a__law_can cdv A0 outer s H E) rfl rfl rfl rfl
  show PSs (cxOf (L2.CX P w) P w K mg base n__law_can "_law_can" (defScope t__law_can) D.a__law_can cdv A0 outer s H E) (defBody t__law_can) (rdS (zz K) pg (run pg n) (fun cls d _ H2 => E cls d H2) c__law_can )
  exact (s_cons (s_asg (v_v 0) (g_tup rfl rfl (g_cons (g_n 2 sc.nd) (g_cons (g_n 3 sc.nd) (g_cons (g_n 4 sc.nd) (g_cons (g_n 5 sc.nd) (g_cons (g_n 6 sc.nd) (g_cons (g_n 7 sc.nd) g_nil)))))) (gcons_len (gcons_len (gcons_len (gcons_len (gcons_len (gcons_len gnil_len))))))))
    (s_cons (s_if (t_cmp rfl (hu65 hr) (v_v 4) (v_str (by decide +kernel)) (nomark _)) (s_one (s_ret (v_and rfl (v_cmp rfl (hu65 hr) (v_v 3) (v_lst (v_acons (v_str (by decide +kernel)) (v_acons (v_str (by decide +kernel)) v_anil))) (by with_unfolding_all rfl)) (v_and rfl (v_not rfl (v_v 5)) (v_one (v_not rfl (v_v 6))))))) s_nil)
    (s_cons (s_if (PW.pt (w_or (t_cmp rfl (hu65 hr) (v_v 3) (v_str (by decide +kernel)) (nomark _)) (w_or (t_cmp rfl (hu65 hr) (v_v 2) (v_str (by decide +kernel)) (nomark _)) (w_one_or (PW.pt (w_and (t_cmp rfl (hu65 hr) (v_v 4) (v_str (by decide +kernel)) (nomark _)) (w_one_and (t_not (t_val rfl (v_v 5) (fun _ => rfl)))))))))) (s_one (s_ret v_bl)) s_nil)
    (s_cons (s_if (t_cmp rfl (hu65 hr) (v_v 4) (v_str (by decide +kernel)) (nomark _)) (s_one (s_ret (v_and rfl (v_cmp rfl (hu65 hr) (v_v 2) (v_str (by decide +kernel)) (nomark _)) (v_one (v_cmp rfl (hu65 hr) (v_v 1) v_int (nomark _)))))) s_nil)
    (s_one (s_ret (v_or rfl (v_cmp rfl (hu65 hr) (v_v 4) (v_str (by decide +kernel)) (nomark _)) (v_or rfl (v_cmp rfl (hu65 hr) (v_v 2) (v_str (by decide +kernel)) (nomark _)) (v_one (v_cmp rfl (hu65 hr) (v_v 1) v_int (nomark _)))))))))))
theorem w__law_due (T : Tx K mg D) (A : All P w K mg base D n) : FnOk P w K mg base (L2.CX P w) (2 * (n + 1)) D.a__law_due D.d__law_due p__law_due (spF (zz K) pg (n + 1) 6) := by
  have sc : FnScope n__law_due p__law_due (defScope t__law_due) := scL_ok (by decide +kernel)
  refine Fun.okX (k := 2 * n + 1) (N := n__law_due) T.f__law_due sc (spF_len (F := f__law_due) rfl) fun cdv A0 outer s H vs Q E hr h => ⟨_, ?_, spF_body (F := f__law_due) rfl rfl (by decide) h⟩
  have tk := takes_of (X := cxOf (L2.CX P w) P w K mg base n__law_due "_law_due" (defScope t__law_due) D.a__law_due cdv A0 outer s H E) rfl rfl rfl rfl
  show PSs (cxOf (L2.CX P w) P w K mg base n__law_due "_law_due" (defScope t__law_due) D.a__law_due cdv A0 outer s H E) (defBody t__law_due) (rdS (zz K) pg (run pg n) (fun cls d _ H2 => E cls d H2) c__law_due )
  exact (s_cons (s_par rfl sc.nd rfl rfl (by decide) rfl rfl (v_lst v_anil) (v_lst (v_acons (v_tup (v_acons v_bl (v_acons v_bl v_anil))) (v_acons (v_tup (v_acons v_bl (v_acons v_bl v_anil))) (v_acons (v_tup (v_acons v_bl (v_acons v_bl v_anil))) (v_acons (v_tup (v_acons v_bl (v_acons v_bl v_anil))) v_anil))))) rfl)
    (s_cons (s_for (passes_of rfl) rfl (i_val rfl (v_lst (v_acons (v_str (by decide +kernel)) (v_acons (v_str (by decide +kernel)) (v_acons (v_str (by decide +kernel)) v_anil))))) (g_n 3 sc.nd) (s_one (s_for (passes_of rfl) rfl (i_val rfl (v_lst (v_acons (v_str (by decide +kernel)) (v_acons (v_str (by decide +kernel)) (v_acons (v_str (by decide +kernel)) (v_acons (v_str (by decide +kernel)) v_anil)))))) (g_n 4 sc.nd) (s_one (s_for (passes_of rfl) rfl (i_val rfl (v_lst (v_acons (v_str (by decide +kernel)) (v_acons (v_str (by decide +kernel)) (v_acons (v_str (by decide +kernel)) (v_acons (v_str (by decide +kernel)) (v_acons (v_str (by decide +kernel)) v_anil))))))) (g_n 5 sc.nd) (s_one (s_for (passes_of rfl) rfl (i_val rfl (v_lst (v_acons v_bl (v_acons v_bl v_anil)))) (g_n 6 sc.nd) (s_cons (s_setlc (own := [("_law_pair", 8)]) rfl sc.nd rfl rfl rfl (i_val rfl (v_v 2)) (blkOk_by (N := n__law_due) (sc := defScope t__law_due) (by decide +kernel)) (tgOk_name (by decide)) (fun _ _ _ _ _ => g_k 8 sc.nd) (fun _ _ _ _ _ => ts_nil) (fun _ _ _ _ _ => (v_bin rfl rfl (v_tup (v_acons (v_v 3) (v_acons (v_v 4) (v_acons (v_v 5) (v_acons (v_v 6) v_anil))))) (v_v 8))))
    (s_one (s_n 1 sc.nd (v_bin rfl rfl (v_v 1) (v_lc (own := [("_law_world", 9)]) rfl sc.nd (i_val rfl (v_v 7)) (blkOk_by (N := n__law_due) (sc := defScope t__law_due) (by decide +kernel)) (tgOk_name (by decide)) (fun _ _ _ _ _ => g_k 9 sc.nd) (fun _ _ _ _ _ => (ts_one (t_val rfl (v_cal takes0 A.o__law_can (hr.mono (by omega)) (by rfl) T.m__law_can T.k__law_can T.b__law_can (v_acons (v_v 9) (v_acons (v_v 0) v_anil))) (fun _ => rfl)))) (fun _ _ _ _ _ => (v_v 9))))))))))))))
    (s_one (s_ret (v_v 1)))))
theorem w__law_kinds_right (T : Tx K mg D) (A : All P w K mg base D n) : FnOk P w K mg base (L2.CX P w) (2 * (n + 1)) D.a__law_kinds_right D.d__law_kinds_right p__law_kinds_right (spF (zz K) pg (n + 1) 7) := by
  have sc : FnScope n__law_kinds_right p__law_kinds_right (defScope t__law_kinds_right) := scL_ok (by decide +kernel)
  refine Fun.okX (k := 2 * n + 1) (N := n__law_kinds_right) T.f__law_kinds_right sc (spF_len (F := f__law_kinds_right) rfl) fun cdv A0 outer s H vs Q E hr h => ⟨_, ?_, spF_body (F := f__law_kinds_right) rfl rfl (by decide) h⟩
  have tk := takes_of (X := cxOf (L2.CX P w) P w K mg base n__law_kinds_right "_law_kinds_right" (defScope t__law_kinds_right) D.a__law_kinds_right cdv A0 outer s H E) rfl rfl rfl rfl
  show PSs (cxOf (L2.CX P w) P w K mg base n__law_kinds_right "_law_kinds_right" (defScope t__law_kinds_right) D.a__law_kinds_right cdv A0 outer s H E) (defBody t__law_kinds_right) (rdS (zz K) pg (run pg n) (fun cls d _ H2 => E cls d H2) c__law_kinds_right )
  exact (s_cons (s_for (passes_of rfl) rfl (i_val rfl (v_v 0)) (g_n 1 sc.nd) (s_cons (s_if (PW.pt (w_or (t_not (t_val rfl (v_isi rfl rfl (by rfl) T.n_isinstance (by rfl) T.n_tuple (by decide +kernel) (v_v 1)) (fun _ => rfl))) (w_one_or (t_cmp rfl (hu65 hr) (v_blt (cb_len rfl) (by rfl) T.n_len (by decide +kernel) (v_acons (v_v 1) v_anil)) v_int (nomark _))))) (s_one (s_ret v_bl)) s_nil)
    (s_cons (s_if (t_not (t_val rfl (v_blt (cb_all rfl rfl) (by rfl) T.n_all (by decide +kernel) (v_acons (v_lc (own := [("_law_part", 2)]) rfl sc.nd (i_val rfl (v_slc rfl (v_v 1) o_none (o_some v_int))) (blkOk_by (N := n__law_kinds_right) (sc := defScope t__law_kinds_right) (by decide +kernel)) (tgOk_name (by decide)) (fun _ _ _ _ _ => g_k 2 sc.nd) (fun _ _ _ _ _ => ts_nil) (fun _ _ _ _ _ => (v_isi rfl rfl (by rfl) T.n_isinstance (by rfl) T.n_str (by decide +kernel) (v_v 2)))) v_anil)) (fun _ => rfl))) (s_one (s_ret v_bl)) s_nil)
    (s_one (s_if (t_not (t_val rfl (v_blt (cb_all rfl rfl) (by rfl) T.n_all (by decide +kernel) (v_acons (v_lc (own := [("_law_part", 2)]) rfl sc.nd (i_val rfl (v_slc rfl (v_v 1) (o_some v_int) o_none)) (blkOk_by (N := n__law_kinds_right) (sc := defScope t__law_kinds_right) (by decide +kernel)) (tgOk_name (by decide)) (fun _ _ _ _ _ => g_k 2 sc.nd) (fun _ _ _ _ _ => ts_nil) (fun _ _ _ _ _ => (v_isi rfl rfl (by rfl) T.n_isinstance (by rfl) T.n_bool (by decide +kernel) (v_v 2)))) v_anil)) (fun _ => rfl))) (s_one (s_ret v_bl)) s_nil)))))
    (s_one (s_ret v_bl)))
theorem w_law (T : Tx K mg D) (A : All P w K mg base D n) : FnOk P w K mg base (L2.CX P w) (2 * (n + 1)) D.a_law D.d_law p_law (spF (zz K) pg (n + 1) 8) := by
  have sc : FnScope n_law p_law (defScope t_law) := scL_ok (by decide +kernel)
  refine Fun.okX (k := 2 * n + 1) (N := n_law) T.f_law sc (spF_len (F := f_law) rfl) fun cdv A0 outer s H vs Q E hr h => ⟨_, ?_, spF_body (F := f_law) rfl rfl (by decide) h⟩
  have tk := takes_of (X := cxOf (L2.CX P w) P w K mg base n_law "law" (defScope t_law) D.a_law cdv A0 outer s H E) rfl rfl rfl rfl
  show PSs (cxOf (L2.CX P w) P w K mg base n_law "law" (defScope t_law) D.a_law cdv A0 outer s H E) (defBody t_law) (rdS (zz K) pg (run pg n) (fun cls d _ H2 => E cls d H2) c_law )
  exact (s_cons (s_for (passes_of rfl) rfl (i_rng1 (by rfl) T.n_range (v_blt (cb_max rfl) (by rfl) T.n_max (by decide +kernel) (v_acons v_int (v_acons (v_blt (cb_min rfl) (by rfl) T.n_min (by decide +kernel) (v_acons v_int (v_acons (v_blt (cb_len rfl) (by rfl) T.n_len (by decide +kernel) (v_acons (v_v 0) v_anil)) v_anil))) v_anil)))) (g_n 1 sc.nd) (s_cons (s_n 2 sc.nd (v_cal tk A.o__law_bag (hr.mono (by omega)) (by rfl) T.m__law_bag T.k__law_bag T.b__law_bag (v_acons (v_v 0) (v_acons (v_v 1) v_anil))))
    (s_cons (s_n 3 sc.nd (v_cal tk A.o__law_of (hr.mono (by omega)) (by rfl) T.m__law_of T.k__law_of T.b__law_of (v_acons (v_v 2) (v_acons (v_lst (v_acons v_int (v_acons v_int (v_acons (v_cal tk A.o__law_pick (hr.mono (by omega)) (by rfl) T.m__law_pick T.k__law_pick T.b__law_pick (v_acons (v_v 2) (v_acons v_int v_anil))) v_anil)))) v_anil))))
    (s_cons (s_n 4 sc.nd (v_ite (t_cmp rfl (hu65 hr) (v_v 3) v_int (nomark _)) v_int v_int))
    (s_cons (s_par rfl sc.nd rfl rfl (by decide) rfl rfl (v_cal tk A.o_all_worlds (hr.mono (by omega)) (by rfl) T.m_all_worlds T.k_all_worlds T.b_all_worlds (v_acons (v_v 3) v_anil)) (v_cal0 tk A.o_starts (hr.mono (by omega)) (by rfl) T.m_starts T.k_starts T.b_starts) rfl)
    (s_cons (s_if (PW.pt (w_or (t_not (t_val rfl (v_isi rfl rfl (by rfl) T.n_isinstance (by rfl) T.n_list (by decide +kernel) (v_v 7)) (fun _ => rfl))) (w_one_or (t_not (t_val rfl (v_isi rfl rfl (by rfl) T.n_isinstance (by rfl) T.n_list (by decide +kernel) (v_v 8)) (fun _ => rfl)))))) (s_one (s_ret v_bl)) s_nil)
    (s_cons (s_if (PW.pt (w_or (t_cmp rfl (hu65 hr) (v_v 7) (v_cal tk A.o__law_due (hr.mono (by omega)) (by rfl) T.m__law_due T.k__law_due T.b__law_due (v_acons (v_v 3) v_anil)) (nomark _)) (w_or (t_not (t_val rfl (v_cal tk A.o__law_kinds_right (hr.mono (by omega)) (by rfl) T.m__law_kinds_right T.k__law_kinds_right T.b__law_kinds_right (v_acons (v_v 7) v_anil)) (fun _ => rfl))) (w_one_or (t_not (t_val rfl (v_cal tk A.o__law_kinds_right (hr.mono (by omega)) (by rfl) T.m__law_kinds_right T.k__law_kinds_right T.b__law_kinds_right (v_acons (v_v 8) v_anil)) (fun _ => rfl))))))) (s_one (s_ret v_bl)) s_nil)
    (s_cons (s_if (t_cmp rfl (hu65 hr) (v_v 8) (v_lc (own := [("_law_world", 9)]) rfl sc.nd (i_val rfl (v_cal tk A.o__law_due (hr.mono (by omega)) (by rfl) T.m__law_due T.k__law_due T.b__law_due (v_acons v_int v_anil))) (blkOk_by (N := n_law) (sc := defScope t_law) (by decide +kernel)) (tgOk_name (by decide)) (fun _ _ _ _ _ => g_k 9 sc.nd) (fun _ _ _ _ _ => (ts_one (PW.pt (w_and (t_cmp rfl (hu65 hr) (v_idx rfl (v_v 9) v_int (fun _ _ => rfl)) (v_str (by decide +kernel)) (nomark _)) (w_one_and (t_not (t_val rfl (v_idx rfl (v_v 9) v_int (fun _ _ => rfl)) (fun _ => rfl)))))))) (fun _ _ _ _ _ => (v_v 9))) (nomark _)) (s_one (s_ret v_bl)) s_nil)
    (s_cons (s_n 5 sc.nd (v_blty (cb_list rfl) (by rfl) T.n_list (by decide +kernel) (v_acons (v_v 7) v_anil)))
    (s_cons (s_exp (v_btm PySem.F.plainAttrs_list (rcv_list rfl fun _ _ => rfl) PySem.F.slot_list_pop PySem.F.type_list_pop mb_pop1 (v_v 7) (v_acons (v_cal tk A.o__law_pick (hr.mono (by omega)) (by rfl) T.m__law_pick T.k__law_pick T.b__law_pick (v_acons (v_v 2) (v_acons (v_blt (cb_len rfl) (by rfl) T.n_len (by decide +kernel) (v_acons (v_v 7) v_anil)) v_anil))) v_anil)))
    (s_cons (s_exp (v_btm PySem.F.plainAttrs_list (rcv_list rfl fun _ _ => rfl) PySem.F.slot_list_append PySem.F.type_list_append mb_append (v_v 8) (v_acons (v_idx rfl (v_v 5) v_int (fun _ _ => rfl)) v_anil)))
    (s_cons (s_n 6 sc.nd (v_blty (cb_list rfl) (by rfl) T.n_list (by decide +kernel) (v_acons (v_v 7) v_anil)))
    (s_cons (s_if (PW.pt (w_or (t_cmp rfl (hu65 hr) (v_calk0 tk A.o_all_worlds (hr.mono (by omega)) (by rfl) T.m_all_worlds T.k_all_worlds T.bk_all_worlds_0_ahead rfl (k_cons (v_v 4) k_nil)) (v_cal tk A.o__law_due (hr.mono (by omega)) (by rfl) T.m__law_due T.k__law_due T.b__law_due (v_acons (v_v 4) v_anil)) (nomark _)) (w_or (t_cmp rfl (hu65 hr) (v_cal tk A.o_all_worlds (hr.mono (by omega)) (by rfl) T.m_all_worlds T.k_all_worlds T.b_all_worlds (v_acons (v_v 3) v_anil)) (v_v 5) (nomark _)) (w_one_or (t_cmp rfl (hu65 hr) (v_v 7) (v_v 6) (nomark _)))))) (s_one (s_ret v_bl)) s_nil)
    (s_one (s_if (PW.pt (w_or (t_cmp rfl (hu65 hr) (v_cal0 tk A.o_starts (hr.mono (by omega)) (by rfl) T.m_starts T.k_starts T.b_starts) (v_slc rfl (v_v 8) o_none (o_some v_int)) (nomark _)) (w_one_or (t_cmp rfl (hu65 hr) (v_blt (cb_len rfl) (by rfl) T.n_len (by decide +kernel) (v_acons (v_v 8) v_anil)) v_int (nomark _))))) (s_one (s_ret v_bl)) s_nil)))))))))))))))
    (s_one (s_ret v_bl)))
theorem all (T : Tx K mg D) : ∀ n, All P w K mg base D n
  | 0 => ⟨fnOk_zero, fnOk_zero, fnOk_zero, fnOk_zero, fnOk_zero, fnOk_zero, fnOk_zero, fnOk_zero, fnOk_zero⟩
  | n + 1 => ⟨w_all_worlds T (all T n), w_starts T (all T n), w__law_bag T (all T n), w__law_pick T (all T n), w__law_of T (all T n), w__law_can T (all T n), w__law_due T (all T n), w__law_kinds_right T (all T n), w_law T (all T n)⟩
end
end Vm.k53

namespace Vm.k53
open Vm PySem
/-! The law, plainly. -/
/-- the lists, by what ahead is -/
def worlds (a : Nat) : List D := match a with
  | 0 => worlds0
  | _ + 1 => worlds1
theorem flat0 : D.flats worlds0 = true := by decide +kernel
theorem flat1 : D.flats worlds1 = true := by decide +kernel
theorem worlds_flat (a : Nat) : D.flats (worlds a) = true := by
  cases a with
  | zero => exact flat0
  | succ a => exact flat1
theorem all_at (n a : Nat) (G : Sto) : ∃ i T, run pg (n + 1) 0 [.int a] G = .val [.ref i] (G ++ T) ∧ (G ++ T)[i]? = some (.lst (worlds a)) ∧ G.length ≤ i :=
  run_list okP rfl (by cases a with
  | zero => exact all0 n
  | succ a => exact all1 n a) (worlds_flat a) G
theorem due_at (n a : Nat) (G : Sto) : ∃ i T, run pg (n + 2) 6 [.int a] G = .val [.ref i] (G ++ T) ∧ (G ++ T)[i]? = some (.lst (worlds a)) ∧ G.length ≤ i :=
  run_list okP rfl (by cases a with
  | zero => exact due0 n
  | succ a => exact due1 n a) (worlds_flat a) G
theorem beg_at (n : Nat) (G : Sto) : ∃ i T, run pg (n + 2) 1 [] G = .val [.ref i] (G ++ T) ∧ (G ++ T)[i]? = some (.lst begun) ∧ G.length ≤ i :=
  run_list okP rfl (beg n) (by decide +kernel) G
/-- a world, by its kinds -/
def okW : D → Bool
  | .tup [.str _, .str _, .str _, .bl _, .bl _, .bl _] => true
  | _ => false
theorem okW_of {x : D} (h : okW x = true) : ∃ a b c d e f, x = .tup [.str a, .str b, .str c, .bl d, .bl e, .bl f] := by
  unfold okW at h
  split at h
  · exact ⟨_, _, _, _, _, _, rfl⟩
  · cases h
theorem kinds (n : Nat) {S : Sto} {i : Nat} {xs : List D} (h : S[i]? = some (.lst xs)) (hx : xs.all okW = true) : ∃ T, run pg (n + 1) 7 [.ref i] S = .val [.bl true] (S ++ T) := by
  rw [run_eq (F := f__law_kinds_right) rfl rfl]
  show ∃ T, fin (ev pg (run pg n) c__law_kinds_right [] [some (.ref i), none, none] S) = _
  rw [List.all_eq_true] at hx
  obtain ⟨σ', S', e, T, y, z, rfl, rfl⟩ := loop_inv' (fun σ S' => ∃ T y z, S' = S ++ T ∧ σ = [some (.ref i), y, z]) (chk := still (.ref i) xs)
    (f := fun x σ S => bg (ev pg (run pg n) (.gn 1) [x] σ S) fun σ S => ev pg (run pg n) (.seq s__law_kinds_right_0_0 (.seq s__law_kinds_right_0_1 s__law_kinds_right_0_2)) [] σ S) (xs := xs) (σ := [some (.ref i), none, none]) (S := S)
    (fun σ S' ⟨T, y, z, e1, _⟩ => by rw [e1]; exact still_lst (get_app h)) ⟨[], none, none, by simp, rfl⟩ (fun x hm σ S' ⟨T, y, z, e1, e2⟩ => by
      obtain ⟨a, b, c, d, e, f, rfl⟩ := okW_of (hx x hm)
      subst e1 e2
      refine ⟨_, _, ?_, T ++ [.lst [.bl true, .bl true, .bl true], .lst [.bl true, .bl true, .bl true]], some (.tup [.str a, .str b, .str c, .bl d, .bl e, .bl f]), z, rfl, rfl⟩
      simp [s__law_kinds_right_0_0, s__law_kinds_right_0_1, s__law_kinds_right_0_2, ev, bg, bn, b1, bv, callB, callB1, isTy, dty, kin, tru, opCmp, eqD, pd_int, PyData.eqv, items, opSlice, cutD, HT.sIx, ends, wipeD, loopC, still, turnC, endC, bools, SL, Sto.l])
  refine ⟨T, ?_⟩
  unfold c__law_kinds_right
  rw [ev_seq]
  have e1 : ev pg (run pg n) s__law_kinds_right_0 [] [some (.ref i), none, none] S = .nx [some (.ref i), y, z] (S ++ T) := by
    unfold s__law_kinds_right_0
    rw [ev]
    simp only [ev, List.getElem?_cons_zero, b1, items, l_of h]
    exact e
  rw [e1]
  rfl
theorem ok0 : worlds0.all okW = true := by decide +kernel
theorem ok1 : worlds1.all okW = true := by decide +kernel
theorem okB : begun.all okW = true := by decide +kernel
theorem dat0 : worlds0.all (dat 39) = true := by decide +kernel
theorem dat1 : worlds1.all (dat 39) = true := by decide +kernel
theorem datB : begun.all (dat 39) = true := by decide +kernel
theorem worlds_ok (a : Nat) : (worlds a).all okW = true := by
  cases a with
  | zero => exact ok0
  | succ a => exact ok1
theorem worlds_dat (a : Nat) : (worlds a).all (dat 39) = true := by
  cases a with
  | zero => exact dat0
  | succ a => exact dat1
/-- the world that is listed first -/
def w0 : D := worlds0.headD .non
theorem worlds_head (a : Nat) : ∃ r, worlds a = w0 :: r ∧ r.length < 1000 := by
  cases a with
  | zero => exact ⟨worlds0.tail, rfl, by decide +kernel⟩
  | succ a => exact ⟨worlds1.tail, rfl, by decide +kernel⟩
/-- begins here -/
def isB : D → Bool
  | .tup [_, _, .str c, _, _, .bl f] => c == [110, 111, 110, 101] && !f
  | _ => false
theorem begun_eq : worlds0.filter isB = begun := by decide +kernel
theorem one_dat : dat 39 w0 = true := by decide +kernel
theorem cut6 : cutD (begun ++ [w0]) none (some 6) = begun := by decide +kernel
theorem len7 : (begun ++ [w0]).length = 7 := by decide +kernel
/-- the comprehension of the begun ones -/
def lcB : C := .lc [9] (.gn 9) (.cal 6 (.acons (.kon (.int 0)) .anil)) (.andv (.cmp .Eq (.idx (.var 9) (.kon (.int 2))) (.kon (.str [110, 111, 110, 101]))) (.notv (.idx (.var 9) (.kon (.int 5))))) (.var 9)
theorem lcB_at (σ : Sl) (hσ : σ.length = 10) (S : Sto) : ∃ T, ev pg (run pg 2) lcB [] σ S = .val [.ref (S ++ T).length] (S ++ T ++ [.lst begun]) := by
  obtain ⟨i, T, e, g, _⟩ := due_at 0 0 S
  refine ⟨T, ?_⟩
  unfold lcB
  rw [ev]
  have e1 : ev pg (run pg 2) (.cal 6 (.acons (.kon (.int 0)) .anil)) [] σ S = .val [.ref i] (S ++ T) := by
    simp only [ev, bv, b1]
    rw [show D.int 0 = D.int (0 : Nat) from rfl, e]
  rw [e1]
  simp only [b1, items, l_of g]
  rw [loopC_flat (g := fun x => if isB x = true then [x] else []) (still_lst g)]
  · rw [flat_filter, List.nil_append]
    show endC (.val (worlds0.filter isB) _) = _
    rw [begun_eq]
    rfl
  · intro x hx
    have hw := ok0
    rw [List.all_eq_true] at hw
    obtain ⟨a, b, c, d, e, f, rfl⟩ := okW_of (hw x hx)
    have h9 : 9 < (wipeD σ [9]).length := by rw [wipeD_length, hσ]; decide
    simp only [ev, if_pos h9, turnC, bg]
    have g9 : ((wipeD σ [9]).set 9 (some (.tup [.str a, .str b, .str c, .bl d, .bl e, .bl f])))[9]? = some (some (.tup [.str a, .str b, .str c, .bl d, .bl e, .bl f])) := by rw [List.getElem?_set_self h9]
    rw [g9]
    by_cases hc : c = [110, 111, 110, 101]
    · subst hc
      cases f <;> simp [b1, opIx, L2.atI, L2.ixN, opCmp, eqD, pd_str, PyData.eqv, tru, isB]
    · simp [b1, opIx, L2.atI, L2.ixN, opCmp, eqD, pd_str, PyData.eqv, tru, isB, hc, str_ne hc]
theorem turn {ns : List Int} (hl : ns.length ≤ 63) {p : Nat} (hp : p < 1000) (x1 x2 x3 x4 x5 x6 x7 x8 x9 : Option D) (S : Sto) :
    ∃ y1 y2 y3 y4 y5 y6 y7 y8 y9 S', bg (ev pg (run pg 2) (.gn 1) [.int p] [some (.rol (ns.map D.int)), x1, x2, x3, x4, x5, x6, x7, x8, x9] S) (fun σ S => ev pg (run pg 2) (.seq s_law_0_0 (.seq s_law_0_1 (.seq s_law_0_2 (.seq s_law_0_3 (.seq s_law_0_4 (.seq s_law_0_5 (.seq s_law_0_6 (.seq s_law_0_7 (.seq s_law_0_8 (.seq s_law_0_9 (.seq s_law_0_10 (.seq s_law_0_11 s_law_0_12)))))))))))) [] σ S)
      = .nx [some (.rol (ns.map D.int)), y1, y2, y3, y4, y5, y6, y7, y8, y9] S' := by
  -- the bag
  obtain ⟨a, b, ha, hb, hb2, eb⟩ := RA.bag (P := pg) (n := 1) (S := S) rfl hp hl
  have B1 : RA.Bag (S ++ [.lst [.int a, .int b, .int 0]]) S.length 0 := ⟨a, b, 0, get_new, ha, hb, hb2, by decide, by decide⟩
  generalize S ++ [.lst [.int a, .int b, .int 0]] = S1 at eb B1
  have e0 : ev pg (run pg 2) s_law_0_0 [] [some (.rol (ns.map D.int)), some (.int p), x2, x3, x4, x5, x6, x7, x8, x9] S = .nx [some (.rol (ns.map D.int)), some (.int p), some (.ref S.length), x3, x4, x5, x6, x7, x8, x9] S1 := by
    simp [s_law_0_0, ev, bv, b1, eb, bg]
  generalize S.length = ib at e0 B1
  -- reach
  obtain ⟨d, S2, hd, B2, D2, e2⟩ := RA.draw (P := pg) (n := 1) rfl B1 (by decide) (m := 1000) (by decide) (by decide)
  obtain ⟨k, x, S3, hx, B3, D3, e3⟩ := RA.one_of (P := pg) (n := 0) rfl rfl (B2.app [.lst [.int 0, .int 1, .int d]]) (by decide) get_new (Nat.ne_of_gt B2.lt) (by simp) (by simp)
  obtain ⟨r, rfl⟩ : ∃ r : Nat, x = .int r := by
    match k, hx with
    | 0, hx => cases hx; exact ⟨0, rfl⟩
    | 1, hx => cases hx; exact ⟨1, rfl⟩
    | 2, hx => cases hx; exact ⟨d, rfl⟩
    | _ + 3, hx => cases hx
  have e1 : ev pg (run pg 2) s_law_0_1 [] [some (.rol (ns.map D.int)), some (.int p), some (.ref ib), x3, x4, x5, x6, x7, x8, x9] S1 = .nx [some (.rol (ns.map D.int)), some (.int p), some (.ref ib), some (.int r), x4, x5, x6, x7, x8, x9] S3 := by
    simp [s_law_0_1, ev, bv, b1, e2, SL, e3, bg]
  -- other
  obtain ⟨o, eo⟩ : ∃ o : Nat, ev pg (run pg 2) s_law_0_2 [] [some (.rol (ns.map D.int)), some (.int p), some (.ref ib), some (.int r), x4, x5, x6, x7, x8, x9] S3 = .nx [some (.rol (ns.map D.int)), some (.int p), some (.ref ib), some (.int r), some (.int o), x5, x6, x7, x8, x9] S3 := by
    by_cases h : (r : Int) = 0
    · exact ⟨1, by simp [s_law_0_2, ev, b1, opCmp, eqD, pd_int, PyData.eqv, tru, h, bg]⟩
    · have hb : ((r : Int) == 0) = false := by simpa using h
      exact ⟨0, by simp [s_law_0_2, ev, b1, opCmp, eqD, pd_int, PyData.eqv, tru, hb, bg]⟩
  -- told, begun
  obtain ⟨i7, T5, e5, g5, l5⟩ := all_at 1 r S3
  obtain ⟨i8, T6, e6, g6, l6⟩ := beg_at 0 (S3 ++ T5)
  have es3 : ev pg (run pg 2) s_law_0_3 [] [some (.rol (ns.map D.int)), some (.int p), some (.ref ib), some (.int r), some (.int o), x5, x6, x7, x8, x9] S3 = .nx [some (.rol (ns.map D.int)), some (.int p), some (.ref ib), some (.int r), some (.int o), x5, x6, some (.ref i7), some (.ref i8), x9] (S3 ++ T5 ++ T6) := by
    simp [s_law_0_3, ev, bv, b1, e5, e6, SL, bg]
  have n7 : i7 ≠ ib := by have := B3.lt; omega
  have n8 : i8 ≠ ib := by
    have := B3.lt
    rw [List.length_append] at l6
    omega
  have n87 : i8 ≠ i7 := by have := lt_of_get g5; omega
  have B6 := (B3.app T5).app T6
  have g7 := get_app (T := T6) g5
  have g8 := g6
  generalize S3 ++ T5 ++ T6 = S6 at es3 B6 g7 g8
  have es4 : ev pg (run pg 2) s_law_0_4 [] [some (.rol (ns.map D.int)), some (.int p), some (.ref ib), some (.int r), some (.int o), x5, x6, some (.ref i7), some (.ref i8), x9] S6 = .nx [some (.rol (ns.map D.int)), some (.int p), some (.ref ib), some (.int r), some (.int o), x5, x6, some (.ref i7), some (.ref i8), x9] S6 := by
    simp [s_law_0_4, ev, bv, b1, callB, callB1, isTy, dty, kin, g7, g8, tru]
  -- due
  obtain ⟨j, T7, e7, h7, l7⟩ := due_at 0 r S6
  have q1 := eqD_lists (get_app (T := T7) g7) h7 (worlds_dat r)
  obtain ⟨T8, e8⟩ := kinds 1 (get_app (T := T7) g7) (worlds_ok r)
  obtain ⟨T9, e9⟩ := kinds 1 (get_app (T := T8) (get_app (T := T7) g8)) okB
  have es5 : ev pg (run pg 2) s_law_0_5 [] [some (.rol (ns.map D.int)), some (.int p), some (.ref ib), some (.int r), some (.int o), x5, x6, some (.ref i7), some (.ref i8), x9] S6 = .nx [some (.rol (ns.map D.int)), some (.int p), some (.ref ib), some (.int r), some (.int o), x5, x6, some (.ref i7), some (.ref i8), x9] (S6 ++ T7 ++ T8 ++ T9) := by
    simp only [s_law_0_5, ev, bv, b1, List.getElem?_cons_zero, List.getElem?_cons_succ, e7, opCmp, q1, Option.map_some, Bool.not_true, tru, e8, e9]
  have B9 := ((B6.app T7).app T8).app T9
  have g7' := get_app (T := T9) (get_app (T := T8) (get_app (T := T7) g7))
  have g8' := get_app (T := T9) (get_app (T := T8) (get_app (T := T7) g8))
  generalize S6 ++ T7 ++ T8 ++ T9 = S9 at es5 B9 g7' g8'
  -- the begun ones
  obtain ⟨T10, e10⟩ := lcB_at [some (.rol (ns.map D.int)), some (.int p), some (.ref ib), some (.int r), some (.int o), x5, x6, some (.ref i7), some (.ref i8), x9] rfl S9
  have q2 := eqD_lists (get_app (T := [.lst begun]) (get_app (T := T10) g8')) get_new datB
  have es6 : ev pg (run pg 2) s_law_0_6 [] [some (.rol (ns.map D.int)), some (.int p), some (.ref ib), some (.int r), some (.int o), x5, x6, some (.ref i7), some (.ref i8), x9] S9 = .nx [some (.rol (ns.map D.int)), some (.int p), some (.ref ib), some (.int r), some (.int o), x5, x6, some (.ref i7), some (.ref i8), x9] (S9 ++ T10 ++ [.lst begun]) := by
    show ev pg (run pg 2) (.iff (.cmp .NotEq (.var 8) lcB) s_law_0_6a_0 .nop) [] _ S9 = _
    rw [ev, ev]
    simp only [ev, b1, List.getElem?_cons_zero, List.getElem?_cons_succ, e10, opCmp, q2, Option.map_some, Bool.not_true, tru]
  have B11 := (B9.app T10).app [.lst begun]
  have g7 := get_app (T := [.lst begun]) (get_app (T := T10) g7')
  have g8 := get_app (T := [.lst begun]) (get_app (T := T10) g8')
  generalize S9 ++ T10 ++ [.lst begun] = S11 at es6 B11 g7 g8
  -- held
  have es7 : ev pg (run pg 2) s_law_0_7 [] [some (.rol (ns.map D.int)), some (.int p), some (.ref ib), some (.int r), some (.int o), x5, x6, some (.ref i7), some (.ref i8), x9] S11 = .nx [some (.rol (ns.map D.int)), some (.int p), some (.ref ib), some (.int r), some (.int o), some (.ref S11.length), x6, some (.ref i7), some (.ref i8), x9] (S11 ++ [.lst (worlds r)]) := by
    simp [s_law_0_7, ev, bv, b1, callB, callB1, l_of g7, bg]
  have B12 := B11.app [.lst (worlds r)]
  have g7' := get_app (T := [.lst (worlds r)]) g7
  have g8' := get_app (T := [.lst (worlds r)]) g8
  have g5 : (S11 ++ [.lst (worlds r)])[S11.length]? = some (.lst (worlds r)) := get_new
  have n5b : S11.length ≠ ib := Nat.ne_of_gt B11.lt
  have n57 : S11.length ≠ i7 := Nat.ne_of_gt (lt_of_get g7)
  have n58 : S11.length ≠ i8 := Nat.ne_of_gt (lt_of_get g8)
  generalize S11 ++ [.lst (worlds r)] = S12 at es7 B12 g7' g8' g5
  generalize S11.length = i5 at es7 g5 n5b n57 n58
  -- pop
  obtain ⟨rest, hw, hrest⟩ := worlds_head r
  have hlen : (worlds r).length = rest.length + 1 := by rw [hw]; rfl
  obtain ⟨d', S13, hd', B13, D13, e13⟩ := RA.draw (P := pg) (n := 1) rfl B12 (by decide) (m := ((worlds r).length : Int)) (by omega) (by omega)
  have hd2 : d' < (worlds r).length := by omega
  have g7 := (D13.2 i7 n7).trans g7'
  have g8 := (D13.2 i8 n8).trans g8'
  have g5' := (D13.2 i5 n5b).trans g5
  have es8 : ev pg (run pg 2) s_law_0_8 [] [some (.rol (ns.map D.int)), some (.int p), some (.ref ib), some (.int r), some (.int o), some (.ref i5), x6, some (.ref i7), some (.ref i8), x9] S12 = .nx [some (.rol (ns.map D.int)), some (.int p), some (.ref ib), some (.int r), some (.int o), some (.ref i5), x6, some (.ref i7), some (.ref i8), x9] (S13.set i7 (.lst ((worlds r).eraseIdx d'))) := by
    have hix : L2.ixN (worlds r).length (d' : Int) = some d' := by
      unfold L2.ixN
      rw [if_pos (by omega), if_pos (by omega)]
      simp
    simp [s_law_0_8, ev, bv, b1, callB, callB1, rcv, l_of g7', e13, callM, g7, hix, List.getElem?_eq_getElem hd2]
  have wd : ((worlds r).eraseIdx d').all (dat 39) = true := all_erase (worlds_dat r) d'
  have g7' : (S13.set i7 (.lst ((worlds r).eraseIdx d')))[i7]? = some (.lst ((worlds r).eraseIdx d')) := get_set g7
  have g8' : (S13.set i7 (.lst ((worlds r).eraseIdx d')))[i8]? = some (.lst begun) := get_set_ne (Ne.symm n87) g8
  have g5 : (S13.set i7 (.lst ((worlds r).eraseIdx d')))[i5]? = some (.lst (worlds r)) := get_set_ne (Ne.symm n57) g5'
  have B14 := B13.set (o := .lst ((worlds r).eraseIdx d')) n7
  generalize (worlds r).eraseIdx d' = less at wd g7' g8' g5 B14 es8
  generalize S13.set i7 (.lst less) = S14 at es8 g7' g8' g5 B14
  -- append
  have es9 : ev pg (run pg 2) s_law_0_9 [] [some (.rol (ns.map D.int)), some (.int p), some (.ref ib), some (.int r), some (.int o), some (.ref i5), x6, some (.ref i7), some (.ref i8), x9] S14 = .nx [some (.rol (ns.map D.int)), some (.int p), some (.ref ib), some (.int r), some (.int o), some (.ref i5), x6, some (.ref i7), some (.ref i8), x9] (S14.set i8 (.lst (begun ++ [w0]))) := by
    have hb : begun.length < SL := by decide +kernel
    have hix : L2.atI (worlds r) 0 = some w0 := by
      rw [hw]
      simp [L2.atI, L2.ixN]
    simp [s_law_0_9, ev, bv, b1, rcv, l_of g8', l_of g5, opIx, hix, callM, g8', hb]
  have g7 : (S14.set i8 (.lst (begun ++ [w0])))[i7]? = some (.lst less) := get_set_ne n87 g7'
  have g8 : (S14.set i8 (.lst (begun ++ [w0])))[i8]? = some (.lst (begun ++ [w0])) := get_set g8'
  have g5' : (S14.set i8 (.lst (begun ++ [w0])))[i5]? = some (.lst (worlds r)) := get_set_ne (Ne.symm n58) g5
  have B15 := B14.set (o := .lst (begun ++ [w0])) n8
  generalize S14.set i8 (.lst (begun ++ [w0])) = S15 at es9 g7 g8 g5' B15
  -- kept
  have es10 : ev pg (run pg 2) s_law_0_10 [] [some (.rol (ns.map D.int)), some (.int p), some (.ref ib), some (.int r), some (.int o), some (.ref i5), x6, some (.ref i7), some (.ref i8), x9] S15 = .nx [some (.rol (ns.map D.int)), some (.int p), some (.ref ib), some (.int r), some (.int o), some (.ref i5), some (.ref S15.length), some (.ref i7), some (.ref i8), x9] (S15 ++ [.lst less]) := by
    simp [s_law_0_10, ev, bv, b1, callB, callB1, l_of g7, bg]
  have g7' := get_app (T := [.lst less]) g7
  have g8' := get_app (T := [.lst less]) g8
  have g5 := get_app (T := [.lst less]) g5'
  have g6' : (S15 ++ [.lst less])[S15.length]? = some (.lst less) := get_new
  generalize S15 ++ [.lst less] = S16 at es10 g7' g8' g5 g6'
  generalize S15.length = i6 at es10 g6'
  -- made again
  obtain ⟨j1, T1, a1, b1', c1⟩ := all_at 1 o S16
  obtain ⟨j2, T2, a2, b2, c2⟩ := due_at 0 o (S16 ++ T1)
  obtain ⟨j3, T3, a3, b3, c3⟩ := all_at 1 r (S16 ++ T1 ++ T2)
  have r1 := eqD_lists (get_app (T := T2) b1') b2 (worlds_dat o)
  have r2 := eqD_lists b3 (get_app (T := T3) (get_app (T := T2) (get_app (T := T1) g5))) (worlds_dat r)
  have g7 := get_app (T := T3) (get_app (T := T2) (get_app (T := T1) g7'))
  have g8 := get_app (T := T3) (get_app (T := T2) (get_app (T := T1) g8'))
  have g6 := get_app (T := T3) (get_app (T := T2) (get_app (T := T1) g6'))
  have r3 := eqD_lists g7 g6 wd
  have es11 : ev pg (run pg 2) s_law_0_11 [] [some (.rol (ns.map D.int)), some (.int p), some (.ref ib), some (.int r), some (.int o), some (.ref i5), some (.ref i6), some (.ref i7), some (.ref i8), x9] S16 = .nx [some (.rol (ns.map D.int)), some (.int p), some (.ref ib), some (.int r), some (.int o), some (.ref i5), some (.ref i6), some (.ref i7), some (.ref i8), x9] (S16 ++ T1 ++ T2 ++ T3) := by
    simp only [s_law_0_11, ev, bv, b1, List.getElem?_cons_zero, List.getElem?_cons_succ, List.nil_append, List.length_cons, List.length_nil, and_self, if_true, rearr, a1, a2, opCmp, r1, Option.map_some, Bool.not_true, tru, a3, r2, r3, Nat.zero_add]
  generalize S16 ++ T1 ++ T2 ++ T3 = S19 at es11 g7 g8 g6
  -- started again
  obtain ⟨j4, T4, a4, b4, c4⟩ := beg_at 0 S19
  have g8' := get_app (T := T4) g8
  have r4 := eqD_lists (get_app (T := [.lst (cutD (begun ++ [w0]) none (some 6))]) b4) (by rw [← cut6]; exact get_new) datB
  have es12 : ev pg (run pg 2) s_law_0_12 [] [some (.rol (ns.map D.int)), some (.int p), some (.ref ib), some (.int r), some (.int o), some (.ref i5), some (.ref i6), some (.ref i7), some (.ref i8), x9] S19 = .nx [some (.rol (ns.map D.int)), some (.int p), some (.ref ib), some (.int r), some (.int o), some (.ref i5), some (.ref i6), some (.ref i7), some (.ref i8), x9] (S19 ++ T4 ++ [.lst (cutD (begun ++ [w0]) none (some 6))]) := by
    have e7 : eqD (S19 ++ T4 ++ [.lst (cutD (begun ++ [w0]) none (some 6))]) (.int ((begun ++ [w0]).length : Nat)) (.int 7) = some true := by
      rw [len7]
      simp [eqD, pd_int, PyData.eqv]
    simp only [s_law_0_12, ev, bv, b1, List.getElem?_cons_zero, List.getElem?_cons_succ, a4, opCmp, ends, opSlice, l_of g8', r4, callB, callB1, l_of (get_app (T := [.lst (cutD (begun ++ [w0]) none (some 6))]) g8'), e7, Option.map_some, Bool.not_true, tru]
  refine ⟨some (.int p), some (.ref ib), some (.int r), some (.int o), some (.ref i5), some (.ref i6), some (.ref i7), some (.ref i8), x9, S19 ++ T4 ++ [.lst (cutD (begun ++ [w0]) none (some 6))], ?_⟩
  have eg : ev pg (run pg 2) (.gn 1) [.int p] [some (.rol (ns.map D.int)), x1, x2, x3, x4, x5, x6, x7, x8, x9] S = .nx [some (.rol (ns.map D.int)), some (.int p), x2, x3, x4, x5, x6, x7, x8, x9] S := by simp [ev]
  rw [eg, bg, ev_seq, e0, bn, ev_seq, e1, bn, ev_seq, eo, bn, ev_seq, es3, bn, ev_seq, es4, bn, ev_seq, es5, bn, ev_seq, es6, bn, ev_seq, es7, bn, ev_seq, es8, bn, ev_seq, es9, bn, ev_seq, es10, bn, ev_seq, es11, bn, es12]
theorem good : ∀ ns : List Int, ns.length ≤ 63 → ∃ S, run pg 3 8 [.rol (ns.map D.int)] [] = .val [.bl true] S := by
  intro ns hl
  rw [run_eq (F := f_law) rfl rfl]
  show ∃ S, fin (ev pg (run pg 2) (.seq s_law_0 s_law_1) [] [some (.rol (ns.map D.int)), none, none, none, none, none, none, none, none, none] []) = _
  obtain ⟨j, hj, hj2, ej⟩ : ∃ j : Int, 0 ≤ j ∧ j ≤ 10 ∧ ev pg (run pg 2) (.rng1 (.blt .max (.acons (.kon (.int 1)) (.acons (.blt .min (.acons (.kon (.int 10)) (.acons (.blt .len (.acons (.var 0) .anil)) .anil))) .anil)))) [] [some (.rol (ns.map D.int)), none, none, none, none, none, none, none, none, none] [] = .val [.tup (rangeD 0 j)] [] := by
    refine ⟨if (if (ns.length : Int) < 10 then (ns.length : Int) else 10) > 1 then (if (ns.length : Int) < 10 then (ns.length : Int) else 10) else 1, ?_, ?_, ?_⟩
    · split <;> omega
    · split
      · split <;> omega
      · omega
    · have hr : inR (if (if (ns.length : Int) < 10 then (ns.length : Int) else 10) > 1 then (if (ns.length : Int) < 10 then (ns.length : Int) else 10) else 1) = true := by
        unfold inR
        rw [Bool.and_eq_true, decide_eq_true_eq, decide_eq_true_eq]
        split
        · split <;> omega
        · omega
      simp only [ev, bv, b1, List.getElem?_cons_zero, callB, callB1, callB2, List.length_map]
      rw [if_pos hr]
  obtain ⟨σ', S', el, y1, y2, y3, y4, y5, y6, y7, y8, y9, rfl⟩ := loop_inv (fun σ _ => ∃ y1 y2 y3 y4 y5 y6 y7 y8 y9, σ = [some (.rol (ns.map D.int)), y1, y2, y3, y4, y5, y6, y7, y8, y9]) (chk := still (.tup (rangeD 0 j)) (rangeD 0 j))
    (f := fun x σ S => bg (ev pg (run pg 2) (.gn 1) [x] σ S) fun σ S => ev pg (run pg 2) (.seq s_law_0_0 (.seq s_law_0_1 (.seq s_law_0_2 (.seq s_law_0_3 (.seq s_law_0_4 (.seq s_law_0_5 (.seq s_law_0_6 (.seq s_law_0_7 (.seq s_law_0_8 (.seq s_law_0_9 (.seq s_law_0_10 (.seq s_law_0_11 s_law_0_12)))))))))))) [] σ S)
    (xs := rangeD 0 j) (σ := [some (.rol (ns.map D.int)), none, none, none, none, none, none, none, none, none]) (S := []) (fun _ => rfl) ⟨_, _, _, _, _, _, _, _, _, rfl⟩ (fun x hx σ S ⟨x1, x2, x3, x4, x5, x6, x7, x8, x9, e⟩ => by
      subst e
      unfold rangeD at hx
      obtain ⟨p, hp, rfl⟩ := List.mem_map.mp hx
      rw [List.mem_range] at hp
      obtain ⟨y1, y2, y3, y4, y5, y6, y7, y8, y9, S', h⟩ := turn hl (p := p) (by omega) x1 x2 x3 x4 x5 x6 x7 x8 x9 S
      rw [Int.zero_add]
      exact ⟨_, S', h, _, _, _, _, _, _, _, _, _, rfl⟩)
  refine ⟨S', ?_⟩
  have e1 : ev pg (run pg 2) s_law_0 [] [some (.rol (ns.map D.int)), none, none, none, none, none, none, none, none, none] [] = .nx [some (.rol (ns.map D.int)), y1, y2, y3, y4, y5, y6, y7, y8, y9] S' := by
    unfold s_law_0
    rw [ev, ej]
    simp only [b1, items]
    exact el
  rw [ev_seq, e1]
  rfl
end Vm.k53

namespace Vm.k53
open PySem L2 Vm
/-! The end of law_k53_worlds_listed. -/
theorem all_mk {l : PySem.W.OpenLaw} {w : World} {K : PySem.W.Frag} {h : Heap} {mg : Str → Option Value} {fa : Addr} (X : K.In h) (G : h.Ns mainGlobals mg) (hfa : mg "law" = some (.ref fa))
    {A0 : Addr} {oc0 kV0 dc0 pm0 cd0 ct0 : Value} {od0 an0 : Option Addr} {sl0 : Array (Option Value)}
    {A1 : Addr} {oc1 kV1 dc1 pm1 cd1 ct1 : Value} {od1 an1 : Option Addr} {sl1 : Array (Option Value)}
    {A2 : Addr} {oc2 kV2 dc2 pm2 cd2 ct2 : Value} {od2 an2 : Option Addr} {sl2 : Array (Option Value)}
    {A3 : Addr} {oc3 kV3 dc3 pm3 cd3 ct3 : Value} {od3 an3 : Option Addr} {sl3 : Array (Option Value)}
    {A4 : Addr} {oc4 kV4 dc4 pm4 cd4 ct4 : Value} {od4 an4 : Option Addr} {sl4 : Array (Option Value)}
    {A5 : Addr} {oc5 kV5 dc5 pm5 cd5 ct5 : Value} {od5 an5 : Option Addr} {sl5 : Array (Option Value)}
    {A6 : Addr} {oc6 kV6 dc6 pm6 cd6 ct6 : Value} {od6 an6 : Option Addr} {sl6 : Array (Option Value)}
    {A7 : Addr} {oc7 kV7 dc7 pm7 cd7 ct7 : Value} {od7 an7 : Option Addr} {sl7 : Array (Option Value)}
    {A8 : Addr} {oc8 kV8 dc8 pm8 cd8 ct8 : Value} {od8 an8 : Option Addr} {sl8 : Array (Option Value)}
    {u0 : Addr} {uo0 : Option Addr} {un0 : Nat} {us0 : Array (Option Value)}
    (a0 : PySem.W.nsIn K mainGlobals "all_worlds" = some (some (.ref A0)))
    (l0 : K.lookup A0 = some ⟨oc0, od0, .func (PySem.W.fnOf "all_worlds" "all_worlds" (defArgs t_all_worlds) (defBody t_all_worlds) (defScope t_all_worlds) .none kV0 dc0 pm0 an0 cd0 ct0), sl0⟩)
    (c0 : PySem.W.codeIn K cd0 "all_worlds" = true)
    (k0 : PySem.W.keepIn K (.ref A0) = true)
    (a1 : PySem.W.nsIn K mainGlobals "starts" = some (some (.ref A1)))
    (l1 : K.lookup A1 = some ⟨oc1, od1, .func (PySem.W.fnOf "starts" "starts" (defArgs t_starts) (defBody t_starts) (defScope t_starts) .none kV1 dc1 pm1 an1 cd1 ct1), sl1⟩)
    (c1 : PySem.W.codeIn K cd1 "starts" = true)
    (k1 : PySem.W.keepIn K (.ref A1) = true)
    (a2 : PySem.W.nsIn K mainGlobals "_law_bag" = some (some (.ref A2)))
    (l2 : K.lookup A2 = some ⟨oc2, od2, .func (PySem.W.fnOf "_law_bag" "_law_bag" (defArgs t__law_bag) (defBody t__law_bag) (defScope t__law_bag) .none kV2 dc2 pm2 an2 cd2 ct2), sl2⟩)
    (c2 : PySem.W.codeIn K cd2 "_law_bag" = true)
    (k2 : PySem.W.keepIn K (.ref A2) = true)
    (a3 : PySem.W.nsIn K mainGlobals "_law_pick" = some (some (.ref A3)))
    (l3 : K.lookup A3 = some ⟨oc3, od3, .func (PySem.W.fnOf "_law_pick" "_law_pick" (defArgs t__law_pick) (defBody t__law_pick) (defScope t__law_pick) .none kV3 dc3 pm3 an3 cd3 ct3), sl3⟩)
    (c3 : PySem.W.codeIn K cd3 "_law_pick" = true)
    (k3 : PySem.W.keepIn K (.ref A3) = true)
    (a4 : PySem.W.nsIn K mainGlobals "_law_of" = some (some (.ref A4)))
    (l4 : K.lookup A4 = some ⟨oc4, od4, .func (PySem.W.fnOf "_law_of" "_law_of" (defArgs t__law_of) (defBody t__law_of) (defScope t__law_of) .none kV4 dc4 pm4 an4 cd4 ct4), sl4⟩)
    (c4 : PySem.W.codeIn K cd4 "_law_of" = true)
    (k4 : PySem.W.keepIn K (.ref A4) = true)
    (a5 : PySem.W.nsIn K mainGlobals "_law_can" = some (some (.ref A5)))
    (l5 : K.lookup A5 = some ⟨oc5, od5, .func (PySem.W.fnOf "_law_can" "_law_can" (defArgs t__law_can) (defBody t__law_can) (defScope t__law_can) .none kV5 dc5 pm5 an5 cd5 ct5), sl5⟩)
    (c5 : PySem.W.codeIn K cd5 "_law_can" = true)
    (k5 : PySem.W.keepIn K (.ref A5) = true)
    (a6 : PySem.W.nsIn K mainGlobals "_law_due" = some (some (.ref A6)))
    (l6 : K.lookup A6 = some ⟨oc6, od6, .func (PySem.W.fnOf "_law_due" "_law_due" (defArgs t__law_due) (defBody t__law_due) (defScope t__law_due) .none kV6 dc6 pm6 an6 cd6 ct6), sl6⟩)
    (c6 : PySem.W.codeIn K cd6 "_law_due" = true)
    (k6 : PySem.W.keepIn K (.ref A6) = true)
    (a7 : PySem.W.nsIn K mainGlobals "_law_kinds_right" = some (some (.ref A7)))
    (l7 : K.lookup A7 = some ⟨oc7, od7, .func (PySem.W.fnOf "_law_kinds_right" "_law_kinds_right" (defArgs t__law_kinds_right) (defBody t__law_kinds_right) (defScope t__law_kinds_right) .none kV7 dc7 pm7 an7 cd7 ct7), sl7⟩)
    (c7 : PySem.W.codeIn K cd7 "_law_kinds_right" = true)
    (k7 : PySem.W.keepIn K (.ref A7) = true)
    (a8 : PySem.W.nsIn K mainGlobals "law" = some (some (.ref A8)))
    (l8 : K.lookup A8 = some ⟨oc8, od8, .func (PySem.W.fnOf "law" "law" (defArgs t_law) (defBody t_law) (defScope t_law) .none kV8 dc8 pm8 an8 cd8 ct8), sl8⟩)
    (c8 : PySem.W.codeIn K cd8 "law" = true)
    (k8 : PySem.W.keepIn K (.ref A8) = true)
    (z_abs : PySem.W.nsIn K mainGlobals "abs" = some none)
    (z_all : PySem.W.nsIn K mainGlobals "all" = some none)
    (z_bool : PySem.W.nsIn K mainGlobals "bool" = some none)
    (z_int : PySem.W.nsIn K mainGlobals "int" = some none)
    (z_isinstance : PySem.W.nsIn K mainGlobals "isinstance" = some none)
    (z_len : PySem.W.nsIn K mainGlobals "len" = some none)
    (z_list : PySem.W.nsIn K mainGlobals "list" = some none)
    (z_max : PySem.W.nsIn K mainGlobals "max" = some none)
    (z_min : PySem.W.nsIn K mainGlobals "min" = some none)
    (z_range : PySem.W.nsIn K mainGlobals "range" = some none)
    (z_sorted : PySem.W.nsIn K mainGlobals "sorted" = some none)
    (z_str : PySem.W.nsIn K mainGlobals "str" = some none)
    (z_tuple : PySem.W.nsIn K mainGlobals "tuple" = some none)
    (u_0 : K.lookup u0 = some ⟨.type "tuple", uo0, .seq #[.bool false, .bool true] un0, us0⟩)
    (v_FLAGS : PySem.W.nsIn K mainGlobals "FLAGS" = some (some (.ref u0))) :
    ∃ fd : FuncData, (∀ (s : Shared) (v : Value), BindsTo s fd ⟨[v], []⟩ [("_law_script", v)]) ∧ ∀ base : Heap, K.In base → base.Ns mainGlobals mg → FnOk l.prog w K mg base (L2.CX l.prog w) (2 * 3) fa fd ["_law_script"] (spL K) := by
  have e := hfa.symm.trans (PySem.W.mg_of X G a8)
  cases e
  have F0 := fun_mk (st := t_all_worlds) l0 c0 k0
  have F1 := fun_mk (st := t_starts) l1 c1 k1
  have F2 := fun_mk (st := t__law_bag) l2 c2 k2
  have F3 := fun_mk (st := t__law_pick) l3 c3 k3
  have F4 := fun_mk (st := t__law_of) l4 c4 k4
  have F5 := fun_mk (st := t__law_can) l5 c5 k5
  have F6 := fun_mk (st := t__law_due) l6 c6 k6
  have F7 := fun_mk (st := t__law_kinds_right) l7 c7 k7
  have F8 := fun_mk (st := t_law) l8 c8 k8
  let D : Ad := ⟨A0, PySem.W.fnOf "all_worlds" "all_worlds" (defArgs t_all_worlds) (defBody t_all_worlds) (defScope t_all_worlds) .none kV0 dc0 pm0 an0 cd0 ct0, A1, PySem.W.fnOf "starts" "starts" (defArgs t_starts) (defBody t_starts) (defScope t_starts) .none kV1 dc1 pm1 an1 cd1 ct1, A2, PySem.W.fnOf "_law_bag" "_law_bag" (defArgs t__law_bag) (defBody t__law_bag) (defScope t__law_bag) .none kV2 dc2 pm2 an2 cd2 ct2, A3, PySem.W.fnOf "_law_pick" "_law_pick" (defArgs t__law_pick) (defBody t__law_pick) (defScope t__law_pick) .none kV3 dc3 pm3 an3 cd3 ct3, A4, PySem.W.fnOf "_law_of" "_law_of" (defArgs t__law_of) (defBody t__law_of) (defScope t__law_of) .none kV4 dc4 pm4 an4 cd4 ct4, A5, PySem.W.fnOf "_law_can" "_law_can" (defArgs t__law_can) (defBody t__law_can) (defScope t__law_can) .none kV5 dc5 pm5 an5 cd5 ct5, A6, PySem.W.fnOf "_law_due" "_law_due" (defArgs t__law_due) (defBody t__law_due) (defScope t__law_due) .none kV6 dc6 pm6 an6 cd6 ct6, A7, PySem.W.fnOf "_law_kinds_right" "_law_kinds_right" (defArgs t__law_kinds_right) (defBody t__law_kinds_right) (defScope t__law_kinds_right) .none kV7 dc7 pm7 an7 cd7 ct7, fa, PySem.W.fnOf "law" "law" (defArgs t_law) (defBody t_law) (defScope t_law) .none kV8 dc8 pm8 an8 cd8 ct8⟩
  have T : Tx K mg D := {
    m_all_worlds := PySem.W.mg_of X G a0,
    k_all_worlds := k0,
    f_all_worlds := F0,
    b_all_worlds := F0.binds (ps := p_all_worlds) fun _ _ _ _ _ _ us hl => match us, hl with | [_], _ => rfl,
    m_starts := PySem.W.mg_of X G a1,
    k_starts := k1,
    f_starts := F1,
    b_starts := F1.binds (ps := p_starts) fun _ _ _ _ _ _ us hl => match us, hl with | [], _ => rfl,
    m__law_bag := PySem.W.mg_of X G a2,
    k__law_bag := k2,
    f__law_bag := F2,
    b__law_bag := F2.binds (ps := p__law_bag) fun _ _ _ _ _ _ us hl => match us, hl with | [_, _], _ => rfl,
    m__law_pick := PySem.W.mg_of X G a3,
    k__law_pick := k3,
    f__law_pick := F3,
    b__law_pick := F3.binds (ps := p__law_pick) fun _ _ _ _ _ _ us hl => match us, hl with | [_, _], _ => rfl,
    m__law_of := PySem.W.mg_of X G a4,
    k__law_of := k4,
    f__law_of := F4,
    b__law_of := F4.binds (ps := p__law_of) fun _ _ _ _ _ _ us hl => match us, hl with | [_, _], _ => rfl,
    m__law_can := PySem.W.mg_of X G a5,
    k__law_can := k5,
    f__law_can := F5,
    b__law_can := F5.binds (ps := p__law_can) fun _ _ _ _ _ _ us hl => match us, hl with | [_, _], _ => rfl,
    m__law_due := PySem.W.mg_of X G a6,
    k__law_due := k6,
    f__law_due := F6,
    b__law_due := F6.binds (ps := p__law_due) fun _ _ _ _ _ _ us hl => match us, hl with | [_], _ => rfl,
    m__law_kinds_right := PySem.W.mg_of X G a7,
    k__law_kinds_right := k7,
    f__law_kinds_right := F7,
    b__law_kinds_right := F7.binds (ps := p__law_kinds_right) fun _ _ _ _ _ _ us hl => match us, hl with | [_], _ => rfl,
    m_law := PySem.W.mg_of X G a8,
    k_law := k8,
    f_law := F8,
    b_law := F8.binds (ps := p_law) fun _ _ _ _ _ _ us hl => match us, hl with | [_], _ => rfl,
    bk_all_worlds_0_ahead := bk_of F0 fun _ _ _ _ _ _ us ws l1 l2 => match us, ws, l1, l2 with | [], [w0], _, _ => ⟨[w0], ⟨w0, [], rfl, rfl, rfl⟩, rfl⟩,
    n_abs := PySem.W.mg_none_of X G z_abs,
    n_all := PySem.W.mg_none_of X G z_all,
    n_bool := PySem.W.mg_none_of X G z_bool,
    n_int := PySem.W.mg_none_of X G z_int,
    n_isinstance := PySem.W.mg_none_of X G z_isinstance,
    n_len := PySem.W.mg_none_of X G z_len,
    n_list := PySem.W.mg_none_of X G z_list,
    n_max := PySem.W.mg_none_of X G z_max,
    n_min := PySem.W.mg_none_of X G z_min,
    n_range := PySem.W.mg_none_of X G z_range,
    n_sorted := PySem.W.mg_none_of X G z_sorted,
    n_str := PySem.W.mg_none_of X G z_str,
    n_tuple := PySem.W.mg_none_of X G z_tuple,
    g_FLAGS := gk_of X G v_FLAGS (kv_tup (us := [.bool false, .bool true]) u_0 (kvs_cons kv_bl (kvs_cons kv_bl kvs_nil))) }
  exact ⟨D.d_law, fun s v => .of_eq rfl, fun base _ _ => ((all T 3).o_law).imp (spL_imp (Z := zz K) good)⟩
end Vm.k53
open PySem PySem.W PyProof.Rows in
set_option maxRecDepth 100000 in
set_option maxHeartbeats 0 in
theorem PySem.Challenge.cw_madeahead_k53_worlds_listed_holds : PySem.Challenge.rw_madeahead_k53_worlds_listed.Holds := by
  w_on; o_law; k_head; (case hw => w_witness2)
  k_fill
  refine Vm.walkV (k := 2 * 3) (l := PySem.Challenge.rw_madeahead_k53_worlds_listed) rfl rfl ⟨rfl, by decide, by decide⟩ (fun w h Y => PySem.W.kIn_of Y) ?F
  case F =>
    intro w mg fa h KX G hmg
    refine' Vm.k53.all_mk KX G hmg ?a0 ?l0 ?c0 ?k0 ?a1 ?l1 ?c1 ?k1 ?a2 ?l2 ?c2 ?k2 ?a3 ?l3 ?c3 ?k3 ?a4 ?l4 ?c4 ?k4 ?a5 ?l5 ?c5 ?k5 ?a6 ?l6 ?c6 ?k6 ?a7 ?l7 ?c7 ?k7 ?a8 ?l8 ?c8 ?k8 ?z_abs ?z_all ?z_bool ?z_int ?z_isinstance ?z_len ?z_list ?z_max ?z_min ?z_range ?z_sorted ?z_str ?z_tuple ?u_0 ?v_FLAGS
    (case a0 => k_is)
    (case l0 => k_is)
    (case c0 => k_is)
    (case k0 => k_is)
    (case a1 => k_is)
    (case l1 => k_is)
    (case c1 => k_is)
    (case k1 => k_is)
    (case a2 => k_is)
    (case l2 => k_is)
    (case c2 => k_is)
    (case k2 => k_is)
    (case a3 => k_is)
    (case l3 => k_is)
    (case c3 => k_is)
    (case k3 => k_is)
    (case a4 => k_is)
    (case l4 => k_is)
    (case c4 => k_is)
    (case k4 => k_is)
    (case a5 => k_is)
    (case l5 => k_is)
    (case c5 => k_is)
    (case k5 => k_is)
    (case a6 => k_is)
    (case l6 => k_is)
    (case c6 => k_is)
    (case k6 => k_is)
    (case a7 => k_is)
    (case l7 => k_is)
    (case c7 => k_is)
    (case k7 => k_is)
    (case a8 => k_is)
    (case l8 => k_is)
    (case c8 => k_is)
    (case k8 => k_is)
    (case z_abs => k_is)
    (case z_all => k_is)
    (case z_bool => k_is)
    (case z_int => k_is)
    (case z_isinstance => k_is)
    (case z_len => k_is)
    (case z_list => k_is)
    (case z_max => k_is)
    (case z_min => k_is)
    (case z_range => k_is)
    (case z_sorted => k_is)
    (case z_str => k_is)
    (case z_tuple => k_is)
    (case v_FLAGS => k_is)
    (case u_0 => k_is)

