import PyProof.Rows.All
import Wide.All
import OpenK.AllK
import Wide.FinOn
import HandS.ForMost
import HandS.Exc
import HandS.TryOnly
import HandS.ExcOwn
import HandS.CallSlots
import HandS.WordsExc
import HandS.Wide
import HandS.Conv
import HandS.Flow
import HandS.IsInst
import HandS.Defaults
import HandS.TupAny
import HandS.Deep
import HandS.WideBits
import KE.SortData
import KE.SortLaws
import KE.IntTextLaws
import KE.KIntText
import PyProof.CollectStr
import PyProof.ListRange
import HandS.Strs
import HandS.TupMul
import HandS.Style
import HandS.Text
import HandS.More
import HandS.Property
import HandS.ExcInit
import HandS.ExcField
import KE.KExcIs
import HandS.Zip
import KE.GoesEnum
import HandS.Dict
import HandS.SetKeys
import HandS.ClsMeth
import HandS.FStr
import HandS.RaiseMore
import HandS.Star
import KE.KFmtOwn
import KE.KOpsOwn
import PyProof.FString2
import HandS.MethStar
import HandS.DictComp
import HandS.SetFor
import HandS.ListItems
import HandS.GenList
import HandS.WordsDict
import HandS.FStrTup
import PyProof.ReprHeads
import PyProof.ReprHeadsEmpty
import PyProof.StrHeap
import PyProof.CallStr
import PyProof.ReprLen
import PySem.Challenge.RW_madeahead_k02_days_made
set_option autoImplicit false
set_option Elab.async false
set_option linter.all false
set_option maxRecDepth 100000
set_option maxHeartbeats 4000000
namespace Vm
open PySem
/-- a value: tuples, texts, the script (scr), and what is never changed any more (rol a list, rin an instance, rdc a dict) by what they hold; lists and objects that may change by their place in the store -/
inductive D where
  | non | bl (b : Bool) | int (i : Int) | str (s : List Nat) | tup (xs : List D) | scr (xs : List D) | rol (xs : List D) | rin (c : Nat) (ns : List Nat) (ds : List D) | rdc (ks ds : List D) | ref (i : Nat) | cls (c : Nat) | unk
  deriving Inhabited, Repr
mutual
def D.beq : D → D → Bool
  | .non, .non => true
  | .bl a, .bl b => a == b
  | .int a, .int b => a == b
  | .str a, .str b => a == b
  | .tup a, .tup b => D.beqs a b
  | .scr a, .scr b => D.beqs a b
  | .rol a, .rol b => D.beqs a b
  | .rin c ns a, .rin c' ns' b => c == c' && (ns == ns' && D.beqs a b)
  | .rdc k a, .rdc k' b => D.beqs k k' && D.beqs a b
  | .ref a, .ref b => a == b
  | .cls a, .cls b => a == b
  | .unk, .unk => true
  | _, _ => false
def D.beqs : List D → List D → Bool
  | [], [] => true
  | a :: as, b :: bs => D.beq a b && D.beqs as bs
  | _, _ => false
end
mutual
theorem D.of_beq : ∀ {a b : D}, D.beq a b = true → a = b
  | .non, b, h => by cases b <;> simp [D.beq] at h <;> rfl
  | .bl _, b, h => by cases b <;> simp [D.beq] at h <;> rw [h]
  | .int _, b, h => by cases b <;> simp [D.beq] at h <;> rw [h]
  | .str _, b, h => by cases b <;> simp [D.beq] at h <;> rw [h]
  | .tup xs, b, h => by
    cases b with
    | tup ys => simp only [D.beq] at h; rw [D.of_beqs h]
    | _ => simp [D.beq] at h
  | .scr xs, b, h => by
    cases b with
    | scr ys => simp only [D.beq] at h; rw [D.of_beqs h]
    | _ => simp [D.beq] at h
  | .rol xs, b, h => by
    cases b with
    | rol ys => simp only [D.beq] at h; rw [D.of_beqs h]
    | _ => simp [D.beq] at h
  | .rin c ns xs, b, h => by
    cases b with
    | rin c' ns' ys =>
      simp only [D.beq, Bool.and_eq_true, beq_iff_eq] at h
      obtain ⟨rfl, rfl, h⟩ := h
      rw [D.of_beqs h]
    | _ => simp [D.beq] at h
  | .rdc ks xs, b, h => by
    cases b with
    | rdc ks' ys =>
      simp only [D.beq, Bool.and_eq_true] at h
      rw [D.of_beqs h.1, D.of_beqs h.2]
    | _ => simp [D.beq] at h
  | .ref _, b, h => by cases b <;> simp [D.beq] at h <;> rw [h]
  | .cls _, b, h => by cases b <;> simp [D.beq] at h <;> rw [h]
  | .unk, b, h => by cases b <;> simp [D.beq] at h <;> rfl
theorem D.of_beqs : ∀ {a b : List D}, D.beqs a b = true → a = b
  | [], b, h => by cases b <;> simp [D.beqs] at h <;> rfl
  | x :: xs, b, h => by
    cases b with
    | nil => simp [D.beqs] at h
    | cons y ys =>
      simp only [D.beqs, Bool.and_eq_true] at h
      rw [D.of_beq h.1, D.of_beqs h.2]
end
mutual
theorem D.beq_self : ∀ a : D, D.beq a a = true
  | .non => rfl
  | .bl _ => by simp [D.beq]
  | .int _ => by simp [D.beq]
  | .str _ => by simp [D.beq]
  | .tup xs => by simp only [D.beq]; exact D.beqs_self xs
  | .scr xs => by simp only [D.beq]; exact D.beqs_self xs
  | .rol xs => by simp only [D.beq]; exact D.beqs_self xs
  | .rin _ _ xs => by simp only [D.beq, Bool.and_eq_true, beq_iff_eq, true_and]; exact D.beqs_self xs
  | .rdc ks xs => by simp only [D.beq, Bool.and_eq_true]; exact ⟨D.beqs_self ks, D.beqs_self xs⟩
  | .ref _ => by simp [D.beq]
  | .cls _ => by simp [D.beq]
  | .unk => rfl
theorem D.beqs_self : ∀ a : List D, D.beqs a a = true
  | [] => rfl
  | x :: xs => by simp only [D.beqs, Bool.and_eq_true]; exact ⟨D.beq_self x, D.beqs_self xs⟩
end
instance : DecidableEq D := fun a b => if h : D.beq a b = true then .isTrue (D.of_beq h) else .isFalse fun e => h (e ▸ D.beq_self a)
/-- what stands in the store: a list, an instance, a dict, a set -/
inductive Ob where
  | lst (xs : List D) | ins (c : Nat) (fs : List (Nat × D)) | dct (kvs : List (D × D)) | set (xs : List D)
  deriving Inhabited, Repr
def Ob.isLst : Ob → List D → Bool
  | .lst xs, ys => D.beqs xs ys
  | _, _ => false
abbrev Sl := List (Option D)
abbrev Sto := List Ob
/-- the items of a list at i -/
def Sto.l (S : Sto) (i : Nat) : Option (List D) :=
  match S[i]? with
  | some (.lst xs) => some xs
  | _ => none
/-- the items of a list -/
def Sto.lv (S : Sto) : D → Option (List D)
  | .ref i => S.l i
  | .rol xs => some xs
  | _ => none
mutual
def D.flat : D → Bool
  | .ref _ => false
  | .tup xs => D.flats xs
  | .scr xs => D.flats xs
  | .rol xs => D.flats xs
  | .rin _ _ xs => D.flats xs
  | .rdc ks xs => D.flats ks && D.flats xs
  | _ => true
def D.flats : List D → Bool
  | [] => true
  | x :: xs => D.flat x && D.flats xs
end
def flatF (fs : List (Nat × D)) : Bool := fs.all fun p => p.2.flat
def Ob.flat : Ob → Bool
  | .lst xs => D.flats xs
  | .ins _ fs => flatF fs
  | .dct kvs => kvs.all fun p => p.1.flat && p.2.flat
  | .set xs => D.flats xs
inductive Res where
  | val (ds : List D) (S : Sto)
  | nx (σ : Sl) (S : Sto) | rt (d : D) (S : Sto) | bk (σ : Sl) (S : Sto) | ct (σ : Sl) (S : Sto)
  | exc (c : Nat) (fs : List (Nat × D)) (σ : Sl) (S : Sto)
  | bad
  deriving Inhabited, Repr
/-- a value, then k -/
def b1 (σ : Sl) (r : Res) (k : D → Sto → Res) : Res :=
  match r with
  | .val [d] S => k d S
  | .exc c fs _ S => .exc c fs σ S
  | _ => .bad
/-- values, then k -/
def bv (σ : Sl) (r : Res) (k : List D → Sto → Res) : Res :=
  match r with
  | .val ds S => k ds S
  | .exc c fs _ S => .exc c fs σ S
  | _ => .bad
/-- a statement, then k -/
def bn (r : Res) (k : Sl → Sto → Res) : Res :=
  match r with
  | .nx σ S => k σ S
  | r => r
/-- a target's end, then k -/
def bg (r : Res) (k : Sl → Sto → Res) : Res :=
  match r with
  | .nx σ S => k σ S
  | _ => .bad
/-- a turn of a loop, then k -/
def turnR (r : Res) (k : Sl → Sto → Res) : Res :=
  match r with
  | .nx σ S => k σ S
  | .ct σ S => k σ S
  | .bk σ S => .nx σ S
  | .rt d S => .rt d S
  | .exc c fs σ S => .exc c fs σ S
  | _ => .bad
abbrev SL : Nat := 16777216
def mapO {α β : Type} (f : α → Option β) : List α → Option (List β)
  | [] => some []
  | x :: xs => match f x with
    | some p => match mapO f xs with
      | some q => some (p :: q)
      | none => none
    | none => none
/-- what a value reads as; the number bounds the depth -/
def pd (S : Sto) : Nat → D → Option PyData
  | 0 => fun d => match d with
    | .non => some .none
    | .bl b => some (.bool b)
    | .int i => some (.int i)
    | .str s => some (.str ⟨s.toArray⟩)
    | _ => none
  | n + 1 => fun d => match d with
    | .non => some .none
    | .bl b => some (.bool b)
    | .int i => some (.int i)
    | .str s => some (.str ⟨s.toArray⟩)
    | .tup xs => match mapO (pd S n) xs with
      | some ps => some (.tuple ps)
      | none => none
    | .scr xs => match mapO (pd S n) xs with
      | some ps => some (.list ps)
      | none => none
    | .rol xs => match mapO (pd S n) xs with
      | some ps => some (.list ps)
      | none => none
    | .ref i => match S.l i with
      | some xs => match mapO (pd S n) xs with
        | some ps => some (.list ps)
        | none => none
      | none => none
    | _ => none
def pds (S : Sto) (n : Nat) (xs : List D) : Option (List PyData) := mapO (pd S n) xs
section
variable {S : Sto} {n : Nat}
theorem pd_non : pd S n .non = some .none := by cases n <;> rfl
theorem pd_bl {b : Bool} : pd S n (.bl b) = some (.bool b) := by cases n <;> rfl
theorem pd_int {i : Int} : pd S n (.int i) = some (.int i) := by cases n <;> rfl
theorem pd_str {s : List Nat} : pd S n (.str s) = some (.str ⟨s.toArray⟩) := by cases n <;> rfl
theorem pd_cls {c : Nat} : pd S n (.cls c) = none := by cases n <;> rfl
theorem pd_tup {xs : List D} : pd S (n + 1) (.tup xs) = (pds S n xs).map PyData.tuple := by
  unfold pds
  simp only [pd]
  cases mapO (pd S n) xs <;> rfl
theorem pd_scr {xs : List D} : pd S (n + 1) (.scr xs) = (pds S n xs).map PyData.list := by
  unfold pds
  simp only [pd]
  cases mapO (pd S n) xs <;> rfl
theorem pd_rol {xs : List D} : pd S (n + 1) (.rol xs) = (pds S n xs).map PyData.list := by
  unfold pds
  simp only [pd]
  cases mapO (pd S n) xs <;> rfl
theorem pd_ref {i : Nat} : pd S (n + 1) (.ref i) = (S.l i).bind fun xs => (pds S n xs).map PyData.list := by
  unfold pds
  simp only [pd]
  cases S.l i with
  | none => rfl
  | some xs =>
    simp only [Option.bind_some]
    cases mapO (pd S n) xs <;> rfl
theorem pds_nil : pds S n [] = some [] := rfl
theorem pds_con {x : D} {xs : List D} : pds S n (x :: xs) = match pd S n x with
    | some p => (pds S n xs).map (p :: ·)
    | none => none := by
  unfold pds
  simp only [mapO]
  cases pd S n x with
  | none => rfl
  | some p => cases mapO (pd S n) xs <;> rfl
end
/-- Python's == of plain data -/
def eqD (S : Sto) (a b : D) : Option Bool :=
  match pd S 40 a, pd S 40 b with
  | some x, some y => some (PyData.eqv x y)
  | _, _ => none
def mulOk (i j : Int) : Bool := decide (i.natAbs < 18446744073709551616) || decide (j.natAbs < 18446744073709551616) || decide (i.natAbs.log2 + j.natAbs.log2 < 1000000)
def divOk (j : Int) : Bool := decide (j ≠ 0) && (decide (j.natAbs < 1073741824) || (decide (0 < j) && decide (j.natAbs.log2 < 9000)))
def powOk (i j : Int) : Bool := decide (0 ≤ j) && decide (j ≤ 1000000) && decide (i.natAbs < 18446744073709551616)
def shlOk (i j : Int) : Bool := decide (0 ≤ j) && decide (j ≤ 4096) && decide (i.natAbs < 2 ^ 8192)
def arith (op : Operator) (i j : Int) : Option Int :=
  match op with
  | .Add => some (i + j)
  | .Sub => some (i - j)
  | .Mult => if mulOk i j then some (i * j) else none
  | .FloorDiv => if divOk j then some (i.fdiv j) else none
  | .Mod => if j = 0 then none else some (i.fmod j)
  | .Pow => if powOk i j then some (i ^ j.toNat) else none
  | .BitAnd => some (Builtin.bitAnd i j)
  | .BitOr => some (Builtin.bitOr i j)
  | .BitXor => some (Builtin.bitXor i j)
  | .LShift => if shlOk i j then some (i * 2 ^ j.toNat) else none
  | .RShift => if 0 ≤ j then some (i / 2 ^ j.toNat) else none
  | _ => none
/-- sums and products of lists -/
def binLst (op : Operator) (a b : D) (S : Sto) : Res :=
  match op with
  | .Add => match S.lv a, S.lv b with
    | some xs, some ys => if xs.length + ys.length ≤ SL then .val [.ref S.length] (S ++ [.lst (xs ++ ys)]) else .bad
    | _, _ => .bad
  | .Mult => match S.lv a, b with
    | some xs, .int k => if 0 ≤ k ∧ k ≤ 16777216 ∧ xs.length * k.toNat ≤ SL then .val [.ref S.length] (S ++ [.lst (List.replicate k.toNat xs).flatten]) else .bad
    | _, _ => .bad
  | _ => .bad
def opBin (op : Operator) (a b : D) (S : Sto) : Res :=
  match a, b with
  | .int i, .int j => match arith op i j with
    | some k => .val [.int k] S
    | none => .bad
  | .str x, .str y => match op with
    | .Add => if x.length + y.length ≤ SL then .val [.str (x ++ y)] S else .bad
    | _ => .bad
  | .str x, .int k => match op with
    | .Mult => if 0 ≤ k ∧ k ≤ 16777216 ∧ x.length * k.toNat ≤ SL then .val [.str (List.replicate k.toNat x).flatten] S else .bad
    | _ => .bad
  | .tup xs, .tup ys => match op with
    | .Add => if xs.length + ys.length ≤ SL then .val [.tup (xs ++ ys)] S else .bad
    | _ => .bad
  | .tup xs, .int k => match op with
    | .Mult => if (!xs.isEmpty) = true ∧ 2 ≤ k ∧ k ≤ 1000 ∧ xs.length ≤ 1000 then .val [.tup (List.replicate k.toNat xs).flatten] S else .bad
    | _ => .bad
  | a, b => binLst op a b S
def tru (S : Sto) (d : D) : Option Bool :=
  match d with
  | .non => some false
  | .bl b => some b
  | .int i => some (i != 0)
  | .str s => some (!s.isEmpty)
  | .tup xs => some (!xs.isEmpty)
  | .scr xs => some (!xs.isEmpty)
  | .rol xs => some (!xs.isEmpty)
  | .ref i => (S.l i).map fun xs => !xs.isEmpty
  | _ => none
def contains (S : Sto) (x c : D) : Option Bool :=
  match c with
  | .tup ys => match pd S 40 x, pds S 39 ys with
    | some p, some ps => some (ps.any fun q => PyData.eqv q p)
    | _, _ => none
  | .str s => match x with
    | .str t => some (!(Builtin.Str.occurrences ⟨s.toArray⟩ ⟨t.toArray⟩ 0 s.length 1).isEmpty)
    | _ => none
  | c => match S.lv c with
    | some ys => match pd S 40 x, pds S 39 ys with
      | some p, some ps => some (ps.any fun q => PyData.eqv q p)
      | _, _ => none
    | none => none
/-- i < j, so that it is reckoned by the numbers' shape -/
def ltI : Int → Int → Bool
  | .ofNat a, .ofNat b => Nat.blt a b
  | .ofNat _, .negSucc _ => false
  | .negSucc _, .ofNat _ => true
  | .negSucc a, .negSucc b => Nat.blt b a
def leI (i j : Int) : Bool := !ltI j i
theorem ltI_eq (i j : Int) : ltI i j = decide (i < j) := by
  rw [Bool.eq_iff_iff, decide_eq_true_eq]
  cases i with
  | ofNat a =>
    cases j with
    | ofNat b => simp only [ltI, Nat.blt_eq]; exact Int.ofNat_lt.symm
    | negSucc b => simp only [ltI]; constructor
                   · intro h; cases h
                   · intro h; exact absurd h (by rw [Int.ofNat_eq_natCast]; omega)
  | negSucc a =>
    cases j with
    | ofNat b => simp only [ltI]; constructor
                 · intro _; rw [Int.ofNat_eq_natCast]; omega
                 · intro _; trivial
    | negSucc b => simp only [ltI, Nat.blt_eq]; omega
theorem leI_eq (i j : Int) : leI i j = decide (i ≤ j) := by
  rw [leI, ltI_eq, Bool.eq_iff_iff]
  simp
/-- the order of texts -/
def ltS : List Nat → List Nat → Bool
  | [], [] => false
  | [], _ :: _ => true
  | _ :: _, [] => false
  | a :: as, b :: bs => if Nat.blt a b then true else if Nat.beq a b then ltS as bs else false
theorem ltS_eq : ∀ (a b : List Nat), ltS a b = decide (a < b)
  | [], [] => by simp [ltS]
  | [], _ :: _ => by simp [ltS]
  | _ :: _, [] => by simp [ltS]
  | a :: as, b :: bs => by
    rw [ltS, ltS_eq as bs, Bool.eq_iff_iff, decide_eq_true_eq, List.cons_lt_cons_iff]
    by_cases h1 : a < b
    · simp [Nat.blt_eq, h1]
    · by_cases h2 : a = b
      · subst h2; simp [Nat.blt_eq]
      · have : Nat.beq a b = false := by
          cases e : Nat.beq a b with
          | true => exact absurd (Nat.eq_of_beq_eq_true e) h2
          | false => rfl
        simp [Nat.blt_eq, h1, h2, this]
def opCmp (op : CmpOp) (a b : D) (S : Sto) : Option Bool :=
  match op with
  | .Eq => eqD S a b
  | .NotEq => (eqD S a b).map (!·)
  | .Lt => match a, b with
    | .int i, .int j => some (ltI i j)
    | .str x, .str y => some (ltS x y)
    | _, _ => none
  | .LtE => match a, b with
    | .int i, .int j => some (leI i j)
    | .str x, .str y => some (!ltS y x)
    | _, _ => none
  | .Gt => match a, b with
    | .int i, .int j => some (ltI j i)
    | .str x, .str y => some (ltS y x)
    | _, _ => none
  | .GtE => match a, b with
    | .int i, .int j => some (leI j i)
    | .str x, .str y => some (!ltS x y)
    | _, _ => none
  | .Is => match b with
    | .non => some (match a with | .non => true | _ => false)
    | .bl y => match a with
      | .bl x => some (decide (x = y))
      | _ => none
    | _ => none
  | .IsNot => match b with
    | .non => some (match a with | .non => false | _ => true)
    | .bl y => match a with
      | .bl x => some (!decide (x = y))
      | _ => none
    | _ => none
  | .In => contains S a b
  | .NotIn => (contains S a b).map (!·)
def isKey : D → Bool
  | .int _ => true
  | .str _ => true
  | _ => false
def dctOf (S : Sto) : D → Option (List (D × D))
  | .ref i => match S[i]? with
    | some (.dct kvs) => some kvs
    | _ => none
  | .rdc ks ds => some (ks.zip ds)
  | _ => none
def getK : List (D × D) → D → Option D
  | [], _ => none
  | (k, d) :: r, x => if D.beq k x then some d else getK r x
def putK (kvs : List (D × D)) (x y : D) : List (D × D) :=
  if kvs.any (fun p => D.beq p.1 x) then kvs.map (fun p => if D.beq p.1 x then (p.1, y) else p) else kvs ++ [(x, y)]
def delK (kvs : List (D × D)) (x : D) : List (D × D) := kvs.filter fun p => !D.beq p.1 x
/-- the pairs of a display -/
def pairsOf : List D → Option (List (D × D))
  | [] => some []
  | k :: d :: r => if isKey k then (match pairsOf r with
    | some q => some ((k, d) :: q)
    | none => none) else none
  | _ => none
def mergeD (acc : List (D × D)) : List (D × D) → List (D × D)
  | [] => acc
  | p :: r => mergeD (putK acc p.1 p.2) r
def opIx (a i : D) (S : Sto) : Option D :=
  match i with
  | .int k => match a with
    | .tup xs => L2.atI xs k
    | .scr xs => L2.atI xs k
    | .str s => (L2.atI s k).map fun c => .str [c]
    | a => match S.lv a with
      | some xs => L2.atI xs k
      | none => none
  | _ => none
def cutD {α : Type} (xs : List α) (lo hi : Option Int) : List α := (xs.drop (HT.sIx xs.length 0 lo)).take (HT.sIx xs.length xs.length hi - HT.sIx xs.length 0 lo)
def opSlice (a : D) (lo hi : Option Int) (S : Sto) : Res :=
  match a with
  | .tup xs => .val [.tup (cutD xs lo hi)] S
  | .scr xs => if xs.length ≤ SL then .val [.ref S.length] (S ++ [.lst (cutD xs lo hi)]) else .bad
  | .str s => .val [.str (cutD s lo hi)] S
  | a => match S.lv a with
    | some xs => .val [.ref S.length] (S ++ [.lst (cutD xs lo hi)])
    | none => .bad
def ends : D → Option (Option Int)
  | .non => some none
  | .int i => some (some i)
  | _ => none
/-- every k-th item -/
def stepL {α : Type} (k : Nat) (xs : List α) : List α := (List.range ((xs.length + k - 1) / k)).filterMap fun i => xs[i * k]?
def ins1 {α : Type} (le : α → α → Bool) (x : α) : List α → List α
  | [] => [x]
  | y :: ys => if le x y then x :: y :: ys else y :: ins1 le x ys
def isort {α : Type} (le : α → α → Bool) : List α → List α
  | [] => []
  | x :: xs => ins1 le x (isort le xs)
def alikeB (ps : List PyData) : Bool := ps.all fun p => ps.all fun q => PySem.W.alike p q
def sortableB (ps : List PyData) : Bool :=
  (ps.all fun p => match p with | .tuple (_ :: _) => true | _ => false) || (ps.all fun p => match p with | .tuple _ => false | .none => false | _ => true)
/-- a list of data in order -/
def sortD (S : Sto) (xs : List D) : Option (List D) :=
  match pds S 39 xs with
  | some ps => if alikeB ps && sortableB ps then some ((isort (PySem.W.dataLe false fun b : D × PyData => b.2) (xs.zip ps)).map (·.1)) else none
  | none => none
inductive Ty where
  | int | str | bool | tuple | list | dict | own (c : Nat) | obj (c : Nat)
  deriving DecidableEq, Inhabited, Repr
inductive Bi where
  | len | abs | max | min | int | bool | str | list | tuple | sorted | all | any | isinst (t : Ty) | sum | repr | lend | listt | listd | sortedd | sorteds | lens
  deriving DecidableEq, Inhabited, Repr
def bools : List D → Option (List Bool)
  | [] => some []
  | .bl b :: r => (bools r).map (b :: ·)
  | _ => none
def intsOf : List D → Option (List Int)
  | [] => some []
  | .int i :: r => match intsOf r with
    | some q => some (i :: q)
    | none => none
  | _ => none
/-- the kind of plain data -/
inductive DT where
  | non | bool | int | str | tuple | list
  deriving DecidableEq, Inhabited, Repr
def dty (S : Sto) : D → Option DT
  | .non => some .non
  | .bl _ => some .bool
  | .int _ => some .int
  | .str _ => some .str
  | .unk => some .str
  | .tup _ => some .tuple
  | .scr _ => some .list
  | .rol _ => some .list
  | .ref i => match S[i]? with
    | some (.lst _) => some .list
    | _ => none
  | _ => none
def kin : DT → Ty → Option Bool
  | .bool, .int => some true
  | .bool, .bool => some true
  | .int, .int => some true
  | .str, .str => some true
  | .tuple, .tuple => some true
  | .list, .list => some true
  | _, .own _ => none
  | _, .obj _ => none
  | _, _ => some false
def isTy (S : Sto) (d : D) (t : Ty) : Option Bool := (dty S d).bind fun n => kin n t
/-- a built-in type -/
def isBt : Ty → Bool
  | .own _ => false
  | .obj _ => false
  | _ => true
/-- the items of what is walked -/
def items (S : Sto) : D → Option (List D)
  | .tup xs => some xs
  | .scr xs => some xs
  | .str s => some (s.map fun c => .str [c])
  | d => S.lv d
/-- a text of digits, its number -/
def numT (z : List Nat) : Bool := z.all (fun c => decide (48 ≤ c) && decide (c ≤ 57)) && (decide (z ≠ []) && decide (z.length ≤ 640))
def numV (z : List Nat) : Nat := z.foldl (fun a c => a * 10 + (c - 48)) 0
def txtOk (z : List Nat) : Bool := decide (z.length ≤ SL) && z.all fun c => Nat.blt c 1114112
/-- a key that may be given out -/
def keyB : D → Bool
  | .int _ => true
  | .str s => txtOk s
  | _ => false
/-- each number once -/
def dedI : List D → List D
  | [] => []
  | x :: r => if r.any (fun y => D.beq x y) then dedI r else x :: dedI r
def setOf (S : Sto) : D → Option (List D)
  | .ref i => match S[i]? with
    | some (.set xs) => some xs
    | _ => none
  | _ => none
def callB1 (b : Bi) (d : D) (S : Sto) : Res :=
  match b with
  | .lend => match dctOf S d with
    | some kvs => .val [.int kvs.length] S
    | none => .bad
  | .listt => match d with
    | .str s => .val [.ref S.length] (S ++ [.lst (s.map fun c => .str [c])])
    | _ => .bad
  | .listd => match dctOf S d with
    | some kvs => if kvs.all (fun p => keyB p.1) then .val [.ref S.length] (S ++ [.lst (kvs.map (·.1))]) else .bad
    | none => .bad
  | .sortedd => match dctOf S d with
    | some kvs => if kvs.all (fun p => keyB p.1) then (match sortD S (kvs.map (·.1)) with
      | some ys => .val [.ref S.length] (S ++ [.lst ys])
      | none => .bad) else .bad
    | none => .bad
  | .sorteds => match setOf S d with
    | some xs => match sortD S (dedI xs) with
      | some ys => .val [.ref S.length] (S ++ [.lst ys])
      | none => .bad
    | none => .bad
  | .lens => match setOf S d with
    | some xs => .val [.int (dedI xs).length] S
    | none => .bad
  | .len => match d with
    | .str s => .val [.int s.length] S
    | .tup xs => .val [.int xs.length] S
    | .scr xs => .val [.int xs.length] S
    | d => match S.lv d with
      | some xs => .val [.int xs.length] S
      | none => .bad
  | .abs => match d with
    | .int i => .val [.int (if i < 0 then -i else i)] S
    | _ => .bad
  | .int => match d with
    | .int i => .val [.int i] S
    | .bl b => .val [.int (if b then 1 else 0)] S
    | .str s => if numT s then .val [.int (numV s : Nat)] S else .bad
    | _ => .bad
  | .bool => match d with
    | .int i => .val [.bl (i != 0)] S
    | .bl b => .val [.bl b] S
    | _ => .bad
  | .list => match d with
    | .tup xs => .val [.ref S.length] (S ++ [.lst xs])
    | d => match S.lv d with
      | some xs => .val [.ref S.length] (S ++ [.lst xs])
      | none => .bad
  | .tuple => match d with
    | .tup xs => .val [.tup xs] S
    | d => match S.lv d with
      | some xs => .val [.tup xs] S
      | none => .bad
  | .sorted => match S.lv d with
    | some xs => match sortD S xs with
      | some ys => .val [.ref S.length] (S ++ [.lst ys])
      | none => .bad
    | none => .bad
  | .all => match (S.lv d).bind bools with
    | some bs => .val [.bl (bs.all id)] S
    | none => .bad
  | .any => match (S.lv d).bind bools with
    | some bs => .val [.bl (bs.any id)] S
    | none => .bad
  | .sum => match (S.lv d).bind intsOf with
    | some is => .val [.int is.sum] S
    | none => .bad
  | .isinst t => match isTy S d t with
    | some b => .val [.bl b] S
    | none => .bad
  | _ => .bad
def callB2 (b : Bi) (d e : D) (S : Sto) : Res :=
  match b with
  | .max => match d with
    | .int i => match e with
      | .int j => .val [.int (if j > i then j else i)] S
      | _ => .bad
    | _ => .bad
  | .min => match d with
    | .int i => match e with
      | .int j => .val [.int (if j < i then j else i)] S
      | _ => .bad
    | _ => .bad
  | _ => .bad
def callB (b : Bi) (as : List D) (S : Sto) : Res :=
  match as with
  | [d] => callB1 b d S
  | [d, e] => callB2 b d e S
  | _ => .bad
/-- methods of the built-in types -/
inductive Bm where
  | append | pop0 | pop1 | extend | index | count | get1 | get2 | setdefault | items0 | join | partition | split | insert | tindex
  deriving DecidableEq, Inhabited, Repr
/-- whether it is a receiver of such a method -/
def rcv (m : Bm) (x : D) (S : Sto) : Bool :=
  match m with
  | .join | .partition | .split => match x with | .str _ => true | _ => false
  | .get1 | .get2 | .setdefault | .items0 => false
  | .tindex => match x with | .tup _ => true | _ => false
  | .index => (S.lv x).isSome
  | _ => match x with | .ref i => (S.l i).isSome | _ => false
/-- the place and what is put there -/
def insA : List D → Option (Int × D)
  | [.int k, d] => some (k, d)
  | _ => none
/-- the first place of a value among some -/
def findK (p : PyData) : List PyData → Option Nat
  | [] => none
  | q :: qs => if PyData.eqv q p then some 0 else (findK p qs).map (· + 1)
def indexD (S : Sto) (x : D) (ys : List D) : Option Nat :=
  match pd S 40 x, pds S 39 ys with
  | some p, some ps => findK p ps
  | _, _ => none
/-- the items of a list or a tuple that is put behind a list -/
def extOf (S : Sto) : D → Option (List D)
  | .tup xs => some xs
  | d => S.lv d
/-- pairs of a key and a value -/
def pairsD : List D → Option (List (D × D))
  | [] => some []
  | x :: xs => match x with
    | .tup [k, d] => match pairsD xs with
      | some q => some ((k, d) :: q)
      | none => none
    | _ => none
/-- texts -/
def strsOf : List D → Option (List (List Nat))
  | [] => some []
  | .str s :: r => match strsOf r with
    | some q => some (s :: q)
    | none => none
  | _ => none
/-- texts one behind the other, another one between -/
def joinT (sep : List Nat) : List (List Nat) → List Nat
  | [] => []
  | [s] => s
  | s :: r => s ++ (sep ++ joinT sep r)
/-- a text's parts -/
def splitT (s p : List Nat) : List (List Nat) := (Txt.split ⟨s.toArray⟩ ⟨p.toArray⟩).map fun z => z.cps.toList
def callMv (m : Bm) (o : D) (as : List D) (S : Sto) : Res :=
  match m with
  | .tindex => match o, as with
    | .tup ys, [x] => match strsOf ys, x with
      | some zs, .str z => if zs.contains z then .val [.int (zs.idxOf z)] S else .bad
      | _, _ => .bad
    | _, _ => .bad
  | .index => match S.lv o, as with
    | some ys, [x] => match indexD S x ys with
      | some j => .val [.int j] S
      | none => .bad
    | _, _ => .bad
  | .split => match o, as with
    | .str s, [.str p] => if !p.isEmpty && (decide (s.length + 2 ≤ SL) && (splitT s p).all txtOk) then .val [.ref S.length] (S ++ [.lst ((splitT s p).map D.str)]) else .bad
    | _, _ => .bad
  | .join => match o, as with
    | .str sep, [x] => match (extOf S x).bind strsOf with
      | some zs => if (zs.map List.length).sum + sep.length * zs.length ≤ SL then .val [.str (joinT sep zs)] S else .bad
      | none => .bad
    | _, _ => .bad
  | _ => .bad
def callM (m : Bm) (o : D) (as : List D) (S : Sto) : Res :=
  match o with
  | .ref i => match S[i]? with
    | some (.lst xs) => match m, as with
      | .append, [d] => if xs.length < SL then .val [.non] (S.set i (.lst (xs ++ [d]))) else .bad
      | .pop1, [.int k] => match L2.ixN xs.length k with
        | some j => match xs[j]? with
          | some d => .val [d] (S.set i (.lst (xs.eraseIdx j)))
          | none => .bad
        | none => .bad
      | .insert, as => match insA as with
        | some (k, d) => if xs.length < SL ∧ 0 ≤ k ∧ k < 9223372036854775808 then .val [.non] (S.set i (.lst (xs.take k.toNat ++ [d] ++ xs.drop k.toNat))) else .bad
        | none => .bad
      | .pop0, [] => match xs[xs.length - 1]? with
        | some d => .val [d] (S.set i (.lst xs.dropLast))
        | none => .bad
      | .extend, [d] => match extOf S d with
        | some ys => if xs.length + ys.length ≤ SL then .val [.non] (S.set i (.lst (xs ++ ys))) else .bad
        | none => .bad
      | .index, as => callMv .index (.ref i) as S
      | _, _ => .bad
    | _ => .bad
  | o => callMv m o as S
/-- own operators -/
inductive Ow where
  | eq | ne | cont | ncont | len | str | rep | cal | op | tru
  deriving DecidableEq, Inhabited, Repr
/-- what comes back of an own operator -/
def ownV (k : Ow) (d : D) : Option D :=
  match k, d with
  | .eq, .bl b => some (.bl b)
  | .ne, .bl b => some (.bl (!b))
  | .cont, .bl b => some (.bl b)
  | .ncont, .bl b => some (.bl (!b))
  | .len, .int i => if 0 ≤ i ∧ i < 4611686018427387904 then some (.int i) else none
  | .str, .str s => some (.str s)
  | .rep, .str s => some (.str s)
  | .cal, d => some d
  | .op, d => some d
  | .tru, .bl b => some (.bl b)
  | _, _ => none
/-- what its operator is, and the rest -/
def ownA (k : Ow) (ds : List D) : Option (D × List D) :=
  match k, ds with
  | .cont, [x, o] => some (o, [x])
  | .ncont, [x, o] => some (o, [x])
  | .eq, [o, x] => some (o, [x])
  | .ne, [o, x] => some (o, [x])
  | .op, [o, x] => some (o, [x])
  | .op, [o] => some (o, [])
  | .len, [o] => some (o, [])
  | .str, [o] => some (o, [])
  | .rep, [o] => some (o, [])
  | .tru, [o] => some (o, [])
  | .cal, o :: r => some (o, r)
  | _, _ => none
/-- a sign that is written as it is -/
def plainC (c : Nat) : Bool := Nat.ble 32 c && (Nat.ble c 126 && (!Nat.beq c 39 && !Nat.beq c 92))
/-- the signs of a number -/
def digs (i : Int) : List Nat := (toString i).toList.map Char.toNat
inductive C where
  -- expressions
  | var (i : Nat) | kon (d : D) | gl (x : Nat) | bin (op : Operator) (a b : C) | neg (a : C) | notv (a : C) | cmp (op : CmpOp) (a b : C) | chn (op op' : CmpOp) (a b c : C)
  | andv (a b : C) | orv (a b : C) | ite (t a b : C) | att (f : Nat) (a : C) | idx (a i : C) | slc (a lo hi : C) | part (a : C) | tup (as : C) | lst (as : C)
  | cal (f : Nat) (as : C) | calk (f na nk : Nat) (as ks : C) (prm : List (Nat ⊕ D)) | blt (b : Bi) (as : C) | btm (m : Bm) (o as : C) | mth (c m g : Nat) (o as : C) | mthk (c m g na nk : Nat) (o as ks : C) (prm : List (Nat ⊕ D)) | new (c g : Nat) (as : C) | newk (c g na nk : Nat) (as ks : C) (prm : List (Nat ⊕ D)) | prp (c f g : Nat) (a : C)
  | lc (own : List Nat) (g it t e : C) | frz (a : C) | lc2 (own own1 : List Nat) (g it t g1 it1 t1 e : C)
  -- *a among arguments, a class whose __init__ has a star parameter behind k others, a class that a value is, a def with a star parameter, a set of numbers, whether it has one, a dict made by a comprehension, every k-th item
  | lsg (c mi fi : Nat) (o : C) | asp (a r : C) | newv (c g k : Nat) (f as : C) | newc (c g na nk : Nat) (f as ks : C) (prm : List (Nat ⊕ D)) | calv (f k nk : Nat) (as ks : C) (prm : List (Nat ⊕ D)) | setv (a : C) | sst (a : C) | frd (a : C) | lse (c mi fi : Nat) (o : C) | dmg (a b : C) | dpl (a : C) | tou (a : C) | deq (neg : Bool) (a b : C) | sin (neg : Bool) (k a : C) | dcm (own : List Nat) (g it t k v : C) | stp (a : C) (k : Nat) | lsi (a : C)
  -- an own operator, isinstance of an own class, a text of parts, str(..), repr(..), an item of a written dict, whether it has it
  | own (k : Ow) (c g : Nat) (as : C) | ocal (c g : Nat) (f as : C) | isb (t : Ty) (a : C) | ocalk (c g nk : Nat) (f ks : C) (prm : List (Nat ⊕ D)) | rev (a : C) | iso (c : Nat) (a : C) | fst (as : C) | tos (a : C) | rps (a : C) | gdx (x : Nat) (k : C) | gdin (x : Nat) (k : C)
  -- dicts: a display, an item, whether a key is there, get, setdefault, pop
  | dsp (as : C) | dix (a k : C) | din (k d : C) | dget (d k x : C) | dsetd (d k x : C) | dpop (d k x : C)
  -- lists of arguments
  | anil | acons (a r : C) | adef (d : D)
  -- what a loop walks
  | rng1 (a : C) | rng2 (a b : C) | rng3 (a b c : C) | enu (a : C) | zip2 (a b : C) | wkp (a : C) | wkd (a : C)
  -- statements
  | nop | seq (a b : C) | asg (g e : C) | aug (i : Nat) (op : Operator) (e : C) | iff (t a b : C) | whl (t b : C) | forr (g it b : C) | ret (e : C) | retn | exp (e : C) | brk | cnt
  | rse (c : Nat) (as : C) | tryx (c i : Nat) (b s : C) | tryn (c : Nat) (b s : C)
  -- of the error that is handled: a field, whether it is of a class
  | exf (i f : Nat) | exi (i c : Nat)
  -- targets
  | gn (i : Nat) | gt (gs : C) | gtl (gs : C) | ga (f : Nat) (o : C) | gi (o i : C) | gd (o i : C) | gnil | gcons (g r : C)
  deriving Inhabited, Repr
structure Fn where
  np : Nat
  ns : Nat
  body : C
  deriving Inhabited
structure Pg where
  fn : Nat → Option Fn
  gl : Nat → Option D
  /-- class, name: an attribute that its instances may have -/
  fd : Nat → Nat → Bool
  /-- the fields of an own error -/
  exc : Nat → Option (List Nat)
  /-- class, class: is the first one, or under it -/
  sub : Nat → Nat → Bool
  /-- how often a while may turn -/
  wf : Nat
  /-- the plain classes -/
  pc : Nat → Bool := fun _ => false
  /-- the classes that stand on the right of own operators -/
  opc : Nat → Bool := fun _ => false
  /-- written dicts whose keys are texts -/
  gd : Nat → Option (List (List Nat × D)) := fun _ => none
/-- a loop over items; chk: may the walk go on -/
def loopR (chk : Sto → Bool) (f : D → Sl → Sto → Res) : List D → Sl → Sto → Res
  | [], σ, S => if chk S then .nx σ S else .bad
  | x :: xs, σ, S => if chk S then turnR (f x σ S) (loopR chk f xs) else .bad
/-- the loop of a comprehension: what is made so far, and the rest -/
def loopC (chk : Sto → Bool) (f : D → Sto → Res) : List D → List D → Sto → Res
  | acc, [], S => if chk S then .val acc S else .bad
  | acc, x :: xs, S => if chk S then
      match f x S with
      | .val ds S => loopC chk f (acc ++ ds) xs S
      | _ => .bad
    else .bad
/-- a turn of a comprehension -/
def turnC (rg : Res) (t e : Sl → Sto → Res) : Res :=
  bg rg fun σ2 S => b1 σ2 (t σ2 S) fun y S => match tru S y with
    | some true => b1 σ2 (e σ2 S) fun z S => .val [z] S
    | some false => .val [] S
    | none => .bad
/-- .. that gives many -/
def turnL (rg : Res) (t e : Sl → Sto → Res) : Res :=
  bg rg fun σ2 S => b1 σ2 (t σ2 S) fun y S => match tru S y with
    | some true => e σ2 S
    | some false => .val [] S
    | none => .bad
/-- a turn that gives a key and what goes with it -/
def turnP (rg : Res) (t k v : Sl → Sto → Res) : Res :=
  bg rg fun σ2 S => b1 σ2 (t σ2 S) fun y S => match tru S y with
    | some true => b1 σ2 (k σ2 S) fun z S => b1 σ2 (v σ2 S) fun w S => .val [z, w] S
    | some false => .val [] S
    | none => .bad
def endD (r : Res) : Res :=
  match r with
  | .val ys S => match pairsOf ys with
    | some kvs => if kvs.length ≤ SL then .val [.ref S.length] (S ++ [.dct (mergeD [] kvs)]) else .bad
    | none => .bad
  | _ => .bad
def endC (r : Res) : Res :=
  match r with
  | .val ys S => if ys.length ≤ SL then .val [.ref S.length] (S ++ [.lst ys]) else .bad
  | _ => .bad
def whileR (t : Sl → Sto → Res) (b : Sl → Sto → Res) : Nat → Sl → Sto → Res
  | 0, _, _ => .bad
  | n + 1, σ, S => b1 σ (t σ S) fun d S => match tru S d with
    | some true => turnR (b σ S) (whileR t b n)
    | some false => .nx σ S
    | none => .bad
/-- whether what is walked stands as it stood -/
def still (d : D) (xs : List D) (S : Sto) : Bool :=
  match d with
  | .ref i => match S[i]? with
    | some o => o.isLst xs
    | none => false
  | _ => true
/-- pairs of places and items -/
def enumD : Nat → List D → List D
  | _, [] => []
  | k, x :: xs => .tup [.int k, x] :: enumD (k + 1) xs
def zipD : List D → List D → List D
  | x :: xs, y :: ys => .tup [x, y] :: zipD xs ys
  | _, _ => []
/-- the items of a list or a tuple -/
def seqOf (S : Sto) : D → Option (List D)
  | .tup xs => some xs
  | .scr xs => some xs
  | d => S.lv d
/-- what is walked (one thing; its items with their places; two things side by side): the items of each, and what comes -/
def walk (S : Sto) : List D → Option (List (List D) × List D)
  | [d] => match items S d with
    | some xs => some ([xs], xs)
    | none => none
  | [.int 1, d] => match seqOf S d with
    | some xs => some ([xs], enumD 0 xs)
    | none => none
  | [.int 2, d, e] => match seqOf S d, seqOf S e with
    | some xs, some ys => some ([xs, ys], zipD xs ys)
    | _, _ => none
  | [.int 3, .rdc ks ds] => if ks.length = ds.length ∧ ks.all keyB = true then some ([ks], ks) else none
  | _ => none
def stillW : List D → List (List D) → Sto → Bool
  | [d], [xs], S => still d xs S
  | [_, d], [xs], S => still d xs S
  | [_, d, e], [xs, ys], S => still d xs S && still e ys S
  | _, _, _ => false
def putD (f : Nat) (d : D) : List (Nat × D) → List (Nat × D)
  | [] => [(f, d)]
  | (g, x) :: r => if g = f then (g, d) :: r else (g, x) :: putD f d r
def wipeD (σ : Sl) : List Nat → Sl
  | [] => σ
  | v :: vs => (wipeD σ vs).set v none
def rangeD (lo hi : Int) : List D := (List.range (hi - lo).toNat).map fun (k : Nat) => .int (lo + k)
/-- from lo on, by k, below hi -/
def rangeS (lo hi k : Int) : List D := (List.range ((hi - lo + k - 1) / k).toNat).map fun (n : Nat) => .int (lo + n * k)
def inR (i : Int) : Bool := decide (-4611686018427387904 ≤ i) && decide (i < 4611686018427387904)
/-- the arguments in the parameters' order: places of what is given, and defaults -/
def rearr : List (Nat ⊕ D) → List D → Option (List D)
  | [], _ => some []
  | .inl i :: r, ds => match ds[i]?, rearr r ds with
    | some d, some q => some (d :: q)
    | _, _ => none
  | .inr d :: r, ds => (rearr r ds).map (d :: ·)
/-- a value as it is kept when nothing changes it any more: its objects at k and behind by what they hold; n bounds the depth -/
def frzD (S : Sto) (k : Nat) : Nat → D → Option D
  | 0, d => if d.flat then some d else none
  | n + 1, d => match d with
    | .tup xs => match mapO (frzD S k n) xs with
      | some ys => some (.tup ys)
      | none => none
    | .ref i => if k ≤ i then (match S[i]? with
        | some (.lst xs) => match mapO (frzD S k n) xs with
          | some ys => some (.rol ys)
          | none => none
        | some (.ins c fs) => match mapO (frzD S k n) (fs.map (·.2)) with
          | some ys => some (.rin c (fs.map (·.1)) ys)
          | none => none
        | _ => none) else none
    | d => if d.flat then some d else none
/-- fields of an error, kept -/
def frzF (S : Sto) (k : Nat) (fs : List (Nat × D)) : Option (List (Nat × D)) := mapO (fun p : Nat × D => (frzD S k 20 p.2).map fun d => (p.1, d)) fs
/-- the places among some values -/
def placesOf : List D → List Nat
  | [] => []
  | .ref i :: r => i :: placesOf r
  | _ :: r => placesOf r
/-- a value as the callee has it -/
def loD (rs : List Nat) : D → D
  | .ref i => .ref (rs.idxOf i)
  | d => d
/-- may the callee be run upon these objects alone -/
def locOk (S : Sto) (rs : List Nat) (ds : List D) : Bool :=
  decide rs.Nodup && (rs.all (fun r => match S[r]? with
    | some o => o.flat
    | none => false) && ds.all fun d => match d with
    | .ref _ => true
    | d => d.flat)
/-- objects put back -/
def wb : Sto → List Nat → List Ob → Sto
  | S, r :: rs, o :: os => wb (S.set r o) rs os
  | S, _, _ => S
/-- behind the callee: k objects were given; they are put back, a new object comes along only if it is what comes back -/
def finL (σ : Sl) (S : Sto) (rs : List Nat) (r : Res) : Res :=
  match r with
  | .val [d] S' => if (S'.take rs.length).all Ob.flat then (match d with
      | .ref j => if j < rs.length then (match rs[j]? with
          | some r => .val [.ref r] (wb S rs (S'.take rs.length))
          | none => .bad)
        else match S'[j]? with
          | some o => if o.flat then .val [.ref S.length] (wb S rs (S'.take rs.length) ++ [o]) else .bad
          | none => .bad
      | d => match frzD S' rs.length 20 d with
        | some d' => .val [d'] (wb S rs (S'.take rs.length))
        | none => .bad) else .bad
  | .exc c fs _ S' => if (S'.take rs.length).all Ob.flat then (match frzF S' rs.length fs with
      | some fs' => .exc c fs' σ (wb S rs (S'.take rs.length))
      | none => .bad) else .bad
  | _ => .bad
/-- what a def of the machine does, of a call -/
def callR (σ : Sl) (r : Res) : Res :=
  match r with
  | .val [d] S => .val [d] S
  | .exc c fs _ S => .exc c fs σ S
  | _ => .bad
/-- objects by their places -/
def pick (S : Sto) : List Nat → Sto
  | [] => []
  | r :: rs => match S[r]? with
    | some o => o :: pick S rs
    | none => pick S rs
def callL (σ : Sl) (Φ : Nat → List D → Sto → Res) (f : Nat) (ds : List D) (S : Sto) : Res :=
  if locOk S (placesOf ds) ds then finL σ S (placesOf ds) (Φ f (ds.map (loD (placesOf ds))) (pick S (placesOf ds)))
  else callR σ (Φ f ds S)
/-- a part's end: what it gives is kept, its new objects are gone -/
def frzR (σ : Sl) (n : Nat) (r : Res) : Res :=
  match r with
  | .val [d] S' => if (S'.take n).all Ob.flat then (match frzD S' n 20 d with
      | some d' => .val [d'] (S'.take n)
      | none => .bad) else .bad
  | .exc c fs _ S' => if (S'.take n).all Ob.flat then (match frzF S' n fs with
      | some fs' => .exc c fs' σ (S'.take n)
      | none => .bad) else .bad
  | _ => .bad
/-- a new dict, kept from here on -/
def frdR (σ : Sl) (n : Nat) (r : Res) : Res :=
  match r with
  | .val [.ref i] S' => if n ≤ i ∧ (S'.take n).all Ob.flat = true then (match S'[i]? with
      | some (.dct kvs) => if (D.flats (kvs.map (·.1)) && D.flats (kvs.map (·.2))) = true then .val [.rdc (kvs.map (·.1)) (kvs.map (·.2))] (S'.take n) else .bad
      | _ => .bad) else .bad
  | .exc c fs _ S' => if (S'.take n).all Ob.flat then (match frzF S' n fs with
      | some fs' => .exc c fs' σ (S'.take n)
      | none => .bad) else .bad
  | _ => .bad
/-- what a dict's keys and texts are, side by side -/
def dEq (ks ls : List (D × D)) : Bool := (ks.length == ls.length) && ks.all fun p => match getK ls p.1 with
  | some d => D.beq d p.2
  | none => false
def dTxt (ks : List (D × D)) : Bool := ks.all fun p => isKey p.1 && isKey p.2
/-- the class and the fields of an instance -/
def insOf (S : Sto) : D → Option (Nat × List (Nat × D))
  | .ref i => match S[i]? with
    | some (.ins c fs) => some (c, fs)
    | _ => none
  | .rin c ns ds => some (c, ns.zip ds)
  | _ => none
/-- behind an __init__ -/
def newR (σ : Sl) (i : Nat) (r : Res) : Res :=
  match r with
  | .val [.non] S => .val [.ref i] S
  | .exc c fs _ S => .exc c fs σ S
  | _ => .bad
/-- the number that tells a field of the error that is handled; whether it is of a class -/
def xid (f : Nat) : Nat := 1000000 + f
def xcd (c : Nat) : Nat := 2000000 + c
/-- calls within a suite: the fields of the error, its classes, and no others -/
def Φx (P : Pg) (c : Nat) (fs : List (Nat × D)) : Nat → List D → Sto → Res := fun f _ S =>
  if 2000000 ≤ f then .val [.bl (P.sub c (f - 2000000))] S
  else if 1000000 ≤ f then (match fs.lookup (f - 1000000) with
    | some d => .val [d] S
    | none => .bad)
  else .bad
/-- calls within a suite without a name: none -/
def Φ0 : Nat → List D → Sto → Res := fun _ _ _ => .bad
/-- behind such a suite -/
def wipe0 (r : Res) : Res :=
  match r with
  | .nx σ S => .nx σ S
  | .bk σ S => .bk σ S
  | .ct σ S => .ct σ S
  | .rt d S => .rt d S
  | _ => .bad
/-- behind a suite: the error's name is gone -/
def wipe1 (i : Nat) (r : Res) : Res :=
  match r with
  | .nx σ S => .nx (σ.set i none) S
  | .bk σ S => .bk (σ.set i none) S
  | .ct σ S => .ct (σ.set i none) S
  | .rt d S => .rt d S
  | _ => .bad
/-- a value whose type is known -/
def okY (P : Pg) (S : Sto) (y : D) : Bool := match insOf S y with
    | some (c, _) => P.pc c
    | none => (dty S y).isSome
/-- an instance of a plain class -/
def okI (P : Pg) (S : Sto) (y : D) : Bool := match insOf S y with
    | some (c, _) => P.opc c
    | none => false
/-- may own operators be used with these -/
def ownOk (P : Pg) (S : Sto) (k : Ow) (r : List D) : Bool :=
  match k with
  | .eq => r.all (okY P S)
  | .ne => r.all (okY P S)
  | .op => r.all (okI P S)
  | _ => true
/-- behind an own operator -/
def ownR (k : Ow) (r : Res) : Res :=
  match r with
  | .val [d] S => match ownV k d with
    | some d' => .val [d'] S
    | none => .bad
  | .exc e fs τ S => match k with
    | .cal => .exc e fs τ S
    | .op => .exc e fs τ S
    | _ => .bad
  | _ => .bad
/-- what code does: ins, what comes to a target -/
def ev (P : Pg) (Φ : Nat → List D → Sto → Res) : C → List D → Sl → Sto → Res
  | .var i, _, σ, S => match σ[i]? with
    | some (some d) => .val [d] S
    | _ => .bad
  | .kon d, _, _, S => .val [d] S
  | .gl x, _, _, S => match P.gl x with
    | some d => .val [d] S
    | none => .bad
  | .bin op a b, _, σ, S => b1 σ (ev P Φ a [] σ S) fun x S => b1 σ (ev P Φ b [] σ S) fun y S => opBin op x y S
  | .neg a, _, σ, S => b1 σ (ev P Φ a [] σ S) fun x S => match x with
    | .int i => .val [.int (-i)] S
    | _ => .bad
  | .notv a, _, σ, S => b1 σ (ev P Φ a [] σ S) fun x S => match tru S x with
    | some b => .val [.bl (!b)] S
    | none => .bad
  | .cmp op a b, _, σ, S => b1 σ (ev P Φ a [] σ S) fun x S => b1 σ (ev P Φ b [] σ S) fun y S => match opCmp op x y S with
    | some b => .val [.bl b] S
    | none => .bad
  | .chn op op' a b c, _, σ, S => b1 σ (ev P Φ a [] σ S) fun x S => b1 σ (ev P Φ b [] σ S) fun y S => match opCmp op x y S with
    | some true => b1 σ (ev P Φ c [] σ S) fun z S => match opCmp op' y z S with
      | some b => .val [.bl b] S
      | none => .bad
    | some false => .val [.bl false] S
    | none => .bad
  | .andv a b, _, σ, S => b1 σ (ev P Φ a [] σ S) fun x S => match tru S x with
    | some true => ev P Φ b [] σ S
    | some false => .val [x] S
    | none => .bad
  | .orv a b, _, σ, S => b1 σ (ev P Φ a [] σ S) fun x S => match tru S x with
    | some true => .val [x] S
    | some false => ev P Φ b [] σ S
    | none => .bad
  | .ite t a b, _, σ, S => b1 σ (ev P Φ t [] σ S) fun x S => match tru S x with
    | some true => ev P Φ a [] σ S
    | some false => ev P Φ b [] σ S
    | none => .bad
  | .att f a, _, σ, S => b1 σ (ev P Φ a [] σ S) fun x S => match insOf S x with
    | some (c, fs) => match fs.lookup f with
      | some d => if P.fd c f then .val [d] S else .bad
      | none => .bad
    | none => .bad
  | .prp c f g a, _, σ, S => b1 σ (ev P Φ a [] σ S) fun x S => match insOf S x with
    | some (c', _) => if c' = c then (match callL σ Φ g [x] S with
        | .val [d] S => .val [d] S
        | _ => .bad) else .bad
    | none => .bad
  | .idx a i, _, σ, S => b1 σ (ev P Φ a [] σ S) fun x S => b1 σ (ev P Φ i [] σ S) fun y S => match opIx x y S with
    | some d => .val [d] S
    | none => .bad
  | .slc a lo hi, _, σ, S => b1 σ (ev P Φ a [] σ S) fun x S => b1 σ (ev P Φ lo [] σ S) fun y S => match ends y with
    | some l => b1 σ (ev P Φ hi [] σ S) fun z S => match ends z with
      | some h => opSlice x l h S
      | none => .bad
    | none => .bad
  | .part a, _, σ, S => b1 σ (ev P Φ a [] σ S) fun x S => match x with
    | .int i => .val [.int i] S
    | _ => .bad
  | .tup as, _, σ, S => bv σ (ev P Φ as [] σ S) fun ds S => if ds.length ≤ SL then .val [.tup ds] S else .bad
  | .lst as, _, σ, S => bv σ (ev P Φ as [] σ S) fun ds S => if ds.length ≤ SL then .val [.ref S.length] (S ++ [.lst ds]) else .bad
  | .cal f as, _, σ, S => bv σ (ev P Φ as [] σ S) fun ds S => callL σ Φ f ds S
  | .calk f na nk as ks prm, _, σ, S => bv σ (ev P Φ as [] σ S) fun ds S => bv σ (ev P Φ ks [] σ S) fun es S => if ds.length = na ∧ es.length = nk then match rearr prm (ds ++ es) with
    | some gs => callL σ Φ f gs S
    | none => .bad
    else .bad
  | .blt b as, _, σ, S => bv σ (ev P Φ as [] σ S) fun ds S => callB b ds S
  | .btm m o as, _, σ, S => b1 σ (ev P Φ o [] σ S) fun x S => if rcv m x S then bv σ (ev P Φ as [] σ S) fun ds S => callM m x ds S else .bad
  | .mth c m g o as, _, σ, S => b1 σ (ev P Φ o [] σ S) fun x S => match insOf S x with
    | some (c', fs) => if c' = c ∧ fs.lookup m = none then bv σ (ev P Φ as [] σ S) fun ds S => callL σ Φ g (x :: ds) S else .bad
    | none => .bad
  | .mthk c m g na nk o as ks prm, _, σ, S => b1 σ (ev P Φ o [] σ S) fun x S => match insOf S x with
    | some (c', fs) => if c' = c ∧ fs.lookup m = none then bv σ (ev P Φ as [] σ S) fun ds S => bv σ (ev P Φ ks [] σ S) fun es S => (if ds.length = na ∧ es.length = nk then match rearr prm ((x :: ds) ++ es) with
      | some gs => callL σ Φ g gs S
      | none => .bad
      else .bad) else .bad
    | none => .bad
  | .new c g as, _, σ, S => bv σ (ev P Φ as [] σ S) fun ds S => newR σ S.length (callL σ Φ g (.ref S.length :: ds) (S ++ [.ins c []]))
  | .newk c g na nk as ks prm, _, σ, S => bv σ (ev P Φ as [] σ S) fun ds S => bv σ (ev P Φ ks [] σ S) fun es S => if ds.length = na ∧ es.length = nk then match rearr prm (.ref S.length :: (ds ++ es)) with
    | some gs => newR σ S.length (callL σ Φ g gs (S ++ [.ins c []]))
    | none => .bad
    else .bad
  | .frz a, _, σ, S => frzR σ S.length (ev P Φ a [] σ S)
  | .frd a, _, σ, S => frdR σ S.length (ev P Φ a [] σ S)
  | .lc own g it t e, _, σ, S => bv σ (ev P Φ it [] σ S) fun ds S => match walk S ds with
    | some (raws, xs) => endC (loopC (stillW ds raws) (fun x S => turnC (ev P Φ g [x] (wipeD σ own) S) (fun σ S => ev P Φ t [] σ S) fun σ S => ev P Φ e [] σ S) [] xs S)
    | none => .bad
  | .lc2 own own1 g it t g1 it1 t1 e, _, σ, S => bv σ (ev P Φ it [] σ S) fun ds S => match walk S ds with
    | some (raws, xs) => endC (loopC (stillW ds raws) (fun x S => turnL (ev P Φ g [x] (wipeD σ own) S) (fun σ S => ev P Φ t [] σ S) fun σ2 S => bv σ2 (ev P Φ it1 [] σ2 S) fun ds1 S => match walk S ds1 with
      | some (raws1, xs1) => loopC (stillW ds1 raws1) (fun y S => turnC (ev P Φ g1 [y] (wipeD σ2 own1) S) (fun σ S => ev P Φ t1 [] σ S) fun σ S => ev P Φ e [] σ S) [] xs1 S
      | none => .bad) [] xs S)
    | none => .bad
  | .asp a r, _, σ, S => b1 σ (ev P Φ a [] σ S) fun d S => match extOf S d with
    | some xs => bv σ (ev P Φ r [] σ S) fun ds S => .val (xs ++ ds) S
    | none => .bad
  | .newv c g k f as, _, σ, S => b1 σ (ev P Φ f [] σ S) fun x S => match x with
    | .cls c' => if c' = c then bv σ (ev P Φ as [] σ S) fun ds S => (if k ≤ ds.length ∧ ds.length ≤ SL then newR σ S.length (callL σ Φ g (.ref S.length :: (ds.take k ++ [.tup (ds.drop k)])) (S ++ [.ins c []])) else .bad) else .bad
    | _ => .bad
  | .newc c g na nk f as ks prm, _, σ, S => b1 σ (ev P Φ f [] σ S) fun x S => match x with
    | .cls c' => if c' = c then bv σ (ev P Φ as [] σ S) fun ds S => bv σ (ev P Φ ks [] σ S) fun es S => (if ds.length = na ∧ es.length = nk then match rearr prm (.ref S.length :: (ds ++ es)) with
      | some gs => newR σ S.length (callL σ Φ g gs (S ++ [.ins c []]))
      | none => .bad
      else .bad) else .bad
    | _ => .bad
  | .calv f k nk as ks prm, _, σ, S => bv σ (ev P Φ as [] σ S) fun ds S => bv σ (ev P Φ ks [] σ S) fun es S => if k ≤ ds.length ∧ ds.length ≤ SL ∧ es.length = nk then match rearr prm (ds.take k ++ (.tup (ds.drop k) :: es)) with
    | some gs => callL σ Φ f gs S
    | none => .bad
    else .bad
  | .lsg c mi fi o, _, σ, S => b1 σ (ev P Φ o [] σ S) fun x S => match insOf S x with
    | some (c', fs) => if c' = c ∧ fs.lookup mi = none ∧ P.fd c fi = true then (match fs.lookup fi with
      | some (.tup xs) => .val [.ref S.length] (S ++ [.lst xs])
      | _ => .bad) else .bad
    | none => .bad
  | .sst a, _, σ, S => b1 σ (ev P Φ a [] σ S) fun d S => match (extOf S d).bind strsOf with
    | some zs => if zs.length < 4000 then (match sortD S (dedI (zs.map D.str)) with
      | some ys => .val [.ref S.length] (S ++ [.lst ys])
      | none => .bad) else .bad
    | none => .bad
  | .lse c mi fi o, _, σ, S => b1 σ (ev P Φ o [] σ S) fun x S => match insOf S x with
    | some (c', fs) => if c' = c ∧ fs.lookup mi = none ∧ P.fd c fi = true then (match fs.lookup fi with
      | some (.rdc ks ds) => if ks.all keyB = true ∧ D.flats ds = true ∧ ks.length = ds.length then .val [.ref S.length] (S ++ [.lst (ks.map fun k => .tup [k, (getK (ks.zip ds) k).getD .non])]) else .bad
      | _ => .bad) else .bad
    | none => .bad
  | .dmg a b, _, σ, S => b1 σ (ev P Φ a [] σ S) fun x S => b1 σ (ev P Φ b [] σ S) fun y S => match x, y with
    | .rdc ks ds, .rdc ks' ds' => if ks.length + ks'.length ≤ 1000000 then .val [.ref S.length] (S ++ [.dct (mergeD (mergeD [] (ks.zip ds)) (ks'.zip ds'))]) else .bad
    | _, _ => .bad
  | .tou a, _, σ, S => b1 σ (ev P Φ a [] σ S) fun x S => match (S.lv x).bind intsOf with
    | some ns => if ns.length ≤ 1000 ∧ ns.all (fun i => decide (i.natAbs < 18446744073709551616)) = true then .val [.unk] S else .bad
    | none => .bad
  | .dpl a, _, σ, S => b1 σ (ev P Φ a [] σ S) fun x S => match (S.lv x).bind pairsD with
    | some kvs => if kvs.all (fun p => keyB p.1) = true then .val [.ref S.length] (S ++ [.dct (mergeD [] kvs)]) else .bad
    | none => .bad
  | .deq neg a b, _, σ, S => b1 σ (ev P Φ a [] σ S) fun x S => b1 σ (ev P Φ b [] σ S) fun y S => match dctOf S x, dctOf S y with
    | some ks, some ls => if (dTxt ks && dTxt ls) = true then .val [.bl (if neg then !(dEq ks ls) else dEq ks ls)] S else .bad
    | _, _ => .bad
  | .setv a, _, σ, S => b1 σ (ev P Φ a [] σ S) fun d S => match extOf S d with
    | some xs => match intsOf xs with
      | some _ => if xs.length < 4000 then .val [.ref S.length] (S ++ [.set xs]) else .bad
      | none => .bad
    | none => .bad
  | .sin neg k a, _, σ, S => b1 σ (ev P Φ k [] σ S) fun y S => b1 σ (ev P Φ a [] σ S) fun x S => match setOf S x, y with
    | some xs, .int i => .val [.bl (if neg then !(xs.any fun z => D.beq z (.int i)) else xs.any fun z => D.beq z (.int i))] S
    | _, _ => .bad
  | .dcm own g it t k v, _, σ, S => bv σ (ev P Φ it [] σ S) fun ds S => match walk S ds with
    | some (raws, xs) => endD (loopC (stillW ds raws) (fun x S => turnP (ev P Φ g [x] (wipeD σ own) S) (fun σ S => ev P Φ t [] σ S) (fun σ S => ev P Φ k [] σ S) fun σ S => ev P Φ v [] σ S) [] xs S)
    | none => .bad
  | .lsi a, _, σ, S => b1 σ (ev P Φ a [] σ S) fun x S => match dctOf S x with
    | some kvs => if kvs.all (fun p => keyB p.1) then .val [.ref S.length] (S ++ [.lst (kvs.map fun p => .tup [p.1, p.2])]) else .bad
    | none => .bad
  | .stp a k, _, σ, S => b1 σ (ev P Φ a [] σ S) fun x S => match S.lv x with
    | some xs => .val [.ref S.length] (S ++ [.lst (stepL k xs)])
    | none => .bad
  | .own k c g as, _, σ, S => bv σ (ev P Φ as [] σ S) fun ds S => match ownA k ds with
    | some (x, r) => match insOf S x with
      | some (c', _) => if c' = c ∧ ownOk P S k r = true then ownR k (callL σ Φ g (x :: r) S) else .bad
      | none => .bad
    | none => .bad
  | .ocal c g f as, _, σ, S => b1 σ (ev P Φ f [] σ S) fun x S => match insOf S x with
    | some (c', _) => if c' = c then bv σ (ev P Φ as [] σ S) fun ds S => (match insOf S x with
      | some (c'', _) => if c'' = c then callL σ Φ g (x :: ds) S else .bad
      | none => .bad) else .bad
    | none => .bad
  | .ocalk c g nk f ks prm, _, σ, S => b1 σ (ev P Φ f [] σ S) fun x S => match insOf S x with
    | some (c', _) => if c' = c then bv σ (ev P Φ ks [] σ S) fun es S => (match insOf S x with
      | some (c'', _) => if c'' = c ∧ es.length = nk then (match rearr prm (x :: es) with
        | some gs => callL σ Φ g gs S
        | none => .bad) else .bad
      | none => .bad) else .bad
    | none => .bad
  | .rev a, _, σ, S => b1 σ (ev P Φ a [] σ S) fun x S => match S.lv x with
    | some xs => .val [.ref S.length] (S ++ [.lst xs.reverse])
    | none => .bad
  | .isb t a, _, σ, S => b1 σ (ev P Φ a [] σ S) fun x S => match insOf S x with
    | some (c', _) => if P.pc c' && isBt t then .val [.bl false] S else .bad
    | none => match isTy S x t with
      | some b => .val [.bl b] S
      | none => .bad
  | .iso c a, _, σ, S => b1 σ (ev P Φ a [] σ S) fun x S => match insOf S x with
    | some (c', _) => if P.pc c' then .val [.bl (decide (c' = c))] S else .bad
    | none => match dty S x with
      | some _ => .val [.bl false] S
      | none => .bad
  | .fst as, _, σ, S => match ev P Φ as [] σ S with
    | .val ds S => match strsOf ds with
      | some zs => if (zs.map List.length).sum ≤ SL then .val [.str zs.flatten] S else .bad
      | none => .bad
    | _ => .bad
  | .tos a, _, σ, S => b1 σ (ev P Φ a [] σ S) fun x S => match x with
    | .str s => .val [.str s] S
    | .int i => if i.natAbs < 2 ^ 1900 then .val [.str (digs i)] S else .bad
    | _ => .bad
  | .rps a, _, σ, S => b1 σ (ev P Φ a [] σ S) fun x S => match x with
    | .int i => if i.natAbs < 2 ^ 1900 then .val [.str (digs i)] S else .bad
    | .str s => if s.all plainC && Nat.ble s.length 1000000 then .val [.str (39 :: (s ++ [39]))] S else .bad
    | _ => .bad
  | .gdx x k, _, σ, S => b1 σ (ev P Φ k [] σ S) fun y S => match P.gd x, y with
    | some kvs, .str s => match kvs.lookup s with
      | some d => .val [d] S
      | none => .bad
    | _, _ => .bad
  | .gdin x k, _, σ, S => b1 σ (ev P Φ k [] σ S) fun y S => match P.gd x, y with
    | some kvs, .str s => .val [.bl (kvs.lookup s).isSome] S
    | _, _ => .bad
  | .dsp as, _, σ, S => bv σ (ev P Φ as [] σ S) fun ds S => match pairsOf ds with
    | some kvs => if kvs.length ≤ 15 then .val [.ref S.length] (S ++ [.dct (mergeD [] kvs)]) else .bad
    | none => .bad
  | .dix a k, _, σ, S => b1 σ (ev P Φ a [] σ S) fun x S => b1 σ (ev P Φ k [] σ S) fun y S => match dctOf S x with
    | some kvs => if isKey y then (match getK kvs y with
      | some d => .val [d] S
      | none => .bad) else .bad
    | none => .bad
  | .din k a, _, σ, S => b1 σ (ev P Φ k [] σ S) fun y S => b1 σ (ev P Φ a [] σ S) fun x S => match dctOf S x with
    | some kvs => if isKey y then .val [.bl (getK kvs y).isSome] S else .bad
    | none => .bad
  | .dget a k e, _, σ, S => b1 σ (ev P Φ a [] σ S) fun x S => if (dctOf S x).isSome then b1 σ (ev P Φ k [] σ S) fun y S => b1 σ (ev P Φ e [] σ S) fun z S => match dctOf S x with
    | some kvs => if isKey y then .val [(getK kvs y).getD z] S else .bad
    | none => .bad
    else .bad
  | .dsetd a k e, _, σ, S => b1 σ (ev P Φ a [] σ S) fun x S => if (dctOf S x).isSome then b1 σ (ev P Φ k [] σ S) fun y S => b1 σ (ev P Φ e [] σ S) fun z S => match x with
    | .ref i => match S[i]? with
      | some (.dct kvs) => if isKey y ∧ kvs.length < SL then (match getK kvs y with
        | some d => .val [d] S
        | none => .val [z] (S.set i (.dct (putK kvs y z)))) else .bad
      | _ => .bad
    | _ => .bad
    else .bad
  | .dpop a k e, _, σ, S => b1 σ (ev P Φ a [] σ S) fun x S => if (dctOf S x).isSome then b1 σ (ev P Φ k [] σ S) fun y S => b1 σ (ev P Φ e [] σ S) fun z S => match x with
    | .ref i => match S[i]? with
      | some (.dct kvs) => if isKey y then (match getK kvs y with
        | some d => .val [d] (S.set i (.dct (delK kvs y)))
        | none => .val [z] S) else .bad
      | _ => .bad
    | _ => .bad
    else .bad
  | .anil, _, _, S => .val [] S
  | .acons a r, _, σ, S => b1 σ (ev P Φ a [] σ S) fun d S => bv σ (ev P Φ r [] σ S) fun ds S => .val (d :: ds) S
  | .adef d, _, _, S => .val [d] S
  | .rng1 a, _, σ, S => b1 σ (ev P Φ a [] σ S) fun x S => match x with
    | .int j => if inR j then .val [.tup (rangeD 0 j)] S else .bad
    | _ => .bad
  | .rng2 a b, _, σ, S => b1 σ (ev P Φ a [] σ S) fun x S => b1 σ (ev P Φ b [] σ S) fun y S => match x, y with
    | .int i, .int j => if inR i && inR j then .val [.tup (rangeD i j)] S else .bad
    | _, _ => .bad
  | .rng3 a b c, _, σ, S => b1 σ (ev P Φ a [] σ S) fun x S => b1 σ (ev P Φ b [] σ S) fun y S => b1 σ (ev P Φ c [] σ S) fun z S => match x, y, z with
    | .int i, .int j, .int k => if inR i && (inR j && (decide (0 < k) && decide (k < 4611686018427387904))) then .val [.tup (rangeS i j k)] S else .bad
    | _, _, _ => .bad
  | .enu a, _, σ, S => b1 σ (ev P Φ a [] σ S) fun x S => .val [.int 1, x] S
  | .wkp a, _, σ, S => b1 σ (ev P Φ a [] σ S) fun x S => .val [x] S
  | .zip2 a b, _, σ, S => b1 σ (ev P Φ a [] σ S) fun x S => b1 σ (ev P Φ b [] σ S) fun y S => .val [.int 2, x, y] S
  | .wkd a, _, σ, S => b1 σ (ev P Φ a [] σ S) fun x S => .val [.int 3, x] S
  | .nop, _, σ, S => .nx σ S
  | .seq a b, _, σ, S => bn (ev P Φ a [] σ S) fun σ S => ev P Φ b [] σ S
  | .asg g e, _, σ, S => b1 σ (ev P Φ e [] σ S) fun d S => bg (ev P Φ g [d] σ S) fun σ S => .nx σ S
  | .aug i op e, _, σ, S => match σ[i]? with
    | some (some x) => b1 σ (ev P Φ e [] σ S) fun y S => match x, y with
      | .int i1, .int i2 => match op with
        | .Add => .nx (σ.set i (some (.int (i1 + i2)))) S
        | .Sub => .nx (σ.set i (some (.int (i1 - i2)))) S
        | _ => .bad
      | _, _ => .bad
    | _ => .bad
  | .iff t a b, _, σ, S => b1 σ (ev P Φ t [] σ S) fun x S => match tru S x with
    | some true => ev P Φ a [] σ S
    | some false => ev P Φ b [] σ S
    | none => .bad
  | .whl t b, _, σ, S => whileR (fun σ S => ev P Φ t [] σ S) (fun σ S => ev P Φ b [] σ S) P.wf σ S
  | .forr g it b, _, σ, S => bv σ (ev P Φ it [] σ S) fun ds S => match walk S ds with
    | some (raws, xs) => loopR (stillW ds raws) (fun x σ S => bg (ev P Φ g [x] σ S) fun σ S => ev P Φ b [] σ S) xs σ S
    | none => .bad
  | .ret e, _, σ, S => b1 σ (ev P Φ e [] σ S) fun d S => .rt d S
  | .retn, _, _, S => .rt .non S
  | .exp e, _, σ, S => b1 σ (ev P Φ e [] σ S) fun _ S => .nx σ S
  | .brk, _, σ, S => .bk σ S
  | .cnt, _, σ, S => .ct σ S
  | .rse c as, _, σ, S => bv σ (ev P Φ as [] σ S) fun ds S => match P.exc c with
    | some fl => if ds.length = fl.length then .exc c (fl.zip ds).reverse σ S else .bad
    | none => .bad
  | .tryn c b s, _, σ, S => match ev P Φ b [] σ S with
    | .exc c' fs σ1 S1 => if (P.exc c').isSome then (if P.sub c' c then wipe0 (ev P Φ0 s [] σ1 S1) else .exc c' fs σ1 S1) else .bad
    | r => r
  | .tryx c i b s, _, σ, S => match ev P Φ b [] σ S with
    | .exc c' fs σ1 S1 => if (P.exc c').isSome then (if P.sub c' c then (if flatF fs then wipe1 i (ev P (Φx P c' fs) s [] (σ1.set i none) S1) else .bad) else .exc c' fs σ1 S1) else .bad
    | r => r
  | .exf i f, _, σ, S => match σ[i]? with
    | some none => (match Φ (xid f) [] S with
      | .val [d] S' => .val [d] S'
      | _ => .bad)
    | _ => .bad
  | .exi i c, _, σ, S => match σ[i]? with
    | some none => (match Φ (xcd c) [] S with
      | .val [d] S' => .val [d] S'
      | _ => .bad)
    | _ => .bad
  | .gn i, ins, σ, S => match ins with
    | [d] => if i < σ.length then .nx (σ.set i (some d)) S else .bad
    | _ => .bad
  | .gt gs, ins, σ, S => match ins with
    | [.tup xs] => ev P Φ gs xs σ S
    | _ => .bad
  | .gtl gs, ins, σ, S => match ins with
    | [.rol xs] => ev P Φ gs xs σ S
    | _ => .bad
  | .ga f o, ins, σ, S => match ins with
    | [d] => b1 σ (ev P Φ o [] σ S) fun x S => match x with
      | .ref i => match S[i]? with
        | some (.ins c fs) => if fs.length < 1000 ∧ P.fd c f = true then .nx σ (S.set i (.ins c (putD f d fs))) else .bad
        | _ => .bad
      | _ => .bad
    | _ => .bad
  | .gi o i, ins, σ, S => match ins with
    | [d] => b1 σ (ev P Φ o [] σ S) fun x S => b1 σ (ev P Φ i [] σ S) fun y S => match x, y with
      | .ref r, .int k => match S[r]? with
        | some (.lst xs) => match L2.ixN xs.length k with
          | some j => .nx σ (S.set r (.lst (xs.set j d)))
          | none => .bad
        | _ => .bad
      | _, _ => .bad
    | _ => .bad
  | .gd o i, ins, σ, S => match ins with
    | [d] => b1 σ (ev P Φ o [] σ S) fun x S => b1 σ (ev P Φ i [] σ S) fun y S => match x with
      | .ref r => match S[r]? with
        | some (.dct kvs) => if isKey y ∧ kvs.length < SL then .nx σ (S.set r (.dct (putK kvs y d))) else .bad
        | _ => .bad
      | _ => .bad
    | _ => .bad
  | .gnil, ins, σ, S => match ins with
    | [] => .nx σ S
    | _ => .bad
  | .gcons g r, ins, σ, S => match ins with
    | d :: ds => bg (ev P Φ g [d] σ S) fun σ S => ev P Φ r ds σ S
    | [] => .bad
def fin : Res → Res
  | .rt d S => .val [d] S
  | .nx _ S => .val [.non] S
  | .exc c fs _ S => .exc c fs [] S
  | _ => .bad
/-- a call of a def, so many calls deep at the most -/
def run (P : Pg) : Nat → Nat → List D → Sto → Res
  | 0, _, _, _ => .bad
  | n + 1, f, as, S => match P.fn f with
    | some F => if as.length = F.np then fin (ev P (run P n) F.body [] (as.map some ++ List.replicate (F.ns - F.np) none) S) else .bad
    | none => .bad
end Vm
namespace Vm
open PySem L2
/-- what the text fixes: the written part, where the classes stand, the names of attributes -/
structure Zz where
  K : PySem.W.Frag
  ca : Nat → Addr
  nm : Nat → Str
  wd : World
  /-- the dicts of errors that are being handled, and what they hold -/
  xs : List (Addr × List (Nat × D)) := []
  /-- the slots of the errors being handled, and where these stand -/
  pn : List (Nat × Addr) := []
theorem SL_eq : SL = sizeLine := by rw [sizeLine_eq]
/-- where the store's objects stand, and what is never changed any more -/
structure Mu where
  l : List Addr
  z : Addr → Prop
def Mu.add (μ : Mu) (a : Addr) : Mu := ⟨μ.l ++ [a], μ.z⟩
/-- a key of a dict -/
def keyD : D → Option Key
  | .int i => some (.inl i)
  | .str s => some (.inr ⟨s.toArray⟩)
  | _ => none
section
variable (Z : Zz)
/-- a list that is read alone: locked, or of the written part -/
def Scr (H : Hp) (a : Addr) (vs : List V) : Prop :=
  (∃ o, H a = some (.frz o (.lst vs))) ∨ ∃ (o : Obj) (its : Array Value) (n : Nat), Z.K.lookup a = some o ∧ o.cls = .type "list" ∧ o.dict = none ∧ o.data = .seq its n ∧ its.size ≤ sizeLine ∧ Vals vs its.toList
mutual
/-- a value of the small machine stands for one of the layer -/
def DV (H : Hp) (μ : Mu) : D → V → Prop
  | .non, v => v = .non
  | .bl b, v => v = .bl b
  | .int i, v => v = .int i
  | .str s, v => s.length ≤ SL ∧ (∀ c ∈ s, c < 0x110000) ∧ v = .str ⟨s.toArray⟩
  | .tup xs, v => ∃ a vs, v = .ref a ∧ SqT Z.K H a vs ∧ DVs H μ xs vs
  | .scr xs, v => ∃ a vs, v = .ref a ∧ Scr Z H a vs ∧ DVs H μ xs vs
  | .rol xs, v => ∃ a vs, v = .ref a ∧ μ.z a ∧ H a = some (.lst vs) ∧ xs.length ≤ SL ∧ DVs H μ xs vs
  | .rin c ns ds, v => ∃ a dx vs, v = .ref a ∧ μ.z a ∧ H a = some (.ins (Z.ca c) dx ((ns.map Z.nm).zip vs)) ∧ ns.length = ds.length ∧ DVs H μ ds vs
  | .rdc ks ds, v => ∃ a kvs o, v = .ref a ∧ H a = some (.frz o (.dK kvs)) ∧ kvs.length ≤ SL ∧ ks.map keyD = kvs.map (fun p => some p.1) ∧ DVs H μ ds (kvs.map (·.2))
  | .ref i, v => ∃ a, μ.l[i]? = some a ∧ v = .ref a
  | .cls c, v => v = .ref (Z.ca c)
  | .unk, v => ∃ s : Str, v = .str s
def DVs (H : Hp) (μ : Mu) : List D → List V → Prop
  | [], vs => vs = []
  | x :: xs, vs => ∃ v r, vs = v :: r ∧ DV H μ x v ∧ DVs H μ xs r
end
/-- fields -/
def FVs (H : Hp) (μ : Mu) : List (Nat × D) → List (Str × V) → Prop
  | [], fs => fs = []
  | (f, d) :: r, fs => ∃ v q, fs = (Z.nm f, v) :: q ∧ DV Z H μ d v ∧ FVs H μ r q
def OOk (H : Hp) (μ : Mu) (a : Addr) : Ob → Prop
  | .lst xs => xs.length ≤ SL ∧ ∃ vs, H a = some (.lst vs) ∧ DVs Z H μ xs vs
  | .ins c fs => ∃ dx gs, H a = some (.ins (Z.ca c) dx gs) ∧ FVs Z H μ fs gs
  | .dct kvs => kvs.length ≤ SL ∧ ∃ qs : List (Key × V), H a = some (.dK qs) ∧ kvs.map (fun p => keyD p.1) = qs.map (fun p => some p.1) ∧ DVs Z H μ (kvs.map (·.2)) (qs.map (·.2))
  | .set xs => xs.length < 4000 ∧ ∃ (ns : List Int) (T : Int → Bool) (n : Nat), xs = ns.map D.int ∧ H a = some (SetO Z.wd a T n) ∧ (∀ j, T j = decide (j ∈ ns)) ∧ n ≤ ns.length
structure RS (μ : Mu) (S : Sto) (H : Hp) : Prop where
  len : μ.l.length = S.length
  nd : μ.l.Nodup
  obj : ∀ (i : Nat) (o : Ob) (a : Addr), S[i]? = some o → μ.l[i]? = some a → OOk Z H μ a o
  err : ∀ p ∈ Z.xs, p.1 ∉ μ.l ∧ flatF p.2 = true ∧ ∃ gs, H p.1 = some (.xd gs) ∧ FVs Z H μ p.2 gs
  zd : ∀ b, μ.z b → b ∉ μ.l ∧ ∃ o, H b = some o
end
/-- what was ahead is kept; what is new was free -/
structure Ext (μ : Mu) (H : Hp) (μ' : Mu) (H' : Hp) : Prop where
  pre : ∃ ν, μ'.l = μ.l ++ ν
  keep : ∀ b o, b ∉ μ.l → H b = some o → H' b = some o
  new : ∀ b ∈ μ'.l, b ∈ μ.l ∨ H b = none
  tup : ∀ b xs, Rd H b (.tup xs) → Rd H' b (.tup xs)
  frz : ∀ b o u, H b = some (.frz o u) → H' b = some (.frz o u)
  fz : ∀ b o, μ.z b → H b = some o → μ'.z b ∧ H' b = some o
  znew : ∀ b, μ'.z b → μ.z b ∨ H b = none
  live : ∀ b o, H b = some o → ∃ o', H' b = some o'
/-- slots -/
structure SV (Z : Zz) (H : Hp) (μ : Mu) (σ : Sl) (τ : St) : Prop where
  len : σ.length = τ.length
  at_ : ∀ (i : Nat) (d : D), σ[i]? = some (some d) → ∃ v, τ[i]? = some (some v) ∧ DV Z H μ d v
  pin : ∀ p ∈ Z.pn, σ[p.1]? = some none → τ[p.1]? = some (some (.ref p.2))
section
variable {Z : Zz} {H H' H'' : Hp} {μ μ' μ'' : Mu} {S : Sto}
theorem Ext.refl : Ext μ H μ H := ⟨⟨[], by simp⟩, fun _ _ _ h => h, fun _ h => .inl h, fun _ _ h => h, fun _ _ _ h => h, fun _ _ z h => ⟨z, h⟩, fun _ z => .inl z, fun _ o h => ⟨o, h⟩⟩
theorem Ext.back (a : Ext μ H μ' H') {x : Addr} (h : H' x = none) : H x = none := by
  cases e : H x with
  | none => rfl
  | some o =>
    obtain ⟨o', h1⟩ := a.live x o e
    rw [h1] at h; cases h
theorem Ext.trans (a : Ext μ H μ' H') (b : Ext μ' H' μ'' H'') : Ext μ H μ'' H'' where
  pre := by
    obtain ⟨ν, e⟩ := a.pre
    obtain ⟨ν', e'⟩ := b.pre
    exact ⟨ν ++ ν', by rw [e', e]; simp⟩
  keep := fun x o hx h => by
    have h1 := a.keep x o hx h
    refine b.keep x o (fun hm => ?_) h1
    rcases a.new x hm with z | z
    · exact hx z
    · rw [z] at h; cases h
  new := fun x hx => by
    rcases b.new x hx with z | z
    · exact a.new x z
    · exact .inr (a.back z)
  tup := fun x xs h => b.tup x xs (a.tup x xs h)
  frz := fun x o u h => b.frz x o u (a.frz x o u h)
  fz := fun x o z h => let ⟨z1, h1⟩ := a.fz x o z h; b.fz x o z1 h1
  znew := fun x z => by
    rcases b.znew x z with z | z
    · exact a.znew x z
    · exact .inr (a.back z)
  live := fun x o h => let ⟨o', h'⟩ := a.live x o h; b.live x o' h'
/-- what values lean on -/
structure Mo (μ : Mu) (H : Hp) (μ' : Mu) (H' : Hp) : Prop where
  pre : ∃ ν, μ'.l = μ.l ++ ν
  tup : ∀ b xs, Rd H b (.tup xs) → Rd H' b (.tup xs)
  frz : ∀ b o u, H b = some (.frz o u) → H' b = some (.frz o u)
  fz : ∀ b o, μ.z b → H b = some o → μ'.z b ∧ H' b = some o
theorem Ext.mo (e : Ext μ H μ' H') : Mo μ H μ' H' := ⟨e.pre, e.tup, e.frz, e.fz⟩
theorem Mo.at (e : Mo μ H μ' H') {i : Nat} {a : Addr} (h : μ.l[i]? = some a) : μ'.l[i]? = some a := by
  obtain ⟨ν, e1⟩ := e.pre
  rw [e1, List.getElem?_append_left (List.getElem?_eq_some_iff.mp h).1]
  exact h
theorem Mo.sqT {K : PySem.W.Frag} (e : Mo μ H μ' H') {a : Addr} {vs : List V} (h : SqT K H a vs) : SqT K H' a vs := by
  rcases h with h | h
  · exact .inl (e.tup _ _ h)
  · exact .inr h
theorem Mo.scr (e : Mo μ H μ' H') {a : Addr} {vs : List V} (h : Scr Z H a vs) : Scr Z H' a vs := by
  rcases h with ⟨o, h⟩ | h
  · exact .inl ⟨o, e.frz _ _ _ h⟩
  · exact .inr h
theorem Ext.at (e : Ext μ H μ' H') {i : Nat} {a : Addr} (h : μ.l[i]? = some a) : μ'.l[i]? = some a := e.mo.at h
theorem Ext.sqT {K : PySem.W.Frag} (e : Ext μ H μ' H') {a : Addr} {vs : List V} (h : SqT K H a vs) : SqT K H' a vs := by
  rcases h with h | h
  · exact .inl (e.tup _ _ h)
  · exact .inr h
theorem Ext.scr (e : Ext μ H μ' H') {a : Addr} {vs : List V} (h : Scr Z H a vs) : Scr Z H' a vs := e.mo.scr h
mutual
theorem DV.mo (e : Mo μ H μ' H') : ∀ {d : D} {v : V}, DV Z H μ d v → DV Z H' μ' d v
  | .non, v, h => by simpa only [DV] using h
  | .bl _, v, h => by simpa only [DV] using h
  | .int _, v, h => by simpa only [DV] using h
  | .str _, v, h => by simpa only [DV] using h
  | .tup xs, v, h => by
    simp only [DV] at h ⊢
    obtain ⟨a, vs, rfl, h1, h2⟩ := h
    exact ⟨a, vs, rfl, e.sqT h1, DVs.mo e h2⟩
  | .scr xs, v, h => by
    simp only [DV] at h ⊢
    obtain ⟨a, vs, rfl, h1, h2⟩ := h
    exact ⟨a, vs, rfl, e.scr h1, DVs.mo e h2⟩
  | .rol xs, v, h => by
    simp only [DV] at h ⊢
    obtain ⟨a, vs, rfl, z, h1, hl, h2⟩ := h
    exact ⟨a, vs, rfl, (e.fz _ _ z h1).1, (e.fz _ _ z h1).2, hl, DVs.mo e h2⟩
  | .rin c ns xs, v, h => by
    simp only [DV] at h ⊢
    obtain ⟨a, dx, vs, rfl, z, h1, hl, h2⟩ := h
    exact ⟨a, dx, vs, rfl, (e.fz _ _ z h1).1, (e.fz _ _ z h1).2, hl, DVs.mo e h2⟩
  | .rdc ks xs, v, h => by
    simp only [DV] at h ⊢
    obtain ⟨a, vs, o, rfl, h1, hz, hl, h2⟩ := h
    exact ⟨a, vs, o, rfl, e.frz _ _ _ h1, hz, hl, DVs.mo e h2⟩
  | .ref i, v, h => by
    simp only [DV] at h ⊢
    obtain ⟨a, h1, rfl⟩ := h
    exact ⟨a, e.at h1, rfl⟩
  | .cls _, v, h => by simpa only [DV] using h
  | .unk, v, h => by simpa only [DV] using h
theorem DVs.mo (e : Mo μ H μ' H') : ∀ {ds : List D} {vs : List V}, DVs Z H μ ds vs → DVs Z H' μ' ds vs
  | [], vs, h => by simpa only [DVs] using h
  | d :: ds, vs, h => by
    simp only [DVs] at h ⊢
    obtain ⟨v, r, rfl, h1, h2⟩ := h
    exact ⟨v, r, rfl, DV.mo e h1, DVs.mo e h2⟩
end
theorem FVs.mo (e : Mo μ H μ' H') : ∀ {fs : List (Nat × D)} {gs : List (Str × V)}, FVs Z H μ fs gs → FVs Z H' μ' fs gs
  | [], gs, h => by simpa only [FVs] using h
  | (f, d) :: r, gs, h => by
    simp only [FVs] at h ⊢
    obtain ⟨v, q, rfl, h1, h2⟩ := h
    exact ⟨v, q, rfl, h1.mo e, FVs.mo e h2⟩
theorem DV.mono (e : Ext μ H μ' H') {d : D} {v : V} (h : DV Z H μ d v) : DV Z H' μ' d v := h.mo e.mo
theorem DVs.mono (e : Ext μ H μ' H') {ds : List D} {vs : List V} (h : DVs Z H μ ds vs) : DVs Z H' μ' ds vs := h.mo e.mo
theorem FVs.mono (e : Ext μ H μ' H') {fs : List (Nat × D)} {gs : List (Str × V)} (h : FVs Z H μ fs gs) : FVs Z H' μ' fs gs := h.mo e.mo
theorem SV.mono (e : Ext μ H μ' H') {σ : Sl} {τ : St} (h : SV Z H μ σ τ) : SV Z H' μ' σ τ :=
  ⟨h.len, (fun i d q => let ⟨v, h1, h2⟩ := h.at_ i d q; ⟨v, h1, h2.mono e⟩), h.pin⟩
theorem DVs.length : ∀ {ds : List D} {vs : List V}, DVs Z H μ ds vs → ds.length = vs.length
  | [], vs, h => by simp only [DVs] at h; subst h; rfl
  | d :: ds, vs, h => by
    simp only [DVs] at h
    obtain ⟨v, r, rfl, _, h2⟩ := h
    simp only [List.length_cons, DVs.length h2]
theorem DVs.get : ∀ {ds : List D} {vs : List V} {i : Nat} {d : D}, DVs Z H μ ds vs → ds[i]? = some d → ∃ v, vs[i]? = some v ∧ DV Z H μ d v
  | [], vs, i, d, h, e => by simp at e
  | x :: xs, vs, 0, d, h, e => by
    simp only [DVs] at h
    obtain ⟨v, r, rfl, h1, _⟩ := h
    simp at e
    subst e
    exact ⟨v, rfl, h1⟩
  | x :: xs, vs, i + 1, d, h, e => by
    simp only [DVs] at h
    obtain ⟨v, r, rfl, _, h2⟩ := h
    simp at e
    obtain ⟨w, h3, h4⟩ := DVs.get h2 e
    exact ⟨w, by simpa using h3, h4⟩
theorem DVs.append : ∀ {ds es : List D} {vs ws : List V}, DVs Z H μ ds vs → DVs Z H μ es ws → DVs Z H μ (ds ++ es) (vs ++ ws)
  | [], es, vs, ws, h, k => by simp only [DVs] at h; subst h; exact k
  | d :: ds, es, vs, ws, h, k => by
    simp only [DVs] at h
    obtain ⟨v, r, rfl, h1, h2⟩ := h
    show DVs Z H μ (d :: (ds ++ es)) (v :: (r ++ ws))
    simp only [DVs]
    exact ⟨v, r ++ ws, rfl, h1, DVs.append h2 k⟩
theorem DVs.take : ∀ {ds : List D} {vs : List V} (n : Nat), DVs Z H μ ds vs → DVs Z H μ (ds.take n) (vs.take n)
  | ds, vs, 0, h => by simp only [List.take_zero, DVs]
  | [], vs, n + 1, h => by simp only [DVs] at h; subst h; simp only [List.take_nil, DVs]
  | d :: ds, vs, n + 1, h => by
    simp only [DVs] at h
    obtain ⟨v, r, rfl, h1, h2⟩ := h
    simp only [List.take_succ_cons, DVs]
    exact ⟨v, _, rfl, h1, DVs.take n h2⟩
theorem DVs.drop : ∀ {ds : List D} {vs : List V} (n : Nat), DVs Z H μ ds vs → DVs Z H μ (ds.drop n) (vs.drop n)
  | ds, vs, 0, h => by simpa only [List.drop_zero] using h
  | [], vs, n + 1, h => by simp only [DVs] at h; subst h; simp only [List.drop_nil, DVs]
  | d :: ds, vs, n + 1, h => by
    simp only [DVs] at h
    obtain ⟨v, r, rfl, h1, h2⟩ := h
    simp only [List.drop_succ_cons]
    exact DVs.drop n h2
theorem DVs.one {d : D} {v : V} (h : DV Z H μ d v) : DVs Z H μ [d] [v] := by
  simp only [DVs]
  exact ⟨v, [], rfl, h, rfl⟩
theorem DVs.of_one {d : D} {vs : List V} (h : DVs Z H μ [d] vs) : ∃ v, vs = [v] ∧ DV Z H μ d v := by
  simp only [DVs] at h
  obtain ⟨v, r, rfl, h1, rfl⟩ := h
  exact ⟨v, rfl, h1⟩
theorem DVs.of_two {d e : D} {vs : List V} (h : DVs Z H μ [d, e] vs) : ∃ v w, vs = [v, w] ∧ DV Z H μ d v ∧ DV Z H μ e w := by
  simp only [DVs] at h
  obtain ⟨v, r, rfl, h1, w, q, rfl, h2, rfl⟩ := h
  exact ⟨v, w, rfl, h1, h2⟩
theorem DVs.set {d : D} {v : V} (k : DV Z H μ d v) : ∀ {ds : List D} {vs : List V} (i : Nat), DVs Z H μ ds vs → DVs Z H μ (ds.set i d) (vs.set i v)
  | [], vs, i, h => by simp only [DVs] at h; subst h; simp only [List.set_nil, DVs]
  | x :: xs, vs, 0, h => by
    simp only [DVs] at h
    obtain ⟨w, r, rfl, h1, h2⟩ := h
    simp only [List.set_cons_zero, DVs]
    exact ⟨v, r, rfl, k, h2⟩
  | x :: xs, vs, i + 1, h => by
    simp only [DVs] at h
    obtain ⟨w, r, rfl, h1, h2⟩ := h
    simp only [List.set_cons_succ, DVs]
    exact ⟨w, _, rfl, h1, DVs.set k i h2⟩
theorem DVs.eraseIdx : ∀ {ds : List D} {vs : List V} (i : Nat), DVs Z H μ ds vs → DVs Z H μ (ds.eraseIdx i) (vs.eraseIdx i)
  | [], vs, i, h => by simp only [DVs] at h; subst h; simp only [List.eraseIdx_nil, DVs]
  | x :: xs, vs, 0, h => by
    simp only [DVs] at h
    obtain ⟨w, r, rfl, h1, h2⟩ := h
    simpa only [List.eraseIdx_cons_zero] using h2
  | x :: xs, vs, i + 1, h => by
    simp only [DVs] at h
    obtain ⟨w, r, rfl, h1, h2⟩ := h
    simp only [List.eraseIdx_cons_succ, DVs]
    exact ⟨w, _, rfl, h1, DVs.eraseIdx i h2⟩
theorem Scr.sqL {a : Addr} {vs : List V} (h : Scr Z H a vs) : SqL Z.K H a vs := by
  rcases h with ⟨o, h⟩ | h
  · exact .inl (.inr ⟨o, h⟩)
  · exact .inr h
theorem RS.at (R : RS Z μ S H) {i : Nat} {o : Ob} (h : S[i]? = some o) : ∃ a, μ.l[i]? = some a ∧ OOk Z H μ a o := by
  have hi := (List.getElem?_eq_some_iff.mp h).1
  have hm : i < μ.l.length := by rw [R.len]; exact hi
  exact ⟨μ.l[i], List.getElem?_eq_getElem hm, R.obj i o _ h (List.getElem?_eq_getElem hm)⟩
/-- a list of the store, as the layer reads it -/
theorem RS.list (R : RS Z μ S H) {i : Nat} {xs : List D} (h : S.l i = some xs) : ∃ a vs, μ.l[i]? = some a ∧ H a = some (.lst vs) ∧ DVs Z H μ xs vs ∧ xs.length ≤ SL := by
  unfold Sto.l at h
  cases e : S[i]? with
  | none => rw [e] at h; cases h
  | some o =>
    rw [e] at h
    obtain ⟨a, ha, ok⟩ := R.at e
    cases o with
    | lst ys =>
      cases h
      obtain ⟨z, vs, h1, h2⟩ := ok
      exact ⟨a, vs, ha, h1, h2, z⟩
    | ins c fs => cases h
    | dct _ => cases h
    | set _ => cases h
/-- a list, of the store or kept -/
theorem RS.lv (R : RS Z μ S H) {d : D} {xs : List D} {v : V} (h : S.lv d = some xs) (hv : DV Z H μ d v) : ∃ a vs, v = .ref a ∧ H a = some (.lst vs) ∧ DVs Z H μ xs vs ∧ xs.length ≤ SL := by
  cases d with
  | ref i =>
    simp only [DV] at hv
    obtain ⟨a, ha, rfl⟩ := hv
    obtain ⟨a', vs, ha', h1, h2, h3⟩ := R.list h
    rw [ha] at ha'; cases ha'
    exact ⟨a, vs, rfl, h1, h2, h3⟩
  | rol ys =>
    cases h
    simp only [DV] at hv
    obtain ⟨a, vs, rfl, _, h1, h2, h3⟩ := hv
    exact ⟨a, vs, rfl, h1, h3, h2⟩
  | _ => cases h
/-- behind a step, an object that was not written -/
theorem OOk.mo (e : Mo μ H μ' H') {a : Addr} {o : Ob} (hk : ∀ q, H a = some q → H' a = some q) (h : OOk Z H μ a o) : OOk Z H' μ' a o := by
  cases o with
  | lst xs =>
    obtain ⟨z, vs, h1, h2⟩ := h
    exact ⟨z, vs, hk _ h1, h2.mo e⟩
  | ins c fs =>
    obtain ⟨dx, gs, h1, h2⟩ := h
    exact ⟨dx, gs, hk _ h1, h2.mo e⟩
  | dct _ =>
    obtain ⟨z, qs, h1, h2, h3⟩ := h
    exact ⟨z, qs, hk _ h1, h2, h3.mo e⟩
  | set xs =>
    obtain ⟨z, ns, T, n, h1, h2, h3⟩ := h
    exact ⟨z, ns, T, n, h1, hk _ h2, h3⟩
theorem OOk.mono (e : Ext μ H μ' H') {a : Addr} {o : Ob} (hk : ∀ q, H a = some q → H' a = some q) (h : OOk Z H μ a o) : OOk Z H' μ' a o := h.mo e.mo hk
theorem RS.err_ext (R : RS Z μ S H) (e : Ext μ H μ' H') : ∀ p ∈ Z.xs, p.1 ∉ μ'.l ∧ flatF p.2 = true ∧ ∃ gs, H' p.1 = some (.xd gs) ∧ FVs Z H' μ' p.2 gs := fun p hp => by
  obtain ⟨h1, h0, gs, h2, h3⟩ := R.err p hp
  exact ⟨fun h => (e.new p.1 h).elim h1 (fun z => by rw [h2] at z; cases z), h0, gs, e.keep _ _ h1 h2, h3.mono e⟩
/-- what the store has is tracked -/
theorem RS.tracked (R : RS Z μ S H) {a : Addr} (h : a ∈ μ.l) : ∃ q, H a = some q ∧ (∀ xs, q ≠ .tup xs) ∧ ∀ w u, q ≠ .frz w u := by
  obtain ⟨i, hi, e⟩ := List.mem_iff_getElem.mp h
  have hs : i < S.length := by rw [← R.len]; exact hi
  have ok := R.obj i S[i] a (List.getElem?_eq_getElem hs) (by rw [List.getElem?_eq_getElem hi, e])
  cases ho : S[i] with
  | lst ys =>
    rw [ho] at ok
    obtain ⟨_, vs, h1, _⟩ := ok
    exact ⟨_, h1, (fun _ z => by cases z), (fun _ _ z => by cases z)⟩
  | ins c fs =>
    rw [ho] at ok
    obtain ⟨dx, gs, h1, _⟩ := ok
    exact ⟨_, h1, (fun _ z => by cases z), (fun _ _ z => by cases z)⟩
  | dct _ =>
    rw [ho] at ok
    obtain ⟨_, qs, h1, _⟩ := ok
    exact ⟨_, h1, (fun _ z => by cases z), (fun _ _ z => by cases z)⟩
  | set _ =>
    rw [ho] at ok
    obtain ⟨_, ns, T, n, _, h1, _⟩ := ok
    exact ⟨_, h1, (fun _ z => by cases z), (fun _ _ z => by cases z)⟩
theorem RS.fresh (R : RS Z μ S H) {a : Addr} (h : H a = none) : a ∉ μ.l := fun hm => by
  obtain ⟨q, hq, _⟩ := R.tracked hm
  rw [h] at hq; cases hq
theorem RS.zfresh (R : RS Z μ S H) {a : Addr} (h : H a = none) : ¬ μ.z a := fun hm => by
  obtain ⟨_, q, hq⟩ := R.zd a hm
  rw [h] at hq; cases hq
theorem upd_live {a : Addr} {o : HO} : ∀ b q, H b = some q → ∃ q', upd H a o b = some q' := fun b q h => by
  by_cases e : b = a
  · subst e; exact ⟨o, upd_same⟩
  · exact ⟨q, by rw [upd_ne e]; exact h⟩
theorem RS.z_ext (R : RS Z μ S H) (e : Ext μ H μ H') : ∀ b, μ.z b → b ∉ μ.l ∧ ∃ o, H' b = some o := fun b hb => by
  obtain ⟨h1, o, h2⟩ := R.zd b hb
  exact ⟨h1, e.live b o h2⟩
/-- an object laid anew that the store does not have (a tuple, a dict of an error) -/
theorem RS.aside (R : RS Z μ S H) {a : Addr} {o : HO} (hn : H a = none) : Ext μ H μ (upd H a o) ∧ RS Z μ S (upd H a o) := by
  have e : Ext μ H μ (upd H a o) := by
    refine ⟨⟨[], by simp⟩, fun b q _ h => by rw [upd_ne (ne_of_none h hn)]; exact h, fun b h => .inl h, fun b xs h => ?_, fun b q u h => by rw [upd_ne (ne_of_none h hn)]; exact h, fun b q z h => ⟨z, by rw [upd_ne (ne_of_none h hn)]; exact h⟩, fun b z => .inl z, upd_live⟩
    rcases h with h | ⟨w, h⟩
    · exact .inl (by rw [upd_ne (ne_of_none h hn)]; exact h)
    · exact .inr ⟨w, by rw [upd_ne (ne_of_none h hn)]; exact h⟩
  exact ⟨e, R.len, R.nd, (fun i q b h1 h2 => (R.obj i q b h1 h2).mono e fun x hx => by rw [upd_ne (ne_of_none hx hn)]; exact hx), R.err_ext e, R.z_ext e⟩
theorem add_l {a : Addr} : (μ.add a).l = μ.l ++ [a] := rfl
/-- an object laid anew and put into the store -/
theorem RS.push (R : RS Z μ S H) {a : Addr} {o : HO} {ob : Ob} (hn : H a = none) (ho : Ext μ H (μ.add a) (upd H a o) → OOk Z (upd H a o) (μ.add a) a ob) : Ext μ H (μ.add a) (upd H a o) ∧ RS Z (μ.add a) (S ++ [ob]) (upd H a o) := by
  have e : Ext μ H (μ.add a) (upd H a o) := by
    refine ⟨⟨[a], rfl⟩, fun b q _ h => by rw [upd_ne (ne_of_none h hn)]; exact h, fun b h => ?_, fun b xs h => ?_, fun b q u h => by rw [upd_ne (ne_of_none h hn)]; exact h, fun b q z h => ⟨z, by rw [upd_ne (ne_of_none h hn)]; exact h⟩, fun b z => .inl z, upd_live⟩
    · rcases List.mem_append.mp h with h | h
      · exact .inl h
      · rw [List.mem_singleton.mp h]; exact .inr hn
    · rcases h with h | ⟨w, h⟩
      · exact .inl (by rw [upd_ne (ne_of_none h hn)]; exact h)
      · exact .inr ⟨w, by rw [upd_ne (ne_of_none h hn)]; exact h⟩
  refine ⟨e, by simp [R.len, add_l], ?_, fun i q b h1 h2 => ?_, R.err_ext e, fun b hb => ?_⟩
  · rw [add_l, List.nodup_append]
    refine ⟨R.nd, by simp, fun x hx y hy => ?_⟩
    rw [List.mem_singleton.mp hy]
    rintro rfl
    exact R.fresh hn hx
  · rw [add_l] at h2
    by_cases hi : i < S.length
    · rw [List.getElem?_append_left hi] at h1
      rw [List.getElem?_append_left (by rw [R.len]; exact hi)] at h2
      exact (R.obj i q b h1 h2).mono e fun x hx => by rw [upd_ne (ne_of_none hx hn)]; exact hx
    · have hi' : i = S.length := by
        have := (List.getElem?_eq_some_iff.mp h1).1
        simp at this
        omega
      subst hi'
      rw [List.getElem?_append_right (Nat.le_refl _)] at h1
      rw [← R.len, List.getElem?_append_right (Nat.le_refl _)] at h2
      simp at h1 h2
      subst h1; subst h2
      exact ho e
  · obtain ⟨h1, q, h2⟩ := R.zd b hb
    refine ⟨fun hm => ?_, e.live b q h2⟩
    rcases List.mem_append.mp hm with hm | hm
    · exact h1 hm
    · rw [List.mem_singleton.mp hm, hn] at h2; cases h2
/-- an object of the store written -/
theorem RS.write (R : RS Z μ S H) {i : Nat} {a : Addr} {o : HO} {ob : Ob} (h0 : μ.l[i]? = some a) (ho : Ext μ H μ (upd H a o) → OOk Z (upd H a o) μ a ob) : Ext μ H μ (upd H a o) ∧ RS Z μ (S.set i ob) (upd H a o) := by
  have ham := List.mem_of_getElem? h0
  have hil : i < S.length := by rw [← R.len]; exact (List.getElem?_eq_some_iff.mp h0).1
  obtain ⟨q, hs, hq, hq2⟩ := R.tracked ham
  have nt : ∀ xs, ¬ Rd H a (.tup xs) := fun xs z => by
    rcases z with z | ⟨w, z⟩
    · rw [hs] at z; cases z; exact hq _ rfl
    · rw [hs] at z; cases z; exact hq2 _ _ rfl
  have e : Ext μ H μ (upd H a o) := by
    refine ⟨⟨[], by simp⟩, fun b q hb h => ?_, fun b h => .inl h, fun b xs h => ?_, fun b w u h => ?_, fun b q z h => ⟨z, ?_⟩, fun b z => .inl z, upd_live⟩
    · rw [upd_ne (fun z : b = a => hb (by rw [z]; exact ham))]; exact h
    · have hb : b ≠ a := fun z => nt xs (z ▸ h)
      rcases h with h | ⟨w, h⟩
      · exact .inl (by rw [upd_ne hb]; exact h)
      · exact .inr ⟨w, by rw [upd_ne hb]; exact h⟩
    · have hb : b ≠ a := fun z => by rw [z, hs] at h; cases h; exact hq2 _ _ rfl
      rw [upd_ne hb]; exact h
    · rw [upd_ne (fun z' : b = a => (R.zd b z).1 (by rw [z']; exact ham))]; exact h
  refine ⟨e, by rw [List.length_set]; exact R.len, R.nd, fun j q' b h1 h2 => ?_, R.err_ext e, R.z_ext e⟩
  by_cases hj : j = i
  · subst hj
    rw [h0] at h2; cases h2
    rw [List.getElem?_set_self hil] at h1
    cases h1
    exact ho e
  · rw [List.getElem?_set_ne (Ne.symm hj)] at h1
    have hb : b ≠ a := by
      rintro rfl
      obtain ⟨l1, e1⟩ := List.getElem?_eq_some_iff.mp h2
      obtain ⟨l2, e2⟩ := List.getElem?_eq_some_iff.mp h0
      exact hj ((List.getElem_inj R.nd).mp (e1.trans e2.symm))
    exact (R.obj j q' b h1 h2).mono e fun x hx => by rw [upd_ne hb]; exact hx
end
section
variable {Z : Zz} {H H' H1 : Hp} {μ μ1 : Mu} {S : Sto}
/-- an object that the store does not have is written -/
theorem RS.over (R : RS Z μ S H) {a : Addr} {o q : HO} (hq : H a = some q) (h1 : ∀ xs, q ≠ .tup xs) (h2 : ∀ w u, q ≠ .frz w u) (h3 : ∀ gs, q ≠ .xd gs) (ha : a ∉ μ.l) (hz : ¬ μ.z a) : Mo μ H μ (upd H a o) ∧ RS Z μ S (upd H a o) := by
  have e : Mo μ H μ (upd H a o) := by
    refine ⟨⟨[], by simp⟩, fun b xs h => ?_, fun b w u h => ?_, fun b q z h => ⟨z, by rw [upd_ne (fun z' : b = a => hz (z' ▸ z))]; exact h⟩⟩
    · have hb : b ≠ a := fun z => by
        subst z
        rcases h with h | ⟨w, h⟩
        · rw [hq] at h; cases h; exact h1 _ rfl
        · rw [hq] at h; cases h; exact h2 _ _ rfl
      rcases h with h | ⟨w, h⟩
      · exact .inl (by rw [upd_ne hb]; exact h)
      · exact .inr ⟨w, by rw [upd_ne hb]; exact h⟩
    · have hb : b ≠ a := fun z => by subst z; rw [hq] at h; cases h; exact h2 _ _ rfl
      rw [upd_ne hb]; exact h
  refine ⟨e, R.len, R.nd, (fun i ob b g1 g2 => (R.obj i ob b g1 g2).mo e fun x hx => by rw [upd_ne (fun z : b = a => ha (z ▸ List.mem_of_getElem? g2))]; exact hx), fun p hp => ?_, fun b hb => ?_⟩
  · obtain ⟨k1, k0, gs, k2, k3⟩ := R.err p hp
    exact ⟨k1, k0, gs, by rw [upd_ne (fun z : p.1 = a => by rw [z, hq] at k2; cases k2; exact h3 _ rfl)]; exact k2, k3.mo e⟩
  · obtain ⟨k1, o, k2⟩ := R.zd b hb
    exact ⟨k1, upd_live b o k2⟩
theorem Ext.over (e : Ext μ1 H1 μ H) {a : Addr} {o : HO} (hn : H1 a = none) : Ext μ1 H1 μ (upd H a o) where
  pre := e.pre
  keep := fun b q hb h => by rw [upd_ne (ne_of_none h hn)]; exact e.keep b q hb h
  new := e.new
  tup := fun b xs h => by
    have hb : b ≠ a := fun z => by
      subst z
      rcases h with h | ⟨w, h⟩ <;> (rw [hn] at h; cases h)
    rcases e.tup b xs h with h | ⟨w, h⟩
    · exact .inl (by rw [upd_ne hb]; exact h)
    · exact .inr ⟨w, by rw [upd_ne hb]; exact h⟩
  frz := fun b q u h => by rw [upd_ne (ne_of_none h hn)]; exact e.frz b q u h
  fz := fun b q z h => ⟨(e.fz b q z h).1, by rw [upd_ne (ne_of_none h hn)]; exact (e.fz b q z h).2⟩
  znew := e.znew
  live := fun b q h => let ⟨q', h'⟩ := e.live b q h; upd_live b q' h'
theorem Ext.out (e : Ext μ H μ1 H1) {a : Addr} {o : HO} (hq : H a = some o) (ha : a ∉ μ.l) : a ∉ μ1.l ∧ H1 a = some o :=
  ⟨fun h => (e.new a h).elim ha (fun z => by rw [hq] at z; cases z), e.keep a o ha hq⟩
theorem Ext.outz (e : Ext μ H μ1 H1) {a : Addr} {o : HO} (hq : H a = some o) (ha : ¬ μ.z a) : ¬ μ1.z a :=
  fun h => (e.znew a h).elim ha (fun z => by rw [hq] at z; cases z)
/-- a list that the store did not have is taken in -/
theorem RS.adopt (R : RS Z μ S H) (e : Ext μ1 H1 μ H) {a : Addr} {xs : List D} {vs : List V} (hq : H a = some (.lst vs)) (hn : H1 a = none) (ha : a ∉ μ.l) (haz : ¬ μ.z a) (hz : xs.length ≤ SL) (hv : DVs Z H μ xs vs) :
    Ext μ1 H1 (μ.add a) H ∧ RS Z (μ.add a) (S ++ [.lst xs]) H := by
  have m : Mo μ H (μ.add a) H := ⟨⟨[a], rfl⟩, fun _ _ h => h, fun _ _ _ h => h, fun _ _ z h => ⟨z, h⟩⟩
  refine ⟨⟨?_, e.keep, fun b hb => ?_, e.tup, e.frz, e.fz, e.znew, e.live⟩, by simp [R.len, add_l], ?_, fun i q b h1 h2 => ?_, fun p hp => ?_, fun b hb => ?_⟩
  · obtain ⟨ν, h⟩ := e.pre
    exact ⟨ν ++ [a], by rw [add_l, h]; simp⟩
  · rcases List.mem_append.mp hb with hb | hb
    · exact e.new b hb
    · rw [List.mem_singleton.mp hb]; exact .inr hn
  · rw [add_l, List.nodup_append]
    refine ⟨R.nd, by simp, fun x hx y hy => ?_⟩
    rw [List.mem_singleton.mp hy]
    rintro rfl
    exact ha hx
  · rw [add_l] at h2
    by_cases hi : i < S.length
    · rw [List.getElem?_append_left hi] at h1
      rw [List.getElem?_append_left (by rw [R.len]; exact hi)] at h2
      exact (R.obj i q b h1 h2).mo m fun x hx => hx
    · have hi' : i = S.length := by
        have := (List.getElem?_eq_some_iff.mp h1).1
        simp at this
        omega
      subst hi'
      rw [List.getElem?_append_right (Nat.le_refl _)] at h1
      rw [← R.len, List.getElem?_append_right (Nat.le_refl _)] at h2
      simp at h1 h2
      subst h1; subst h2
      exact ⟨hz, vs, hq, hv.mo m⟩
  · obtain ⟨k1, k0, gs, k2, k3⟩ := R.err p hp
    refine ⟨fun hm => ?_, k0, gs, k2, k3.mo m⟩
    rcases List.mem_append.mp hm with hm | hm
    · exact k1 hm
    · rw [List.mem_singleton.mp hm, hq] at k2; cases k2
  · obtain ⟨k1, o, k2⟩ := R.zd b hb
    refine ⟨fun hm => ?_, o, k2⟩
    rcases List.mem_append.mp hm with hm | hm
    · exact k1 hm
    · exact haz (List.mem_singleton.mp hm ▸ hb)
end
structure Kt where
  v : List D → Sto → Mu → Hp → Prop := fun _ _ _ _ => False
  nx : Sl → Sto → Mu → Hp → Prop := fun _ _ _ _ => False
  rt : D → Sto → Mu → Hp → Prop := fun _ _ _ _ => False
  bk : Sl → Sto → Mu → Hp → Prop := fun _ _ _ _ => False
  ct : Sl → Sto → Mu → Hp → Prop := fun _ _ _ _ => False
  x : Nat → List (Nat × D) → Sl → Sto → Mu → Hp → Prop := fun _ _ _ _ _ _ => False
def Want (Z : Zz) (μ : Mu) (H : Hp) (k : Kt) (r : Res) : Prop :=
  match r with
  | .val ds S => ∀ μ' H', Ext μ H μ' H' → RS Z μ' S H' → k.v ds S μ' H'
  | .nx σ S => ∀ μ' H', Ext μ H μ' H' → RS Z μ' S H' → k.nx σ S μ' H'
  | .rt d S => ∀ μ' H', Ext μ H μ' H' → RS Z μ' S H' → k.rt d S μ' H'
  | .bk σ S => ∀ μ' H', Ext μ H μ' H' → RS Z μ' S H' → k.bk σ S μ' H'
  | .ct σ S => ∀ μ' H', Ext μ H μ' H' → RS Z μ' S H' → k.ct σ S μ' H'
  | .exc c fs σ S => ∀ μ' H', Ext μ H μ' H' → RS Z μ' S H' → k.x c fs σ S μ' H'
  | .bad => False
section
variable {Z : Zz} {H H' : Hp} {μ μ' : Mu} {k k' : Kt} {r : Res} {σ : Sl}
theorem Want.ext (e : Ext μ H μ' H') (h : Want Z μ H k r) : Want Z μ' H' k r := by
  cases r <;> first
    | exact h
    | (intro μ2 H2 e2 R2; exact h μ2 H2 (e.trans e2) R2)
/-- k is weakened -/
theorem Want.mono (h : Want Z μ H k r) (hv : ∀ ds S μ' H', Ext μ H μ' H' → RS Z μ' S H' → k.v ds S μ' H' → k'.v ds S μ' H')
    (hnx : ∀ ds S μ' H', Ext μ H μ' H' → RS Z μ' S H' → k.nx ds S μ' H' → k'.nx ds S μ' H')
    (hrt : ∀ ds S μ' H', Ext μ H μ' H' → RS Z μ' S H' → k.rt ds S μ' H' → k'.rt ds S μ' H')
    (hbk : ∀ ds S μ' H', Ext μ H μ' H' → RS Z μ' S H' → k.bk ds S μ' H' → k'.bk ds S μ' H')
    (hct : ∀ ds S μ' H', Ext μ H μ' H' → RS Z μ' S H' → k.ct ds S μ' H' → k'.ct ds S μ' H')
    (hx : ∀ c fs σ S μ' H', Ext μ H μ' H' → RS Z μ' S H' → k.x c fs σ S μ' H' → k'.x c fs σ S μ' H') : Want Z μ H k' r := by
  cases r with
  | bad => exact h
  | val ds S => intro μ2 H2 e2 R2; exact hv _ _ _ _ e2 R2 (h _ _ e2 R2)
  | nx ds S => intro μ2 H2 e2 R2; exact hnx _ _ _ _ e2 R2 (h _ _ e2 R2)
  | rt ds S => intro μ2 H2 e2 R2; exact hrt _ _ _ _ e2 R2 (h _ _ e2 R2)
  | bk ds S => intro μ2 H2 e2 R2; exact hbk _ _ _ _ e2 R2 (h _ _ e2 R2)
  | ct ds S => intro μ2 H2 e2 R2; exact hct _ _ _ _ e2 R2 (h _ _ e2 R2)
  | exc c fs σ S => intro μ2 H2 e2 R2; exact hx _ _ _ _ _ _ e2 R2 (h _ _ e2 R2)
/-- a value first -/
theorem Want.b1 {f : D → Sto → Res} (h : Want Z μ H k (b1 σ r f)) :
    Want Z μ H { v := fun ds S μ1 H1 => ∃ d, ds = [d] ∧ Want Z μ1 H1 k (f d S), x := fun c fs _ S μ1 H1 => k.x c fs σ S μ1 H1 } r := by
  cases r with
  | val ds S =>
    match ds, h with
    | [d], h => exact fun μ1 H1 e R => ⟨d, rfl, Want.ext e h⟩
    | [], h => exact h.elim
    | _ :: _ :: _, h => exact h.elim
  | exc c fs σ' S => exact fun μ1 H1 e R => h μ1 H1 e R
  | nx _ _ => exact h.elim
  | rt _ _ => exact h.elim
  | bk _ _ => exact h.elim
  | ct _ _ => exact h.elim
  | bad => exact h.elim
theorem Want.bv {f : List D → Sto → Res} (h : Want Z μ H k (bv σ r f)) :
    Want Z μ H { v := fun ds S μ1 H1 => Want Z μ1 H1 k (f ds S), x := fun c fs _ S μ1 H1 => k.x c fs σ S μ1 H1 } r := by
  cases r with
  | val ds S => exact fun μ1 H1 e R => Want.ext e h
  | exc c fs σ' S => exact fun μ1 H1 e R => h μ1 H1 e R
  | nx _ _ => exact h.elim
  | rt _ _ => exact h.elim
  | bk _ _ => exact h.elim
  | ct _ _ => exact h.elim
  | bad => exact h.elim
theorem Want.bn {f : Sl → Sto → Res} (h : Want Z μ H k (bn r f)) : Want Z μ H { k with nx := fun σ S μ1 H1 => Want Z μ1 H1 k (f σ S) } r := by
  cases r with
  | nx σ' S => exact fun μ1 H1 e R => Want.ext e h
  | _ => exact h
end
/-- an error as it stands in the layer's heap -/
def XV (Z : Zz) (H : Hp) (μ : Mu) (c : Nat) (fs : List (Nat × D)) (cls : Value) (dd : Option Addr) : Prop :=
  cls = .ref (Z.ca c) ∧ ((fs = [] ∧ dd = none) ∨ ∃ d gs, dd = some d ∧ d ∉ μ.l ∧ H d = some (.xd gs) ∧ FVs Z H μ fs gs)
abbrev kX (Z : Zz) (W : WX) (τ : St) : Nat → List (Nat × D) → Sl → Sto → Mu → Hp → Prop := fun c fs _ _ μ H => ∀ cls dd, XV Z H μ c fs cls dd → W cls dd τ H
abbrev kE (Z : Zz) (W : WX) (τ : St) (Q : VK) : Kt := { v := fun ds _ μ H => ∃ d, ds = [d] ∧ ∀ v, DV Z H μ d v → Q v H, x := kX Z W τ }
abbrev kA (Z : Zz) (W : WX) (τ : St) (Q : List V → Hp → Prop) : Kt := { v := fun ds _ μ H => ∀ vs, DVs Z H μ ds vs → Q vs H, x := kX Z W τ }
abbrev kT (Z : Zz) (W : WX) (τ : St) (Q : Bool → Hp → Prop) : Kt := { v := fun ds S _ H => ∃ d b, ds = [d] ∧ tru S d = some b ∧ Q b H, x := kX Z W τ }
abbrev kS (Z : Zz) (W : WX) (D : Ends) : Kt :=
  { nx := fun σ _ μ H => ∀ τ, SV Z H μ σ τ → D.nx τ H, rt := fun d _ μ H => ∀ v, DV Z H μ d v → D.rt v H, bk := fun σ _ μ H => ∀ τ, SV Z H μ σ τ → D.bk τ H, ct := fun σ _ μ H => ∀ τ, SV Z H μ σ τ → D.ct τ H,
    x := fun c fs σ _ μ H => ∀ τ, SV Z H μ σ τ → ∀ cls dd, XV Z H μ c fs cls dd → W cls dd τ H }
/-- a statement in a place from which no error is let out -/
abbrev kG (Z : Zz) (Q : St → Hp → Prop) : Kt := { nx := fun σ _ μ H => ∀ τ, SV Z H μ σ τ → Q τ H }
section
variable (Z : Zz) (P : Pg) (Φ : Nat → List D → Sto → Res) (W : WX) (c : C)
def rdE : TE := fun τ H Q => ∃ μ σ S, RS Z μ S H ∧ SV Z H μ σ τ ∧ Want Z μ H (kE Z W τ Q) (ev P Φ c [] σ S)
def rdA : TA := fun τ H Q => ∃ μ σ S, RS Z μ S H ∧ SV Z H μ σ τ ∧ Want Z μ H (kA Z W τ Q) (ev P Φ c [] σ S)
def rdT : TT := fun τ H Q => ∃ μ σ S, RS Z μ S H ∧ SV Z H μ σ τ ∧ Want Z μ H (kT Z W τ Q) (ev P Φ c [] σ S)
def rdS : TS := fun D τ H => ∃ μ σ S, RS Z μ S H ∧ SV Z H μ σ τ ∧ Want Z μ H (kS Z W D) (ev P Φ c [] σ S)
def rdG : TG := fun v τ H Q => ∃ μ σ S d, RS Z μ S H ∧ SV Z H μ σ τ ∧ DV Z H μ d v ∧ Want Z μ H (kG Z Q) (ev P Φ c [d] σ S)
def rdGs : TGs := fun vs τ H Q => ∃ μ σ S ds, RS Z μ S H ∧ SV Z H μ σ τ ∧ DVs Z H μ ds vs ∧ Want Z μ H (kG Z Q) (ev P Φ c ds σ S)
end
theorem PE.imp {X : Cx} {e : Expr} {t t' : TE} (h : PE X e t) (f : ∀ σ H Q, t' σ H Q → t σ H Q) : PE X e t' := ⟨fun pins s σ H Q I q => h.run pins s σ H Q I (f σ H Q q)⟩
theorem PT.imp {X : Cx} {e : Expr} {t t' : TT} (h : PT X e t) (f : ∀ σ H Q, t' σ H Q → t σ H Q) : PT X e t' := ⟨fun pins s σ H Q I q => h.run pins s σ H Q I (f σ H Q q)⟩
theorem PW.imp {X : Cx} {e : Expr} {t t' : TT} (h : PW X e t) (f : ∀ σ H Q, t' σ H Q → t σ H Q) : PW X e t' := ⟨fun wh pins s σ H Q I q => h.run wh pins s σ H Q I (f σ H Q q)⟩
theorem PA.imp {X : Cx} {e : List Expr} {t t' : TA} (h : PA X e t) (f : ∀ σ H Q, t' σ H Q → t σ H Q) : PA X e t' := ⟨fun p pins s σ H Q I q => h.run p pins s σ H Q I (f σ H Q q)⟩
theorem PS.imp {X : Cx} {e : Stmt} {t t' : TS} (h : PS X e t) (f : ∀ D σ H, t' D σ H → t D σ H) : PS X e t' := ⟨fun pins s σ H D I q => h.run pins s σ H D I (f D σ H q)⟩
theorem PSs.imp {X : Cx} {e : List Stmt} {t t' : TS} (h : PSs X e t) (f : ∀ D σ H, t' D σ H → t D σ H) : PSs X e t' := ⟨fun pins s σ H D I q => h.run pins s σ H D I (f D σ H q)⟩
theorem PG.imp {X : Cx} {e : Expr} {t t' : TG} (h : PG X e t) (f : ∀ v σ H Q, t' v σ H Q → t v σ H Q) : PG X e t' := ⟨fun pins s σ H v u Q I r q => h.run pins s σ H v u Q I r (f v σ H Q q)⟩
theorem PGs.imp {X : Cx} {e : List Expr} {t t' : TGs} (h : PGs X e t) (f : ∀ v σ H Q, t' v σ H Q → t v σ H Q) : PGs X e t' := ⟨fun pins s σ H v u Q I r q => h.run pins s σ H v u Q I r (f v σ H Q q)⟩
theorem PI.imp {X : Cx} {tg e : Expr} {t t' : TI} (h : PI X tg e t) (f : ∀ σ H Q, t' σ H Q → t σ H Q) : PI X tg e t' := ⟨fun pins s σ H Q I q => h.run pins s σ H Q I (f σ H Q q)⟩
end Vm
namespace Vm
open PySem L2
section
variable {Z : Zz} {H : Hp} {μ : Mu} {S : Sto}
theorem strOk_of {s : List Nat} (h : ∀ c ∈ s, c < 0x110000) : PyData.strOk ⟨s.toArray⟩ = true := by
  unfold PyData.strOk
  simp only [List.all_toArray, List.all_eq_true, decide_eq_true_eq]
  exact h
theorem pds_cons {n : Nat} {x : D} {xs : List D} {ps : List PyData} (h : pds S n (x :: xs) = some ps) : ∃ p q, pd S n x = some p ∧ pds S n xs = some q ∧ ps = p :: q := by
  rw [pds_con] at h
  cases e : pd S n x with
  | none => rw [e] at h; cases h
  | some p =>
    rw [e] at h
    cases e2 : pds S n xs with
    | none => rw [e2] at h; cases h
    | some q => rw [e2] at h; cases h; exact ⟨p, q, rfl, rfl, rfl⟩
/-- what reads as data -/
def PdOk (Z : Zz) (H : Hp) (μ : Mu) (S : Sto) (n : Nat) : Prop := ∀ (d : D) (p : PyData) (v : V), pd S n d = some p → DV Z H μ d v → Dp Z.K H v p ∧ p.canLay0 = true ∧ p.depth ≤ n
theorem pds_ok {n : Nat} (h : PdOk Z H μ S n) : ∀ (ds : List D) (ps : List PyData) (vs : List V), pds S n ds = some ps → DVs Z H μ ds vs → DpAll Z.K H vs ps ∧ PyData.canLayAll0 ps = true ∧ PyData.depthAll ps ≤ n
  | [], ps, vs, h1, h2 => by
    rw [pds_nil] at h1
    cases h1
    simp only [DVs] at h2
    subst h2
    exact ⟨.nil, by rw [PyData.canLayAll0], by rw [PyData.depthAll]; exact Nat.zero_le _⟩
  | x :: xs, ps, vs, h1, h2 => by
    obtain ⟨p, q, e1, e2, rfl⟩ := pds_cons h1
    simp only [DVs] at h2
    obtain ⟨v, r, rfl, h3, h4⟩ := h2
    obtain ⟨a1, a2, a3⟩ := h x p v e1 h3
    obtain ⟨b1, b2, b3⟩ := pds_ok h xs q r e2 h4
    refine ⟨.cons a1 b1, by rw [PyData.canLayAll0, a2, b2]; rfl, by rw [PyData.depthAll]; exact Nat.max_le.mpr ⟨a3, b3⟩⟩
theorem pd_ok (R : RS Z μ S H) : ∀ n, PdOk Z H μ S n := by
  have flat : ∀ (n : Nat) (d : D) (p : PyData) (v : V), (∀ xs, d ≠ .tup xs) → (∀ xs, d ≠ .scr xs) → (∀ i, d ≠ .ref i) → (∀ xs, d ≠ .rol xs) → pd S n d = some p → DV Z H μ d v → Dp Z.K H v p ∧ p.canLay0 = true ∧ p.depth ≤ n := by
    intro n d p v n1 n3 n2 n4 h1 h2
    cases d with
    | non => rw [pd_non] at h1; cases h1; simp only [DV] at h2; subst h2; exact ⟨.non, rfl, Nat.zero_le _⟩
    | bl b => rw [pd_bl] at h1; cases h1; simp only [DV] at h2; subst h2; exact ⟨.bl b, rfl, Nat.zero_le _⟩
    | int i => rw [pd_int] at h1; cases h1; simp only [DV] at h2; subst h2; exact ⟨.int i, rfl, Nat.zero_le _⟩
    | str s =>
      rw [pd_str] at h1; cases h1
      simp only [DV] at h2
      obtain ⟨_, h3, rfl⟩ := h2
      exact ⟨.str _, by rw [PyData.canLay0]; exact strOk_of h3, by rw [PyData.depth]; exact Nat.zero_le _⟩
    | tup xs => exact absurd rfl (n1 xs)
    | scr xs => exact absurd rfl (n3 xs)
    | rol xs => exact absurd rfl (n4 xs)
    | rin c ns ds => cases n <;> cases h1
    | rdc ks ds => cases n <;> cases h1
    | ref i => exact absurd rfl (n2 i)
    | cls c => rw [pd_cls] at h1; cases h1
    | unk => cases n <;> cases h1
  intro n
  induction n with
  | zero =>
    intro d p v h1 h2
    cases d with
    | tup xs => simp [pd] at h1
    | scr xs => simp [pd] at h1
    | rol xs => simp [pd] at h1
    | ref i => simp [pd] at h1
    | _ => exact flat 0 _ p v (fun _ z => by cases z) (fun _ z => by cases z) (fun _ z => by cases z) (fun _ z => by cases z) h1 h2
  | succ n ih =>
    intro d p v h1 h2
    cases d with
    | tup xs =>
      rw [pd_tup] at h1
      cases e : pds S n xs with
      | none => rw [e] at h1; cases h1
      | some ps =>
        rw [e] at h1; cases h1
        simp only [DV] at h2
        obtain ⟨a, vs, rfl, h3, h4⟩ := h2
        obtain ⟨b1, b2, b3⟩ := pds_ok ih xs ps vs e h4
        exact ⟨.tup h3 b1, by rw [PyData.canLay0]; exact b2, by rw [PyData.depth]; omega⟩
    | scr xs =>
      rw [pd_scr] at h1
      cases e : pds S n xs with
      | none => rw [e] at h1; cases h1
      | some ps =>
        rw [e] at h1; cases h1
        simp only [DV] at h2
        obtain ⟨a, vs, rfl, h3, h4⟩ := h2
        obtain ⟨b1, b2, b3⟩ := pds_ok ih xs ps vs e h4
        exact ⟨.lst h3.sqL b1, by rw [PyData.canLay0]; exact b2, by rw [PyData.depth]; omega⟩
    | rol xs =>
      rw [pd_rol] at h1
      cases e : pds S n xs with
      | none => rw [e] at h1; cases h1
      | some ps =>
        rw [e] at h1; cases h1
        obtain ⟨a, vs, rfl, h3, h4, _⟩ := R.lv (show S.lv (.rol xs) = some xs from rfl) h2
        obtain ⟨b1, b2, b3⟩ := pds_ok ih xs ps vs e h4
        exact ⟨.lst (SqL.of h3) b1, by rw [PyData.canLay0]; exact b2, by rw [PyData.depth]; omega⟩
    | ref i =>
      rw [pd_ref] at h1
      cases e0 : S.l i with
      | none => rw [e0] at h1; cases h1
      | some xs =>
        rw [e0] at h1
        rw [Option.bind_some] at h1
        cases e : pds S n xs with
        | none => rw [e] at h1; cases h1
        | some ps =>
          rw [e] at h1; cases h1
          obtain ⟨a, vs, rfl, h3, h4, _⟩ := R.lv (show S.lv (.ref i) = some xs from e0) h2
          obtain ⟨b1, b2, b3⟩ := pds_ok ih xs ps vs e h4
          exact ⟨.lst (SqL.of h3) b1, by rw [PyData.canLay0]; exact b2, by rw [PyData.depth]; omega⟩
    | _ => exact flat (n + 1) _ p v (fun _ z => by cases z) (fun _ z => by cases z) (fun _ z => by cases z) (fun _ z => by cases z) h1 h2
theorem shaped_of {p : PyData} (h1 : p.canLay0 = true) (h2 : p.depth ≤ 40) : SeqAt.shaped p = true := by
  unfold SeqAt.shaped
  rw [h1, decide_eq_true (by omega : p.depth ≤ 64)]
  rfl
theorem eqD_ok (R : RS Z μ S H) {a b : D} {x y : V} {r : Bool} (h : eqD S a b = some r) (ha : DV Z H μ a x) (hb : DV Z H μ b y) :
    ∃ d e, Dp Z.K H x d ∧ Dp Z.K H y e ∧ SeqAt.shaped d = true ∧ SeqAt.shaped e = true ∧ PyData.eqv d e = r := by
  unfold eqD at h
  cases e1 : pd S 40 a with
  | none => rw [e1] at h; cases h
  | some d =>
    cases e2 : pd S 40 b with
    | none => rw [e1, e2] at h; cases h
    | some e =>
      rw [e1, e2] at h
      cases h
      obtain ⟨a1, a2, a3⟩ := pd_ok R 40 a d x e1 ha
      obtain ⟨b1, b2, b3⟩ := pd_ok R 40 b e y e2 hb
      exact ⟨d, e, a1, b1, shaped_of a2 a3, shaped_of b2 b3, rfl⟩
end
/-- what is wanted of a value that comes back -/
abbrev kQ (Z : Zz) (Q : VK) : Kt := { v := fun ds _ μ H => ∃ d, ds = [d] ∧ ∀ v, DV Z H μ d v → Q v H }
def rB (Z : Zz) (f : D → D → Sto → Res) : R2 := fun x y H Q => ∃ μ S d e, RS Z μ S H ∧ DV Z H μ d x ∧ DV Z H μ e y ∧ Want Z μ H (kQ Z Q) (f d e S)
def rC (Z : Zz) (f : D → D → Sto → Option Bool) : R2 := fun x y H Q => ∃ μ S d e b, RS Z μ S H ∧ DV Z H μ d x ∧ DV Z H μ e y ∧ f d e S = some b ∧ Q (.bl b) H
section
variable {X : Cx} {Z : Zz} {H H' : Hp} {μ μ' : Mu} {S : Sto} {Q : VK}
theorem Want.dn {d : D} {v : V} (h : Want Z μ H (kQ Z Q) (.val [d] S)) (R : RS Z μ S H) (hv : DV Z H μ d v) : Q v H := by
  obtain ⟨d', e, h'⟩ := h μ H Ext.refl R
  cases e
  exact h' v hv
theorem Want.dn' {d : D} {v : V} (h : Want Z μ H (kQ Z Q) (.val [d] S)) (e : Ext μ H μ' H') (R : RS Z μ' S H') (hv : DV Z H' μ' d v) : Q v H' := by
  obtain ⟨d', e, h'⟩ := h μ' H' e R
  cases e
  exact h' v hv
/-- a new tuple -/
theorem new_tup (R : RS Z μ S H) {xs : List D} {vs : List V} (hxs : DVs Z H μ xs vs) (h : Want Z μ H (kQ Z Q) (.val [.tup xs] S)) {p : Addr} (hp : H p = none) : Q (.ref p) (upd H p (.tup vs)) := by
  obtain ⟨e, R'⟩ := R.aside (o := .tup vs) hp
  refine h.dn' e R' ?_
  simp only [DV]
  exact ⟨p, vs, rfl, SqT.of upd_same, hxs.mono e⟩
/-- a new list -/
theorem new_lst (R : RS Z μ S H) {xs : List D} {vs : List V} (hz : xs.length ≤ SL) (hxs : DVs Z H μ xs vs) (h : Want Z μ H (kQ Z Q) (.val [.ref S.length] (S ++ [.lst xs]))) {p : Addr} (hp : H p = none) : Q (.ref p) (upd H p (.lst vs)) := by
  obtain ⟨e, R'⟩ := R.push (o := .lst vs) (ob := .lst xs) hp fun e => ⟨hz, vs, upd_same, hxs.mono e⟩
  refine h.dn' e R' ?_
  simp only [DV]
  exact ⟨p, by rw [add_l, ← R.len, List.getElem?_append_right (Nat.le_refl _)]; simp, rfl⟩
/-- a place that is free in the layer's heap is no place of the store, but for a read-only list -/
theorem RS.lst_tracked (R : RS Z μ S H) {i : Nat} {xs : List D} (h : S[i]? = some (.lst xs)) : ∃ a vs, μ.l[i]? = some a ∧ H a = some (.lst vs) ∧ DVs Z H μ xs vs ∧ xs.length ≤ SL := by
  obtain ⟨a, ha, z, vs, h1, h2⟩ := R.at h
  exact ⟨a, vs, ha, h1, h2, z⟩
end
end Vm
namespace Vm
open PySem L2
section
variable {X : Cx} {Z : Zz}
theorem fdiv_pos {i j : Int} (h : 0 < j) : i.fdiv j = i / j := Int.fdiv_eq_ediv_of_nonneg i (by omega)
theorem mulOk_ok {i j : Int} (h : mulOk i j = true) : CMul i j ∨ CMulW i j := by
  unfold mulOk at h
  simp only [Bool.or_eq_true, decide_eq_true_eq] at h
  rcases h with (h | h) | h
  · left; left; exact ⟨by omega, by omega⟩
  · left; right; exact ⟨by omega, by omega⟩
  · right; exact h
theorem divOk_ok {j : Int} (h : divOk j = true) : CDivN 0 j ∨ CDivW 0 j := by
  unfold divOk at h
  simp only [Bool.and_eq_true, Bool.or_eq_true, decide_eq_true_eq] at h
  obtain ⟨h0, h | h⟩ := h
  · left; exact ⟨h0, h⟩
  · right; exact h
theorem powOk_ok {i j : Int} (h : powOk i j = true) : CPow i j := by
  unfold powOk at h
  simp only [Bool.and_eq_true, decide_eq_true_eq] at h
  exact ⟨h.1.1, h.1.2, h.2⟩
theorem shlOk_ok {i j : Int} (h : shlOk i j = true) : CShl i j := by
  unfold shlOk at h
  simp only [Bool.and_eq_true, decide_eq_true_eq] at h
  have := PyProof.Rows.intBits_le h.2
  exact ⟨h.1.1, by have := h.1.2; omega⟩
theorem op_int (op : Operator) {i j k : Int} (h : arith op i j = some k) :
    ∀ (pins : List (Addr × Obj)) (s : Shared) (σ : St) (H : Hp) (v u : Value) (Q : VK), Inv X pins σ H s → RelV (.int i) v → RelV (.int j) u → Q (.int k) H → wpAny (model X.prog X.w) X.A (binaryOp op v u) (EP X pins σ Q) X.xe s := by
  intro pins s σ H v u Q I rx ry q
  cases op with
  | Add => cases h; exact op_add pins s σ H _ _ v u Q I rx ry ⟨i, j, rfl, rfl, q⟩
  | Sub => cases h; exact op_sub pins s σ H _ _ v u Q I rx ry ⟨i, j, rfl, rfl, q⟩
  | Mult =>
    simp only [arith] at h
    split at h
    · rename_i hm
      cases h
      rcases mulOk_ok hm with c | c
      · exact op_mul pins s σ H _ _ v u Q I rx ry ⟨i, j, rfl, rfl, c, q⟩
      · exact op_mulW pins s σ H _ _ v u Q I rx ry ⟨i, j, rfl, rfl, c, q⟩
    · cases h
  | FloorDiv =>
    simp only [arith] at h
    split at h
    · rename_i hm
      cases h
      rcases divOk_ok hm with c | c
      · exact op_fdivN pins s σ H _ _ v u Q I rx ry ⟨i, j, rfl, rfl, c, q⟩
      · exact op_fdivW pins s σ H _ _ v u Q I rx ry ⟨i, j, rfl, rfl, c, by rw [fdiv_pos c.1] at q; exact q⟩
    · cases h
  | Mod =>
    simp only [arith] at h
    split at h
    · cases h
    · rename_i hm
      cases h
      exact op_modN pins s σ H _ _ v u Q I rx ry ⟨i, j, rfl, rfl, hm, q⟩
  | Pow =>
    simp only [arith] at h
    split at h
    · rename_i hm
      cases h
      exact op_pow pins s σ H _ _ v u Q I rx ry ⟨i, j, rfl, rfl, powOk_ok hm, q⟩
    · cases h
  | BitAnd => cases h; exact op_and pins s σ H _ _ v u Q I rx ry ⟨i, j, rfl, rfl, q⟩
  | BitOr => cases h; exact op_or pins s σ H _ _ v u Q I rx ry ⟨i, j, rfl, rfl, q⟩
  | BitXor => cases h; exact op_xor pins s σ H _ _ v u Q I rx ry ⟨i, j, rfl, rfl, q⟩
  | LShift =>
    simp only [arith] at h
    split at h
    · rename_i hm
      cases h
      exact op_shlW pins s σ H _ _ v u Q I rx ry ⟨i, j, rfl, rfl, shlOk_ok hm, q⟩
    · cases h
  | RShift =>
    simp only [arith] at h
    split at h
    · rename_i hm
      cases h
      exact op_shr pins s σ H _ _ v u Q I rx ry ⟨i, j, rfl, rfl, hm, q⟩
    · cases h
  | _ => cases h
theorem str_append (x y : List Nat) : ((⟨x.toArray⟩ : Str) ++ ⟨y.toArray⟩) = ⟨(x ++ y).toArray⟩ := by
  show (⟨x.toArray ++ y.toArray⟩ : Str) = _
  simp
theorem DVs.nil_iff {H : Hp} {μ : Mu} {xs : List D} {vs : List V} (h : DVs Z H μ xs vs) : xs = [] ↔ vs = [] := by
  have := h.length
  rw [← List.length_eq_zero_iff, ← List.length_eq_zero_iff, this]
theorem Want.bad {μ : Mu} {H : Hp} {k : Kt} (h : Want Z μ H k .bad) {p : Prop} : p := False.elim h
theorem flat_rep_len {α : Type} {xs : List α} : ∀ (n : Nat), (List.replicate n xs).flatten.length = n * xs.length
  | 0 => by simp
  | n + 1 => by rw [List.replicate_succ, List.flatten_cons, List.length_append, flat_rep_len n, Nat.succ_mul, Nat.add_comm]
theorem DVs.rep {H : Hp} {μ : Mu} {xs : List D} {vs : List V} (h : DVs Z H μ xs vs) : ∀ (n : Nat), DVs Z H μ (List.replicate n xs).flatten (List.replicate n vs).flatten
  | 0 => by simp [DVs]
  | n + 1 => by rw [List.replicate_succ, List.flatten_cons, List.replicate_succ, List.flatten_cons]; exact h.append (DVs.rep h n)
/-- a text, some times -/
theorem foldl_cat (b : List Nat) : ∀ (n : Nat) (a : List Nat), (List.replicate n b.toArray).foldl (· ++ ·) a.toArray = (a ++ (List.replicate n b).flatten).toArray
  | 0, a => by simp
  | n + 1, a => by
    rw [List.replicate_succ, List.foldl_cons, List.append_toArray, foldl_cat b n, List.replicate_succ, List.flatten_cons, List.append_assoc]
theorem flat_rep_nil {α : Type} : ∀ (n : Nat), (List.replicate n ([] : List α)).flatten = []
  | 0 => rfl
  | n + 1 => by rw [List.replicate_succ, List.flatten_cons, flat_rep_nil n]; rfl
theorem txt_mul (x : List Nat) {k : Int} (h : 0 ≤ k) : Txt.mul ⟨x.toArray⟩ k = ⟨(List.replicate k.toNat x).flatten.toArray⟩ := by
  unfold Txt.mul
  by_cases h1 : k < 1
  · rw [if_pos h1, show k.toNat = 0 by omega]
    rfl
  · rw [if_neg h1]
    split
    · rename_i h2
      rw [Bool.or_eq_true, beq_iff_eq, beq_iff_eq] at h2
      rcases h2 with h2 | h2
      · subst h2
        simp
      · have hx : x = [] := by
          have : x.length = 0 := by simpa [Str.length] using h2
          exact List.eq_nil_of_length_eq_zero this
        subst hx
        rw [flat_rep_nil]
    · rw [foldl_cat x k.toNat []]
      simp
/-- a sum of lists -/
theorem op_bin_lst {pins : List (Addr × Obj)} {s : Shared} {σ : St} {H : Hp} {μ : Mu} {S : Sto} {x y : V} {v u : Value} {Q : VK} {d e : D} (op : Operator) (R : RS Z μ S H) (I : Inv X pins σ H s) (rx : RelV x v) (ry : RelV y u) (hd : DV Z H μ d x) (he : DV Z H μ e y)
    (h : Want Z μ H (kQ Z Q) (binLst op d e S)) : wpAny (model X.prog X.w) X.A (binaryOp op v u) (EP X pins σ Q) X.xe s := by
  unfold binLst at h
  cases op with
  | Add =>
    dsimp only at h
    split at h
    · rename_i xs ys e1 e2
      split at h
      · rename_i hl
        obtain ⟨a, vs, rfl, h1, h2, _⟩ := R.lv e1 hd
        obtain ⟨b, ws, rfl, h3, h4, _⟩ := R.lv e2 he
        refine op_cat pins s σ H _ _ v u Q I rx ry ⟨a, b, vs, ws, rfl, rfl, h1, h3, ?_, fun p hp => ?_⟩
        · rw [sizeLine_eq, ← h2.length, ← h4.length]; exact hl
        · exact new_lst R (by rw [List.length_append]; exact hl) (h2.append h4) h hp
      · exact h.bad
    · exact h.bad
  | Mult =>
    dsimp only at h
    split at h
    · rename_i xs k e1
      split at h
      · rename_i hl
        obtain ⟨a, vs, rfl, h1, h2, _⟩ := R.lv e1 hd
        simp only [DV] at he
        subst he
        refine op_rep pins s σ H _ _ v u Q I rx ry ⟨a, k, vs, rfl, rfl, h1, by omega, by omega, ?_, fun p hp => ?_⟩
        · rw [sizeLine_eq, ← h2.length]; exact hl.2.2
        · exact new_lst R (by
            rw [flat_rep_len, Nat.mul_comm]
            exact hl.2.2) (DVs.rep h2 _) h hp
      · exact h.bad
    · exact h.bad
  | _ => exact h.bad
theorem op_bin (op : Operator) (hZ : X.K = Z.K) (hc : X.calm = true) : OpR X (binaryOp op) (rB Z (opBin op)) := by
  intro pins s σ H x y v u Q I rx ry h
  obtain ⟨μ, S, d, e, R, hd, he, h⟩ := h
  cases d with
  | int i =>
    cases e with
    | int j =>
      simp only [DV] at hd he
      subst hd; subst he
      simp only [opBin] at h
      cases ha : arith op i j with
      | none => rw [ha] at h; exact h.bad
      | some k =>
        rw [ha] at h
        exact op_int op ha pins s σ H v u Q I rx ry (h.dn R (by simp only [DV]))
    | _ => exact op_bin_lst op R I rx ry hd he h
  | str x1 =>
    cases e with
    | str y1 =>
      simp only [DV] at hd he
      obtain ⟨hx1, hx2, rfl⟩ := hd
      obtain ⟨hy1, hy2, rfl⟩ := he
      cases op with
      | Add =>
        simp only [opBin] at h
        split at h
        · rename_i hl
          refine op_add_str pins s σ H _ _ v u Q I rx ry ⟨_, _, rfl, rfl, ?_, ?_⟩
          · rw [sizeLine_eq]
            simpa [Str.length] using hl
          · rw [str_append]
            refine h.dn R ?_
            simp only [DV]
            refine ⟨by rw [List.length_append]; exact hl, fun c hc => ?_, trivial⟩
            rcases List.mem_append.mp hc with z | z
            · exact hx2 c z
            · exact hy2 c z
        · exact h.bad
      | _ => exact h.bad
    | int k =>
      cases op with
      | Mult =>
        simp only [DV] at hd he
        obtain ⟨hx1, hx2, rfl⟩ := hd
        subst he
        simp only [opBin] at h
        split at h
        · rename_i hl
          obtain ⟨t, rfl⟩ := (show ∃ t, v = Value.str _ t from rx)
          obtain ⟨t2, rfl⟩ := (show ∃ t, u = Value.int _ t from ry)
          have hxl : (⟨x1.toArray⟩ : Str).length = x1.length := by simp [Str.length]
          have hfl : (List.replicate k.toNat x1).flatten.length ≤ SL := by rw [flat_rep_len, Nat.mul_comm]; exact hl.2.2
          refine SB.mul ⟨?_, fun g1 g2 g3 => ?_, fun g1 g2 => ?_⟩ fun t' tk => ?_
          · rw [decide_eq_false (by omega), decide_eq_false (by omega)]; rfl
          · rw [hxl] at g3
            have a1 : x1.length ≤ 16777216 := hx1
            have a2 : k ≤ 16777216 := hl.2.1
            have a3 : (549755813887 : Int) ≤ (2 ^ 63 - 1) / k := by
              rw [Int.le_ediv_iff_mul_le (by omega)]
              omega
            omega
          · rw [hxl]
            have : x1.length * k.toNat ≤ 16777216 := hl.2.2
            show decide (x1.length * k.toNat > sizeLine) = false
            rw [sizeLine_eq]
            exact decide_eq_false (by omega)
          · rw [txt_mul x1 hl.1]
            refine ⟨.str _, H, I.tok _, ⟨_, rfl⟩, h.dn R ?_⟩
            simp only [DV]
            refine ⟨hfl, fun c hc => ?_, trivial⟩
            obtain ⟨l, hl1, hl2⟩ := List.mem_flatten.mp hc
            rw [List.eq_of_mem_replicate hl1] at hl2
            exact hx2 c hl2
        · exact h.bad
      | _ => exact h.bad
    | _ => exact op_bin_lst op R I rx ry hd he h
  | tup xs =>
    cases e with
    | tup ys =>
      cases op with
      | Add =>
        simp only [opBin] at h
        split at h
        · rename_i hl
          have hd0 := hd
          have he0 := he
          simp only [DV] at hd he
          obtain ⟨a, vs, rfl, h1, h2⟩ := hd
          obtain ⟨b, ws, rfl, h3, h4⟩ := he
          rw [← hZ] at h1 h3
          refine op_catA pins s σ H _ _ v u Q I rx ry ⟨a, b, vs, ws, rfl, rfl, h1, h3, ?_, fun e0 => ?_, fun e0 e1 => ?_, fun e0 e1 p hp => ?_⟩
          · rw [sizeLine_eq, ← h2.length, ← h4.length]; exact hl
          · rw [h2.nil_iff.mpr e0, List.nil_append] at h
            exact h.dn R he0
          · rw [h4.nil_iff.mpr e1, List.append_nil] at h
            exact h.dn R hd0
          · exact new_tup R (h2.append h4) h hp
        · exact h.bad
      | _ => exact h.bad
    | int k =>
      cases op with
      | Mult =>
        simp only [opBin] at h
        split at h
        · rename_i hl
          simp only [DV] at hd he
          obtain ⟨a, vs, rfl, h1, h2⟩ := hd
          subst he
          rw [← hZ] at h1
          refine op_repT pins s σ H _ _ v u Q I rx ry ⟨a, k, vs, rfl, rfl, h1, fun e0 => ?_, hl.2.1, hl.2.2.1, by rw [← h2.length]; exact hl.2.2.2, fun p hp => ?_⟩
          · have := h2.nil_iff.mpr e0
            subst this
            exact absurd hl.1 (by decide)
          · exact new_tup R (h2.rep _) h hp
        · exact h.bad
      | _ => exact h.bad
    | _ => exact op_bin_lst op R I rx ry hd he h
  | ref i => exact op_bin_lst op R I rx ry hd he h
  | rol xs => exact op_bin_lst op R I rx ry hd he h
  | non => exact op_bin_lst op R I rx ry hd he h
  | bl b => exact op_bin_lst op R I rx ry hd he h
  | scr b => exact op_bin_lst op R I rx ry hd he h
  | rin c ns ds => exact op_bin_lst op R I rx ry hd he h
  | rdc ks ds => exact op_bin_lst op R I rx ry hd he h
  | cls c => exact op_bin_lst op R I rx ry hd he h
  | unk => exact op_bin_lst op R I rx ry hd he h
theorem op_cmp (op : CmpOp) (hZ : X.K = Z.K) (hu : X.A.units + 65 < cLine) : OpR X (compareOp op) (rC Z (opCmp op)) := by
  intro pins s σ H x y v u Q I rx ry h
  obtain ⟨μ, S, d, e, b, R, hd, he, h, q⟩ := h
  have isN : ∀ {d : D} {x : V}, DV Z H μ d x → decide (x = .non) = (match d with | .non => true | _ => false) := fun {d x} hd => by
    cases d with
    | non => simp only [DV] at hd; subst hd; rfl
    | bl _ => simp only [DV] at hd; subst hd; simp
    | int _ => simp only [DV] at hd; subst hd; simp
    | str _ => simp only [DV] at hd; obtain ⟨_, _, rfl⟩ := hd; simp
    | tup _ => simp only [DV] at hd; obtain ⟨_, _, rfl, _⟩ := hd; simp
    | scr _ => simp only [DV] at hd; obtain ⟨_, _, rfl, _⟩ := hd; simp
    | rol _ => simp only [DV] at hd; obtain ⟨_, _, rfl, _⟩ := hd; simp
    | rin _ _ _ => simp only [DV] at hd; obtain ⟨_, _, _, rfl, _⟩ := hd; simp
    | rdc _ _ => simp only [DV] at hd; obtain ⟨_, _, _, rfl, _⟩ := hd; simp
    | ref _ => simp only [DV] at hd; obtain ⟨_, _, rfl⟩ := hd; simp
    | cls _ => simp only [DV] at hd; subst hd; simp
    | unk => simp only [DV] at hd; obtain ⟨s, rfl⟩ := hd; simp
  have inn : ∀ {b : Bool}, contains S d e = some b → (∀ k, k = b → Q (.bl k) H → wpAny (model X.prog X.w) X.A (compareOp .In v u) (EP X pins σ Q) X.xe s) ∧ (∀ k, k = (!b) → Q (.bl k) H → wpAny (model X.prog X.w) X.A (compareOp .NotIn v u) (EP X pins σ Q) X.xe s) := by
    intro b h
    have lst : (match S.lv e with
        | some ys => match pd S 40 d, pds S 39 ys with
          | some p, some ps => some (ps.any fun q => PyData.eqv q p)
          | _, _ => none
        | none => none) = some b → (∀ k, k = b → Q (.bl k) H → wpAny (model X.prog X.w) X.A (compareOp .In v u) (EP X pins σ Q) X.xe s) ∧ (∀ k, k = (!b) → Q (.bl k) H → wpAny (model X.prog X.w) X.A (compareOp .NotIn v u) (EP X pins σ Q) X.xe s) := by
      intro h
      cases e0 : S.lv e with
      | none => rw [e0] at h; cases h
      | some ys =>
        rw [e0] at h
        dsimp only at h
        cases e1 : pd S 40 d with
        | none => rw [e1] at h; cases h
        | some p =>
          cases e2 : pds S 39 ys with
          | none => rw [e1, e2] at h; cases h
          | some ps =>
            rw [e1, e2] at h
            cases h
            obtain ⟨a1, a2, a3⟩ := pd_ok R 40 d p x e1 hd
            obtain ⟨a, vs, rfl, h3, h4, _⟩ := R.lv e0 he
            obtain ⟨b1, b2, b3⟩ := pds_ok (pd_ok R 39) ys ps vs e2 h4
            rw [← hZ] at a1 b1
            obtain ⟨as, r1⟩ := Dp.reads I p x v a1 rx
            obtain ⟨bs, r2⟩ := Dp.reads I (.list ps) _ u (.lst (SqL.of h3) b1) ry
            have hr : X.A.units + 1 + min (PyData.depthAll ps) p.depth < cLine := by
              have := Nat.min_le_right (PyData.depthAll ps) p.depth
              omega
            exact ⟨fun k hk q => SeqAt.in_list_reads r2 r1 b2 a2 hr ⟨.bl _, H, I, rfl, hk ▸ q⟩, fun k hk q => SeqAt.notIn_list_reads r2 r1 b2 a2 hr ⟨.bl _, H, I, rfl, hk ▸ q⟩⟩
    cases e with
    | tup ys =>
      simp only [contains] at h
      cases e1 : pd S 40 d with
      | none => rw [e1] at h; cases h
      | some p =>
        cases e2 : pds S 39 ys with
        | none => rw [e1, e2] at h; cases h
        | some ps =>
          rw [e1, e2] at h
          cases h
          obtain ⟨a1, a2, a3⟩ := pd_ok R 40 d p x e1 hd
          simp only [DV] at he
          obtain ⟨a, vs, rfl, h3, h4⟩ := he
          obtain ⟨b1, b2, b3⟩ := pds_ok (pd_ok R 39) ys ps vs e2 h4
          rw [← hZ] at a1 h3 b1
          obtain ⟨as, r1⟩ := Dp.reads I p x v a1 rx
          obtain ⟨bs, r2⟩ := Dp.reads I (.tuple ps) _ u (.tup h3 b1) ry
          have hr : X.A.units + 1 + min (PyData.depthAll ps) p.depth < cLine := by
            have := Nat.min_le_right (PyData.depthAll ps) p.depth
            omega
          exact ⟨fun k hk q => SeqAt.in_tuple_reads r2 r1 b2 a2 hr ⟨.bl _, H, I, rfl, hk ▸ q⟩, fun k hk q => SeqAt.notIn_tuple_reads r2 r1 b2 a2 hr ⟨.bl _, H, I, rfl, hk ▸ q⟩⟩
    | str z =>
      cases d with
      | str t =>
        simp only [contains] at h
        cases h
        simp only [DV] at hd he
        obtain ⟨_, _, rfl⟩ := hd
        obtain ⟨_, _, rfl⟩ := he
        have hl : (⟨z.toArray⟩ : Str).length = z.length := by simp [Str.length]
        exact ⟨fun k hk q => op_in_str pins s σ H _ _ v u Q I rx ry ⟨_, _, rfl, rfl, by rw [hl]; exact hk ▸ q⟩, fun k hk q => op_notin_str pins s σ H _ _ v u Q I rx ry ⟨_, _, rfl, rfl, by rw [hl]; exact hk ▸ q⟩⟩
      | _ => cases h
    | ref i => exact lst h
    | rol _ => exact lst h
    | non => cases h
    | bl _ => cases h
    | int _ => cases h
    | scr _ => cases h
    | rin _ _ _ => cases h
    | rdc _ _ => cases h
    | cls _ => cases h
    | unk => cases h
  cases op with
  | Eq =>
    obtain ⟨p, q', h1, h2, h3, h4, h5⟩ := eqD_ok R (show eqD S d e = some b from h) hd he
    rw [← hZ] at h1 h2
    exact op_eqD (by omega) pins s σ H x y v u Q I rx ry ⟨p, q', h1, h2, h3, h4, by rw [h5]; exact q⟩
  | NotEq =>
    have h : (eqD S d e).map (!·) = some b := h
    cases e0 : eqD S d e with
    | none => rw [e0] at h; cases h
    | some c =>
      rw [e0] at h
      cases h
      obtain ⟨p, q', h1, h2, h3, h4, h5⟩ := eqD_ok R e0 hd he
      rw [← hZ] at h1 h2
      exact op_neD (by omega) pins s σ H x y v u Q I rx ry ⟨p, q', h1, h2, h3, h4, by rw [h5]; exact q⟩
  | Lt =>
    cases d <;> cases e <;> first
      | (simp only [opCmp, ltI_eq, leI_eq] at h; cases h; simp only [DV] at hd he; subst hd; subst he; exact op_lt pins s σ H _ _ v u Q I rx ry ⟨_, _, rfl, rfl, q⟩)
      | (simp only [opCmp, ltS_eq] at h; cases h; simp only [DV] at hd he; obtain ⟨_, _, rfl⟩ := hd; obtain ⟨_, _, rfl⟩ := he; exact op_lt_str pins s σ H _ _ v u Q I rx ry ⟨_, _, rfl, rfl, q⟩)
      | cases h
  | LtE =>
    cases d <;> cases e <;> first
      | (simp only [opCmp, ltI_eq, leI_eq] at h; cases h; simp only [DV] at hd he; subst hd; subst he; exact op_le pins s σ H _ _ v u Q I rx ry ⟨_, _, rfl, rfl, q⟩)
      | (simp only [opCmp, ltS_eq] at h; cases h; simp only [DV] at hd he; obtain ⟨_, _, rfl⟩ := hd; obtain ⟨_, _, rfl⟩ := he; exact op_le_str pins s σ H _ _ v u Q I rx ry ⟨_, _, rfl, rfl, q⟩)
      | cases h
  | Gt =>
    cases d <;> cases e <;> first
      | (simp only [opCmp, ltI_eq, leI_eq] at h; cases h; simp only [DV] at hd he; subst hd; subst he; exact op_gt pins s σ H _ _ v u Q I rx ry ⟨_, _, rfl, rfl, q⟩)
      | (simp only [opCmp, ltS_eq] at h; cases h; simp only [DV] at hd he; obtain ⟨_, _, rfl⟩ := hd; obtain ⟨_, _, rfl⟩ := he; exact op_gt_str pins s σ H _ _ v u Q I rx ry ⟨_, _, rfl, rfl, q⟩)
      | cases h
  | GtE =>
    cases d <;> cases e <;> first
      | (simp only [opCmp, ltI_eq, leI_eq] at h; cases h; simp only [DV] at hd he; subst hd; subst he; exact op_ge pins s σ H _ _ v u Q I rx ry ⟨_, _, rfl, rfl, q⟩)
      | (simp only [opCmp, ltS_eq] at h; cases h; simp only [DV] at hd he; obtain ⟨_, _, rfl⟩ := hd; obtain ⟨_, _, rfl⟩ := he; exact op_ge_str pins s σ H _ _ v u Q I rx ry ⟨_, _, rfl, rfl, q⟩)
      | cases h
  | Is =>
    cases e with
    | non =>
      simp only [opCmp] at h
      simp only [DV] at he
      subst he
      refine op_isN pins s σ H _ _ v u Q I rx ry ⟨rfl, ?_⟩
      rw [isN hd]
      cases h
      exact q
    | bl y =>
      cases d with
      | bl x =>
        simp only [opCmp] at h
        cases h
        simp only [DV] at hd he
        subst hd; subst he
        exact op_isBl pins s σ H _ _ v u Q I rx ry ⟨x, y, rfl, rfl, q⟩
      | _ => cases h
    | _ => cases h
  | IsNot =>
    cases e with
    | non =>
      simp only [opCmp] at h
      simp only [DV] at he
      subst he
      refine op_notN pins s σ H _ _ v u Q I rx ry ⟨rfl, ?_⟩
      rw [isN hd]
      cases d <;> (cases h; exact q)
    | bl y =>
      cases d with
      | bl x =>
        simp only [opCmp] at h
        cases h
        simp only [DV] at hd he
        subst hd; subst he
        exact op_notBl pins s σ H _ _ v u Q I rx ry ⟨x, y, rfl, rfl, q⟩
      | _ => cases h
    | _ => cases h
  | In => exact (inn (show contains S d e = some b from h)).1 b rfl q
  | NotIn =>
    have h : (contains S d e).map (!·) = some b := h
    cases e0 : contains S d e with
    | none => rw [e0] at h; cases h
    | some c =>
      rw [e0] at h
      cases h
      exact (inn e0).2 _ rfl q
theorem tru_of {H : Hp} {μ : Mu} {S : Sto} {d : D} {x : V} {b : Bool} (hZ : X.K = Z.K) (R : RS Z μ S H) (hd : DV Z H μ d x) (h : tru S d = some b) : TruV X.K x H b := by
  have emp : ∀ {ds : List D} {vs : List V}, DVs Z H μ ds vs → (!ds.isEmpty) = !vs.isEmpty := fun {ds vs} k => by
    have := k.nil_iff
    cases ds <;> cases vs <;> simp_all
  cases d with
  | non => cases h; simp only [DV] at hd; subst hd; rfl
  | bl _ => cases h; simp only [DV] at hd; subst hd; rfl
  | int _ => cases h; simp only [DV] at hd; subst hd; rfl
  | str s =>
    cases h
    simp only [DV] at hd
    obtain ⟨h1, _, rfl⟩ := hd
    refine ⟨by rw [sizeLine_eq]; simpa [Str.length] using h1, ?_⟩
    show (!List.isEmpty s) = (((s.toArray.size : Nat) : Int) != 0)
    cases s with
    | nil => rfl
    | cons c r =>
      have e : ((((c :: r).toArray.size : Nat) : Int) != 0) = true := by
        rw [bne_iff_ne, List.size_toArray, List.length_cons]
        omega
      rw [e]
      rfl
  | tup xs =>
    cases h
    simp only [DV] at hd
    obtain ⟨a, vs, rfl, h1, h2⟩ := hd
    rw [← hZ] at h1
    exact .inr (.inl ⟨vs, h1, emp h2⟩)
  | scr xs =>
    cases h
    simp only [DV] at hd
    obtain ⟨a, vs, rfl, h1, h2⟩ := hd
    have h1 := h1.sqL
    rw [← hZ] at h1
    exact .inl ⟨vs, h1, emp h2⟩
  | rol xs =>
    cases h
    obtain ⟨a, vs, rfl, h1, h2, _⟩ := R.lv (show S.lv (.rol xs) = some xs from rfl) hd
    exact .inl ⟨vs, SqL.of h1, emp h2⟩
  | ref i =>
    simp only [tru] at h
    cases e : S.l i with
    | none => rw [e] at h; cases h
    | some xs =>
      rw [e] at h
      cases h
      obtain ⟨a, vs, rfl, h1, h2, _⟩ := R.lv (show S.lv (.ref i) = some xs from e) hd
      exact .inl ⟨vs, SqL.of h1, emp h2⟩
  | rin _ _ _ => cases h
  | rdc _ _ => cases h
  | cls _ => cases h
  | unk => cases h
end
end Vm
namespace Vm
open PySem L2
section
variable {X : Cx} {Z : Zz} {P : Pg} {Φ : Nat → List D → Sto → Res} {W : WX}
variable {H H' : Hp} {μ μ' : Mu} {S S' : Sto} {σ : Sl} {τ : St} {Q : VK} {k : Kt}
/-- a value's end in an expression -/
theorem Want.dE {d : D} {v : V} (h : Want Z μ H (kE Z W τ Q) (.val [d] S)) (R : RS Z μ S H) (hv : DV Z H μ d v) : Q v H := by
  obtain ⟨d', e, h'⟩ := h μ H Ext.refl R
  cases e
  exact h' v hv
theorem Want.dE' {d : D} {v : V} (h : Want Z μ H (kE Z W τ Q) (.val [d] S)) (e : Ext μ H μ' H') (R : RS Z μ' S H') (hv : DV Z H' μ' d v) : Q v H' := by
  obtain ⟨d', e, h'⟩ := h μ' H' e R
  cases e
  exact h' v hv
/-- the end of an operation that raises nothing -/
theorem Want.toQ {r : Res} (h : Want Z μ H (kE Z W τ Q) r) (hr : ∀ c fs σ S, r ≠ .exc c fs σ S) : Want Z μ H (kQ Z Q) r := by
  cases r with
  | exc c fs σ S => exact absurd rfl (hr c fs σ S)
  | _ => exact h
/-- one value, then the rest -/
theorem stepE {a : C} {f : D → Sto → Res} (R : RS Z μ S H) (L : SV Z H μ σ τ) (h : Want Z μ H k (b1 σ (ev P Φ a [] σ S) f)) (R' : V → Hp → Prop)
    (hx : ∀ c fs S1 μ1 H1, Ext μ H μ1 H1 → RS Z μ1 S1 H1 → k.x c fs σ S1 μ1 H1 → kX Z W τ c fs σ S1 μ1 H1)
    (hk : ∀ d S1 μ1 H1 v, Ext μ H μ1 H1 → RS Z μ1 S1 H1 → SV Z H1 μ1 σ τ → DV Z H1 μ1 d v → Want Z μ1 H1 k (f d S1) → R' v H1) : rdE Z P Φ W a τ H R' := by
  refine ⟨μ, σ, S, R, L, h.b1.mono ?_ (fun _ _ _ _ _ _ z => z) (fun _ _ _ _ _ _ z => z) (fun _ _ _ _ _ _ z => z) (fun _ _ _ _ _ _ z => z) ?_⟩
  · rintro ds S1 μ1 H1 e R1 ⟨d, rfl, w⟩
    exact ⟨d, rfl, fun v hv => hk d S1 μ1 H1 v e R1 (L.mono e) hv w⟩
  · intro c fs σ1 S1 μ1 H1 e R1 z
    exact hx c fs S1 μ1 H1 e R1 z
/-- .. in an expression -/
theorem stepEE {a : C} {f : D → Sto → Res} (R : RS Z μ S H) (L : SV Z H μ σ τ) (h : Want Z μ H (kE Z W τ Q) (b1 σ (ev P Φ a [] σ S) f)) (R' : V → Hp → Prop)
    (hk : ∀ d S1 μ1 H1 v, Ext μ H μ1 H1 → RS Z μ1 S1 H1 → SV Z H1 μ1 σ τ → DV Z H1 μ1 d v → Want Z μ1 H1 (kE Z W τ Q) (f d S1) → R' v H1) : rdE Z P Φ W a τ H R' :=
  stepE R L h R' (fun _ _ _ _ _ _ _ z => z) hk
/-- many values, then the rest -/
theorem stepA {a : C} {f : List D → Sto → Res} (R : RS Z μ S H) (L : SV Z H μ σ τ) (h : Want Z μ H k (bv σ (ev P Φ a [] σ S) f)) (R' : List V → Hp → Prop)
    (hx : ∀ c fs S1 μ1 H1, Ext μ H μ1 H1 → RS Z μ1 S1 H1 → k.x c fs σ S1 μ1 H1 → kX Z W τ c fs σ S1 μ1 H1)
    (hk : ∀ ds S1 μ1 H1 vs, Ext μ H μ1 H1 → RS Z μ1 S1 H1 → SV Z H1 μ1 σ τ → DVs Z H1 μ1 ds vs → Want Z μ1 H1 k (f ds S1) → R' vs H1) : rdA Z P Φ W a τ H R' := by
  refine ⟨μ, σ, S, R, L, h.bv.mono ?_ (fun _ _ _ _ _ _ z => z) (fun _ _ _ _ _ _ z => z) (fun _ _ _ _ _ _ z => z) (fun _ _ _ _ _ _ z => z) ?_⟩
  · intro ds S1 μ1 H1 e R1 w vs hvs
    exact hk ds S1 μ1 H1 vs e R1 (L.mono e) hvs w
  · intro c fs σ1 S1 μ1 H1 e R1 z
    exact hx c fs S1 μ1 H1 e R1 z
/-- a test, then the rest -/
theorem stepT {a : C} {f : D → Sto → Res} (R : RS Z μ S H) (L : SV Z H μ σ τ) (h : Want Z μ H k (b1 σ (ev P Φ a [] σ S) f)) (R' : Bool → Hp → Prop)
    (hx : ∀ c fs S1 μ1 H1, Ext μ H μ1 H1 → RS Z μ1 S1 H1 → k.x c fs σ S1 μ1 H1 → kX Z W τ c fs σ S1 μ1 H1)
    (ht : ∀ d S1 μ1 H1, Want Z μ1 H1 k (f d S1) → ∃ b, tru S1 d = some b)
    (hk : ∀ d S1 μ1 H1 b, Ext μ H μ1 H1 → RS Z μ1 S1 H1 → SV Z H1 μ1 σ τ → tru S1 d = some b → Want Z μ1 H1 k (f d S1) → R' b H1) : rdT Z P Φ W a τ H R' := by
  refine ⟨μ, σ, S, R, L, h.b1.mono ?_ (fun _ _ _ _ _ _ z => z) (fun _ _ _ _ _ _ z => z) (fun _ _ _ _ _ _ z => z) (fun _ _ _ _ _ _ z => z) ?_⟩
  · rintro ds S1 μ1 H1 e R1 ⟨d, rfl, w⟩
    obtain ⟨b, hb⟩ := ht d S1 μ1 H1 w
    exact ⟨d, b, rfl, hb, hk d S1 μ1 H1 b e R1 (L.mono e) hb w⟩
  · intro c fs σ1 S1 μ1 H1 e R1 z
    exact hx c fs S1 μ1 H1 e R1 z
theorem v_var {i : Nat} {x : Str} {pos : Pos} (hN : X.N[i]? = some x) (hv : Vis X.env.scope x) (hd : (x == ("__debug__" : Str)) = false := by decide) (hcd : (x == ("__classdict__" : Str)) = false := by decide) :
    PE X (.Name x pos) (rdE Z P Φ W (.var i)) := by
  refine PE.imp (pe_var hN hv hd hcd) ?_
  rintro τ H Q ⟨μ, σ, S, R, V, h⟩
  simp only [ev] at h
  split at h
  · rename_i d e
    obtain ⟨v, h1, h2⟩ := V.at_ i d e
    exact ⟨v, h1, h.dE R h2⟩
  · exact h.bad
theorem v_int {i : Int} {j : Nat} {pos : Pos} : PE X (.Constant (.int i) j pos) (rdE Z P Φ W (.kon (.int i))) := by
  refine PE.imp pe_int ?_
  rintro τ H Q ⟨μ, σ, S, R, V, h⟩
  exact Want.dE h R (by simp only [DV])
theorem v_bl {b : Bool} {j : Nat} {pos : Pos} : PE X (.Constant (.bool b) j pos) (rdE Z P Φ W (.kon (.bl b))) := by
  refine PE.imp pe_bl ?_
  rintro τ H Q ⟨μ, σ, S, R, V, h⟩
  exact Want.dE h R (by simp only [DV])
theorem v_non {j : Nat} {pos : Pos} : PE X (.Constant .none j pos) (rdE Z P Φ W (.kon .non)) := by
  refine PE.imp pe_non ?_
  rintro τ H Q ⟨μ, σ, S, R, V, h⟩
  exact Want.dE h R (by simp only [DV])
/-- a written text that fits -/
def strFit (x : Str) (s : List Nat) : Bool := decide (x.cps.toList = s) && decide (s.length ≤ SL) && s.all fun c => decide (c < 0x110000)
theorem strFit_ok {x : Str} {s : List Nat} (h : strFit x s = true) : x = ⟨s.toArray⟩ ∧ s.length ≤ SL ∧ ∀ c ∈ s, c < 0x110000 := by
  unfold strFit at h
  simp only [Bool.and_eq_true, decide_eq_true_eq, List.all_eq_true] at h
  obtain ⟨⟨h1, h2⟩, h3⟩ := h
  refine ⟨?_, h2, h3⟩
  subst h1
  simp
theorem v_str {x : Str} {s : List Nat} {j : Nat} {pos : Pos} (hs : strFit x s = true) : PE X (.Constant (.str x) j pos) (rdE Z P Φ W (.kon (.str s))) := by
  obtain ⟨rfl, h1, h2⟩ := strFit_ok hs
  refine PE.imp pe_str ?_
  rintro τ H Q ⟨μ, σ, S, R, V, h⟩
  exact Want.dE h R (by simp only [DV]; exact ⟨h1, h2, trivial⟩)
/-- what a module's name holds: a value without the store -/
def GV (Z : Zz) (d : D) (v : V) : Prop := ∀ H μ, DV Z H μ d v
theorem v_gl {x : Str} {n : Nat} {d : D} {v : V} {u : Value} {pos : Pos} (hg : Gl X x) (hm : X.mg x = some u) (r : RelV v u) (hn : P.gl n = some d) (hv : GV Z d v) (hd : (x == ("__debug__" : Str)) = false := by decide) :
    PE X (.Name x pos) (rdE Z P Φ W (.gl n)) := by
  refine PE.imp (pe_glob hg hm r hd) ?_
  rintro τ H Q ⟨μ, σ, S, R, V, h⟩
  simp only [ev, hn] at h
  exact Want.dE h R (hv H μ)
variable {a b c : Expr} {ca cb cc : C} {pos : Pos}
theorem binLst_noexc (op : Operator) (d e : D) (S : Sto) : ∀ c fs σ S1, binLst op d e S ≠ .exc c fs σ S1 := by
  intro c fs σ S1 z
  unfold binLst at z
  repeat' (split at z)
  all_goals cases z
theorem opBin_noexc (op : Operator) (d e : D) (S : Sto) : ∀ c fs σ S1, opBin op d e S ≠ .exc c fs σ S1 := by
  intro c fs σ S1 z
  unfold opBin at z
  repeat' (split at z)
  all_goals first | cases z | exact binLst_noexc _ _ _ _ _ _ _ _ z
theorem v_bin {op : Operator} (hZ : X.K = Z.K) (hc : X.calm = true) (ha : PE X a (rdE Z P Φ W ca)) (hb : PE X b (rdE Z P Φ W cb)) : PE X (.BinOp a op b pos) (rdE Z P Φ W (.bin op ca cb)) := by
  refine PE.imp (pe_op (op_bin op hZ hc) ha hb) ?_
  rintro τ H Q ⟨μ, σ, S, R, V, h⟩
  simp only [ev] at h
  refine stepEE R V h _ fun d S1 μ1 H1 v e1 R1 V1 hv h1 => stepEE R1 V1 h1 _ fun d2 S2 μ2 H2 v2 e2 R2 V2 hv2 h2 => ?_
  exact ⟨μ2, S2, d, d2, R2, hv.mono e2, hv2, h2.toQ (opBin_noexc _ _ _ _)⟩
theorem v_cmp {op : CmpOp} (hZ : X.K = Z.K) (hu : X.A.units + 65 < cLine) (ha : PE X a (rdE Z P Φ W ca)) (hb : PE X b (rdE Z P Φ W cb)) (hm : behindInMarks op b = false) : PE X (.Compare a [op] [b] pos) (rdE Z P Φ W (.cmp op ca cb)) := by
  refine PE.imp (pe_cmpR (op_cmp op hZ hu) ha hb hm) ?_
  rintro τ H Q ⟨μ, σ, S, R, V, h⟩
  simp only [ev] at h
  refine stepEE R V h _ fun d S1 μ1 H1 v e1 R1 V1 hv h1 => stepEE R1 V1 h1 _ fun d2 S2 μ2 H2 v2 e2 R2 V2 hv2 h2 => ?_
  split at h2
  · rename_i r hr
    exact ⟨μ2, S2, d, d2, r, R2, hv.mono e2, hv2, hr, h2.dE R2 (by simp only [DV])⟩
  · exact h2.bad
/-- a comparison as a test -/
theorem t_cmp {op : CmpOp} (hZ : X.K = Z.K) (hu : X.A.units + 65 < cLine) (ha : PE X a (rdE Z P Φ W ca)) (hb : PE X b (rdE Z P Φ W cb)) (hm : behindInMarks op b = false) : PT X (.Compare a [op] [b] pos) (rdT Z P Φ W (.cmp op ca cb)) := by
  refine PT.imp (pt_cmpR (op_cmp op hZ hu) ha hb hm) ?_
  rintro τ H Q ⟨μ, σ, S, R, V, h⟩
  simp only [ev] at h
  refine stepE R V h _ (fun _ _ _ _ _ _ _ z => z) fun d S1 μ1 H1 v e1 R1 V1 hv h1 => stepE R1 V1 h1 _ (fun _ _ _ _ _ _ _ z => z) fun d2 S2 μ2 H2 v2 e2 R2 V2 hv2 h2 => ?_
  split at h2
  · rename_i r hr
    refine ⟨μ2, S2, d, d2, r, R2, hv.mono e2, hv2, hr, r, rfl, ?_⟩
    obtain ⟨d3, b3, e3, e4, q⟩ := h2 μ2 H2 Ext.refl R2
    cases e3
    cases e4
    exact q
  · exact h2.bad
theorem v_chn {op op' : CmpOp} (hZ : X.K = Z.K) (hu : X.A.units + 65 < cLine) (ha : PE X a (rdE Z P Φ W ca)) (hb : PE X b (rdE Z P Φ W cb)) (hc : PE X c (rdE Z P Φ W cc)) (hm : lastMarks [op, op'] [b, c] = false := by with_unfolding_all rfl) :
    PE X (.Compare a [op, op'] [b, c] pos) (rdE Z P Φ W (.chn op op' ca cb cc)) := by
  refine PE.imp (pe_chain (op_cmp op hZ hu) (op_cmp op' hZ hu) ha hb hc hm) ?_
  rintro τ H Q ⟨μ, σ, S, R, V, h⟩
  simp only [ev] at h
  refine stepEE R V h _ fun d S1 μ1 H1 v e1 R1 V1 hv h1 => stepEE R1 V1 h1 _ fun d2 S2 μ2 H2 v2 e2 R2 V2 hv2 h2 => ?_
  split at h2
  · rename_i hr
    refine ⟨μ2, S2, d, d2, true, R2, hv.mono e2, hv2, hr, true, rfl, iteT ?_⟩
    refine stepEE R2 V2 h2 _ fun d3 S3 μ3 H3 v3 e3 R3 V3 hv3 h3 => ?_
    split at h3
    · rename_i r hr
      exact ⟨μ3, S3, d2, d3, r, R3, hv2.mono e3, hv3, hr, h3.dE R3 (by simp only [DV])⟩
    · exact h3.bad
  · rename_i hr
    exact ⟨μ2, S2, d, d2, false, R2, hv.mono e2, hv2, hr, false, rfl, iteF (h2.dE R2 (by simp only [DV]))⟩
  · exact h2.bad
theorem v_neg (ha : PE X a (rdE Z P Φ W ca)) : PE X (.UnaryOp .USub a pos) (rdE Z P Φ W (.neg ca)) := by
  refine PE.imp (pe_un un_neg ha) ?_
  rintro τ H Q ⟨μ, σ, S, R, V, h⟩
  simp only [ev] at h
  refine stepEE R V h _ fun d S1 μ1 H1 v e1 R1 V1 hv h1 => ?_
  cases d with
  | int i =>
    simp only [DV] at hv
    exact ⟨i, hv, h1.dE R1 (by simp only [DV])⟩
  | _ => exact h1.bad
/-- any expression as a test, by its value's truth -/
theorem t_val (hZ : X.K = Z.K) (ha : PE X a (rdE Z P Φ W ca)) (he : ∀ whole, isTrue a X.env whole = (do let v ← whole; standAt a.pos; holding [v] (truthy v))) : PT X a (rdT Z P Φ W ca) := by
  refine PT.imp (pt_truth ha he) ?_
  rintro τ H Q ⟨μ, σ, S, R, V, h⟩
  refine ⟨μ, σ, S, R, V, h.mono ?_ (fun _ _ _ _ _ _ z => z) (fun _ _ _ _ _ _ z => z) (fun _ _ _ _ _ _ z => z) (fun _ _ _ _ _ _ z => z) (fun _ _ _ _ _ _ _ _ z => z)⟩
  rintro ds S1 μ1 H1 e R1 ⟨d, b, rfl, hb, q⟩
  exact ⟨d, rfl, fun v hv => ⟨b, tru_of hZ R1 hv hb, q⟩⟩
theorem t_not (ha : PT X a (rdT Z P Φ W ca)) : PT X (.UnaryOp .Not a pos) (rdT Z P Φ W (.notv ca)) := by
  refine PT.imp (pt_not ha) ?_
  rintro τ H Q ⟨μ, σ, S, R, V, h⟩
  simp only [ev] at h
  refine stepT R V h _ (fun _ _ _ _ _ _ _ z => z) ?_ ?_
  · intro d S1 μ1 H1 h1
    split at h1
    · rename_i b hb; exact ⟨b, hb⟩
    · exact h1.bad
  · intro d S1 μ1 H1 b e1 R1 V1 hb h1
    rw [hb] at h1
    obtain ⟨d3, b3, e3, e4, q⟩ := h1 μ1 H1 Ext.refl R1
    cases e3
    cases e4
    exact q
theorem v_not (hZ : X.K = Z.K) (ha : PE X a (rdE Z P Φ W ca)) : PE X (.UnaryOp .Not a pos) (rdE Z P Φ W (.notv ca)) := by
  refine PE.imp (pe_notT ha) ?_
  rintro τ H Q ⟨μ, σ, S, R, V, h⟩
  simp only [ev] at h
  refine stepEE R V h _ fun d S1 μ1 H1 v e1 R1 V1 hv h1 => ?_
  split at h1
  · rename_i b hb
    exact ⟨b, tru_of hZ R1 hv hb, h1.dE R1 (by simp only [DV])⟩
  · exact h1.bad
variable {rest : List Expr}
theorem v_one {op : BoolOp} (ha : PE X a (rdE Z P Φ W ca)) : PE X (.BoolOp op [a] pos) (rdE Z P Φ W ca) := pe_one ha
theorem v_and (hZ : X.K = Z.K) (ha : PE X a (rdE Z P Φ W ca)) (hb : PE X (.BoolOp .And (b :: rest) pos) (rdE Z P Φ W cb)) : PE X (.BoolOp .And (a :: b :: rest) pos) (rdE Z P Φ W (.andv ca cb)) := by
  refine PE.imp (pe_andT ha hb) ?_
  rintro τ H Q ⟨μ, σ, S, R, V, h⟩
  simp only [ev] at h
  refine stepEE R V h _ fun d S1 μ1 H1 v e1 R1 V1 hv h1 => ?_
  split at h1
  · rename_i hb
    exact ⟨true, tru_of hZ R1 hv hb, iteT ⟨μ1, σ, S1, R1, V1, h1⟩⟩
  · rename_i hb
    exact ⟨false, tru_of hZ R1 hv hb, iteF (h1.dE R1 hv)⟩
  · exact h1.bad
/-- .. as tests -/
theorem w_one_and (ha : PT X a (rdT Z P Φ W ca)) : PW X (.BoolOp .And [a] pos) (rdT Z P Φ W ca) := pw_and1 ha
theorem w_one_or (ha : PT X a (rdT Z P Φ W ca)) : PW X (.BoolOp .Or [a] pos) (rdT Z P Φ W ca) := pw_or1 ha
theorem w_and (ha : PT X a (rdT Z P Φ W ca)) (hb : PW X (.BoolOp .And (b :: rest) pos) (rdT Z P Φ W cb)) : PW X (.BoolOp .And (a :: b :: rest) pos) (rdT Z P Φ W (.andv ca cb)) := by
  refine PW.imp (pw_and ha hb) ?_
  rintro τ H Q ⟨μ, σ, S, R, V, h⟩
  simp only [ev] at h
  refine stepT R V h _ (fun _ _ _ _ _ _ _ z => z) ?_ ?_
  · intro d S1 μ1 H1 h1
    split at h1
    · rename_i hb; exact ⟨_, hb⟩
    · rename_i hb; exact ⟨_, hb⟩
    · exact h1.bad
  · intro d S1 μ1 H1 b e1 R1 V1 hb h1
    cases b with
    | true =>
      rw [hb] at h1
      exact iteT ⟨μ1, σ, S1, R1, V1, h1⟩
    | false =>
      rw [hb] at h1
      obtain ⟨d3, b3, e3, e4, q⟩ := h1 μ1 H1 Ext.refl R1
      cases e3
      rw [hb] at e4
      cases e4
      exact iteF q
theorem w_or (ha : PT X a (rdT Z P Φ W ca)) (hb : PW X (.BoolOp .Or (b :: rest) pos) (rdT Z P Φ W cb)) : PW X (.BoolOp .Or (a :: b :: rest) pos) (rdT Z P Φ W (.orv ca cb)) := by
  refine PW.imp (pw_or ha hb) ?_
  rintro τ H Q ⟨μ, σ, S, R, V, h⟩
  simp only [ev] at h
  refine stepT R V h _ (fun _ _ _ _ _ _ _ z => z) ?_ ?_
  · intro d S1 μ1 H1 h1
    split at h1
    · rename_i hb; exact ⟨_, hb⟩
    · rename_i hb; exact ⟨_, hb⟩
    · exact h1.bad
  · intro d S1 μ1 H1 b e1 R1 V1 hb h1
    cases b with
    | false =>
      rw [hb] at h1
      exact iteF ⟨μ1, σ, S1, R1, V1, h1⟩
    | true =>
      rw [hb] at h1
      obtain ⟨d3, b3, e3, e4, q⟩ := h1 μ1 H1 Ext.refl R1
      cases e3
      rw [hb] at e4
      cases e4
      exact iteT q
theorem v_ite {t : Expr} {ct : C} (ht : PT X t (rdT Z P Φ W ct)) (ha : PE X a (rdE Z P Φ W ca)) (hb : PE X b (rdE Z P Φ W cb)) : PE X (.IfExp t a b pos) (rdE Z P Φ W (.ite ct ca cb)) := by
  refine PE.imp (pe_ifExp ht ha hb) ?_
  rintro τ H Q ⟨μ, σ, S, R, V, h⟩
  simp only [ev] at h
  refine stepT R V h _ (fun _ _ _ _ _ _ _ z => z) ?_ ?_
  · intro d S1 μ1 H1 h1
    split at h1
    · rename_i hb; exact ⟨_, hb⟩
    · rename_i hb; exact ⟨_, hb⟩
    · exact h1.bad
  · intro d S1 μ1 H1 b e1 R1 V1 hb h1
    cases b with
    | true =>
      rw [hb] at h1
      exact iteT ⟨μ1, σ, S1, R1, V1, h1⟩
    | false =>
      rw [hb] at h1
      exact iteF ⟨μ1, σ, S1, R1, V1, h1⟩
variable {e : Expr} {es : List Expr} {cr : C}
theorem v_anil : PA X [] (rdA Z P Φ W .anil) := by
  refine PA.imp pa_nil ?_
  rintro τ H Q ⟨μ, σ, S, R, V, h⟩
  exact h μ H Ext.refl R [] (by simp only [DVs])
theorem v_acons (ha : PE X e (rdE Z P Φ W ca)) (hr : PA X es (rdA Z P Φ W cr)) (hs : starEach (e :: es) X.env = (false, eval e X.env) :: starEach es X.env := by rfl) : PA X (e :: es) (rdA Z P Φ W (.acons ca cr)) := by
  refine PA.imp (pa_cons ha hr hs) ?_
  rintro τ H Q ⟨μ, σ, S, R, V, h⟩
  simp only [ev] at h
  refine stepE R V h _ (fun _ _ _ _ _ _ _ z => z) fun d S1 μ1 H1 v e1 R1 V1 hv h1 => stepA R1 V1 h1 _ (fun _ _ _ _ _ _ _ z => z) fun ds S2 μ2 H2 vs e2 R2 V2 hvs h2 => ?_
  refine h2 μ2 H2 Ext.refl R2 (v :: vs) ?_
  simp only [DVs]
  exact ⟨v, vs, rfl, hv.mono e2, hvs⟩
theorem v_tup {kk : Nat} (h : PA X es (rdA Z P Φ W ca)) : PE X (.Tuple es kk pos) (rdE Z P Φ W (.tup ca)) := by
  refine PE.imp (pe_tup h) ?_
  rintro τ H Q ⟨μ, σ, S, R, V, h⟩
  simp only [ev] at h
  refine stepA R V h _ (fun _ _ _ _ _ _ _ z => z) fun ds S1 μ1 H1 vs e1 R1 V1 hvs h1 => ?_
  split at h1
  · rename_i hl
    exact ⟨by rw [sizeLine_eq, ← hvs.length]; exact hl, fun p hp => new_tup R1 hvs h1 hp⟩
  · exact h1.bad
theorem v_lst (h : PA X es (rdA Z P Φ W ca)) : PE X (.List es pos) (rdE Z P Φ W (.lst ca)) := by
  refine PE.imp (pe_lst h) ?_
  rintro τ H Q ⟨μ, σ, S, R, V, h⟩
  simp only [ev] at h
  refine stepA R V h _ (fun _ _ _ _ _ _ _ z => z) fun ds S1 μ1 H1 vs e1 R1 V1 hvs h1 => ?_
  split at h1
  · rename_i hl
    exact ⟨by rw [sizeLine_eq, ← hvs.length]; exact hl, fun p hp => new_lst R1 hl hvs h1 hp⟩
  · exact h1.bad
end
end Vm
namespace Vm
open PySem L2
section
variable {X : Cx} {Z : Zz} {P : Pg} {Φ : Nat → List D → Sto → Res} {W : WX}
variable {H H' : Hp} {μ μ' : Mu} {S S' : Sto} {σ : Sl} {τ : St} {Q : VK} {k : Kt}
theorem Want.bg {r : Res} {f : Sl → Sto → Res} (h : Want Z μ H k (bg r f)) : Want Z μ H { nx := fun σ S μ1 H1 => Want Z μ1 H1 k (f σ S) } r := by
  cases r with
  | nx σ' S => exact fun μ1 H1 e R => Want.ext e h
  | _ => exact h.elim
theorem Want.turn {r : Res} {f : Sl → Sto → Res} (h : Want Z μ H k (turnR r f)) :
    Want Z μ H { k with v := fun _ _ _ _ => False, nx := fun σ S μ1 H1 => Want Z μ1 H1 k (f σ S), ct := fun σ S μ1 H1 => Want Z μ1 H1 k (f σ S), bk := k.nx } r := by
  cases r with
  | nx σ' S => exact fun μ1 H1 e R => Want.ext e h
  | ct σ' S => exact fun μ1 H1 e R => Want.ext e h
  | bk σ' S => exact h
  | rt _ _ => exact h
  | exc _ _ _ _ => exact h
  | val _ _ => exact h.elim
  | bad => exact h.elim
/-- the errors of a part, in a statement -/
theorem kS_x {D : Ends} : ∀ c fs S1 μ1 H1, SV Z H μ σ τ → Ext μ H μ1 H1 → RS Z μ1 S1 H1 → (kS Z W D).x c fs σ S1 μ1 H1 → kX Z W τ c fs σ S1 μ1 H1 := fun c fs S1 μ1 H1 L e _ z => z τ (L.mono e)
theorem stepSE {D : Ends} {a : C} {f : Vm.D → Sto → Res} (R : RS Z μ S H) (L : SV Z H μ σ τ) (h : Want Z μ H (kS Z W D) (b1 σ (ev P Φ a [] σ S) f)) (R' : V → Hp → Prop)
    (hk : ∀ d S1 μ1 H1 v, Ext μ H μ1 H1 → RS Z μ1 S1 H1 → SV Z H1 μ1 σ τ → DV Z H1 μ1 d v → Want Z μ1 H1 (kS Z W D) (f d S1) → R' v H1) : rdE Z P Φ W a τ H R' :=
  stepE R L h R' (fun c fs S1 μ1 H1 e R1 z => kS_x c fs S1 μ1 H1 L e R1 z) hk
variable {st : Stmt} {rest : List Stmt} {e : Expr} {ca cb cc cr : C} {pos : Pos}
theorem s_nil : PSs X [] (rdS Z P Φ W .nop) := by
  refine PSs.imp pss_nil ?_
  rintro D τ H ⟨μ, σ, S, R, L, h⟩
  exact h μ H Ext.refl R τ L
theorem s_cons (h1 : PS X st (rdS Z P Φ W ca)) (h2 : PSs X rest (rdS Z P Φ W cb)) : PSs X (st :: rest) (rdS Z P Φ W (.seq ca cb)) := by
  refine PSs.imp (pss_cons h1 h2) ?_
  rintro D τ H ⟨μ, σ, S, R, L, h⟩
  simp only [ev] at h
  refine ⟨μ, σ, S, R, L, h.bn.mono (fun _ _ _ _ _ _ z => z) ?_ (fun _ _ _ _ _ _ z => z) (fun _ _ _ _ _ _ z => z) (fun _ _ _ _ _ _ z => z) (fun _ _ _ _ _ _ _ _ z => z)⟩
  intro σ1 S1 μ1 H1 e R1 w τ1 L1
  exact ⟨μ1, σ1, S1, R1, L1, w⟩
theorem s_one (h1 : PS X st (rdS Z P Φ W ca)) : PSs X [st] (rdS Z P Φ W ca) := pss_one h1
theorem s_ret (ha : PE X e (rdE Z P Φ W ca)) : PS X (.Return (some e) pos) (rdS Z P Φ W (.ret ca)) := by
  refine PS.imp (ps_ret ha) ?_
  rintro D τ H ⟨μ, σ, S, R, L, h⟩
  simp only [ev] at h
  exact stepSE R L h _ fun d S1 μ1 H1 v e1 R1 L1 hv h1 => h1 μ1 H1 Ext.refl R1 v hv
theorem s_exp (ha : PE X e (rdE Z P Φ W ca)) (hs : swapsWith e none pos.line X.env = pure false := by rfl) : PS X (.Expr e pos) (rdS Z P Φ W (.exp ca)) := by
  refine PS.imp (ps_expr ha hs) ?_
  rintro D τ H ⟨μ, σ, S, R, L, h⟩
  simp only [ev] at h
  exact stepSE R L h _ fun d S1 μ1 H1 v e1 R1 L1 hv h1 => h1 μ1 H1 Ext.refl R1 τ L1
theorem s_if {t : Expr} {a b : List Stmt} {ct : C} (ht : PT X t (rdT Z P Φ W ct)) (ha : PSs X a (rdS Z P Φ W ca)) (hb : PSs X b (rdS Z P Φ W cb)) : PS X (.If t a b pos) (rdS Z P Φ W (.iff ct ca cb)) := by
  refine PS.imp (ps_if ht ha hb) ?_
  rintro D τ H ⟨μ, σ, S, R, L, h⟩
  simp only [ev] at h
  refine stepT R L h _ (fun c fs S1 μ1 H1 e R1 z => kS_x c fs S1 μ1 H1 L e R1 z) ?_ ?_
  · intro d S1 μ1 H1 h1
    split at h1
    · rename_i hb; exact ⟨_, hb⟩
    · rename_i hb; exact ⟨_, hb⟩
    · exact h1.bad
  · intro d S1 μ1 H1 b e1 R1 L1 hb h1
    cases b with
    | true =>
      rw [hb] at h1
      exact iteT ⟨μ1, σ, S1, R1, L1, h1⟩
    | false =>
      rw [hb] at h1
      exact iteF ⟨μ1, σ, S1, R1, L1, h1⟩
variable {tg : Expr} {cg : C}
theorem SV.set (L : SV Z H μ σ τ) {i : Nat} {d : D} {v : V} (hv : DV Z H μ d v) : SV Z H μ (σ.set i (some d)) (τ.set i (some v)) := by
  refine ⟨by rw [List.length_set, List.length_set]; exact L.len, fun j e h => ?_, fun p hp hn => ?_⟩
  rotate_left
  · by_cases hj : i = p.1
    · subst hj
      have hi : p.1 < σ.length := by
        have := (List.getElem?_eq_some_iff.mp hn).1
        rwa [List.length_set] at this
      rw [List.getElem?_set_self hi] at hn
      cases hn
    · rw [List.getElem?_set_ne hj] at hn ⊢
      exact L.pin p hp hn
  by_cases hj : i = j
  · subst hj
    have hi : i < σ.length := by
      have := (List.getElem?_eq_some_iff.mp h).1
      rwa [List.length_set] at this
    rw [List.getElem?_set_self hi] at h
    cases h
    exact ⟨v, by rw [List.getElem?_set_self (by rw [← L.len]; exact hi)], hv⟩
  · rw [List.getElem?_set_ne hj] at h ⊢
    exact L.at_ j e h
theorem g_name {i : Nat} {x : Str} (hN : X.N.Nodup) (hi : X.N[i]? = some x) (hx : Loc X.env.scope x) (hf : X.fn x = true ∨ X.env.scope.names.lookup x = some .local := by first | exact .inl rfl | exact .inr rfl | assumption) : PG X (.Name x pos) (rdG Z P Φ (.gn i)) := by
  refine PG.imp (pg_name hN hi hx hf) ?_
  rintro v τ H Q ⟨μ, σ, S, d, R, L, hv, h⟩
  simp only [ev] at h
  split at h
  · exact h μ H Ext.refl R _ (L.set hv)
  · exact h.bad
theorem g_nil : PGs X [] (rdGs Z P Φ .gnil) := by
  refine PGs.imp pgs_nil ?_
  rintro vs τ H Q ⟨μ, σ, S, ds, R, L, hv, h⟩
  cases ds with
  | nil =>
    simp only [ev] at h
    simp only [DVs] at hv
    exact ⟨hv, h μ H Ext.refl R τ L⟩
  | cons d ds => exact h.bad
theorem g_cons {es : List Expr} (h1 : PG X tg (rdG Z P Φ cg)) (h2 : PGs X es (rdGs Z P Φ cr)) (hs : (assignEach (tg :: es) X.env).map (·.2) = assign tg X.env :: (assignEach es X.env).map (·.2) := by rfl) :
    PGs X (tg :: es) (rdGs Z P Φ (.gcons cg cr)) := by
  refine PGs.imp (pgs_cons h1 h2 hs) ?_
  rintro vs τ H Q ⟨μ, σ, S, ds, R, L, hv, h⟩
  cases ds with
  | nil => exact h.bad
  | cons d ds =>
    simp only [ev] at h
    simp only [DVs] at hv
    obtain ⟨v, r, rfl, hv1, hv2⟩ := hv
    refine ⟨v, r, rfl, μ, σ, S, d, R, L, hv1, h.bg.mono (fun _ _ _ _ _ _ z => z) ?_ (fun _ _ _ _ _ _ z => z) (fun _ _ _ _ _ _ z => z) (fun _ _ _ _ _ _ z => z) (fun _ _ _ _ _ _ _ _ z => z)⟩
    intro σ1 S1 μ1 H1 e R1 w τ1 L1
    exact ⟨μ1, σ1, S1, ds, R1, L1, hv2.mono e, w⟩
theorem g_tup {es : List Expr} {kk n : Nat} (hZ : X.K = Z.K) (hc : X.calm = true) (h : PGs X es (rdGs Z P Φ cg)) (hlen : ∀ ds σ S, ev P Φ cg ds σ S ≠ .bad → ds.length = n)
    (hn : (assignEach es X.env).length = n := by rfl) (hst : (assignEach es X.env).findIdx? (·.1) = none := by rfl) : PG X (.Tuple es kk pos) (rdG Z P Φ (.gt cg)) := by
  refine PG.imp (pg_tup hc h hn hst) ?_
  rintro v τ H Q ⟨μ, σ, S, d, R, L, hv, h⟩
  cases d with
  | tup xs =>
    simp only [ev] at h
    simp only [DV] at hv
    obtain ⟨a, vs, rfl, h1, h2⟩ := hv
    rw [← hZ] at h1
    refine ⟨a, vs, rfl, h1, ?_, μ, σ, S, xs, R, L, h2, h⟩
    rw [← h2.length]
    exact hlen xs σ S fun z => by rw [z] at h; exact h.bad
  | _ => exact h.bad
theorem gnil_len {P : Pg} {Φ : Nat → List D → Sto → Res} : ∀ ds σ S, ev P Φ .gnil ds σ S ≠ .bad → ds.length = 0 := by
  intro ds σ S h
  cases ds with
  | nil => rfl
  | cons d ds => exact absurd rfl h
theorem gcons_len {P : Pg} {Φ : Nat → List D → Sto → Res} {g r : C} {n : Nat} (hr : ∀ ds σ S, ev P Φ r ds σ S ≠ .bad → ds.length = n) : ∀ ds σ S, ev P Φ (.gcons g r) ds σ S ≠ .bad → ds.length = n + 1 := by
  intro ds σ S h
  cases ds with
  | nil => exact absurd rfl h
  | cons d ds =>
    rw [List.length_cons]
    simp only [ev] at h
    cases e : ev P Φ g [d] σ S with
    | nx σ1 S1 =>
      rw [e] at h
      rw [hr ds σ1 S1 h]
    | _ => rw [e] at h; exact absurd rfl h
theorem s_asg (ha : PE X e (rdE Z P Φ W ca)) (hg : PG X tg (rdG Z P Φ cg)) (hs : swapsWithSole [tg] e pos.line X.env = pure false := by rfl) (hw : swappedStores [tg] e X.env = pure none := by rfl)
    (h1 : (assignEach [tg] X.env).map (·.2) = [assign tg X.env] := by rfl) : PS X (.Assign [tg] e pos) (rdS Z P Φ W (.asg cg ca)) := by
  refine PS.imp (ps_asg ha hg hs hw h1) ?_
  rintro D τ H ⟨μ, σ, S, R, L, h⟩
  simp only [ev] at h
  refine stepSE R L h _ fun d S1 μ1 H1 v e1 R1 L1 hv h1 => ⟨μ1, σ, S1, d, R1, L1, hv, ?_⟩
  refine h1.bg.mono (fun _ _ _ _ _ _ z => z) ?_ (fun _ _ _ _ _ _ z => z) (fun _ _ _ _ _ _ z => z) (fun _ _ _ _ _ _ z => z) (fun _ _ _ _ _ _ _ _ z => z)
  intro σ1 S2 μ2 H2 e R2 w τ1 L2
  exact w μ2 H2 Ext.refl R2 τ1 L2
/-- name = value -/
theorem s_set {i : Nat} {x : Str} {pos' : Pos} (hN : X.N.Nodup) (hi : X.N[i]? = some x) (hx : Loc X.env.scope x) (ha : PE X e (rdE Z P Φ W ca)) (hs : swapsWith e (some (.Name x pos')) pos.line X.env = pure false := by rfl)
    (hf : X.fn x = true ∨ X.env.scope.names.lookup x = some .local := by first | exact .inl rfl | exact .inr rfl | assumption) : PS X (.Assign [.Name x pos'] e pos) (rdS Z P Φ W (.asg (.gn i) ca)) := by
  refine PS.imp (ps_set hN hi hx ha hs hf) ?_
  rintro D τ H ⟨μ, σ, S, R, L, h⟩
  simp only [ev] at h
  refine stepSE R L h _ fun d S1 μ1 H1 v e1 R1 L1 hv h1 => ?_
  split at h1
  · exact h1 μ1 H1 Ext.refl R1 _ (L1.set hv)
  · exact h1.bad
/-- a, b = x, y with plain names: the right one is stored first -/
theorem s_par {i j : Nat} {x y : Str} {a b : Expr} {px py pt : Pos} {kt k2 : Nat} {pt2 : Pos} (hc : X.calm = true) (hN : X.N.Nodup) (hi : X.N[i]? = some x) (hj : X.N[j]? = some y) (hij : i ≠ j)
    (hx : X.env.scope.names.lookup x = some .local) (hy : X.env.scope.names.lookup y = some .local) (ha : PE X a (rdE Z P Φ W ca)) (hb : PE X b (rdE Z P Φ W cb))
    (hw : swappedStores [.Tuple [.Name x px, .Name y py] kt pt] (.Tuple [a, b] k2 pt2) X.env = pure (some [x, y]))
    (hs1 : starEach [a, b] X.env = (false, eval a X.env) :: starEach [b] X.env := by rfl) (hs2 : starEach [b] X.env = (false, eval b X.env) :: starEach [] X.env := by rfl)
    (hs : swapsWithSole [.Tuple [.Name x px, .Name y py] kt pt] (.Tuple [a, b] k2 pt2) pos.line X.env = pure false := by rfl) :
    PS X (.Assign [.Tuple [.Name x px, .Name y py] kt pt] (.Tuple [a, b] k2 pt2) pos) (rdS Z P Φ W (.asg (.gt (.gcons (.gn i) (.gcons (.gn j) .gnil))) (.tup (.acons ca (.acons cb .anil))))) := by
  refine PS.imp (ps_par hc hN hi hj hij hx hy (v_acons ha (v_acons hb v_anil hs2) hs1) hw hs) ?_
  rintro D τ H ⟨μ, σ, S, R, L, h⟩
  rw [ev] at h
  have h' : Want Z μ H (kS Z W D) (bv σ (ev P Φ (.acons ca (.acons cb .anil)) [] σ S) fun ds S1 => b1 σ (if ds.length ≤ SL then .val [.tup ds] S1 else .bad) fun d S => bg (ev P Φ (.gt (.gcons (.gn i) (.gcons (.gn j) .gnil))) [d] σ S) fun σ S => .nx σ S) := by
    rw [ev] at h
    cases q : ev P Φ (.acons ca (.acons cb .anil)) [] σ S with
    | val ds S1 => rw [q] at h; exact h
    | exc c fs σ1 S1 => rw [q] at h; exact h
    | _ => rw [q] at h; exact h
  refine stepA R L h' _ (fun c fs S1 μ1 H1 e R1 z => kS_x c fs S1 μ1 H1 L e R1 z) fun ds S1 μ1 H1 vs e1 R1 L1 hvs h1 => ?_
  split at h1
  · have hl : ds.length = 2 := gcons_len (P := P) (Φ := Φ) (gcons_len gnil_len) ds σ _ fun z => by
      simp only [b1] at h1
      rw [ev, z] at h1
      exact h1.bad
    match ds, hl, hvs, h1 with
    | [d, e], _, hvs, h1 =>
      obtain ⟨v, w, rfl, hv, hw⟩ := hvs.of_two
      refine ⟨v, w, rfl, ?_⟩
      simp only [b1, ev, bg] at h1
      by_cases z1 : i < σ.length
      · by_cases z2 : j < (σ.set i (some d)).length
        · simp only [if_pos z1, if_pos z2] at h1
          exact h1 μ1 H1 Ext.refl R1 _ ((L1.set hv).set hw)
        · simp only [if_pos z1, if_neg z2] at h1
          exact h1.bad
      · simp only [if_neg z1] at h1
        exact h1.bad
  · exact h1.bad
end
end Vm
namespace Vm
open PySem L2
section
variable {X : Cx} {Z : Zz} {P : Pg} {Φ : Nat → List D → Sto → Res} {W : WX}
variable {H H' : Hp} {μ μ' : Mu} {S S' : Sto} {σ : Sl} {τ : St} {Q : VK} {k : Kt}
variable {a b e l o : Expr} {es : List Expr} {ca cb cc ce co : C} {pos p apos cpos : Pos}
def rIx (Z : Zz) : R2 := fun x y H Q => ∃ μ S d e r, RS Z μ S H ∧ DV Z H μ d x ∧ DV Z H μ e y ∧ opIx d e S = some r ∧ ∀ v, DV Z H μ r v → Q v H
theorem atI_DVs {xs : List D} {vs : List V} {i : Int} {r : D} (h : DVs Z H μ xs vs) (e : atI xs i = some r) : ∃ v, atI vs i = some v ∧ DV Z H μ r v := by
  unfold atI at e ⊢
  rw [← h.length]
  cases q : ixN xs.length i with
  | none => rw [q] at e; cases e
  | some j =>
    rw [q] at e
    exact h.get (by simpa using e)
theorem ix_dyn (hZ : X.K = Z.K) : IxR X (rIx Z) := by
  intro value slice pins s σ H x y v u Q I rx ry h hs
  obtain ⟨μ, S, d, e, r, R, hd, he, h, q⟩ := h
  cases e with
  | int i =>
    simp only [DV] at he
    subst he
    have lst : (match S.lv d with
        | some xs => L2.atI xs i
        | none => none) = some r → rIxL X.K x (.int i) H Q := by
      intro h
      cases e1 : S.lv d with
      | none => rw [e1] at h; cases h
      | some xs =>
        rw [e1] at h
        dsimp only at h
        obtain ⟨a, vs, rfl, h1, h2, _⟩ := R.lv e1 hd
        obtain ⟨w, h3, h4⟩ := atI_DVs h2 h
        exact ⟨a, vs, i, w, rfl, rfl, SqL.of h1, h3, q w h4⟩
    cases d with
    | tup xs =>
      simp only [opIx] at h
      simp only [DV] at hd
      obtain ⟨a, vs, rfl, h1, h2⟩ := hd
      obtain ⟨w, h3, h4⟩ := atI_DVs h2 h
      rw [← hZ] at h1
      exact ix_tup value slice pins s σ H _ _ v u Q I rx ry ⟨a, vs, i, w, rfl, rfl, h1, h3, q w h4⟩ hs
    | scr xs =>
      simp only [opIx] at h
      simp only [DV] at hd
      obtain ⟨a, vs, rfl, h1, h2⟩ := hd
      obtain ⟨w, h3, h4⟩ := atI_DVs h2 h
      have h1 := h1.sqL
      rw [← hZ] at h1
      exact ix_list value slice pins s σ H _ _ v u Q I rx ry ⟨a, vs, i, w, rfl, rfl, h1, h3, q w h4⟩ hs
    | ref j => exact ix_list value slice pins s σ H _ _ v u Q I rx ry (lst h) hs
    | rol j => exact ix_list value slice pins s σ H _ _ v u Q I rx ry (lst h) hs
    | str z =>
      simp only [opIx] at h
      cases e1 : atI z i with
      | none => rw [e1] at h; cases h
      | some c =>
        rw [e1] at h
        cases h
        simp only [DV] at hd
        obtain ⟨h1, h2, rfl⟩ := hd
        refine ix_str value slice pins s σ H _ _ v u Q I rx ry ⟨_, i, c, rfl, rfl, ?_, by simpa using e1, q _ ?_⟩ hs
        · rw [sizeLine_eq]; simpa [Str.length] using h1
        · have hc : c ∈ z := by
            unfold atI at e1
            cases q1 : ixN z.length i with
            | none => rw [q1] at e1; cases e1
            | some j => rw [q1] at e1; exact List.mem_of_getElem? (by simpa using e1)
          simp only [DV]
          refine ⟨by rw [List.length_singleton]; decide, fun c' hc' => ?_, trivial⟩
          rw [List.mem_singleton.mp hc']
          exact h2 c hc
    | _ => cases h
  | _ => cases h
theorem v_idx (hZ : X.K = Z.K) (ha : PE X a (rdE Z P Φ W ca)) (hb : PE X b (rdE Z P Φ W cb)) (hs : PlainIx b) : PE X (.Subscript a b pos) (rdE Z P Φ W (.idx ca cb)) := by
  refine PE.imp (pe_ix (ix_dyn hZ) ha hb hs) ?_
  rintro τ H Q ⟨μ, σ, S, R, L, h⟩
  simp only [ev] at h
  refine stepEE R L h _ fun d S1 μ1 H1 v e1 R1 V1 hv h1 => stepEE R1 V1 h1 _ fun d2 S2 μ2 H2 v2 e2 R2 V2 hv2 h2 => ?_
  split at h2
  · rename_i r hr
    exact ⟨μ2, S2, d, d2, r, R2, hv.mono e2, hv2, hr, fun w hw => h2.dE R2 hw⟩
  · exact h2.bad
/-- an end of a slice -/
def rdO (Z : Zz) (P : Pg) (Φ : Nat → List D → Sto → Res) (W : WX) (c : C) : TO := fun τ H Q => ∃ μ σ S, RS Z μ S H ∧ SV Z H μ σ τ ∧
  Want Z μ H { v := fun ds _ _ H => ∃ d o, ds = [d] ∧ ends d = some o ∧ Q o H, x := kX Z W τ } (ev P Φ c [] σ S)
theorem o_none : PO X none (rdO Z P Φ W (.kon .non)) := ⟨fun pins s σ H Q I h => po_none.run pins s σ H Q I (by
  obtain ⟨μ, σ, S, R, L, h⟩ := h
  obtain ⟨d, o, h1, h2, q⟩ := h μ H Ext.refl R
  cases h1
  cases h2
  exact q)⟩
theorem o_some (ha : PE X a (rdE Z P Φ W ca)) : PO X (some a) (rdO Z P Φ W (.part ca)) := ⟨fun pins s σ H Q I h => (po_some ha).run pins s σ H Q I (by
  obtain ⟨μ, σ, S, R, L, h⟩ := h
  simp only [ev] at h
  refine stepE R L h _ (fun _ _ _ _ _ _ _ z => z) fun d S1 μ1 H1 v e1 R1 V1 hv h1 => ?_
  cases d with
  | int i =>
    obtain ⟨d, o, h2, h3, q⟩ := h1 μ1 H1 Ext.refl R1
    cases h2
    cases h3
    simp only [DV] at hv
    exact ⟨i, hv, q⟩
  | _ => exact h1.bad)⟩
def rSl (Z : Zz) : V → Option Int → Option Int → Hp → VK → Prop := fun x lo hi H Q => ∃ μ S d, RS Z μ S H ∧ DV Z H μ d x ∧ Want Z μ H (kQ Z Q) (opSlice d lo hi S)
theorem cutD_DVs {xs : List D} {vs : List V} {lo hi : Option Int} (h : DVs Z H μ xs vs) : DVs Z H μ (cutD xs lo hi) (cutV vs lo hi) := by
  unfold cutD cutV
  rw [← h.length]
  exact (h.drop _).take _
theorem cutD_length {α : Type} (xs : List α) (lo hi : Option Int) : (cutD xs lo hi).length ≤ xs.length := by
  unfold cutD
  rw [List.length_take, List.length_drop]
  omega
theorem sl_dyn (hZ : X.K = Z.K) : SlR X (rSl Z) := by
  intro pins s σ H x v vl vu lo hi sl Q I rx hs pl pu h
  obtain ⟨μ, S, d, R, hd, h⟩ := h
  have lst : Want Z μ H (kQ Z Q) (match S.lv d with
    | some xs => .val [.ref S.length] (S ++ [.lst (cutD xs lo hi)])
    | none => .bad) → ∃ a vs, x = .ref a ∧ SqL X.K H a vs ∧ ∀ p, H p = none → Q (.ref p) (upd H p (.lst (cutV vs lo hi))) := fun h => by
    cases e1 : S.lv d with
    | none => rw [e1] at h; exact h.elim
    | some xs =>
      rw [e1] at h
      obtain ⟨a, vs, rfl, h1, h2, hz⟩ := R.lv e1 hd
      exact ⟨a, vs, rfl, SqL.of h1, fun p hp => new_lst R (Nat.le_trans (cutD_length _ _ _) hz) (cutD_DVs h2) h hp⟩
  cases d with
  | tup xs =>
    simp only [opSlice] at h
    have hd0 := hd
    simp only [DV] at hd
    obtain ⟨a, vs, rfl, h1, h2⟩ := hd
    rw [← hZ] at h1
    refine sl_tupA pins s σ H _ v vl vu lo hi sl Q I rx hs pl pu ⟨a, vs, rfl, h1, fun hw => ?_, fun _ p hp => new_tup R (cutD_DVs h2) h hp⟩
    rw [← h2.length] at hw
    have e : cutD xs lo hi = xs := by
      unfold cutD
      rw [hw.1, hw.2]
      simp
    rw [e] at h
    exact h.dn R hd0
  | str z =>
    simp only [opSlice] at h
    simp only [DV] at hd
    obtain ⟨h1, h2, rfl⟩ := hd
    refine sl_str pins s σ H _ v vl vu lo hi sl Q I rx hs pl pu ⟨_, rfl, by rw [sizeLine_eq]; simpa [Str.length] using h1, h.dn R ?_⟩
    simp only [DV]
    refine ⟨Nat.le_trans (cutD_length _ _ _) h1, fun c hc => h2 c (List.mem_of_mem_drop (List.mem_of_mem_take hc)), ?_⟩
    unfold cutS cutD
    simp [Str.length]
  | scr xs =>
    simp only [opSlice] at h
    split at h
    · rename_i hz
      simp only [DV] at hd
      obtain ⟨a, vs, rfl, h1, h2⟩ := hd
      have h1 := h1.sqL
      rw [← hZ] at h1
      exact sl_list pins s σ H _ v vl vu lo hi sl Q I rx hs pl pu ⟨a, vs, rfl, h1, fun p hp => new_lst R (Nat.le_trans (cutD_length _ _ _) hz) (cutD_DVs h2) h hp⟩
    · exact h.bad
  | ref i => exact sl_list pins s σ H _ v vl vu lo hi sl Q I rx hs pl pu (lst h)
  | rol i => exact sl_list pins s σ H _ v vl vu lo hi sl Q I rx hs pl pu (lst h)
  | non => exact sl_list pins s σ H _ v vl vu lo hi sl Q I rx hs pl pu (lst h)
  | bl _ => exact sl_list pins s σ H _ v vl vu lo hi sl Q I rx hs pl pu (lst h)
  | int _ => exact sl_list pins s σ H _ v vl vu lo hi sl Q I rx hs pl pu (lst h)
  | rin _ _ _ => exact sl_list pins s σ H _ v vl vu lo hi sl Q I rx hs pl pu (lst h)
  | rdc _ _ => exact sl_list pins s σ H _ v vl vu lo hi sl Q I rx hs pl pu (lst h)
  | cls _ => exact sl_list pins s σ H _ v vl vu lo hi sl Q I rx hs pl pu (lst h)
  | unk => exact sl_list pins s σ H _ v vl vu lo hi sl Q I rx hs pl pu (lst h)
theorem opSlice_noexc (d : D) (lo hi : Option Int) (S : Sto) : ∀ c fs σ S1, opSlice d lo hi S ≠ .exc c fs σ S1 := by
  intro c fs σ S1 z
  unfold opSlice at z
  repeat' (split at z)
  all_goals cases z
theorem v_slc {lo hi : Option Expr} {p2 : Pos} {cl ch : C} (hZ : X.K = Z.K) (ha : PE X a (rdE Z P Φ W ca)) (hl : PO X lo (rdO Z P Φ W cl)) (hh : PO X hi (rdO Z P Φ W ch)) : PE X (.Subscript a (.Slice lo hi none p2) pos) (rdE Z P Φ W (.slc ca cl ch)) := by
  refine PE.imp (pe_slice (sl_dyn hZ) ha hl hh) ?_
  rintro τ H Q ⟨μ, σ, S, R, L, h⟩
  simp only [ev] at h
  refine stepEE R L h _ fun d S1 μ1 H1 v e1 R1 V1 hv h1 => ⟨μ1, σ, S1, R1, V1, h1.b1.mono ?_ (fun _ _ _ _ _ _ z => z) (fun _ _ _ _ _ _ z => z) (fun _ _ _ _ _ _ z => z) (fun _ _ _ _ _ _ z => z) (fun _ _ _ _ _ _ _ _ z => z)⟩
  rintro ds S2 μ2 H2 e2 R2 ⟨y, rfl, w⟩
  cases hy : ends y with
  | none => rw [hy] at w; exact w.bad
  | some lo' =>
    rw [hy] at w
    refine ⟨y, lo', rfl, hy, μ2, σ, S2, R2, V1.mono e2, w.b1.mono ?_ (fun _ _ _ _ _ _ z => z) (fun _ _ _ _ _ _ z => z) (fun _ _ _ _ _ _ z => z) (fun _ _ _ _ _ _ z => z) (fun _ _ _ _ _ _ _ _ z => z)⟩
    rintro ds S3 μ3 H3 e3 R3 ⟨z, rfl, w3⟩
    cases hz : ends z with
    | none => rw [hz] at w3; exact w3.bad
    | some hi' =>
      rw [hz] at w3
      exact ⟨z, hi', rfl, hz, μ3, S3, d, R3, (hv.mono e2).mono e3, w3.toQ (opSlice_noexc _ _ _ _)⟩
end
end Vm
namespace Vm
open PySem L2
section
variable {X : Cx} {Z : Zz} {P : Pg} {Φ : Nat → List D → Sto → Res} {W : WX}
variable {H H' : Hp} {μ μ' : Mu} {S S' : Sto} {σ : Sl} {τ : St} {Q : VK} {k : Kt}
variable {a b e l o tg iter : Expr} {es : List Expr} {ca cb cc ce co ci cg : C} {pos p apos cpos : Pos}
/-- J walks xs -/
def WalkOk (Z : Zz) (J : It) (ds : List D) (raws : List (List D)) (xs : List D) (μ1 : Mu) (H1 : Hp) : Prop :=
  ∀ μ' S' H', Mo μ1 H1 μ' H' → RS Z μ' S' H' → stillW ds raws S' = true →
    (∀ (i : Nat) (x : D), xs[i]? = some x → J.go i H' ∧ ∀ v H'', J.yld i H' v H'' → Ext μ' H' μ' H'' ∧ RS Z μ' S' H'' ∧ DV Z H'' μ' x v) ∧ (∀ i, xs.length ≤ i → J.stop i H')
def rdI (Z : Zz) (P : Pg) (Φ : Nat → List D → Sto → Res) (W : WX) (c : C) : TI := fun τ H R => ∃ μ σ S, RS Z μ S H ∧ SV Z H μ σ τ ∧
  Want Z μ H { v := fun ds S1 μ1 H1 => ∃ raws xs, walk S1 ds = some (raws, xs) ∧ ∀ J, WalkOk Z J ds raws xs μ1 H1 → R J H1, x := kX Z W τ } (ev P Φ c [] σ S)
def iDyn (K : PySem.W.Frag) (tl : TE) : TI := fun σ H R => tl σ H fun x H1 => (∃ a, x = .ref a ∧ (∃ xs, SqL K H1 a xs) ∧ R (Itl K a) H1) ∨ (∃ a, x = .ref a ∧ (∃ xs, SqT K H1 a xs) ∧ R (Itt K a) H1) ∨ ∃ z, x = .str z ∧ R (Its z) H1
theorem pi_dyn {l : Expr} {tl : TE} (hl : PE X l tl) : PI X tg l (iDyn X.K tl) := by
  refine ⟨fun pins s σ H R I h => ?_⟩
  refine thn (hl.run pins s σ H _ I h) fun v s1 ⟨x, H1, I1, r1, q1⟩ => ?_
  rcases q1 with ⟨a, e, ⟨xs, hq⟩, q⟩ | ⟨a, e, ⟨xs, hq⟩, q⟩ | ⟨z, e, q⟩
  · subst e
    cases r1
    obtain ⟨its, rv, p, hz⟩ := I1.list hq
    refine wpAny_pyIter_list p.isList ?_
    refine ⟨s1.heap.objs.size, [s1.heap.objs.size], _, _, H1, rfl, I1.kept (t' := s1.toks) fun b o e => Heap.get?_push_of_some _ e, turn_list a _, ⟨_, Heap.get?_push_size _ rfl, rfl, rfl⟩, fun b hb => ?_, q⟩
    have e : b = s1.heap.objs.size := by simpa using hb
    subst e
    exact I1.fpOk (Nat.le_refl _) (I1.hok.fresh (Nat.le_refl _))
  · subst e
    cases r1
    obtain ⟨its, rv, p, hz⟩ := I1.tuple hq
    refine wpAny_pyIter_tuple (show s1.heap.IsTuple a its.toArray from p) ?_
    refine ⟨s1.heap.objs.size, [s1.heap.objs.size], _, _, H1, rfl, I1.kept (t' := s1.toks) fun b o e => Heap.get?_push_of_some _ e, turn_tuple a _, ⟨_, Heap.get?_push_size _ rfl, rfl, rfl⟩, fun b hb => ?_, q⟩
    have e : b = s1.heap.objs.size := by simpa using hb
    subst e
    exact I1.fpOk (Nat.le_refl _) (I1.hok.fresh (Nat.le_refl _))
  · subst e
    obtain ⟨t, rfl⟩ := r1
    cases ha : z.cps.all (· < 128)
    · exact wpAny_pyIter_wide ha (pi_one (tk := s1.toks) I1 _ (turn_str _ z t "str_iterator" (.inr rfl)) ⟨_, Heap.get?_push_size _ rfl, rfl, rfl⟩ q)
    · exact wpAny_pyIter_ascii ha (pi_one (tk := s1.toks) I1 _ (turn_str _ z t "str_ascii_iterator" (.inl rfl)) ⟨_, Heap.get?_push_size _ rfl, rfl, rfl⟩ q)
theorem still_ref {S : Sto} {i : Nat} {xs : List D} (h : still (.ref i) xs S = true) : S.l i = some xs := by
  unfold still at h
  unfold Sto.l
  dsimp only at h
  cases e : S[i]? with
  | none => rw [e] at h; cases h
  | some o =>
    rw [e] at h
    cases o with
    | lst ys => exact congrArg some (D.of_beqs h)
    | _ => cases h
/-- a list, a tuple, a text is walked -/
theorem i_val (hZ : X.K = Z.K) (ha : PE X l (rdE Z P Φ W ca)) : PI X tg l (rdI Z P Φ W (.wkp ca)) := by
  refine PI.imp (pi_dyn ha) ?_
  rintro τ H R' ⟨μ, σ, S, R, L, h⟩
  simp only [ev] at h
  refine stepE R L h _ (fun _ _ _ _ _ _ _ z => z) fun d S1 μ1 H1 v e1 R1 L1 hv h1 => ?_
  obtain ⟨raws, xs', hw, q'⟩ := h1 μ1 H1 Ext.refl R1
  obtain ⟨xs, hi, q⟩ : ∃ xs, items S1 d = some xs ∧ ∀ J, (∀ μ' S' H', Mo μ1 H1 μ' H' → RS Z μ' S' H' → still d xs S' = true →
    (∀ (i : Nat) (x : D), xs[i]? = some x → J.go i H' ∧ ∀ v H'', J.yld i H' v H'' → Ext μ' H' μ' H'' ∧ RS Z μ' S' H'' ∧ DV Z H'' μ' x v) ∧ (∀ i, xs.length ≤ i → J.stop i H')) → R' J H1 := by
    simp only [walk] at hw
    cases e : items S1 d with
    | none => rw [e] at hw; cases hw
    | some xs => rw [e] at hw; cases hw; exact ⟨_, rfl, q'⟩
  cases d with
  | tup ys =>
    cases hi
    have hv0 := hv
    simp only [DV] at hv
    obtain ⟨a, vs, rfl, h1, h2⟩ := hv
    rw [← hZ] at h1
    refine .inr (.inl ⟨a, rfl, ⟨vs, h1⟩, q _ fun μ' S' H' e R' _ => ⟨fun i x hx => ?_, fun i hi => ⟨vs, e.sqT h1, by rw [← h2.length]; exact hi⟩⟩⟩)
    obtain ⟨w, h3, h4⟩ := h2.get hx
    refine ⟨⟨vs, w, e.sqT h1, h3⟩, ?_⟩
    rintro v H'' ⟨rfl, y⟩
    have := y vs (e.sqT h1)
    rw [h3] at this
    cases this
    exact ⟨Ext.refl, R', h4.mo e⟩
  | scr ys =>
    cases hi
    simp only [DV] at hv
    obtain ⟨a, vs, rfl, h1, h2⟩ := hv
    have sq : ∀ {μ' H'}, Mo μ1 H1 μ' H' → SqL X.K H' a vs := fun e => by rw [hZ]; exact (e.scr h1).sqL
    refine .inl ⟨a, rfl, ⟨vs, sq (Ext.refl (μ := μ1)).mo⟩, q _ fun μ' S' H' e R' _ => ⟨fun i x hx => ?_, fun i hi => ⟨vs, sq e, by rw [← h2.length]; exact hi⟩⟩⟩
    obtain ⟨w, h3, h4⟩ := h2.get hx
    refine ⟨⟨vs, w, sq e, h3⟩, ?_⟩
    rintro v H'' ⟨rfl, y⟩
    have := y vs (sq e)
    rw [h3] at this
    cases this
    exact ⟨Ext.refl, R', h4.mo e⟩
  | rol ys =>
    cases hi
    have hv0 := hv
    obtain ⟨a, vs, rfl, h1, h2, _⟩ := R1.lv (show S1.lv (.rol xs) = some xs from rfl) hv
    have sq : ∀ {μ' S' H'}, Mo μ1 H1 μ' H' → RS Z μ' S' H' → ∃ vs, SqL X.K H' a vs ∧ DVs Z H' μ' xs vs := fun e R' => by
      obtain ⟨a', ws, e3, h3, h4, _⟩ := R'.lv (show Sto.lv _ (.rol xs) = some xs from rfl) (hv0.mo e)
      cases e3
      exact ⟨ws, SqL.of h3, h4⟩
    refine .inl ⟨a, rfl, ⟨vs, SqL.of h1⟩, q _ fun μ' S' H' e R' _ => ?_⟩
    obtain ⟨ws, h3, h4⟩ := sq e R'
    refine ⟨fun i x hx => ?_, fun i hi => ⟨ws, h3, by rw [← h4.length]; exact hi⟩⟩
    obtain ⟨w, h5, h6⟩ := h4.get hx
    refine ⟨⟨ws, w, h3, h5⟩, ?_⟩
    rintro v H'' ⟨rfl, y⟩
    have := y ws h3
    rw [h5] at this
    cases this
    exact ⟨Ext.refl, R', h6⟩
  | ref j =>
    simp only [items, Sto.lv] at hi
    simp only [DV] at hv
    obtain ⟨a, ha, rfl⟩ := hv
    obtain ⟨a', vs, ha', h1, h2, _⟩ := R1.list hi
    rw [ha] at ha'; cases ha'
    refine .inl ⟨a, rfl, ⟨vs, SqL.of h1⟩, q _ fun μ' S' H' e R' hs => ?_⟩
    obtain ⟨a2, ws, ha2, h3', h4, _⟩ := R'.list (still_ref hs)
    rw [e.at ha] at ha2; cases ha2
    have h3 : SqL X.K H' a ws := SqL.of h3'
    refine ⟨fun i x hx => ?_, fun i hi => ⟨ws, h3, by rw [← h4.length]; exact hi⟩⟩
    obtain ⟨w, h5, h6⟩ := h4.get hx
    refine ⟨⟨ws, w, h3, h5⟩, ?_⟩
    rintro v H'' ⟨rfl, y⟩
    have := y ws h3
    rw [h5] at this
    cases this
    exact ⟨Ext.refl, R', h6⟩
  | str z =>
    cases hi
    simp only [DV] at hv
    obtain ⟨h1, h2, rfl⟩ := hv
    refine .inr (.inr ⟨_, rfl, q _ fun μ' S' H' e R' _ => ⟨fun i x hx => ?_, fun i hi => ?_⟩⟩)
    · rw [List.getElem?_map] at hx
      cases hz : z[i]? with
      | none => rw [hz] at hx; cases hx
      | some c =>
        rw [hz] at hx
        cases hx
        have hil : i < z.length := (List.getElem?_eq_some_iff.mp hz).1
        refine ⟨by show i < z.toArray.size; simpa using hil, ?_⟩
        rintro v H'' ⟨rfl, c', hc', rfl⟩
        have : c' = c := by
          have h3 : z.toArray[i]? = some c' := hc'
          rw [List.getElem?_toArray, hz] at h3
          exact (Option.some.inj h3).symm
        subst this
        refine ⟨Ext.refl, R', ?_⟩
        simp only [DV]
        refine ⟨by rw [List.length_singleton]; decide, fun c2 h2' => ?_, trivial⟩
        rw [List.mem_singleton.mp h2']
        exact h2 _ (List.mem_of_getElem? hz)
    · rw [List.length_map] at hi
      show z.toArray.size ≤ i
      simpa using hi
  | _ => cases hi
theorem rangeD_get {lo hi : Int} {i : Nat} {x : D} (h : (rangeD lo hi)[i]? = some x) : x = .int (lo + i) ∧ i < (hi - lo).toNat := by
  unfold rangeD at h
  rw [List.getElem?_map] at h
  by_cases hl : i < (hi - lo).toNat
  · rw [List.getElem?_range hl] at h
    cases h
    exact ⟨rfl, hl⟩
  · rw [List.getElem?_eq_none (by rw [List.length_range]; omega)] at h
    cases h
theorem inR_ok {i : Int} (h : inR i = true) : -(2 ^ 62) ≤ i ∧ i < 2 ^ 62 := by
  unfold inR at h
  simp only [Bool.and_eq_true, decide_eq_true_eq] at h
  omega
/-- range(n) -/
theorem i_rng1 (hg : Gl X "range") (hm : X.mg "range" = none) (ha : PE X a (rdE Z P Φ W ca)) (hs : starEach [a] X.env = [(false, eval a X.env)] := by rfl) : PI X tg (.Call (.Name "range" p) [a] [] pos) (rdI Z P Φ W (.rng1 ca)) := by
  refine PI.imp (pi_range1 hg hm (pa_cons ha pa_nil hs) hs) ?_
  rintro τ H R' ⟨μ, σ, S, R, L, h⟩
  simp only [ev] at h
  refine stepE R L h _ (fun _ _ _ _ _ _ _ z => z) fun d S1 μ1 H1 v e1 R1 L1 hv h1 => ?_
  cases d with
  | int j =>
    dsimp only at h1
    split at h1
    · rename_i hj
      simp only [DV] at hv
      subst hv
      obtain ⟨h3, h4⟩ := inR_ok hj
      obtain ⟨raws, xs, hi, q⟩ := h1 μ1 H1 Ext.refl R1
      cases hi
      refine ⟨j, rfl, h3, h4, q _ fun μ' S' H' e R' _ => ⟨fun i x hx => ?_, fun i hi => ?_⟩⟩
      · obtain ⟨rfl, hil⟩ := rangeD_get hx
        refine ⟨by show i < j.toNat; omega, ?_⟩
        rintro v H'' ⟨rfl, rfl⟩
        exact ⟨Ext.refl, R', by simp only [DV]⟩
      · unfold rangeD at hi
        rw [List.length_map, List.length_range] at hi
        show j.toNat ≤ i
        omega
    · exact h1.bad
  | _ => exact h1.bad
theorem i_rng2 (hg : Gl X "range") (hm : X.mg "range" = none) (ha : PE X a (rdE Z P Φ W ca)) (hb : PE X b (rdE Z P Φ W cb)) (hs : starEach [a, b] X.env = [(false, eval a X.env), (false, eval b X.env)] := by rfl) (hs2 : starEach [b] X.env = [(false, eval b X.env)] := by rfl)
    (hs1 : starEach [a, b] X.env = (false, eval a X.env) :: starEach [b] X.env := by rfl) :
    PI X tg (.Call (.Name "range" p) [a, b] [] pos) (rdI Z P Φ W (.rng2 ca cb)) := by
  refine PI.imp (pi_range2 hg hm (pa_cons ha (pa_cons hb pa_nil hs2) hs1) hs hs2) ?_
  rintro τ H R' ⟨μ, σ, S, R, L, h⟩
  simp only [ev] at h
  refine stepE R L h _ (fun _ _ _ _ _ _ _ z => z) fun d S1 μ1 H1 v e1 R1 L1 hv h1 => stepE R1 L1 h1 _ (fun _ _ _ _ _ _ _ z => z) fun d2 S2 μ2 H2 v2 e2 R2 L2 hv2 h2 => ?_
  cases d with
  | int i =>
    cases d2 with
    | int j =>
      dsimp only at h2
      split at h2
      · rename_i hj
        rw [Bool.and_eq_true] at hj
        simp only [DV] at hv hv2
        subst hv; subst hv2
        obtain ⟨h3, h4⟩ := inR_ok hj.1
        obtain ⟨h5, h6⟩ := inR_ok hj.2
        obtain ⟨raws, xs, hi, q⟩ := h2 μ2 H2 Ext.refl R2
        cases hi
        refine ⟨i, j, rfl, ⟨h3, h4, h5, h6⟩, q _ fun μ' S' H' e R' _ => ⟨fun i' x hx => ?_, fun i' hi => ?_⟩⟩
        · obtain ⟨rfl, hil⟩ := rangeD_get hx
          refine ⟨hil, ?_⟩
          rintro v H'' ⟨rfl, rfl⟩
          exact ⟨Ext.refl, R', by simp only [DV]⟩
        · unfold rangeD at hi
          rw [List.length_map, List.length_range] at hi
          exact hi
      · exact h2.bad
    | _ => exact h2.bad
  | _ => exact h2.bad
theorem drop_at' {α : Type} : ∀ (l : List α) (i : Nat), i < l.length → ∃ x, l[i]? = some x ∧ l.drop i = x :: l.drop (i + 1)
  | [], i, h => by simp at h
  | x :: r, 0, h => ⟨x, rfl, rfl⟩
  | x :: r, i + 1, h => by
    obtain ⟨y, h1, h2⟩ := drop_at' r i (by simpa using h)
    exact ⟨y, by simpa using h1, by simpa using h2⟩
theorem s_for {body : List Stmt} (hp : PassesOwn (model X.prog X.w) X.A X.env X.xe) (hc : X.calm = true) (hi : PI X tg iter (rdI Z P Φ W ci)) (hg : PG X tg (rdG Z P Φ cg)) (hb : PSs X body (rdS Z P Φ W cb))
    (hs : ∀ x, foldedSetIterable iter X.env x = pure x := by intro _; rfl) : PS X (.For tg iter body [] pos) (rdS Z P Φ W (.forr cg ci cb)) := by
  refine PS.imp (ps_for hp hc hi hg hb hs) ?_
  rintro D τ H ⟨μ, σ, S, R, L, h⟩
  simp only [ev] at h
  refine ⟨μ, σ, S, R, L, h.bv.mono ?_ (fun _ _ _ _ _ _ z => z) (fun _ _ _ _ _ _ z => z) (fun _ _ _ _ _ _ z => z) (fun _ _ _ _ _ _ z => z) (fun c fs σ1 S1 μ1 H1 e R1 z => kS_x (D := D) c fs S1 μ1 H1 L e R1 z)⟩
  rintro ds S1 μ1 H1 e1 R1 w
  dsimp only at w
  cases hxs : walk S1 ds with
  | none => rw [hxs] at w; exact w.bad
  | some rx =>
    obtain ⟨raws, xs⟩ := rx
    rw [hxs] at w
    refine ⟨raws, xs, hxs, fun J hJ => ?_⟩
    refine ⟨fun i m τ' H' => m = xs.length - i ∧ i ≤ xs.length ∧ ∃ μ2 σ2 S2, Ext μ1 H1 μ2 H' ∧ RS Z μ2 S2 H' ∧ SV Z H' μ2 σ2 τ' ∧ Want Z μ2 H' (kS Z W D) (loopR (stillW ds raws) (fun x σ S => bg (ev P Φ cg [x] σ S) fun σ S => ev P Φ cb [] σ S) (xs.drop i) σ2 S2),
      ⟨_, rfl, Nat.zero_le _, μ1, σ, S1, Ext.refl, R1, L.mono e1, by rw [List.drop_zero]; exact w⟩, ?_⟩
    rintro i m τ' H' ⟨rfl, hi, μ2, σ2, S2, e2, R2, L2, w2⟩
    by_cases hlt : i < xs.length
    · obtain ⟨x, hx, hd⟩ := drop_at' xs i hlt
      rw [hd, loopR] at w2
      split at w2
      · rename_i hst
        obtain ⟨hgo, hstop⟩ := hJ μ2 S2 H' e2.mo R2 hst
        obtain ⟨go, hy⟩ := hgo i x hx
        refine .inr ⟨go, fun τ3 H3 => ∃ μ3 σ3 S3, Ext μ1 H1 μ3 H3 ∧ RS Z μ3 S3 H3 ∧ SV Z H3 μ3 σ3 τ3 ∧ Want Z μ3 H3 (kS Z W D) (loopR (stillW ds raws) (fun x σ S => bg (ev P Φ cg [x] σ S) fun σ S => ev P Φ cb [] σ S) (xs.drop (i + 1)) σ3 S3), ?_, ?_⟩
        · rintro τ3 H3 ⟨μ3, σ3, S3, e3, R3, L3, w3⟩
          exact ⟨xs.length - (i + 1), by omega, rfl, hlt, μ3, σ3, S3, e3, R3, L3, w3⟩
        · intro v H'' hyld
          obtain ⟨e4, R4, hv⟩ := hy v H'' hyld
          have w4 := (w2.turn.bg).ext e4
          refine ⟨μ2, σ2, S2, x, R4, L2.mono e4, hv, w4.mono (fun _ _ _ _ _ _ z => z) ?_ (fun _ _ _ _ _ _ z => z) (fun _ _ _ _ _ _ z => z) (fun _ _ _ _ _ _ z => z) (fun _ _ _ _ _ _ _ _ z => z)⟩
          intro σ5 S5 μ5 H5 e5 R5 w5 τ5 L5
          refine ⟨μ5, σ5, S5, R5, L5, w5.mono (fun _ _ _ _ _ _ z => z) ?_ (fun _ _ _ _ _ _ z => z) (fun _ _ _ _ _ _ z => z) ?_ (fun _ _ _ _ _ _ _ _ z => z)⟩
          · intro σ6 S6 μ6 H6 e6 R6 w6 τ6 L6
            exact ⟨μ6, σ6, S6, ((e2.trans e4).trans e5).trans e6, R6, L6, w6⟩
          · intro σ6 S6 μ6 H6 e6 R6 w6 τ6 L6
            exact ⟨μ6, σ6, S6, ((e2.trans e4).trans e5).trans e6, R6, L6, w6⟩
      · exact w2.bad
    · have hi' : i = xs.length := by omega
      subst hi'
      rw [List.drop_length, loopR] at w2
      split at w2
      · rename_i hst
        obtain ⟨_, hstop⟩ := hJ μ2 S2 H' e2.mo R2 hst
        exact .inl ⟨hstop _ (Nat.le_refl _), w2 μ2 H' Ext.refl R2 τ' L2⟩
      · exact w2.bad
theorem s_whl {body : List Stmt} {t : Expr} {ct : C} (hp : PassesOwn (model X.prog X.w) X.A X.env X.xe) (ht : PT X t (rdT Z P Φ W ct)) (hb : PSs X body (rdS Z P Φ W cb)) : PS X (.While t body [] pos) (rdS Z P Φ W (.whl ct cb)) := by
  refine PS.imp (ps_while hp ht hb) ?_
  rintro D τ H ⟨μ, σ, S, R, L, h⟩
  simp only [ev] at h
  refine ⟨fun m τ' H' => ∃ μ2 σ2 S2, RS Z μ2 S2 H' ∧ SV Z H' μ2 σ2 τ' ∧ Want Z μ2 H' (kS Z W D) (whileR (fun σ S => ev P Φ ct [] σ S) (fun σ S => ev P Φ cb [] σ S) m σ2 S2), ⟨P.wf, μ, σ, S, R, L, h⟩, ?_⟩
  rintro m τ' H' ⟨μ2, σ2, S2, R2, L2, w2⟩
  cases m with
  | zero => exact w2.bad
  | succ m =>
    rw [whileR] at w2
    refine stepT R2 L2 w2 _ (fun c fs S1 μ1 H1 e R1 z => kS_x c fs S1 μ1 H1 L2 e R1 z) ?_ ?_
    · intro d S1 μ1 H1 h1
      split at h1
      · rename_i hb; exact ⟨_, hb⟩
      · rename_i hb; exact ⟨_, hb⟩
      · exact h1.bad
    · intro d S1 μ1 H1 b e1 R1 L1 hb' h1
      cases b with
      | true =>
        rw [hb'] at h1
        refine iteT ⟨fun τ3 H3 => ∃ μ3 σ3 S3, RS Z μ3 S3 H3 ∧ SV Z H3 μ3 σ3 τ3 ∧ Want Z μ3 H3 (kS Z W D) (whileR (fun σ S => ev P Φ ct [] σ S) (fun σ S => ev P Φ cb [] σ S) m σ3 S3), fun τ3 H3 z => ⟨m, Nat.lt_succ_self _, z⟩, ?_⟩
        refine ⟨μ1, σ2, S1, R1, L1, h1.turn.mono (fun _ _ _ _ _ _ z => z) ?_ (fun _ _ _ _ _ _ z => z) (fun _ _ _ _ _ _ z => z) ?_ (fun _ _ _ _ _ _ _ _ z => z)⟩
        · intro σ6 S6 μ6 H6 e6 R6 w6 τ6 L6
          exact ⟨μ6, σ6, S6, R6, L6, w6⟩
        · intro σ6 S6 μ6 H6 e6 R6 w6 τ6 L6
          exact ⟨μ6, σ6, S6, R6, L6, w6⟩
      | false =>
        rw [hb'] at h1
        exact iteF (h1 μ1 H1 Ext.refl R1 τ' L1)
end
end Vm
namespace Vm
open PySem L2
section
variable {X : Cx} {Z : Zz} {P : Pg} {Φ : Nat → List D → Sto → Res} {W : WX}
variable {H H' : Hp} {μ μ' : Mu} {S S' : Sto} {σ : Sl} {τ : St} {Q : VK} {k : Kt}
variable {a b e l o tg iter elt : Expr} {es ifs : List Expr} {ca cb cc ce co ci cg ct : C} {pos p apos cpos : Pos}
theorem wipe_get (τ : St) (i : Nat) : ∀ own : List Nat, (wipe τ own)[i]? = if i ∈ own then (if i < τ.length then some none else none) else τ[i]?
  | [] => by simp [wipe]
  | v :: vs => by
    unfold wipe
    by_cases hi : v = i
    · subst hi
      rw [if_pos List.mem_cons_self]
      by_cases hl : v < τ.length
      · rw [if_pos hl, List.getElem?_set_self (by rw [wipe_length]; exact hl)]
      · rw [if_neg hl, List.getElem?_eq_none (by rw [List.length_set, wipe_length]; omega)]
    · rw [List.getElem?_set_ne hi, wipe_get τ i vs]
      by_cases hm : i ∈ vs
      · rw [if_pos hm, if_pos (List.mem_cons_of_mem _ hm)]
      · rw [if_neg hm, if_neg (fun z => (List.mem_cons.mp z).elim (fun q => hi q.symm) hm)]
theorem wipeD_length (σ : Sl) : ∀ own : List Nat, (wipeD σ own).length = σ.length
  | [] => rfl
  | v :: vs => by unfold wipeD; rw [List.length_set, wipeD_length σ vs]
theorem wipeD_get (σ : Sl) (i : Nat) : ∀ own : List Nat, (wipeD σ own)[i]? = if i ∈ own then (if i < σ.length then some none else none) else σ[i]?
  | [] => by simp [wipeD]
  | v :: vs => by
    unfold wipeD
    by_cases hi : v = i
    · subst hi
      rw [if_pos List.mem_cons_self]
      by_cases hl : v < σ.length
      · rw [if_pos hl, List.getElem?_set_self (by rw [wipeD_length]; exact hl)]
      · rw [if_neg hl, List.getElem?_eq_none (by rw [List.length_set, wipeD_length]; omega)]
    · rw [List.getElem?_set_ne hi, wipeD_get σ i vs]
      by_cases hm : i ∈ vs
      · rw [if_pos hm, if_pos (List.mem_cons_of_mem _ hm)]
      · rw [if_neg hm, if_neg (fun z => (List.mem_cons.mp z).elim (fun q => hi q.symm) hm)]
theorem SV.wipe (L : SV Z H μ σ τ) (hp : Z.pn = []) (own : List Nat) : SV Z H μ (wipeD σ own) (L2.wipe τ own) := by
  refine ⟨by rw [wipeD_length, wipe_length]; exact L.len, fun i d h => ?_, fun p h => by rw [hp] at h; cases h⟩
  rw [wipeD_get] at h
  rw [wipe_get]
  by_cases hm : i ∈ own
  · rw [if_pos hm] at h
    split at h <;> cases h
  · rw [if_neg hm] at h ⊢
    exact L.at_ i d h
theorem wipe_set (τ : St) {i : Nat} (v : Option V) {own : List Nat} (h : i ∈ own) : L2.wipe (τ.set i v) own = L2.wipe τ own := by
  apply List.ext_getElem?
  intro j
  rw [wipe_get, wipe_get, List.length_set]
  by_cases hm : j ∈ own
  · rw [if_pos hm, if_pos hm]
  · rw [if_neg hm, if_neg hm, List.getElem?_set_ne (fun z : i = j => hm (z ▸ h))]
/-- a target of the comprehension's own names -/
def TgOk (Z : Zz) (P : Pg) (Φ : Nat → List D → Sto → Res) (c : C) (t : TG) (own : List Nat) : Prop :=
  ∀ (H : Hp) (μ : Mu) (S : Sto) (σ : Sl) (τ : St) (d : D) (v : V), RS Z μ S H → SV Z H μ σ τ → DV Z H μ d v → ∀ σ2 S2, ev P Φ c [d] σ S = .nx σ2 S2 →
    S2 = S ∧ ∀ Q : St → Hp → Prop, (∀ τ2, SV Z H μ σ2 τ2 → L2.wipe τ2 own = L2.wipe τ own → Q τ2 H) → t v τ H Q
theorem tgOk_name {i : Nat} {own : List Nat} (hi : i ∈ own) : TgOk Z P Φ (.gn i) (gName i) own := by
  intro H μ S σ τ d v R L hv σ2 S2 h
  simp only [ev] at h
  split at h
  · cases h
    exact ⟨rfl, fun Q q => q _ (L.set hv) (wipe_set τ _ hi)⟩
  · cases h
/-- no error is let out -/
abbrev W0 : WX := fun _ _ _ _ => False
theorem loopC_len {chk : Sto → Bool} {f : D → Sto → Res} : ∀ {xs acc ys : List D} {S S' : Sto}, loopC chk f acc xs S = .val ys S' → acc.length ≤ ys.length
  | [], acc, ys, S, S', h => by
    rw [loopC] at h
    split at h
    · cases h; exact Nat.le_refl _
    · cases h
  | x :: xs, acc, ys, S, S', h => by
    rw [loopC] at h
    split at h
    · split at h
      · have := loopC_len h
        rw [List.length_append] at this
        omega
      · cases h
    · cases h
theorem lc_core' {g : TG} {own : List Nat} {tt : TT} {te : TE} (hp : Z.pn = []) (hg : TgOk Z P Φ cg g own) (ht : ∀ τ H Q, rdT Z P Φ W0 ct τ H Q → tt τ H Q) (he : ∀ τ H Q, rdE Z P Φ W0 ce τ H Q → te τ H Q) {τ : St} {H : Hp} {Q : VK}
    (h : rdE Z P Φ W (.lc own cg ci ct ce) τ H Q) : tLc (rdI Z P Φ W ci) g tt te own τ H Q := by
  obtain ⟨μ, σ, S, R, L, h⟩ := h
  rw [ev] at h
  refine ⟨μ, σ, S, R, L, h.bv.mono ?_ (fun _ _ _ _ _ _ z => z) (fun _ _ _ _ _ _ z => z) (fun _ _ _ _ _ _ z => z) (fun _ _ _ _ _ _ z => z) (fun _ _ _ _ _ _ _ _ z => z)⟩
  rintro ds S1 μ1 H1 e1 R1 w
  dsimp only at w
  cases hxs : walk S1 ds with
  | none => rw [hxs] at w; exact w.bad
  | some rx =>
    obtain ⟨raws, xs⟩ := rx
    rw [hxs] at w
    refine ⟨raws, xs, hxs, fun J hJ L0 hL0 => ?_⟩
    dsimp only at w
    cases hr : loopC (stillW ds raws) (fun x S => turnC (ev P Φ cg [x] (wipeD σ own) S) (fun σ S => ev P Φ ct [] σ S) fun σ S => ev P Φ ce [] σ S) [] xs S1 with
    | val ys S3 =>
      rw [hr] at w
      have w' : Want Z μ1 H1 (kE Z W τ Q) (if ys.length ≤ SL then .val [.ref S3.length] (S3 ++ [.lst ys]) else .bad) := w
      by_cases hz : ys.length ≤ SL
      · rw [if_pos hz] at w'
        obtain ⟨ea, Ra⟩ := R1.aside (o := .lst []) hL0
        refine ⟨fun i m H' => m = xs.length - i ∧ i ≤ xs.length ∧ ∃ μ2 S2 acc vs, Ext μ1 H1 μ2 H' ∧ RS Z μ2 S2 H' ∧ SV Z H' μ2 σ τ ∧ H' L0 = some (.lst vs) ∧ L0 ∉ μ2.l ∧ ¬ μ2.z L0 ∧ DVs Z H' μ2 acc vs ∧ loopC (stillW ds raws) (fun x S => turnC (ev P Φ cg [x] (wipeD σ own) S) (fun σ S => ev P Φ ct [] σ S) fun σ S => ev P Φ ce [] σ S) acc (xs.drop i) S2 = .val ys S3,
          ⟨_, rfl, Nat.zero_le _, μ1, S1, [], [], ea, Ra, (L.mono e1).mono ea, upd_same, R1.fresh hL0, R1.zfresh hL0, by simp only [DVs], by rw [List.drop_zero]; exact hr⟩, ?_⟩
        rintro i m H' ⟨rfl, hi, μ2, S2, acc, vs, e2, R2, L2', hq, hm, hmz, hacc, hl⟩
        by_cases hlt : i < xs.length
        · obtain ⟨x, hx, hd⟩ := drop_at' xs i hlt
          rw [hd, loopC] at hl
          split at hl
          · rename_i hst
            obtain ⟨hgo, hstop⟩ := hJ μ2 S2 H' e2.mo R2 hst
            obtain ⟨go, hy⟩ := hgo i x hx
            split at hl
            · rename_i zs S4 hf
              refine .inr ⟨go, fun H5 => ∃ μ5 S5 acc5 vs5, Ext μ1 H1 μ5 H5 ∧ RS Z μ5 S5 H5 ∧ SV Z H5 μ5 σ τ ∧ H5 L0 = some (.lst vs5) ∧ L0 ∉ μ5.l ∧ ¬ μ5.z L0 ∧ DVs Z H5 μ5 acc5 vs5 ∧ loopC (stillW ds raws) (fun x S => turnC (ev P Φ cg [x] (wipeD σ own) S) (fun σ S => ev P Φ ct [] σ S) fun σ S => ev P Φ ce [] σ S) acc5 (xs.drop (i + 1)) S5 = .val ys S3, ?_, ?_⟩
              · rintro H5 ⟨μ5, S5, acc5, vs5, z⟩
                exact ⟨xs.length - (i + 1), by omega, rfl, hlt, μ5, S5, acc5, vs5, z⟩
              · intro v H'' hyld
                obtain ⟨e4, R4, hv⟩ := hy v H'' hyld
                -- what the turn does
                unfold turnC at hf
                cases hg1 : ev P Φ cg [x] (wipeD σ own) S2 with
                | nx σ2 S2' =>
                  rw [hg1] at hf
                  obtain ⟨rfl, tg1⟩ := hg H'' μ2 S2 (wipeD σ own) (L2.wipe τ own) x v R4 ((L2'.mono e4).wipe hp own) hv σ2 S2' hg1
                  refine tg1 _ fun τ2 L6 hw => ⟨by
                    rw [hw]
                    apply List.ext_getElem?
                    intro j
                    rw [wipe_get, wipe_get, wipe_length]
                    by_cases hj : j ∈ own
                    · rw [if_pos hj, if_pos hj]
                    · rw [if_neg hj, if_neg hj], ht _ _ _ ?_⟩
                  simp only [bg] at hf
                  refine ⟨μ2, σ2, S2', R4, L6, ?_⟩
                  -- the test
                  cases ht1 : ev P Φ ct [] σ2 S2' with
                  | val ts S6 =>
                    rw [ht1] at hf
                    match ts, hf with
                    | [], hf => cases hf
                    | _ :: _ :: _, hf => cases hf
                    | [y], hf =>
                      simp only [b1] at hf
                      intro μ6 H6 e6 R6
                      cases hty : tru S6 y with
                      | none => rw [hty] at hf; cases hf
                      | some bb =>
                        refine ⟨y, bb, rfl, hty, ?_⟩
                        obtain ⟨m6, q6⟩ := (e4.trans e6).out hq hm
                        have z6 := (e4.trans e6).outz hq hmz
                        rw [hty] at hf
                        cases bb with
                        | false =>
                          cases hf
                          refine iteF ⟨μ6, S4, acc, vs, (e2.trans e4).trans e6, R6, (L2'.mono e4).mono e6, q6, m6, z6, hacc.mono (e4.trans e6), ?_⟩
                          rw [List.append_nil] at hl
                          exact hl
                        | true =>
                          dsimp only at hf
                          refine iteT (he _ _ _ ⟨μ6, σ2, S6, R6, L6.mono e6, ?_⟩)
                          cases he1 : ev P Φ ce [] σ2 S6 with
                          | val us S7 =>
                            rw [he1] at hf
                            match us, hf with
                            | [], hf => cases hf
                            | _ :: _ :: _, hf => cases hf
                            | [u], hf =>
                              cases hf
                              intro μ7 H7 e7 R7
                              refine ⟨u, rfl, fun w7 hw7 => ?_⟩
                              obtain ⟨m7, q7⟩ := e7.out q6 m6
                              have z7 := e7.outz q6 z6
                              have hlen := loopC_len hl
                              rw [List.length_append, List.length_singleton] at hlen
                              obtain ⟨mo, R8⟩ := R7.over (o := .lst (vs ++ [w7])) q7 (fun _ z => by cases z) (fun _ _ z => by cases z) (fun _ z => by cases z) m7 z7
                              refine ⟨vs, q7, ?_, μ7, S4, acc ++ [u], vs ++ [w7], (((e2.trans e4).trans e6).trans e7).over hL0, R8, ⟨L2'.len, fun j dd hj => ?_, L2'.pin⟩, upd_same, m7, z7, ?_, hl⟩
                              · rw [sizeLine_eq, ← hacc.length]
                                have : ys.length ≤ 16777216 := hz
                                omega
                              · obtain ⟨vv, g1, g2⟩ := (((L2'.mono e4).mono e6).mono e7).at_ j dd hj
                                exact ⟨vv, g1, g2.mo mo⟩
                              · exact ((hacc.mono (e4.trans e6)).mono e7 |>.append (DVs.one hw7)).mo mo
                          | _ => rw [he1] at hf; cases hf
                  | _ => rw [ht1] at hf; cases hf
                | _ => rw [hg1] at hf; cases hf
            · cases hl
          · cases hl
        · have hi' : i = xs.length := by omega
          subst hi'
          rw [List.drop_length, loopC] at hl
          split at hl
          · rename_i hst
            cases hl
            obtain ⟨_, hstop⟩ := hJ μ2 S3 H' e2.mo R2 hst
            obtain ⟨e9, R9⟩ := R2.adopt e2 hq hL0 hm hmz hz hacc
            refine .inl ⟨hstop _ (Nat.le_refl _), Want.dE' w' e9 R9 ?_⟩
            simp only [DV]
            exact ⟨L0, by rw [add_l, ← R2.len, List.getElem?_append_right (Nat.le_refl _)]; simp, rfl⟩
          · cases hl
      · rw [if_neg hz] at w'
        exact w'.bad
    | _ =>
      rw [hr] at w
      exact w.bad
end
end Vm
namespace Vm
open PySem L2
section
variable {X : Cx} {Z : Zz} {P : Pg} {Φ : Nat → List D → Sto → Res} {W : WX}
variable {H H' : Hp} {μ μ' : Mu} {S S' : Sto} {σ : Sl} {τ : St} {Q : VK} {k : Kt}
variable {a b e l o tg iter elt : Expr} {es ifs : List Expr} {ca cb cc ce co ci cg ct : C} {pos p apos cpos : Pos}
theorem v_lc {scope : Scope} {own : List (Str × Nat)} {g : TG} (hc : X.calm = true) (hp : Z.pn = []) (hN : X.N.Nodup) (hi : PI X tg iter (rdI Z P Φ W ci)) (ok : BlkOk X.N X.env.scope scope own)
    (hgo : TgOk Z P Φ cg g (own.map (·.2))) (hg : ∀ (s : Shared) (H : Hp) (C : Addr) (cl : List (Str × Addr)) (fp : List Addr), PG (X.blk s H scope (compEnvC scope cl C X.env) fp) tg g)
    (ht : ∀ (s : Shared) (H : Hp) (C : Addr) (cl : List (Str × Addr)) (fp : List Addr), PTs (X.blk s H scope (compEnvC scope cl C X.env) fp) ifs (rdT Z P Φ W0 ct))
    (he : ∀ (s : Shared) (H : Hp) (C : Addr) (cl : List (Str × Addr)) (fp : List Addr), PE (X.blk s H scope (compEnvC scope cl C X.env) fp) elt (rdE Z P Φ W0 ce)) (hs : ∀ x, foldedSetIterable iter X.env x = pure x := by intro _; rfl) :
    PE X (.ListComp elt [⟨tg, iter, ifs, 0⟩] scope pos) (rdE Z P Φ W (.lc (own.map (·.2)) cg ci ct ce)) :=
  PE.imp (pe_lc hc hN hi ok hg ht he hs) fun _ _ _ h => lc_core' hp hgo (fun _ _ _ z => z) (fun _ _ _ z => z) h
/-- no test -/
theorem ts_nil : PTs X [] (rdT Z P Φ W (.kon (.bl true))) := ⟨fun pins s σ H Q I h => pts_nil.run pins s σ H Q I (by
  obtain ⟨μ, σ', S, R, L, h⟩ := h
  simp only [ev] at h
  obtain ⟨d, b, e1, e2, q⟩ := h μ H Ext.refl R
  cases e1
  cases e2
  exact q)⟩
theorem ts_one (h : PT X a (rdT Z P Φ W ca)) : PTs X [a] (rdT Z P Φ W ca) := pts_one h
def rCB (Z : Zz) (b : Bi) : List V → Hp → VK → Prop := fun vs H Q => ∃ μ S ds, RS Z μ S H ∧ DVs Z H μ ds vs ∧ Want Z μ H (kQ Z Q) (callB b ds S)
theorem callB_noexc (b : Bi) (ds : List D) (S : Sto) : ∀ c fs σ S1, callB b ds S ≠ .exc c fs σ S1 := by
  intro c fs σ S1 z
  unfold callB callB1 callB2 at z
  repeat' (split at z)
  all_goals cases z
theorem rd_blt {b : Bi} {τ : St} {H : Hp} {Q : VK} (h : rdE Z P Φ W (.blt b ca) τ H Q) : tCB (rCB Z b) (rdA Z P Φ W ca) τ H Q := by
  obtain ⟨μ, σ, S, R, L, h⟩ := h
  simp only [ev] at h
  exact stepA R L h _ (fun _ _ _ _ _ _ _ z => z) fun ds S1 μ1 H1 vs e1 R1 L1 hvs h1 => ⟨μ1, S1, ds, R1, hvs, h1.toQ (callB_noexc _ _ _)⟩
theorem v_blt {x : Str} {id : String} {bi : Bi} (hc : CallR X (.builtin id) (rCB Z bi)) (hg : Gl X x) (hm : X.mg x = none) (hv : bootBuiltins x = some (.builtin id)) (ha : PA X (e :: es) (rdA Z P Φ W ca)) (hn : x ≠ "__name__" := by decide) (hdb : (x == ("__debug__" : Str)) = false := by decide)
    (he : starEach (e :: es) X.env = (false, eval e X.env) :: starEach es X.env := by rfl) (hpl : (backTo pos (starEach es X.env)).any (·.1) = false := by rfl) : PE X (.Call (.Name x p) (e :: es) [] pos) (rdE Z P Φ W (.blt bi ca)) :=
  PE.imp (pe_callB hc hg hm hv ha hn hdb he hpl) fun _ _ _ h => rd_blt h
theorem v_blty {x : Str} {T : String} {bi : Bi} (hc : CallR X (.type T) (rCB Z bi)) (hg : Gl X x) (hm : X.mg x = none) (hv : bootBuiltins x = some (.type T)) (ha : PA X (e :: es) (rdA Z P Φ W ca)) (hn : x ≠ "__name__" := by decide) (hdb : (x == ("__debug__" : Str)) = false := by decide)
    (he : starEach (e :: es) X.env = (false, eval e X.env) :: starEach es X.env := by rfl) (hpl : (backTo pos (starEach es X.env)).any (·.1) = false := by rfl) : PE X (.Call (.Name x p) (e :: es) [] pos) (rdE Z P Φ W (.blt bi ca)) :=
  PE.imp (pe_callTy hc hg hm hv ha hn hdb he hpl) fun _ _ _ h => rd_blt h
theorem strlen (s : List Nat) : (⟨s.toArray⟩ : Str).length = s.length := by simp [Str.length]
theorem cb_len (hZ : X.K = Z.K) : CallR X (.builtin "len") (rCB Z .len) := by
  intro pins s σ H xs us Q I r h
  obtain ⟨μ, S, ds, R, hv0, h0⟩ := h
  match ds, hv0, h0 with
  | [], _, h => exact h.bad
  | [d], hvs, h =>
    obtain ⟨v, rfl, hv⟩ := hvs.of_one
    clear hvs
    have fin : ∀ {n : Nat}, callB .len [d] S = .val [.int n] S → LenV X.K v H n → wpAny (model X.prog X.w) X.A (call (.builtin "len") us) (EP X pins σ Q) X.xe s := fun {n} e hl => by
      rw [e] at h
      exact call_len pins s σ H _ us Q I r ⟨v, n, rfl, hl, h.dn R (by simp only [DV])⟩
    have lst : (∀ S : Sto, callB .len [d] S = match S.lv d with | some xs => .val [.int xs.length] S | none => .bad) → Want Z μ H (kQ Z Q) (match S.lv d with
      | some xs => .val [.int xs.length] S
      | none => .bad) → wpAny (model X.prog X.w) X.A (call (.builtin "len") us) (EP X pins σ Q) X.xe s := fun e h => by
      cases e1 : S.lv d with
      | none => rw [e1] at h; exact h.bad
      | some xs =>
        obtain ⟨a, vs, rfl, h1, h2, _⟩ := R.lv e1 hv
        exact fin (by rw [e, e1]) (.inl ⟨vs, SqL.of h1, h2.length⟩)
    cases d with
    | str z =>
      simp only [DV] at hv
      obtain ⟨h1, h2, rfl⟩ := hv
      exact fin rfl ⟨by rw [sizeLine_eq, strlen]; exact h1, (strlen z).symm⟩
    | tup xs =>
      simp only [DV] at hv
      obtain ⟨a, vs, rfl, h1, h2⟩ := hv
      rw [← hZ] at h1
      exact fin rfl (.inr ⟨vs, h1, h2.length⟩)
    | scr xs =>
      simp only [DV] at hv
      obtain ⟨a, vs, rfl, h1, h2⟩ := hv
      have h1 := h1.sqL
      rw [← hZ] at h1
      exact fin rfl (.inl ⟨vs, h1, h2.length⟩)
    | ref i => exact lst (fun _ => rfl) (show Want _ _ _ _ (match S.lv (.ref i) with | some xs => .val [.int xs.length] S | none => .bad) from h)
    | rol i => exact lst (fun _ => rfl) (show Want _ _ _ _ (match S.lv (.rol i) with | some xs => .val [.int xs.length] S | none => .bad) from h)
    | _ => exact h.bad
  | [_, _], _, h => exact h.bad
  | _ :: _ :: _ :: _, _, h => exact h.bad
theorem cb_abs : CallR X (.builtin "abs") (rCB Z .abs) := by
  intro pins s σ H xs us Q I r h
  obtain ⟨μ, S, ds, R, hv0, h0⟩ := h
  match ds, hv0, h0 with
  | [], _, h => exact h.bad
  | [d], hvs, h =>
    obtain ⟨v, rfl, hv⟩ := hvs.of_one
    clear hvs
    cases d with
    | int i =>
      simp only [DV] at hv
      subst hv
      exact call_abs pins s σ H _ us Q I r ⟨i, rfl, h.dn R (by simp only [DV])⟩
    | _ => exact h.bad
  | [_, _], _, h => exact h.bad
  | _ :: _ :: _ :: _, _, h => exact h.bad
theorem cb_max (hc : X.calm = true) : CallR X (.builtin "max") (rCB Z .max) := by
  intro pins s σ H xs us Q I r h
  obtain ⟨μ, S, ds, R, hv0, h0⟩ := h
  match ds, hv0, h0 with
  | [], _, h => exact h.bad
  | [_], _, h => exact h.bad
  | [d, e], hvs, h =>
    obtain ⟨v, w, rfl, hv, hw⟩ := hvs.of_two
    clear hvs
    cases d with
    | int i =>
      cases e with
      | int j =>
        simp only [DV] at hv hw
        subst hv; subst hw
        exact call_max2 hc pins s σ H _ us Q I r ⟨i, j, rfl, h.dn R (by simp only [DV])⟩
      | _ => exact h.bad
    | _ => exact h.bad
  | _ :: _ :: _ :: _, _, h => exact h.bad
theorem cb_min (hc : X.calm = true) : CallR X (.builtin "min") (rCB Z .min) := by
  intro pins s σ H xs us Q I r h
  obtain ⟨μ, S, ds, R, hv0, h0⟩ := h
  match ds, hv0, h0 with
  | [], _, h => exact h.bad
  | [_], _, h => exact h.bad
  | [d, e], hvs, h =>
    obtain ⟨v, w, rfl, hv, hw⟩ := hvs.of_two
    clear hvs
    cases d with
    | int i =>
      cases e with
      | int j =>
        simp only [DV] at hv hw
        subst hv; subst hw
        exact call_min2 hc pins s σ H _ us Q I r ⟨i, j, rfl, h.dn R (by simp only [DV])⟩
      | _ => exact h.bad
    | _ => exact h.bad
  | _ :: _ :: _ :: _, _, h => exact h.bad
theorem cb_int : CallR X (.type "int") (rCB Z .int) := by
  intro pins s σ H xs us Q I r h
  obtain ⟨μ, S, ds, R, hv0, h0⟩ := h
  match ds, hv0, h0 with
  | [], _, h => exact h.bad
  | [d], hvs, h =>
    obtain ⟨v, rfl, hv⟩ := hvs.of_one
    clear hvs
    cases d with
    | int i =>
      simp only [DV] at hv
      subst hv
      exact call_int1 pins s σ H _ us Q I r (.inl ⟨i, rfl, h.dn R (by simp only [DV])⟩)
    | bl i =>
      simp only [DV] at hv
      subst hv
      exact call_int1 pins s σ H _ us Q I r (.inr ⟨i, rfl, h.dn R (by simp only [DV])⟩)
    | str z =>
      simp only [DV] at hv
      obtain ⟨_, _, rfl⟩ := hv
      simp only [callB, callB1] at h
      split at h
      · rename_i hz
        unfold numT at hz
        rw [Bool.and_eq_true, Bool.and_eq_true, decide_eq_true_eq, decide_eq_true_eq] at hz
        obtain ⟨z1, z2, z3⟩ := hz
        have e : PySem.intText? (⟨z.toArray⟩ : Str) = some ((numV z : Nat) : Int) := PySem.intText_digits (x := ⟨z.toArray⟩) (fun c hc => by
          have q := List.all_eq_true.mp z1 c hc
          rw [Bool.and_eq_true, decide_eq_true_eq, decide_eq_true_eq] at q
          exact q) z2 (Nat.le_trans z3 (by decide))
        cases r with
        | cons r1 rs =>
          cases rs
          obtain ⟨t, rfl⟩ := r1
          exact PySem.W.KIN.call_text e z3 ⟨.int _, H, I.tok _, ⟨_, rfl⟩, h.dn R (by simp only [DV])⟩
      · exact h.bad
    | _ => exact h.bad
  | [_, _], _, h => exact h.bad
  | _ :: _ :: _ :: _, _, h => exact h.bad
theorem SqT.len_le {pins : List (Addr × Obj)} {s : Shared} {σ : St} (I : Inv X pins σ H s) {a : Addr} {vs : List V} (h : SqT X.K H a vs) : vs.length ≤ SL := by
  obtain ⟨_, _, _, hz⟩ := I.tuple h
  rw [sizeLine_eq] at hz
  exact hz
theorem cb_list (hZ : X.K = Z.K) : CallR X (.type "list") (rCB Z .list) := by
  intro pins s σ H xs us Q I r h
  obtain ⟨μ, S, ds, R, hv0, h0⟩ := h
  match ds, hv0, h0 with
  | [], _, h => exact h.bad
  | [d], hvs, h =>
    obtain ⟨v, rfl, hv⟩ := hvs.of_one
    clear hvs
    have lst : Want Z μ H (kQ Z Q) (match S.lv d with
      | some xs => .val [.ref S.length] (S ++ [.lst xs])
      | none => .bad) → wpAny (model X.prog X.w) X.A (call (.type "list") us) (EP X pins σ Q) X.xe s := fun h => by
      cases e1 : S.lv d with
      | none => rw [e1] at h; exact h.bad
      | some xs =>
        rw [e1] at h
        obtain ⟨a, vs, rfl, h1, h2, hz⟩ := R.lv e1 hv
        exact call_list_of pins s σ H _ us Q I r ⟨a, vs, rfl, .inl (SqL.of h1), fun p hp => new_lst R hz h2 h hp⟩
    cases d with
    | tup xs =>
      simp only [DV] at hv
      obtain ⟨a, vs, rfl, h1, h2⟩ := hv
      rw [← hZ] at h1
      have hz : xs.length ≤ SL := by rw [h2.length]; exact SqT.len_le I h1
      exact call_list_of pins s σ H _ us Q I r ⟨a, vs, rfl, .inr h1, fun p hp => new_lst R hz h2 h hp⟩
    | ref i => exact lst h
    | rol i => exact lst h
    | non => exact lst h
    | bl _ => exact lst h
    | int _ => exact lst h
    | str _ => exact lst h
    | scr _ => exact lst h
    | rin _ _ _ => exact lst h
    | rdc _ _ => exact lst h
    | cls _ => exact lst h
    | unk => exact lst h
  | [_, _], _, h => exact h.bad
  | _ :: _ :: _ :: _, _, h => exact h.bad
theorem cb_tuple (hZ : X.K = Z.K) : CallR X (.type "tuple") (rCB Z .tuple) := by
  intro pins s σ H xs us Q I r h
  obtain ⟨μ, S, ds, R, hv0, h0⟩ := h
  match ds, hv0, h0 with
  | [], _, h => exact h.bad
  | [d], hvs, h =>
    obtain ⟨v, rfl, hv⟩ := hvs.of_one
    clear hvs
    have lst : Want Z μ H (kQ Z Q) (match S.lv d with
      | some xs => .val [.tup xs] S
      | none => .bad) → wpAny (model X.prog X.w) X.A (call (.type "tuple") us) (EP X pins σ Q) X.xe s := fun h => by
      cases e1 : S.lv d with
      | none => rw [e1] at h; exact h.bad
      | some xs =>
        rw [e1] at h
        obtain ⟨a, vs, rfl, h1, h2, hz⟩ := R.lv e1 hv
        exact call_tuple_of pins s σ H _ us Q I r ⟨a, vs, rfl, .inl ⟨SqL.of h1, fun p hp => new_tup R h2 h hp⟩⟩
    cases d with
    | tup xs =>
      have hv0 := hv
      simp only [DV] at hv
      obtain ⟨a, vs, rfl, h1, h2⟩ := hv
      rw [← hZ] at h1
      exact call_tupleT pins s σ H _ us Q I r ⟨a, vs, rfl, h1, h.dn R hv0⟩
    | ref i => exact lst h
    | rol i => exact lst h
    | non => exact lst h
    | bl _ => exact lst h
    | int _ => exact lst h
    | str _ => exact lst h
    | scr _ => exact lst h
    | rin _ _ _ => exact lst h
    | rdc _ _ => exact lst h
    | cls _ => exact lst h
    | unk => exact lst h
  | [_, _], _, h => exact h.bad
  | _ :: _ :: _ :: _, _, h => exact h.bad
theorem bools_ok : ∀ {xs : List D} {bs : List Bool} {vs : List V}, bools xs = some bs → DVs Z H μ xs vs → vs = bs.map V.bl
  | [], bs, vs, h, hv => by cases h; simp only [DVs] at hv; subst hv; rfl
  | .bl b :: r, bs, vs, h, hv => by
    simp only [bools] at h
    cases e : bools r with
    | none => rw [e] at h; cases h
    | some q =>
      rw [e] at h
      cases h
      simp only [DVs, DV] at hv
      obtain ⟨v, w, rfl, rfl, h2⟩ := hv
      rw [bools_ok e h2]
      rfl
  | .non :: _, _, _, h, _ => by cases h
  | .int _ :: _, _, _, h, _ => by cases h
  | .str _ :: _, _, _, h, _ => by cases h
  | .tup _ :: _, _, _, h, _ => by cases h
  | .scr _ :: _, _, _, h, _ => by cases h
  | .ref _ :: _, _, _, h, _ => by cases h
  | .cls _ :: _, _, _, h, _ => by cases h
  | .unk :: _, _, _, h, _ => by cases h
  | .rol _ :: _, _, _, h, _ => by cases h
  | .rin _ _ _ :: _, _, _, h, _ => by cases h
  | .rdc _ _ :: _, _, _, h, _ => by cases h
theorem cb_all (hZ : X.K = Z.K) (hc : X.calm = true) : CallR X (.builtin "all") (rCB Z .all) := by
  intro pins s σ H xs us Q I r h
  obtain ⟨μ, S, ds, R, hv0, h0⟩ := h
  match ds, hv0, h0 with
  | [], _, h => exact h.bad
  | [d], hvs, h =>
    obtain ⟨v, rfl, hv⟩ := hvs.of_one
    clear hvs
    simp only [callB, callB1] at h
    cases e1 : S.lv d with
    | none => rw [e1] at h; exact h.bad
    | some xs =>
      rw [e1] at h
      simp only [Option.bind_some] at h
      cases e2 : bools xs with
      | none => rw [e2] at h; exact h.bad
      | some bs =>
        rw [e2] at h
        obtain ⟨a, vs, rfl, h1, h2, hz⟩ := R.lv e1 hv
        rw [bools_ok e2 h2] at h1
        exact cr_all hc pins s σ H _ us Q I r ⟨a, bs, rfl, SqL.of h1, h.dn R (by simp only [DV])⟩
  | [_, _], _, h => exact h.bad
  | _ :: _ :: _ :: _, _, h => exact h.bad
end
end Vm
namespace Vm
open PySem L2
section
variable {α : Type} {le : α → α → Bool}
open PySem.W
theorem mem_ins1 {x z : α} : ∀ {l : List α}, z ∈ ins1 le x l → z = x ∨ z ∈ l
  | [], h => by simp [ins1] at h; exact .inl h
  | y :: ys, h => by
    unfold ins1 at h
    split at h
    · rcases List.mem_cons.mp h with h | h
      · exact .inl h
      · exact .inr h
    · rcases List.mem_cons.mp h with h | h
      · exact .inr (by rw [h]; exact List.mem_cons_self)
      · rcases mem_ins1 h with h | h
        · exact .inl h
        · exact .inr (List.mem_cons_of_mem _ h)
theorem ins1_sorted (T : TotalLe le) {x : α} : ∀ {l : List α}, l.Pairwise (fun a b => le a b = true) → (ins1 le x l).Pairwise (fun a b => le a b = true)
  | [], _ => by simp [ins1]
  | y :: ys, h => by
    unfold ins1
    obtain ⟨h1, h2⟩ := List.pairwise_cons.mp h
    split
    · rename_i hxy
      refine List.pairwise_cons.mpr ⟨fun z hz => ?_, h⟩
      rcases List.mem_cons.mp hz with hz | hz
      · rw [hz]; exact hxy
      · exact T.trans _ _ _ hxy (h1 z hz)
    · rename_i hxy
      refine List.pairwise_cons.mpr ⟨fun z hz => ?_, ins1_sorted T h2⟩
      rcases mem_ins1 hz with hz | hz
      · rw [hz]; exact (T.total y x).elim id fun q => absurd q hxy
      · exact h1 z hz
theorem ins1_filter (T : TotalLe le) {x c : α} : ∀ {l : List α}, (ins1 le x l).filter (sameRank le c) = (x :: l).filter (sameRank le c)
  | [] => rfl
  | y :: ys => by
    unfold ins1
    split
    · rfl
    · rename_i hxy
      rw [List.filter_cons, ins1_filter T, List.filter_cons, List.filter_cons, List.filter_cons]
      by_cases hx : sameRank le c x = true
      · by_cases hy : sameRank le c y = true
        · exfalso
          unfold sameRank at hx hy
          rw [Bool.and_eq_true] at hx hy
          exact hxy (T.trans _ _ _ hx.2 hy.1)
        · simp [hx, hy]
      · simp [hx]
theorem isort_sorted (T : TotalLe le) : ∀ l : List α, (isort le l).Pairwise (fun a b => le a b = true)
  | [] => .nil
  | x :: xs => ins1_sorted T (isort_sorted T xs)
theorem isort_filter (T : TotalLe le) (c : α) : ∀ l : List α, (isort le l).filter (sameRank le c) = l.filter (sameRank le c)
  | [] => rfl
  | x :: xs => by
    show (ins1 le x (isort le xs)).filter (sameRank le c) = _
    rw [ins1_filter T, List.filter_cons, isort_filter T c xs, ← List.filter_cons]
theorem isort_eq (T : TotalLe le) (l : List α) : isort le l = l.mergeSort le := sort_unique T (isort_sorted T l) fun c => isort_filter T c l
theorem ins1_length {x : α} : ∀ l : List α, (ins1 le x l).length = l.length + 1
  | [] => rfl
  | y :: ys => by
    unfold ins1
    split
    · rfl
    · rw [List.length_cons, ins1_length ys, List.length_cons]
theorem isort_length : ∀ l : List α, (isort le l).length = l.length
  | [] => rfl
  | x :: xs => by
    show (ins1 le x (isort le xs)).length = _
    rw [ins1_length, isort_length xs, List.length_cons]
end
theorem alikeB_ok {ps : List PyData} (h : alikeB ps = true) : PySem.W.AllAlike ps := by
  unfold alikeB at h
  rw [List.all_eq_true] at h
  intro d hd d' hd'
  have := h d hd
  rw [List.all_eq_true] at this
  exact this d' hd'
theorem sortableB_ok {ps : List PyData} (h : sortableB ps = true) : PySem.W.Sortable ps := by
  unfold sortableB at h
  rw [Bool.or_eq_true, List.all_eq_true, List.all_eq_true] at h
  rcases h with h | h
  · refine .inl fun d hd => ?_
    have := h d hd
    split at this
    · rename_i x r
      exact ⟨x, r, rfl⟩
    · cases this
  · refine .inr fun d hd => ?_
    have := h d hd
    split at this
    · cases this
    · cases this
    · rename_i h1 h2
      exact ⟨h2, h1⟩
section
variable {X : Cx} {Z : Zz} {P : Pg} {Φ : Nat → List D → Sto → Res} {W : WX}
variable {H H' : Hp} {μ μ' : Mu} {S S' : Sto} {σ : Sl} {τ : St} {Q : VK} {k : Kt}
variable {a b e l o tg iter elt : Expr} {es ifs : List Expr} {ca cb cc ce co ci cg ct cr : C} {pos p apos cpos : Pos}
theorem pds_len : ∀ {n : Nat} {xs : List D} {ps : List PyData}, pds S n xs = some ps → ps.length = xs.length
  | n, [], ps, h => by rw [pds_nil] at h; cases h; rfl
  | n, x :: xs, ps, h => by
    obtain ⟨p, q, _, h2, rfl⟩ := pds_cons h
    rw [List.length_cons, List.length_cons, pds_len h2]
/-- each item reads as its data -/
theorem each_items {pins : List (Addr × Obj)} {s : Shared} {σ : St} (I : Inv X pins σ H s) : ∀ {xs : List D} {ps : List PyData} {vs : List V} {us : List Value}, ps.length = xs.length → DVs Z H μ xs vs → DpAll X.K H vs ps → Vals vs us →
    PySem.W.EachIs (fun (u : Value) (b : D × PyData) => (∃ v, RelV v u ∧ DV Z H μ b.1 v) ∧ ∃ as, Reads s.heap u b.2 as) us (xs.zip ps)
  | [], [], vs, us, _, hv, hd, hr => by
    simp only [DVs] at hv
    subst hv
    cases hr
    exact .nil
  | x :: xs, p :: ps, vs, us, hl, hv, hd, hr => by
    simp only [DVs] at hv
    obtain ⟨v, r, rfl, h1, h2⟩ := hv
    cases hd with
    | cons d1 d2 =>
      cases hr with
      | cons r1 r2 =>
        exact .cons ⟨⟨v, r1, h1⟩, Dp.reads I p v _ d1 r1⟩ (each_items I (by simpa using hl) h2 d2 r2)
  | [], _ :: _, _, _, hl, _, _, _ => by simp at hl
  | _ :: _, [], _, _, hl, _, _, _ => by simp at hl
theorem vals_each : ∀ {us : List Value} {bs : List (D × PyData)}, PySem.W.EachIs (fun (u : Value) (b : D × PyData) => ∃ v, RelV v u ∧ DV Z H μ b.1 v) us bs → ∃ vs, Vals vs us ∧ DVs Z H μ (bs.map (·.1)) vs
  | _, _, .nil => ⟨[], .nil, by simp only [List.map_nil, DVs]⟩
  | _, _, .cons ⟨v, h1, h2⟩ t => by
    obtain ⟨vs, h3, h4⟩ := vals_each t
    exact ⟨v :: vs, .cons h1 h3, by simp only [List.map_cons, DVs]; exact ⟨v, vs, rfl, h2, h4⟩⟩
theorem depthAll_mem : ∀ {ps : List PyData} {n : Nat}, PyData.depthAll ps ≤ n → ∀ p ∈ ps, p.depth ≤ n
  | [], _, _, p, hp => by cases hp
  | q :: ps, n, h, p, hp => by
    rw [PyData.depthAll] at h
    rcases List.mem_cons.mp hp with hp | hp
    · rw [hp]; omega
    · exact depthAll_mem (by omega) p hp
def dtn : DT → String
  | .non => "NoneType" | .bool => "bool" | .int => "int" | .str => "str" | .tuple => "tuple" | .list => "list"
def tyn : Ty → Option String
  | .int => some "int" | .str => some "str" | .bool => some "bool" | .tuple => some "tuple" | .list => some "list" | .dict => some "dict" | _ => none
theorem kin_ok : ∀ (n : DT) (t : Ty) (T : String) (b : Bool), tyn t = some T → kin n t = some b → kitB (dtn n) T = some b := by
  intro n t T b h1 h2
  cases n <;> cases t <;> first
    | (cases h1; cases h2; decide +kernel)
    | cases h1
    | cases h2
theorem dty_ok (hZ : X.K = Z.K) (R : RS Z μ S H) {d : D} {v : V} {n : DT} (hv : DV Z H μ d v) (h : dty S d = some n) : TyX X.K H v (.type (dtn n)) := by
  cases d with
  | non => cases h; simp only [DV] at hv; subst hv; exact .base .non
  | bl x => cases h; simp only [DV] at hv; subst hv; exact .base (.bl x)
  | int x => cases h; simp only [DV] at hv; subst hv; exact .base (.int x)
  | str x => cases h; simp only [DV] at hv; obtain ⟨_, _, rfl⟩ := hv; exact .base (.str _)
  | tup xs =>
    cases h
    simp only [DV] at hv
    obtain ⟨a, vs, rfl, h1, _⟩ := hv
    rw [← hZ] at h1
    rcases h1 with (h1 | ⟨o, h1⟩) | ⟨o, its, n, h1, h2, _⟩
    · exact .base (.tup h1)
    · exact .fTuple h1
    · exact .kTuple h1 h2
  | scr xs =>
    cases h
    simp only [DV] at hv
    obtain ⟨a, vs, rfl, h1, _⟩ := hv
    rcases h1 with ⟨o, h1⟩ | ⟨o, its, n, h1, h2, _⟩
    · exact .base (.frz h1)
    · rw [← hZ] at h1
      exact .kList h1 h2
  | rol xs =>
    cases h
    obtain ⟨a, vs, rfl, h1, _⟩ := R.lv (show S.lv (.rol xs) = some xs from rfl) hv
    exact .base (.lst h1)
  | rin _ _ _ => cases h
  | rdc _ _ => cases h
  | ref i =>
    simp only [dty] at h
    cases e : S[i]? with
    | none => rw [e] at h; cases h
    | some ob =>
      rw [e] at h
      cases ob with
      | lst xs =>
        cases h
        simp only [DV] at hv
        obtain ⟨a, ha, rfl⟩ := hv
        obtain ⟨a', vs, ha', h1, _⟩ := R.lst_tracked e
        rw [ha] at ha'; cases ha'
        exact .base (.lst h1)
      | _ => cases h
  | cls _ => cases h
  | unk => cases h; simp only [DV] at hv; obtain ⟨z, rfl⟩ := hv; exact .base (.str _)
theorem callMv_noexc (m : Bm) (d : D) (ds : List D) (S : Sto) : ∀ c fs σ S1, callMv m d ds S ≠ .exc c fs σ S1 := by
  intro c fs σ S1 z
  unfold callMv at z
  repeat' (split at z)
  all_goals cases z
theorem callM_noexc (m : Bm) (d : D) (ds : List D) (S : Sto) : ∀ c fs σ S1, callM m d ds S ≠ .exc c fs σ S1 := by
  intro c fs σ S1 z
  unfold callM at z
  repeat' (split at z)
  all_goals first | exact callMv_noexc _ _ _ _ _ _ _ _ z | cases z
def rMB (Z : Zz) (m : Bm) : V → List V → Hp → VK → Prop := fun x vs H Q => ∃ μ S d ds, RS Z μ S H ∧ DV Z H μ d x ∧ DVs Z H μ ds vs ∧ Want Z μ H (kQ Z Q) (callM m d ds S)
theorem mb_append : MtR X "list.append" (rMB Z .append) := by
  intro pins s σ H x vs v us Q I rx rv h
  obtain ⟨μ, S, d, ds, R, hd, hds, h⟩ := h
  cases d with
  | ref i =>
    simp only [callM] at h
    cases e : S[i]? with
    | none => rw [e] at h; exact h.bad
    | some ob =>
      rw [e] at h
      cases ob with
      | lst xs =>
        dsimp only at h
        match ds, hds, h with
        | [d], hds, h =>
          obtain ⟨w, rfl, hw⟩ := hds.of_one
          clear hds
          dsimp only at h
          split at h
          · rename_i hl
            simp only [DV] at hd
            obtain ⟨a, ha, rfl⟩ := hd
            obtain ⟨a', vs, ha', h1, h2, hz⟩ := R.lst_tracked e
            rw [ha] at ha'; cases ha'
            refine mt_append pins s σ H _ _ v us Q I rx rv ⟨a, vs, w, rfl, rfl, h1, by rw [sizeLine_eq, ← h2.length]; exact hl, ?_⟩
            obtain ⟨e1, R1⟩ := R.write (o := .lst (vs ++ [w])) (ob := .lst (xs ++ [d])) ha fun e1 => ⟨by rw [List.length_append, List.length_singleton]; exact hl, _, upd_same, (h2.mono e1).append (DVs.one (hw.mono e1))⟩
            exact h.dn' e1 R1 (by simp only [DV])
          · exact h.bad
        | [], _, h => exact h.bad
        | _ :: _ :: _, _, h => exact h.bad
      | _ => exact h.bad
  | _ => exact h.bad
theorem v_btm {name : Str} {id T : String} {m : Bm} (pa : PlainAttrs T) (hrc : ∀ (d : D) (S1 : Sto) (μ1 : Mu) (H1 : Hp) (v : V), RS Z μ1 S1 H1 → DV Z H1 μ1 d v → rcv m d S1 = true → tyV X.K T v H1) (slot : Slot T name id) (hty : typeOf (.builtin id) = pure (.type "method_descriptor")) (hm : MtR X id (rMB Z m)) (ho : PE X o (rdE Z P Φ W co)) (ha : PA X (e :: es) (rdA Z P Φ W ca))
    (hbase : attributeBase o name X.env (eval o X.env) = eval o X.env := by rfl)
    (hfew : ((backTo cpos (starEach (e :: es) X.env)).all (fun x => !x.1) && (backToKw cpos (keywordEach [] X.env)).all (fun x => x.1.isSome)
      && decide ((e :: es).length + ([] : List Keyword).length + (if ([] : List Keyword).isEmpty then 0 else 1) < 30)) = true := by rfl)
    (hline : (apos.endLine == cpos.line) = true := by rfl) (hs : starEach (e :: es) X.env = (false, eval e X.env) :: starEach es X.env := by rfl) (hplain : (backTo cpos (starEach es X.env)).any (·.1) = false := by rfl) :
    PE X (.Call (.Attribute o name apos) (e :: es) [] cpos) (rdE Z P Φ W (.btm m co ca)) := by
  refine PE.imp (pe_bm pa slot hty hm ho ha hbase hfew hline hs hplain) ?_
  rintro τ H Q ⟨μ, σ, S, R, L, h⟩
  simp only [ev] at h
  refine stepEE R L h _ fun d S1 μ1 H1 v e1 R1 L1 hv h1 => ?_
  split at h1
  · rename_i hr
    refine ⟨hrc d S1 μ1 H1 v R1 hv hr, stepA R1 L1 h1 _ (fun _ _ _ _ _ _ _ z => z) fun ds S2 μ2 H2 vs e2 R2 L2' hvs h2 => ⟨μ2, S2, d, ds, R2, hv.mono e2, hvs, h2.toQ (callM_noexc _ _ _ _)⟩⟩
  · exact h1.bad
/-- the receiver of a list's method -/
theorem rcv_list (hZ : X.K = Z.K) {m : Bm} (hm : ∀ x S, rcv m x S = (match x with | .ref i => (Sto.l S i).isSome | _ => false)) : ∀ (d : D) (S1 : Sto) (μ1 : Mu) (H1 : Hp) (v : V), RS Z μ1 S1 H1 → DV Z H1 μ1 d v → rcv m d S1 = true → tyV X.K "list" v H1 := by
  intro d S1 μ1 H1 v R hv hr
  rw [hm] at hr
  cases d with
  | ref i =>
    dsimp only at hr
    cases e : S1.l i with
    | none => rw [e] at hr; cases hr
    | some xs =>
      simp only [DV] at hv
      obtain ⟨a, ha, rfl⟩ := hv
      obtain ⟨a', vs, ha', h1, _⟩ := R.list e
      rw [ha] at ha'; cases ha'
      exact .inl ⟨rfl, vs, SqL.of h1⟩
  | _ => cases hr
end
end Vm
namespace Vm
open PySem L2
section
variable {Z : Zz} {H H' : Hp} {μ μ' μ2 : Mu} {S S' : Sto}
/-- what values without places lean on -/
structure MoF (μ : Mu) (H : Hp) (μ' : Mu) (H' : Hp) : Prop where
  tup : ∀ b xs, Rd H b (.tup xs) → Rd H' b (.tup xs)
  frz : ∀ b o u, H b = some (.frz o u) → H' b = some (.frz o u)
  fz : ∀ b o, μ.z b → H b = some o → μ'.z b ∧ H' b = some o
theorem MoF.sqT {K : PySem.W.Frag} (e : MoF μ H μ' H') {a : Addr} {vs : List V} (h : SqT K H a vs) : SqT K H' a vs := by
  rcases h with h | h
  · exact .inl (e.tup _ _ h)
  · exact .inr h
theorem MoF.scr (e : MoF μ H μ' H') {a : Addr} {vs : List V} (h : Scr Z H a vs) : Scr Z H' a vs := by
  rcases h with ⟨o, h⟩ | h
  · exact .inl ⟨o, e.frz _ _ _ h⟩
  · exact .inr h
theorem MoF.same (h : ∀ b, μ.z b → μ'.z b) : MoF μ H μ' H := ⟨fun _ _ h => h, fun _ _ _ h => h, fun b _ z q => ⟨h b z, q⟩⟩
mutual
theorem DV.fl (e : MoF μ H μ' H') : ∀ {d : D} {v : V}, d.flat = true → DV Z H μ d v → DV Z H' μ' d v
  | .non, v, _, h => by simpa only [DV] using h
  | .bl _, v, _, h => by simpa only [DV] using h
  | .int _, v, _, h => by simpa only [DV] using h
  | .str _, v, _, h => by simpa only [DV] using h
  | .tup xs, v, f, h => by
    simp only [DV] at h ⊢
    simp only [D.flat] at f
    obtain ⟨a, vs, rfl, h1, h2⟩ := h
    exact ⟨a, vs, rfl, e.sqT h1, DVs.fl e f h2⟩
  | .scr xs, v, f, h => by
    simp only [DV] at h ⊢
    simp only [D.flat] at f
    obtain ⟨a, vs, rfl, h1, h2⟩ := h
    exact ⟨a, vs, rfl, e.scr h1, DVs.fl e f h2⟩
  | .rol xs, v, f, h => by
    simp only [DV] at h ⊢
    simp only [D.flat] at f
    obtain ⟨a, vs, rfl, z, h1, hl, h2⟩ := h
    exact ⟨a, vs, rfl, (e.fz _ _ z h1).1, (e.fz _ _ z h1).2, hl, DVs.fl e f h2⟩
  | .rin c ns xs, v, f, h => by
    simp only [DV] at h ⊢
    simp only [D.flat] at f
    obtain ⟨a, dx, vs, rfl, z, h1, hl, h2⟩ := h
    exact ⟨a, dx, vs, rfl, (e.fz _ _ z h1).1, (e.fz _ _ z h1).2, hl, DVs.fl e f h2⟩
  | .rdc ks xs, v, f, h => by
    simp only [DV] at h ⊢
    simp only [D.flat, Bool.and_eq_true] at f
    obtain ⟨a, vs, o, rfl, h1, hz, hl, h2⟩ := h
    exact ⟨a, vs, o, rfl, e.frz _ _ _ h1, hz, hl, DVs.fl e f.2 h2⟩
  | .ref _, _, f, _ => by simp [D.flat] at f
  | .cls _, v, _, h => by simpa only [DV] using h
  | .unk, v, _, h => by simpa only [DV] using h
theorem DVs.fl (e : MoF μ H μ' H') : ∀ {ds : List D} {vs : List V}, D.flats ds = true → DVs Z H μ ds vs → DVs Z H' μ' ds vs
  | [], vs, _, h => by simpa only [DVs] using h
  | d :: ds, vs, f, h => by
    simp only [DVs] at h ⊢
    simp only [D.flats, Bool.and_eq_true] at f
    obtain ⟨v, r, rfl, h1, h2⟩ := h
    exact ⟨v, r, rfl, DV.fl e f.1 h1, DVs.fl e f.2 h2⟩
end
theorem FVs.fl (e : MoF μ H μ' H') : ∀ {fs : List (Nat × D)} {gs : List (Str × V)}, flatF fs = true → FVs Z H μ fs gs → FVs Z H' μ' fs gs
  | [], gs, _, h => by simpa only [FVs] using h
  | (f, d) :: r, gs, hf, h => by
    simp only [FVs] at h ⊢
    simp only [flatF, List.all_cons, Bool.and_eq_true] at hf
    obtain ⟨v, q, rfl, h1, h2⟩ := h
    exact ⟨v, q, rfl, h1.fl e hf.1, FVs.fl e hf.2 h2⟩
theorem flats_of {xs : List D} (h : ∀ x ∈ xs, x.flat = true) : D.flats xs = true := by
  induction xs with
  | nil => rfl
  | cons x xs ih => rw [D.flats, h x List.mem_cons_self, ih fun y hy => h y (List.mem_cons_of_mem _ hy)]; rfl
theorem OOk.fl (e : MoF μ H μ' H') {a : Addr} {o : Ob} (f : o.flat = true) (hk : ∀ q, H a = some q → H' a = some q) (h : OOk Z H μ a o) : OOk Z H' μ' a o := by
  cases o with
  | lst xs =>
    obtain ⟨z, vs, h1, h2⟩ := h
    exact ⟨z, vs, hk _ h1, h2.fl e f⟩
  | ins c fs =>
    obtain ⟨dx, gs, h1, h2⟩ := h
    exact ⟨dx, gs, hk _ h1, h2.fl e f⟩
  | dct kvs =>
    obtain ⟨z, qs, h1, h2, h3⟩ := h
    refine ⟨z, qs, hk _ h1, h2, h3.fl e ?_⟩
    rw [Ob.flat, List.all_eq_true] at f
    refine flats_of fun x hx => ?_
    obtain ⟨p, hp, rfl⟩ := List.mem_map.mp hx
    have := f p hp
    rw [Bool.and_eq_true] at this
    exact this.2
  | set xs =>
    obtain ⟨z, ns, T, n, h1, h2, h3⟩ := h
    exact ⟨z, ns, T, n, h1, hk _ h2, h3⟩
theorem FVs.zip : ∀ {fs : List (Nat × D)} {gs : List (Str × V)}, FVs Z H μ fs gs → ∃ vs, gs = ((fs.map (·.1)).map Z.nm).zip vs ∧ DVs Z H μ (fs.map (·.2)) vs
  | [], gs, h => by simp only [FVs] at h; subst h; exact ⟨[], rfl, by simp only [List.map_nil, DVs]⟩
  | (f, d) :: r, gs, h => by
    simp only [FVs] at h
    obtain ⟨v, q, rfl, h1, h2⟩ := h
    obtain ⟨vs, rfl, h3⟩ := FVs.zip h2
    exact ⟨v :: vs, rfl, by simp only [List.map_cons, DVs]; exact ⟨v, vs, rfl, h1, h3⟩⟩
theorem FVs.of_zip : ∀ {ns : List Nat} {ds : List D} {vs : List V}, ns.length = ds.length → DVs Z H μ ds vs → FVs Z H μ (ns.zip ds) ((ns.map Z.nm).zip vs)
  | [], [], vs, _, h => by simp only [DVs] at h; subst h; simp only [List.zip_nil_left, List.map_nil, FVs]
  | n :: ns, d :: ds, vs, hl, h => by
    simp only [DVs] at h
    obtain ⟨v, r, rfl, h1, h2⟩ := h
    simp only [List.zip_cons_cons, List.map_cons, FVs]
    exact ⟨v, _, rfl, h1, FVs.of_zip (by simpa using hl) h2⟩
  | [], _ :: _, _, hl, _ => by simp at hl
  | _ :: _, [], _, hl, _ => by simp at hl
theorem mapO_len {α β : Type} {f : α → Option β} : ∀ {xs : List α} {ys : List β}, mapO f xs = some ys → ys.length = xs.length
  | [], ys, h => by cases h; rfl
  | x :: xs, ys, h => by
    rw [mapO] at h
    cases e : f x with
    | none => rw [e] at h; cases h
    | some p =>
      cases e2 : mapO f xs with
      | none => rw [e, e2] at h; cases h
      | some q => rw [e, e2] at h; cases h; rw [List.length_cons, List.length_cons, mapO_len e2]
theorem mapO_cons {α β : Type} {f : α → Option β} {x : α} {xs : List α} {ys : List β} (h : mapO f (x :: xs) = some ys) : ∃ p q, f x = some p ∧ mapO f xs = some q ∧ ys = p :: q := by
  rw [mapO] at h
  cases e : f x with
  | none => rw [e] at h; cases h
  | some p =>
    cases e2 : mapO f xs with
    | none => rw [e, e2] at h; cases h
    | some q => rw [e, e2] at h; cases h; exact ⟨p, q, rfl, rfl, rfl⟩
theorem mem_drop_of {α : Type} {l : List α} {k i : Nat} {a : α} (h : l[i]? = some a) (hk : k ≤ i) : a ∈ l.drop k := by
  refine List.mem_iff_getElem?.mpr ⟨i - k, ?_⟩
  rw [List.getElem?_drop, show k + (i - k) = i by omega]
  exact h
/-- what is kept stands for the same -/
theorem frz_ok {k : Nat} (R : RS Z μ S H) (m : MoF μ H μ2 H) (hz : ∀ b ∈ μ.l.drop k, μ2.z b) : ∀ (n : Nat) (d d' : D) (v : V), frzD S k n d = some d' → DV Z H μ d v → DV Z H μ2 d' v := by
  have fin : ∀ {d d' : D} {v : V}, (if d.flat then some d else none) = some d' → DV Z H μ d v → DV Z H μ2 d' v := fun {d d' v} h hv => by
    split at h
    · rename_i f; cases h; exact hv.fl m f
    · cases h
  intro n
  induction n with
  | zero => intro d d' v h hv; exact fin h hv
  | succ n ih =>
    have many : ∀ (xs ys : List D) (vs : List V), mapO (frzD S k n) xs = some ys → DVs Z H μ xs vs → DVs Z H μ2 ys vs := by
      intro xs
      induction xs with
      | nil => intro ys vs h hv; cases h; simp only [DVs] at hv ⊢; exact hv
      | cons x xs ihx =>
        intro ys vs h hv
        obtain ⟨p, q, h1, h2, rfl⟩ := mapO_cons h
        simp only [DVs] at hv ⊢
        obtain ⟨v, r, rfl, h3, h4⟩ := hv
        exact ⟨v, r, rfl, ih x p v h1 h3, ihx q r h2 h4⟩
    intro d d' v h hv
    cases d with
    | tup xs =>
      simp only [frzD] at h
      cases e : mapO (frzD S k n) xs with
      | none => rw [e] at h; cases h
      | some ys =>
        rw [e] at h; cases h
        simp only [DV] at hv ⊢
        obtain ⟨a, vs, rfl, h1, h2⟩ := hv
        exact ⟨a, vs, rfl, m.sqT h1, many xs ys vs e h2⟩
    | ref i =>
      simp only [frzD] at h
      split at h
      · rename_i hk
        simp only [DV] at hv
        obtain ⟨a, ha, rfl⟩ := hv
        have za := hz a (mem_drop_of ha hk)
        cases e0 : S[i]? with
        | none => rw [e0] at h; cases h
        | some o =>
          rw [e0] at h
          have ok := R.obj i o a e0 ha
          cases o with
          | lst xs =>
            dsimp only at h
            cases e : mapO (frzD S k n) xs with
            | none => rw [e] at h; cases h
            | some ys =>
              rw [e] at h; cases h
              obtain ⟨z, vs, h1, h2⟩ := ok
              simp only [DV]
              exact ⟨a, vs, rfl, za, h1, by rw [mapO_len e]; exact z, many xs ys vs e h2⟩
          | ins c fs =>
            dsimp only at h
            cases e : mapO (frzD S k n) (fs.map (·.2)) with
            | none => rw [e] at h; cases h
            | some ys =>
              rw [e] at h; cases h
              obtain ⟨dx, gs, h1, h2⟩ := ok
              obtain ⟨vs, rfl, h3⟩ := h2.zip
              simp only [DV]
              exact ⟨a, dx, vs, rfl, za, h1, by rw [mapO_len e, List.length_map, List.length_map], many _ ys vs e h3⟩
          | dct _ => cases h
          | set _ => cases h
      · cases h
    | non => exact fin (by simpa only [frzD] using h) hv
    | bl _ => exact fin (by simpa only [frzD] using h) hv
    | int _ => exact fin (by simpa only [frzD] using h) hv
    | str _ => exact fin (by simpa only [frzD] using h) hv
    | scr _ => exact fin (by simpa only [frzD] using h) hv
    | rol _ => exact fin (by simpa only [frzD] using h) hv
    | rin _ _ _ => exact fin (by simpa only [frzD] using h) hv
    | rdc _ _ => exact fin (by simpa only [frzD] using h) hv
    | cls _ => exact fin (by simpa only [frzD] using h) hv
    | unk => exact fin (by simpa only [frzD] using h) hv
theorem frzF_ok {k : Nat} (R : RS Z μ S H) (m : MoF μ H μ2 H) (hz : ∀ b ∈ μ.l.drop k, μ2.z b) : ∀ {fs fs' : List (Nat × D)} {gs : List (Str × V)}, frzF S k fs = some fs' → FVs Z H μ fs gs → FVs Z H μ2 fs' gs
  | [], fs', gs, h, hv => by cases h; simp only [FVs] at hv ⊢; exact hv
  | (f, d) :: r, fs', gs, h, hv => by
    obtain ⟨p, q, h1, h2, rfl⟩ := mapO_cons h
    simp only [FVs] at hv
    obtain ⟨v, g, rfl, h3, h4⟩ := hv
    dsimp only at h1
    cases e : frzD S k 20 d with
    | none => rw [e] at h1; cases h1
    | some d' =>
      rw [e] at h1
      cases h1
      simp only [FVs]
      exact ⟨v, g, rfl, frz_ok R m hz 20 d d' v e h3, frzF_ok R m hz h2 h4⟩
theorem frzF_nil {k : Nat} {fs : List (Nat × D)} (h : frzF S k [] = some fs) : fs = [] := by cases h; rfl
theorem RS.not_xd (R : RS Z μ S H) {a : Addr} (h : a ∈ μ.l) {gs : List (Str × V)} : H a ≠ some (.xd gs) := fun hx => by
  obtain ⟨i, hi, e⟩ := List.mem_iff_getElem.mp h
  have hs : i < S.length := by rw [← R.len]; exact hi
  have ok := R.obj i S[i] a (List.getElem?_eq_getElem hs) (by rw [List.getElem?_eq_getElem hi, e])
  cases ho : S[i] with
  | lst ys => rw [ho] at ok; obtain ⟨_, vs, h1, _⟩ := ok; rw [hx] at h1; cases h1
  | ins c fs => rw [ho] at ok; obtain ⟨dx, gs, h1, _⟩ := ok; rw [hx] at h1; cases h1
  | dct _ => rw [ho] at ok; obtain ⟨_, qs, h1, _⟩ := ok; rw [hx] at h1; cases h1
  | set _ => rw [ho] at ok; obtain ⟨_, ns, T, n, _, h1, _⟩ := ok; rw [hx] at h1; cases h1
def padr (l : List Addr) (rs : List Nat) : List Addr := rs.map fun r => l.getD r 0
theorem padr_get {l : List Addr} {rs : List Nat} {j r : Nat} (h : rs[j]? = some r) (hr : r < l.length) : (padr l rs)[j]? = l[r]? := by
  unfold padr
  rw [List.getElem?_map, h, Option.map_some, List.getD_eq_getElem?_getD, List.getElem?_eq_getElem hr]
  rfl
theorem pick_len : ∀ {rs : List Nat}, (∀ r ∈ rs, r < S.length) → (pick S rs).length = rs.length
  | [], _ => rfl
  | r :: rs, h => by
    rw [pick, List.getElem?_eq_getElem (h r List.mem_cons_self)]
    show (pick S rs).length + 1 = _
    rw [pick_len fun x hx => h x (List.mem_cons_of_mem _ hx)]
    rfl
theorem pick_get : ∀ {rs : List Nat} {j : Nat} {o : Ob}, (∀ r ∈ rs, r < S.length) → (pick S rs)[j]? = some o → ∃ r, rs[j]? = some r ∧ S[r]? = some o
  | [], j, o, _, h => by simp [pick] at h
  | r :: rs, j, o, hr, h => by
    rw [pick, List.getElem?_eq_getElem (hr r List.mem_cons_self)] at h
    cases j with
    | zero => exact ⟨r, rfl, by rw [List.getElem?_eq_getElem (hr r List.mem_cons_self)]; exact h⟩
    | succ j =>
      obtain ⟨q, h1, h2⟩ := pick_get (rs := rs) (j := j) (fun x hx => hr x (List.mem_cons_of_mem _ hx)) h
      exact ⟨q, h1, h2⟩
theorem locOk_iff {rs : List Nat} {ds : List D} (h : locOk S rs ds = true) : rs.Nodup ∧ (∀ r ∈ rs, ∃ o, S[r]? = some o ∧ o.flat = true) ∧ ∀ d ∈ ds, (∃ i, d = .ref i) ∨ d.flat = true := by
  unfold locOk at h
  simp only [Bool.and_eq_true, decide_eq_true_eq, List.all_eq_true] at h
  refine ⟨h.1, fun r hr => ?_, fun d hd => ?_⟩
  · have := h.2.1 r hr
    cases e : S[r]? with
    | none => rw [e] at this; cases this
    | some o => rw [e] at this; exact ⟨o, rfl, this⟩
  · have := h.2.2 d hd
    cases d with
    | ref i => exact .inl ⟨i, rfl⟩
    | _ => exact .inr this
theorem RS.sub (R : RS Z μ S H) {rs : List Nat} (hn : rs.Nodup) (ho : ∀ r ∈ rs, ∃ o, S[r]? = some o ∧ o.flat = true) : RS Z ⟨padr μ.l rs, μ.z⟩ (pick S rs) H := by
  have hS : ∀ r ∈ rs, r < S.length := fun r hr => by
    obtain ⟨o, h, _⟩ := ho r hr
    exact (List.getElem?_eq_some_iff.mp h).1
  have hl : ∀ r ∈ rs, r < μ.l.length := fun r hr => by rw [R.len]; exact hS r hr
  have mem : ∀ b ∈ padr μ.l rs, b ∈ μ.l := fun b hb => by
    unfold padr at hb
    obtain ⟨r, hr, rfl⟩ := List.mem_map.mp hb
    rw [List.getD_eq_getElem?_getD, List.getElem?_eq_getElem (hl r hr)]
    exact List.getElem_mem _
  refine ⟨by rw [pick_len hS]; exact List.length_map _, ?_, fun j o a h1 h2 => ?_, fun p hp => ?_, fun b hb => ?_⟩
  · show (padr μ.l rs).Nodup
    unfold padr
    rw [List.Nodup, List.pairwise_map]
    refine List.Pairwise.imp_of_mem (fun {x y} hx hy hne => ?_) hn
    rw [List.getD_eq_getElem?_getD, List.getElem?_eq_getElem (hl x hx), List.getD_eq_getElem?_getD, List.getElem?_eq_getElem (hl y hy)]
    intro e
    exact hne ((List.getElem_inj R.nd).mp e)
  · obtain ⟨r, hr, hs⟩ := pick_get hS h1
    have hm := List.mem_of_getElem? hr
    have h2 : (padr μ.l rs)[j]? = some a := h2
    rw [padr_get hr (hl r hm)] at h2
    obtain ⟨o', h3, h4⟩ := ho r hm
    rw [hs] at h3; cases h3
    exact OOk.fl (μ := μ) (MoF.same (μ' := ⟨padr μ.l rs, μ.z⟩) fun _ z => z) h4 (fun _ q => q) (R.obj r o a hs h2)
  · obtain ⟨h1, h0, gs, h2, h3⟩ := R.err p hp
    exact ⟨fun h => h1 (mem _ h), h0, gs, h2, FVs.fl (μ := μ) (MoF.same (μ' := ⟨padr μ.l rs, μ.z⟩) fun _ z => z) h0 h3⟩
  · obtain ⟨h1, h2⟩ := R.zd b hb
    exact ⟨fun h => h1 (mem _ h), h2⟩
theorem mem_places : ∀ {ds : List D} {i : Nat}, .ref i ∈ ds → i ∈ placesOf ds
  | .ref j :: r, i, h => by
    rw [placesOf]
    rcases List.mem_cons.mp h with h | h
    · cases h; exact List.mem_cons_self
    · exact List.mem_cons_of_mem _ (mem_places h)
  | .non :: r, i, h => show i ∈ placesOf r from mem_places ((List.mem_cons.mp h).resolve_left (fun z => nomatch z))
  | .bl _ :: r, i, h => show i ∈ placesOf r from mem_places ((List.mem_cons.mp h).resolve_left (fun z => nomatch z))
  | .int _ :: r, i, h => show i ∈ placesOf r from mem_places ((List.mem_cons.mp h).resolve_left (fun z => nomatch z))
  | .str _ :: r, i, h => show i ∈ placesOf r from mem_places ((List.mem_cons.mp h).resolve_left (fun z => nomatch z))
  | .tup _ :: r, i, h => show i ∈ placesOf r from mem_places ((List.mem_cons.mp h).resolve_left (fun z => nomatch z))
  | .scr _ :: r, i, h => show i ∈ placesOf r from mem_places ((List.mem_cons.mp h).resolve_left (fun z => nomatch z))
  | .rol _ :: r, i, h => show i ∈ placesOf r from mem_places ((List.mem_cons.mp h).resolve_left (fun z => nomatch z))
  | .rin _ _ _ :: r, i, h => show i ∈ placesOf r from mem_places ((List.mem_cons.mp h).resolve_left (fun z => nomatch z))
  | .rdc _ _ :: r, i, h => show i ∈ placesOf r from mem_places ((List.mem_cons.mp h).resolve_left (fun z => nomatch z))
  | .cls _ :: r, i, h => show i ∈ placesOf r from mem_places ((List.mem_cons.mp h).resolve_left (fun z => nomatch z))
  | .unk :: r, i, h => show i ∈ placesOf r from mem_places ((List.mem_cons.mp h).resolve_left (fun z => nomatch z))
theorem lo_ok {rs : List Nat} (hl : ∀ r ∈ rs, r < μ.l.length) : ∀ {ds : List D} {vs : List V}, (∀ i, .ref i ∈ ds → i ∈ rs) → (∀ d ∈ ds, (∃ i, d = .ref i) ∨ d.flat = true) → DVs Z H μ ds vs → DVs Z H ⟨padr μ.l rs, μ.z⟩ (ds.map (loD rs)) vs
  | [], vs, _, _, h => by simp only [DVs] at h; subst h; simp only [List.map_nil, DVs]
  | d :: ds, vs, hm, hf, h => by
    simp only [DVs] at h
    obtain ⟨v, r, rfl, h1, h2⟩ := h
    simp only [List.map_cons, DVs]
    refine ⟨v, r, rfl, ?_, lo_ok hl (fun i hi => hm i (List.mem_cons_of_mem _ hi)) (fun x hx => hf x (List.mem_cons_of_mem _ hx)) h2⟩
    rcases hf d List.mem_cons_self with ⟨i, rfl⟩ | hd
    · simp only [DV] at h1
      obtain ⟨a, ha, rfl⟩ := h1
      have hi := hm i List.mem_cons_self
      simp only [loD, DV]
      refine ⟨a, ?_, rfl⟩
      have hx : rs.idxOf i < rs.length := List.idxOf_lt_length_iff.mpr hi
      have hg : rs[rs.idxOf i]? = some i := by rw [List.getElem?_eq_getElem hx]; simp
      show (padr μ.l rs)[rs.idxOf i]? = some a
      rw [padr_get hg (hl i hi)]
      exact ha
    · have e : loD rs d = d := by cases d <;> first | rfl | simp [D.flat] at hd
      rw [e]
      exact DV.fl (μ := μ) (MoF.same (μ' := ⟨padr μ.l rs, μ.z⟩) fun _ z => z) hd h1
theorem wb_len : ∀ {rs : List Nat} {os S : List Ob}, (wb S rs os).length = S.length
  | [], os, _ => by cases os <;> rfl
  | _ :: _, [], _ => rfl
  | r :: rs, o :: os, S => by rw [wb, wb_len, List.length_set]
theorem wb_out {i : Nat} : ∀ {rs : List Nat} {os S : List Ob}, i ∉ rs → (wb S rs os)[i]? = S[i]?
  | [], os, _, _ => by cases os <;> rfl
  | _ :: _, [], _, _ => rfl
  | r :: rs, o :: os, S, h => by
    have hr : r ≠ i := fun z => h (by rw [← z]; exact List.mem_cons_self)
    rw [wb, wb_out fun z => h (List.mem_cons_of_mem _ z), List.getElem?_set_ne hr]
theorem wb_in {i : Nat} : ∀ {rs : List Nat} {os S : List Ob} {j : Nat}, rs.Nodup → rs[j]? = some i → i < S.length → rs.length = os.length → (wb S rs os)[i]? = os[j]?
  | [], _, _, _, _, h, _, _ => by simp at h
  | _ :: _, [], _, _, _, _, _, h => by simp at h
  | r :: rs, o :: os, S, 0, hn, h, hi, _ => by
    simp at h
    subst h
    rw [wb, wb_out (List.nodup_cons.mp hn).1, List.getElem?_set_self hi]
    rfl
  | r :: rs, o :: os, S, j + 1, hn, h, hi, hl => by
    rw [wb]
    rw [wb_in (j := j) (List.nodup_cons.mp hn).2 (by simpa using h) (by rw [List.length_set]; exact hi) (by simpa using hl)]
    simp
theorem take_get {α : Type} {l : List α} {k j : Nat} (h : j < k) : (l.take k)[j]? = l[j]? := by rw [List.getElem?_take]; simp [h]
/-- behind the callee, for the caller: what is new and of N is kept as it is -/
theorem RS.ret {rs : List Nat} (R : RS Z μ S H) (hn : rs.Nodup) (ho : ∀ r ∈ rs, r < S.length) {μ' : Mu} {S' : Sto} {H' : Hp} (e : Ext ⟨padr μ.l rs, μ.z⟩ H μ' H') (R' : RS Z μ' S' H') (hf : (S'.take rs.length).all Ob.flat = true) (N : Addr → Prop) :
    Ext μ H ⟨μ.l, fun b => μ'.z b ∨ (b ∈ μ'.l.drop rs.length ∧ N b)⟩ H' ∧ RS Z ⟨μ.l, fun b => μ'.z b ∨ (b ∈ μ'.l.drop rs.length ∧ N b)⟩ (wb S rs (S'.take rs.length)) H' ∧ (∀ (j r : Nat), rs[j]? = some r → μ'.l[j]? = μ.l[r]?) ∧ rs.length ≤ μ'.l.length := by
  have hl : ∀ r ∈ rs, r < μ.l.length := fun r hr => by rw [R.len]; exact ho r hr
  obtain ⟨ν, hν⟩ := e.pre
  have hν : μ'.l = padr μ.l rs ++ ν := hν
  have plen : (padr μ.l rs).length = rs.length := List.length_map _
  have hk : rs.length ≤ μ'.l.length := by rw [hν, List.length_append, plen]; omega
  have mem : ∀ b ∈ padr μ.l rs, b ∈ μ.l := fun b hb => by
    unfold padr at hb
    obtain ⟨r, hr, rfl⟩ := List.mem_map.mp hb
    rw [List.getD_eq_getElem?_getD, List.getElem?_eq_getElem (hl r hr)]
    exact List.getElem_mem _
  have hd : μ'.l.drop rs.length = ν := by rw [hν, ← plen, List.drop_left]
  have at_ : ∀ (j r : Nat), rs[j]? = some r → μ'.l[j]? = μ.l[r]? := fun j r h => by
    have hj : j < rs.length := (List.getElem?_eq_some_iff.mp h).1
    rw [hν, List.getElem?_append_left (by rw [plen]; exact hj), padr_get h (hl r (List.mem_of_getElem? h))]
  have newν : ∀ b ∈ ν, H b = none := fun b hb => by
    rcases e.new b (by rw [hν]; exact List.mem_append_right _ hb) with h | h
    · have := R'.nd
      rw [hν, List.nodup_append] at this
      exact absurd rfl (this.2.2 b h b hb)
    · exact h
  have E : Ext μ H ⟨μ.l, fun b => μ'.z b ∨ (b ∈ μ'.l.drop rs.length ∧ N b)⟩ H' := by
    refine ⟨⟨[], by simp⟩, fun b o hb h => e.keep b o (fun z => hb (mem b z)) h, fun b h => .inl h, e.tup, e.frz, fun b o z h => ⟨.inl (e.fz b o z h).1, (e.fz b o z h).2⟩, fun b z => ?_, e.live⟩
    rcases z with z | z
    · exact e.znew b z
    · rw [hd] at z; exact .inr (newν b z.1)
  refine ⟨E, ?_, at_, hk⟩
  have len : S'.length = μ'.l.length := R'.len.symm
  have tl : rs.length = (S'.take rs.length).length := by rw [List.length_take, len]; omega
  refine ⟨by rw [wb_len]; exact R.len, R.nd, fun i o a h1 h2 => ?_, R.err_ext E, fun b hb => ?_⟩
  · have hi : i < S.length := by rw [← R.len]; exact (List.getElem?_eq_some_iff.mp h2).1
    by_cases hm : i ∈ rs
    · obtain ⟨j, hj⟩ := List.mem_iff_getElem?.mp hm
      have hjl : j < rs.length := (List.getElem?_eq_some_iff.mp hj).1
      rw [wb_in hn hj hi tl] at h1
      have hfl : o.flat = true := List.all_eq_true.mp hf o (List.mem_of_getElem? h1)
      rw [take_get hjl] at h1
      refine OOk.fl (μ := μ') (MoF.same (μ' := ⟨μ.l, fun b => μ'.z b ∨ (b ∈ μ'.l.drop rs.length ∧ N b)⟩) fun _ z => .inl z) hfl (fun _ q => q) (R'.obj j o a h1 ?_)
      rw [at_ j i hj]
      exact h2
    · rw [wb_out hm] at h1
      refine (R.obj i o a h1 h2).mono E fun q hq => e.keep a q (fun z => ?_) hq
      have z : a ∈ padr μ.l rs := z
      unfold padr at z
      obtain ⟨r, hr, e1⟩ := List.mem_map.mp z
      rw [List.getD_eq_getElem?_getD, List.getElem?_eq_getElem (hl r hr)] at e1
      obtain ⟨l2, e2⟩ := List.getElem?_eq_some_iff.mp h2
      exact hm ((List.getElem_inj R.nd).mp (e2.trans e1.symm) ▸ hr)
  · rcases hb with hb | hb
    · refine ⟨?_, (R'.zd b hb).2⟩
      rcases e.znew b hb with h | h
      · exact (R.zd b h).1
      · exact R.fresh h
    · rw [hd] at hb
      refine ⟨R.fresh (newν b hb.1), ?_⟩
      obtain ⟨q, hq, _⟩ := R'.tracked (show b ∈ μ'.l by rw [hν]; exact List.mem_append_right _ hb.1)
      exact ⟨q, hq⟩
/-- an object that stands aside is taken in -/
theorem RS.take_in {μ1 : Mu} {H1 : Hp} (R : RS Z μ S H) (e : Ext μ1 H1 μ H) {a : Addr} {o : Ob} (hn : H1 a = none) (ha : a ∉ μ.l) (haz : ¬ μ.z a) (hx : ∀ gs, H a ≠ some (.xd gs)) (hv : OOk Z H (μ.add a) a o) :
    Ext μ1 H1 (μ.add a) H ∧ RS Z (μ.add a) (S ++ [o]) H := by
  have m : Mo μ H (μ.add a) H := ⟨⟨[a], rfl⟩, fun _ _ h => h, fun _ _ _ h => h, fun _ _ z h => ⟨z, h⟩⟩
  refine ⟨⟨?_, e.keep, fun b hb => ?_, e.tup, e.frz, e.fz, e.znew, e.live⟩, by simp [R.len, add_l], ?_, fun i q b h1 h2 => ?_, fun p hp => ?_, fun b hb => ?_⟩
  · obtain ⟨ν, h⟩ := e.pre
    exact ⟨ν ++ [a], by rw [add_l, h]; simp⟩
  · rcases List.mem_append.mp hb with hb | hb
    · exact e.new b hb
    · rw [List.mem_singleton.mp hb]; exact .inr hn
  · rw [add_l, List.nodup_append]
    refine ⟨R.nd, by simp, fun x hx y hy => ?_⟩
    rw [List.mem_singleton.mp hy]
    rintro rfl
    exact ha ‹_›
  · rw [add_l] at h2
    by_cases hi : i < S.length
    · rw [List.getElem?_append_left hi] at h1
      rw [List.getElem?_append_left (by rw [R.len]; exact hi)] at h2
      exact (R.obj i q b h1 h2).mo m fun x hx => hx
    · have hi' : i = S.length := by
        have := (List.getElem?_eq_some_iff.mp h1).1
        simp at this
        omega
      subst hi'
      rw [List.getElem?_append_right (Nat.le_refl _)] at h1
      rw [← R.len, List.getElem?_append_right (Nat.le_refl _)] at h2
      simp at h1 h2
      subst h1; subst h2
      exact hv
  · obtain ⟨k1, k0, gs, k2, k3⟩ := R.err p hp
    refine ⟨fun hm => ?_, k0, gs, k2, k3.mo m⟩
    rcases List.mem_append.mp hm with hm | hm
    · exact k1 hm
    · rw [List.mem_singleton.mp hm] at k2
      exact hx _ k2
  · obtain ⟨k1, q, k2⟩ := R.zd b hb
    refine ⟨fun hm => ?_, q, k2⟩
    rcases List.mem_append.mp hm with hm | hm
    · exact k1 hm
    · exact haz (List.mem_singleton.mp hm ▸ hb)
end
end Vm
namespace Vm
open PySem L2
abbrev kC (Z : Zz) (Q : VK) (E : XK) : Kt := { v := fun ds _ μ H => ∃ d, ds = [d] ∧ ∀ v, DV Z H μ d v → Q v H, x := fun c fs _ _ μ H => ∀ cls dd, XV Z H μ c fs cls dd → E cls dd H }
/-- the promise of the def f: at most n calls deep -/
def spF (Z : Zz) (P : Pg) (n f : Nat) : Sp := fun vs H Q E => ∃ μ S ds, RS Z μ S H ∧ DVs Z H μ ds vs ∧ Want Z μ H (kC Z Q E) (run P n f ds S)
section
variable {Z : Zz} {P : Pg} {n f : Nat} {F : Fn}
theorem spF_len (hf : P.fn f = some F) : ∀ vs H Q E, spF Z P n f vs H Q E → vs.length = F.np := by
  rintro vs H Q E ⟨μ, S, ds, R, hv, h⟩
  cases n with
  | zero => exact h.elim
  | succ n =>
    unfold run at h
    rw [hf] at h
    dsimp only at h
    split at h
    · rename_i e
      rw [← hv.length, e]
    · exact h.elim
/-- nothing is asked for at the level 0 -/
theorem fnOk_zero {Pr : Program} {w : World} {K : PySem.W.Frag} {mg : Str → Option Value} {base : Heap} {CX : CXT} {k : Nat} {a : Addr} {fd : FuncData} {ps : List Str} : FnOk Pr w K mg base CX k a fd ps (spF Z P 0 f) :=
  ⟨fun _ _ _ _ ⟨_, _, _, _, _, h⟩ => h.elim, fun _ _ _ _ _ _ _ _ _ _ _ _ _ ⟨_, _, _, _, _, h⟩ => h.elim⟩
theorem DVs.some_get {H : Hp} {μ : Mu} : ∀ {ds : List D} {vs : List V} {i : Nat} {d : D}, DVs Z H μ ds vs → (ds.map some)[i]? = some (some d) → ∃ v, (vs.map some)[i]? = some (some v) ∧ DV Z H μ d v := by
  intro ds vs i d h e
  rw [List.getElem?_map] at e
  cases q : ds[i]? with
  | none => rw [q] at e; cases e
  | some x =>
    rw [q] at e
    cases e
    obtain ⟨v, h1, h2⟩ := h.get q
    exact ⟨v, by rw [List.getElem?_map, h1]; rfl, h2⟩
theorem sv_start {H : Hp} {μ : Mu} {N : List Str} {ds : List D} {vs : List V} {np ns : Nat} (hp : Z.pn = []) (hv : DVs Z H μ ds vs) (h1 : ds.length = np) (h2 : N.length = ns) (h3 : np ≤ ns) : SV Z H μ (ds.map some ++ List.replicate (ns - np) none) (L2.start N vs) := by
  have hl := hv.length
  refine ⟨?_, ?_, fun p h => by rw [hp] at h; cases h⟩
  · unfold L2.start
    rw [List.length_append, List.length_append, List.length_map, List.length_map, List.length_replicate, List.length_replicate, h2, ← hl, h1]
  · intro i d e
    unfold L2.start
    by_cases hi : i < ds.length
    · rw [List.getElem?_append_left (by rw [List.length_map]; exact hi)] at e
      rw [List.getElem?_append_left (by rw [List.length_map, ← hl]; exact hi)]
      exact hv.some_get e
    · rw [List.getElem?_append_right (by rw [List.length_map]; omega)] at e
      rw [List.getElem?_replicate] at e
      split at e <;> cases e
/-- the body's reading, from the promise -/
theorem spF_body (hp0 : Z.pn = []) (hf : P.fn f = some F) {N : List Str} (hN : N.length = F.ns) (hp : F.np ≤ F.ns) {vs : List V} {H : Hp} {Q : VK} {E : XK} (h : spF Z P (n + 1) f vs H Q E) :
    rdS Z P (run P n) (fun cls d _ H' => E cls d H') F.body { nx := fun _ H' => Q .non H', rt := Q } (L2.start N vs) H := by
  obtain ⟨μ, S, ds, R, hv, h⟩ := h
  unfold run at h
  rw [hf] at h
  dsimp only at h
  split at h
  · rename_i e
    refine ⟨μ, _, S, R, sv_start hp0 hv e hN hp, ?_⟩
    cases q : ev P (run P n) F.body [] (ds.map some ++ List.replicate (F.ns - F.np) none) S with
    | rt d S1 =>
      rw [q] at h
      intro μ' H' e1 R1 v hv1
      obtain ⟨d', ed, h2⟩ := h μ' H' e1 R1
      cases ed
      exact h2 v hv1
    | nx σ S1 =>
      rw [q] at h
      intro μ' H' e1 R1 τ L
      obtain ⟨d', ed, h2⟩ := h μ' H' e1 R1
      cases ed
      exact h2 .non (by simp only [DV])
    | exc c fs σ S1 =>
      rw [q] at h
      intro μ' H' e1 R1 τ L cls dd hx
      exact h μ' H' e1 R1 cls dd hx
    | val _ _ => rw [q] at h; exact h.elim
    | bk _ _ => rw [q] at h; exact h.elim
    | ct _ _ => rw [q] at h; exact h.elim
    | bad => rw [q] at h; exact h.elim
  · exact h.elim
end
section
variable {X : Cx} {Z : Zz} {P : Pg} {Φ : Nat → List D → Sto → Res} {W : WX} {n f : Nat}
variable {H H' : Hp} {μ μ' : Mu} {S S' : Sto} {σ : Sl} {τ : St} {Q : VK} {k kk : Nat}
variable {a b e o : Expr} {es : List Expr} {kws : List Keyword} {ca cb ck : C} {pos p apos kpos : Pos} {x m : Str} {g : Addr} {fd : FuncData} {ps ks : List Str} {nm : Option Str}
/-- a call's result in an expression -/
theorem Want.call {r : Res} (h : Want Z μ H (kE Z W τ Q) (callR σ r)) : Want Z μ H (kC Z Q (WE W τ)) r := by
  cases r with
  | val ds S1 =>
    match ds, h with
    | [], h => exact h.elim
    | [d], h => exact h
    | _ :: _ :: _, h => exact h.elim
  | exc c fs σ1 S1 => exact h
  | nx _ _ => exact h.elim
  | rt _ _ => exact h.elim
  | bk _ _ => exact h.elim
  | ct _ _ => exact h.elim
  | bad => exact h.elim
/-- behind a call that was told of its own objects alone -/
theorem Want.ret {ds : List D} {rs : List Nat} {r : Res} (R : RS Z μ S H) (hn : rs.Nodup) (ho : ∀ r ∈ rs, r < S.length) (h : Want Z μ H (kE Z W τ Q) (finL σ S rs r)) : Want Z ⟨padr μ.l rs, μ.z⟩ H (kC Z Q (WE W τ)) r := by
  cases r with
  | val es S' =>
    match es, h with
    | [], h => exact h.elim
    | _ :: _ :: _, h => exact h.elim
    | [d], h =>
      intro μ' H' e R'
      simp only [finL] at h
      split at h
      · rename_i hf
        refine ⟨d, rfl, fun v hv => ?_⟩
        obtain ⟨E, R2, at_, hk⟩ := R.ret hn ho e R' hf (fun _ => True)
        have rest : ∀ {r' : Res}, Want Z μ H (kE Z W τ Q) r' → (∀ d', frzD S' rs.length 20 d = some d' → r' = .val [d'] (wb S rs (S'.take rs.length))) → (∃ d', frzD S' rs.length 20 d = some d') → Q v H' := fun {r'} h1 h2 ⟨d', h3⟩ => by
          rw [h2 d' h3] at h1
          exact h1.dE' E R2 (frz_ok (μ2 := ⟨μ.l, fun b => μ'.z b ∨ (b ∈ μ'.l.drop rs.length ∧ True)⟩) R' (MoF.same fun _ z => Or.inl z) (fun b hb => Or.inr ⟨hb, trivial⟩) 20 d d' v h3 hv)
        have other : Want Z μ H (kE Z W τ Q) (match frzD S' rs.length 20 d with
            | some d' => .val [d'] (wb S rs (S'.take rs.length))
            | none => .bad) → Q v H' := fun h1 => by
          cases e1 : frzD S' rs.length 20 d with
          | none => rw [e1] at h1; exact h1.elim
          | some d' => exact rest h1 (fun d'' h2 => by rw [h2]) ⟨d', e1⟩
        cases d with
        | ref j =>
          dsimp only at h
          simp only [DV] at hv
          obtain ⟨a, ha, rfl⟩ := hv
          split at h
          · rename_i hj
            rw [List.getElem?_eq_getElem hj] at h
            refine h.dE' E R2 ?_
            simp only [DV]
            exact ⟨a, (at_ j _ (List.getElem?_eq_getElem hj)).symm.trans ha, rfl⟩
          · rename_i hj
            cases e1 : S'[j]? with
            | none => rw [e1] at h; exact h.elim
            | some o =>
              rw [e1] at h
              dsimp only at h
              split at h
              · rename_i hfo
                obtain ⟨E3, R3, _, _⟩ := R.ret hn ho e R' hf (fun b => b ≠ a)
                have hmd : a ∈ μ'.l.drop rs.length := mem_drop_of ha (by omega)
                have haH : H a = none := by
                  rcases e.new a (List.mem_of_getElem? ha) with z | z
                  · exfalso
                    have hp : (padr μ.l rs).length = rs.length := List.length_map _
                    obtain ⟨ν, hν⟩ := e.pre
                    have hν : μ'.l = padr μ.l rs ++ ν := hν
                    rw [hν, ← hp, List.drop_left] at hmd
                    have nd := R'.nd
                    rw [hν, List.nodup_append] at nd
                    exact nd.2.2 a z a hmd rfl
                  · exact z
                have haz : ¬ (μ'.z a ∨ (a ∈ μ'.l.drop rs.length ∧ a ≠ a)) := fun z => by
                  rcases z with z | z
                  · exact (R'.zd a z).1 (List.mem_of_getElem? ha)
                  · exact z.2 rfl
                obtain ⟨E4, R4⟩ := R3.take_in E3 (a := a) (o := o) haH (R.fresh haH) haz (fun gs => R'.not_xd (List.mem_of_getElem? ha))
                  (OOk.fl (μ := μ') (MoF.same (μ' := Mu.add ⟨μ.l, fun b => μ'.z b ∨ (b ∈ μ'.l.drop rs.length ∧ b ≠ a)⟩ a) fun _ z => .inl z) hfo (fun _ q => q) (R'.obj j o a e1 ha))
                refine h.dE' E4 R4 ?_
                simp only [DV]
                refine ⟨a, ?_, rfl⟩
                show (μ.l ++ [a])[S.length]? = some a
                rw [← R.len, List.getElem?_append_right (Nat.le_refl _)]
                simp
              · exact h.elim
        | non => exact other h
        | bl _ => exact other h
        | int _ => exact other h
        | str _ => exact other h
        | tup _ => exact other h
        | scr _ => exact other h
        | rol _ => exact other h
        | rin _ _ _ => exact other h
        | rdc _ _ => exact other h
        | cls _ => exact other h
        | unk => exact other h
      · exact h.elim
  | exc c fs σ1 S' =>
    intro μ' H' e R' cls dd hx
    simp only [finL] at h
    split at h
    · rename_i hf
      obtain ⟨E, R2, at_, hk⟩ := R.ret hn ho e R' hf (fun _ => True)
      cases e1 : frzF S' rs.length fs with
      | none => rw [e1] at h; exact h.elim
      | some fs' =>
        rw [e1] at h
        refine h _ _ E R2 cls dd ?_
        obtain ⟨rfl, hx⟩ := hx
        refine ⟨rfl, ?_⟩
        rcases hx with ⟨rfl, rfl⟩ | ⟨d, gs, rfl, h1, h2, h3⟩
        · exact .inl ⟨frzF_nil e1, rfl⟩
        · refine .inr ⟨d, gs, rfl, fun hm => ?_, h2, frzF_ok (μ2 := ⟨μ.l, fun b => μ'.z b ∨ (b ∈ μ'.l.drop rs.length ∧ True)⟩) R' (MoF.same fun _ z => Or.inl z) (fun b hb => Or.inr ⟨hb, trivial⟩) e1 h3⟩
          exact R2.not_xd hm h2
    · exact h.elim
  | nx _ _ => exact h.elim
  | rt _ _ => exact h.elim
  | bk _ _ => exact h.elim
  | ct _ _ => exact h.elim
  | bad => exact h.elim
theorem spF_of {ds : List D} {vs : List V} (R : RS Z μ S H) (hv : DVs Z H μ ds vs) (h : Want Z μ H (kE Z W τ Q) (callL σ (run P n) f ds S)) : spF Z P n f vs H Q (WE W τ) := by
  unfold callL at h
  split at h
  · rename_i hl
    obtain ⟨hn, ho, hf⟩ := locOk_iff hl
    have ho' : ∀ r ∈ placesOf ds, r < S.length := fun r hr => by
      obtain ⟨o, h1, _⟩ := ho r hr
      exact (List.getElem?_eq_some_iff.mp h1).1
    exact ⟨_, _, _, R.sub hn ho, lo_ok (fun r hr => by rw [R.len]; exact ho' r hr) (fun i hi => mem_places hi) hf hv, Want.ret (ds := ds) R hn ho' h⟩
  · exact ⟨μ, S, ds, R, hv, Want.call h⟩
theorem ev_cal {f : Nat} {as : C} {i : List D} {σ : Sl} {S : Sto} : ev P Φ (.cal f as) i σ S = bv σ (ev P Φ as [] σ S) fun ds S => callL σ Φ f ds S := rfl
theorem v_cal (tk : Takes X W) (F : FnOk X.prog X.w X.K X.mg X.base (L2.CX X.prog X.w) k g fd ps (spF Z P n f)) (hr : Room k X.A) (hg : Gl X x) (hm : X.mg x = some (.ref g)) (hk : PySem.W.keepIn X.K (.ref g) = true) (hb : Binds X.K fd ps [])
    (ha : PA X (e :: es) (rdA Z P (run P n) W ca)) (hdb : (x == ("__debug__" : Str)) = false := by decide) (he : starEach (e :: es) X.env = (false, eval e X.env) :: starEach es X.env := by rfl) (hpl : (backTo pos (starEach es X.env)).any (·.1) = false := by rfl) :
    PE X (.Call (.Name x p) (e :: es) [] pos) (rdE Z P (run P n) W (.cal f ca)) := by
  refine PE.imp (pe_callS (E := WE W) F hr hg hm hk hb (fun σ => passAt tk σ) ha hdb he hpl) ?_
  rintro τ H Q ⟨μ, σ, S, R, L, h⟩
  rw [ev_cal] at h
  exact stepA R L h _ (fun _ _ _ _ _ _ _ z => z) fun ds S1 μ1 H1 vs e1 R1 L1 hvs h1 => spF_of R1 hvs h1
theorem Vals.get : ∀ {vs : List V} {us : List Value} {i : Nat} {v : V}, Vals vs us → vs[i]? = some v → ∃ u, us[i]? = some u ∧ RelV v u
  | _, _, _, _, .nil, h => by simp at h
  | _, _, 0, _, .cons r _, h => by simp at h; subst h; exact ⟨_, rfl, r⟩
  | _, _, i + 1, _, .cons _ t, h => by
    simp at h
    obtain ⟨u, h1, h2⟩ := Vals.get t h
    exact ⟨u, by simpa using h1, h2⟩
theorem PK.imp {t t' : TA} (h : PK X kws t) (f : ∀ σ H Q, t' σ H Q → t σ H Q) : PK X kws t' := ⟨fun p pins s σ H Q I q => h.run p pins s σ H Q I (f σ H Q q)⟩
variable {prm : List (Nat ⊕ D)} {na nk : Nat}
end
end Vm
namespace Vm
open PySem L2
section
variable {X : Cx} {Z : Zz} {P : Pg} {Φ : Nat → List D → Sto → Res} {W : WX}
/-- names, parameters ahead, in a scope: a look at it -/
def scL (N ps : List Str) (sc : Scope) : Bool :=
  (match sc.kind with
  | .function => true
  | _ => false) && (!sc.isCoroutine && (!sc.isGenerator && (decide N.Nodup && (decide (N.take ps.length = ps) && (ps.all (fun x => match sc.names.lookup x with
  | some .local => true
  | some .cell => true
  | _ => false) && sc.names.all (fun y => match y.2 with
  | .free => false
  | _ => true))))))
theorem scL_ok {N ps : List Str} {sc : Scope} (h : scL N ps sc = true) : FnScope N ps sc := by
  unfold scL at h
  simp only [Bool.and_eq_true, Bool.not_eq_true', decide_eq_true_eq, List.all_eq_true] at h
  obtain ⟨h1, h2, h3, h4, h5, h6, h7⟩ := h
  refine ⟨?_, h2, h3, h4, h5, fun x hx => ?_, fun y hy e => ?_⟩
  · split at h1
    · assumption
    · cases h1
  · have := h6 x hx
    split at this
    · rename_i e; exact .inl e
    · rename_i e; exact .inr e
    · cases this
  · have := h7 y hy
    rw [e] at this
    cases this
theorem v_v (i : Nat) {x : Str} {pos : Pos} (hN : X.N[i]? = some x := by rfl) (hv : Vis X.env.scope x := by first | exact Or.inl rfl | exact Or.inr (Or.inl rfl) | exact Or.inr (Or.inr rfl)) (hd : (x == ("__debug__" : Str)) = false := by decide)
    (hcd : (x == ("__classdict__" : Str)) = false := by decide) : PE X (.Name x pos) (rdE Z P Φ W (.var i)) := v_var hN hv hd hcd
theorem g_n (i : Nat) {x : Str} {pos : Pos} (hN : X.N.Nodup) (hi : X.N[i]? = some x := by rfl) (hx : Loc X.env.scope x := by first | exact Or.inl rfl | exact Or.inr rfl) (hf : X.fn x = true ∨ X.env.scope.names.lookup x = some .local := by first | exact .inl rfl | exact .inr rfl) :
    PG X (.Name x pos) (rdG Z P Φ (.gn i)) := g_name hN hi hx hf
theorem s_n (i : Nat) {x : Str} {e : Expr} {ca : C} {pos pos' : Pos} (hN : X.N.Nodup) (ha : PE X e (rdE Z P Φ W ca)) (hi : X.N[i]? = some x := by rfl) (hx : Loc X.env.scope x := by first | exact Or.inl rfl | exact Or.inr rfl) (hs : swapsWith e (some (.Name x pos')) pos.line X.env = pure false := by rfl)
    (hf : X.fn x = true ∨ X.env.scope.names.lookup x = some .local := by first | exact .inl rfl | exact .inr rfl) : PS X (.Assign [.Name x pos'] e pos) (rdS Z P Φ W (.asg (.gn i) ca)) := s_set hN hi hx ha hs hf
theorem g_k (i : Nat) {x : Str} {pos : Pos} (hN : X.N.Nodup) (hi : X.N[i]? = some x := by rfl) (hx : Loc X.env.scope x := by first | exact Or.inl rfl | exact Or.inr rfl) (hf : X.fn x = true ∨ X.env.scope.names.lookup x = some .local := by first | exact .inl rfl | exact .inr rfl) :
    PG X (.Name x pos) (gName i) := pg_name hN hi hx hf
end
section
variable {X : Cx} {Z : Zz} {P : Pg} {Φ : Nat → List D → Sto → Res} {W : WX}
variable {H H' : Hp} {μ μ' : Mu} {S S' : Sto} {σ : Sl} {τ : St} {Q : VK} {k : Nat}
variable {a b e o : Expr} {ca cb co ci cg : C} {pos p : Pos}
theorem hu65 {A : Around} (hr : Room k A) : A.units + 65 < cLine := by
  have := hr.un
  omega
theorem kG_x {Q : St → Hp → Prop} : ∀ c fs S1 μ1 H1, Ext μ H μ1 H1 → RS Z μ1 S1 H1 → (kG Z Q).x c fs σ S1 μ1 H1 → kX Z W τ c fs σ S1 μ1 H1 := fun _ _ _ _ _ _ _ z => z.elim
theorem g_idx (ho : PE X o (rdE Z P Φ W co)) (hi : PE X e (rdE Z P Φ W ci)) (ha : ∀ v, assign (.Subscript o e pos) X.env v = (do
      let ov ← holding [v] (eval o X.env)
      let iv ← holding [v, ov] (eval e X.env)
      standAt pos
      holding [v, ov, iv] (setItem ov iv v)
      release [v, ov, iv] []) := by intro _; rfl) : PG X (.Subscript o e pos) (rdG Z P Φ (.gi co ci)) := by
  refine PG.imp (pg_sub ho hi set_list ha) ?_
  rintro v τ H Q ⟨μ, σ, S, d, R, L, hv, h⟩
  simp only [ev] at h
  refine stepE R L h _ kG_x fun x S1 μ1 H1 w e1 R1 L1 hw h1 => stepE R1 L1 h1 _ kG_x fun y S2 μ2 H2 u e2 R2 L2' hu h2 => ?_
  cases x with
  | ref r =>
    cases y with
    | int i =>
      dsimp only at h2
      cases q : S2[r]? with
      | none => rw [q] at h2; exact h2.elim
      | some ob =>
        rw [q] at h2
        cases ob with
        | lst xs =>
          dsimp only at h2
          cases q2 : ixN xs.length i with
          | none => rw [q2] at h2; exact h2.elim
          | some j =>
            rw [q2] at h2
            dsimp only at h2
            have hw2 := hw.mono e2
            simp only [DV] at hw2 hu
            subst hu
            obtain ⟨a, ha', rfl⟩ := hw2
            obtain ⟨a', vs, ha2, h3, h4, hz⟩ := R2.lst_tracked q
            rw [ha'] at ha2; cases ha2
            obtain ⟨q3, q4, q5, q6⟩ := ixN_seq q2
            obtain ⟨e3, R3⟩ := R2.write (o := .lst (vs.set j v)) (ob := .lst (xs.set j d)) ha' fun e3 => ⟨by rw [List.length_set]; exact hz, _, upd_same, (h4.mono e3).set (((hv.mono e1).mono e2).mono e3) j⟩
            refine ⟨a, vs, i, j, rfl, rfl, h3, by rw [← h4.length]; exact q2, ?_⟩
            exact h2 μ2 _ e3 R3 τ (L2'.mono e3)
        | _ => exact h2.elim
    | _ => exact h2.elim
  | _ => exact h2.elim
/-- a value that the module holds -/
def GK (K : PySem.W.Frag) (mg : Str → Option Value) (x : Str) (d : D) : Prop := ∃ u v, mg x = some u ∧ RelV v u ∧ ∀ Z : Zz, Z.K = K → GV Z d v
theorem v_glx {x : Str} {n : Nat} {d : D} {pos : Pos} (hg : Gl X x) (h : GK Z.K X.mg x d) (hn : P.gl n = some d) (hd : (x == ("__debug__" : Str)) = false := by decide) : PE X (.Name x pos) (rdE Z P Φ W (.gl n)) := by
  obtain ⟨u, v, h1, h2, h3⟩ := h
  exact v_gl hg h1 h2 hn (h3 Z rfl) hd
end
theorem DVs.ints {Z : Zz} {H : Hp} {μ : Mu} : ∀ ns : List Int, DVs Z H μ (ns.map D.int) (ns.map V.int)
  | [] => by simp only [List.map_nil, DVs]
  | n :: ns => by
    simp only [List.map_cons, DVs]
    exact ⟨_, _, rfl, by simp only [DV], DVs.ints ns⟩
/-- the law's promise, from what the machine says of it -/
theorem spF_law {Z : Zz} {P : Pg} {n f : Nat} {H : Hp} {a : Addr} {ns : List Int} (hx : Z.xs = []) (hO : Only H) (hS : SqL Z.K H a (ns.map V.int)) (h : ∃ S, run P n f [.scr (ns.map D.int)] [] = .val [.bl true] S) :
    spF Z P n f [.ref a] H (fun v _ => v = .bl true) fun _ _ _ => False := by
  obtain ⟨S', h⟩ := h
  refine ⟨⟨[], fun _ => False⟩, [], [.scr (ns.map D.int)], ⟨rfl, .nil, (fun i o a h => by simp at h), (fun p hp => by rw [hx] at hp; cases hp), fun b z => z.elim⟩, DVs.one ?_, ?_⟩
  · simp only [DV]
    refine ⟨a, _, rfl, ?_, DVs.ints ns⟩
    rcases hS with (h | ⟨o, h⟩) | h
    · rcases hO a with q | ⟨o, xs, q⟩
      · rw [q] at h; cases h
      · rw [q] at h; cases h
    · exact .inl ⟨o, h⟩
    · exact .inr h
  · rw [h]
    intro μ' H' e R
    exact ⟨_, rfl, fun v hv => by simpa only [DV] using hv⟩
/-- the law's promise -/
def spL (K : PySem.W.Frag) : Sp := fun vs H Q _ => ∃ (a : Addr) (ns : List Int), vs = [.ref a] ∧ ns.length ≤ 63 ∧ Only H ∧ SqL K H a (ns.map V.int) ∧ ∀ H', Q (.bl true) H'
theorem spL_imp {Z : Zz} {P : Pg} {n f : Nat} (hx : Z.xs = []) (h : ∀ ns : List Int, ns.length ≤ 63 → ∃ S, run P n f [.scr (ns.map D.int)] [] = .val [.bl true] S) : ∀ vs H Q E, spL Z.K vs H Q E → spF Z P n f vs H Q E := by
  rintro vs H Q E ⟨a, ns, rfl, hl, hO, hS, hq⟩
  obtain ⟨μ, S, ds, R, hv, w⟩ := spF_law (P := P) (n := n) (f := f) hx hO hS (h ns hl)
  refine ⟨μ, S, ds, R, hv, w.mono ?_ (fun _ _ _ _ _ _ z => z) (fun _ _ _ _ _ _ z => z) (fun _ _ _ _ _ _ z => z) (fun _ _ _ _ _ _ z => z) ?_⟩
  · rintro ds S1 μ1 H1 _ _ ⟨d, rfl, z⟩
    refine ⟨d, rfl, fun v hv => ?_⟩
    rw [z v hv]
    exact hq H1
  · exact fun c fs _ S1 μ1 H1 _ _ z cls dd hx => (z cls dd hx).elim
theorem walkV {l : PySem.W.OpenLaw} {q : Program} {loose : List Str} {XP : (Str → Option Value) → Heap → Prop} {YP : World → Heap → Prop} {d : DefRec} {K : Params → PySem.W.Frag} {k : Nat} (hn : l.most = some 63) (hdf : d.params.defaults = []) (hr : Room k callerA)
    (hY : ∀ (w : World) (h : Heap), YP w h → (K w.params).In h)
    (F : ∀ (w : World) (mg : Str → Option Value) (fa : Addr) (h : Heap), (K w.params).In h → h.Ns mainGlobals mg → mg d.name = some (.ref fa) →
      ∃ fd : FuncData, (∀ (s : Shared) (u : Value), BindsTo s fd ⟨[u], []⟩ [("_law_script", u)]) ∧ ∀ base : Heap, (K w.params).In base → base.Ns mainGlobals mg → FnOk l.prog w (K w.params) mg base (L2.CX l.prog w) k fa fd ["_law_script"] (spL (K w.params))) :
    PySem.W.WalkO q loose XP YP l.row.toRowW d [] (fun f vs => PySem.call f vs) :=
  L2.walk_of (n := 63) (k := k) (x := "_law_script") (CX := fun w => L2.CX l.prog w) (sp := fun w => spL (K w.params)) hn (by decide) hdf hr hY F (fun w H a ns hl hO hS => ⟨a, ns, rfl, hl, hO, hS, fun _ => rfl⟩)
    fun w H s e s' ⟨_, _, _, _, _, _, _, _, _, _, _, _, z⟩ => z
/-- a value of the written part -/
def KV1 (K : PySem.W.Frag) (d : D) (u : Value) : Prop := ∃ v, RelV v u ∧ ∀ Z : Zz, Z.K = K → GV Z d v
section
variable {K : PySem.W.Frag}
theorem kv_int {i : Int} {t : Tok} : KV1 K (.int i) (.int i t) := ⟨.int i, ⟨t, rfl⟩, fun Z _ H μ => by simp only [DV]⟩
theorem gk_of {mg : Str → Option Value} {h : Heap} {x : Str} {u : Value} {d : D} (X : K.In h) (G : h.Ns mainGlobals mg) (e : PySem.W.nsIn K mainGlobals x = some (some u)) (v : KV1 K d u) : GK K mg x d := by
  obtain ⟨w, r, g⟩ := v
  exact ⟨u, w, PySem.W.mg_of X G e, r, g⟩
end
section
variable {X : Cx} {Z : Zz} {P : Pg} {Φ : Nat → List D → Sto → Res} {W : WX}
variable {H H' : Hp} {μ μ' : Mu} {S S' : Sto} {σ : Sl} {τ : St} {Q : VK} {a : Expr} {ca : C}
theorem RS.cut {n : Nat} (R : RS Z μ S H) (hn : n = S.length) {μ' : Mu} {S' : Sto} {H' : Hp} (e : Ext μ H μ' H') (R' : RS Z μ' S' H') (hf : (S'.take n).all Ob.flat = true) :
    Ext μ H ⟨μ.l, fun b => μ'.z b ∨ b ∈ μ'.l.drop n⟩ H' ∧ RS Z ⟨μ.l, fun b => μ'.z b ∨ b ∈ μ'.l.drop n⟩ (S'.take n) H' := by
  obtain ⟨ν, hν⟩ := e.pre
  have hl : μ.l.length = n := by rw [R.len, hn]
  have hd : μ'.l.drop n = ν := by rw [hν, ← hl, List.drop_left]
  have newν : ∀ b ∈ ν, H b = none := fun b hb => by
    rcases e.new b (by rw [hν]; exact List.mem_append_right _ hb) with h | h
    · have := R'.nd
      rw [hν, List.nodup_append] at this
      exact absurd rfl (this.2.2 b h b hb)
    · exact h
  have E : Ext μ H ⟨μ.l, fun b => μ'.z b ∨ b ∈ μ'.l.drop n⟩ H' := by
    refine ⟨⟨[], by simp⟩, e.keep, fun b h => .inl h, e.tup, e.frz, fun b o z h => ⟨.inl (e.fz b o z h).1, (e.fz b o z h).2⟩, fun b z => ?_, e.live⟩
    rcases z with z | z
    · exact e.znew b z
    · rw [hd] at z; exact .inr (newν b z)
  have len : S'.length = μ'.l.length := R'.len.symm
  have hk : n ≤ S'.length := by rw [len, hν, List.length_append, hl]; omega
  refine ⟨E, by rw [List.length_take]; show μ.l.length = _; omega, R.nd, fun i o a h1 h2 => ?_, R.err_ext E, fun b hb => ?_⟩
  · have h2 : μ.l[i]? = some a := h2
    have hi : i < n := by rw [← hl]; exact (List.getElem?_eq_some_iff.mp h2).1
    have hfl : o.flat = true := List.all_eq_true.mp hf o (List.mem_of_getElem? h1)
    rw [take_get hi] at h1
    refine OOk.fl (μ := μ') (MoF.same (μ' := ⟨μ.l, fun b => μ'.z b ∨ b ∈ μ'.l.drop n⟩) fun _ z => .inl z) hfl (fun _ q => q) (R'.obj i o a h1 ?_)
    rw [hν, List.getElem?_append_left (by rw [hl]; exact hi)]
    exact h2
  · rcases hb with hb | hb
    · refine ⟨?_, (R'.zd b hb).2⟩
      rcases e.znew b hb with h | h
      · exact (R.zd b h).1
      · exact R.fresh h
    · rw [hd] at hb
      refine ⟨R.fresh (newν b hb), ?_⟩
      obtain ⟨q, hq, _⟩ := R'.tracked (show b ∈ μ'.l by rw [hν]; exact List.mem_append_right _ hb)
      exact ⟨q, hq⟩
theorem rd_frz : rdE Z P Φ W (.frz ca) τ H Q → rdE Z P Φ W ca τ H Q := by
  rintro ⟨μ, σ, S, R, L, h⟩
  simp only [ev] at h
  refine ⟨μ, σ, S, R, L, ?_⟩
  cases q : ev P Φ ca [] σ S with
  | val es S' =>
    rw [q] at h
    match es, h with
    | [], h => exact h.elim
    | _ :: _ :: _, h => exact h.elim
    | [d], h =>
      intro μ' H' e R'
      simp only [frzR] at h
      split at h
      · rename_i hf
        refine ⟨d, rfl, fun v hv => ?_⟩
        obtain ⟨E, R2⟩ := R.cut rfl e R' hf
        cases e1 : frzD S' S.length 20 d with
        | none => rw [e1] at h; exact h.elim
        | some d' =>
          rw [e1] at h
          exact h.dE' E R2 (frz_ok (μ2 := ⟨μ.l, fun b => μ'.z b ∨ b ∈ μ'.l.drop S.length⟩) R' (MoF.same fun _ z => Or.inl z) (fun b hb => Or.inr hb) 20 d d' v e1 hv)
      · exact h.elim
  | exc c fs σ1 S' =>
    rw [q] at h
    intro μ' H' e R' cls dd hx
    simp only [frzR] at h
    split at h
    · rename_i hf
      obtain ⟨E, R2⟩ := R.cut rfl e R' hf
      cases e1 : frzF S' S.length fs with
      | none => rw [e1] at h; exact h.elim
      | some fs' =>
        rw [e1] at h
        refine h _ _ E R2 cls dd ?_
        obtain ⟨rfl, hx⟩ := hx
        refine ⟨rfl, ?_⟩
        rcases hx with ⟨rfl, rfl⟩ | ⟨d, gs, rfl, h1, h2, h3⟩
        · exact .inl ⟨frzF_nil e1, rfl⟩
        · exact .inr ⟨d, gs, rfl, fun hm => R2.not_xd hm h2, h2, frzF_ok (μ2 := ⟨μ.l, fun b => μ'.z b ∨ b ∈ μ'.l.drop S.length⟩) R' (MoF.same fun _ z => Or.inl z) (fun b hb => Or.inr hb) e1 h3⟩
    · exact h.elim
  | _ => rw [q] at h; exact h.elim
theorem v_frz (ha : PE X a (rdE Z P Φ W ca)) : PE X a (rdE Z P Φ W (.frz ca)) := PE.imp ha fun _ _ _ => rd_frz
end
end Vm
namespace Vm
open PySem L2
def nmOf (names : List Str) (i : Nat) : Str := match names[i]? with
  | some s => s
  | none => ⟨#[2097152 + i]⟩
def nmC (names : List Str) : Bool := decide names.Nodup && names.all fun s => s.cps.all fun c => decide (c < 2097152)
theorem nm_inj {names : List Str} (h : nmC names = true) {i j : Nat} (e : nmOf names i = nmOf names j) : i = j := by
  unfold nmC at h
  simp only [Bool.and_eq_true, decide_eq_true_eq, List.all_eq_true] at h
  obtain ⟨hn, hb⟩ := h
  have low : ∀ {k : Nat} {s : Str}, names[k]? = some s → s ≠ ⟨#[2097152 + i]⟩ ∧ s ≠ ⟨#[2097152 + j]⟩ := fun {k s} hk => by
    have := hb s (List.mem_of_getElem? hk)
    constructor
    · rintro rfl; simp at this; omega
    · rintro rfl; simp at this; omega
  unfold nmOf at e
  cases e1 : names[i]? with
  | none =>
    cases e2 : names[j]? with
    | none => rw [e1, e2] at e; simp at e; exact e
    | some t => rw [e1, e2] at e; exact absurd e.symm (low e2).1
  | some s =>
    cases e2 : names[j]? with
    | none => rw [e1, e2] at e; exact absurd e (low e1).2
    | some t =>
      rw [e1, e2] at e
      dsimp only at e
      subst e
      obtain ⟨l1, g1⟩ := List.getElem?_eq_some_iff.mp e1
      obtain ⟨l2, g2⟩ := List.getElem?_eq_some_iff.mp e2
      exact (List.getElem_inj hn).mp (g1.trans g2.symm)
section
variable {Z : Zz} {H : Hp} {μ : Mu}
theorem FVs.get (hi : ∀ f g, Z.nm f = Z.nm g → f = g) {f : Nat} : ∀ {fs : List (Nat × D)} {gs : List (Str × V)} {d : D}, FVs Z H μ fs gs → fs.lookup f = some d → ∃ v, gs.lookup (Z.nm f) = some v ∧ DV Z H μ d v
  | [], _, _, _, h => by cases h
  | (g, x) :: r, gs, d, hf, h => by
    simp only [FVs] at hf
    obtain ⟨v, q, rfl, h1, h2⟩ := hf
    rw [List.lookup_cons] at h
    rw [List.lookup_cons]
    by_cases e : f = g
    · subst e
      rw [beq_self_eq_true] at h ⊢
      cases h
      exact ⟨v, rfl, h1⟩
    · rw [beq_eq_false_iff_ne.mpr e] at h
      rw [beq_eq_false_iff_ne.mpr fun z => e (hi _ _ z)]
      exact FVs.get hi h2 h
theorem FVs.none (hi : ∀ f g, Z.nm f = Z.nm g → f = g) {f : Nat} : ∀ {fs : List (Nat × D)} {gs : List (Str × V)}, FVs Z H μ fs gs → fs.lookup f = none → gs.lookup (Z.nm f) = none
  | [], gs, hf, _ => by simp only [FVs] at hf; subst hf; rfl
  | (g, x) :: r, gs, hf, h => by
    simp only [FVs] at hf
    obtain ⟨v, q, rfl, h1, h2⟩ := hf
    rw [List.lookup_cons] at h
    rw [List.lookup_cons]
    by_cases e : f = g
    · subst e
      rw [beq_self_eq_true] at h
      cases h
    · rw [beq_eq_false_iff_ne.mpr e] at h
      rw [beq_eq_false_iff_ne.mpr fun z => e (hi _ _ z)]
      exact FVs.none hi h2 h
theorem FVs.put (hi : ∀ f g, Z.nm f = Z.nm g → f = g) {f : Nat} {d : D} {v : V} (hd : DV Z H μ d v) : ∀ {fs : List (Nat × D)} {gs : List (Str × V)}, FVs Z H μ fs gs → FVs Z H μ (putD f d fs) (putF (Z.nm f) v gs)
  | [], gs, hf => by
    simp only [FVs] at hf
    subst hf
    simp only [putD, putF, FVs]
    exact ⟨v, [], rfl, hd, rfl⟩
  | (g, x) :: r, gs, hf => by
    simp only [FVs] at hf
    obtain ⟨w, q, rfl, h1, h2⟩ := hf
    rw [putD, putF]
    by_cases e : g = f
    · subst e
      rw [if_pos rfl, if_pos rfl]
      simp only [FVs]
      exact ⟨v, q, rfl, hd, h2⟩
    · rw [if_neg e, if_neg fun z => e (hi _ _ z)]
      simp only [FVs]
      exact ⟨w, _, rfl, h1, FVs.put hi hd h2⟩
theorem FVs.length : ∀ {fs : List (Nat × D)} {gs : List (Str × V)}, FVs Z H μ fs gs → fs.length = gs.length
  | [], gs, hf => by simp only [FVs] at hf; subst hf; rfl
  | (g, x) :: r, gs, hf => by
    simp only [FVs] at hf
    obtain ⟨w, q, rfl, h1, h2⟩ := hf
    rw [List.length_cons, List.length_cons, FVs.length h2]
end
/-- what the classes are said to have -/
structure ObjF (K : PySem.W.Frag) (Z : Zz) (P : Pg) : Prop where
  inj : ∀ f g, Z.nm f = Z.nm g → f = g
  fld : ∀ c f, P.fd c f = true → Cls K (Z.ca c) ∧ NoAttr K (Z.ca c) (Z.nm f)
theorem RS.ins {Z : Zz} {H : Hp} {μ : Mu} {S : Sto} (R : RS Z μ S H) {i c : Nat} {fs : List (Nat × D)} (h : S[i]? = some (.ins c fs)) : ∃ a dx gs, μ.l[i]? = some a ∧ H a = some (.ins (Z.ca c) dx gs) ∧ FVs Z H μ fs gs := by
  obtain ⟨a, ha, ok⟩ := R.at h
  obtain ⟨dx, gs, h1, h2⟩ := ok
  exact ⟨a, dx, gs, ha, h1, h2⟩
/-- an instance, of the store or kept -/
theorem RS.insv {Z : Zz} {H : Hp} {μ : Mu} {S : Sto} (R : RS Z μ S H) {x : D} {c : Nat} {fs : List (Nat × D)} {v : V} (h : insOf S x = some (c, fs)) (hv : DV Z H μ x v) : ∃ a dx gs, v = .ref a ∧ H a = some (.ins (Z.ca c) dx gs) ∧ FVs Z H μ fs gs := by
  cases x with
  | ref i =>
    simp only [insOf] at h
    cases e : S[i]? with
    | none => rw [e] at h; cases h
    | some o =>
      rw [e] at h
      cases o with
      | ins c' fs' =>
        cases h
        obtain ⟨a, dx, gs, h1, h2, h3⟩ := R.ins e
        simp only [DV] at hv
        obtain ⟨a', h4, rfl⟩ := hv
        rw [h1] at h4; cases h4
        exact ⟨a, dx, gs, rfl, h2, h3⟩
      | _ => cases h
  | rin c' ns ds =>
    cases h
    simp only [DV] at hv
    obtain ⟨a, dx, vs, rfl, _, h1, h2, h3⟩ := hv
    exact ⟨a, dx, _, rfl, h1, FVs.of_zip h2 h3⟩
  | _ => cases h
section
variable {X : Cx} {Z : Zz} {P : Pg} {Φ : Nat → List D → Sto → Res} {W : WX} {n f : Nat}
variable {H H' : Hp} {μ μ' : Mu} {S S' : Sto} {σ : Sl} {τ : St} {Q : VK} {k : Nat}
variable {a b e o : Expr} {es : List Expr} {ca cb co cr : C} {pos p apos : Pos} {x : Str}
theorem v_att (hO : ObjF X.K Z P) (hx : x = Z.nm f) (ha : PE X a (rdE Z P Φ W ca)) (hb : attributeBase a x X.env (eval a X.env) = eval a X.env := by rfl) : PE X (.Attribute a x pos) (rdE Z P Φ W (.att f ca)) := by
  refine PE.imp (pe_fld ha hb) ?_
  rintro τ H Q ⟨μ, σ, S, R, L, h⟩
  simp only [ev] at h
  refine stepEE R L h _ fun d S1 μ1 H1 v e1 R1 L1 hv h1 => ?_
  cases q : insOf S1 d with
  | none => rw [q] at h1; exact h1.elim
  | some cf =>
    obtain ⟨c, fs⟩ := cf
    rw [q] at h1
    dsimp only at h1
    cases q2 : fs.lookup f with
    | none => rw [q2] at h1; exact h1.elim
    | some d =>
      rw [q2] at h1
      dsimp only at h1
      split at h1
      · rename_i hf
        obtain ⟨c1, c2⟩ := hO.fld c f hf
        obtain ⟨u, dx, gs, rfl, g1, g2⟩ := R1.insv q hv
        obtain ⟨w, k1, k2⟩ := g2.get hO.inj q2
        subst hx
        exact ⟨u, _, dx, gs, w, rfl, g1, c1, c2, k1, h1.dE R1 k2⟩
      · exact h1.elim
/-- o.f = value -/
theorem s_att (hO : ObjF X.K Z P) (hx : x = Z.nm f) (ha : PE X o (rdE Z P Φ W co)) (hv : PE X e (rdE Z P Φ W ca)) (hs : swapsWith e (some (.Attribute o x apos)) pos.line X.env = pure false := by rfl) :
    PS X (.Assign [.Attribute o x apos] e pos) (rdS Z P Φ W (.asg (.ga f co) ca)) := by
  refine PS.imp (ps_fld ha hv hs) ?_
  rintro D τ H ⟨μ, σ, S, R, L, h⟩
  simp only [ev] at h
  refine stepSE R L h _ fun d S1 μ1 H1 v e1 R1 L1 hv h1 => ?_
  have h2 : Want Z μ1 H1 (kS Z W D) (b1 σ (ev P Φ co [] σ S1) fun x S => match x with
      | .ref i => match S[i]? with
        | some (.ins c fs) => if fs.length < 1000 ∧ P.fd c f = true then .nx σ (S.set i (.ins c (putD f d fs))) else .bad
        | _ => .bad
      | _ => .bad) := by
    cases q : ev P Φ co [] σ S1 with
    | val ds S2 =>
      rw [q] at h1
      match ds, h1 with
      | [], h1 => exact h1.elim
      | [y], h1 =>
        cases y with
        | ref i =>
          simp only [b1, bg] at h1 ⊢
          cases q2 : S2[i]? with
          | none => rw [q2] at h1; exact h1.elim
          | some ob =>
            rw [q2] at h1
            cases ob with
            | ins c fs =>
              dsimp only at h1 ⊢
              split at h1
              · rename_i z
                split at z
                · rename_i hc
                  cases z
                  rw [if_pos hc]
                  exact h1
                · cases z
              · exact h1.elim
            | _ => exact h1.elim
        | _ => exact h1.elim
      | _ :: _ :: _, h1 => exact h1.elim
    | exc c fs σ1 S2 => rw [q] at h1; exact h1.elim
    | _ => rw [q] at h1; exact h1.elim
  refine stepSE R1 L1 h2 _ fun y S2 μ2 H2 w e2 R2 L2' hw h3 => ?_
  cases y with
  | ref i =>
    dsimp only at h3
    cases q : S2[i]? with
    | none => rw [q] at h3; exact h3.elim
    | some ob =>
      rw [q] at h3
      cases ob with
      | ins c fs =>
        dsimp only at h3
        split at h3
        · rename_i hc
          obtain ⟨c1, c2⟩ := hO.fld c f hc.2
          simp only [DV] at hw
          obtain ⟨u, hu, rfl⟩ := hw
          obtain ⟨u', dx, gs, hu', g1, g2⟩ := R2.ins q
          rw [hu] at hu'; cases hu'
          subst hx
          obtain ⟨e3, R3⟩ := R2.write (o := .ins (Z.ca c) dx (putF (Z.nm f) v gs)) (ob := .ins c (putD f d fs)) hu fun e3 => ⟨dx, _, upd_same, FVs.put hO.inj ((hv.mono e2).mono e3) (g2.mono e3)⟩
          exact ⟨u, _, dx, gs, rfl, g1, c1, c2, by rw [← g2.length]; exact hc.1, h3 μ2 _ e3 R3 τ (L2'.mono e3)⟩
        · exact h3.elim
      | _ => exact h3.elim
  | _ => exact h3.elim
variable {fd : FuncData} {ps : List Str} {g : Addr} {c gi : Nat} {m : Str} {mi : Nat}
/-- the callee runs, all parameters given -/
theorem run_fnB {pins : List (Addr × Obj)} {s : Shared} {us : List Value} {vs : List V} {sp : Sp} (F : FnOk X.prog X.w X.K X.mg X.base (L2.CX X.prog X.w) k g fd ps sp) (hr : Room k X.A) (tk : Takes X W) (hb : Binds X.K fd ps [])
    (I : Inv X pins τ H s) (r : Vals vs us) (h : sp vs H Q (WE W τ)) : wpAny (model X.prog X.w) X.A (call (.ref g) us) (EP X pins τ Q) X.xe s := run_fnS F hr hb (passAt tk τ) I r h
theorem ev_mth {c m g : Nat} {o as : C} {i : List D} {σ : Sl} {S : Sto} : ev P Φ (.mth c m g o as) i σ S = b1 σ (ev P Φ o [] σ S) fun x S => match insOf S x with
    | some (c', fs) => if c' = c ∧ fs.lookup m = none then bv σ (ev P Φ as [] σ S) fun ds S => callL σ Φ g (x :: ds) S else .bad
    | none => .bad := rfl
/-- the receiver, its class known -/
theorem mth_recv (hO : ObjF X.K Z P) (hx : m = Z.nm mi) (R : RS Z μ S H) (L : SV Z H μ σ τ) {kk : List D → Sto → Res} {ca : C}
    (h : Want Z μ H (kE Z W τ Q) (b1 σ (ev P (run P n) co [] σ S) fun x S => match insOf S x with
      | some (c', fs) => if c' = c ∧ fs.lookup mi = none then bv σ (ev P (run P n) ca [] σ S) fun ds S => kk (x :: ds) S else .bad
      | none => .bad)) :
    rdE Z P (run P n) W co τ H fun v H1 => ∃ a dx gs S1 μ1 x, v = .ref a ∧ H1 a = some (.ins (Z.ca c) dx gs) ∧ gs.lookup m = none ∧ RS Z μ1 S1 H1 ∧ SV Z H1 μ1 σ τ ∧ DV Z H1 μ1 x (.ref a) ∧ Want Z μ1 H1 (kE Z W τ Q) (bv σ (ev P (run P n) ca [] σ S1) fun ds S => kk (x :: ds) S) := by
  refine stepEE R L h _ fun d S1 μ1 H1 v e1 R1 L1 hv h1 => ?_
  cases q : insOf S1 d with
  | none => rw [q] at h1; exact h1.elim
  | some cf =>
    obtain ⟨c', fs⟩ := cf
    rw [q] at h1
    dsimp only at h1
    split at h1
    · rename_i hc
      obtain ⟨rfl, hl⟩ := hc
      obtain ⟨u, dx, gs, rfl, g1, g2⟩ := R1.insv q hv
      exact ⟨u, dx, gs, S1, μ1, d, rfl, g1, by rw [hx]; exact g2.none hO.inj hl, R1, L1, hv, h1⟩
    · exact h1.elim
theorem v_mth {pl : Sem Bool} (hO : ObjF X.K Z P) (tk : Takes X W) (hx : m = Z.nm mi) (cl : Cls X.K (Z.ca c)) (hm : Meth X.K (Z.ca c) m g) (F : FnOk X.prog X.w X.K X.mg X.base (L2.CX X.prog X.w) k g fd ps (spF Z P n gi)) (hr : Room k X.A) (hb : Binds X.K fd ps [])
    (ho : PE X o (rdE Z P (run P n) W co)) (ha : PA X (e :: es) (rdA Z P (run P n) W ca)) (hst : starEach (e :: es) X.env = (false, eval e X.env) :: starEach es X.env := by rfl) (hpl : (backTo pos (starEach es X.env)).any (·.1) = false := by rfl)
    (ht : eval (.Call (.Attribute o m apos) (e :: es) [] pos) X.env = (do
      let ov ← eval o X.env
      standAt apos.atName
      let (f, first) ← holding [ov] (getMethod ov m pl)
      callWith pos f first (backTo pos (starEach (e :: es) X.env)) (backToKw pos (keywordEach [] X.env))) := by rfl) :
    PE X (.Call (.Attribute o m apos) (e :: es) [] pos) (rdE Z P (run P n) W (.mth c mi gi co ca)) := by
  refine ⟨fun pins s τ H Q I h => ?_⟩
  obtain ⟨μ, σ, S, R, L, h⟩ := h
  rw [ev_mth] at h
  have hA := ho.run pins s τ H _ I (mth_recv (kk := fun ds S => callL σ (run P n) gi ds S) hO hx R L h)
  refine PySem.W.methodCall_KW (pl := pl) (thn hA fun u s1 ⟨x, H1, I1, rx, a, dx, gs, S1, μ1, i, ex, ea, l, R1, L1, hu, h1⟩ => ?_) ht
  subst ex
  obtain rfl : u = Value.ref a := rx
  refine getmeth_ok I1 ea cl hm l ?_
  have hB := ha.run pos pins s1 τ H1 _ I1 (stepA R1 L1 h1 (fun vs H2 => spF Z P n gi (.ref a :: vs) H2 Q (WE W τ)) (fun _ _ _ _ _ _ _ z => z)
    fun ds S2 μ2 H2 vs e2 R2 L2' hvs h2 => spF_of R2 (by simp only [DVs]; exact ⟨.ref a, vs, rfl, hu.mono e2, hvs⟩) h2)
  refine PySem.W.callWith_K (first := [.ref a]) (h₀ := X.base) I1.ok.mod.kin hm.kp (thn hB fun us s2 ⟨vs, H2, I2, r, h2⟩ => ⟨I2.kIn, ?_⟩) hst hpl
  exact run_fnB (us := .ref a :: us) (vs := .ref a :: vs) F hr tk hb I2 (.cons rfl r) h2
theorem v_mth0 {pl : Sem Bool} (hO : ObjF X.K Z P) (tk : Takes X W) (hx : m = Z.nm mi) (cl : Cls X.K (Z.ca c)) (hm : Meth X.K (Z.ca c) m g) (F : FnOk X.prog X.w X.K X.mg X.base (L2.CX X.prog X.w) k g fd ps (spF Z P n gi)) (hr : Room k X.A) (hb : Binds X.K fd ps [])
    (ho : PE X o (rdE Z P (run P n) W co))
    (ht : eval (.Call (.Attribute o m apos) [] [] pos) X.env = (do
      let ov ← eval o X.env
      standAt apos.atName
      let (f, first) ← holding [ov] (getMethod ov m pl)
      callWith pos f first (backTo pos (starEach [] X.env)) (backToKw pos (keywordEach [] X.env))) := by rfl) :
    PE X (.Call (.Attribute o m apos) [] [] pos) (rdE Z P (run P n) W (.mth c mi gi co .anil)) := by
  refine ⟨fun pins s τ H Q I h => ?_⟩
  obtain ⟨μ, σ, S, R, L, h⟩ := h
  rw [ev_mth] at h
  have hA := ho.run pins s τ H _ I (mth_recv (kk := fun ds S => callL σ (run P n) gi ds S) hO hx R L h)
  refine PySem.W.methodCall_KW (pl := pl) (thn hA fun u s1 ⟨x, H1, I1, rx, a, dx, gs, S1, μ1, i, ex, ea, l, R1, L1, hu, h1⟩ => ?_) ht
  subst ex
  obtain rfl : u = Value.ref a := rx
  refine getmeth_ok I1 ea cl hm l ?_
  exact PySem.W.callWith_K0 (first := [.ref a]) I1.kIn hm.kp (run_fnB (us := [.ref a]) (vs := [.ref a]) F hr tk hb I1 (.cons rfl .nil) (spF_of R1 (DVs.one hu) h1))
variable {kws : List Keyword} {ks : List Str} {prm : List (Nat ⊕ D)} {na nk : Nat} {ck : C}
/-- what an __init__ does, of a call of the class -/
theorem Want.make {r : Res} {i : Nat} {a : Addr} (hm : ∀ μ' H', Ext μ H μ' H' → μ'.l[i]? = some a) (h : Want Z μ H (kE Z W τ Q) (newR σ i r)) : Want Z μ H (kE Z W τ (fun v H2 => v = .non ∧ Q (.ref a) H2)) r := by
  cases r with
  | val ds S1 =>
    match ds, h with
    | [.non], h =>
      intro μ' H' e R
      obtain ⟨d, ed, h2⟩ := h μ' H' e R
      cases ed
      refine ⟨.non, rfl, fun v hv => ?_⟩
      simp only [DV] at hv
      exact ⟨hv, h2 (.ref a) (by simp only [DV]; exact ⟨a, hm μ' H' e, rfl⟩)⟩
    | [], h => exact h.elim
    | [.bl _], h => exact h.elim
    | [.int _], h => exact h.elim
    | [.str _], h => exact h.elim
    | [.tup _], h => exact h.elim
    | [.scr _], h => exact h.elim
    | [.rol _], h => exact h.elim
    | [.rin _ _ _], h => exact h.elim
    | [.rdc _ _], h => exact h.elim
    | [.ref _], h => exact h.elim
    | [.cls _], h => exact h.elim
    | _ :: _ :: _, h => simp only [newR] at h; exact h.elim
  | exc c fs σ1 S1 => exact h
  | _ => exact h.elim
/-- the new object is taken in -/
theorem RS.made (R : RS Z μ S H) {a dx : Addr} {c : Nat} (h1 : H a = none) (h2 : H dx = none) (hn : dx ≠ a) :
    Ext μ H (μ.add a) (upd (upd H dx (.own a)) a (.ins (Z.ca c) dx [])) ∧ RS Z (μ.add a) (S ++ [.ins c []]) (upd (upd H dx (.own a)) a (.ins (Z.ca c) dx [])) := by
  obtain ⟨e1, R1⟩ := R.aside (o := .own a) h2
  obtain ⟨e2, R2⟩ := R1.push (a := a) (o := .ins (Z.ca c) dx []) (ob := .ins c []) (by rw [upd_ne (Ne.symm hn)]; exact h1) fun e => ⟨dx, [], upd_same, by simp only [FVs]⟩
  exact ⟨e1.trans e2, R2⟩
end
end Vm
namespace Vm
open PySem L2
/-- the promise of an own error's __init__ that keeps its arguments -/
def spI (C : Addr) (fl : List Str) : Sp := fun vs H Q _ => ∃ (a : Addr) (ws : List V), vs = .ref a :: ws ∧ ws.length = fl.length ∧ H a = some (exo a C none) ∧
  ∀ dx, H dx = none → dx ≠ a → Q .non (upd (upd H dx (exd dx (fl.zip ws).reverse)) a (exo a C (some dx)))
theorem spI_len {C : Addr} {fl : List Str} {n : Nat} (hn : fl.length + 1 = n) : ∀ vs H Q E, spI C fl vs H Q E → vs.length = n := by
  rintro vs H Q E ⟨a, ws, rfl, h, _⟩
  rw [List.length_cons, h, hn]
theorem rd_init1 {K : PySem.W.Frag} {C : Addr} {f : Str} {N : List Str} {vs : List V} {H : Hp} {Q : VK} {E : XK} (hN : 2 ≤ N.length) (T : OexC K C) (hno : PySem.W.findIn K (.ref C) f = some none) (h : spI C [f] vs H Q E) :
    tOst K f (tVar 0) (tVar 1) { nx := fun _ H' => Q .non H', rt := Q } (L2.start N vs) H := by
  obtain ⟨a, ws, rfl, hl, ha, q⟩ := h
  match ws, hl, q with
  | [w], _, q =>
    refine ⟨w, by simp [L2.start], .ref a, by simp [L2.start], a, C, rfl, T, hno, .inl ⟨ha, fun dx h1 h2 => q dx h1 h2⟩⟩
section
variable {Z : Zz} {H : Hp} {μ : Mu}
theorem FVs.append : ∀ {fs fs' : List (Nat × D)} {gs gs' : List (Str × V)}, FVs Z H μ fs gs → FVs Z H μ fs' gs' → FVs Z H μ (fs ++ fs') (gs ++ gs')
  | [], _, gs, _, h, k => by simp only [FVs] at h; subst h; exact k
  | (f, d) :: r, fs', gs, gs', h, k => by
    simp only [FVs] at h
    obtain ⟨v, q, rfl, h1, h2⟩ := h
    show FVs Z H μ ((f, d) :: (r ++ fs')) _
    simp only [FVs]
    exact ⟨v, q ++ gs', rfl, h1, FVs.append h2 k⟩
theorem FVs.reverse : ∀ {fs : List (Nat × D)} {gs : List (Str × V)}, FVs Z H μ fs gs → FVs Z H μ fs.reverse gs.reverse
  | [], gs, h => by simp only [FVs] at h; subst h; simp only [List.reverse_nil, FVs]
  | (f, d) :: r, gs, h => by
    simp only [FVs] at h
    obtain ⟨v, q, rfl, h1, h2⟩ := h
    rw [List.reverse_cons, List.reverse_cons]
    exact FVs.append (FVs.reverse h2) (by simp only [FVs]; exact ⟨v, [], rfl, h1, rfl⟩)
end
section
variable {X : Cx} {Z : Zz} {P : Pg} {Φ : Nat → List D → Sto → Res} {W : WX}
variable {H H' : Hp} {μ μ' : Mu} {S S' : Sto} {σ : Sl} {τ : St} {Q : VK}
variable {a b e o : Expr} {es : List Expr} {ca cb co cr : C} {pos pos2 p apos : Pos} {x : Str} {c : Nat}
/-- raise C(e, ..) -/
theorem s_rse {CX : CXT} {fI : Addr} {fd : FuncData} {ps : List Str} {fl : List Nat} (hc : X.calm = true) (tk : Takes X W) (T : OexC X.K (Z.ca c)) (iC : PySem.W.findIn X.K (.ref (Z.ca c)) "__init__" = some (some (.ref fI))) (tI : PySem.W.typeIn X.K (.ref fI) = some (.type "function"))
    (F1 : FnOk X.prog X.w X.K X.mg X.base (L2.CX X.prog X.w) 1 fI fd ps (spI (Z.ca c) (fl.map Z.nm))) (hr : Room 2 X.A) (hb : Binds X.K fd ps []) (hg : Gl X x) (hm : X.mg x = some (.ref (Z.ca c))) (hP : P.exc c = some fl) (ha : PA X (e :: es) (rdA Z P Φ W ca)) (hz : fl.length ≤ 1000 := by decide)
    (hdb : (x == ("__debug__" : Str)) = false := by decide) (he : starEach (e :: es) X.env = (false, eval e X.env) :: starEach es X.env := by rfl) (hpl : (backTo pos (starEach es X.env)).any (·.1) = false := by rfl) :
    PS X (.Raise (some (.Call (.Name x p) (e :: es) [] pos)) none pos2) (rdS Z P Φ W (.rse c ca)) := by
  refine PS.imp (ps_raise hc tk (pmk_oex T iC tI F1 hr hb .nil passL hg hm ha hdb he hpl)) ?_
  rintro D τ H ⟨μ, σ, S, R, L, h⟩
  simp only [ev, hP] at h
  refine stepA R L h _ (fun c fs S1 μ1 H1 e R1 z => kS_x c fs S1 μ1 H1 L e R1 z) fun ds S1 μ1 H1 vs e1 R1 L1 hvs h1 => ?_
  split at h1
  · rename_i hl
    have hvl : vs.length = fl.length := by rw [← hvs.length, hl]
    refine ⟨by rw [hvl]; exact hz, fun a hna => ⟨a, vs, by rw [List.append_nil], by rw [hvl, List.length_map], upd_same, fun dx h2 h3 => ?_⟩⟩
    rw [upd_ne h3] at h2
    refine ⟨rfl, dx, _, upd_same, by rw [upd_ne h3]; exact upd_same, h2, ?_⟩
    have eh : upd (del (upd (upd (upd H1 a (exo a (Z.ca c) none)) dx (exd dx ((fl.map Z.nm).zip vs).reverse)) a (exo a (Z.ca c) (some dx))) a) dx (.xd ((fl.map Z.nm).zip vs).reverse) = upd H1 dx (.xd ((fl.map Z.nm).zip vs).reverse) := by
      funext b
      by_cases hb : b = dx
      · subst hb; rw [upd_same, upd_same]
      · rw [upd_ne hb, upd_ne hb]
        by_cases hba : b = a
        · subst hba; rw [del_same, hna]
        · rw [del_ne hba, upd_ne hba, upd_ne hb, upd_ne hba]
    rw [eh]
    obtain ⟨e2, R2⟩ := R1.aside (o := .xd ((fl.map Z.nm).zip vs).reverse) h2
    exact h1 μ1 _ e2 R2 τ (L1.mono e2) _ _ ⟨rfl, .inr ⟨dx, _, rfl, R1.fresh h2, upd_same, FVs.reverse (FVs.of_zip (by rw [hl]) (hvs.mono e2))⟩⟩
  · exact h1.elim
end
structure KiCls (K : PySem.W.Frag) : Prop where
  sp : PySem.W.specialIn K (.builtin "object.__class__") "__get__" = some (some (.builtin "getset_descriptor.__get__"))
  tk : PySem.W.takesIn K (.builtin "object.__class__") = some true
end Vm
namespace Vm.ZM
open PySem PySem.Spec PyProof.Rows L2
open PySem.Sem (wp)
/-- the kind of what is walked -/
inductive Sk where
  | l | t
def Sk.it : Sk → String
  | .l => "list_iterator"
  | .t => "tuple_iterator"
/-- it stands at k of the object at a -/
def Sk.pos : Sk → Heap → Addr → Addr → Nat → Prop
  | .l, h, i, a, k => h.IsListIter i a k
  | .t, h, i, a, k => h.IsTupleIter i a k
/-- the object at a has these items -/
def Sk.has : Sk → Heap → Addr → Array Value → Prop
  | .l, h, a, v => h.IsList a v
  | .t, h, a, v => h.IsTuple a v
theorem Sk.pos.posX {κ : Sk} {g g' : Heap} {i a b : Addr} {k : Nat} (p : κ.pos g i a k) (e : Heap.ExtBut b g g') (n : i ≠ b) : κ.pos g' i a k := by
  cases κ
  · exact Heap.IsListIter.extBut p e n
  · exact Heap.IsTupleIter.extBut p e n
theorem Sk.has.hasX {κ : Sk} {g g' : Heap} {a b : Addr} {v : Array Value} (p : κ.has g a v) (e : Heap.ExtBut b g g') (n : a ≠ b) : κ.has g' a v := by
  cases κ
  · exact Heap.IsList.extBut p e n
  · exact Heap.IsTuple.extBut p e n
theorem Sk.pos.posA {κ : Sk} {g g' : Heap} {i a : Addr} {k : Nat} (p : κ.pos g i a k) (e : ∀ o, g.get? i = some o → g'.get? i = some o) : κ.pos g' i a k := by
  cases κ
  · exact Heap.IsListIter.at p e
  · exact Heap.IsTupleIter.at p e
theorem Sk.posLt {κ : Sk} {g : Heap} {i a : Addr} {k : Nat} (p : κ.pos g i a k) : i < g.objs.size := by
  cases κ
  · obtain ⟨_, e, _⟩ := p; exact Heap.lt_size e
  · obtain ⟨_, e, _⟩ := p; exact Heap.lt_size e
section
variable {prog : Program} {w : World} {A : Around} {E : Value → Shared → Prop} {s : Shared}
theorem Sk.take {κ : Sk} {i a : Addr} {k : Nat} {v : Array Value} {x : Value} {Q : Value → Shared → Prop} (p : κ.pos s.heap i a k) (q : κ.has s.heap a v) (hx : v[k]? = some x)
    (hQ : ∀ g, κ.pos g i a (k + 1) → Heap.SameBut i s.heap g → Q x { s with heap := g }) : wpAny (model prog w) A (Builtin.SmallTypes.nextOf (.ref i)) Q E s := by
  cases κ
  · exact wpAny_nextOf_list_item p q hx hQ
  · exact RZ.nextOf_tuple_item p q hx hQ
theorem Sk.over {κ : Sk} {i a : Addr} {k : Nat} {v : Array Value} {Q : Value → Shared → Prop} (hh : A.handled = none) (p : κ.pos s.heap i a k) (q : κ.has s.heap a v) (hx : v[k]? = none)
    (hE : ∀ g e, Heap.ExtBut i s.heap g → (∃ o, g.get? e = some o ∧ o.cls = .type "StopIteration") → E (.ref e) { s with heap := g }) : wpAny (model prog w) A (Builtin.SmallTypes.nextOf (.ref i)) Q E s := by
  cases κ
  · exact wpAny_nextOf_list_end hh p q hx hE
  · exact RZ.nextOf_tuple_end hh p q hx hE
variable {κ θ : Sk} {zo ti to ia ib la lb : Addr} {m n : Nat} {us vs : Array Value}
/-- what other objects are -/
abbrev Rest (zo to ia ib : Addr) (g g' : Heap) : Prop := ∀ c o, c ≠ zo → c ≠ to → c ≠ ia → c ≠ ib → g.get? c = some o → g'.get? c = some o
/-- z.__next__(), both have an item -/
theorem zn_item {x y c d : Value} {Q : Value → Shared → Prop} (D : ZipApart zo ti to ia ib la lb) (kz : IsZip s.heap zo ti to .none) (kt : IsPair s.heap ti (.ref ia) (.ref ib)) (ko : IsPair s.heap to c d)
    (pa : κ.pos s.heap ia la m) (pb : θ.pos s.heap ib lb n) (qa : κ.has s.heap la us) (qb : θ.has s.heap lb vs) (hx : us[m]? = some x) (hy : vs[n]? = some y)
    (hQ : ∀ g, IsZip g zo ti to (rawInt s.heap.objs.size) → IsPair g to x y → κ.pos g ia la (m + 1) → θ.pos g ib lb (n + 1) → IsPair g s.heap.objs.size x y → g.objs.size = s.heap.objs.size + 1 → Rest zo to ia ib s.heap g → Q (.ref s.heap.objs.size) { s with heap := g }) :
    wpAny (model prog w) A (Builtin.«zip.__next__» ⟨[.ref zo], []⟩) (fun fin s' => ∃ v, fin = .done (.ret v) ∧ Q v s') E s := by
  show wpAny _ _ (field (.ref zo) 2 >>= _) _ _ _
  refine wpAny_bind (wpAny_field kz rfl (x := .bool false) rfl ?_); show wpAny _ _ (field (.ref zo) 3 >>= _) _ _ _
  refine wpAny_bind (wpAny_field kz rfl (x := .ref ti) rfl (wpAny_bind (wpAny_seqItems kt rfl ?_))); show wpAny _ _ (Builtin.SmallTypes.ownedTupleIsFree (.ref zo) >>= _) _ _ _
  refine wpAny_bind ?_; unfold Builtin.SmallTypes.ownedTupleIsFree
  refine wpAny_bind (wpAny_field kz rfl (x := .none) rfl (wpAny_pure ?_)); simp only [if_true]
  refine wpAny_bind (wpAny_rule (wpAny_bind (wpAny_field kz rfl (x := .ref to) rfl (wpAny_bind (wpAny_setField_rec kz (by simp) fun g1 z1 s1 => ?_)))))
  replace z1 : IsZip g1 zo ti to .ellipsis := z1
  refine wpAny_bind ?_; simp only [List.zipIdx_cons, List.zipIdx_nil, List.forIn_cons, List.forIn_nil]; refine wpAny_bind (wpAny_bind (wpAny_onRaise ?_)); show wpAny _ _ (Builtin.SmallTypes.nextOf (.ref ia) >>= _) _ _ _
  have b1 := s1.extBut
  refine wpAny_bind (Sk.take (pa.posX b1 D.i1z) (qa.hasX b1 D.l1z) hx fun g2 a2 s2 => wpAny_pure ?_)
  have b2 := s2.extBut
  have o2 : IsPair g2 to c d := b2 _ _ D.TOi1 (b1 _ _ D.TOz ko)
  refine wpAny_bind (wpAny_seqItems o2 rfl (wpAny_bind (wpAny_updateSeq_pair o2 fun g3 o3 s3 => ?_))); replace o3 : IsPair g3 to x d := o3
  have b3 := s3.extBut
  refine wpAny_bind (wpAny_letGo (wpAny_pure ?_)); refine wpAny_bind (wpAny_bind (wpAny_onRaise ?_)); show wpAny _ _ (Builtin.SmallTypes.nextOf (.ref ib) >>= _) _ _ _
  refine wpAny_bind (Sk.take (((pb.posX b1 D.i2z).posX b2 D.i12.symm).posX b3 D.TOi2.symm) (((qb.hasX b1 D.l2z).hasX b2 D.l2i1).hasX b3 D.l2TO) hy fun g4 a4 s4 => wpAny_pure ?_)
  have b4 := s4.extBut
  have o4 : IsPair g4 to x d := b4 _ _ D.TOi2 o3
  refine wpAny_bind (wpAny_seqItems o4 rfl (wpAny_bind (wpAny_updateSeq_pair o4 fun g5 o5 s5 => ?_))); replace o5 : IsPair g5 to x y := o5
  have b5 := s5.extBut
  refine wpAny_bind (wpAny_letGo (wpAny_pure (wpAny_pure ?_))); refine wpAny_bind (wpAny_seqItems o5 rfl (wpAny_bind (wpAny_newTuple ?_)))
  have sz : g5.objs.size = s.heap.objs.size := by rw [s5.1, s4.1, s3.1, s2.1, s1.1]
  have z5 : IsZip g5 zo ti to .ellipsis := b5 _ _ D.TOz.symm (b4 _ _ D.i2z.symm (b3 _ _ D.TOz.symm (b2 _ _ D.i1z.symm z1)))
  have r5 : Rest zo to ia ib s.heap g5 := fun c o n1 n2 n3 n4 e => b5 _ _ n2 (b4 _ _ n4 (b3 _ _ n2 (b2 _ _ n3 (b1 _ _ n1 e))))
  have pa5 : κ.pos g5 ia la (m + 1) := ((a2.posX b3 D.TOi1.symm).posX b4 D.i12).posX b5 D.TOi1.symm
  have pb5 : θ.pos g5 ib lb (n + 1) := a4.posX b5 D.TOi2.symm
  have zlt := Heap.lt_size z5
  show wpAny _ _ (Builtin.SmallTypes.ownedTupleHandOut (.ref zo) (.ref g5.objs.size) >>= _) _ _ _
  refine wpAny_bind ?_; unfold Builtin.SmallTypes.ownedTupleHandOut
  refine wpAny_bind (wpAny_setField_rec (show IsZip (g5.push { cls := .type "tuple", data := .seq #[x, y] }) zo ti to .ellipsis from Heap.get?_push_of_some _ z5) (by simp) fun g7 z7 s7 => ?_)
  replace z7 : IsZip g7 zo ti to (rawInt g5.objs.size) := z7
  refine wpAny_setField_rec z7 (by simp) fun g8 z8 s8 => ?_
  replace z8 : IsZip g8 zo ti to (rawInt g5.objs.size) := z8
  have up : ∀ c o, c ≠ zo → g5.get? c = some o → g8.get? c = some o := fun c o n1 e => s8.extBut _ _ n1 (s7.extBut _ _ n1 (Heap.get?_push_of_some _ e))
  have t8 : IsPair g8 g5.objs.size x y := s8.extBut _ _ (Nat.ne_of_gt zlt) (s7.extBut _ _ (Nat.ne_of_gt zlt) (Heap.get?_push_size _ rfl))
  have sz8 : g8.objs.size = g5.objs.size + 1 := by rw [s8.1, s7.1, Heap.size_push]
  rw [sz] at z8 t8 sz8
  refine wpAny_pure ⟨_, rfl, ?_⟩; show Q (.ref g5.objs.size) _; rw [sz]
  exact hQ g8 z8 (up _ _ D.TOz o5) (pa5.posA fun o e => up _ o D.i1z e) (pb5.posA fun o e => up _ o D.i2z e) t8 sz8 fun c o n1 n2 n3 n4 e => up c o n1 (r5 c o n1 n2 n3 n4 e)
/-- one of them is at its end -/
theorem zn_end {c d : Value} {Q : Fin → Shared → Prop} (hh : A.handled = none) (D : ZipApart zo ti to ia ib la lb) (kz : IsZip s.heap zo ti to .none) (kt : IsPair s.heap ti (.ref ia) (.ref ib)) (ko : IsPair s.heap to c d)
    (pa : κ.pos s.heap ia la m) (pb : θ.pos s.heap ib lb n) (qa : κ.has s.heap la us) (qb : θ.has s.heap lb vs) (fin : us[m]? = none ∨ vs[n]? = none)
    (hE : ∀ g e, Rest zo to ia ib s.heap g → (∃ o, g.get? e = some o ∧ o.cls = .type "StopIteration") → E (.ref e) { s with heap := g }) : wpAny (model prog w) A (Builtin.«zip.__next__» ⟨[.ref zo], []⟩) Q E s := by
  show wpAny _ _ (field (.ref zo) 2 >>= _) _ _ _
  refine wpAny_bind (wpAny_field kz rfl (x := .bool false) rfl ?_); show wpAny _ _ (field (.ref zo) 3 >>= _) _ _ _
  refine wpAny_bind (wpAny_field kz rfl (x := .ref ti) rfl (wpAny_bind (wpAny_seqItems kt rfl ?_))); show wpAny _ _ (Builtin.SmallTypes.ownedTupleIsFree (.ref zo) >>= _) _ _ _
  refine wpAny_bind ?_; unfold Builtin.SmallTypes.ownedTupleIsFree
  refine wpAny_bind (wpAny_field kz rfl (x := .none) rfl (wpAny_pure ?_)); simp only [if_true]
  refine wpAny_bind (wpAny_rule (wpAny_bind (wpAny_field kz rfl (x := .ref to) rfl (wpAny_bind (wpAny_setField_rec kz (by simp) fun g1 z1 s1 => ?_)))))
  replace z1 : IsZip g1 zo ti to .ellipsis := z1
  refine wpAny_bind ?_; simp only [List.zipIdx_cons, List.zipIdx_nil, List.forIn_cons, List.forIn_nil]; refine wpAny_bind (wpAny_bind (wpAny_onRaise ?_)); show wpAny _ _ (Builtin.SmallTypes.nextOf (.ref ia) >>= _) _ _ _
  have b1 := s1.extBut
  cases hx : us[m]? with
  | none =>
    refine wpAny_bind (Sk.over hh (pa.posX b1 D.i1z) (qa.hasX b1 D.l1z) hx fun g2 e b2 ⟨oe, he, ce⟩ => ?_)
    have z2 : IsZip g2 zo ti to .ellipsis := b2 _ _ D.i1z.symm z1
    have ne : e ≠ zo := fun q => by subst q; rw [z2] at he; cases he; simp at ce
    exact wpAny_setField_rec z2 (by simp) fun g3 _ s3 => hE g3 e (fun c o n1 _ n3 _ q => s3.extBut _ _ n1 (b2 _ _ n3 (b1 _ _ n1 q))) ⟨oe, s3.extBut _ _ ne he, ce⟩
  | some x =>
    have hy : vs[n]? = none := fin.resolve_left (by rw [hx]; nofun)
    refine wpAny_bind (Sk.take (pa.posX b1 D.i1z) (qa.hasX b1 D.l1z) hx fun g2 a2 s2 => wpAny_pure ?_)
    have b2 := s2.extBut
    have o2 : IsPair g2 to c d := b2 _ _ D.TOi1 (b1 _ _ D.TOz ko)
    refine wpAny_bind (wpAny_seqItems o2 rfl (wpAny_bind (wpAny_updateSeq_pair o2 fun g3 o3 s3 => ?_)))
    have b3 := s3.extBut
    refine wpAny_bind (wpAny_letGo (wpAny_pure ?_)); refine wpAny_bind (wpAny_bind (wpAny_onRaise ?_)); show wpAny _ _ (Builtin.SmallTypes.nextOf (.ref ib) >>= _) _ _ _
    refine wpAny_bind (Sk.over hh (((pb.posX b1 D.i2z).posX b2 D.i12.symm).posX b3 D.TOi2.symm) (((qb.hasX b1 D.l2z).hasX b2 D.l2i1).hasX b3 D.l2TO) hy fun g4 e b4 ⟨oe, he, ce⟩ => ?_)
    have z4 : IsZip g4 zo ti to .ellipsis := b4 _ _ D.i2z.symm (b3 _ _ D.TOz.symm (b2 _ _ D.i1z.symm z1))
    have ne : e ≠ zo := fun q => by subst q; rw [z4] at he; cases he; simp at ce
    exact wpAny_setField_rec z4 (by simp) fun g5 _ s5 => hE g5 e (fun c o n1 n2 n3 n4 q => s5.extBut _ _ n1 (b4 _ _ n4 (b3 _ _ n2 (b2 _ _ n3 (b1 _ _ n1 q))))) ⟨oe, s5.extBut _ _ ne he, ce⟩
/-- next(z) -/
theorem pn_item {x y c d : Value} {Q : Option Value → Shared → Prop} (D : ZipApart zo ti to ia ib la lb) (kz : IsZip s.heap zo ti to .none) (kt : IsPair s.heap ti (.ref ia) (.ref ib)) (ko : IsPair s.heap to c d)
    (pa : κ.pos s.heap ia la m) (pb : θ.pos s.heap ib lb n) (qa : κ.has s.heap la us) (qb : θ.has s.heap lb vs) (hx : us[m]? = some x) (hy : vs[n]? = some y)
    (hQ : ∀ g, IsZip g zo ti to (rawInt s.heap.objs.size) → IsPair g to x y → κ.pos g ia la (m + 1) → θ.pos g ib lb (n + 1) → IsPair g s.heap.objs.size x y → g.objs.size = s.heap.objs.size + 1 → Rest zo to ia ib s.heap g → Q (some (.ref s.heap.objs.size)) { s with heap := g }) :
    wpAny (model prog w) A (pyNext (.ref zo)) Q E s := by
  have ty : s.TypeIs (.ref zo) "zip" := ⟨_, kz, rfl⟩
  unfold pyNext
  exact wpAny_bind (wpAny_attempt (wpAny_callSpecial?_slot (name := Str.ofString "__next__") ty F.slot_zip_next (wpAny_call_entry F.slot_zip_next ty F.entry_zip_next (zn_item D kz kt ko pa pb qa qb hx hy fun g a1 a2 a3 a4 a5 a6 a7 => wpAny_pure (hQ g a1 a2 a3 a4 a5 a6 a7)) (F.args_zip_next_1 _))))
theorem pn_end {c d : Value} {Q : Option Value → Shared → Prop} (hh : A.handled = none) (D : ZipApart zo ti to ia ib la lb) (kz : IsZip s.heap zo ti to .none) (kt : IsPair s.heap ti (.ref ia) (.ref ib)) (ko : IsPair s.heap to c d)
    (pa : κ.pos s.heap ia la m) (pb : θ.pos s.heap ib lb n) (qa : κ.has s.heap la us) (qb : θ.has s.heap lb vs) (fin : us[m]? = none ∨ vs[n]? = none) (hQ : ∀ g, Rest zo to ia ib s.heap g → Q none { s with heap := g }) : wpAny (model prog w) A (pyNext (.ref zo)) Q E s := by
  have ty : s.TypeIs (.ref zo) "zip" := ⟨_, kz, rfl⟩
  unfold pyNext
  refine wpAny_bind (wpAny_attempt (wpAny_callSpecial?_slot (name := Str.ofString "__next__") ty F.slot_zip_next (wpAny_call_entry F.slot_zip_next ty F.entry_zip_next (zn_end hh D kz kt ko pa pb qa qb fin fun g e r ⟨o, ho, co⟩ => ?_) (F.args_zip_next_1 _))))
  exact wpAny_bind (wpAny_isInstance (T := "StopIteration") (b := true) ⟨o, ho, co⟩ isSubtype_stop (wpAny_pure (hQ _ r)))
theorem Sk.has.pushed {κ : Sk} {g : Heap} {a : Addr} {v : Array Value} (q : κ.has g a v) (o : Obj) : κ.has (g.push o) a v := by
  cases κ
  · exact Heap.IsList.push q o
  · exact Heap.IsTuple.push q o
theorem Sk.begin {κ : Sk} {a : Addr} {v : Array Value} {Q : Value → Shared → Prop} (q : κ.has s.heap a v) (hQ : Q (.ref s.heap.objs.size) { s with heap := s.heap.push { cls := .type κ.it, data := .fields #[.ref a, .int 0 0] } }) : wpAny (model prog w) A (pyIter (.ref a)) Q E s := by
  cases κ
  · exact wpAny_pyIter_list q hQ
  · exact wpAny_pyIter_tuple q hQ
abbrev mkA (κ : Sk) (g : Heap) (la : Addr) : Heap := g.push { cls := .type κ.it, data := .fields #[.ref la, .int 0 0] }
abbrev mkB (κ θ : Sk) (g : Heap) (la lb : Addr) : Heap := (mkA κ g la).push { cls := .type θ.it, data := .fields #[.ref lb, .int 0 0] }
abbrev mkC (κ θ : Sk) (g : Heap) (la lb : Addr) : Heap := (mkB κ θ g la lb).push { cls := .type "tuple", data := .seq #[.ref g.objs.size, .ref (mkA κ g la).objs.size] }
abbrev mkD (κ θ : Sk) (g : Heap) (la lb : Addr) : Heap := (mkC κ θ g la lb).push { cls := .type "tuple", data := .seq #[.none, .none] }
abbrev mkE (κ θ : Sk) (g : Heap) (la lb : Addr) : Heap := (mkD κ θ g la lb).push { cls := .type "zip", data := .fields #[.none, .bool false, .bool false, .ref (mkB κ θ g la lb).objs.size, .ref (mkC κ θ g la lb).objs.size] }
end
theorem made {κ θ : Sk} (la lb : Addr) (us vs : Array Value) : Meets (Builtin.«zip.__new__» ⟨[.type "zip", .ref la, .ref lb], []⟩) (fun _ R s => κ.has s.heap la us ∧ θ.has s.heap lb vs ∧ R (.ok (.ret (.ref (mkD κ θ s.heap la lb).objs.size))) { s with heap := mkE κ θ s.heap la lb }) :=
  .of_wp fun prog w A R s h => by
    obtain ⟨g, e1, e2, e3, e4⟩ := s; obtain ⟨qa, qb, h⟩ := h; have sub := sub_zip
    have q1 : κ.has (Shared.heap ⟨g, e1, e2, e3, e4⟩) la us := qa
    have q2 : θ.has (Shared.heap ⟨mkA κ g la, e1, e2, e3, e4⟩) lb vs := Sk.has.pushed qb _
    wp_walk using Sk.begin q1, Sk.begin q2
    exact ⟨_, rfl, h⟩
section
variable {prog : Program} {w : World} {A : Around} {E : Value → Shared → Prop} {s : Shared} {κ θ : Sk}
theorem Sk.fresh {κ : Sk} {g : Heap} {i a : Addr} (e : g.get? i = some { cls := .type κ.it, data := .fields #[.ref a, .int 0 0] }) : κ.pos g i a 0 := by
  cases κ
  · exact ⟨_, e, rfl, rfl⟩
  · exact ⟨_, e, rfl, rfl⟩
end
/-- the items, as the hand layer has them -/
def Sq (κ : Sk) (K : PySem.W.Frag) (H : Hp) (a : Addr) (xs : List V) : Prop := match κ with
  | .l => SqL K H a xs
  | .t => SqT K H a xs
theorem Sq.real {κ : Sk} {X : Cx} {pins : List (Addr × Obj)} {σ : L2.St} {H : Hp} {s : Shared} {a : Addr} {xs : List V} (I : Inv X pins σ H s) (q : Sq κ X.K H a xs) : ∃ us : List Value, Vals xs us ∧ κ.has s.heap a us.toArray := by
  cases κ
  · obtain ⟨us, r, p, _⟩ := I.list q
    exact ⟨us, r, p.isList⟩
  · obtain ⟨us, r, p, _⟩ := I.tuple q
    exact ⟨us, r, p⟩
theorem Sq.inj {κ : Sk} {X : Cx} {pins : List (Addr × Obj)} {σ : L2.St} {H : Hp} {s : Shared} {a : Addr} {xs ys : List V} (I : Inv X pins σ H s) (q : Sq κ X.K H a xs) (r : Sq κ X.K H a ys) : xs = ys := by
  cases κ
  · exact I.list_inj q r
  · exact I.tuple_inj q r
/-- both as they stand at each turn, the items in new pairs -/
def Two (κ θ : Sk) (K : PySem.W.Frag) (a b : Addr) : It :=
  ⟨fun i H => ∃ (xs ys : List V) (x y : V), Sq κ K H a xs ∧ Sq θ K H b ys ∧ xs[i]? = some x ∧ ys[i]? = some y,
   fun i H v H' => ∃ T x y, v = .ref T ∧ H T = none ∧ H' = upd H T (.tup [x, y]) ∧ (∀ xs, Sq κ K H a xs → xs[i]? = some x) ∧ ∀ ys, Sq θ K H b ys → ys[i]? = some y,
   fun i H => ∃ xs ys : List V, Sq κ K H a xs ∧ Sq θ K H b ys ∧ (xs.length ≤ i ∨ ys.length ≤ i)⟩
theorem five {c a1 a2 a3 a4 a5 : Addr} (h : c ∈ [a1, a2, a3, a4, a5]) : c = a1 ∨ c = a2 ∨ c = a3 ∨ c = a4 ∨ c = a5 := by simpa using h
theorem turn {P : Program} {w : World} {K : PySem.W.Frag} {elts : List Expr} {kk : Nat} {tpos : Pos} {κ θ : Sk} {a b zo ti to ia ib : Addr} (D : ZipApart zo ti to ia ib a b) :
    Turn P w K (.Tuple elts kk tpos) (Two κ θ K a b) [zo, ti, to, ia, ib] zo (fun i h => IsZip h zo ti to .none ∧ IsPair h ti (.ref ia) (.ref ib) ∧ (∃ x y, IsPair h to x y) ∧ κ.pos h ia a i ∧ θ.pos h ib b i) where
  mem := by simp
  obj := fun i h st c hc => by
    obtain ⟨k1, k2, ⟨x, y, k3⟩, p1, p2⟩ := st
    rcases five hc with rfl | rfl | rfl | rfl | rfl
    · exact ⟨_, k1, fun v q => nomatch q⟩
    · exact ⟨_, k2, fun v q => nomatch q⟩
    · exact ⟨_, k3, fun v q => nomatch q⟩
    · cases κ
      · obtain ⟨o, e, _, d⟩ := p1; exact ⟨o, e, fun v q => by rw [d] at q; cases q⟩
      · obtain ⟨o, e, _, d⟩ := p1; exact ⟨o, e, fun v q => by rw [d] at q; cases q⟩
    · cases θ
      · obtain ⟨o, e, _, d⟩ := p2; exact ⟨o, e, fun v q => by rw [d] at q; cases q⟩
      · obtain ⟨o, e, _, d⟩ := p2; exact ⟨o, e, fun v q => by rw [d] at q; cases q⟩
  keep := fun i h h' st k => by
    obtain ⟨k1, k2, ⟨x, y, k3⟩, p1, p2⟩ := st
    exact ⟨k zo (by simp) _ k1, k ti (by simp) _ k2, ⟨x, y, k to (by simp) _ k3⟩, p1.posA fun o q => k ia (by simp) o q, p2.posA fun o q => k ib (by simp) o q⟩
  item := by
    intro X hP hw hK hc i pins s σ H E I hf st hg
    subst hP hw hK
    obtain ⟨k1, k2, ⟨x0, y0, k3⟩, p1, p2⟩ := st
    obtain ⟨xs, ys, x, y, qx, qy, ex, ey⟩ := hg
    obtain ⟨us, r1, n1⟩ := Sq.real I qx
    obtain ⟨vs, r2, n2⟩ := Sq.real I qy
    obtain ⟨u, hu, ru⟩ := r1.get ex
    obtain ⟨v, hv, rv⟩ := r2.get ey
    have lz : zo < s.heap.objs.size := Heap.lt_size k1
    refine pn_item D k1 k2 k3 p1 p2 n1 n2 (x := u) (y := v) (by simpa using hu) (by simpa using hv) fun g gz go ga gb gT _ rest => ?_
    refine ⟨_, rfl, wpAny_letOwnedTupleGo_zip (s := { s with heap := g }) gz fun g2 z2 sb => ?_⟩
    have T2 : g2.get? s.heap.objs.size = some { cls := .type "tuple", data := .seq #[u, v] } := (sb.2 _ (Nat.ne_of_gt lz)).trans gT
    have new : ObjOk X.prog X.w (upd H s.heap.objs.size (.tup [x, y])) g2 s.heap.objs.size (.tup [x, y]) := ⟨by show 2 ≤ sizeLine; decide, [u, v], .cons ru (.cons rv .nil), ⟨_, T2, rfl, _, rfl⟩⟩
    have out : ∀ c o, c ∉ [zo, ti, to, ia, ib] → s.heap.get? c = some o → g2.get? c = some o := fun c o nb q => by
      simp only [List.mem_cons, List.not_mem_nil, or_false, not_or] at nb
      exact (sb.2 c nb.1).trans (rest c o nb.1 nb.2.2.1 nb.2.2.2.1 nb.2.2.2.2 q)
    have I2 : Inv X pins σ (upd H s.heap.objs.size (.tup [x, y])) { s with heap := g2 } := I.turnedNew (t' := s.toks) (ch := [zo, ti, to, ia, ib]) out hf (Nat.le_refl _) new
    refine ⟨.ref s.heap.objs.size, _, I2, rfl, ⟨_, x, y, rfl, I.hok.fresh (Nat.le_refl _), rfl, fun l hl => by rw [Sq.inj I hl qx]; exact ex, fun l hl => by rw [Sq.inj I hl qy]; exact ey⟩, ⟨z2, ?_, ⟨u, v, ?_⟩, ?_, ?_⟩, fun c hcm => ?_⟩
    · exact (sb.2 _ D.TIz).trans (rest _ _ D.TIz D.TITO D.TIi1 D.TIi2 k2)
    · exact (sb.2 _ D.TOz).trans go
    · exact ga.posA fun o q => (sb.2 _ D.i1z).trans q
    · exact gb.posA fun o q => (sb.2 _ D.i2z).trans q
    · have lt : c < s.heap.objs.size := by
        rcases five hcm with rfl | rfl | rfl | rfl | rfl
        · exact lz
        · exact Heap.lt_size k2
        · exact Heap.lt_size k3
        · exact Sk.posLt p1
        · exact Sk.posLt p2
      rw [upd_ne (Nat.ne_of_lt lt)]
      exact (hf c hcm).1
  done := by
    intro X hP hw hK hc i pins s σ H E I hf st hg
    subst hP hw hK
    obtain ⟨k1, k2, ⟨x0, y0, k3⟩, p1, p2⟩ := st
    obtain ⟨xs, ys, qx, qy, ende⟩ := hg
    obtain ⟨us, r1, n1⟩ := Sq.real I qx
    obtain ⟨vs, r2, n2⟩ := Sq.real I qy
    have l1 := r1.length
    have l2 := r2.length
    have over : us.toArray[i]? = none ∨ vs.toArray[i]? = none := ende.imp (fun q => by simp; omega) (fun q => by simp; omega)
    refine pn_end (I.ok.hd hc) D k1 k2 k3 p1 p2 n1 n2 over fun g rest => ⟨rfl, I.turnedL (t' := s.toks) (ch := [zo, ti, to, ia, ib]) (fun c o nb q => ?_) hf⟩
    simp only [List.mem_cons, List.not_mem_nil, or_false, not_or] at nb
    exact rest c o nb.1 nb.2.2.1 nb.2.2.2.1 nb.2.2.2.2 q
  self := fun A i s Q E st h => wpAny_pyIter_zip st.1 h
end Vm.ZM
namespace PySem
open AutoSeq1 (wpAny_loadPart')
/-- enumerate(v): what stands for v's items, and the object itself -/
theorem meets_enum_of {v : Value} {o : Obj} {G : Heap → Prop} (B : Begins v o G) :
    Meets (Builtin.«enumerate.__new__» ⟨[.type "enumerate", v], []⟩) (fun _ R s => G s.heap ∧
      R (.ok (.ret (.ref (s.heap.push o).objs.size))) { s with heap := (s.heap.push o).push { cls := .type "enumerate", data := .fields #[.none, .bool false, .ref s.heap.objs.size, rawInt 0, .none, .none] } }) :=
  .of_wp fun prog w A R s h => by
    obtain ⟨hp, ge, dr, tk, os⟩ := s
    obtain ⟨hG, hR⟩ := h
    have hse := sub_enumerate
    have it : ∀ {A2 : Around} {E2 : Value → Shared → Prop} {Q2 : Value → Shared → Prop}, Q2 (.ref hp.objs.size) ⟨hp.push o, ge, dr, tk, os⟩ → wpAny (model prog w) A2 (pyIter v) Q2 E2 ⟨hp, ge, dr, tk, os⟩ := fun z => B.iter prog w _ _ ⟨hp, ge, dr, tk, os⟩ _ hG z
    wp_walk using it
    refine wpAny_stack_any fun st => wpAny_pure ?_
    split
    · rename_i cc _ _ _ _ _
      by_cases hcc : (cc == Value.type "enumerate") = true
      · rw [hcc]
        wp_walk using it
        exact ⟨_, rfl, hR⟩
      · rw [Bool.not_eq_true] at hcc
        rw [hcc]
        wp_walk using it
        exact ⟨_, rfl, hR⟩
    · wp_walk using it
      exact ⟨_, rfl, hR⟩
theorem enum_starts {prog : Program} {w : World} {A : Around} {E : Value → Shared → Prop} {s : Shared} {v : Value} {o : Obj} {G : Heap → Prop} {Q : Value → Shared → Prop} (B : Begins v o G) (hG : G s.heap)
    (h : ∀ h', IsEnum h' (s.heap.objs.size + 1) s.heap.objs.size 0 .none → h'.get? s.heap.objs.size = some o → h'.objs.size = s.heap.objs.size + 2 → (∀ b q, s.heap.get? b = some q → h'.get? b = some q) → Q (.ref (s.heap.objs.size + 1)) { s with heap := h' }) :
    wpAny (model prog w) A (call (.type "enumerate") [v]) Q E s := by
  have z1 : (s.heap.push o).objs.size = s.heap.objs.size + 1 := Heap.size_push ..
  have z2 : IsEnum ((s.heap.push o).push { cls := .type "enumerate", data := .fields #[.none, .bool false, .ref s.heap.objs.size, rawInt 0, .none, .none] }) (s.heap.objs.size + 1) s.heap.objs.size 0 .none := by
    have y := Heap.get?_push_size (s.heap.push o) (o := { cls := .type "enumerate", data := .fields #[.none, .bool false, .ref s.heap.objs.size, rawInt 0, .none, .none] }) rfl
    rw [z1] at y
    exact y
  refine callType_new F.called_enumerate (by decide) (F.typeCall_enumerate_1 _) (F.newCall_enumerate_1 _) (fun x => F.args_object_init_2 x _) F.entry_enumerate_new (meets_enum_of B) ⟨hG, ?_⟩
  show _ ∧ _
  rw [z1]
  exact ⟨⟨_, z2, rfl⟩, h _ z2 (Heap.get?_push_of_some _ (Heap.get?_push_size _ B.free)) (by rw [Heap.size_push, z1]) fun b q e => Heap.get?_push_of_some _ (Heap.get?_push_of_some _ e)⟩
end PySem
namespace Vm
open PySem L2
/-- the items of the tuple at a, each in a new pair with its place -/
def Itet (K : PySem.W.Frag) (a : Addr) (N : Nat) : It :=
  ⟨fun i H => ∃ (xs : List V) (x : V), SqT K H a xs ∧ xs[i]? = some x ∧ xs.length = N, fun i H v H' => ∃ T x, v = .ref T ∧ H T = none ∧ H' = upd H T (.tup [.int (i : Nat), x]) ∧ ∀ xs, SqT K H a xs → xs[i]? = some x, fun i H => ∃ xs : List V, SqT K H a xs ∧ xs.length ≤ i ∧ xs.length = N⟩
theorem turn_enumT {P : Program} {w : World} {K : PySem.W.Frag} {elts : List Expr} {kk : Nat} {tpos : Pos} (a e it : Addr) (N : Nat) :
    Turn P w K (.Tuple elts kk tpos) (Itet K a N) [e, it] e (fun i h => (∃ old, IsEnum h e it ((i : Nat) : Int) old) ∧ h.IsTupleIter it a i ∧ e ≠ it ∧ a ≠ it ∧ i ≤ N) where
  mem := by simp
  obj := fun i h st b hb => by
    obtain ⟨⟨old, he⟩, ⟨o, ho, hc, hd⟩, _⟩ := st
    rcases (by simpa using hb : b = e ∨ b = it) with z | z <;> subst z
    · exact ⟨_, he, fun v q => nomatch q⟩
    · exact ⟨o, ho, fun v q => by rw [hd] at q; cases q⟩
  keep := fun i h h' st k => let ⟨⟨old, he⟩, hi, hne⟩ := st; ⟨⟨old, k e (by simp) _ he⟩, hi.at fun o q => k it (by simp) o q, hne⟩
  item := by
    intro X hP hw hK hc i pins s σ H E I hf st hg
    subst hP hw hK
    obtain ⟨⟨old, he⟩, hit, hne, hai, hiN⟩ := st
    obtain ⟨xs, x, hq, hx, hN⟩ := hg
    obtain ⟨its, rv, p, hz⟩ := I.tuple hq
    have p : s.heap.IsTuple a its.toArray := p
    obtain ⟨u, hu, ru⟩ := rv.get hx
    have hel : e < s.heap.objs.size := Heap.lt_size he
    have hil : it < s.heap.objs.size := by obtain ⟨_, q, _⟩ := hit; exact Heap.lt_size q
    have hlt : i < its.toArray.size := by
      have := (List.getElem?_eq_some_iff.mp hu).1
      simpa using this
    have D := Draws.tuple (prog := X.prog) (w := X.w) (A := X.A.in1) (I.ok.hd hc) it a hai its.toArray
    have hea : e ≠ a := fun z => by
      subst z
      obtain ⟨o, ho, hc, _⟩ := p
      have ho' : s.heap.get? e = some _ := he
      rw [ho'] at ho
      cases ho
      exact absurd (Value.type.inj hc) (by decide)
    refine wpAny_pyNext_enum_itemC D he ⟨hit, p⟩ hlt hne (by simp [hne, hea]) fun y h' tk hy ho hit' hT hsz hk => ?_
    have hyu : y = u := by
      have h1 : its.toArray[i]? = some y := hy
      rw [List.getElem?_toArray, hu] at h1
      exact (Option.some.inj h1).symm
    subst hyu
    refine ⟨_, rfl, wpAny_letOwnedTupleGo_enum (s := { s with heap := h', toks := tk + 1 }) ho fun h'' he' sb => ?_⟩
    have hT2 : h''.get? s.heap.objs.size = some { cls := .type "tuple", data := .seq #[.int i tk, y] } := (sb.2 _ (Nat.ne_of_gt hel)).trans hT
    have new : ObjOk X.prog X.w (upd H s.heap.objs.size (.tup [.int (i : Nat), x])) h'' s.heap.objs.size (.tup [.int (i : Nat), x]) :=
      ⟨by show 2 ≤ sizeLine; decide, [.int i tk, y], .cons ⟨_, rfl⟩ (.cons ru .nil), ⟨_, hT2, rfl, _, rfl⟩⟩
    have I1 : Inv X pins σ (upd H s.heap.objs.size (.tup [.int (i : Nat), x])) { s with heap := h'', toks := tk + 1 } :=
      I.turnedNew (ch := [e, it]) (fun b ob hb q => (sb.2 b (fun z => hb (by simp [z]))).trans (hk b ob (fun z => hb (by simp [z])) (fun z => hb (by simp [z])) q)) hf (Nat.le_refl _) new
    refine ⟨.ref s.heap.objs.size, _, I1, rfl, ⟨_, x, rfl, I.hok.fresh (Nat.le_refl _), rfl, fun ys hy => by rw [I.tuple_inj hy hq]; exact hx⟩, ⟨⟨y, ?_⟩, hit'.1.at fun o q => (sb.2 it (Ne.symm hne)).trans q, hne, hai, by have := (List.getElem?_eq_some_iff.mp hx).1; omega⟩, fun b hb => ?_⟩
    · rw [show ((i + 1 : Nat) : Int) = (i : Int) + 1 by omega]
      exact he'
    · have hb' : b < s.heap.objs.size := by
        rcases (by simpa using hb : b = e ∨ b = it) with z | z <;> (rw [z]; assumption)
      rw [upd_ne (Nat.ne_of_lt hb')]
      exact (hf b hb).1
  done := by
    intro X hP hw hK hc i pins s σ H E I hf st hg
    subst hP hw hK
    obtain ⟨⟨old, he⟩, hit, hne, hai, hiN⟩ := st
    obtain ⟨xs, hq, hx, hN⟩ := hg
    obtain ⟨its, rv, p, hz⟩ := I.tuple hq
    have p : s.heap.IsTuple a its.toArray := p
    obtain ⟨f0, f1, f2, f3, f4, f5⟩ := hf it (by simp)
    have hl := rv.length
    have hsz : its.toArray.size = i := by simp; omega
    exact wpAny_pyNext_enum_endD (Draws.tuple (prog := X.prog) (w := X.w) (A := X.A.in1) (I.ok.hd hc) it a hai its.toArray) he ⟨by rw [hsz]; exact hit, p⟩ fun h' eb => ⟨rfl, I.turned (t' := s.toks) (fun b o hb q => eb b o hb q) f0 f1 f3 f4 f5⟩
  self := fun A i s Q E st h => let ⟨⟨_, he⟩, _⟩ := st; wpAny_pyIter_enum he h
def iEnumD (K : PySem.W.Frag) (ta : TA) : TI := fun σ H R => ta σ H fun vs H1 => ∃ a, vs = [.ref a] ∧ (((∃ xs, SqL K H1 a xs) ∧ R (Ite K a) H1) ∨ ∃ xs, SqT K H1 a xs ∧ R (Itet K a xs.length) H1)
theorem pi_enumD {X : Cx} {e : Expr} {ta : TA} {p pos tpos : Pos} {elts : List Expr} {kk : Nat} (hg : Gl X "enumerate") (hm : X.mg "enumerate" = none) (ha : PA X [e] ta) (hs : starEach [e] X.env = [(false, eval e X.env)] := by rfl) :
    PI X (.Tuple elts kk tpos) (.Call (.Name "enumerate" p) [e] [] pos) (iEnumD X.K ta) := by
  refine ⟨fun pins s σ H R I h => ?_⟩
  refine PyProof.Rows.Call_ (ld_blt I hg hm PyProof.Rows.boot_enumerate (PyProof.Rows.callWith_type1 (thn (ha.run pos pins s σ H _ I h) fun us s1 ⟨vs, H1, I1, r1, q1⟩ => ?_) hs rfl))
  obtain ⟨a, ex, q⟩ := q1
  subst ex
  cases r1 with
  | @cons _ u _ _ r rr =>
    cases rr
    obtain rfl : u = Value.ref a := r
    have fin : ∀ {h' : Heap} {J : It} {St : Nat → Heap → Prop}, IsEnum h' (s1.heap.objs.size + 1) s1.heap.objs.size 0 .none → (∀ b o, s1.heap.get? b = some o → h'.get? b = some o) → Turn X.prog X.w X.K (.Tuple elts kk tpos) J [s1.heap.objs.size + 1, s1.heap.objs.size] (s1.heap.objs.size + 1) St → St 0 h' → R J H1 →
        wpAny (model X.prog X.w) X.A (pyIter (.ref (s1.heap.objs.size + 1))) (PIE X pins σ (.Tuple elts kk tpos) R) X.xe { s1 with heap := h' } := fun {h' J St} he hk T st q => by
      refine wpAny_pyIter_enum he ?_
      have I2 : Inv X pins σ H1 { s1 with heap := h' } := I1.kept (t' := s1.toks) hk
      refine ⟨s1.heap.objs.size + 1, [s1.heap.objs.size + 1, s1.heap.objs.size], _, _, H1, rfl, I2, T, st, fun b hb => ?_, q⟩
      rcases (by simpa using hb : b = s1.heap.objs.size + 1 ∨ b = s1.heap.objs.size) with z | z
      · subst z; exact I1.fpOk (Nat.le_succ _) (I1.hok.fresh (Nat.le_succ _))
      · subst z; exact I1.fpOk (Nat.le_refl _) (I1.hok.fresh (Nat.le_refl _))
    rcases q with ⟨⟨xs, hq⟩, q⟩ | ⟨xs, hq, q⟩
    · obtain ⟨its, rv, p', hz⟩ := I1.list hq
      refine enum_starts (begins_list a its.toArray) p'.isList fun h' he hit hsz hk => fin he hk (turn_enum a _ _) ⟨⟨.none, he⟩, ?_, Nat.succ_ne_self _⟩ q
      exact ⟨_, hit, rfl, rfl⟩
    · obtain ⟨its, rv, p', hz⟩ := I1.tuple hq
      have p' : s1.heap.IsTuple a its.toArray := p'
      refine enum_starts (begins_tuple a its.toArray) p' fun h' he hit hsz hk => fin he hk (turn_enumT a _ _ xs.length) ⟨⟨.none, he⟩, ?_, Nat.succ_ne_self _, ?_, Nat.zero_le _⟩ q
      · exact ⟨_, hit, rfl, rfl⟩
      · obtain ⟨o, ho, _⟩ := p'
        exact Nat.ne_of_lt (Heap.lt_size ho)
section
variable {X : Cx} {Z : Zz} {P : Pg} {Φ : Nat → List D → Sto → Res} {W : WX}
variable {H H' : Hp} {μ μ' : Mu} {S S' : Sto} {σ : Sl} {τ : St} {Q : VK}
/-- a list stays to be read, as long as it stands -/
theorem lv_walks {d : D} {ys : List D} {v : V} (R : RS Z μ S H) (hi : S.lv d = some ys) (hv : DV Z H μ d v) : ∃ a, v = .ref a ∧ ∀ μ' S' H', Mo μ H μ' H' → RS Z μ' S' H' → still d ys S' = true → ∃ vs, SqL Z.K H' a vs ∧ DVs Z H' μ' ys vs := by
  obtain ⟨a, vs, rfl, _⟩ := R.lv hi hv
  refine ⟨a, rfl, fun μ' S' H' e R' hs => ?_⟩
  have hl : S'.lv d = some ys := by
    cases d with
    | ref i => exact still_ref hs
    | rol xs => exact hi
    | _ => cases hi
  obtain ⟨b, ws, eb, h1, h2, _⟩ := R'.lv hl (hv.mo e)
  cases eb
  exact ⟨ws, SqL.of h1, h2⟩
theorem enumD_get : ∀ {xs : List D} {k i : Nat} {x : D}, (enumD k xs)[i]? = some x → ∃ y, xs[i]? = some y ∧ x = .tup [.int ((k + i : Nat) : Int), y]
  | [], _, _, _, h => by simp [enumD] at h
  | y :: ys, k, 0, x, h => by
    simp [enumD] at h
    exact ⟨y, rfl, by rw [← h]; rfl⟩
  | y :: ys, k, i + 1, x, h => by
    simp only [enumD, List.getElem?_cons_succ] at h
    obtain ⟨z, h1, h2⟩ := enumD_get h
    exact ⟨z, by simpa using h1, by rw [h2, show k + 1 + i = k + (i + 1) by omega]⟩
theorem enumD_len : ∀ {xs : List D} {k : Nat}, (enumD k xs).length = xs.length
  | [], _ => rfl
  | y :: ys, k => by rw [enumD, List.length_cons, List.length_cons, enumD_len]
/-- a new pair in a walk -/
theorem RS.pair (R : RS Z μ S H) {T : Addr} {xs : List D} {vs : List V} (hn : H T = none) (hv : DVs Z H μ xs vs) : Ext μ H μ (upd H T (.tup vs)) ∧ RS Z μ S (upd H T (.tup vs)) ∧ DV Z (upd H T (.tup vs)) μ (.tup xs) (.ref T) := by
  obtain ⟨e, R1⟩ := R.aside (o := .tup vs) hn
  refine ⟨e, R1, ?_⟩
  simp only [DV]
  exact ⟨T, vs, rfl, SqT.of upd_same, hv.mono e⟩
theorem i_enum {a : Expr} {ca : C} {p pos tpos : Pos} {elts : List Expr} {kk : Nat} (hZ : X.K = Z.K) (hg : Gl X "enumerate") (hm : X.mg "enumerate" = none) (ha : PE X a (rdE Z P Φ W ca)) (hs : starEach [a] X.env = [(false, eval a X.env)] := by rfl) :
    PI X (.Tuple elts kk tpos) (.Call (.Name "enumerate" p) [a] [] pos) (rdI Z P Φ W (.enu ca)) := by
  refine PI.imp (pi_enumD hg hm (pa_cons ha pa_nil hs) hs) ?_
  rintro τ H R' ⟨μ, σ, S, R, L, h⟩
  simp only [ev] at h
  refine stepE R L h _ (fun _ _ _ _ _ _ _ z => z) fun d S1 μ1 H1 v e1 R1 L1 hv h1 => ?_
  obtain ⟨raws, xs', hw, q⟩ := h1 μ1 H1 Ext.refl R1
  simp only [walk] at hw
  cases hi : seqOf S1 d with
  | none => rw [hi] at hw; cases hw
  | some ys =>
    rw [hi] at hw
    cases hw
    have lists : ∀ (a : Addr), v = .ref a → (∀ μ' S' H', Mo μ1 H1 μ' H' → RS Z μ' S' H' → still d ys S' = true → ∃ vs, SqL Z.K H' a vs ∧ DVs Z H' μ' ys vs) → (∃ vs, SqL Z.K H1 a vs) → ∃ a, [v] = [.ref a] ∧ (((∃ xs, SqL X.K H1 a xs) ∧ R' (Ite X.K a) H1) ∨ ∃ xs, SqT X.K H1 a xs ∧ R' (Itet X.K a xs.length) H1) := by
      rintro a rfl hq hq0
      refine ⟨a, rfl, .inl ⟨by rw [hZ]; exact hq0, q _ fun μ' S' H' e R2 hs2 => ?_⟩⟩
      obtain ⟨vs, h3, h4⟩ := hq μ' S' H' e R2 hs2
      rw [← hZ] at h3
      refine ⟨fun i x hx => ?_, fun i hi => ⟨vs, h3, by rw [← h4.length, ← enumD_len (k := 0)]; exact hi⟩⟩
      obtain ⟨y, hy, rfl⟩ := enumD_get hx
      obtain ⟨w, h5, h6⟩ := h4.get hy
      refine ⟨⟨vs, w, h3, h5⟩, ?_⟩
      rintro v' H'' ⟨T, x', rfl, hn, rfl, hy2⟩
      have := hy2 vs h3
      rw [h5] at this
      cases this
      rw [Nat.zero_add]
      exact R2.pair hn (by simp only [DVs, DV]; exact ⟨_, _, rfl, rfl, _, _, rfl, h6, rfl⟩)
    cases d with
    | tup zs =>
      cases hi
      simp only [DV] at hv
      obtain ⟨a, vs, rfl, h1, h2⟩ := hv
      rw [← hZ] at h1
      refine ⟨a, rfl, .inr ⟨vs, h1, q _ fun μ' S' H' e R2 hs2 => ?_⟩⟩
      refine ⟨fun i x hx => ?_, fun i hi => ⟨vs, e.sqT h1, by rw [← h2.length, ← enumD_len (k := 0)]; exact hi, rfl⟩⟩
      obtain ⟨y, hy, rfl⟩ := enumD_get hx
      obtain ⟨w, h5, h6⟩ := h2.get hy
      refine ⟨⟨vs, w, e.sqT h1, h5, rfl⟩, ?_⟩
      rintro v' H'' ⟨T, x', rfl, hn, rfl, hy2⟩
      have := hy2 vs (e.sqT h1)
      rw [h5] at this
      cases this
      rw [Nat.zero_add]
      exact R2.pair hn (by simp only [DVs, DV]; exact ⟨_, _, rfl, rfl, _, _, rfl, h6.mo e, rfl⟩)
    | scr zs =>
      cases hi
      have hv0 := hv
      simp only [DV] at hv
      obtain ⟨a, vs, rfl, h1, h2⟩ := hv
      exact lists a rfl (fun μ' S' H' e R2 _ => ⟨vs, (e.scr h1).sqL, h2.mo e⟩) ⟨vs, h1.sqL⟩
    | ref j =>
      have hi : S1.lv (.ref j) = some ys := hi
      obtain ⟨a, e2, hq⟩ := lv_walks R1 hi hv
      obtain ⟨b, vs, e3, h3, _⟩ := R1.lv hi hv
      rw [e2] at e3
      cases e3
      exact lists a e2 hq ⟨vs, SqL.of h3⟩
    | rol j =>
      have hi : S1.lv (.rol j) = some ys := hi
      obtain ⟨a, e2, hq⟩ := lv_walks R1 hi hv
      obtain ⟨b, vs, e3, h3, _⟩ := R1.lv hi hv
      rw [e2] at e3
      cases e3
      exact lists a e2 hq ⟨vs, SqL.of h3⟩
    | _ => cases hi
end
end Vm
namespace Vm
open PySem L2
section
variable {Z : Zz} {H H' : Hp} {μ μ' : Mu} {S : Sto}
/-- the pairs of a dict stand for pairs of the layer -/
def DKs (Z : Zz) (H : Hp) (μ : Mu) : List (D × D) → List (Key × V) → Prop
  | [], qs => qs = []
  | (k, d) :: r, qs => ∃ q v s, qs = (q, v) :: s ∧ keyD k = some q ∧ DV Z H μ d v ∧ DKs Z H μ r s
theorem DKs.of : ∀ {kvs : List (D × D)} {qs : List (Key × V)}, kvs.map (fun p => keyD p.1) = qs.map (fun p => some p.1) → DVs Z H μ (kvs.map (·.2)) (qs.map (·.2)) → DKs Z H μ kvs qs
  | [], [], _, _ => rfl
  | [], _ :: _, h, _ => by simp at h
  | _ :: _, [], h, _ => by simp at h
  | (k, d) :: r, (q, v) :: s, h, hv => by
    simp only [List.map_cons, List.cons.injEq] at h
    simp only [List.map_cons, DVs] at hv
    obtain ⟨v', r', e, h1, h2⟩ := hv
    cases e
    exact ⟨q, v, s, rfl, h.1, h1, DKs.of h.2 h2⟩
theorem DKs.to : ∀ {kvs : List (D × D)} {qs : List (Key × V)}, DKs Z H μ kvs qs → kvs.map (fun p => keyD p.1) = qs.map (fun p => some p.1) ∧ DVs Z H μ (kvs.map (·.2)) (qs.map (·.2))
  | [], qs, h => by cases h; exact ⟨rfl, by simp only [List.map_nil, DVs]⟩
  | (k, d) :: r, qs, h => by
    obtain ⟨q, v, s, rfl, h1, h2, h3⟩ := h
    obtain ⟨a, b⟩ := DKs.to h3
    exact ⟨by simp only [List.map_cons, h1, a], by simp only [List.map_cons, DVs]; exact ⟨v, _, rfl, h2, b⟩⟩
theorem DKs.length : ∀ {kvs : List (D × D)} {qs : List (Key × V)}, DKs Z H μ kvs qs → kvs.length = qs.length := fun h => by simpa using congrArg List.length h.to.1
theorem DKs.mono (e : Ext μ H μ' H') : ∀ {kvs : List (D × D)} {qs : List (Key × V)}, DKs Z H μ kvs qs → DKs Z H' μ' kvs qs
  | [], qs, h => h
  | (k, d) :: r, qs, h => by
    obtain ⟨q, v, s, rfl, h1, h2, h3⟩ := h
    exact ⟨q, v, s, rfl, h1, h2.mono e, DKs.mono e h3⟩
theorem keyD_beq {a b : D} {p q : Key} (ha : keyD a = some p) (hb : keyD b = some q) : D.beq a b = decide (p = q) := by
  cases a with
  | int i =>
    cases ha
    cases b with
    | int j =>
      cases hb
      rw [Bool.eq_iff_iff]
      simp [D.beq]
    | str t => cases hb; simp [D.beq]
    | _ => cases hb
  | str s =>
    cases ha
    cases b with
    | int j => cases hb; simp [D.beq]
    | str t =>
      cases hb
      rw [Bool.eq_iff_iff]
      simp [D.beq]
    | _ => cases hb
  | _ => cases ha
theorem isKey_key {k : D} (h : isKey k = true) : ∃ q, keyD k = some q := by
  cases k <;> first | exact ⟨_, rfl⟩ | cases h
theorem key_DV {k : D} {q : Key} {v : V} (hk : keyD k = some q) (h : DV Z H μ k v) : v = kV q := by
  cases k with
  | int i => cases hk; simp only [DV] at h; exact h
  | str s => cases hk; simp only [DV] at h; exact h.2.2
  | _ => cases hk
theorem DKs.get {k : D} {q : Key} (hk : keyD k = some q) : ∀ {kvs : List (D × D)} {qs : List (Key × V)}, DKs Z H μ kvs qs → (∀ d, getK kvs k = some d → ∃ v, valV qs q = some v ∧ DV Z H μ d v) ∧ (getK kvs k = none → valV qs q = none)
  | [], qs, h => by cases h; exact ⟨(fun _ z => by cases z), fun _ => rfl⟩
  | (a, d) :: r, qs, h => by
    obtain ⟨p, v, s, rfl, h1, h2, h3⟩ := h
    obtain ⟨i1, i2⟩ := DKs.get hk h3
    simp only [getK, keyD_beq h1 hk]
    by_cases e : p = q
    · rw [decide_eq_true e, if_pos rfl, valV_pos (p := (p, v)) e]
      exact ⟨(fun x hx => by cases hx; exact ⟨v, rfl, h2⟩), fun z => by cases z⟩
    · rw [decide_eq_false e, if_neg Bool.false_ne_true, valV_neg (p := (p, v)) e]
      exact ⟨i1, i2⟩
theorem DKs.any {k : D} {q : Key} (hk : keyD k = some q) : ∀ {kvs : List (D × D)} {qs : List (Key × V)}, DKs Z H μ kvs qs → kvs.any (fun p => D.beq p.1 k) = qs.any fun kv => decide (kv.1 = q)
  | [], qs, h => by cases h; rfl
  | (a, d) :: r, qs, h => by
    obtain ⟨p, v, s, rfl, h1, h2, h3⟩ := h
    rw [List.any_cons, List.any_cons, DKs.any hk h3, keyD_beq h1 hk]
theorem DKs.snoc {k : D} {q : Key} {y : D} {w : V} (hk : keyD k = some q) (hy : DV Z H μ y w) : ∀ {kvs : List (D × D)} {qs : List (Key × V)}, DKs Z H μ kvs qs → DKs Z H μ (kvs ++ [(k, y)]) (qs ++ [(q, w)])
  | [], qs, h => by cases h; exact ⟨q, w, [], rfl, hk, hy, rfl⟩
  | (a, d) :: r, qs, h => by
    obtain ⟨p, v, s, rfl, h1, h2, h3⟩ := h
    exact ⟨p, v, s ++ [(q, w)], rfl, h1, h2, DKs.snoc hk hy h3⟩
theorem DKs.map {k : D} {q : Key} {y : D} {w : V} (hk : keyD k = some q) (hy : DV Z H μ y w) : ∀ {kvs : List (D × D)} {qs : List (Key × V)}, DKs Z H μ kvs qs → DKs Z H μ (kvs.map fun p => if D.beq p.1 k then (p.1, y) else p) (qs.map fun kv => if kv.1 = q then (kv.1, w) else kv)
  | [], qs, h => by cases h; rfl
  | (a, d) :: r, qs, h => by
    obtain ⟨p, v, s, rfl, h1, h2, h3⟩ := h
    simp only [List.map_cons, keyD_beq h1 hk]
    by_cases e : p = q
    · rw [decide_eq_true e, if_pos rfl, if_pos e]
      exact ⟨p, w, _, rfl, h1, hy, DKs.map hk hy h3⟩
    · rw [decide_eq_false e, if_neg Bool.false_ne_true, if_neg e]
      exact ⟨p, v, _, rfl, h1, h2, DKs.map hk hy h3⟩
theorem DKs.put {k : D} {q : Key} {y : D} {w : V} (hk : keyD k = some q) (hy : DV Z H μ y w) {kvs : List (D × D)} {qs : List (Key × V)} (h : DKs Z H μ kvs qs) : DKs Z H μ (putK kvs k y) (L2.putK qs q w) := by
  unfold putK L2.putK
  rw [DKs.any hk h]
  split
  · exact h.map hk hy
  · exact h.snoc hk hy
theorem putK_len (kvs : List (D × D)) (k y : D) : (putK kvs k y).length ≤ kvs.length + 1 := by
  unfold putK
  split
  · rw [List.length_map]; omega
  · rw [List.length_append]; exact Nat.le_refl _
theorem mergeD_len : ∀ (ps acc : List (D × D)), (mergeD acc ps).length ≤ acc.length + ps.length
  | [], acc => Nat.le_refl _
  | p :: ps, acc => by
    have h1 := mergeD_len ps (putK acc p.1 p.2)
    have h2 := putK_len acc p.1 p.2
    rw [mergeD, List.length_cons]
    omega
/-- a dict, of the store or kept -/
theorem RS.dctv (R : RS Z μ S H) {x : D} {kvs : List (D × D)} {v : V} (h : dctOf S x = some kvs) (hv : DV Z H μ x v) : ∃ a qs, v = .ref a ∧ Rd H a (.dK qs) ∧ DKs Z H μ kvs qs ∧ kvs.length ≤ SL := by
  cases x with
  | ref i =>
    simp only [dctOf] at h
    cases e : S[i]? with
    | none => rw [e] at h; cases h
    | some o =>
      rw [e] at h
      cases o with
      | dct kvs' =>
        cases h
        obtain ⟨a, ha, z, qs, h1, h2, h3⟩ := R.at e
        simp only [DV] at hv
        obtain ⟨a', ha', rfl⟩ := hv
        rw [ha] at ha'; cases ha'
        exact ⟨a, qs, rfl, .inl h1, DKs.of h2 h3, z⟩
      | _ => cases h
  | rdc ks ds =>
    cases h
    simp only [DV] at hv
    obtain ⟨a, qs, o, rfl, h1, hz, h2, h3⟩ := hv
    have l1 : ks.length = qs.length := by simpa using congrArg List.length h2
    have l2 : ds.length = qs.length := by simpa using h3.length
    have e1 : (ks.zip ds).map (fun p => keyD p.1) = ks.map keyD := by
      rw [show (fun p : D × D => keyD p.1) = keyD ∘ Prod.fst from rfl, ← List.map_map, List.map_fst_zip (by omega)]
    have e2 : (ks.zip ds).map (·.2) = ds := List.map_snd_zip (by omega)
    exact ⟨a, qs, rfl, .inr ⟨o, h1⟩, DKs.of (by rw [e1, h2]) (by rw [e2]; exact h3), by rw [List.length_zip]; omega⟩
  | _ => cases h
theorem RS.dct (R : RS Z μ S H) {i : Nat} {kvs : List (D × D)} (h : S[i]? = some (.dct kvs)) : ∃ a qs, μ.l[i]? = some a ∧ H a = some (.dK qs) ∧ DKs Z H μ kvs qs ∧ kvs.length ≤ SL := by
  obtain ⟨a, ha, z, qs, h1, h2, h3⟩ := R.at h
  exact ⟨a, qs, ha, h1, DKs.of h2 h3, z⟩
theorem OOk.dct {a : Addr} {kvs : List (D × D)} {qs : List (Key × V)} (h : DKs Z H μ kvs qs) (ha : H a = some (.dK qs)) (hz : kvs.length ≤ SL) : OOk Z H μ a (.dct kvs) := ⟨hz, qs, ha, h.to.1, h.to.2⟩
end
end Vm
namespace Vm
open PySem L2
section
variable {X : Cx} {Z : Zz} {P : Pg} {Φ : Nat → List D → Sto → Res} {W : WX}
variable {H H' : Hp} {μ μ' : Mu} {S S' : Sto} {σ : Sl} {τ : St} {Q : VK}
variable {tg iter elt : Expr} {ifs : List Expr} {ca cb cc ce ci cg ct : C} {pos : Pos}
theorem s_par3 {i j l : Nat} {x y z : Str} {a b c : Expr} {px py pz pt : Pos} {kt k2 : Nat} {pt2 : Pos} (hc : X.calm = true) (hN : X.N.Nodup) (hi : X.N[i]? = some x) (hj : X.N[j]? = some y) (hl : X.N[l]? = some z) (hij : i ≠ j) (hil : i ≠ l) (hjl : j ≠ l)
    (hx : X.env.scope.names.lookup x = some .local) (hy : X.env.scope.names.lookup y = some .local) (hz : X.env.scope.names.lookup z = some .local) (ha : PE X a (rdE Z P Φ W ca)) (hb : PE X b (rdE Z P Φ W cb)) (hcc : PE X c (rdE Z P Φ W cc))
    (hw : swappedStores [.Tuple [.Name x px, .Name y py, .Name z pz] kt pt] (.Tuple [a, b, c] k2 pt2) X.env = pure (some [x, y, z]))
    (hs1 : starEach [a, b, c] X.env = (false, eval a X.env) :: starEach [b, c] X.env := by rfl) (hs2 : starEach [b, c] X.env = (false, eval b X.env) :: starEach [c] X.env := by rfl) (hs3 : starEach [c] X.env = (false, eval c X.env) :: starEach [] X.env := by rfl)
    (hs : swapsWithSole [.Tuple [.Name x px, .Name y py, .Name z pz] kt pt] (.Tuple [a, b, c] k2 pt2) pos.line X.env = pure false := by rfl) :
    PS X (.Assign [.Tuple [.Name x px, .Name y py, .Name z pz] kt pt] (.Tuple [a, b, c] k2 pt2) pos) (rdS Z P Φ W (.asg (.gt (.gcons (.gn i) (.gcons (.gn j) (.gcons (.gn l) .gnil)))) (.tup (.acons ca (.acons cb (.acons cc .anil)))))) := by
  refine PS.imp (ps_par3 hc hN hi hj hl hij hil hjl hx hy hz (v_acons ha (v_acons hb (v_acons hcc v_anil hs3) hs2) hs1) hw hs) ?_
  rintro D τ H ⟨μ, σ, S, R, L, h⟩
  rw [ev] at h
  have h' : Want Z μ H (kS Z W D) (bv σ (ev P Φ (.acons ca (.acons cb (.acons cc .anil))) [] σ S) fun ds S1 => b1 σ (if ds.length ≤ SL then .val [.tup ds] S1 else .bad) fun d S => bg (ev P Φ (.gt (.gcons (.gn i) (.gcons (.gn j) (.gcons (.gn l) .gnil)))) [d] σ S) fun σ S => .nx σ S) := by
    rw [ev] at h
    cases q : ev P Φ (.acons ca (.acons cb (.acons cc .anil))) [] σ S with
    | val ds S1 => rw [q] at h; exact h
    | exc c fs σ1 S1 => rw [q] at h; exact h
    | _ => rw [q] at h; exact h
  refine stepA R L h' _ (fun c fs S1 μ1 H1 e R1 z => kS_x c fs S1 μ1 H1 L e R1 z) fun ds S1 μ1 H1 vs e1 R1 L1 hvs h1 => ?_
  split at h1
  · have hl : ds.length = 3 := gcons_len (P := P) (Φ := Φ) (gcons_len (gcons_len gnil_len)) ds σ _ fun z => by
      simp only [b1] at h1
      rw [ev, z] at h1
      exact h1.bad
    match ds, hl, hvs, h1 with
    | [d, e, f], _, hvs, h1 =>
      simp only [DVs] at hvs
      obtain ⟨v, _, rfl, hv, w, _, rfl, hw, u, _, rfl, hu, rfl⟩ := hvs
      refine ⟨v, w, u, rfl, ?_⟩
      simp only [b1, ev, bg] at h1
      by_cases z1 : i < σ.length
      · by_cases z2 : j < (σ.set i (some d)).length
        · by_cases z3 : l < ((σ.set i (some d)).set j (some e)).length
          · simp only [if_pos z1, if_pos z2, if_pos z3] at h1
            exact h1 μ1 H1 Ext.refl R1 _ (((L1.set hv).set hw).set hu)
          · simp only [if_pos z1, if_pos z2, if_neg z3] at h1
            exact h1.bad
        · simp only [if_pos z1, if_neg z2] at h1
          exact h1.bad
      · simp only [if_neg z1] at h1
        exact h1.bad
  · exact h1.bad
/-- name = [..] on one line, kept -/
theorem s_setlcf {i : Nat} {y : Str} {py spos : Pos} {scope : Scope} {own : List (Str × Nat)} {g : TG} (hc : X.calm = true) (hp : Z.pn = []) (hN : X.N.Nodup) (hy : X.N[i]? = some y) (hyl : X.env.scope.names.lookup y = some .local)
    (hsw : swapsWith (.ListComp elt [⟨tg, iter, ifs, 0⟩] scope pos) (some (.Name y py)) spos.line X.env = pure true) (hi : PI X tg iter (rdI Z P Φ W ci)) (ok : BlkOk X.N X.env.scope scope own)
    (hgo : TgOk Z P Φ cg g (own.map (·.2))) (hg : ∀ (s : Shared) (H : Hp) (C : Addr) (cl : List (Str × Addr)) (fp : List Addr), PG (X.blk s H scope (compEnvC scope cl C X.env) fp) tg g)
    (ht : ∀ (s : Shared) (H : Hp) (C : Addr) (cl : List (Str × Addr)) (fp : List Addr), PTs (X.blk s H scope (compEnvC scope cl C X.env) fp) ifs (rdT Z P Φ W0 ct))
    (he : ∀ (s : Shared) (H : Hp) (C : Addr) (cl : List (Str × Addr)) (fp : List Addr), PE (X.blk s H scope (compEnvC scope cl C X.env) fp) elt (rdE Z P Φ W0 ce)) (hs : ∀ x, foldedSetIterable iter X.env x = pure x := by intro _; rfl) :
    PS X (.Assign [.Name y py] (.ListComp elt [⟨tg, iter, ifs, 0⟩] scope pos) spos) (rdS Z P Φ W (.asg (.gn i) (.frz (.lc (own.map (·.2)) cg ci ct ce)))) := by
  refine PS.imp (ps_setLc hc hN hy hyl hsw hi ok hg ht he hs) ?_
  rintro D τ H ⟨μ, σ, S, R, L, h⟩
  rw [ev] at h
  have h' : rdE Z P Φ W (.frz (.lc (own.map (·.2)) cg ci ct ce)) τ H (fun v H1 => gName i v τ H1 D.nx) := by
    refine stepSE R L h _ fun d S1 μ1 H1 v e1 R1 L1 hv h1 => ?_
    simp only [ev, bg] at h1
    split at h1
    · rename_i e
      split at e
      · cases e
        exact h1 μ1 H1 Ext.refl R1 _ (L1.set hv)
      · cases e
    · exact h1.bad
  exact lc_core' hp hgo (fun _ _ _ z => z) (fun _ _ _ z => z) (rd_frz h')
end
end Vm
namespace Vm
def inL : List (Nat × Nat) → Nat → Nat → Bool
  | [], _, _ => false
  | (a, b) :: r, c, f => if a = c ∧ b = f then true else inL r c f
def AllP (p : Nat → Nat → Prop) : List (Nat × Nat) → Prop
  | [] => True
  | (a, b) :: r => p a b ∧ AllP p r
theorem inL_all {p : Nat → Nat → Prop} {c f : Nat} : ∀ l : List (Nat × Nat), AllP p l → inL l c f = true → p c f
  | [], _, h => nomatch h
  | (a, b) :: r, q, h => by
    unfold inL at h
    split at h
    · rename_i e
      rw [← e.1, ← e.2]
      exact q.1
    · exact inL_all r q.2 h
def exAt : List (Nat × List Nat) → Nat → Option (List Nat)
  | [], _ => none
  | (a, b) :: r, c => if a = c then some b else exAt r c
section
variable {K : PySem.W.Frag} {C B : PySem.Addr} {b : Bool}
theorem cls_some (h : PySem.W.hasDictIn K C = true) : (PySem.W.clsIn K C).isSome = true := by
  obtain ⟨cd, hc, _⟩ := PySem.W.any_some h
  rw [hc]
  rfl
theorem kit_same : PySem.W.kitOne K (.ref C) (.ref C) = some true := if_pos (beq_self_eq_true _)
end
end Vm
namespace Vm
open PySem L2 ClX
/-- C.f is the constant d -/
def CK (K : PySem.W.Frag) (C : Addr) (f : Str) (d : D) : Prop := ∃ mc u v, CRead K C mc ∧ CVal K C mc f v u ∧ ∀ Z : Zz, Z.K = K → GV Z d v
section
variable {X : Cx} {Z : Zz} {P : Pg} {Φ : Nat → List D → Sto → Res} {W : WX}
theorem v_cgl {x f : Str} {C : Addr} {n : Nat} {d : D} {p pos : Pos} (hg : Gl X x) (hm : X.mg x = some (.ref C)) (h : CK X.K C f d) (hK : Z.K = X.K) (hn : P.gl n = some d) (hd : (x == ("__debug__" : Str)) = false := by decide)
    (hb : attributeBase (.Name x p) f X.env (eval (.Name x p) X.env) = eval (.Name x p) X.env := by rfl) : PE X (.Attribute (.Name x p) f pos) (rdE Z P Φ W (.gl n)) := by
  obtain ⟨mc, u, v, h1, h2, h3⟩ := h
  refine PE.imp (pe_cval (pe_glob (v := .ref C) hg hm rfl hd) hb) ?_
  rintro τ H Q ⟨μ, σ, S, R, L, q⟩
  simp only [ev, hn] at q
  exact ⟨C, mc, v, u, rfl, h1, h2, q.dE R (h3 Z hK H μ)⟩
end
theorem ck_of {K : PySem.W.Frag} {C : Addr} {mc u : Value} {f : Str} {d : D} (h1 : PySem.W.readsIn K C mc = true) (h2 : PySem.W.specialIn K (.ref C) "__getattribute__" = some (some (.builtin "type.__getattribute__"))) (h3 : PySem.W.findCls K (.ref C) mc f = some (.val u)) (h : KV1 K d u) : CK K C f d := by
  obtain ⟨v, r, g⟩ := h
  exact ⟨mc, u, v, ⟨h1, h2⟩, ⟨h3, r⟩, g⟩
end Vm
namespace Vm
open PySem L2
section
variable {X : Cx} {Z : Zz} {P : Pg} {Φ : Nat → List D → Sto → Res} {W : WX}
variable {H H' : Hp} {μ μ' : Mu} {S S' : Sto} {σ : Sl} {τ : St} {Q : VK} {k : Kt}
variable {a b e l o tg iter elt : Expr} {es ifs : List Expr} {ca cb cc ce co ci cg ct cr : C} {pos p apos cpos : Pos}
theorem strsOf_ok {H : Hp} {μ : Mu} : ∀ {ds : List D} {zs : List (List Nat)} {vs : List V}, strsOf ds = some zs → DVs Z H μ ds vs → vs = (zs.map fun z => (⟨z.toArray⟩ : Str)).map V.str ∧ (∀ z ∈ zs, z.length ≤ SL ∧ ∀ c ∈ z, c < 0x110000)
  | [], zs, vs, h, hv => by cases h; simp only [DVs] at hv; subst hv; exact ⟨rfl, fun _ z => nomatch z⟩
  | d :: ds, zs, vs, h, hv => by
    cases d with
    | str s =>
      rw [strsOf] at h
      cases e : strsOf ds with
      | none => rw [e] at h; cases h
      | some q =>
        rw [e] at h
        cases h
        simp only [DVs] at hv
        obtain ⟨v, r, rfl, h1, h2⟩ := hv
        simp only [DV] at h1
        obtain ⟨g1, g2, rfl⟩ := h1
        obtain ⟨k1, k2⟩ := strsOf_ok e h2
        subst k1
        refine ⟨rfl, fun z hz => ?_⟩
        rcases List.mem_cons.mp hz with hz | hz
        · rw [hz]; exact ⟨g1, g2⟩
        · exact k2 z hz
    | _ => cases h
theorem joinT_S (sep : List Nat) : ∀ (zs : List (List Nat)), joinT sep zs = TL.joinL sep zs
  | [] => rfl
  | [_] => rfl
  | p :: q :: r => by
    show p ++ (sep ++ joinT sep (q :: r)) = p ++ (sep ++ TL.joinL sep (q :: r))
    rw [joinT_S sep (q :: r)]
theorem tl_mk (a : List Nat) : TL.tl (⟨a.toArray⟩ : Str) = a := by simp [TL.tl]
theorem map_tl : ∀ (zs : List (List Nat)), ((zs.map fun z => (⟨z.toArray⟩ : Str)).map TL.tl) = zs
  | [] => rfl
  | z :: zs => by rw [List.map_cons, List.map_cons, map_tl zs, tl_mk]
theorem txt_join (sep : List Nat) (zs : List (List Nat)) : Txt.join (⟨sep.toArray⟩ : Str) (zs.map fun z => (⟨z.toArray⟩ : Str)) = ⟨(joinT sep zs).toArray⟩ := by
  have e := TL.tl_join (⟨sep.toArray⟩ : Str) (zs.map fun z => (⟨z.toArray⟩ : Str))
  rw [map_tl, tl_mk, ← joinT_S] at e
  refine TL.ext_tl ((congrArg TL.tl (TL.join_eq _ _)).trans (e.trans (tl_mk _).symm))
theorem joinT_len (sep : List Nat) : ∀ (zs : List (List Nat)), (joinT sep zs).length ≤ (zs.map List.length).sum + sep.length * zs.length
  | [] => by simp [joinT]
  | [z] => by simp [joinT]
  | p :: q :: r => by
    show (p ++ (sep ++ joinT sep (q :: r))).length ≤ _
    have := joinT_len sep (q :: r)
    simp only [List.length_append, List.map_cons, List.sum_cons, List.length_cons, Nat.mul_add] at this ⊢
    omega
theorem joinT_mem (sep : List Nat) : ∀ {zs : List (List Nat)} {c : Nat}, c ∈ joinT sep zs → c ∈ sep ∨ ∃ z ∈ zs, c ∈ z
  | [], c, h => nomatch h
  | [z], c, h => .inr ⟨z, List.mem_singleton.mpr rfl, h⟩
  | p :: q :: r, c, h => by
    have h : c ∈ p ++ (sep ++ joinT sep (q :: r)) := h
    rcases List.mem_append.mp h with h | h
    · exact .inr ⟨p, List.mem_cons_self, h⟩
    · rcases List.mem_append.mp h with h | h
      · exact .inl h
      · rcases joinT_mem sep h with h | ⟨z, hz, h⟩
        · exact .inl h
        · exact .inr ⟨z, List.mem_cons_of_mem _ hz, h⟩
theorem lens_S (zs : List (List Nat)) : ((zs.map fun z => (⟨z.toArray⟩ : Str)).map (·.length)) = zs.map List.length := by
  rw [List.map_map]
  exact List.map_congr_left fun z _ => by simp [Str.length]
theorem mb_join (hZ : X.K = Z.K) : MtR X "str.join" (rMB Z .join) := by
  intro pins s σ H x vs v us Q I rx rv h
  obtain ⟨μ, S, d, ds, R, hd, hds, h⟩ := h
  cases d with
  | str sep =>
    match ds, hds, h with
    | [y], hds, h =>
      obtain ⟨w, rfl, hw⟩ := hds.of_one
      clear hds
      simp only [callM, callMv] at h
      cases ey : extOf S y with
      | none => rw [ey] at h; exact h.bad
      | some ys =>
        rw [ey] at h
        simp only [Option.bind_some] at h
        cases ez : strsOf ys with
        | none => rw [ez] at h; exact h.bad
        | some zs =>
          rw [ez] at h
          dsimp only at h
          split at h
          · rename_i hl
            simp only [DV] at hd
            obtain ⟨d1, d2, rfl⟩ := hd
            have fin : ∀ (a : Addr), (SqL X.K H a ((zs.map fun z => (⟨z.toArray⟩ : Str)).map V.str) ∨ SqT X.K H a ((zs.map fun z => (⟨z.toArray⟩ : Str)).map V.str)) → w = .ref a → (∀ z ∈ zs, z.length ≤ SL ∧ ∀ c ∈ z, c < 0x110000) → wpAny (model X.prog X.w) X.A (call (.builtin "str.join") (v :: us)) (EP X pins σ Q) X.xe s := fun a q1 q2 q3 => by
              subst q2
              refine mt_join pins s σ H _ _ v us Q I rx rv ⟨_, a, _, rfl, rfl, q1, ?_, ?_⟩
              · rw [lens_S, List.length_map]
                have : (⟨sep.toArray⟩ : Str).length = sep.length := by simp [Str.length]
                rw [this, Nat.mul_comm]
                exact hl
              · rw [txt_join]
                refine h.dn R ?_
                simp only [DV]
                refine ⟨Nat.le_trans (joinT_len _ _) hl, fun c hc => ?_, trivial⟩
                rcases joinT_mem sep hc with hc | ⟨z, hz, hc⟩
                · exact d2 c hc
                · exact (q3 z hz).2 c hc
            have lst : ∀ {q}, S.lv y = some q → extOf S y = S.lv y → wpAny (model X.prog X.w) X.A (call (.builtin "str.join") (v :: us)) (EP X pins σ Q) X.xe s := fun {q} hq hx => by
              rw [hx, hq] at ey
              cases ey
              obtain ⟨b, ws, rfl, h3, h4, _⟩ := R.lv hq hw
              obtain ⟨g1, g2⟩ := strsOf_ok ez h4
              subst g1
              exact fin b (.inl (SqL.of h3)) rfl g2
            cases y with
            | tup ts =>
              cases ey
              simp only [DV] at hw
              obtain ⟨b, ws, rfl, h3, h4⟩ := hw
              rw [← hZ] at h3
              obtain ⟨g1, g2⟩ := strsOf_ok ez h4
              subst g1
              exact fin b (.inr h3) rfl g2
            | ref _ => exact lst ey rfl
            | rol _ => exact lst ey rfl
            | _ => exact absurd ey (fun z => nomatch z)
          · exact h.bad
    | [], _, h => exact h.bad
    | _ :: _ :: _, _, h => exact h.bad
  | ref i =>
    simp only [callM] at h
    cases e : S[i]? with
    | none => rw [e] at h; exact h.bad
    | some ob =>
      rw [e] at h
      cases ob with
      | lst xs => exact h.bad
      | _ => exact h.bad
  | _ => exact h.bad
theorem rcv_str {m : Bm} (hm : m = .join ∨ m = .partition ∨ m = .split) : ∀ (d : D) (S1 : Sto) (μ1 : Mu) (H1 : Hp) (v : V), RS Z μ1 S1 H1 → DV Z H1 μ1 d v → rcv m d S1 = true → tyV X.K "str" v H1 := by
  intro d S1 μ1 H1 v R hv hr
  cases d with
  | str s =>
    simp only [DV] at hv
    obtain ⟨_, _, rfl⟩ := hv
    rfl
  | _ => rcases hm with rfl | rfl | rfl <;> cases hr
end
end Vm
namespace Vm
open PySem L2 ClX
section
variable {X : Cx} {Z : Zz} {P : Pg} {Φ : Nat → List D → Sto → Res} {W : WX}
variable {H H' : Hp} {μ μ' : Mu} {S S' : Sto} {σ : Sl} {τ : St} {Q : VK} {k : Kt}
variable {a b e l o tg iter elt : Expr} {es ifs : List Expr} {ca cb cc ce co ci cg ct cr : C} {pos p apos cpos : Pos}
theorem strsOf_map : ∀ (zs : List (List Nat)), strsOf (zs.map D.str) = some zs
  | [] => rfl
  | z :: zs => by rw [List.map_cons, strsOf, strsOf_map zs]
theorem str_int (i : Int) : (Str.ofString (toString i)) = ⟨(digs i).toArray⟩ := Str.ofString_eq_toList _
theorem digs_len {i : Int} (h : i.natAbs.log2 < 1920) : (digs i).length ≤ SL := by
  have := int_text_fits h
  rw [show (toString i : Str) = ⟨(digs i).toArray⟩ from str_int i] at this
  rw [sizeLine_eq] at this
  simpa [Str.length] using this
theorem log2_of {i : Int} (h : i.natAbs < 2 ^ 1900) : i.natAbs.log2 < 1920 := by
  by_cases h0 : i.natAbs = 0
  · rw [h0]; decide
  · have := (Nat.log2_lt h0).mpr h
    omega
theorem digs_lt (i : Int) : ∀ c ∈ digs i, c < 0x110000 := by
  intro c hc
  obtain ⟨d, _, rfl⟩ := List.mem_map.mp hc
  have := d.valid
  unfold Char.toNat
  rcases this with h | h
  · have : d.val.toNat < 0xd800 := h
    omega
  · exact h.2
section
variable {x : Str}
/-- what str(..) and {..} make of a value -/
def tosR (d : D) (S : Sto) : Res := match d with
    | .str s => .val [.str s] S
    | .int i => if i.natAbs < 2 ^ 1900 then .val [.str (digs i)] S else .bad
    | _ => .bad
theorem ev_tos {i : List D} : ev P Φ (.tos ca) i σ S = b1 σ (ev P Φ ca [] σ S) tosR := by
  rw [ev]; rfl
/-- .. by the value -/
theorem tos_ok {d : D} {v : V} (R : RS Z μ S H) (hv : DV Z H μ d v) (h : Want Z μ H (kE Z W τ Q) (tosR d S)) : (∃ y : Str, v = .str y ∧ y.length ≤ sizeLine ∧ Q (.str y) H) ∨ ∃ i : Int, v = .int i ∧ i.natAbs.log2 < 1920 ∧ Q (.str (toString i)) H := by
  unfold tosR at h
  cases d with
  | str s =>
    have hv0 := hv
    simp only [DV] at hv
    obtain ⟨h1, h2, rfl⟩ := hv
    exact .inl ⟨_, rfl, by rw [sizeLine_eq]; simpa [Str.length] using h1, h.dE R hv0⟩
  | int i =>
    simp only [DV] at hv
    subst hv
    dsimp only at h
    split at h
    · rename_i hi
      refine .inr ⟨i, rfl, log2_of hi, ?_⟩
      rw [show (toString i : Str) = ⟨(digs i).toArray⟩ from str_int i]
      refine h.dE R ?_
      simp only [DV]
      exact ⟨digs_len (log2_of hi), digs_lt i, trivial⟩
    · exact h.bad
  | _ => exact h.bad
/-- str(x), x a text or a number -/
theorem v_tos (hg : Gl X "str") (hm : X.mg "str" = none) (ha : PE X a (rdE Z P Φ W ca))
    (he : starEach [a] X.env = [(false, eval a X.env)] := by rfl) (hpl : (backTo pos (starEach [] X.env)).any (·.1) = false := by rfl) : PE X (.Call (.Name "str" p) [a] [] pos) (rdE Z P Φ W (.tos ca)) := by
  refine PE.imp (pe_callTy (CallR.or SkE.call_str_str call_str_int) hg hm (by decide +kernel) (v_acons ha v_anil he) (by decide) (by decide) he hpl) ?_
  rintro τ H Q ⟨μ, σ, S, R, L, h⟩
  rw [ev_tos] at h
  refine stepA (k := kE Z W τ Q) (a := .acons ca .anil) (f := fun ds S => match ds with | [d] => tosR d S | _ => .bad) R L ?_ _ (fun _ _ _ _ _ _ _ z => z) fun ds S1 μ1 H1 vs e1 R1 L1 hvs k1 => ?_
  · simp only [ev]
    cases q : ev P Φ ca [] σ S with
    | val ds S1 =>
      rw [q] at h
      match ds, h with
      | [], h => exact h.bad
      | [d], h => exact h
      | _ :: _ :: _, h => exact h.bad
    | _ => rw [q] at h; exact h
  · match ds, hvs, k1 with
    | [], _, k1 => exact k1.bad
    | [d], hvs, k1 =>
      obtain ⟨w, rfl, hw⟩ := hvs.of_one
      rcases tos_ok R1 hw k1 with ⟨y, rfl, _, q⟩ | ⟨i, rfl, q1, q⟩
      · exact .inl ⟨y, rfl, q⟩
      · exact .inr ⟨i, rfl, q1, q⟩
    | _ :: _ :: _, _, k1 => exact k1.bad
theorem v_fmt (ha : PE X a (rdE Z P Φ W ca)) : PE X (.FormattedValue a (-1) none pos) (rdE Z P Φ W (.tos ca)) := by
  refine PE.imp (pe_fmt ha) ?_
  rintro τ H Q ⟨μ, σ, S, R, L, h⟩
  rw [ev_tos] at h
  exact stepEE R L h _ fun d S1 μ1 H1 v e1 R1 L1 hv h1 => tos_ok R1 hv h1
end
/-- what comes of it is a text -/
def IsS (P : Pg) (Φ : Nat → List D → Sto → Res) (c : C) : Prop := ∀ σ S ds S', ev P Φ c [] σ S = .val ds S' → ∃ s, ds = [.str s]
theorem isS_kon {s : List Nat} : IsS P Φ (.kon (.str s)) := fun σ S ds S' h => by
  rw [ev] at h
  cases h
  exact ⟨s, rfl⟩
theorem isS_b1 {f : D → Sto → Res} {c c' : C} (he : ∀ σ S, ev P Φ c' [] σ S = b1 σ (ev P Φ c [] σ S) f) (hf : ∀ d S ds S', f d S = .val ds S' → ∃ s, ds = [.str s]) : IsS P Φ c' := fun σ S ds S' h => by
  rw [he] at h
  cases q : ev P Φ c [] σ S with
  | val es S1 =>
    rw [q] at h
    match es, h with
    | [], h => cases h
    | [d], h => exact hf d S1 ds S' h
    | _ :: _ :: _, h => cases h
  | _ => rw [q] at h; cases h
theorem isS_tos : IsS P Φ (.tos ca) := isS_b1 (c := ca) (fun _ _ => ev_tos) fun d S ds S' h => by
  unfold tosR at h
  repeat' (split at h)
  all_goals first | cases h; exact ⟨_, rfl⟩ | cases h
def fstK (acc : List Nat) (ds : List D) (S : Sto) : Res := match strsOf ds with
    | some zs => if (zs.map List.length).sum + acc.length ≤ SL then .val [.str (acc ++ zs.flatten)] S else .bad
    | none => .bad
def fstR (acc : List Nat) (r : Res) : Res := match r with
    | .val ds S => fstK acc ds S
    | _ => .bad
def FJ (X : Cx) (Z : Zz) (P : Pg) (Φ : Nat → List D → Sto → Res) (W : WX) (es : List Expr) (c : C) : Prop := ∃ ts, PJ X es ts ∧
  ∀ (acc : List Nat) (τ : St) (H : Hp) (μ : Mu) (σ : Sl) (S : Sto) (Q : VK), RS Z μ S H → SV Z H μ σ τ → (∀ c ∈ acc, c < 0x110000) → Want Z μ H (kE Z W τ Q) (fstR acc (ev P Φ c [] σ S)) → tJs ts ⟨acc.toArray⟩ τ H fun out H1 => Q (.str out) H1
theorem fj_nil : FJ X Z P Φ W [] .anil := by
  refine ⟨[], .nil, fun acc τ H μ σ S Q R L hc h => ?_⟩
  simp only [ev, fstR, fstK, strsOf, List.map_nil, List.sum_nil, Nat.zero_add, List.flatten_nil, List.append_nil] at h
  split at h
  · rename_i hl
    refine h.dE R ?_
    simp only [DV]
    exact ⟨hl, hc, trivial⟩
  · exact h.bad
theorem fj_cons (hs : IsS P Φ ca) (ha : PE X a (rdE Z P Φ W ca)) (hr : FJ X Z P Φ W es cr) : FJ X Z P Φ W (a :: es) (.acons ca cr) := by
  obtain ⟨ts, h1, h2⟩ := hr
  refine ⟨_ :: ts, .cons ha h1, fun acc τ H μ σ S Q R L hc h => ?_⟩
  show rdE Z P Φ W ca τ H _
  -- the value is a text
  have h' : Want Z μ H (kE Z W τ Q) (b1 σ (ev P Φ ca [] σ S) fun d S => match d with
      | .str s => fstR (acc ++ s) (ev P Φ cr [] σ S)
      | _ => .bad) := by
    rw [ev] at h
    cases q : ev P Φ ca [] σ S with
    | val ds S1 =>
      obtain ⟨s, rfl⟩ := hs σ S ds S1 q
      rw [q] at h
      simp only [b1] at h ⊢
      cases q2 : ev P Φ cr [] σ S1 with
      | val ds S2 =>
        rw [q2] at h
        simp only [bv, fstR, fstK, strsOf] at h ⊢
        cases e : strsOf ds with
        | none => rw [e] at h; exact h
        | some zs =>
          rw [e] at h
          dsimp only at h ⊢
          simp only [List.map_cons, List.sum_cons, List.flatten_cons] at h
          have e1 : (s.length + (zs.map List.length).sum + acc.length ≤ SL) = ((zs.map List.length).sum + (acc ++ s).length ≤ SL) := by
            rw [List.length_append]
            apply propext
            omega
          rw [← List.append_assoc] at h
          simp only [e1] at h
          exact h
      | _ => rw [q2] at h; exact h.bad
    | _ => rw [q] at h; exact h.bad
  refine stepEE R L h' _ fun d S1 μ1 H1 v e1 R1 L1 hv k1 => ?_
  cases d with
  | str s =>
    simp only [DV] at hv
    obtain ⟨g1, g2, rfl⟩ := hv
    dsimp only at k1
    have hc2 : ∀ c ∈ acc ++ s, c < 0x110000 := fun c hcm => (List.mem_append.mp hcm).elim (hc c) (g2 c)
    have k2 := k1
    refine ⟨⟨s.toArray⟩, rfl, ?_, ?_⟩
    · -- the length
      have : (acc ++ s).length ≤ SL := by
        cases q : ev P Φ cr [] σ S1 with
        | val ds S2 =>
          rw [q] at k2
          simp only [fstR, fstK] at k2
          cases e : strsOf ds with
          | none => rw [e] at k2; exact k2.bad
          | some zs =>
            rw [e] at k2
            dsimp only at k2
            split at k2
            · rename_i hl
              omega
            · exact k2.bad
        | _ => rw [q] at k2; exact k2.bad
      rw [sizeLine_eq, str_append]
      simpa [Str.length] using this
    · rw [str_append]
      exact h2 (acc ++ s) τ H1 μ1 σ S1 Q R1 L1 hc2 k2
  | _ => exact k1.bad
theorem v_fst {v1 v2 : Expr} {rest : List Expr} (h : FJ X Z P Φ W (v1 :: v2 :: rest) ca) : PE X (.JoinedStr (v1 :: v2 :: rest) pos) (rdE Z P Φ W (.fst ca)) := by
  obtain ⟨ts, h1, h2⟩ := h
  refine PE.imp (pe_joined h1) ?_
  rintro τ H Q ⟨μ, σ, S, R, L, h⟩
  refine h2 [] τ H μ σ S Q R L (fun _ z => nomatch z) ?_
  rw [ev] at h
  cases q : ev P Φ ca [] σ S with
  | val ds S1 =>
    rw [q] at h
    simp only [fstR, fstK, List.length_nil, Nat.add_zero, List.nil_append]
    exact h
  | _ => rw [q] at h; exact h
end
end Vm
namespace Vm
open PySem L2
/-- a special method of a class -/
structure OwnM (K : PySem.W.Frag) (C : Addr) (m : Str) (g : Addr) : Prop where
  at_ : PySem.W.findIn K (.ref C) m = some (some (.ref g))
  fn : PySem.W.isFn K (.ref g) = true
/-- the plain classes of the text -/
structure PcOk (K : PySem.W.Frag) (Z : Zz) (P : Pg) : Prop where
  cl : ∀ c, P.pc c = true → Cls K (Z.ca c)
  ha : ∀ c, P.pc c = true → PySem.W.findIn K (.ref (Z.ca c)) "__class__" = some (some (.builtin "object.__class__"))
  hm : ∀ c, P.pc c = true → PySem.W.mroIn K (Z.ca c) (.type "object") = some true
  hn : PySem.W.specialIn K (.builtin "object.__class__") "__get__" = some (some (.builtin "getset_descriptor.__get__"))
  htk : PySem.W.takesIn K (.builtin "object.__class__") = some true
section
variable {X : Cx} {Z : Zz} {P : Pg} {Φ : Nat → List D → Sto → Res} {W : WX} {n k : Nat}
variable {H H' : Hp} {μ μ' : Mu} {S S' : Sto} {σ : Sl} {τ : St} {Q : VK}
variable {a b e o : Expr} {es : List Expr} {ca cb co cr : C} {pos p apos : Pos}
variable {fd : FuncData} {ps : List Str} {g : Addr} {c gi : Nat} {m : Str}
/-- a value's type -/
theorem own_ty (hZ : X.K = Z.K) (PC : PcOk X.K Z P) (R : RS Z μ S H) {d : D} {v : V} (hv : DV Z H μ d v) (h : okY P S d = true) : ∃ t, TyX X.K H v t ∧ ((∃ c fs, insOf S d = some (c, fs) ∧ P.pc c = true ∧ t = .ref (Z.ca c)) ∨ ∃ q : DT, insOf S d = none ∧ dty S d = some q ∧ t = .type (dtn q)) := by
  unfold okY at h
  cases e : insOf S d with
  | some cf =>
    obtain ⟨c, fs⟩ := cf
    rw [e] at h
    obtain ⟨a, dx, gs, rfl, h1, _⟩ := R.insv e hv
    exact ⟨_, .base (.ins h1 (PC.cl c h) (PC.ha c h) PC.hn PC.htk (PC.hm c h)), .inl ⟨c, fs, rfl, h, rfl⟩⟩
  | none =>
    rw [e] at h
    cases e2 : dty S d with
    | none => rw [e2] at h; cases h
    | some q => exact ⟨_, dty_ok hZ R hv e2, .inr ⟨q, rfl, rfl, rfl⟩⟩
theorem looks_ty {pins : List (Addr × Obj)} {s : Shared} {v : V} {u t : Value} (I : L2.Inv X pins τ H s) (r : RelV v u) (ty : TyX X.K H v t) : PySem.W.Looks (model X.prog X.w) s.heap (typeOf u) t := by
  obtain ⟨Pp, KX, hp, _⟩ := kit_of I r ty
  exact KX.ty _ _ I.kIn hp
/-- isinstance(x, C), C an own class -/
theorem v_iso {nm : Str} {pt : Pos} (hZ : X.K = Z.K) (PC : PcOk X.K Z P) (hk : ∀ c', P.pc c' = true → PySem.W.kitOne X.K (.ref (Z.ca c')) (.ref (Z.ca c)) = some (decide (c' = c))) (ht : ∀ q : DT, PySem.W.kitOne X.K (.type (dtn q)) (.ref (Z.ca c)) = some false)
    (hg : Gl X "isinstance") (hm : X.mg "isinstance" = none) (hgT : Gl X nm) (hmT : X.mg nm = some (.ref (Z.ca c))) (ha : PE X a (rdE Z P Φ W ca)) (hdT : (nm == ("__debug__" : Str)) = false := by decide)
    (hs : starEach [a, .Name nm pt] X.env = (false, eval a X.env) :: starEach [.Name nm pt] X.env := by rfl) (hs2 : starEach [.Name nm pt] X.env = (false, eval (.Name nm pt) X.env) :: starEach [] X.env := by rfl)
    (hpl : (backTo pos (starEach [.Name nm pt] X.env)).any (·.1) = false := by rfl) :
    PE X (.Call (.Name "isinstance" p) [a, .Name nm pt] [] pos) (rdE Z P Φ W (.iso c ca)) := by
  refine PE.imp (pe_callB call_isi hg hm (by decide +kernel) (pa_cons ha (pa_cons (pe_glob (v := .ref (Z.ca c)) hgT hmT rfl hdT) pa_nil hs2) hs) (he := hs) (hpl := hpl)) ?_
  rintro τ H Q ⟨μ, σ, S, R, L, h⟩
  simp only [ev] at h
  refine stepEE R L h _ fun d S1 μ1 H1 v e1 R1 L1 hv h1 => ?_
  cases e2 : insOf S1 d with
  | some cf =>
    obtain ⟨c', fs⟩ := cf
    rw [e2] at h1
    dsimp only at h1
    split at h1
    · rename_i hc
      obtain ⟨t, ty, h3⟩ := own_ty (P := P) hZ PC R1 hv (by unfold okY; rw [e2]; exact hc)
      rcases h3 with ⟨c2, fs2, e3, _, rfl⟩ | ⟨q, e3, _, _⟩
      · rw [e2] at e3
        cases e3
        exact ⟨v, .ref (Z.ca c), _, .ref (Z.ca c), _, rfl, .own _, ty, hk c' hc, h1.dE R1 (by simp only [DV])⟩
      · rw [e2] at e3; cases e3
    · exact h1.bad
  | none =>
    rw [e2] at h1
    dsimp only at h1
    cases e3 : dty S1 d with
    | none => rw [e3] at h1; exact h1.bad
    | some q =>
      rw [e3] at h1
      exact ⟨v, .ref (Z.ca c), _, .ref (Z.ca c), _, rfl, .own _, dty_ok hZ R1 hv e3, ht q, h1.dE R1 (by simp only [DV])⟩
def ownW (k : Ow) (v v' : V) : Prop :=
  match k with
  | .eq => ∃ b, v = .bl b ∧ v' = .bl b
  | .ne => ∃ b, v = .bl b ∧ v' = .bl (!b)
  | .cont => ∃ b, v = .bl b ∧ v' = .bl b
  | .ncont => ∃ b, v = .bl b ∧ v' = .bl (!b)
  | .len => ∃ i, v = .int i ∧ v' = .int i ∧ 0 ≤ i ∧ i < 4611686018427387904
  | .str => ∃ y, v = .str y ∧ v' = .str y
  | .rep => ∃ y, v = .str y ∧ v' = .str y
  | .cal => v' = v
  | .op => v' = v
  | .tru => ∃ b, v = .bl b ∧ v' = .bl b
theorem ownV_ok {kk : Ow} {d d' : D} {v : V} (h : ownV kk d = some d') (hv : DV Z H μ d v) : ∃ v', ownW kk v v' ∧ DV Z H μ d' v' := by
  unfold ownV at h
  split at h
  all_goals first
    | (cases h; simp only [DV] at hv; subst hv; exact ⟨_, ⟨_, rfl, rfl⟩, by simp only [DV]⟩)
    | (split at h
       · rename_i hi
         cases h; simp only [DV] at hv; subst hv; exact ⟨_, ⟨_, rfl, rfl, hi⟩, by simp only [DV]⟩
       · cases h)
    | (cases h; have hv0 := hv; simp only [DV] at hv; obtain ⟨_, _, rfl⟩ := hv; exact ⟨_, ⟨_, rfl, rfl⟩, hv0⟩)
    | (cases h; exact ⟨v, rfl, hv⟩)
    | cases h
def ownX (k : Ow) : Bool := match k with
  | .cal => true
  | .op => true
  | _ => false
/-- behind the call, no errors -/
theorem own_want {kk : Ow} {r : Res} {τ' : St} (hx : ownX kk = false) (h : Want Z μ H (kE Z W τ Q) (ownR kk r)) : Want Z μ H (kE Z (fun _ _ _ _ => False) τ' (fun v H' => ∃ v', ownW kk v v' ∧ Q v' H')) r := by
  cases r with
  | val ds S =>
    match ds, h with
    | [], h => exact h.bad
    | [d], h =>
      simp only [ownR] at h
      cases e : ownV kk d with
      | none => rw [e] at h; exact h.bad
      | some d' =>
        rw [e] at h
        intro μ1 H1 e1 R1
        refine ⟨d, rfl, fun v hv => ?_⟩
        obtain ⟨v', w1, w2⟩ := ownV_ok e hv
        exact ⟨v', w1, h.dE' e1 R1 w2⟩
    | _ :: _ :: _, h => exact h.bad
  | exc c fs σ S =>
    cases kk <;> first | exact h.bad | cases hx
  | _ => exact h.bad
/-- the own def runs, where its operator stands -/
theorem run_own {A : Around} {pins : List (Addr × Obj)} {s : Shared} {us : List Value} {vs : List V} {sp : Sp} (F : FnOk X.prog X.w X.K X.mg X.base (L2.CX X.prog X.w) k g fd ps sp) (hr : Room k A) (hf : A.frames = X.A.frames) (tk : Takes X W) (hb : Binds X.K fd ps [])
    (I : L2.Inv X pins τ H s) (r : Vals vs us) (h : sp vs H Q (WE W τ)) : wpAny (model X.prog X.w) A (call (.ref g) us) (EP X pins τ Q) X.xe s := by
  have hl := F.len _ _ _ _ h
  have e0 : Env0 X.prog X.w X.K X.mg X.base A X.stack s H := by
    have e := I.env0
    exact ⟨by rw [hf]; exact e.frames, e.mod, e.bs, e.bsz, e.funs, e.frf, e.hok, e.bare⟩
  refine wpAny_call (codeAny_mono (F.run A X.stack s H ⟨us, []⟩ us vs Q (WE W τ) hr e0 (by
    have := hb s us I.kIn (by rw [List.append_nil, ← r.length]; exact hl)
    simpa using this) r h) fun r s' hq => ?_)
  cases r with
  | error e => exact passAt tk τ pins H s e s' I hq
  | ok fl =>
    cases fl with
    | ret u => exact I.after hq
    | next => exact False.elim hq
    | brk => exact False.elim hq
    | cont => exact False.elim hq
theorem ev_own {kk : Ow} {as : C} {i : List D} : ev P Φ (.own kk c gi as) i σ S = bv σ (ev P Φ as [] σ S) fun ds S => match ownA kk ds with
    | some (x, r) => match insOf S x with
      | some (c', _) => if c' = c ∧ ownOk P S kk r = true then ownR kk (callL σ Φ gi (x :: r) S) else .bad
      | none => .bad
    | none => .bad := rfl
/-- x == y and x != y, in order: both values, then the own def -/
theorem own_two {kk : Ow} (hk : ownA kk = ownA .eq) {ca cb : C} (R : RS Z μ S H) (L : SV Z H μ σ τ) (h : Want Z μ H (kE Z W τ Q) (ev P (run P n) (.own kk c gi (.acons ca (.acons cb .anil))) [] σ S)) (T : V → V → Hp → Prop)
    (hT : ∀ d y S1 μ1 H1 v w a dx gs, RS Z μ1 S1 H1 → DV Z H1 μ1 d v → DV Z H1 μ1 y w → v = .ref a → H1 a = some (.ins (Z.ca c) dx gs) → ownOk P S1 kk [y] = true → Want Z μ1 H1 (kE Z W τ Q) (ownR kk (callL σ (run P n) gi [d, y] S1)) → T v w H1) :
    rdE Z P (run P n) W ca τ H fun v H1 => rdE Z P (run P n) W cb τ H1 fun w H2 => T v w H2 := by
  rw [ev_own, hk] at h
  have h' : Want Z μ H (kE Z W τ Q) (b1 σ (ev P (run P n) ca [] σ S) fun d S => b1 σ (ev P (run P n) cb [] σ S) fun y S => match insOf S d with
      | some (c', _) => if c' = c ∧ ownOk P S kk [y] = true then ownR kk (callL σ (run P n) gi [d, y] S) else .bad
      | none => .bad) := by
    simp only [ev] at h
    cases q : ev P (run P n) ca [] σ S with
    | val ds S1 =>
      rw [q] at h
      match ds, h with
      | [], h => exact h.bad
      | [d], h =>
        simp only [b1] at h ⊢
        cases q2 : ev P (run P n) cb [] σ S1 with
        | val ds S2 =>
          rw [q2] at h
          match ds, h with
          | [], h => exact h.bad
          | [y], h => exact h
          | _ :: _ :: _, h => exact h.bad
        | exc c fs σ' S2 => rw [q2] at h; exact h
        | _ => rw [q2] at h; exact h.bad
      | _ :: _ :: _, h => exact h.bad
    | exc c fs σ' S1 => rw [q] at h; exact h
    | _ => rw [q] at h; exact h.bad
  refine stepEE R L h' _ fun d S1 μ1 H1 v e1 R1 L1 hv h1 => ?_
  refine stepEE R1 L1 h1 _ fun y S2 μ2 H2 w e2 R2 L2' hw h2 => ?_
  cases q : insOf S2 d with
  | none => rw [q] at h2; exact h2.bad
  | some cf =>
    obtain ⟨c', fs⟩ := cf
    rw [q] at h2
    dsimp only at h2
    split at h2
    · rename_i hc
      obtain ⟨rfl, hok⟩ := hc
      obtain ⟨u, dx, gs, rfl, g1, _⟩ := R2.insv q (hv.mono e2)
      exact hT d y S2 μ2 H2 _ w u dx gs R2 (hv.mono e2) hw rfl g1 hok h2
    · exact h2.bad
/-- no other operand's class goes first -/
structure NotF (K : PySem.W.Frag) (Z : Zz) (P : Pg) (C : Addr) : Prop where
  own : ∀ c', P.pc c' = true → PySem.W.notFirst K C (.ref (Z.ca c')) = true
  typ : ∀ q : DT, PySem.W.notFirst K C (.type (dtn q)) = true
theorem own_inst {pins : List (Addr × Obj)} {s : Shared} {a C dx : Addr} {gs : List (Str × V)} (I : L2.Inv X pins τ H s) (h : H a = some (.ins C dx gs)) : ∃ ox od, PySem.W.InstAt s.heap a ox C (some od) := by
  obtain ⟨mA, J, _⟩ := ins_get I.hok h
  obtain ⟨od, J, _⟩ := J.look
  exact ⟨_, od, J⟩
end
end Vm
namespace PySem.W
open PyProof.Rows
section
variable {prog : Program} {w : World} {A : Around} {E : Value → Shared → Prop} {s : Shared} {K : Frag} {x C L f : Addr} {h₀ : Heap} {m : Str → Option Value} {ox : Obj} {od : Option Obj} {name : Str} {b tb : Value}
/-- a special method that is a built-in's -/
theorem vm_boundB {M : Model} {id : String} {args : List Value} {Q : Option Value → Shared → Prop} (X : K.In s.heap) (I : InstAt s.heap x ox C od) (hs : findIn K (.ref C) name = some (some (.builtin id))) (hb : ∀ self, bindSpecial (.builtin id) self = pure (.builtin id, [self]))
    (h : wpAny M A (call (.builtin id) (.ref x :: args)) (fun v => Q (some v)) E s) : wpAny M A (callSpecialIfBound? (.ref x) name args) Q E s := by
  simp only [callSpecialIfBound?, bindSpecialIfBound?]
  refine wpAny_holding (wpAny_bind (wpAny_bind (wpAny_bind (I.type.here ((looks_findIn X hs).here ?_)))))
  simp only [hb]
  refine wpAny_bind (wpAny_askSetting (wpAny_ite ?_))
  have last : wpAny M A (call (.builtin id) ([.ref x] ++ args) >>= fun v => pure (some v)) Q E s := wpAny_bind (wpAny_mono h (fun v s' z => wpAny_pure z) fun _ _ z => z)
  split
  · exact wpAny_bind (wpAny_pure (wpAny_pure last))
  · exact wpAny_tryCatch (wpAny_bind (wpAny_pure (wpAny_pure last)))
/-- object.__ne__ of an instance with an own == -/
theorem vm_objNe {Q : Value → Shared → Prop} (hu : A.in1.units < cLine) (X : K.In s.heap) (I : InstAt s.heap x ox C od) (hm : mroIn K C (.type "object") = some true) (hs : findIn K (.ref C) "__eq__" = some (some (.ref f))) (hf : isFn K (.ref f) = true)
    (h : wpAny (model prog w) A.in1 (call (.ref f) [.ref x, b]) (fun v s' => ∃ r, v = .bool r ∧ Q (.bool (!r)) s') E s) : wpAny (model prog w) A (call (.builtin "object.__ne__") [.ref x, b]) Q E s := by
  refine wpAny_call (codeAny_call_builtin F.cmp_object.ne.plain F.cmpEntry_ne (check_slot (i := "object.__ne__") (owner := "object") (n := "__ne__") F.cmpKind_ne F.cmpSplit_ne (I.type.andThen (looks_mroIn X hm)) (F.cmpArgs_ne _ _) ?_))
  unfold Builtin.«object.__ne__»
  repeat (first
    | with_reducible refine wpAny_cRoomFor hu ?_
    | (refine wpAny_bind (m := callSpecialIfBound? (.ref x) (Str.ofString "__eq__") [b]) (ifBound_K X I hs hf (wpAny_mono h (fun r s' hr => by
          obtain ⟨q, rfl, hq⟩ := hr
          repeat (first | exact hq | exact wpAny_pure hq | exact wpAny_truthy_bool hq | exact ⟨_, rfl, hq⟩ | (refine wpAny_bind (m := truthy (.bool _)) (wpAny_truthy_bool ?_)) | wp_step)) fun _ _ z => z)))
    | wp_step)
theorem vm_ne {Q : Value → Shared → Prop} (hu : A.units < cLine) (hu2 : A.in1.units < cLine) (F : Fr h₀ L s.heap m) (X₀ : K.In h₀) (I : InstAt s.heap x ox C od) (hb : Looks (model prog w) s.heap (typeOf b) tb) (hn : notFirst K C tb = true)
    (hne : findIn K (.ref C) "__ne__" = some (some (.builtin "object.__ne__"))) (hm : mroIn K C (.type "object") = some true) (hs : findIn K (.ref C) "__eq__" = some (some (.ref f))) (hf : isFn K (.ref f) = true)
    (h : wpAny (model prog w) A.in1 (call (.ref f) [.ref x, b]) (fun v s' => ∃ r, v = .bool r ∧ Q (.bool (!r)) s') E s) : wpAny (model prog w) A (richCompare .NotEq (.ref x) b) Q E s := by
  have X := X₀.keeps F.keep
  have one : wpAny (model prog w) A (tryCompare (.ref x) (cmpInfo .NotEq).2.1 b) (fun r s' => ∃ v, r = some v ∧ Q v s') E s := by
    unfold tryCompare
    refine wpAny_bind (vm_boundB X I hne PySem.F.cmp_object.ne.bind (wpAny_mono (vm_objNe (Q := fun v s' => (∃ r, v = .bool r) ∧ Q v s') hu2 X I hm hs hf (wpAny_mono h (fun v s' hv => ?_) fun _ _ z => z)) (fun v s' hv => ?_) fun _ _ z => z))
    · obtain ⟨r, rfl, hq⟩ := hv
      exact ⟨r, rfl, ⟨_, rfl⟩, hq⟩
    · obtain ⟨⟨r, rfl⟩, hq⟩ := hv
      exact wpAny_pure ⟨_, rfl, hq⟩
  unfold richCompare
  simp only [oneThing_ref]
  refine wpAny_holding (wpAny_bind (wpAny_cRoomFor hu ?_))
  refine wpAny_bind (I.type.here (wpAny_bind (hb.here ?_)))
  split
  · rename_i q
    have e : subIn K tb (.ref C) = some false := by
      rcases Bool.or_eq_true_iff.mp hn with e | e
      · rw [beq_iff_eq.mp e] at q; simp at q
      · exact beq_iff_eq.mp e
    refine wpAny_bind ((looks_subIn X e).here ?_)
    simp only [Bool.false_eq_true, if_false]
    refine wpAny_bind (wpAny_mono one (fun r s' z => ?_) fun _ _ z => z)
    obtain ⟨v, rfl, hq⟩ := z
    exact wpAny_pure hq
  · refine wpAny_bind (wpAny_pure ?_)
    simp only [Bool.false_eq_true, if_false]
    refine wpAny_bind (wpAny_mono one (fun r s' z => ?_) fun _ _ z => z)
    obtain ⟨v, rfl, hq⟩ := z
    exact wpAny_pure hq
end
end PySem.W
namespace Vm
open PySem L2
section
variable {X : Cx} {Z : Zz} {P : Pg} {Φ : Nat → List D → Sto → Res} {W : WX} {n k : Nat}
variable {H H' : Hp} {μ μ' : Mu} {S S' : Sto} {σ : Sl} {τ : St} {Q : VK}
variable {a b e o : Expr} {es : List Expr} {ca cb co cr : C} {pos p apos : Pos}
variable {fd : FuncData} {ps : List Str} {g : Addr} {c gi : Nat} {m : Str}
abbrev W0f : WX := fun _ _ _ _ => False
theorem ownA_ne : ownA .ne = ownA .eq := by
  funext ds
  match ds with
  | [] => rfl
  | [_] => rfl
  | [_, _] => rfl
  | _ :: _ :: _ :: _ => rfl
/-- both values, behind them the own def -/
def rOwn (K : PySem.W.Frag) (Z : Zz) (P : Pg) (n gi c : Nat) (kk : Ow) : R2 := fun v w H Q => (∃ a dx gs, v = .ref a ∧ H a = some (.ins (Z.ca c) dx gs)) ∧ (∃ t, TyX K H w t ∧ PySem.W.notFirst K (Z.ca c) t = true) ∧
  spF Z P n gi [v, w] H (fun v H' => ∃ v', ownW kk v v' ∧ Q v' H') (WE W0f [])
theorem op_oeq (M : OwnM X.K (Z.ca c) "__eq__" g) (F : FnOk X.prog X.w X.K X.mg X.base (L2.CX X.prog X.w) k g fd ps (spF Z P n gi)) (hr : Room k X.A) (hb : Binds X.K fd ps []) : OpR X (compareOp .Eq) (rOwn X.K Z P n gi c .eq) := by
  intro pins s τ H x y v u Q I rx ry q
  obtain ⟨⟨a, dx, gs, rfl, z5⟩, ⟨t, t1, t2⟩, hw⟩ := q
  cases rx
  obtain ⟨ox, od, J⟩ := own_inst I z5
  obtain ⟨mm, hF⟩ := I.fr
  show wpAny (model X.prog X.w) X.A (richCompare .Eq _ _) _ _ _
  refine PySem.W.cmp_K (op := .Eq) hr.units0 hF I.ok.mod.kin J (looks_ty I ry t1) t2 M.at_ M.fn ?_
  refine thn (run_own (W := W0f) (vs := [.ref a, y]) (us := [.ref a, u]) F hr rfl takes0 hb I (.cons rfl (.cons ry .nil)) hw) fun r s3 ⟨v3, H3, I3, r3, v', w1, w2⟩ => ?_
  obtain ⟨bb, rfl, rfl⟩ := w1
  cases r3
  exact ⟨.bl bb, H3, I3, rfl, w2⟩
theorem op_one (M : OwnM X.K (Z.ca c) "__eq__" g) (hne : PySem.W.findIn X.K (.ref (Z.ca c)) "__ne__" = some (some (.builtin "object.__ne__"))) (hmo : PySem.W.mroIn X.K (Z.ca c) (.type "object") = some true)
    (F : FnOk X.prog X.w X.K X.mg X.base (L2.CX X.prog X.w) k g fd ps (spF Z P n gi)) (hr : Room (k + 1) X.A) (hb : Binds X.K fd ps []) : OpR X (compareOp .NotEq) (rOwn X.K Z P n gi c .ne) := by
  intro pins s τ H x y v u Q I rx ry q
  obtain ⟨⟨a, dx, gs, rfl, z5⟩, ⟨t, t1, t2⟩, hw⟩ := q
  cases rx
  obtain ⟨ox, od, J⟩ := own_inst I z5
  obtain ⟨mm, hF⟩ := I.fr
  have hr1 : Room k X.A.in1 := hr.in1
  show wpAny (model X.prog X.w) X.A (richCompare .NotEq _ _) _ _ _
  refine PySem.W.vm_ne hr.units0 hr1.units0 hF I.ok.mod.kin J (looks_ty I ry t1) t2 hne hmo M.at_ M.fn ?_
  refine thn (run_own (W := W0f) (vs := [.ref a, y]) (us := [.ref a, u]) F hr1 rfl takes0 hb I (.cons rfl (.cons ry .nil)) hw) fun r s3 ⟨v3, H3, I3, r3, v', w1, w2⟩ => ?_
  obtain ⟨bb, rfl, rfl⟩ := w1
  cases r3
  exact ⟨bb, rfl, .bl (!bb), H3, I3, rfl, w2⟩
/-- what a test asks of an own comparison -/
theorem own_isB {kk : Ow} {as : C} {ds : List D} (hk : kk = .eq ∨ kk = .ne ∨ kk = .cont ∨ kk = .ncont) (h : ev P Φ (.own kk c gi as) [] σ S = .val ds S') : ∃ b, ds = [.bl b] := by
  rw [ev_own] at h
  cases q : ev P Φ as [] σ S with
  | val es S1 =>
    rw [q] at h
    simp only [bv] at h
    split at h
    · split at h
      · split at h
        · generalize callL σ Φ gi _ S1 = r at h
          cases r with
          | val fs S2 =>
            match fs, h with
            | [], h => cases h
            | [d], h =>
              simp only [ownR] at h
              rcases hk with rfl | rfl | rfl | rfl <;> (cases d <;> simp only [ownV] at h <;> first | (cases h; exact ⟨_, rfl⟩) | cases h)
            | _ :: _ :: _, h => cases h
          | exc c fs σ S2 => rcases hk with rfl | rfl | rfl | rfl <;> cases h
          | _ => cases h
        · cases h
      · cases h
    · cases h
  | _ => rw [q] at h; cases h
theorem own_kT {kk : Ow} {as : C} {QT : Bool → Hp → Prop} (hk : kk = .eq ∨ kk = .ne ∨ kk = .cont ∨ kk = .ncont) (h : Want Z μ H (kT Z W τ QT) (ev P Φ (.own kk c gi as) [] σ S)) : Want Z μ H (kE Z W τ (fun v H' => ∃ b, v = .bl b ∧ QT b H')) (ev P Φ (.own kk c gi as) [] σ S) := by
  cases q : ev P Φ (.own kk c gi as) [] σ S with
  | val ds S1 =>
    obtain ⟨b, rfl⟩ := own_isB hk q
    rw [q] at h
    intro μ1 H1 e1 R1
    obtain ⟨d, b', e2, e3, q3⟩ := h μ1 H1 e1 R1
    cases e2
    cases e3
    exact ⟨_, rfl, fun v hv => by simp only [DV] at hv; exact ⟨b, hv, q3⟩⟩
  | exc c fs σ' S1 => rw [q] at h; exact h
  | _ => rw [q] at h; exact h
theorem two_own {kk : Ow} (hk : ownA kk = ownA .eq) (hx : ownX kk = false) (ho : ∀ S y, ownOk P S kk [y] = okY P S y) (hZ : X.K = Z.K) (PC : PcOk X.K Z P) (NF : NotF X.K Z P (Z.ca c)) {ca cb : C} (R : RS Z μ S H) (L : SV Z H μ σ τ) (h : Want Z μ H (kE Z W τ Q) (ev P (run P n) (.own kk c gi (.acons ca (.acons cb .anil))) [] σ S)) :
    rdE Z P (run P n) W ca τ H fun v H1 => rdE Z P (run P n) W cb τ H1 fun w H2 => rOwn X.K Z P n gi c kk v w H2 Q :=
  own_two hk R L h _ fun d y S1 μ1 H1 v w a dx gs z1 z2 z3 z4 z5 z6 z7 => by
    obtain ⟨t, ty, h3⟩ := own_ty (P := P) hZ PC z1 z3 (by rw [← ho]; exact z6)
    refine ⟨⟨a, dx, gs, z4, z5⟩, ⟨t, ty, ?_⟩, spF_of (ds := [d, y]) z1 (by simp only [DVs]; exact ⟨_, _, rfl, z2, _, _, rfl, z3, rfl⟩) (own_want (τ' := []) hx z7)⟩
    rcases h3 with ⟨c', _, _, hc, rfl⟩ | ⟨q, _, _, rfl⟩
    · exact NF.own c' hc
    · exact NF.typ q
section
variable (hZ : X.K = Z.K) (PC : PcOk X.K Z P) (NF : NotF X.K Z P (Z.ca c)) (M : OwnM X.K (Z.ca c) "__eq__" g) (hne : PySem.W.findIn X.K (.ref (Z.ca c)) "__ne__" = some (some (.builtin "object.__ne__"))) (hmo : PySem.W.mroIn X.K (Z.ca c) (.type "object") = some true)
  (F : FnOk X.prog X.w X.K X.mg X.base (L2.CX X.prog X.w) k g fd ps (spF Z P n gi)) (hr : Room (k + 1) X.A) (hb : Binds X.K fd ps []) (ha : PE X a (rdE Z P (run P n) W ca)) (hbb : PE X b (rdE Z P (run P n) W cb))
include hZ PC NF M F hr hb ha hbb
theorem v_oeq : PE X (.Compare a [.Eq] [b] pos) (rdE Z P (run P n) W (.own .eq c gi (.acons ca (.acons cb .anil)))) := by
  refine PE.imp (pe_cmpR (op_oeq M F (hr.mono (Nat.le_succ _)) hb) ha hbb (nomark _)) ?_
  rintro τ H Q ⟨μ, σ, S, R, L, h⟩
  exact two_own rfl rfl (fun S y => by simp [ownOk]) hZ PC NF R L h
theorem t_oeq : PT X (.Compare a [.Eq] [b] pos) (rdT Z P (run P n) W (.own .eq c gi (.acons ca (.acons cb .anil)))) := by
  refine PT.imp (pt_cmpR (op_oeq M F (hr.mono (Nat.le_succ _)) hb) ha hbb (nomark _)) ?_
  rintro τ H Q ⟨μ, σ, S, R, L, h⟩
  exact two_own rfl rfl (fun S y => by simp [ownOk]) hZ PC NF R L (own_kT (.inl rfl) h)
include hne hmo
theorem t_onq : PT X (.Compare a [.NotEq] [b] pos) (rdT Z P (run P n) W (.own .ne c gi (.acons ca (.acons cb .anil)))) := by
  refine PT.imp (pt_cmpR (op_one M hne hmo F hr hb) ha hbb (nomark _)) ?_
  rintro τ H Q ⟨μ, σ, S, R, L, h⟩
  exact two_own ownA_ne rfl (fun S y => by simp [ownOk]) hZ PC NF R L (own_kT (.inr (.inl rfl)) h)
end
theorem own_uno {kk : Ow} (hk : ∀ d, ownA kk [d] = some (d, [])) (hok : ∀ S, ownOk P S kk [] = true) (hx : ownX kk = false) {ca : C} (R : RS Z μ S H) (L : SV Z H μ σ τ) (h : Want Z μ H (kE Z W τ Q) (ev P (run P n) (.own kk c gi (.acons ca .anil)) [] σ S)) :
    rdE Z P (run P n) W ca τ H fun v H1 => ∃ d S1 μ1 a dx gs, RS Z μ1 S1 H1 ∧ DV Z H1 μ1 d v ∧ v = .ref a ∧ H1 a = some (.ins (Z.ca c) dx gs) ∧ spF Z P n gi [v] H1 (fun v H' => ∃ v', ownW kk v v' ∧ Q v' H') (WE W0f τ) := by
  rw [ev_own] at h
  have h' : Want Z μ H (kE Z W τ Q) (b1 σ (ev P (run P n) ca [] σ S) fun d S => match insOf S d with
      | some (c', _) => if c' = c then ownR kk (callL σ (run P n) gi [d] S) else .bad
      | none => .bad) := by
    simp only [ev] at h
    cases q : ev P (run P n) ca [] σ S with
    | val ds S1 =>
      rw [q] at h
      match ds, h with
      | [], h => exact h.bad
      | [d], h =>
        simp only [b1, bv, hk, hok, and_true] at h ⊢
        exact h
      | _ :: _ :: _, h => exact h.bad
    | exc c fs σ' S1 => rw [q] at h; exact h
    | _ => rw [q] at h; exact h.bad
  refine stepEE R L h' _ fun d S1 μ1 H1 v e1 R1 L1 hv h1 => ?_
  cases q : insOf S1 d with
  | none => rw [q] at h1; exact h1.bad
  | some cf =>
    obtain ⟨c', fs⟩ := cf
    rw [q] at h1
    dsimp only at h1
    split at h1
    · rename_i hc
      subst hc
      obtain ⟨u, dx, gs, rfl, g1, _⟩ := R1.insv q hv
      exact ⟨d, S1, μ1, u, dx, gs, R1, hv, rfl, g1, spF_of R1 (DVs.one hv) (own_want hx h1)⟩
    · exact h1.bad
/-- len(x), repr(x), str(x) -/
theorem v_own1 {kk : Ow} {f : Value} {nm : Str} (hk : ∀ d, ownA kk [d] = some (d, [])) (hok : ∀ S, ownOk P S kk [] = true) (hx : ownX kk = false)
    (hrun : ∀ (pins : List (Addr × Obj)) (s : Shared) (τ : St) (H : Hp) (a dx : Addr) (gs : List (Str × V)) (Q : VK), L2.Inv X pins τ H s → H a = some (.ins (Z.ca c) dx gs) → spF Z P n gi [.ref a] H (fun v H' => ∃ v', ownW kk v v' ∧ Q v' H') (WE W0f τ) → wpAny (model X.prog X.w) X.A (call f [.ref a]) (EP X pins τ Q) X.xe s)
    (ht : (∃ id, f = .builtin id ∧ bootBuiltins nm = some (.builtin id)) ∨ ∃ T, f = .type T ∧ bootBuiltins nm = some (.type T)) (hg : Gl X nm) (hm : X.mg nm = none)
    (ha : PE X a (rdE Z P (run P n) W ca)) (hn : nm ≠ "__name__" := by decide) (hd : (nm == ("__debug__" : Str)) = false := by decide)
    (he : starEach [a] X.env = [(false, eval a X.env)] := by rfl) (hpl : (backTo pos (starEach [] X.env)).any (·.1) = false := by rfl) : PE X (.Call (.Name nm p) [a] [] pos) (rdE Z P (run P n) W (.own kk c gi (.acons ca .anil))) := by
  have hc : CallR X f fun xs H Q => ∃ v a dx gs τ, xs = [v] ∧ v = .ref a ∧ H a = some (.ins (Z.ca c) dx gs) ∧ spF Z P n gi [v] H (fun v H' => ∃ v', ownW kk v v' ∧ Q v' H') (WE W0f τ) := by
    intro pins s σ H xs us Q I r h
    obtain ⟨v, a, dx, gs, τ, rfl, rfl, h1, h2⟩ := h
    obtain ⟨u, rfl, ru⟩ := r.one
    cases ru
    exact hrun pins s σ H a dx gs Q I h1 h2
  have hP : PA X [a] (fun τ H R' => rdE Z P (run P n) W ca τ H fun v H1 => R' [v] H1) := by
    have := pa_cons (t := tNil) ha pa_nil he
    exact PA.imp this fun τ H Q h => h
  rcases ht with ⟨id, rfl, hv⟩ | ⟨T, rfl, hv⟩
  · refine PE.imp (pe_callB hc hg hm hv hP hn hd he hpl) ?_
    rintro τ H Q ⟨μ, σ, S, R, L, h⟩
    obtain ⟨μ', σ', S', R', L', h'⟩ := own_uno hk hok hx R L h
    refine ⟨μ', σ', S', R', L', h'.mono ?_ (fun _ _ _ _ _ _ z => z) (fun _ _ _ _ _ _ z => z) (fun _ _ _ _ _ _ z => z) (fun _ _ _ _ _ _ z => z) (fun _ _ _ _ _ _ _ _ z => z)⟩
    rintro ds S1 μ1 H1 e1 R1 ⟨d, rfl, k1⟩
    refine ⟨d, rfl, fun v hv => ?_⟩
    obtain ⟨d', S2, μ2, a, dx, gs, q1, q2, q3, q4, q5⟩ := k1 v hv
    exact ⟨v, a, dx, gs, τ, rfl, q3, q4, q5⟩
  · refine PE.imp (pe_callTy hc hg hm hv hP hn hd he hpl) ?_
    rintro τ H Q ⟨μ, σ, S, R, L, h⟩
    obtain ⟨μ', σ', S', R', L', h'⟩ := own_uno hk hok hx R L h
    refine ⟨μ', σ', S', R', L', h'.mono ?_ (fun _ _ _ _ _ _ z => z) (fun _ _ _ _ _ _ z => z) (fun _ _ _ _ _ _ z => z) (fun _ _ _ _ _ _ z => z) (fun _ _ _ _ _ _ _ _ z => z)⟩
    rintro ds S1 μ1 H1 e1 R1 ⟨d, rfl, k1⟩
    refine ⟨d, rfl, fun v hv => ?_⟩
    obtain ⟨d', S2, μ2, a, dx, gs, q1, q2, q3, q4, q5⟩ := k1 v hv
    exact ⟨v, a, dx, gs, τ, rfl, q3, q4, q5⟩
/-- repr(x) -/
theorem run_orep (M : OwnM X.K (Z.ca c) "__repr__" g) (F : FnOk X.prog X.w X.K X.mg X.base (L2.CX X.prog X.w) k g fd ps (spF Z P n gi)) (hr : Room (k + 1) X.A) (hb : Binds X.K fd ps []) :
    ∀ (pins : List (Addr × Obj)) (s : Shared) (τ : St) (H : Hp) (a dx : Addr) (gs : List (Str × V)) (Q : VK), L2.Inv X pins τ H s → H a = some (.ins (Z.ca c) dx gs) → spF Z P n gi [.ref a] H (fun v H' => ∃ v', ownW .rep v v' ∧ Q v' H') (WE W0f τ) → wpAny (model X.prog X.w) X.A (call (.builtin "repr") [.ref a]) (EP X pins τ Q) X.xe s := by
  intro pins s τ H a dx gs Q I h1 h2
  obtain ⟨ox, od, J⟩ := own_inst I h1
  obtain ⟨mm, hF⟩ := I.fr
  have hr1 : Room k X.A.in1 := hr.in1
  refine PySem.W.repr_K hr1.units0 hF I.ok.mod.kin J M.at_ M.fn ?_
  refine thn (run_own (vs := [.ref a]) (us := [.ref a]) F hr1 rfl takes0 hb I (.cons rfl .nil) h2) fun r s3 ⟨v3, H3, I3, r3, v', w1, w2⟩ => ?_
  obtain ⟨y, rfl, rfl⟩ := w1
  obtain ⟨t, rfl⟩ := (show ∃ t, r = Value.str y t from r3)
  exact ⟨.str y, H3, I3, ⟨t, rfl⟩, w2⟩
/-- len(x) -/
theorem run_olen (M : OwnM X.K (Z.ca c) "__len__" g) (F : FnOk X.prog X.w X.K X.mg X.base (L2.CX X.prog X.w) k g fd ps (spF Z P n gi)) (hr : Room (k + 1) X.A) (hb : Binds X.K fd ps []) :
    ∀ (pins : List (Addr × Obj)) (s : Shared) (τ : St) (H : Hp) (a dx : Addr) (gs : List (Str × V)) (Q : VK), L2.Inv X pins τ H s → H a = some (.ins (Z.ca c) dx gs) → spF Z P n gi [.ref a] H (fun v H' => ∃ v', ownW .len v v' ∧ Q v' H') (WE W0f τ) → wpAny (model X.prog X.w) X.A (call (.builtin "len") [.ref a]) (EP X pins τ Q) X.xe s := by
  intro pins s τ H a dx gs Q I h1 h2
  obtain ⟨ox, od, J⟩ := own_inst I h1
  obtain ⟨mm, hF⟩ := I.fr
  have hr1 : Room k X.A.in1 := hr.in1
  refine PySem.W.len_K hF I.ok.mod.kin J M.at_ M.fn ?_
  refine thn (run_own (vs := [.ref a]) (us := [.ref a]) F hr1 rfl takes0 hb I (.cons rfl .nil) h2) fun r s3 ⟨v3, H3, I3, r3, v', w1, w2⟩ => ?_
  obtain ⟨i, rfl, rfl, hi, hi2⟩ := w1
  obtain ⟨t, rfl⟩ := (show ∃ t, r = Value.int i t from r3)
  exact ⟨⟨hi, by omega⟩, .int i, H3, I3.tok _, ⟨_, rfl⟩, w2⟩
end
end Vm
namespace Vm
open PySem L2 PyProof.Rows PySem.Spec
def inN : List Nat → Nat → Bool
  | [], _ => false
  | a :: r, c => if a = c then true else inN r c
def AllN (p : Nat → Prop) : List Nat → Prop
  | [] => True
  | a :: r => p a ∧ AllN p r
theorem inN_all {p : Nat → Prop} {c : Nat} : ∀ l : List Nat, AllN p l → inN l c = true → p c
  | [], _, h => nomatch h
  | a :: r, q, h => by
    unfold inN at h
    split at h
    · rename_i e
      rw [← e]
      exact q.1
    · exact inN_all r q.2 h
section
variable {K : PySem.W.Frag} {C B : PySem.Addr}
theorem kit_typ {n : String} (hd : PySem.W.hasDictIn K B = true) (ht : PySem.W.typeIn K (.ref B) = some (.type "type")) (hs : PySem.W.subIn K (.type n) (.ref B) = some false) : PySem.W.kitOne K (.type n) (.ref B) = some false := by
  unfold PySem.W.kitOne
  split
  · rename_i e
    cases beq_iff_eq.mp e
  · have e2 : ((PySem.W.clsIn K B).isSome && PySem.W.typeIn K (.ref B) == some (.type "type")) = true := by rw [cls_some hd, ht]; rfl
    show (if ((PySem.W.clsIn K B).isSome && PySem.W.typeIn K (.ref B) == some (.type "type")) = true then PySem.W.subIn K (.type n) (.ref B) else none) = some false
    rw [if_pos e2]
    exact hs
theorem nf_same : PySem.W.notFirst K C (.ref C) = true := by
  unfold PySem.W.notFirst
  rw [beq_self_eq_true]
  rfl
theorem nf_sub {t : Value} (h : PySem.W.subIn K t (.ref C) = some false) : PySem.W.notFirst K C t = true := by
  unfold PySem.W.notFirst
  rw [h]
  simp
/-- the six types of plain data -/
structure TypF (K : PySem.W.Frag) (C : PySem.Addr) : Prop where
  non : PySem.W.subIn K (.type "NoneType") (.ref C) = some false
  bool : PySem.W.subIn K (.type "bool") (.ref C) = some false
  int : PySem.W.subIn K (.type "int") (.ref C) = some false
  str : PySem.W.subIn K (.type "str") (.ref C) = some false
  tuple : PySem.W.subIn K (.type "tuple") (.ref C) = some false
  list : PySem.W.subIn K (.type "list") (.ref C) = some false
theorem TypF.at (T : TypF K C) : ∀ q : DT, PySem.W.subIn K (.type (dtn q)) (.ref C) = some false
  | .non => T.non | .bool => T.bool | .int => T.int | .str => T.str | .tuple => T.tuple | .list => T.list
end
open ClX
structure FunG (K : PySem.W.Frag) (x qual : Str) (st : Stmt) (f : Addr) (fd : FuncData) : Prop where
  ex : ∃ (oc : Value) (od : Option Addr) (dV kV doc pm : Value) (an : Option Addr) (cdv ct : Value) (osl : Array (Option Value)),
    fd = PySem.W.fnOf x qual (defArgs st) (defBody st) (defScope st) dV kV doc pm an cdv ct ∧ K.lookup f = some ⟨oc, od, .func fd, osl⟩ ∧ PySem.W.codeIn K cdv qual = true
section
variable {P : Program} {w : World} {K : PySem.W.Frag} {mg : Str → Option Value} {base : Heap} {x qual : Str} {st : Stmt} {f : Addr} {fd : FuncData} {N ps : List Str} {k : Nat} {sp : Sp}
theorem FunG.okX (G : FunG K x qual st f fd) (S : FnScope N ps (defScope st)) (len : ∀ vs H Q E, sp vs H Q E → vs.length = ps.length)
    (hb : ∀ (cdv : Value) (A : Around) (outer : List Env) (s : Shared) (H : Hp) (vs : List V) (Q : VK) (E : XK), Room k (A.deeper (envOfC qual (defScope st) s.heap.objs.size f cdv)) → sp vs H Q E →
      ∃ t, PSs (cxOf (L2.CX P w) P w K mg base N qual (defScope st) f cdv A outer s H E) (defBody st) t ∧ t { nx := fun _ H' => Q .non H', rt := Q } (start N vs) H) : FnOk P w K mg base (L2.CX P w) (k + 1) f fd ps sp := by
  obtain ⟨oc, od, dV, kV, doc, pm, an, cdv, ct, osl, rfl, lk, hcd⟩ := G.ex
  exact fn_of lk hcd S len fun A outer s H vs Q E hr hsp => hb cdv A outer s H vs Q E hr hsp
variable {ks : List Str} {na : Nat} {prm : List (Nat ⊕ D)}
end
end Vm
namespace PySem.W
open PyProof.Rows
section
variable {prog : Program} {w : World} {M : Model} {A : Around} {E : Value → Shared → Prop} {s : Shared} {K : Frag} {x C C2 L f f2 : Addr} {h₀ : Heap} {m : Str → Option Value} {ox : Obj} {od : Option Obj} {nm : String}
/-- b in a, a own -/
theorem vm_contains {b : Value} {Q : Bool → Shared → Prop} (X : K.In s.heap) (I : InstAt s.heap x ox C od) (hs : findIn K (.ref C) "__contains__" = some (some (.ref f))) (hf : isFn K (.ref f) = true)
    (h : wpAny M A (call (.ref f) [.ref x, b]) (fun v s' => ∃ r, v = .bool r ∧ Q r s') E s) : wpAny M A (contains (.ref x) b) Q E s := by
  unfold contains
  refine wpAny_holding ?_
  rw [show stdlibNamesSay? (.ref x) b = none from rfl]
  refine wpAny_bind (m := specialOf (.ref x) _) (wpAny_bind (I.type.here ((looks_findIn X hs).here ?_)))
  rw [if_neg (by simp)]
  refine wpAny_bind (m := callSpecialUnlessNone? _ _ _ _) ?_
  unfold callSpecialUnlessNone?
  refine wpAny_bind (m := specialOf (.ref x) _) (wpAny_bind (I.type.here ((looks_findIn X hs).here ?_)))
  refine wpAny_holding (wpAny_bind ((bind_fn X _ (beq_iff_eq.mp hf)).here ?_))
  show wpAny M A (if (Value.ref f == Value.none) = true then _ else _) _ _ _
  rw [if_neg (by simp)]
  refine wpAny_bind (wpAny_mono h (fun v s' hv => ?_) fun _ _ z => z)
  obtain ⟨r, rfl, hq⟩ := hv
  exact wpAny_pure (wpAny_truthy_bool hq)
theorem vm_in {b : Value} {Q : Value → Shared → Prop} (X : K.In s.heap) (I : InstAt s.heap x ox C od) (hs : findIn K (.ref C) "__contains__" = some (some (.ref f))) (hf : isFn K (.ref f) = true)
    (h : wpAny M A (call (.ref f) [.ref x, b]) (fun v s' => ∃ r, v = .bool r ∧ Q (.bool r) s') E s) : wpAny M A (compareOp .In b (.ref x)) Q E s :=
  wpAny_bind (m := contains (.ref x) b) (vm_contains X I hs hf (wpAny_mono h (fun v s' ⟨r, e, q⟩ => ⟨r, e, wpAny_pure q⟩) fun _ _ z => z))
/-- str(x), x own with its own text -/
theorem vm_str {Q : Value → Shared → Prop} (hu : A.in1.in1.units < cLine) (X : K.In s.heap) (I : InstAt s.heap x ox C od) (hs : findIn K (.ref C) "__str__" = some (some (.ref f))) (hf : isFn K (.ref f) = true)
    (h : wpAny (model prog w) A.in1.in1 (call (.ref f) [.ref x]) (StrBack Q) E s) : wpAny (model prog w) A (call (.type "str") [.ref x]) Q E s := by
  refine callType_codes (T := "str") (Bi := Builtin.«object.__init__») (Q₁ := fun r s₁ => ∃ y u, r = .str y u ∧ Q r s₁) PySem.F.called_str (PySem.F.typeCall_str_1 _) PySem.F.entry_object_init ?_ ?_
  · refine codeAny_of_tree ?_
    show wpAny _ A.in1.in1 (do checkBuiltinCall "str.__new__" ⟨[.type "str", .ref x], []⟩; again (.builtin "str.__new__" ⟨[.type "str", .ref x], []⟩)) _ _ s
    refine wpAny_bind (wpAny_of_eq (PySem.F.newCall_str_1 _) (wpAny_pure ⟨plainId_quiet (by decide +kernel) _, codeAny_builtin PySem.F.entry_str_new ?_⟩))
    rw [Around.under_plainId (by decide +kernel) _]
    rw [str_new_tree]
    refine wpAny_bind (wpAny_pure ?_)
    refine wpAny_bind (wpAny_of_eq isSubtype_str_str ?_)
    have key : wpAny (model prog w) A.in1.in1 (PySem.Builtin.Str.strOf (.ref x)) (fun r s₁ => ∃ y u, r = .str y u ∧ Q r s₁) E s := by
      unfold PySem.Builtin.Str.strOf
      rw [show PySem.Builtin.Str.isExactStr (.ref x) = false from rfl]
      refine wpAny_bind (m := cRoomFor _ _) (wpAny_cRoomFor hu ?_)
      refine wpAny_bind (m := callSpecial? (.ref x) (Str.ofString "__str__")) (special_fn X I hs (beq_iff_eq.mp hf) (wpAny_mono h (fun r s' z => ?_) fun _ _ y => y))
      cases r <;> first | exact z.elim | exact wpAny_pure ⟨_, _, rfl, z⟩
    exact wpAny_bind (wpAny_mono key (fun r s₁ hr => wpAny_pure hr) fun _ _ y => y)
  · rintro obj s₁ ⟨y, u, rfl, hq⟩
    exact ⟨typeIs_str _ _ _, PySem.F.args_object_init_2 _ _, object_init_meets PySem.F.called_str.init.lookup PySem.F.called_str.made (by decide) prog w A.in1 _ s₁ ⟨typeIs_str _ _ _, rfl, hq⟩⟩
end
end PySem.W
namespace Vm
open PySem L2
section
variable {X : Cx} {Z : Zz} {P : Pg} {Φ : Nat → List D → Sto → Res} {W : WX} {n k : Nat}
variable {H H' : Hp} {μ μ' : Mu} {S S' : Sto} {σ : Sl} {τ : St} {Q : VK}
variable {a b e o fe : Expr} {es : List Expr} {ca cb co cf cr : C} {pos p apos : Pos}
variable {fd : FuncData} {ps : List Str} {g : Addr} {c gi : Nat} {m : Str}
theorem DVs.reverse {H : Hp} {μ : Mu} : ∀ {ds : List D} {vs : List V}, DVs Z H μ ds vs → DVs Z H μ ds.reverse vs.reverse
  | [], vs, h => by simp only [DVs] at h; subst h; simp only [List.reverse_nil, DVs]
  | d :: ds, vs, h => by
    simp only [DVs] at h
    obtain ⟨v, r, rfl, h1, h2⟩ := h
    rw [List.reverse_cons, List.reverse_cons]
    exact DVs.append (DVs.reverse h2) (DVs.one h1)
theorem kit_bt {K : PySem.W.Frag} {C : Addr} {n : String} (hm : PySem.W.kitMeta n = true) (hs : PySem.W.subIn K (.ref C) (.type n) = some false) : PySem.W.kitOne K (.ref C) (.type n) = some false := by
  unfold PySem.W.kitOne
  split
  · rename_i e
    cases beq_iff_eq.mp e
  · show (if PySem.W.kitMeta n = true then PySem.W.subIn K (.ref C) (.type n) else none) = _
    rw [if_pos hm]
    exact hs
theorem v_isb {t : Ty} {T : Str} {TS : String} {pt : Pos} (hZ : X.K = Z.K) (PC : PcOk X.K Z P) (hk : ∀ c', P.pc c' = true → PySem.W.kitOne X.K (.ref (Z.ca c')) (.type TS) = some false) (ht : tyn t = some TS) (hg : Gl X "isinstance") (hm : X.mg "isinstance" = none) (hgT : Gl X T) (hmT : X.mg T = none) (hvT : bootBuiltins T = some (.type TS)) (ha : PE X a (rdE Z P Φ W ca))
    (hnT : T ≠ "__name__" := by decide) (hdT : (T == ("__debug__" : Str)) = false := by decide)
    (hs : starEach [a, .Name T pt] X.env = (false, eval a X.env) :: starEach [.Name T pt] X.env := by rfl) (hs2 : starEach [.Name T pt] X.env = (false, eval (.Name T pt) X.env) :: starEach [] X.env := by rfl)
    (hpl : (backTo pos (starEach [.Name T pt] X.env)).any (·.1) = false := by rfl) :
    PE X (.Call (.Name "isinstance" p) [a, .Name T pt] [] pos) (rdE Z P Φ W (.isb t ca)) := by
  refine PE.imp (pe_callB call_isi hg hm (by decide +kernel) (pa_cons ha (pa_cons (pe_bltn hgT hmT hvT (v := .ty TS) rfl hnT hdT) pa_nil hs2) hs) (he := hs) (hpl := hpl)) ?_
  rintro τ H Q ⟨μ, σ, S, R, L, h⟩
  simp only [ev] at h
  refine stepEE R L h _ fun d S1 μ1 H1 v e1 R1 L1 hv h1 => ?_
  cases e2 : insOf S1 d with
  | some cf =>
    obtain ⟨c', fs⟩ := cf
    rw [e2] at h1
    dsimp only at h1
    split at h1
    · rename_i hc
      rw [Bool.and_eq_true] at hc
      obtain ⟨ty0, ty, h3⟩ := own_ty (P := P) hZ PC R1 hv (by unfold okY; rw [e2]; exact hc.1)
      rcases h3 with ⟨c2, fs2, e3, _, rfl⟩ | ⟨q, e3, _, _⟩
      · rw [e2] at e3
        cases e3
        exact ⟨v, .ty TS, _, .type TS, _, rfl, .ty TS, ty, hk c' hc.1, h1.dE R1 (by simp only [DV])⟩
      · rw [e2] at e3; cases e3
    · exact h1.bad
  | none =>
    rw [e2] at h1
    dsimp only at h1
    simp only [isTy] at h1
    cases e3 : dty S1 d with
    | none => rw [e3] at h1; exact h1.bad
    | some n =>
      rw [e3] at h1
      simp only [Option.bind_some] at h1
      cases e4 : kin n t with
      | none => rw [e4] at h1; exact h1.bad
      | some b =>
        rw [e4] at h1
        exact ⟨v, .ty TS, _, .type TS, b, rfl, .ty TS, dty_ok hZ R1 hv e3, kit_ty (kin_ok n t TS b ht e4), h1.dE R1 (by simp only [DV])⟩
theorem intsOf_ok {H : Hp} {μ : Mu} : ∀ {ds : List D} {is : List Int} {vs : List V}, intsOf ds = some is → DVs Z H μ ds vs → vs = is.map V.int
  | [], is, vs, h, hv => by cases h; simp only [DVs] at hv; subst hv; rfl
  | .int i :: r, is, vs, h, hv => by
    simp only [intsOf] at h
    cases e : intsOf r with
    | none => rw [e] at h; cases h
    | some q =>
      rw [e] at h
      cases h
      simp only [DVs, DV] at hv
      obtain ⟨v, w, rfl, rfl, h2⟩ := hv
      rw [intsOf_ok e h2]
      rfl
  | .non :: _, _, _, h, _ => by cases h
  | .bl _ :: _, _, _, h, _ => by cases h
  | .str _ :: _, _, _, h, _ => by cases h
  | .tup _ :: _, _, _, h, _ => by cases h
  | .scr _ :: _, _, _, h, _ => by cases h
  | .rol _ :: _, _, _, h, _ => by cases h
  | .rin _ _ _ :: _, _, _, h, _ => by cases h
  | .rdc _ _ :: _, _, _, h, _ => by cases h
  | .ref _ :: _, _, _, h, _ => by cases h
  | .cls _ :: _, _, _, h, _ => by cases h
  | .unk :: _, _, _, h, _ => by cases h
/-- xs[::-1] -/
theorem v_rev {p1 p2 p3 : Pos} {kk : Nat} (hZ : X.K = Z.K) (ha : PE X a (rdE Z P Φ W ca)) : PE X (.Subscript a (.Slice none none (some (.UnaryOp .USub (.Constant (.int 1) kk p1) p2)) p3) pos) (rdE Z P Φ W (.rev ca)) := by
  refine PE.imp (pe_revL ha) ?_
  rintro τ H Q ⟨μ, σ, S, R, L, h⟩
  simp only [ev] at h
  refine stepEE R L h _ fun d S1 μ1 H1 v e1 R1 L1 hv h1 => ?_
  cases q : S1.lv d with
  | none => rw [q] at h1; exact h1.bad
  | some xs =>
    rw [q] at h1
    obtain ⟨a', vs, rfl, g1, g2, g3⟩ := R1.lv q hv
    refine ⟨a', vs, rfl, SqL.of g1, fun p hp => ?_⟩
    exact new_lst R1 (by rw [List.length_reverse]; exact g3) (DVs.reverse g2) (h1.toQ (by intros; exact fun z => nomatch z)) hp
/-- str(x) -/
theorem run_ostr (M : OwnM X.K (Z.ca c) "__str__" g) (F : FnOk X.prog X.w X.K X.mg X.base (L2.CX X.prog X.w) k g fd ps (spF Z P n gi)) (hr : Room (k + 2) X.A) (hb : Binds X.K fd ps []) :
    ∀ (pins : List (Addr × Obj)) (s : Shared) (τ : St) (H : Hp) (a dx : Addr) (gs : List (Str × V)) (Q : VK), L2.Inv X pins τ H s → H a = some (.ins (Z.ca c) dx gs) → spF Z P n gi [.ref a] H (fun v H' => ∃ v', ownW .str v v' ∧ Q v' H') (WE W0f τ) → wpAny (model X.prog X.w) X.A (call (.type "str") [.ref a]) (EP X pins τ Q) X.xe s := by
  intro pins s τ H a dx gs Q I h1 h2
  obtain ⟨ox, od, J⟩ := own_inst I h1
  have hr1 : Room k X.A.in1.in1 := hr.in1.in1
  refine PySem.W.vm_str hr1.units0 I.kIn J M.at_ M.fn ?_
  refine thn (run_own (vs := [.ref a]) (us := [.ref a]) F hr1 rfl takes0 hb I (.cons rfl .nil) h2) fun r s3 ⟨v3, H3, I3, r3, v', w1, w2⟩ => ?_
  obtain ⟨y, rfl, rfl⟩ := w1
  obtain ⟨t, rfl⟩ := (show ∃ t, r = Value.str y t from r3)
  exact ⟨.str y, H3, I3, ⟨t, rfl⟩, w2⟩
theorem own_in2 {kk : Ow} (hk : ∀ x o, ownA kk [x, o] = some (o, [x])) (hok : ∀ S r, ownOk P S kk r = true) (hx : ownX kk = false) {ca cb : C} (R : RS Z μ S H) (L : SV Z H μ σ τ) (h : Want Z μ H (kE Z W τ Q) (ev P (run P n) (.own kk c gi (.acons ca (.acons cb .anil))) [] σ S)) :
    rdE Z P (run P n) W ca τ H fun v H1 => rdE Z P (run P n) W cb τ H1 fun w H2 => (∃ a dx gs, w = .ref a ∧ H2 a = some (.ins (Z.ca c) dx gs)) ∧ spF Z P n gi [w, v] H2 (fun v H' => ∃ v', ownW kk v v' ∧ Q v' H') (WE W0f []) := by
  rw [ev_own] at h
  have h' : Want Z μ H (kE Z W τ Q) (b1 σ (ev P (run P n) ca [] σ S) fun d S => b1 σ (ev P (run P n) cb [] σ S) fun y S => match insOf S y with
      | some (c', _) => if c' = c then ownR kk (callL σ (run P n) gi [y, d] S) else .bad
      | none => .bad) := by
    simp only [ev] at h
    cases q : ev P (run P n) ca [] σ S with
    | val ds S1 =>
      rw [q] at h
      match ds, h with
      | [], h => exact h.bad
      | [d], h =>
        simp only [b1] at h ⊢
        cases q2 : ev P (run P n) cb [] σ S1 with
        | val ds S2 =>
          rw [q2] at h
          match ds, h with
          | [], h => exact h.bad
          | [y], h =>
            simp only [bv, hk, hok, and_true] at h
            exact h
          | _ :: _ :: _, h => exact h.bad
        | exc c fs σ' S2 => rw [q2] at h; exact h
        | _ => rw [q2] at h; exact h.bad
      | _ :: _ :: _, h => exact h.bad
    | exc c fs σ' S1 => rw [q] at h; exact h
    | _ => rw [q] at h; exact h.bad
  refine stepEE R L h' _ fun d S1 μ1 H1 v e1 R1 L1 hv h1 => ?_
  refine stepEE R1 L1 h1 _ fun y S2 μ2 H2 w e2 R2 L2' hw h2 => ?_
  cases q : insOf S2 y with
  | none => rw [q] at h2; exact h2.bad
  | some cf =>
    obtain ⟨c', fs⟩ := cf
    rw [q] at h2
    dsimp only at h2
    split at h2
    · rename_i hc
      subst hc
      obtain ⟨u, dx, gs, rfl, g1, _⟩ := R2.insv q hw
      exact ⟨⟨u, dx, gs, rfl, g1⟩, spF_of (ds := [y, d]) R2 (by simp only [DVs]; exact ⟨_, _, rfl, hw, _, _, rfl, hv.mono e2, rfl⟩) (own_want (τ' := []) hx h2)⟩
    · exact h2.bad
def rOin (Z : Zz) (P : Pg) (n gi c : Nat) (kk : Ow) : R2 := fun v w H Q => (∃ a dx gs, w = .ref a ∧ H a = some (.ins (Z.ca c) dx gs)) ∧ spF Z P n gi [w, v] H (fun v H' => ∃ v', ownW kk v v' ∧ Q v' H') (WE W0f [])
section
variable (M : OwnM X.K (Z.ca c) "__contains__" g) (F : FnOk X.prog X.w X.K X.mg X.base (L2.CX X.prog X.w) k g fd ps (spF Z P n gi)) (hr : Room k X.A) (hb : Binds X.K fd ps [])
include M F hr hb
theorem op_oin : OpR X (compareOp .In) (rOin Z P n gi c .cont) := by
  intro pins s τ H x y v u Q I rx ry q
  obtain ⟨⟨a, dx, gs, rfl, z5⟩, hw⟩ := q
  cases ry
  obtain ⟨ox, od, J⟩ := own_inst I z5
  refine PySem.W.vm_in I.kIn J M.at_ M.fn ?_
  refine thn (run_own (W := W0f) (vs := [.ref a, x]) (us := [.ref a, v]) F hr rfl takes0 hb I (.cons rfl (.cons rx .nil)) hw) fun r s3 ⟨v3, H3, I3, r3, v', w1, w2⟩ => ?_
  obtain ⟨bb, rfl, rfl⟩ := w1
  cases r3
  exact ⟨bb, rfl, .bl bb, H3, I3, rfl, w2⟩
variable (ha : PE X a (rdE Z P (run P n) W ca)) (hbb : PE X b (rdE Z P (run P n) W cb))
include ha hbb
theorem v_oin (hm : behindInMarks .In b = false := by with_unfolding_all rfl) : PE X (.Compare a [.In] [b] pos) (rdE Z P (run P n) W (.own .cont c gi (.acons ca (.acons cb .anil)))) := by
  refine PE.imp (pe_cmpR (op_oin M F hr hb) ha hbb hm) ?_
  rintro τ H Q ⟨μ, σ, S, R, L, h⟩
  exact own_in2 (fun _ _ => rfl) (fun _ _ => rfl) rfl R L h
end
end
end Vm
namespace Vm
open PySem L2 ClX
end Vm
namespace Vm
open PySem L2
end Vm
namespace Vm
open PySem L2
structure FnV (P : Program) (w : World) (K : PySem.W.Frag) (mg : Str → Option Value) (base : Heap) (CX : CXT) (k : Nat) (f : Addr) (fd : FuncData) (ps : List Str) (sp : Sp) : Prop where
  run : ∀ (A : Around) (outer : List Env) (s : Shared) (H : Hp) (args : Args) (rest : List Value) (vr : List V) (g : Value → List Value) (gv : V → List V) (Q : VK) (E : XK), Room k A → Env0 P w K mg base A outer s H →
    bindArgs fd args = (newTuple rest >>= fun t => pure (ps.zip (g t))) → Vals vr rest → vr.length ≤ sizeLine → (∀ p, Vals (gv (.ref p)) (g (.ref p))) → (∀ p, H p = none → sp (gv (.ref p)) (upd H p (.tup vr)) Q E) → (∀ v, (gv v).length = ps.length) →
    codeAny (model P w) A (.call (.ref f) args) (CR CX outer P w H s Q E) s
theorem FnV.mono {P : Program} {w : World} {K : PySem.W.Frag} {mg : Str → Option Value} {base : Heap} {CX : CXT} {j k : Nat} {f : Addr} {fd : FuncData} {ps : List Str} {sp : Sp} (F : FnV P w K mg base CX j f fd ps sp) (h : j ≤ k) :
    FnV P w K mg base CX k f fd ps sp := ⟨fun A outer s H args rest vr g gv Q E hr => F.run A outer s H args rest vr g gv Q E (hr.mono h)⟩
theorem okV {P : Program} {w : World} {K : PySem.W.Frag} {mg : Str → Option Value} {base : Heap} {qual name : Str} {params : Arguments} {st : Stmt} {f : Addr} {fd : FuncData} {N ps : List Str} {k : Nat} {sp : Sp} {dV : Value}
    (F : ∃ (oc : Value) (od : Option Addr) (kV doc pm : Value) (an : Option Addr) (cdv ct : Value) (osl : Array (Option Value)), fd = PySem.W.fnOf name qual params (defBody st) (defScope st) dV kV doc pm an cdv ct ∧ K.lookup f = some ⟨oc, od, .func fd, osl⟩ ∧ PySem.W.codeIn K cdv qual = true)
    (S : FnScope N ps (defScope st))
    (hbody : ∀ (cdv : Value) (A : Around) (outer : List Env) (s : Shared) (H : Hp) (vs : List V) (Q : VK) (E : XK), Room k (A.deeper (PyProof.Rows.envOfC qual (defScope st) s.heap.objs.size f cdv)) → sp vs H Q E →
      ∃ t, PSs (cxOf (L2.CX P w) P w K mg base N qual (defScope st) f cdv A outer s H E) (defBody st) t ∧ t { nx := fun _ H' => Q .non H', rt := Q } (L2.start N vs) H) : FnV P w K mg base (L2.CX P w) (k + 1) f fd ps sp := by
  obtain ⟨oc, od, kV, doc, pm, an, cdv, ct, osl, rfl, lk, hcd⟩ := F
  refine ⟨fun A outer s H args rest vr g gv Q E hr e0 hb r hz hg hq hl => ?_⟩
  have hn : H s.heap.objs.size = Option.none := e0.hok.fresh (Nat.le_refl _)
  have hl2 : rest.length ≤ sizeLine := by rw [← r.length]; exact hz
  refine StX.run_bnd lk hcd S hr e0 (G := fun xs H2 => ∃ p, H p = Option.none ∧ xs = gv (V.ref p) ∧ H2 = upd H p (.tup vr)) (fun A' Ex Q' h => ?_) fun s2 H2 xs ⟨p, hp, ex, eH⟩ hr' => ?_
  · rw [hb]
    refine wpAny_bind (wpAny_newTuple (wpAny_pure ?_) hl2)
    have new : ObjOk P w (upd H s.heap.objs.size (.tup vr)) (s.heap.push ({ cls := .type "tuple", data := .seq rest.toArray } : Obj)) s.heap.objs.size (.tup vr) := ⟨hz, rest, r, ⟨_, Heap.get?_push_size _ rfl, rfl, _, rfl⟩⟩
    have un := StX.un_laid (fs := frs outer) (s := s) (o := ({ cls := .type "tuple", data := .seq rest.toArray } : Obj)) (u := .tup vr) hn
    exact h _ _ (gv (V.ref s.heap.objs.size)) (g (Value.ref s.heap.objs.size)) (StX.env0_laid e0 new) un rfl (fun e s' => StX.cxUp outer s H _ _ E e s' un (fun b o q => Heap.get?_push_of_some _ q) rfl) (hg _) (hl _) ⟨_, hn, rfl, rfl⟩
  · subst ex eH
    exact hbody cdv A outer s2 _ _ Q E hr' (hq p hp)
theorem fnV_zero {Z : Zz} {P : Pg} {f : Nat} {Pr : Program} {w : World} {K : PySem.W.Frag} {mg : Str → Option Value} {base : Heap} {CX : CXT} {k : Nat} {a : Addr} {fd : FuncData} {ps : List Str} : FnV Pr w K mg base CX k a fd ps (spF Z P 0 f) :=
  ⟨fun A outer s H args rest vr g gv Q E hr e0 hb r hz hg hq hl => by
    obtain ⟨_, _, _, _, _, h⟩ := hq s.heap.objs.size (e0.hok.fresh (Nat.le_refl _))
    exact h.elim⟩
/-- how the arguments of such a def bind: k of them, then the rest -/
def BV (fd : FuncData) (ps : List Str) (k : Nat) : Prop := ∀ us rest : List Value, us.length = k → bindArgs fd ⟨us ++ rest, []⟩ = (newTuple rest >>= fun t => pure (ps.zip (us ++ [t])))
theorem bv1 {fd : FuncData} {ps : List Str} (h0 : ∀ a, bindArgs fd ⟨[a], []⟩ = (newTuple [] >>= fun t => pure (ps.zip ([a] ++ [t])))) (h1 : ∀ a r rs, bindArgs fd ⟨a :: r :: rs, []⟩ = (newTuple (r :: rs) >>= fun t => pure (ps.zip ([a] ++ [t])))) : BV fd ps 1
  | [a], [], _ => h0 a
  | [a], r :: rs, _ => h1 a r rs
section
variable {X : Cx} {Z : Zz} {P : Pg} {Φ : Nat → List D → Sto → Res} {W : WX} {n k : Nat}
variable {H H' : Hp} {μ μ' : Mu} {S S' : Sto} {σ : Sl} {τ : St} {Q : VK}
variable {a b e o fe : Expr} {es : List Expr} {ca cb co cf cr : C} {pos p apos sp_ : Pos}
variable {fd : FuncData} {ps : List Str} {g : Addr} {c gi : Nat} {m x : Str}
theorem extOf_ok (hZ : X.K = Z.K) (R : RS Z μ S H) {d : D} {v : V} {xs : List D} (h : extOf S d = some xs) (hv : DV Z H μ d v) : ∃ a vs, v = .ref a ∧ (SqT X.K H a vs ∨ SqL X.K H a vs) ∧ DVs Z H μ xs vs := by
  have lst : ∀ {q}, S.lv d = some q → extOf S d = S.lv d → ∃ a vs, v = .ref a ∧ (SqT X.K H a vs ∨ SqL X.K H a vs) ∧ DVs Z H μ xs vs := fun {q} hq hx => by
    rw [hx, hq] at h
    cases h
    obtain ⟨b, ws, rfl, h3, h4, _⟩ := R.lv hq hv
    exact ⟨b, ws, rfl, .inr (SqL.of h3), h4⟩
  cases d with
  | tup zs =>
    cases h
    simp only [DV] at hv
    obtain ⟨b, ws, rfl, h3, h4⟩ := hv
    rw [← hZ] at h3
    exact ⟨b, ws, rfl, .inl h3, h4⟩
  | ref _ => exact lst h rfl
  | rol _ => exact lst h rfl
  | _ => exact absurd h (fun z => nomatch z)
/-- arguments of a call, of any form -/
def CallArgs (X : Cx) (pos : Pos) (es : List Expr) (t : TA) : Prop := ∀ (f : Value) (first : List Value) (pins : List (Addr × Obj)) (s : Shared) (τ : St) (H : Hp) (Q' : List V → Hp → Prop) (Qf : Value → Shared → Prop), PySem.W.keepIn X.K f = true → L2.Inv X pins τ H s → t τ H Q' →
  (∀ us s1 vs H1, L2.Inv X pins τ H1 s1 → Vals vs us → Q' vs H1 → wpAny (model X.prog X.w) X.A (call f (first ++ us)) Qf X.xe s1) →
  wpAny (model X.prog X.w) X.A (callWith pos f first (backTo pos (starEach es X.env)) (backToKw pos (keywordEach [] X.env))) Qf X.xe s
theorem ca_nil {t : TA} (ht : ∀ τ H Q, t τ H Q → Q [] H) : CallArgs X pos [] t := fun f first pins s τ H Q' Qf hk I h hq => by
  refine PySem.W.callWith_K0 I.kIn hk ?_
  exact hq [] s [] H I .nil (ht τ H Q' h)
theorem ca_nil' : CallArgs X pos [] (rdA Z P Φ W .anil) := ca_nil fun τ H Q ⟨μ, σ, S, R, L, h⟩ => h μ H Ext.refl R [] (by simp only [DVs])
theorem ca_plain {t : TA} (ha : PA X (e :: es) t) (he : starEach (e :: es) X.env = (false, eval e X.env) :: starEach es X.env := by rfl) (hpl : (backTo pos (starEach es X.env)).any (·.1) = false := by rfl) : CallArgs X pos (e :: es) t := fun f first pins s τ H Q' Qf hk I h hq =>
  PySem.W.callWith_K (h₀ := X.base) I.ok.mod.kin hk (thn (ha.run pos pins s τ H _ I h) fun us s1 ⟨vs, H1, I1, r, q⟩ => ⟨I1.kIn, hq us s1 vs H1 I1 r q⟩) he hpl
end
end Vm
namespace Vm
open PySem L2
section
variable {X : Cx} {Z : Zz} {P : Pg} {Φ : Nat → List D → Sto → Res} {W : WX} {n k : Nat}
variable {H H' : Hp} {μ μ' : Mu} {S S' : Sto} {σ : Sl} {τ : St} {Q : VK}
variable {a b e o fe : Expr} {es : List Expr} {ca cb co cf cr ck : C} {pos p apos sp_ : Pos}
variable {fd : FuncData} {ps : List Str} {g : Addr} {c gi kk na nk : Nat} {m x : Str} {prm : List (Nat ⊕ D)} {ks : List Str} {kws : List Keyword} {mc : Value}
/-- a class of the text as a value -/
theorem v_kcls (hg : Gl X x) (hm : X.mg x = some (.ref (Z.ca c))) (hdb : (x == ("__debug__" : Str)) = false := by decide) : PE X (.Name x p) (rdE Z P Φ W (.kon (.cls c))) := by
  refine ⟨fun pins s τ H Q I h => ld_glob I hg hm ?_ hdb⟩
  obtain ⟨μ, σ, S, R, L, h⟩ := h
  exact ⟨.ref (Z.ca c), H, I, rfl, Want.dE (d := .cls c) (S := S) h R (by simp only [DV])⟩
theorem newv_end {pins : List (Addr × Obj)} {s : Shared} {us : List Value} {ds : List D} {vs : List V} (M : Mk X.K (Z.ca c) g) (F : FnV X.prog X.w X.K X.mg X.base (L2.CX X.prog X.w) k g fd ps (spF Z P n gi)) (hr : Room (k + 1) X.A) (tk : Takes X W) (hb : BV fd ps (kk + 1)) (hps : ps.length = kk + 2)
    (I : L2.Inv X pins τ H s) (R : RS Z μ S H) (hd : DVs Z H μ ds vs) (r : Vals vs us)
    (h : Want Z μ H (kE Z W τ Q) (if kk ≤ ds.length ∧ ds.length ≤ SL then newR σ S.length (callL σ (run P n) gi (.ref S.length :: (ds.take kk ++ [.tup (ds.drop kk)])) (S ++ [.ins c []])) else .bad)) :
    wpAny (model X.prog X.w) X.A (call (.ref (Z.ca c)) us) (EP X pins τ Q) X.xe s := by
  split at h
  · rename_i hl
    have I2 := Inv.made (C := Z.ca c) I
    obtain ⟨e1, R1⟩ := R.made (c := c) (a := s.heap.objs.size + 1) (dx := s.heap.objs.size) (I.hok.fresh (Nat.le_succ _)) (I.hok.fresh (Nat.le_refl _)) (Nat.ne_of_lt (Nat.lt_succ_self _))
    have lvs : vs.length = ds.length := hd.length.symm
    have lus : us.length = ds.length := by rw [← r.length]; exact lvs
    have rt : Vals (vs.take kk) (us.take kk) ∧ Vals (vs.drop kk) (us.drop kk) := by
      have : ∀ (kk : Nat) {vs : List V} {us : List Value}, Vals vs us → Vals (vs.take kk) (us.take kk) ∧ Vals (vs.drop kk) (us.drop kk) := by
        intro kk
        induction kk with
        | zero => intro vs us r; exact ⟨by simpa using (show Vals [] [] from .nil), by simpa using r⟩
        | succ j ih =>
          intro vs us r
          cases r with
          | nil => exact ⟨by simpa using (show Vals [] [] from .nil), by simpa using (show Vals [] [] from .nil)⟩
          | cons a b => exact ⟨.cons a (ih b).1, (ih b).2⟩
      exact this kk r
    refine wpAny_call (make_map (f := g) I.kIn M.makes M.init (beq_iff_eq.mp M.fn) (codeAny_mono (F.run _ X.stack _ _ ⟨Value.ref (s.heap.objs.size + 1) :: us, []⟩ (us.drop kk) (vs.drop kk) (fun t => (Value.ref (s.heap.objs.size + 1) :: us.take kk) ++ [t]) (fun v => (V.ref (s.heap.objs.size + 1) :: vs.take kk) ++ [v])
      (fun v H2 => v = .non ∧ Q (.ref (s.heap.objs.size + 1)) H2) (WE W τ) (hr.make (Z.ca c) us []) (I2.env0.make (Z.ca c) us []) ?_ rt.2 ?_ ?_ ?_ ?_) fun r s' hq' => ?_))
    · have := hb (Value.ref (s.heap.objs.size + 1) :: us.take kk) (us.drop kk) (by rw [List.length_cons, List.length_take]; omega)
      rw [List.cons_append, List.take_append_drop] at this
      exact this
    · rw [List.length_drop, lvs, sizeLine_eq]
      exact Nat.le_trans (Nat.sub_le _ _) hl.2
    · intro p
      exact Vals.append (.cons rfl rt.1) (.cons rfl .nil)
    · intro p hp
      obtain ⟨e2, R2⟩ := R1.aside (o := .tup (vs.drop kk)) hp
      refine spF_of R2 ?_ (Want.make (fun μ' H' e => e.at (by rw [← R.len, add_l]; simp)) (h.ext (e1.trans e2)))
      have hd2 := (hd.mono e1).mono e2
      have hs : DV Z (upd (upd (upd H s.heap.objs.size (.own (s.heap.objs.size + 1))) (s.heap.objs.size + 1) (.ins (Z.ca c) s.heap.objs.size [])) p (.tup (vs.drop kk))) (μ.add (s.heap.objs.size + 1)) (.ref S.length) (.ref (s.heap.objs.size + 1)) := by
        simp only [DV]
        exact ⟨_, by rw [← R.len, add_l]; simp, rfl⟩
      show DVs Z _ _ ([D.ref S.length] ++ (ds.take kk ++ [.tup (ds.drop kk)])) ([V.ref (s.heap.objs.size + 1)] ++ (vs.take kk ++ [V.ref p]))
      refine (DVs.one hs).append ((hd2.take kk).append (DVs.one ?_))
      simp only [DV]
      exact ⟨p, vs.drop kk, rfl, .inl (.inl upd_same), hd2.drop kk⟩
    · intro v
      rw [List.length_append, List.length_cons, List.length_take, List.length_singleton, hps]
      omega
    · cases r with
      | error e => exact passAt tk τ pins _ _ e s' I2 hq'
      | ok fl =>
        cases fl with
        | ret u =>
          obtain ⟨v, H', I3, rv, ev, q3⟩ := I2.after hq'
          subst ev
          exact ⟨rv, ⟨V.ref (s.heap.objs.size + 1), H', I3, rfl, q3⟩⟩
        | next => exact False.elim hq'
        | brk => exact False.elim hq'
        | cont => exact False.elim hq'
  · exact h.bad
theorem ev_newv {i : List D} : ev P Φ (.newv c gi kk cf ca) i σ S = b1 σ (ev P Φ cf [] σ S) fun x S => match x with
    | .cls c' => if c' = c then bv σ (ev P Φ ca [] σ S) fun ds S => (if kk ≤ ds.length ∧ ds.length ≤ SL then newR σ S.length (callL σ Φ gi (.ref S.length :: (ds.take kk ++ [.tup (ds.drop kk)])) (S ++ [.ins c []])) else .bad) else .bad
    | _ => .bad := rfl
/-- C(.., *..), its class by a name -/
theorem v_newv (tk : Takes X W) (M : Mk X.K (Z.ca c) g) (F : FnV X.prog X.w X.K X.mg X.base (L2.CX X.prog X.w) k g fd ps (spF Z P n gi)) (hr : Room (k + 1) X.A) (hb : BV fd ps (kk + 1)) (hps : ps.length = kk + 2)
    (hf : PE X (.Name x p) (rdE Z P (run P n) W cf)) (ha : CallArgs X pos es (rdA Z P (run P n) W ca)) : PE X (.Call (.Name x p) es [] pos) (rdE Z P (run P n) W (.newv c gi kk cf ca)) := by
  refine ⟨fun pins s τ H Q I h => ?_⟩
  obtain ⟨μ, σ, S, R, L, h⟩ := h
  rw [ev_newv] at h
  refine PySem.wpAny_Call_Name_kw (thn (hf.run pins s τ H (fun v H1 => v = .ref (Z.ca c) ∧ ∃ S1 μ1, RS Z μ1 S1 H1 ∧ SV Z H1 μ1 σ τ ∧ Want Z μ1 H1 (kE Z W τ Q) (bv σ (ev P (run P n) ca [] σ S1) fun ds S => (if kk ≤ ds.length ∧ ds.length ≤ SL then newR σ S.length (callL σ (run P n) gi (.ref S.length :: (ds.take kk ++ [.tup (ds.drop kk)])) (S ++ [.ins c []])) else .bad))) I
    (stepEE R L h _ fun d S1 μ1 H1 v e1 R1 L1 hv h1 => ?_)) fun u s1 ⟨v, H1, I1, ru, ev, S1, μ1, R1, L1, h1⟩ => ?_)
  · cases d with
    | cls c' =>
      dsimp only at h1
      split at h1
      · rename_i hc
        subst hc
        simp only [DV] at hv
        exact ⟨hv, S1, μ1, R1, L1, h1⟩
      · exact h1.bad
    | _ => exact h1.bad
  · subst ev
    obtain rfl : u = Value.ref (Z.ca c) := ru
    refine ha (.ref (Z.ca c)) [] pins s1 τ H1 _ _ M.kp I1 (stepA R1 L1 h1 (fun vs H2 => ∃ ds S2 μ2, RS Z μ2 S2 H2 ∧ DVs Z H2 μ2 ds vs ∧ Want Z μ2 H2 (kE Z W τ Q) (if kk ≤ ds.length ∧ ds.length ≤ SL then newR σ S2.length (callL σ (run P n) gi (.ref S2.length :: (ds.take kk ++ [.tup (ds.drop kk)])) (S2 ++ [.ins c []])) else .bad))
      (fun _ _ _ _ _ _ _ z => z) fun ds S2 μ2 H2 vs e2 R2 L2' hvs h2 => ⟨ds, S2, μ2, R2, hvs, h2⟩) fun us s2 vs H2 I2 rv ⟨ds, S2, μ2, R2, hvs, h2⟩ => ?_
    exact newv_end (us := us) M F hr tk hb hps I2 R2 hvs rv h2
end
end Vm
namespace Vm
open PySem L2
theorem loopC_ext {chk : Sto → Bool} {f : D → Sto → Res} : ∀ {xs acc ys : List D} {S S' : Sto}, loopC chk f acc xs S = .val ys S' → ∃ r, ys = acc ++ r
  | [], acc, ys, S, S', h => by
    rw [loopC] at h
    split at h
    · cases h; exact ⟨[], by rw [List.append_nil]⟩
    · cases h
  | x :: xs, acc, ys, S, S', h => by
    rw [loopC] at h
    split at h
    · split at h
      · rename_i ds S1 _
        obtain ⟨r, e⟩ := loopC_ext h
        exact ⟨ds ++ r, by rw [e, List.append_assoc]⟩
      · cases h
    · cases h
theorem pairsOf_app : ∀ {a r : List D} {ps : List (D × D)}, pairsOf a = some ps → pairsOf (a ++ r) = (pairsOf r).map (ps ++ ·)
  | [], r, ps, h => by
    cases h
    show pairsOf r = _
    cases pairsOf r <;> rfl
  | [_], _, _, h => by cases h
  | k :: d :: t, r, ps, h => by
    rw [pairsOf] at h
    split at h
    · rename_i hk
      cases e : pairsOf t with
      | none => rw [e] at h; cases h
      | some q =>
        rw [e] at h
        cases h
        show (if isKey k = true then (match pairsOf (t ++ r) with
          | some q => some ((k, d) :: q)
          | none => none) else none) = _
        rw [if_pos hk, pairsOf_app e]
        cases pairsOf r <;> rfl
    · cases h
theorem mergeD_snoc : ∀ (ps acc : List (D × D)) (k v : D), mergeD acc (ps ++ [(k, v)]) = putK (mergeD acc ps) k v
  | [], acc, k, v => rfl
  | p :: ps, acc, k, v => by
    show mergeD (putK acc p.1 p.2) (ps ++ [(k, v)]) = _
    rw [mergeD_snoc ps]
    rfl
section
variable {X : Cx} {Z : Zz} {P : Pg} {Φ : Nat → List D → Sto → Res} {W : WX}
variable {H H' : Hp} {μ μ' : Mu} {S S' : Sto} {σ : Sl} {τ : St} {Q : VK}
variable {a b e l o tg iter kx vx : Expr} {es ifs : List Expr} {ca cb cc ck cv co ci cg ct : C} {pos p apos cpos : Pos}
theorem dc_core' {g : TG} {own : List Nat} {tt : TT} {tk tv : TE} (hp : Z.pn = []) (hg : TgOk Z P Φ cg g own) (ht : ∀ τ H Q, rdT Z P Φ W0 ct τ H Q → tt τ H Q) (hk : ∀ τ H Q, rdE Z P Φ W0 ck τ H Q → tk τ H Q) (hv : ∀ τ H Q, rdE Z P Φ W0 cv τ H Q → tv τ H Q) {τ : St} {H : Hp} {Q : VK}
    (h : rdE Z P Φ W (.dcm own cg ci ct ck cv) τ H Q) : tDc (rdI Z P Φ W ci) g tt tk tv own τ H Q := by
  obtain ⟨μ, σ, S, R, L, h⟩ := h
  rw [ev] at h
  refine ⟨μ, σ, S, R, L, h.bv.mono ?_ (fun _ _ _ _ _ _ z => z) (fun _ _ _ _ _ _ z => z) (fun _ _ _ _ _ _ z => z) (fun _ _ _ _ _ _ z => z) (fun _ _ _ _ _ _ _ _ z => z)⟩
  rintro ds S1 μ1 H1 e1 R1 w
  dsimp only at w
  cases hxs : walk S1 ds with
  | none => rw [hxs] at w; exact w.bad
  | some rx =>
    obtain ⟨raws, xs⟩ := rx
    rw [hxs] at w
    refine ⟨raws, xs, hxs, fun J hJ L0 hL0 => ?_⟩
    dsimp only at w
    generalize hf0 : (fun x S => turnP (ev P Φ cg [x] (wipeD σ own) S) (fun σ S => ev P Φ ct [] σ S) (fun σ S => ev P Φ ck [] σ S) fun σ S => ev P Φ cv [] σ S) = fT at w
    cases hr : loopC (stillW ds raws) fT [] xs S1 with
    | val ys S3 =>
      rw [hr] at w
      have w' : Want Z μ1 H1 (kE Z W τ Q) (match pairsOf ys with
        | some kvs => if kvs.length ≤ SL then .val [.ref S3.length] (S3 ++ [.dct (mergeD [] kvs)]) else .bad
        | none => .bad) := w
      cases hps : pairsOf ys with
      | none => rw [hps] at w'; exact w'.bad
      | some kvs =>
        rw [hps] at w'
        dsimp only at w'
        by_cases hz : kvs.length ≤ SL
        · rw [if_pos hz] at w'
          obtain ⟨ea, Ra⟩ := R1.aside (o := .dK []) hL0
          refine ⟨fun i m H' => m = xs.length - i ∧ i ≤ xs.length ∧ ∃ μ2 S2 acc ps qs, Ext μ1 H1 μ2 H' ∧ RS Z μ2 S2 H' ∧ SV Z H' μ2 σ τ ∧ H' L0 = some (.dK qs) ∧ L0 ∉ μ2.l ∧ ¬ μ2.z L0 ∧ pairsOf acc = some ps ∧ DKs Z H' μ2 (mergeD [] ps) qs ∧ loopC (stillW ds raws) fT acc (xs.drop i) S2 = .val ys S3,
            ⟨_, rfl, Nat.zero_le _, μ1, S1, [], [], [], ea, Ra, (L.mono e1).mono ea, upd_same, R1.fresh hL0, R1.zfresh hL0, rfl, rfl, by rw [List.drop_zero]; exact hr⟩, ?_⟩
          rintro i m H' ⟨rfl, hi, μ2, S2, acc, ps, qs, e2, R2, L2', hq, hm, hmz, hacc, hdk, hl⟩
          by_cases hlt : i < xs.length
          · obtain ⟨x, hx, hd⟩ := drop_at' xs i hlt
            rw [hd, loopC] at hl
            split at hl
            · rename_i hst
              obtain ⟨hgo, hstop⟩ := hJ μ2 S2 H' e2.mo R2 hst
              obtain ⟨go, hy⟩ := hgo i x hx
              split at hl
              · rename_i zs S4 hf
                refine .inr ⟨go, fun H5 => ∃ μ5 S5 acc5 ps5 qs5, Ext μ1 H1 μ5 H5 ∧ RS Z μ5 S5 H5 ∧ SV Z H5 μ5 σ τ ∧ H5 L0 = some (.dK qs5) ∧ L0 ∉ μ5.l ∧ ¬ μ5.z L0 ∧ pairsOf acc5 = some ps5 ∧ DKs Z H5 μ5 (mergeD [] ps5) qs5 ∧ loopC (stillW ds raws) fT acc5 (xs.drop (i + 1)) S5 = .val ys S3, ?_, ?_⟩
                · rintro H5 ⟨μ5, S5, acc5, ps5, qs5, z⟩
                  exact ⟨xs.length - (i + 1), by omega, rfl, hlt, μ5, S5, acc5, ps5, qs5, z⟩
                · intro v H'' hyld
                  obtain ⟨e4, R4, hvv⟩ := hy v H'' hyld
                  rw [← hf0] at hf
                  dsimp only at hf
                  unfold turnP at hf
                  cases hg1 : ev P Φ cg [x] (wipeD σ own) S2 with
                  | nx σ2 S2' =>
                    rw [hg1] at hf
                    obtain ⟨rfl, tg1⟩ := hg H'' μ2 S2 (wipeD σ own) (L2.wipe τ own) x v R4 ((L2'.mono e4).wipe hp own) hvv σ2 S2' hg1
                    refine tg1 _ fun τ2 L6 hw => ⟨by
                      rw [hw]
                      apply List.ext_getElem?
                      intro j
                      rw [wipe_get, wipe_get, wipe_length]
                      by_cases hj : j ∈ own
                      · rw [if_pos hj, if_pos hj]
                      · rw [if_neg hj, if_neg hj], ht _ _ _ ?_⟩
                    simp only [bg] at hf
                    refine ⟨μ2, σ2, S2', R4, L6, ?_⟩
                    cases ht1 : ev P Φ ct [] σ2 S2' with
                    | val ts S6 =>
                      rw [ht1] at hf
                      match ts, hf with
                      | [], hf => cases hf
                      | _ :: _ :: _, hf => cases hf
                      | [y], hf =>
                        simp only [b1] at hf
                        intro μ6 H6 e6 R6
                        cases hty : tru S6 y with
                        | none => rw [hty] at hf; cases hf
                        | some bb =>
                          refine ⟨y, bb, rfl, hty, ?_⟩
                          obtain ⟨m6, q6⟩ := (e4.trans e6).out hq hm
                          have z6 := (e4.trans e6).outz hq hmz
                          rw [hty] at hf
                          cases bb with
                          | false =>
                            cases hf
                            refine iteF ⟨μ6, S4, acc, ps, qs, (e2.trans e4).trans e6, R6, (L2'.mono e4).mono e6, q6, m6, z6, hacc, hdk.mono (e4.trans e6), ?_⟩
                            rw [List.append_nil] at hl
                            exact hl
                          | true =>
                            dsimp only at hf
                            refine iteT (hk _ _ _ ⟨μ6, σ2, S6, R6, L6.mono e6, ?_⟩)
                            cases he1 : ev P Φ ck [] σ2 S6 with
                            | val us S7 =>
                              rw [he1] at hf
                              match us, hf with
                              | [], hf => cases hf
                              | _ :: _ :: _, hf => cases hf
                              | [u], hf =>
                                dsimp only at hf
                                intro μ7 H7 e7 R7
                                refine ⟨u, rfl, fun w7 hw7 => hv _ _ _ ⟨μ7, σ2, S7, R7, (L6.mono e6).mono e7, ?_⟩⟩
                                obtain ⟨m7, q7⟩ := e7.out q6 m6
                                have z7 := e7.outz q6 z6
                                cases he2 : ev P Φ cv [] σ2 S7 with
                                | val us2 S8 =>
                                  rw [he2] at hf
                                  match us2, hf with
                                  | [], hf => cases hf
                                  | _ :: _ :: _, hf => cases hf
                                  | [u2], hf =>
                                    cases hf
                                    intro μ8 H8 e8 R8
                                    refine ⟨u2, rfl, fun w8 hw8 => ?_⟩
                                    obtain ⟨m8, q8⟩ := e8.out q7 m7
                                    have z8 := e8.outz q7 z7
                                    obtain ⟨rr, er⟩ := loopC_ext hl
                                    have hp1 : pairsOf (acc ++ [u, u2] ++ rr) = some kvs := by rw [← er]; exact hps
                                    rw [List.append_assoc, pairsOf_app hacc] at hp1
                                    have hkey : isKey u = true := by
                                      cases hku : isKey u with
                                      | true => rfl
                                      | false =>
                                        have : pairsOf ([u, u2] ++ rr) = none := by
                                          show (if isKey u = true then _ else none) = none
                                          rw [hku, if_neg Bool.false_ne_true]
                                        rw [this] at hp1
                                        cases hp1
                                    have hps2 : pairsOf (acc ++ [u, u2]) = some (ps ++ [(u, u2)]) := by
                                      rw [pairsOf_app hacc]
                                      show Option.map _ (if isKey u = true then _ else none) = _
                                      rw [if_pos hkey]
                                      rfl
                                    have hlen : ps.length + 1 ≤ kvs.length := by
                                      have e3 : pairsOf ((acc ++ [u, u2]) ++ rr) = some kvs := by rw [← er]; exact hps
                                      rw [pairsOf_app hps2] at e3
                                      cases e4 : pairsOf rr with
                                      | none => rw [e4] at e3; cases e3
                                      | some r2 =>
                                        rw [e4] at e3
                                        cases e3
                                        simp only [List.length_append, List.length_cons, List.length_nil]
                                        omega
                                    obtain ⟨kk, hkk⟩ := isKey_key hkey
                                    have hlq : qs.length < sizeLine := by
                                      rw [sizeLine_eq, ← hdk.length]
                                      have := mergeD_len ps []
                                      simp only [List.length_nil] at this
                                      have hz' : kvs.length ≤ 16777216 := hz
                                      omega
                                    obtain ⟨mo, R9⟩ := R8.over (o := .dK (L2.putK qs kk w8)) q8 (fun _ z => by cases z) (fun _ _ z => by cases z) (fun _ z => by cases z) m8 z8
                                    have hdk8 : DKs Z H8 μ8 (mergeD [] ps) qs := ((hdk.mono (e4.trans e6)).mono e7).mono e8
                                    have mv : ∀ {kvs : List (D × D)} {qs : List (Key × V)} {H H' : Hp} {μ μ' : Mu}, Mo μ H μ' H' → DKs Z H μ kvs qs → DKs Z H' μ' kvs qs := by
                                      intro kvs
                                      induction kvs with
                                      | nil => intro qs H H' μ μ' _ h; exact h
                                      | cons p t ih =>
                                        intro qs H H' μ μ' mo h
                                        obtain ⟨q, v, s, rfl, h1, h2, h3⟩ := h
                                        exact ⟨q, v, s, rfl, h1, h2.mo mo, ih mo h3⟩
                                    refine ⟨qs, kk, key_DV hkk hw7, q8, hlq, μ8, S4, acc ++ [u, u2], ps ++ [(u, u2)], L2.putK qs kk w8, ((((e2.trans e4).trans e6).trans e7).trans e8).over hL0, R9, ⟨L2'.len, fun j dd hj => ?_, L2'.pin⟩, upd_same, m8, z8, hps2, ?_, hl⟩
                                    · obtain ⟨vv, g1, g2⟩ := ((((L2'.mono e4).mono e6).mono e7).mono e8).at_ j dd hj
                                      exact ⟨vv, g1, g2.mo mo⟩
                                    · rw [mergeD_snoc]
                                      exact mv mo (hdk8.put hkk hw8)
                                | _ => rw [he2] at hf; cases hf
                            | _ => rw [he1] at hf; cases hf
                    | _ => rw [ht1] at hf; cases hf
                  | _ => rw [hg1] at hf; cases hf
              · cases hl
            · cases hl
          · have hi' : i = xs.length := by omega
            subst hi'
            rw [List.drop_length, loopC] at hl
            split at hl
            · rename_i hst
              cases hl
              obtain ⟨_, hstop⟩ := hJ μ2 S3 H' e2.mo R2 hst
              rw [hps] at hacc
              cases hacc
              have hlen2 : (mergeD [] kvs).length ≤ SL := by
                have := mergeD_len kvs []
                simp only [List.length_nil] at this
                omega
              have m2 : Mo μ2 H' (μ2.add L0) H' := ⟨⟨[L0], rfl⟩, fun _ _ h => h, fun _ _ _ h => h, fun _ _ z h => ⟨z, h⟩⟩
              obtain ⟨e9, R9⟩ := R2.take_in e2 (a := L0) (o := .dct (mergeD [] kvs)) hL0 hm hmz (fun gs => by rw [hq]; exact fun z => by cases z) (by
                obtain ⟨a1, a2⟩ := hdk.to
                exact ⟨hlen2, qs, hq, a1, a2.mo m2⟩)
              refine .inl ⟨hstop _ (Nat.le_refl _), Want.dE' w' e9 R9 ?_⟩
              simp only [DV]
              exact ⟨L0, by rw [add_l, ← R2.len, List.getElem?_append_right (Nat.le_refl _)]; simp, rfl⟩
            · cases hl
        · rw [if_neg hz] at w'
          exact w'.bad
    | _ =>
      rw [hr] at w
      exact w.bad
/-- {k: v for .. in ..} -/
theorem v_dcm {scope : Scope} {own : List (Str × Nat)} {g : TG} (hc : X.calm = true) (hp : Z.pn = []) (hN : X.N.Nodup) (hi : PI X tg iter (rdI Z P Φ W ci)) (ok : BlkOk X.N X.env.scope scope own)
    (hgo : TgOk Z P Φ cg g (own.map (·.2))) (hg : ∀ (s : Shared) (H : Hp) (C : Addr) (cl : List (Str × Addr)) (fp : List Addr), PG (X.blk s H scope (compEnvC scope cl C X.env) fp) tg g)
    (ht : ∀ (s : Shared) (H : Hp) (C : Addr) (cl : List (Str × Addr)) (fp : List Addr), PTs (X.blk s H scope (compEnvC scope cl C X.env) fp) ifs (rdT Z P Φ W0 ct))
    (hk : ∀ (s : Shared) (H : Hp) (C : Addr) (cl : List (Str × Addr)) (fp : List Addr), PE (X.blk s H scope (compEnvC scope cl C X.env) fp) kx (rdE Z P Φ W0 ck))
    (hv : ∀ (s : Shared) (H : Hp) (C : Addr) (cl : List (Str × Addr)) (fp : List Addr), PE (X.blk s H scope (compEnvC scope cl C X.env) fp) vx (rdE Z P Φ W0 cv)) (hs : ∀ x, foldedSetIterable iter X.env x = pure x := by intro _; rfl) :
    PE X (.DictComp kx vx [⟨tg, iter, ifs, 0⟩] scope pos) (rdE Z P Φ W (.dcm (own.map (·.2)) cg ci ct ck cv)) :=
  PE.imp (pe_dc hc hN hi ok hg ht hk hv hs) fun _ _ _ h => dc_core' hp hgo (fun _ _ _ z => z) (fun _ _ _ z => z) (fun _ _ _ z => z) h
end
end Vm
namespace Vm
open PySem L2
section
variable {X : Cx} {Z : Zz} {P : Pg} {Φ : Nat → List D → Sto → Res} {W : WX}
variable {H H' : Hp} {μ μ' : Mu} {S S' : Sto} {σ : Sl} {τ : St} {Q : VK}
variable {a b e l o tg iter kx vx : Expr} {es ifs : List Expr} {ca cb cc ck cv co ci cg ct : C} {pos p apos cpos : Pos}
/-- what a key stands for -/
theorem key_DVs : ∀ {kvs : List (D × D)} {qs : List (Key × V)}, DKs Z H μ kvs qs → kvs.all (fun p => keyB p.1) = true → DVs Z H μ (kvs.map (·.1)) (qs.map fun kv => kV kv.1)
  | [], qs, h, _ => by cases h; simp only [List.map_nil, DVs]
  | (k, d) :: r, qs, h, hb => by
    obtain ⟨q, v, s, rfl, h1, h2, h3⟩ := h
    rw [List.all_cons, Bool.and_eq_true] at hb
    simp only [List.map_cons, DVs]
    refine ⟨_, _, rfl, ?_, key_DVs h3 hb.2⟩
    cases k with
    | int i => cases h1; simp only [DV]; rfl
    | str t =>
      cases h1
      have h4 : txtOk t = true := hb.1
      unfold txtOk at h4
      rw [Bool.and_eq_true, decide_eq_true_eq, List.all_eq_true] at h4
      simp only [DV]
      exact ⟨h4.1, fun c hc => Nat.le_of_ble_eq_true (h4.2 c hc), rfl⟩
    | _ => cases h1
def flatP' : PyData → Bool
  | .int _ => true
  | .str _ => true
  | _ => false
theorem pds_keyed {n : Nat} : ∀ {xs : List D} {ps : List PyData}, pds S n xs = some ps → xs.all keyB = true → ∀ p ∈ ps, flatP' p = true
  | [], ps, h, _ => by rw [pds_nil] at h; cases h; exact fun p hp => by cases hp
  | x :: xs, ps, h, hb => by
    obtain ⟨p, q, h1, h2, rfl⟩ := pds_cons h
    rw [List.all_cons, Bool.and_eq_true] at hb
    intro y hy
    rcases List.mem_cons.mp hy with hy | hy
    · subst hy
      cases x with
      | int i => rw [pd_int] at h1; cases h1; rfl
      | str t => rw [pd_str] at h1; cases h1; rfl
      | _ => exact absurd hb.1 (fun z => nomatch z)
    · exact pds_keyed h2 hb.2 y hy
theorem sort_end {pins : List (Addr × Obj)} {s1 : Shared} {us : List Value} {vs : List V} {zs ys : List D} {E : Value → Shared → Prop} (hZ : X.K = Z.K) (hu : X.A.units + 65 < cLine) (I1 : L2.Inv X pins τ H s1) (R : RS Z μ S H) (hv : DVs Z H μ zs vs) (r : Vals vs us)
    (hs : sortD S zs = some ys) (hb : zs.all keyB = true) (hz : zs.length ≤ SL) (h : Want Z μ H (kQ Z Q) (.val [.ref S.length] (S ++ [.lst ys]))) :
    wpAny (model X.prog X.w) X.A.in1 (call (.builtin "list.sort") [.ref s1.heap.objs.size]) (fun _ s' => EP X pins τ Q (.ref s1.heap.objs.size) s') E { s1 with heap := s1.heap.push (PyProof.Rows.seqObj "list" us.toArray 0) } := by
  unfold sortD at hs
  cases e3 : pds S 39 zs with
  | none => rw [e3] at hs; cases hs
  | some ps =>
    rw [e3] at hs
    dsimp only at hs
    split at hs
    · rename_i hok
      rw [Bool.and_eq_true] at hok
      obtain ⟨b1, b2, b3⟩ := pds_ok (pd_ok R 39) zs ps vs e3 hv
      rw [← hZ] at b1
      have pl := pds_len e3
      have ei := each_items I1 pl hv b1 r
      have hmap : (zs.zip ps).map (fun b => b.2) = ps := by
        rw [List.map_snd_zip]
        omega
      have hlen : (zs.zip ps).length = zs.length := by rw [List.length_zip, pl]; omega
      have hoL : (s1.heap.push (PyProof.Rows.seqObj "list" us.toArray 0)).get? s1.heap.objs.size = some (PyProof.Rows.seqObj "list" us.toArray 0) := Heap.get?_push_size _ rfl
      have hfl := pds_keyed e3 hb
      refine PySem.W.list_sort_data (s := { s1 with heap := s1.heap.push (PyProof.Rows.seqObj "list" us.toArray 0) }) (enc := fun b : D × PyData => b.2) (bs := zs.zip ps) (R := fun (u : Value) (b : D × PyData) => ∃ v, RelV v u ∧ DV Z H μ b.1 v) hoL (ei.mono fun _ _ z => z.1) ?_ (by rw [hmap]; exact alikeB_ok hok.1) (by rw [hmap]; exact sortableB_ok hok.2) (by rw [hlen, sizeLine_eq]; exact hz) ?_ fun out ho eo => ?_
      · refine (PySem.W.each_mem ei).mono fun u b ⟨⟨_, as, hr⟩, hm⟩ => ⟨[], ?_, fun hx => by cases hx⟩
        have hb2 : flatP' b.2 = true := hfl b.2 (by rw [← hmap]; exact List.mem_map_of_mem hm)
        revert hr hb2
        obtain ⟨b1', b2'⟩ := b
        dsimp only
        intro hr hb2
        cases hr <;> first | exact .int _ _ | exact .str _ _ | cases hb2
      · intro b hb'
        have hp : b.2 ∈ ps := by rw [← hmap]; exact List.mem_map_of_mem hb'
        have := depthAll_mem b3 b.2 hp
        rw [Around.in1_units]
        omega
      · obtain ⟨ws, w1, w2⟩ := vals_each eo
        have ie : isort (PySem.W.dataLe false fun b : D × PyData => b.2) (zs.zip ps) = (zs.zip ps).mergeSort (PySem.W.dataLe false fun b : D × PyData => b.2) := isort_eq (PySem.W.sortLe_total _ _ _) _
        rw [← ie] at w2
        have e2' := Option.some.inj hs
        have w3 : DVs Z H μ ys ws := by rw [← e2']; exact w2
        have hys : ys.length ≤ SL := by
          rw [← e2', List.length_map, isort_length, hlen]
          exact hz
        obtain ⟨ep, he'⟩ := PyProof.Rows.sortedHeap_at (vs := us) (out := out.toArray) hoL
        have hn := I1.hok.fresh (Nat.le_refl s1.heap.objs.size)
        refine ⟨.ref s1.heap.objs.size, upd H s1.heap.objs.size (.lst ws), I1.laid (t' := s1.toks) (fun b u e => ?_) (Nat.le_refl _) ⟨by rw [sizeLine_eq, ← w3.length]; exact hys, out, ep, w1, he'⟩, rfl, new_lst R hys w3 h hn⟩
        have hlt : b < s1.heap.objs.size := Heap.lt_size e
        rw [PyProof.Rows.sortedHeap_old (Nat.ne_of_lt hlt) (by rw [Heap.size_push]; exact Nat.lt_succ_of_lt hlt)]
        exact Heap.get?_push_of_some _ e
    · cases hs
/-- sorted(x), x what gives these items -/
theorem call_sortedX {pins : List (Addr × Obj)} {s : Shared} {a : Addr} {ys : List D} (hZ : X.K = Z.K) (hu : X.A.units + 65 < cLine) (R : RS Z μ S H)
    (col : ∀ (E : Value → Shared → Prop) (Qc : List Value → Shared → Prop), (∀ s1 us vs zs, L2.Inv X pins τ H s1 → Vals vs us → DVs Z H μ zs vs → sortD S zs = some ys → zs.all keyB = true → zs.length ≤ SL → Qc us s1) → wpAny (model X.prog X.w) X.A.in1 (collect (.ref a)) Qc E s)
    (h : Want Z μ H (kQ Z Q) (.val [.ref S.length] (S ++ [.lst ys]))) : wpAny (model X.prog X.w) X.A (call (.builtin "sorted") [.ref a]) (EP X pins τ Q) X.xe s := by
  refine Calls.call_function_entry PyProof.Rows.kind_sorted PyProof.Rows.plain_sorted PyProof.Rows.entry_sorted (PyProof.Rows.args_sorted1 _) ?_
  unfold Builtin.«sorted»
  refine wpAny_bind (m := checkCount "sorted" 1 1 _) (wpAny_pure ?_)
  refine wpAny_bind (col _ _ fun s1 us vs zs I1 r hv hs hb hz => ?_)
  refine wpAny_bind (wpAny_newList ?_ (by rw [← r.length, ← hv.length, sizeLine_eq]; exact hz))
  refine wpAny_bind (wpAny_holding (wpAny_mono (sort_end hZ hu I1 R hv r hs hb hz h) (fun _ s' q => ?_) fun _ _ z => z))
  exact wpAny_pure ⟨_, rfl, q⟩
theorem cb_sortedd (hZ : X.K = Z.K) (hc : X.calm = true) (hu : X.A.units + 65 < cLine) : CallR X (.builtin "sorted") (rCB Z .sortedd) := by
  intro pins s σ H xs us Q I r h
  obtain ⟨μ, S, ds, R, hv0, h0⟩ := h
  match ds, hv0, h0 with
  | [], _, h => exact h.bad
  | [d], hvs, h =>
    obtain ⟨v, rfl, hv⟩ := hvs.of_one
    clear hvs
    simp only [callB, callB1] at h
    cases e1 : dctOf S d with
    | none => rw [e1] at h; exact h.bad
    | some kvs =>
      rw [e1] at h
      dsimp only at h
      split at h
      · rename_i hkb
        obtain ⟨a, qs, rfl, g1, g2, g3⟩ := R.dctv e1 hv
        cases e2 : sortD S (kvs.map (·.1)) with
        | none => rw [e2] at h; exact h.bad
        | some ys =>
          rw [e2] at h
          rw [Vals.ref1 r]
          refine call_sortedX hZ hu R (fun E Qc hq => ?_) h
          obtain ⟨z, lo, vs, rel, dd⟩ := dk_rd I.hok g1
          obtain ⟨ep, hat⟩ := dd.dictAt
          have hl : vs.length ≤ sizeLine := by rw [← rel.length]; exact z
          refine PySem.W.kdu_collect (A := X.A.in1) (PySem.W.kdl_dict (knd := mixKind X.prog X.w) (kvs := vs) (ep := ep) lo) (I.ok.hd hc) hat hl fun h' tk acc hk hacc => ?_
          have I1 : L2.Inv X pins σ H { s with heap := h', toks := tk } := I.kept hk
          refine hq _ _ (qs.map fun kv => kV kv.1) (kvs.map (·.1)) I1 ?_ (key_DVs g2 hkb) e2 (by rw [List.all_map]; exact hkb) (by rw [List.length_map]; exact g3)
          -- the gathered keys
          have hks : vs.map (·.1) = qs.map (·.1) := rel.keys.symm
          have hal : acc.toList.length = qs.length := by
            rw [Array.length_toList, hacc.1]
            simpa using congrArg List.length hks
          have key : ∀ (l : List Value) (ks : List Key), l.length = ks.length → (∀ (j : Nat) v, l[j]? = some v → ∃ k, ks[j]? = some k ∧ keyIs k v = true) → Vals (ks.map kV) l := by
            intro l
            induction l with
            | nil => intro ks hl _; cases ks with
              | nil => exact .nil
              | cons _ _ => simp at hl
            | cons v l ih =>
              intro ks hl hj
              cases ks with
              | nil => simp at hl
              | cons k ks =>
                obtain ⟨k', e4, e5⟩ := hj 0 v rfl
                cases e4
                refine .cons ?_ (ih ks (by simpa using hl) fun j w hw => ?_)
                · rcases keyIs_shape e5 with ⟨i, t, rfl, rfl⟩ | ⟨x, t, rfl, rfl⟩
                  · exact ⟨t, rfl⟩
                  · exact ⟨t, rfl⟩
                · obtain ⟨k2, e6, e7⟩ := hj (j + 1) w (by simpa using hw)
                  exact ⟨k2, by simpa using e6, e7⟩
          have e8 := key acc.toList (qs.map (·.1)) (by rw [List.length_map]; exact hal) fun j v e => by
            obtain ⟨k, x, e5, e6⟩ := hacc.2 j v (by rw [← Array.getElem?_toList]; exact e)
            refine ⟨k, ?_, e6⟩
            rw [← hks, List.getElem?_map, e5]
            rfl
          rw [List.map_map] at e8
          exact e8
      · exact h.bad
  | [_, _], _, h => exact h.bad
  | _ :: _ :: _ :: _, _, h => exact h.bad
end
end Vm
namespace Vm.SL
open PySem PySem.Spec PyProof.Rows L2
/-- a set with nothing in it -/
abbrev eset (w : World) : Obj := { cls := .type "set", dict := none, data := .set #[] 0 (.fresh 0 0 (!w.params.followText "set-order")) }
section
variable {P : Program} {w : World} {A : Around} {E : Value → Shared → Prop} {s : Shared}
/-- set(xs), xs a list of numbers -/
theorem set_list {l : Addr} {its : Array Value} (ns : List Int) {Q : Value → Shared → Prop} (hh : A.handled = none) (hl : s.heap.IsList l its) (hi : IntsAre its.toList ns) (hb : ns.length + 1 < scanBound)
    (hQ : ∀ (h2 : Heap) (tk c : Nat), SetR w h2 s.heap.objs.size (fun j => decide (j ∈ ns)) c → c ≤ ns.length → (∀ b o, s.heap.get? b = some o → h2.get? b = some o) →
      Q (.ref s.heap.objs.size) { s with heap := h2, toks := tk }) : wpAny (model P w) A (call (.type "set") [.ref l]) Q E s := by
  have hsz : its.size = ns.length := by
    have := IntsAre.length hi
    rwa [Array.length_toList] at this
  obtain ⟨cm, tlm, hmro⟩ := F.called_set.mro
  have f1 := F.called_set.made
  have f2 := F.called_set.sub
  have f3 := F.called_set.notType
  have f4 := F.called_set.canCreate
  have f5 := F.typeCall_set_1 (.ref l)
  refine wpAny_call (codeAny_of_tree ?_)
  show wpAny _ _ (callAny (.type "set") _) _ _ _
  refine wpAny_pure ⟨Code.quiet_builtin _ (by decide +kernel),
    codeAny_builtin F.entry_type_call ?_⟩
  rw [Around.under_plain (weight_type_call_type "set" [.ref l] [])
    rfl]
  repeat (any_goals (first | assumption | wp_step))
  refine codeAny_mono (code_set_led1 (.ref l) (E := E) (Q₁ := fun ob s1 => ob = .ref s.heap.objs.size ∧ s1 = { s with heap := s.heap.push (eset w) })
    ⟨rfl, rfl⟩) fun r s1 hr => ?_
  cases r with
  | error e => exact hr
  | ok fl =>
    cases fl with
    | ret ob =>
      obtain ⟨rfl, rfl⟩ := hr
      have gS : (s.heap.push (eset w)).get? s.heap.objs.size = some (eset w) := Heap.get?_push_size _ rfl
      have gT : Shared.TypeIs { s with heap := s.heap.push (eset w) } (.ref s.heap.objs.size) "set" := ⟨_, gS, rfl⟩
      have f6 := F.called_set.init.lookup
      have f7 := F.called_set.init.bind (.ref s.heap.objs.size)
      repeat (any_goals (first | assumption | wp_step))
      refine codeAny_mono (codeAny_call_builtin (R := wants (fun r s2 => r = .none ∧ ∃ h2 tk c, s2 = { s with heap := h2, toks := tk } ∧ SetR w h2 s.heap.objs.size (fun j => decide (j ∈ ns)) c ∧
        c ≤ ns.length ∧ (∀ b o, s.heap.get? b = some o → h2.get? b = some o)) E) F.called_set.init.plain F.entry_set_init (check_set_init_1 gT ?_)) fun r2 s2 hr2 => ?_
      · obtain ⟨⟨oc, od, oda, osl⟩, hol, hcl, nl, hdl⟩ := hl
        simp only at hcl hdl
        subst hcl
        subst hdl
        have hol2 : (s.heap.push (eset w)).get? l = some { cls := .type "list", dict := od, data := .seq its nl, slots := osl } := Heap.get?_push_of_some _ hol
        have g1 := F.sub_list_set
        have g2 := F.sub_list_frozenset
        have g3 : (Value.type "list" == Value.type "dict") = false := by decide
        have hl2 : (s.heap.push (eset w)).IsList l its := ⟨_, hol2, rfl, nl, rfl⟩
        unfold Builtin.«set.__init__» noKeywords Builtin.Frozenset.updateFrom
        generalize hIt : pyIter = IT
        wp_walk
        subst hIt
        refine wpAny_pyIter_list hl2 ?_
        refine wpAny_bind (wpAny_runValue ?_)
        have ll : l < s.heap.objs.size := Heap.lt_size hol
        have zs : (s.heap.push (eset w)).objs.size = s.heap.objs.size + 1 := Heap.size_push ..
        have nI : l ≠ (s.heap.push (eset w)).objs.size := by
          rw [zs]
          exact Nat.ne_of_lt (Nat.lt_succ_of_lt ll)
        have nS : s.heap.objs.size ∉ [(s.heap.push (eset w)).objs.size, l] := by
          rw [zs]
          simp only [List.mem_cons, List.not_mem_nil, or_false, not_or]
          exact ⟨Nat.ne_of_lt (Nat.lt_succ_self _), Nat.ne_of_gt ll⟩
        have hv : ∀ (i : Nat) (v : Value), its[i]? = some v → ∃ k t, ns[i]? = some k ∧ v = .int k t := fun i v hv => by
          have li : i < ns.length := by
            rw [← hsz]
            exact (Array.getElem?_eq_some_iff.mp hv).1
          obtain ⟨t, e⟩ := PyProof.Rows.IntsAre.int_at hi i v (by rw [Array.getElem?_toList]; exact hv)
          refine ⟨ns[i], t, List.getElem?_eq_getElem li, ?_⟩
          rw [e, List.getD_eq_getElem?_getD, List.getElem?_eq_getElem li]
          all_goals rfl
        refine set_update_ints ((Walks.list (by simp [hh] : A.in1.in1.in1.handled = none) _ l nI its).toS) s.heap.objs.size nS ns hsz hb hv (its.size - 0) 0 _ (by omega)
          (Nat.zero_le _) ⟨⟨_, Heap.get?_push_size _ rfl, rfl, rfl⟩, hl2.at fun o e => Heap.get?_push_of_some _ e⟩ ?start ?fin
        case start => exact ⟨0, Nat.le_refl 0, setR_new_at (Heap.get?_push_of_some _ gS)⟩
        case fin =>
          intro s3 c3 hm hc3 hS3
          obtain ⟨h3, g3', d3, t3, o3⟩ := s3
          obtain rfl : g3' = s.gens := hm.gens
          obtain rfl : d3 = s.drawn := hm.drawn
          obtain rfl : o3 = s.os := hm.os
          show wpAny _ _ _ _ _ _
          refine wpAny_pure ?_
          show wpAny _ _ (ret Value.none) _ _ _
          rw [hsz] at hc3
          refine wpAny_pure ⟨rfl, h3, t3, c3, rfl, hS3, hc3, fun b o e => ?_⟩
          have lb : b < s.heap.objs.size := Heap.lt_size e
          refine hm.heap b o ?_ (Heap.get?_push_of_some _ (Heap.get?_push_of_some _ e))
          simp only [List.mem_cons, List.not_mem_nil, or_false, not_or]
          refine ⟨Nat.ne_of_lt lb, ?_⟩
          rw [zs]
          exact Nat.ne_of_lt (Nat.lt_succ_of_lt lb)
      · cases r2 with
        | error e => exact hr2
        | ok fl2 =>
          cases fl2 with
          | ret r =>
            obtain ⟨rfl, h2, tk, c, rfl, hS2, hc2, hk2⟩ := hr2
            repeat (any_goals (first | assumption | wp_step))
            exact hQ _ _ _ hS2 hc2 hk2
          | _ => exact hr2.elim
    | _ => exact hr.elim
end
end Vm.SL
namespace Vm
open PySem L2
theorem intsOf_map : ∀ {xs : List D} {is : List Int}, intsOf xs = some is → xs = is.map D.int
  | [], is, h => by cases h; rfl
  | x :: r, is, h => by
    cases x with
    | int i =>
      rw [intsOf] at h
      cases e : intsOf r with
      | none => rw [e] at h; cases h
      | some q =>
        rw [e] at h
        cases h
        rw [intsOf_map e]
        rfl
    | _ => cases h
section
variable {X : Cx} {Z : Zz} {P : Pg} {Φ : Nat → List D → Sto → Res} {W : WX}
variable {H H' : Hp} {μ μ' : Mu} {S S' : Sto} {σ : Sl} {τ : St} {Q : VK}
variable {a b e l o tg iter kx vx : Expr} {es ifs : List Expr} {ca cb cc ck cv co ci cg ct : C} {pos p apos cpos : Pos} {x : Str}
theorem DVs.intsV : ∀ {ns : List Int} {vs : List V}, DVs Z H μ (ns.map D.int) vs → vs = ns.map V.int
  | [], vs, h => by simpa only [List.map_nil, DVs] using h
  | n :: ns, vs, h => by
    simp only [List.map_cons, DVs] at h
    obtain ⟨v, r, rfl, h1, h2⟩ := h
    simp only [DV] at h1
    rw [h1, DVs.intsV h2]
    rfl
theorem DVs.of_ints : ∀ (ns : List Int), DVs Z H μ (ns.map D.int) (ns.map V.int)
  | [] => by simp only [List.map_nil, DVs]
  | n :: ns => by
    simp only [List.map_cons, DVs]
    exact ⟨_, _, rfl, by simp only [DV], DVs.of_ints ns⟩
/-- set(x), x a list or a tuple of numbers -/
def rSetV (K : PySem.W.Frag) (w : World) : List V → Hp → VK → Prop := fun vs H Q => ∃ (a : Addr) (ns : List Int), vs = [.ref a] ∧ (SqT K H a (ns.map V.int) ∨ SqL K H a (ns.map V.int)) ∧ ns.length < 4000 ∧
  ∀ (p : Addr) (T : Int → Bool) (n : Nat), H p = none → (∀ j, T j = decide (j ∈ ns)) → n ≤ ns.length → Q (.ref p) (upd H p (SetO w p T n))
theorem cr_setv (hc : X.calm = true) : CallR X (.type "set") (rSetV X.K X.w) := by
  intro pins s σ H xs us Q I r h
  obtain ⟨a, ns, rfl, hs, hz, q⟩ := h
  rw [Vals.ref1 r]
  have fin : ∀ (h2 : Heap) (tk c : Nat), SetR X.w h2 s.heap.objs.size (fun j => decide (j ∈ ns)) c → c ≤ ns.length → (∀ b o, s.heap.get? b = some o → h2.get? b = some o) → EP X pins σ Q (.ref s.heap.objs.size) { s with heap := h2, toks := tk } := fun h2 tk c hS hl hk =>
    ⟨.ref _, upd H s.heap.objs.size (SetO X.w s.heap.objs.size (fun j => decide (j ∈ ns)) c), I.laid (t' := tk) hk (Nat.le_refl _) (setO_new hS), rfl, q _ _ c (I.hok.fresh (Nat.le_refl _)) (fun _ => rfl) hl⟩
  have hb : ns.length + 1 < PySem.scanBound := by show ns.length + 1 < 4096; omega
  rcases hs with hs | hs
  · obtain ⟨its, rv, pl, hl⟩ := I.tuple hs
    exact call_set_tupI ns (I.ok.hd hc) (show s.heap.IsTuple a its.toArray from pl) (by simpa using ints_of_vals rv) hb fin
  · obtain ⟨its, rv, pl, hl⟩ := I.list hs
    exact SL.set_list ns (I.ok.hd hc) pl.isList (by simpa using ints_of_vals rv) hb fin
theorem v_setv (hZ : X.K = Z.K) (hw : X.w = Z.wd) (hc : X.calm = true) (hg : Gl X "set") (hm : X.mg "set" = none) (ha : PE X a (rdE Z P Φ W ca)) (he : starEach [a] X.env = (false, eval a X.env) :: starEach [] X.env := by rfl) :
    PE X (.Call (.Name "set" p) [a] [] pos) (rdE Z P Φ W (.setv ca)) := by
  refine PE.imp (pe_callTy (cr_setv hc) hg hm (by decide +kernel) (pa_cons ha pa_nil he) (by decide) (by decide) he rfl) ?_
  rintro τ H Q ⟨μ, σ, S, R, L, h⟩
  simp only [ev] at h
  refine stepE R L h _ (fun _ _ _ _ _ _ _ z => z) fun d S1 μ1 H1 v e1 R1 L1 hv h1 => ?_
  cases q : extOf S1 d with
  | none => rw [q] at h1; exact h1.bad
  | some xs =>
    rw [q] at h1
    dsimp only at h1
    cases q2 : intsOf xs with
    | none => rw [q2] at h1; exact h1.bad
    | some ns =>
      rw [q2] at h1
      dsimp only at h1
      split at h1
      · rename_i hz
        have e2 := intsOf_map q2
        subst e2
        obtain ⟨u, vs, rfl, g1, g2⟩ := extOf_ok hZ R1 q hv
        rw [g2.intsV] at g1
        refine ⟨u, ns, rfl, g1, by simpa using hz, fun p T n hp hT hn => ?_⟩
        rw [hw]
        obtain ⟨e3, R3⟩ := R1.push (o := SetO Z.wd p T n) (ob := .set (ns.map D.int)) hp fun e3 => ⟨hz, ns, T, n, rfl, upd_same, hT, hn⟩
        refine h1.dE' e3 R3 ?_
        simp only [DV]
        exact ⟨p, by rw [add_l, ← R1.len, List.getElem?_append_right (Nat.le_refl _)]; simp, rfl⟩
      · exact h1.bad
theorem setOf_ok (R : RS Z μ S H) {d : D} {v : V} {xs : List D} (h : setOf S d = some xs) (hv : DV Z H μ d v) : ∃ (a : Addr) (ns : List Int) (T : Int → Bool) (n : Nat), v = .ref a ∧ xs = ns.map D.int ∧ H a = some (SetO Z.wd a T n) ∧ (∀ j, T j = decide (j ∈ ns)) ∧ n ≤ ns.length ∧ ns.length < 4000 := by
  cases d with
  | ref i =>
    simp only [setOf] at h
    cases e : S[i]? with
    | none => rw [e] at h; cases h
    | some ob =>
      rw [e] at h
      cases ob with
      | set ys =>
        cases h
        obtain ⟨a, ha, z, ns, T, n, h1, h2, h3, h4⟩ := R.at e
        simp only [DV] at hv
        obtain ⟨a', ha', rfl⟩ := hv
        rw [ha] at ha'; cases ha'
        exact ⟨a, ns, T, n, rfl, h1, h2, h3, h4, by rw [h1] at z; simpa using z⟩
      | _ => cases h
  | _ => cases h
end
end Vm
namespace Vm
open PySem L2
/-- numbers in order -/
def isortI (l : List Int) : List Int := isort (fun a b => decide (a ≤ b)) l
theorem ins1_map {α β : Type} {le : α → α → Bool} {le' : β → β → Bool} {f : β → α} (h : ∀ a b, le (f a) (f b) = le' a b) (x : β) : ∀ l : List β, ins1 le (f x) (l.map f) = (ins1 le' x l).map f
  | [] => rfl
  | y :: ys => by
    simp only [List.map_cons, ins1, h]
    split
    · rfl
    · rw [List.map_cons, ins1_map h x ys]
theorem isort_map {α β : Type} {le : α → α → Bool} {le' : β → β → Bool} {f : β → α} (h : ∀ a b, le (f a) (f b) = le' a b) : ∀ l : List β, isort le (l.map f) = (isort le' l).map f
  | [] => rfl
  | y :: ys => by
    show ins1 le (f y) (isort le (ys.map f)) = (ins1 le' y (isort le' ys)).map f
    rw [isort_map h ys, ins1_map h]
theorem pds_ints {S : Sto} {n : Nat} : ∀ l : List Int, pds S n (l.map D.int) = some (l.map PyData.int)
  | [] => pds_nil
  | x :: l => by rw [List.map_cons, pds_con, pd_int, pds_ints l]; rfl
theorem sortD_ints (S : Sto) (l : List Int) : sortD S (l.map D.int) = some ((isortI l).map D.int) := by
  unfold sortD
  rw [pds_ints]
  have h1 : alikeB (l.map PyData.int) = true := by
    unfold alikeB
    simp [List.all_map, PySem.W.alike]
  have h2 : sortableB (l.map PyData.int) = true := by
    unfold sortableB
    rw [Bool.or_eq_true]
    refine .inr ?_
    simp [List.all_map]
  dsimp only
  rw [h1, h2, if_pos (by rfl)]
  have e1 : (l.map D.int).zip (l.map PyData.int) = l.map fun i => (D.int i, PyData.int i) := by
    induction l with
    | nil => rfl
    | cons a l ih => simp only [List.map_cons, List.zip_cons_cons, List.map_map] at ih ⊢; rw [ih (by unfold alikeB; simp [List.all_map, PySem.W.alike]) (by unfold sortableB; rw [Bool.or_eq_true]; exact .inr (by simp [List.all_map]))]
  rw [e1, isort_map (le' := fun a b => decide (a ≤ b)) (f := fun i => (D.int i, PyData.int i)), List.map_map]
  · rfl
  · intro a b
    have := congrFun (congrFun (PySem.W.dataLe_int (β := Int) (fun b => b)) a) b
    exact this
theorem leI_total : PySem.W.TotalLe (fun a b : Int => decide (a ≤ b)) := by
  refine ⟨fun a b c h1 h2 => ?_, fun a b => ?_⟩
  · exact decide_eq_true (Int.le_trans (of_decide_eq_true h1) (of_decide_eq_true h2))
  · rcases Int.le_total a b with h | h
    · exact .inl (decide_eq_true h)
    · exact .inr (decide_eq_true h)
theorem ins1_perm {α : Type} {le : α → α → Bool} (x : α) : ∀ l : List α, (ins1 le x l).Perm (x :: l)
  | [] => .refl _
  | y :: ys => by
    rw [ins1]
    split
    · exact .refl _
    · exact (List.Perm.cons y (ins1_perm x ys)).trans (List.Perm.swap x y ys)
theorem isort_perm {α : Type} {le : α → α → Bool} : ∀ l : List α, (isort le l).Perm l
  | [] => .refl _
  | y :: ys => (ins1_perm y _).trans (List.Perm.cons y (isort_perm ys))
theorem isortI_sorted (l : List Int) : (isortI l).Pairwise (· ≤ ·) := (isort_sorted leI_total l).imp fun h => of_decide_eq_true h
theorem isortI_perm (l : List Int) : (isortI l).Perm l := isort_perm l
/-- in order, the same numbers: the same list -/
theorem sorted_eq {a b : List Int} (ha : a.Pairwise (· ≤ ·)) (hb : b.Pairwise (· ≤ ·)) (h : a.Perm b) : a = b :=
  List.Perm.eq_of_pairwise (fun x y _ _ h1 h2 => Int.le_antisymm h1 h2) ha hb h
theorem isortI_eq {a b : List Int} (h : a.Perm b) : isortI a = isortI b := sorted_eq (isortI_sorted a) (isortI_sorted b) ((isortI_perm a).trans (h.trans (isortI_perm b).symm))
theorem nodup_perm {α : Type} [DecidableEq α] {a b : List α} (ha : a.Nodup) (hb : b.Nodup) (h : ∀ x, x ∈ a ↔ x ∈ b) : a.Perm b := by
  rw [List.perm_iff_count]
  intro x
  have c : ∀ {l : List α}, l.Nodup → l.count x = if x ∈ l then 1 else 0 := fun {l} hl => by
    by_cases hm : x ∈ l
    · rw [if_pos hm]
      have h1 := List.nodup_iff_count.mp hl x
      have h2 := List.count_pos_iff.mpr hm
      omega
    · rw [if_neg hm]
      exact List.count_eq_zero.mpr hm
  rw [c ha, c hb]
  simp only [h x]
/-- each number once -/
def dedZ : List Int → List Int
  | [] => []
  | x :: r => if r.contains x then dedZ r else x :: dedZ r
theorem dedI_ints : ∀ l : List Int, dedI (l.map D.int) = (dedZ l).map D.int
  | [] => rfl
  | x :: r => by
    have e : ((r.map D.int).any fun y => D.beq (.int x) y) = r.contains x := by
      rw [Bool.eq_iff_iff, List.any_eq_true, List.contains_iff_mem]
      constructor
      · rintro ⟨y, hy, q⟩
        obtain ⟨n, hn, rfl⟩ := List.mem_map.mp hy
        simp only [D.beq, beq_iff_eq] at q
        rw [q]; exact hn
      · intro hx
        exact ⟨.int x, List.mem_map_of_mem hx, by simp [D.beq]⟩
    show (if ((r.map D.int).any fun y => D.beq (.int x) y) = true then dedI (r.map D.int) else D.int x :: dedI (r.map D.int)) = (if r.contains x = true then dedZ r else x :: dedZ r).map D.int
    rw [e, dedI_ints r]
    split <;> rfl
theorem dedZ_mem {x : Int} : ∀ {l : List Int}, x ∈ dedZ l ↔ x ∈ l
  | [] => Iff.rfl
  | y :: r => by
    rw [dedZ]
    split
    · rename_i h
      rw [dedZ_mem, List.mem_cons]
      constructor
      · exact .inr
      · rintro (rfl | h2)
        · exact List.contains_iff_mem.mp h
        · exact h2
    · rw [List.mem_cons, List.mem_cons, dedZ_mem]
theorem dedZ_nodup : ∀ l : List Int, (dedZ l).Nodup
  | [] => List.nodup_nil
  | y :: r => by
    rw [dedZ]
    split
    · exact dedZ_nodup r
    · rename_i h
      exact List.nodup_cons.mpr ⟨fun hm => h (List.contains_iff_mem.mpr (dedZ_mem.mp hm)), dedZ_nodup r⟩
theorem dedZ_len (xs : List Int) : (dedZ xs).length ≤ xs.length := by
  induction xs with
  | nil => exact Nat.le_refl _
  | cons y r ih =>
    rw [dedZ]
    split
    · exact Nat.le_succ_of_le ih
    · exact Nat.succ_le_succ ih
section
variable {X : Cx} {Z : Zz} {P : Pg} {Φ : Nat → List D → Sto → Res} {W : WX}
variable {H H' : Hp} {μ μ' : Mu} {S S' : Sto} {σ : Sl} {τ : St} {Q : VK}
variable {a b c e l o tg iter kx vx : Expr} {es ifs : List Expr} {ca cb cc ck cv co ci cg ct : C} {pos p apos cpos : Pos} {x : Str}
theorem ints_vals : ∀ {us : List Value} {ns : List Int}, PyProof.Rows.IntsAre us ns → Vals (ns.map V.int) us
  | _, _, .nil => .nil
  | _, _, .cons n t h => .cons ⟨t, rfl⟩ (ints_vals h)
theorem all_keyB : ∀ l : List Int, (l.map D.int).all keyB = true
  | [] => rfl
  | x :: l => by rw [List.map_cons, List.all_cons, all_keyB l]; rfl
theorem cb_sorteds (hZ : X.K = Z.K) (hw : X.w = Z.wd) (hc : X.calm = true) (hu : X.A.units + 65 < cLine) : CallR X (.builtin "sorted") (rCB Z .sorteds) := by
  intro pins s σ H xs us Q I r h
  obtain ⟨μ, S, ds, R, hv0, h0⟩ := h
  match ds, hv0, h0 with
  | [], _, h => exact h.bad
  | [d], hvs, h =>
    obtain ⟨v, rfl, hv⟩ := hvs.of_one
    clear hvs
    simp only [callB, callB1] at h
    cases e1 : setOf S d with
    | none => rw [e1] at h; exact h.bad
    | some xs =>
      rw [e1] at h
      dsimp only at h
      obtain ⟨a, ns, T, n, rfl, rfl, g1, g2, g3, g4⟩ := setOf_ok R e1 hv
      rw [dedI_ints, sortD_ints] at h
      rw [Vals.ref1 r]
      rw [← hw] at g1
      obtain ⟨o, es, ep, t, ho, hex, hd, g, nd, hm, hb, hf, hn, hr, hl⟩ := setO_get I g1
      refine call_sortedX hZ hu R (fun E Qc hq => ?_) h
      refine collect_set (A := X.A.in1) (I.ok.hd hc) ⟨o, ho, hex.1, hd⟩ hf hb hr hl fun s1 vs k1 hz2 g1' o1 pm => ?_
      have hI : PyProof.Rows.IntsAre vs (vs.map Builtin.Re.reRawOf) := ints_of vs fun v hv => by
        obtain ⟨e, he, q⟩ := List.mem_map.mp (pm.mem_iff.mp hv)
        obtain ⟨k, tk, h1, _⟩ := g e he
        exact ⟨k, tk, by rw [← q]; exact h1⟩
      have pk : (vs.map Builtin.Re.reRawOf).Perm (es.toList.map keyOf) := by
        have q := pm.map Builtin.Re.reRawOf
        rw [List.map_map] at q
        exact q
      have I1 : L2.Inv X pins σ H s1 := by
        obtain ⟨h2, gg, dd, tt, oo⟩ := s1
        obtain rfl : gg = s.gens := g1'
        obtain rfl : oo = s.os := o1
        exact I.call (ch := []) (d' := dd) (t' := tt) (Un.kept k1) (I.hok.kept k1) I.bare (fun _ z => nomatch z)
      have pz : (vs.map Builtin.Re.reRawOf).Perm (dedZ ns) := nodup_perm (pk.nodup_iff.mpr nd) (dedZ_nodup ns) fun k => by
        rw [pk.mem_iff, dedZ_mem, ← hm k, g2, decide_eq_true_eq]
      refine hq s1 vs ((vs.map Builtin.Re.reRawOf).map V.int) ((vs.map Builtin.Re.reRawOf).map D.int) I1 (ints_vals hI) (DVs.of_ints _) ?_ (all_keyB _) ?_
      · rw [sortD_ints, isortI_eq pz]
      · rw [List.length_map, pz.length_eq]
        have := dedZ_len ns
        show (dedZ ns).length ≤ 16777216
        omega
  | [_, _], _, h => exact h.bad
  | _ :: _ :: _ :: _, _, h => exact h.bad
end
end Vm
namespace Vm
open PySem L2
end Vm
namespace Vm
open PySem PySem.Spec PyProof.Rows L2
end Vm
namespace Vm
open PySem PySem.Spec PyProof.Rows L2
end Vm
namespace Vm
open PySem PySem.Spec PyProof.Rows L2
end Vm
namespace Vm
open PySem PySem.Spec L2
end Vm
namespace Vm
open PySem PySem.Spec PyProof.Rows L2
end Vm
namespace Vm
open PySem PySem.Spec PyProof.Rows GenW L2
/-- an iterator that hands out xs; it stands while all but the consumer's list stands -/
structure YI (X : Cx) (H : Hp) (it : Addr) (xs : List V) (St : Nat → Heap → Prop) : Prop where
  ty : ∃ T, (∀ j h, St j h → ∃ o, h.get? it = some o ∧ o.cls = .type T) ∧ typeLookup (.type T) "close" = pure none ∧ (Value.type T != Value.type "generator") = true
  frame : ∀ S j h h', H S = none → X.s_0.heap.objs.size ≤ S → S ≠ it → St j h → (∀ b o, b ≠ S → h.get? b = some o → h'.get? b = some o) → St j h'
  item : ∀ (A : Around) (j : Nat) (x : V) (s : Shared) (Q : Option Value → Shared → Prop) (E : Value → Shared → Prop), A.handled = none → xs[j]? = some x → St j s.heap →
    (∀ v h' tk, RelV x v → St (j + 1) h' → (∀ b o, b ≠ it → s.heap.get? b = some o → h'.get? b = some o) → Q (some v) { s with heap := h', toks := tk }) → wpAny (model X.prog X.w) A (callSpecial? (.ref it) "__next__") Q E s
  done : ∀ (A : Around) (s : Shared) (Q : Option Value → Shared → Prop) (E : Value → Shared → Prop), A.handled = none → St xs.length s.heap →
    (∀ e h' tk, StopX e h' → (∀ b o, b ≠ it → s.heap.get? b = some o → h'.get? b = some o) → E e { s with heap := h', toks := tk }) → wpAny (model X.prog X.w) A (callSpecial? (.ref it) "__next__") Q E s
section
variable {X : Cx} {e : Expr} {yp pos : Pos}
abbrev yfC (it : Addr) : Code := .builtin "proto.yield_from" ⟨[.ref it, .bool false, .none], []⟩
theorem yf_run {S : Addr} {ip : List (Addr × Obj)} {A : Around} {R : GenEnd} {fs : List Frame} {it : Addr} {xs ys : List V} {St : Nat → Heap → Prop} {σ : L2.St} {H : Hp} (hpn : ∀ p ∈ X.pn, p.1 ≠ S) (hip : ∀ p ∈ ip, p.1 ≠ S) (hpi : ∀ p ∈ X.pn ++ ip, p.1 ≠ it) (hA : Apart X S)
    (hex : it ∈ X.ex ∨ X.s_0.heap.objs.size ≤ it) (hL : it ≠ X.env.locals) (hcell : ∀ x c, X.env.cells.lookup x = some c → c ≠ it) (hSi : it ≠ S) (hH : H it = none) (q : YI X H it xs St)
    (ho : (A.over (yfC it) fs).handled = none) (hsp : splitAtGen fs = none) (hgd : fs.any Frame.guarded = false) (hle : ys.length + xs.length ≤ sizeLine)
    (hend : ∀ (n : Nat) (s₀ s : Shared), n + (ys ++ xs).length = sizeLine → GI X S ip (ys ++ xs) σ H s → Seg (model X.prog X.w) A R (GY X S) n s₀ (yfC it) (.pure (.done (.ret .none))) fs s) :
    ∀ (r j n : Nat) (s₀ s : Shared), j + r = xs.length → n + (ys.length + j) = sizeLine → GI X S ip (ys ++ xs.take j) σ H s → St j s.heap →
      Seg (model X.prog X.w) A R (GY X S) n s₀ (yfC it) ((model X.prog X.w).den (yfC it)) fs s := by
  obtain ⟨T, hT, hcl, hng⟩ := q.ty
  have go : ∀ {zs : List V} {s : Shared} {h' : Heap} {tk : Nat}, GI X S ip zs σ H s → (∀ b o, b ≠ it → s.heap.get? b = some o → h'.get? b = some o) → GI X S ip zs σ H { s with heap := h', toks := tk } := by
    rintro zs s h' tk ⟨acc, cc, r, I⟩ hk
    refine ⟨acc, cc, r, I.turned (it := it) hk hH hL hex hcell fun p hp => ?_⟩
    rcases List.mem_append.mp hp with hp | hp
    · exact hpi p (List.mem_append_left _ hp)
    · rcases List.mem_cons.mp hp with hp | hp
      · rw [hp]; exact fun z => hSi z.symm
      · exact hpi p (List.mem_append_right _ hp)
  intro r
  induction r with
  | zero =>
    intro j n s₀ s hj hn hI hst
    obtain rfl : j = xs.length := by omega
    rw [List.take_length] at hI
    rw [den_yf]
    unfold Builtin.«proto.yield_from»
    (try dsimp only)
    refine' seg_bind (wpAny_pure ?_)
    (try dsimp only)
    refine' seg_bind (wpAny_attempt (wpAny_holding ?_))
    rw [if_neg Bool.false_ne_true, if_pos (show (Value.none == Value.none) = true from rfl)]
    refine' wpAny_bind (wpAny_rule (wpAny_bind ?_))
    refine q.done _ s _ _ ho hst fun x h' tk ⟨a, o, vs, ea, hoa, hcls, hdat, h5⟩ hk => ?_
    subst ea
    (try dsimp only)
    refine' seg_bind (wpAny_endsTurn hoa hcls ?_)
    (try dsimp only)
    rw [if_pos rfl]
    first
      | refine' seg_bind (wpAny_rule ?_)
      | (rw [if_neg Bool.false_ne_true]; refine' seg_bind (wpAny_rule ?_))
      | (rw [if_neg Bool.false_ne_true]; refine' seg_bind (wpAny_pure ?_); refine' seg_bind (wpAny_rule ?_))
    refine' seg_bind (wpAny_field hoa hdat h5 ?_)
    exact hend n s₀ _ (by rw [List.length_append]; exact hn) (go hI hk)
  | succ r ih =>
    intro j n s₀ s hj hn hI hst
    have hjl : j < xs.length := by omega
    obtain ⟨x, hx⟩ : ∃ x, xs[j]? = some x := ⟨_, List.getElem?_eq_getElem hjl⟩
    obtain ⟨n, rfl⟩ : ∃ m, n = m + 1 := ⟨n - 1, by omega⟩
    rw [den_yf]
    unfold Builtin.«proto.yield_from»
    (try dsimp only)
    refine' seg_bind (wpAny_pure ?_)
    (try dsimp only)
    refine' seg_bind (wpAny_attempt (wpAny_holding ?_))
    rw [if_neg Bool.false_ne_true, if_pos (show (Value.none == Value.none) = true from rfl)]
    refine' wpAny_bind (wpAny_rule (wpAny_bind ?_))
    refine q.item _ j x s _ _ ho hx hst fun v h' tk rv hst1 hk => ?_
    have J := go (tk := tk) hI hk
    obtain ⟨oi, hoi, hoc⟩ := hT (j + 1) h' hst1
    refine' wpAny_pure ?_
    (try dsimp only)
    refine' seg_bind (wpAny_typeOf (T := T) ⟨oi, hoi, hoc⟩ ?_)
    (try dsimp only)
    first
      | (refine' seg_bind (wpAny_of_eq hcl ?_); refine' seg_bind (wpAny_pure ?_))
      | refine' seg_bind (wpAny_bind (wpAny_of_eq hcl (wpAny_pure ?_)))
      | refine' seg_bind (wpAny_of_eq hcl ?_)
    (try dsimp only)
    refine' seg_bind (wpAny_sleptOver hoi hoc hng ?_)
    refine' seg_yield hsp rfl hgd ?_
    refine ⟨ys ++ xs.take j, x, ip, σ, H, ?_, rv, J, fun s2 z => ?_⟩
    · rw [List.length_append, List.length_take, Nat.min_eq_left (Nat.le_of_lt hjl)]; exact hn
    have J2 := J.woken hpn hip hA rv z
    have hst2 : St (j + 1) s2.heap := q.frame S (j + 1) h' s2.heap J.at.1 hA.1 (fun z => hSi z.symm) hst1 fun b o hb e => z.keep b o hb e
    obtain ⟨oj, hoj, hojc⟩ := hT (j + 1) s2.heap hst2
    have etk : ys ++ xs.take j ++ [x] = ys ++ xs.take (j + 1) := by
      rw [List.append_assoc, List.take_add_one, hx]; rfl
    rw [etk] at J2
    show Seg _ _ _ _ n s2 _ (Builtin.Generator.sleptOver (.ref it) false >>= fun _ => _) fs s2
    refine' seg_bind (wpAny_sleptOver hoj hojc hng ?_)
    (try dsimp only)
    refine' seg_bind (wpAny_pure ?_)
    exact seg_again (plainId_quiet plain_yf _) (ih (j + 1) n s2 s2 (by omega) (by omega) J2 hst2)
/-- an expression under yield from whose value is a tuple of any kind -/
def tGTup (K : PySem.W.Frag) (te : TE) : TGn := fun D ys σ H => te σ H fun x H1 => ∃ a xs, x = .ref a ∧ SqT K H1 a xs ∧ (xs.length ≤ sizeLine → ys.length + xs.length ≤ sizeLine ∧ D.nx (ys ++ xs) σ H1)
theorem gs_yft {te : TE} (he : PE X e te) (hc : X.A.handled = none) (hi : interactive X.env = false := by rfl) : GS X (.Expr (.YieldFrom e yp) pos) (tGTup X.K te) := by
  refine ⟨fun A S ip R n ys s₀ c fs K J gd lv s σ H D g hn k hI ht => ?_⟩
  rw [exec_Expr X.env _ pos hi rfl]
  show Seg _ _ _ _ n s₀ c (.at pos fun _ => ((eval e X.env >>= fun v => (standAt yp >>= fun _ => yieldFrom X.env v)) >>= fun x => dropValue (.YieldFrom e yp) pos x).wrap K J gd lv) fs s
  refine' seg_at ?_
  obtain ⟨acc, cc, r, I⟩ := hI
  refine' segw_bind2 ?_
  rw [g.over]
  refine wpAny_mono (he.run _ s σ H _ I ht) (fun v s1 hv => ?_) fun x s' hx => k.exc n s₀ x s' hx
  obtain ⟨x, H1, I1, r1, a, xs, ex, ha, hq⟩ := hv
  subst ex
  obtain rfl : v = Value.ref a := r1
  obtain ⟨its, rits, ht, hlen⟩ := I1.tuple ha
  obtain ⟨hle, hq⟩ := hq hlen
  refine' seg_at ?_
  show Seg _ _ _ _ n s₀ c ((yieldFrom X.env (.ref a)).wrap (fun b => (dropValue (.YieldFrom e yp) pos b).wrap K J gd lv) J gd lv) fs s1
  unfold yieldFrom
  refine' seg_bind_wrap (wpAny_typeOf ht.typeIs ?_)
  rw [if_neg (by decide)]
  refine' seg_bind_wrap (wpAny_holding ?_)
  rw [g.over]
  refine' iter_tuple ht ?_
  have kp : ∀ b o, s1.heap.get? b = some o → (s1.heap.push { cls := .type "tuple_iterator", data := .fields #[.ref a, .int 0 0] }).get? b = some o := fun b o e => Heap.get?_push_of_some _ e
  have I2 := I1.kept (t' := s1.toks) kp
  refine' seg_call fun p => ?_
  have hpin : ∀ p ∈ X.pn ++ ((S, lstObj acc cc) :: ip), p.1 ≠ s1.heap.objs.size := fun p hp => Nat.ne_of_lt (Heap.lt_size (I1.pin p hp).1)
  have hSi : s1.heap.objs.size ≠ S := fun z => hpin (S, lstObj acc cc) (List.mem_append_right _ List.mem_cons_self) z.symm
  refine yf_run (xs := xs) (ys := ys) (it := s1.heap.objs.size) (St := fun j h => IsTupIter h s1.heap.objs.size a j ∧ IsTup h a its.toArray) g.pn g.ip
    (fun p hp => (List.mem_append.mp hp).elim (fun z => hpin p (List.mem_append_left _ z)) fun z => hpin p (List.mem_append_right _ (List.mem_cons_of_mem _ z))) g.apart (.inr I1.sz) (Nat.ne_of_gt I1.lt) (fun y c hy => ?_) hSi (I1.hok.fresh (Nat.le_refl _)) ?_ ?_ ?_ ?_ hle
    (fun n' s₀' s' hn' hG => ?_) xs.length 0 n s₀ _ (Nat.zero_add _) hn ⟨acc, cc, by rw [List.take_zero, List.append_nil]; exact r, I2⟩ ⟨⟨_, Heap.get?_push_size _ rfl, rfl, rfl⟩, ht.push _⟩
  · obtain ⟨v, o, ho, _⟩ := I1.cell y c hy
    exact Nat.ne_of_lt (Heap.lt_size ho)
  · refine ⟨⟨"tuple_iterator", fun j h ⟨⟨o, ho, hc2, _⟩, _⟩ => ⟨o, ho, hc2⟩, close_tup, by decide⟩, fun S2 j h h' n1 n2 n3 ⟨⟨o, ho, r3⟩, o2, ho2, r4⟩ hk => ?_, fun A' j x s2 Q' E' hA hx ⟨q1, q2⟩ hQ => ?_, fun A' s2 Q' E' hA ⟨q1, q2⟩ hE => ?_⟩
    · refine ⟨⟨o, hk _ o (fun z => n3 z.symm) ho, r3⟩, o2, hk _ o2 (fun z => ?_) ho2, r4⟩
      rcases ha with z1 | ⟨ob, _, _, z1, _⟩
      · rw [z] at z1
        rcases z1 with y | ⟨w, y⟩ <;> rw [n1] at y <;> cases y
      · have l1 := Heap.lt_size (I1.ok.mod.kin a ob z1)
        have l2 := I1.ok.bsz
        rw [z] at l1
        exact absurd (Nat.lt_of_lt_of_le l1 (Nat.le_trans l2 n2)) (Nat.lt_irrefl _)
    · obtain ⟨u, hu, ru⟩ := rits.get hx
      exact special_tup_item q1 q2 (x := u) (by simpa using hu) fun h' q3 hs => hQ u h' s2.toks ru ⟨q3, q2.extBut hs.extBut (Nat.ne_of_lt ht.lt)⟩ fun b o hb eb => hs.extBut b o hb eb
    · have hnone : its.toArray[xs.length]? = none := by
        have e1 := rits.length
        have e2 : its[xs.length]? = none := List.getElem?_eq_none_iff.mpr (by omega)
        simpa using e2
      exact special_tup_end hA q1 q2 hnone fun e h' hS hk => hE e h' s2.toks hS fun b o hb eb => hk b o hb eb
  · show (A.over c fs).handled = none
    rw [g.over]; exact hc
  · show (splitAtGen fs).map _ = none
    rw [g.split]; rfl
  · show (gd false || fs.any Frame.guarded) = false
    rw [g.gd, g.guard]; rfl
  · exact seg_leaf (.ok (.ret .none)) (k.ok n' (ys ++ xs) s₀' s' .next hn' ⟨σ, _, hG, hq⟩)
theorem gfn_each {P : Program} {w : World} {K : PySem.W.Frag} {mg : Str → Option Value} {base : Heap} {Z : Zz} {pg : Pg} {c fi : Nat} {nme qual x : Str} {st : Stmt} {f : Addr} {fd : FuncData} {p1 p2 yp pos : Pos} (hZ : Z.K = K) (hO : ObjF K Z pg) (hf : pg.fd c fi = true)
    (F : Fun K nme qual st f fd) (S : GScope ["self"] ["self"] (defScope st)) (hb : defBody st = [.Expr (.YieldFrom (.Attribute (.Name "self" p1) x p2) yp) pos]) (hx : x = Z.nm fi) (hv : Vis (defScope st) "self") :
    GFn P w K mg base 1 f fd ["self"] (fun vs H Q _ => ∃ a dx gs t xs, vs = [.ref a] ∧ H a = some (.ins (Z.ca c) dx gs) ∧ gs.lookup x = some (.ref t) ∧ SqT K H t xs ∧ (xs.length ≤ sizeLine → Q xs H)) := by
  obtain ⟨oc, od, kV, doc, pm, an, cdv, ct, osl, rfl, lk, hcd⟩ := F.ex
  obtain ⟨c1, c2⟩ := hO.fld c fi hf
  refine gfn_of lk hcd S (fun vs H Q E ⟨a, _, _, _, _, h, _⟩ => by rw [h]; rfl) fun A outer s H vs Q E pn hr ⟨a, dx, gs, t, xs, e1, e2, e3, e4, q⟩ => ?_
  subst e1
  rw [hb]
  refine ⟨_, gss_cons (gs_yft (pe_fld (pe_var (i := 0) rfl hv (by decide) (by decide)) rfl) hr.hd (by show ((defScope st).kind == ScopeKind.module && _) = false; rw [S.kind]; rfl)) gss_nil, ?_⟩
  refine ⟨_, rfl, _, _, _, _, _, rfl, e2, c1, by rw [hx]; exact c2, e3, _, _, rfl, e4, fun hl => ⟨by simpa using hl, by simpa [tG0] using q hl⟩⟩
end
section
variable {X : Cx} {Z : Zz} {P : Pg} {Φ : Nat → List D → Sto → Res} {W : WX} {H : Hp} {μ : Mu} {S : Sto} {σ : Sl} {τ : L2.St} {Q : VK}
variable {o : Expr} {co : C} {c mi fi : Nat} {m x : Str} {g : Addr} {fd : FuncData} {pos p apos cpos : Pos}
/-- list(o.m()), m yields from a field -/
theorem v_lsg {pl : Sem Bool} (hZ : X.K = Z.K) (hO : ObjF X.K Z P) (hm : m = Z.nm mi) (hx : x = Z.nm fi) (cl : Cls X.K (Z.ca c)) (me : Meth X.K (Z.ca c) m g)
    (F : GFn X.prog X.w X.K X.mg X.base 1 g fd ["self"] (fun vs H Q _ => ∃ a dx gs t xs, vs = [.ref a] ∧ H a = some (.ins (Z.ca c) dx gs) ∧ gs.lookup x = some (.ref t) ∧ SqT X.K H t xs ∧ (xs.length ≤ sizeLine → Q xs H)))
    (hr : Room 4 X.A) (hb : Binds X.K fd ["self"] []) (hg : Gl X "list") (hmg : X.mg "list" = none) (hv : bootBuiltins "list" = some (.type "list")) (ha : PE X o (rdE Z P Φ W co))
    (hs : starEach [.Call (.Attribute o m apos) [] [] cpos] X.env = (false, eval (.Call (.Attribute o m apos) [] [] cpos) X.env) :: starEach [] X.env := by rfl)
    (ht : eval (.Call (.Attribute o m apos) [] [] cpos) X.env = (do
      let ov ← eval o X.env
      standAt apos.atName
      let (f, first) ← holding [ov] (getMethod ov m pl)
      callWith cpos f first (backTo cpos (starEach [] X.env)) (backToKw cpos (keywordEach [] X.env))) := by rfl) :
    PE X (.Call (.Name "list" p) [.Call (.Attribute o m apos) [] [] cpos] [] pos) (rdE Z P Φ W (.lsg c mi fi co)) := by
  refine PE.imp (pe_listG (E := fun _ _ _ => False) (pgen_meth0 (pl := pl) ha cl me F (hr.mono (by decide)) hb .nil ht) ?_ (fun _ _ _ h => h.elim) hr hg hmg hv (by decide) (by decide) hs) ?_
  · rintro pins σ H s e s' _ h
    obtain ⟨_, _, _, _, _, _, _, _, _, _, _, _, z⟩ := h
    exact z.elim
  rintro τ H Q ⟨μ, σ, S, R, L, h⟩
  simp only [ev] at h
  refine stepEE R L h _ fun d S1 μ1 H1 v e1 R1 L1 hv h1 => ?_
  cases q : insOf S1 d with
  | none => rw [q] at h1; exact h1.bad
  | some cf =>
    obtain ⟨c', fs⟩ := cf
    rw [q] at h1
    dsimp only at h1
    split at h1
    · rename_i hc
      obtain ⟨rfl, hn, hf⟩ := hc
      cases q2 : fs.lookup fi with
      | none => rw [q2] at h1; exact h1.bad
      | some d2 =>
        rw [q2] at h1
        cases d2 with
        | tup xs =>
          obtain ⟨u, dx, gs, rfl, g1, g2⟩ := R1.insv q hv
          obtain ⟨y, k1, k2⟩ := g2.get hO.inj q2
          have k3 := g2.none hO.inj hn
          simp only [DV] at k2
          obtain ⟨t, vs, rfl, k4, k5⟩ := k2
          refine ⟨u, dx, gs, rfl, g1, by rw [hm]; exact k3, u, dx, gs, t, vs, rfl, g1, by rw [hx]; exact k1, by rw [hZ]; exact k4, fun hl p hp => ?_⟩
          exact new_lst R1 (by rw [k5.length, SL_eq]; exact hl) k5 (h1.toQ (by intros; exact fun z => nomatch z)) hp
        | _ => exact h1.bad
    · exact h1.bad
end
end Vm
namespace Vm
open PySem L2
end Vm
namespace Vm
open PySem L2
end Vm
namespace Vm
open PySem PySem.Spec PyProof.Rows GenW L2
end Vm
namespace Vm
open PySem L2
section
variable {X : Cx} {Z : Zz} {P : Pg} {Φ : Nat → List D → Sto → Res} {W : WX}
variable {H H' : Hp} {μ μ' : Mu} {S S' : Sto} {σ : Sl} {τ : St} {Q : VK} {a b e l o tg : Expr} {ca cb co : C} {pos p apos cpos : Pos}
def plainV : V → Bool
  | .int _ => true
  | .str _ => true
  | _ => false
theorem isKey_plain {d : D} {v : V} (h : isKey d = true) (hd : DV Z H μ d v) : plainV v = true := by
  cases d with
  | int i => simp only [DV] at hd; subst hd; rfl
  | str z => simp only [DV] at hd; obtain ⟨_, _, rfl⟩ := hd; rfl
  | _ => cases h
theorem DKs.plain : ∀ {ks : List (D × D)} {qs : List (Key × V)}, DKs Z H μ ks qs → dTxt ks = true → ∀ q ∈ qs, plainV q.2 = true
  | [], qs, h, _ => by cases h; intro q hq; cases hq
  | (k, d) :: r, qs, h, tk => by
    obtain ⟨q, v, s, rfl, h1, h2, h3⟩ := h
    unfold dTxt at tk
    rw [List.all_cons, Bool.and_eq_true, Bool.and_eq_true] at tk
    intro q2 hq2
    rcases List.mem_cons.mp hq2 with rfl | hq2
    · exact isKey_plain tk.1.2 h2
    · exact DKs.plain h3 (by unfold dTxt; exact tk.2) q2 hq2
end
end Vm
namespace Vm
open PySem PySem.Spec PyProof.Rows GenW L2
end Vm
namespace PySem.W
open PySem
end PySem.W
namespace Vm
open PySem L2
end Vm
namespace Vm.SX
open PySem PySem.Spec PyProof.Rows L2
/-- the text of an entry of a set's table -/
def tx (e : Int × Value) : Str := strOf e.2
/-- an entry that is a text under its own hash -/
def Gd (P : Program) (w : World) (e : Int × Value) : Prop := ∃ x tk, e.2 = Value.str x tk ∧ e.1 = hashStr w x
/-- a set of texts stands at a -/
def SetX (P : Program) (w : World) (h : Heap) (a : Addr) (T : Str → Bool) (n : Nat) : Prop :=
  ∃ o es ep t, h.get? a = some o ∧ o.ExactSet ∧ o.data = .set es ep t ∧ (∀ e ∈ es.toList, Gd P w e) ∧
    (es.toList.map tx).Nodup ∧ (∀ x, T x = true ↔ x ∈ es.toList.map tx) ∧ es.size < scanBound ∧ t.fits es.size = true ∧
    es.size = n ∧ Ris t.place.toList ∧ (w.params.followText "set-order" = true ∨ t.led = true)
section
variable {P : Program} {w : World} {h h' : Heap} {a : Addr} {T : Str → Bool} {n : Nat}
theorem SetX.keep (R : SetX P w h a T n) (k : ∀ o, h.get? a = some o → h'.get? a = some o) : SetX P w h' a T n := by
  obtain ⟨o, es, ep, t, ho, r⟩ := R
  exact ⟨o, es, ep, t, k o ho, r⟩
theorem SetX.alike {T' : Str → Bool} (R : SetX P w h a T n) (e : ∀ k, T' k = T k) : SetX P w h a T' n := by
  rw [show T' = T from funext e]; exact R
end
end Vm.SX
namespace Vm
open PySem L2
end Vm
namespace Vm.DM
open PySem PySem.Spec PyProof.Rows L2
/-- a mapping taken in, within a display -/
def take (d : Addr) (m : Value) : Sem Unit :=
  (((holding [.ref d, m] (mergeMapping d m false)).onRaise fun x => do let _ ← holding [.ref d, m, x] (runValue (.builtin "proto.let_go" {}))).tryCatch fun e => do
        if ← isInstance e (.type "AttributeError") then
          rule "dict.display.not-a-mapping"; raiseError "TypeError" s!"'{← typeNameOf m}' object is not a mapping"
        throw e).onRaise fun x => do let _ ← holding [.ref d, x] (runValue (.builtin "proto.let_go" {}))
end Vm.DM
namespace Vm
open PySem L2
section
variable {X : Cx} {Z : Zz} {P : Pg} {Φ : Nat → List D → Sto → Res} {W : WX}
variable {H H' : Hp} {μ μ' : Mu} {S S' : Sto} {σ : Sl} {τ : St} {Q : VK}
variable {a b : Expr} {ca cb : C} {pos p : Pos}
/-- an expression that only looks -/
def Looks (P : Pg) (Φ : Nat → List D → Sto → Res) (c : C) : Prop := ∀ σ S, (∃ d, ev P Φ c [] σ S = .val [d] S) ∨ ev P Φ c [] σ S = .bad
end
end Vm
namespace Vm
open PySem L2
end Vm
namespace Vm.LT
open PySem PySem.Spec PyProof.Rows Sem
section
variable {M : Model} {prog : Program} {w : World} {A : Around} {E : Value → Shared → Prop} {s : Shared} {a : Addr} {x : Value} {l : List Value} {n na : Nat} {o oa : Obj} {ts : List Str} {b : Nat}
theorem head_any {Q : PySem.Fin → Shared → Prop} (hget : s.heap.get? a = some o) (hd : o.data = .seq (x :: l).toArray n)
    (h0 : ∀ u tk, Q (.done (.ret (.str "[...]" u))) { s with toks := tk })
    (h : wpAny M A (do again (.builtin "list.__repr__.loop" ⟨[.ref a, rawInt 0, ← newList [], rawInt b], []⟩)) Q E s) : wpAny M A (Builtin.listReprAt b ⟨[.ref a], []⟩) Q E s := by
  intro Γ p hΓ
  have h1 := h Γ p hΓ
  have h2 : wpAny M A (do rule "list.__repr__.in-itself"; retStr "[...]") Q E s := by
    refine wpAny_bind (wpAny_rule ?_)
    refine wpAny_bind (wpAny_mkStr (wpAny_pure ?_) (by decide +kernel))
    exact h0 _ _
  have h3 := h2 Γ p hΓ
  unfold Builtin.listReprAt
  simp [slotArgs, Builtin.List.listItems, seqItems?, wp_load_of (h := hget), hd, PySem.stack]
  show wp M Γ (if (Γ.below.any _) = true then _ else _) _ _ p s
  split
  · exact h3
  · exact h1
theorem fin_any {R : Result → Shared → Prop} (ha : s.heap.get? a = some oa) (hda : oa.data = .seq (x :: l).toArray na) (hlen : ts.length = (x :: l).toArray.size)
    (hT : ∀ (i : Nat) (y : Value), (x :: l).toArray[i]? = some y → ∃ t, ts[i]? = some t ∧ ReprIs prog w y t)
    (hR : ∀ (m : Str) h' u tk, (∀ b o, s.heap.get? b = some o → h'.get? b = some o) → R (.ok (.ret (.str m u))) { s with heap := h', toks := tk })
    (hsz : b + (listText ts).length ≤ sizeLine) :
    wpAny (model prog w) A.in1 (Builtin.listReprAt b ⟨[.ref a], []⟩)
      (fun fin s' => match fin with | .done f => R (.ok f) s' | .again c' => c'.quiet = true ∧ codeAny (model prog w) A c' R s') (fun e s' => R (.error e) s') s := by
  refine head_any (A := A.in1) ha hda (fun u tk => hR "[...]" s.heap u tk fun _ _ z => z) ?_
  refine wpAny_bind (m := newList []) (wpAny_newObj_type ?_)
  refine wpAny_pure ⟨F.quiet_list_repr_loop _, ?_⟩
  refine codeAny_list_repr_start (P := s.heap.objs.size) (Nat.ne_of_lt (Heap.lt_size ha)) hlen hT (Heap.get?_push_of_some _ ha) hda (Heap.get?_push_size _ rfl) (fun h' u tk hk => ?_) hsz
  exact hR _ h' u tk fun b o e => hk b o (Nat.ne_of_lt (Heap.lt_size e)) (Heap.get?_push_of_some _ e)
/-- list.__repr__, whatever is under way -/
theorem repr_any {Q : Value → Shared → Prop} {xs : List Value} (hTy : s.TypeIs (.ref a) "list") (ha : s.heap.get? a = some oa) (hda : oa.data = .seq xs.toArray na) (hlen : ts.length = xs.length)
    (hT : ∀ (i : Nat) (y : Value), xs[i]? = some y → ∃ t, ts[i]? = some t ∧ ReprIs prog w y t)
    (hQ : ∀ (m : Str) h' u tk, (∀ b o, s.heap.get? b = some o → h'.get? b = some o) → Q (.str m u) { s with heap := h', toks := tk })
    (hsz : (listText ts).length ≤ sizeLine) :
    wpAny (model prog w) A (call (.builtin "list.__repr__") [.ref a]) Q E s := by
  cases xs with
  | nil => exact call_list_repr_empty hTy ha hda (hQ "[]" s.heap _ _ fun _ _ z => z)
  | cons x l =>
    exact wpAny_call (codeAny_call_builtin F.slot_list_repr.plain F.entry_list_repr (F.slot_list_repr.check _ _ _ _ _ _ _ _ hTy (F.args_list_repr_1 _)
      (fin_any (b := 0) (R := fun r s' => match r with | .ok (.ret v) => Q v s' | .ok _ => False | .error e => E e s') ha hda (by simpa using hlen) (fun i y e => hT i y (by simpa using e)) hQ (by omega))))
/-- str(l) -/
theorem str_any {Q : Value → Shared → Prop} {xs : List Value} (hu : A.units + 4 < cLine) (ha : s.heap.get? a = some oa) (hc : oa.cls = .type "list") (hda : oa.data = .seq xs.toArray na) (hlen : ts.length = xs.length)
    (hT : ∀ (prog : Program) (w : World) (i : Nat) (y : Value), xs[i]? = some y → ∃ t, ts[i]? = some t ∧ ReprIs prog w y t)
    (hQ : ∀ (m : Str) h' u tk, (∀ b o, s.heap.get? b = some o → h'.get? b = some o) → Q (.str m u) { s with heap := h', toks := tk })
    (hsz : (listText ts).length ≤ sizeLine) :
    wpAny (model prog w) A (call (.type "str") [.ref a]) Q E s :=
  callType_new F.called_str (by decide) (F.typeCall_str_1 _) (F.newCall_str_1 _) (fun obj => F.args_object_init_2 obj _) F.entry_str_new
    (meets_str_new (S := fun A' R s' => A'.units + 3 < cLine ∧ s'.heap.get? a = some oa ∧
        ∀ (m : Str) h' u tk, (∀ b o, s'.heap.get? b = some o → h'.get? b = some o) → R (.ok (.ret (.str m u))) { s' with heap := h', toks := tk })
      fun prog' w' A' R s' h => wpAny_strOf_slot rfl (by show A'.units + 1 + 1 < cLine; have := h.1; omega) ⟨oa, h.2.1, hc⟩ F.slot_list_str F.slot_list_repr.toG
        (repr_any ⟨oa, h.2.1, hc⟩ h.2.1 hda hlen (hT prog' w') (fun m h' u tk hk => ⟨_, _, rfl, h.2.2 m h' u tk hk⟩) hsz))
    ⟨by show A.units + 1 + 3 < cLine; omega, ha, fun m h' u tk hk => ⟨typeIs_str _ _ _, hQ m h' u tk hk⟩⟩
end
end Vm.LT
namespace Vm.LT
open PySem PySem.Spec PyProof.Rows L2
section
variable {X : Cx}
theorem ints_at : ∀ {ns : List Int} {us : List Value}, Vals (ns.map V.int) us → us.length = ns.length ∧ ∀ (i : Nat) (y : Value), us[i]? = some y → ∃ (n : Int) (t : Tok), ns[i]? = some n ∧ y = .int n t
  | [], us, r => by
    cases r
    exact ⟨rfl, fun i y e => by simp at e⟩
  | n :: ns, us, r => by
    cases r with
    | cons h t =>
      obtain ⟨u, rfl⟩ := h
      obtain ⟨g1, g2⟩ := ints_at t
      refine ⟨by rw [List.length_cons, List.length_cons, g1], fun i y e => ?_⟩
      cases i with
      | zero =>
        have e : _ = y := Option.some.inj e
        subst e
        exact ⟨n, u, rfl, rfl⟩
      | succ i => exact g2 i y (by simpa using e)
/-- str(l), l a list of numbers: some text -/
theorem call_str_ints {k : Nat} (hr : Room k X.A) : CallR X (.type "str") (fun xs H Q => ∃ (a : Addr) (ns : List Int), xs = [.ref a] ∧ SqL X.K H a (ns.map V.int) ∧ (∀ i ∈ ns, i.natAbs.log2 < 1920) ∧ (listText (ns.map fun i => (toString i : Str))).length ≤ sizeLine ∧ ∀ m : Str, Q (.str m) H) := by
  intro pins s σ H xs us Q I r h
  obtain ⟨a, ns, rfl, hq, hi, hz, q⟩ := h
  obtain ⟨u, rfl, rx⟩ := vals1 r
  cases rx
  obtain ⟨its, rv, ⟨o, n, ho, hc, hd, hdat⟩, _⟩ := I.list hq
  obtain ⟨g1, g2⟩ := ints_at rv
  have hu := hr.units
  refine str_any (xs := its) (ts := ns.map fun i => (toString i : Str)) (by omega) ho hc (na := n) hdat (by rw [List.length_map, g1]) (fun prog w i y e => ?_) (fun m h' u tk hk => ⟨.str m, H, I.kept hk, ⟨u, rfl⟩, q m⟩) hz
  obtain ⟨v, t, e1, rfl⟩ := g2 i y e
  exact ⟨_, by rw [List.getElem?_map, e1]; rfl, ReprIs.int t (hi v (List.mem_of_getElem? e1))⟩
end
end Vm.LT
namespace Vm.LT
open PySem PySem.Spec PyProof.Rows L2
theorem lt_len {ts : List Str} (h : ∀ t ∈ ts, t.length ≤ 30) : (listText ts).length ≤ 40 * ts.length + 10 := by
  have hp : (ts.map (·.length)).sum ≤ 30 * ts.length := by
    induction ts with
    | nil => exact Nat.le_refl _
    | cons t ts ih =>
      have h1 := h t List.mem_cons_self
      have h2 := ih fun z hz => h z (List.mem_cons_of_mem _ hz)
      rw [List.map_cons, List.sum_cons, List.length_cons]
      omega
  have h2 := textFrom_len_le ts 0 "["
  have e1 : ((("[" : String) : Str)).length = 1 := rfl
  have e2 : ((("]" : String) : Str)).length = 1 := rfl
  unfold listText
  rw [strLen_append]
  omega
end Vm.LT
namespace Vm
open PySem L2
section
variable {X : Cx} {Z : Zz} {P : Pg} {Φ : Nat → List D → Sto → Res} {W : WX}
variable {H H' : Hp} {μ μ' : Mu} {S S' : Sto} {σ : Sl} {τ : St} {Q : VK}
variable {a : Expr} {ca : C} {pos p : Pos}
theorem small_int {i : Int} (h : i.natAbs < 18446744073709551616) : i.natAbs.log2 < 1920 ∧ (PySem.Str.ofString (toString i)).length ≤ 30 := by
  have h2 : i.natAbs.log2 < 1920 := log2_of (Nat.lt_of_lt_of_le h (by decide +kernel))
  refine ⟨h2, ?_⟩
  have := PySem.int_text_length_le10 (a := i) (k := 20) (by decide) (Nat.lt_of_lt_of_le h (by decide +kernel))
  have e : (PySem.Str.ofString (toString i)).length = (toString i).length := by
    rw [str_int]
    simp [PySem.Str.length, digs]
    first | rfl | exact String.length_toList | exact (String.length_toList _) | simp [String.length]
  omega
/-- str(l), l a list of numbers -/
theorem v_tou {k : Nat} (hZ : X.K = Z.K) (hr : Room k X.A) (hg : Gl X "str") (hm : X.mg "str" = none) (ha : PE X a (rdE Z P Φ W ca))
    (he : starEach [a] X.env = (false, eval a X.env) :: starEach [] X.env := by rfl) :
    PE X (.Call (.Name "str" p) [a] [] pos) (rdE Z P Φ W (.tou ca)) := by
  refine PE.imp (pe_callTy (LT.call_str_ints hr) hg hm (by decide +kernel) (pa_cons ha pa_nil he) (by decide) (by decide) he rfl) ?_
  rintro τ H Q ⟨μ, σ, S, R, L, h⟩
  simp only [ev] at h
  refine stepE R L h _ (fun _ _ _ _ _ _ _ z => z) fun d S1 μ1 H1 v e1 R1 L1 hv h1 => ?_
  cases q : S1.lv d with
  | none => rw [q] at h1; exact h1.bad
  | some xs =>
    rw [q] at h1
    dsimp only [Option.bind] at h1
    cases q2 : intsOf xs with
    | none => rw [q2] at h1; exact h1.bad
    | some ns =>
      rw [q2] at h1
      dsimp only at h1
      split at h1
      · rename_i hk
        obtain ⟨hk1, hk2⟩ := hk
        rw [List.all_eq_true] at hk2
        obtain ⟨u, vs, rfl, g1, g2, g3⟩ := R1.lv q hv
        have e3 := intsOf_ok q2 g2
        rw [e3] at g1
        have sm : ∀ i ∈ ns, i.natAbs < 18446744073709551616 := fun i hi => of_decide_eq_true (hk2 i hi)
        refine ⟨u, ns, rfl, .inl (.inl g1), fun i hi => (small_int (sm i hi)).1, ?_, fun m => ?_⟩
        · have := LT.lt_len (ts := ns.map fun i => (toString i : PySem.Str)) fun t ht => by
            obtain ⟨i, hi, rfl⟩ := List.mem_map.mp ht
            exact (small_int (sm i hi)).2
          rw [List.length_map] at this
          rw [sizeLine_eq]
          omega
        · refine Want.dE' (d := .unk) h1 .refl R1 ?_
          simp only [DV]
          exact ⟨m, rfl⟩
      · exact h1.bad
end
end Vm
namespace Vm.k02
open Vm
abbrev s_is_integer_0 : C := (.ret (.andv (.isb .int (.var 0)) (.notv (.isb .bool (.var 0)))))
abbrev c_is_integer : C := s_is_integer_0
def f_is_integer : Fn := ⟨1, 1, c_is_integer⟩
abbrev s_is_day_0 : C := (.ret (.andv (.cal 104 (.acons (.var 0) .anil)) (.chn .LtE .LtE (.kon (.int 0)) (.var 0) (.gl 13))))
abbrev c_is_day : C := s_is_day_0
def f_is_day : Fn := ⟨1, 1, c_is_day⟩
abbrev s_pieces_of_0 : C := (.asg (.gn 1) (.lst .anil))
abbrev s_pieces_of_1 : C := (.asg (.gn 2) (.kon (.int 0)))
abbrev s_pieces_of_2_0 : C := (.asg (.gn 3) (.var 2))
abbrev s_pieces_of_2_1_0 : C := (.asg (.gn 3) (.bin .Add (.var 3) (.kon (.int 1))))
abbrev s_pieces_of_2_1 : C := (.whl (.andv (.cmp .Lt (.bin .Add (.var 3) (.kon (.int 1))) (.blt .len (.acons (.var 0) .anil))) (.cmp .Eq (.idx (.var 0) (.bin .Add (.var 3) (.kon (.int 1)))) (.bin .Add (.idx (.var 0) (.var 3)) (.kon (.int 1))))) s_pieces_of_2_1_0)
abbrev s_pieces_of_2_2 : C := (.exp (.btm .append (.var 1) (.acons (.ite (.cmp .Gt (.var 3) (.var 2)) (.fst (.acons (.tos (.idx (.var 0) (.var 2))) (.acons (.kon (.str [46, 46])) (.acons (.tos (.idx (.var 0) (.var 3))) .anil)))) (.tos (.idx (.var 0) (.var 2)))) .anil)))
abbrev s_pieces_of_2_3 : C := (.asg (.gn 2) (.bin .Add (.var 3) (.kon (.int 1))))
abbrev s_pieces_of_2 : C := (.whl (.cmp .Lt (.var 2) (.blt .len (.acons (.var 0) .anil))) (.seq s_pieces_of_2_0 (.seq s_pieces_of_2_1 (.seq s_pieces_of_2_2 s_pieces_of_2_3))))
abbrev s_pieces_of_3 : C := (.ret (.var 1))
abbrev c_pieces_of : C := (.seq s_pieces_of_0 (.seq s_pieces_of_1 (.seq s_pieces_of_2 s_pieces_of_3)))
def f_pieces_of : Fn := ⟨1, 4, c_pieces_of⟩
abbrev s_Days___init___0_0a_0 : C := (.rse 11 (.acons (.var 2) .anil))
abbrev s_Days___init___0_0 : C := (.iff (.notv (.cal 103 (.acons (.var 3) .anil))) s_Days___init___0_0a_0 .nop)
abbrev s_Days___init___0 : C := (.forr (.gt (.gcons (.gn 2) (.gcons (.gn 3) .gnil))) (.enu (.var 1)) s_Days___init___0_0)
abbrev s_Days___init___1 : C := (.asg (.gn 4) (.frz (.blt .sortedd (.acons (.dcm [3] (.gn 3) (.wkp (.var 1)) (.kon (.bl true)) (.var 3) (.kon (.bl true))) .anil))))
abbrev s_Days___init___2a_0 : C := (.rse 12 (.acons (.kon (.str [100, 97, 121, 115])) .anil))
abbrev s_Days___init___2 : C := (.iff (.cmp .Gt (.blt .len (.acons (.var 4) .anil)) (.gl 12)) s_Days___init___2a_0 .nop)
abbrev s_Days___init___3 : C := (.asg (.ga 29 (.var 0)) (.frz (.blt .tuple (.acons (.var 4) .anil))))
abbrev c_Days___init__ : C := (.seq s_Days___init___0 (.seq s_Days___init___1 (.seq s_Days___init___2 s_Days___init___3)))
def f_Days___init__ : Fn := ⟨2, 5, c_Days___init__⟩
abbrev s_Days_listed_0 : C := (.ret (.blt .list (.acons (.att 29 (.var 0)) .anil)))
abbrev c_Days_listed : C := s_Days_listed_0
def f_Days_listed : Fn := ⟨1, 1, c_Days_listed⟩
abbrev s_Days_from_day_0_0a_0 : C := (.ret (.var 2))
abbrev s_Days_from_day_0_0 : C := (.iff (.cmp .GtE (.var 2) (.var 1)) s_Days_from_day_0_0a_0 .nop)
abbrev s_Days_from_day_0 : C := (.forr (.gn 2) (.wkp (.att 29 (.var 0))) s_Days_from_day_0_0)
abbrev s_Days_from_day_1 : C := (.ret (.kon .non))
abbrev c_Days_from_day : C := (.seq s_Days_from_day_0 s_Days_from_day_1)
def f_Days_from_day : Fn := ⟨2, 3, c_Days_from_day⟩
abbrev s_Days___len___0 : C := (.ret (.blt .len (.acons (.att 29 (.var 0)) .anil)))
abbrev c_Days___len__ : C := s_Days___len___0
def f_Days___len__ : Fn := ⟨1, 1, c_Days___len__⟩
abbrev s_Days___contains___0 : C := (.ret (.andv (.cal 103 (.acons (.var 1) .anil)) (.cmp .In (.var 1) (.att 29 (.var 0)))))
abbrev c_Days___contains__ : C := s_Days___contains___0
def f_Days___contains__ : Fn := ⟨2, 2, c_Days___contains__⟩
abbrev s_Days___eq___0 : C := (.ret (.andv (.iso 10 (.var 1)) (.cmp .Eq (.att 29 (.var 0)) (.att 29 (.var 1)))))
abbrev c_Days___eq__ : C := s_Days___eq___0
def f_Days___eq__ : Fn := ⟨2, 2, c_Days___eq__⟩
abbrev s_Days___str___0 : C := (.ret (.btm .join (.kon (.str [44, 32])) (.acons (.frz (.cal 141 (.acons (.att 29 (.var 0)) .anil))) .anil)))
abbrev c_Days___str__ : C := s_Days___str___0
def f_Days___str__ : Fn := ⟨1, 1, c_Days___str__⟩
abbrev s_Days___repr___0 : C := (.asg (.gn 1) (.btm .join (.kon (.str [44, 32])) (.acons (.frz (.lc [2] (.gn 2) (.wkp (.att 29 (.var 0))) (.kon (.bl true)) (.tos (.var 2)))) .anil)))
abbrev s_Days___repr___1 : C := (.ret (.fst (.acons (.kon (.str [68, 97, 121, 115, 40])) (.acons (.tos (.var 1)) (.acons (.kon (.str [41])) .anil)))))
abbrev c_Days___repr__ : C := (.seq s_Days___repr___0 s_Days___repr___1)
def f_Days___repr__ : Fn := ⟨1, 3, c_Days___repr__⟩
abbrev s__law_bag_0 : C := (.asg (.gn 2) (.ite (.cmp .Lt (.var 1) (.blt .len (.acons (.var 0) .anil))) (.idx (.var 0) (.var 1)) (.kon (.int 0))))
abbrev s__law_bag_1 : C := (.asg (.gn 3) (.bin .Add (.bin .Mult (.kon (.int 5171)) (.var 1)) (.kon (.int 263))))
abbrev s__law_bag_2_0 : C := (.asg (.gn 3) (.bin .Mod (.blt .int (.acons (.bin .Add (.bin .Add (.bin .Add (.bin .Mult (.var 3) (.kon (.int 48271))) (.bin .Mod (.blt .int (.acons (.var 5) .anil)) (.kon (.int 2147483587)))) (.bin .Mult (.kon (.int 37)) (.var 4))) (.kon (.int 11))) .anil)) (.kon (.int 2147483629))))
abbrev s__law_bag_2 : C := (.forr (.gt (.gcons (.gn 4) (.gcons (.gn 5) .gnil))) (.enu (.frz (.slc (.var 0) (.kon .non) (.part (.kon (.int 63)))))) s__law_bag_2_0)
abbrev s__law_bag_3 : C := (.ret (.lst (.acons (.ite (.cmp .GtE (.blt .abs (.acons (.var 2) .anil)) (.bin .Pow (.kon (.int 10)) (.kon (.int 18)))) (.blt .abs (.acons (.var 2) .anil)) (.kon (.int 0))) (.acons (.var 3) .anil))))
abbrev c__law_bag : C := (.seq s__law_bag_0 (.seq s__law_bag_1 (.seq s__law_bag_2 s__law_bag_3)))
def f__law_bag : Fn := ⟨2, 6, c__law_bag⟩
abbrev s__law_take_0a_0 : C := (.asg (.gn 2) (.bin .Mod (.blt .int (.acons (.idx (.var 0) (.kon (.int 0))) .anil)) (.var 1)))
abbrev s__law_take_0a_1 : C := (.asg (.gi (.var 0) (.kon (.int 0))) (.bin .FloorDiv (.idx (.var 0) (.kon (.int 0))) (.var 1)))
abbrev s__law_take_0a_2 : C := (.ret (.var 2))
abbrev s__law_take_0 : C := (.iff (.cmp .Gt (.idx (.var 0) (.kon (.int 0))) (.kon (.int 0))) (.seq s__law_take_0a_0 (.seq s__law_take_0a_1 s__law_take_0a_2)) .nop)
abbrev s__law_take_1 : C := (.asg (.gi (.var 0) (.kon (.int 1))) (.bin .Mod (.blt .int (.acons (.bin .Add (.bin .Mult (.idx (.var 0) (.kon (.int 1))) (.kon (.int 40692))) (.kon (.int 7919))) .anil)) (.kon (.int 2147483563))))
abbrev s__law_take_2 : C := (.ret (.bin .Mod (.bin .FloorDiv (.bin .Mod (.blt .int (.acons (.bin .Mult (.bin .FloorDiv (.idx (.var 0) (.kon (.int 1))) (.kon (.int 13))) (.kon (.int 52837))) .anil)) (.kon (.int 2147483549))) (.kon (.int 32))) (.var 1)))
abbrev c__law_take : C := (.seq s__law_take_0 (.seq s__law_take_1 s__law_take_2))
def f__law_take : Fn := ⟨2, 3, c__law_take⟩
abbrev s__law_of_0 : C := (.ret (.idx (.var 1) (.cal 59 (.acons (.var 0) (.acons (.blt .len (.acons (.var 1) .anil)) .anil)))))
abbrev c__law_of : C := s__law_of_0
def f__law_of : Fn := ⟨2, 2, c__law_of⟩
abbrev s__law_day_0 : C := (.asg (.gn 1) (.cal 59 (.acons (.var 0) (.acons (.kon (.int 5)) .anil))))
abbrev s__law_day_1a_0 : C := (.ret (.cal 59 (.acons (.var 0) (.acons (.kon (.int 12)) .anil))))
abbrev s__law_day_1 : C := (.iff (.cmp .Eq (.var 1) (.kon (.int 0))) s__law_day_1a_0 .nop)
abbrev s__law_day_2a_0 : C := (.ret (.bin .Sub (.bin .Pow (.kon (.int 10)) (.kon (.int 12))) (.cal 59 (.acons (.var 0) (.acons (.kon (.int 12)) .anil)))))
abbrev s__law_day_2 : C := (.iff (.cmp .Eq (.var 1) (.kon (.int 1))) s__law_day_2a_0 .nop)
abbrev s__law_day_3a_0 : C := (.ret (.cal 59 (.acons (.var 0) (.acons (.kon (.int 500)) .anil))))
abbrev s__law_day_3 : C := (.iff (.cmp .Eq (.var 1) (.kon (.int 2))) s__law_day_3a_0 .nop)
abbrev s__law_day_4 : C := (.ret (.bin .Add (.bin .Mult (.cal 59 (.acons (.var 0) (.acons (.bin .Pow (.kon (.int 10)) (.kon (.int 6))) .anil))) (.bin .Pow (.kon (.int 10)) (.kon (.int 6)))) (.cal 59 (.acons (.var 0) (.acons (.bin .Pow (.kon (.int 10)) (.kon (.int 6))) .anil)))))
abbrev c__law_day : C := (.seq s__law_day_0 (.seq s__law_day_1 (.seq s__law_day_2 (.seq s__law_day_3 s__law_day_4))))
def f__law_day : Fn := ⟨1, 2, c__law_day⟩
abbrev s__law_some_0 : C := (.asg (.gn 1) (.lst .anil))
abbrev s__law_some_1_0 : C := (.asg (.gn 3) (.cal 96 (.acons (.var 0) .anil)))
abbrev s__law_some_1_1a_0 : C := (.asg (.gn 3) (.blt .min (.acons (.bin .Pow (.kon (.int 10)) (.kon (.int 12))) (.acons (.bin .Add (.cal 4 (.acons (.var 0) (.acons (.var 1) .anil))) (.cal 59 (.acons (.var 0) (.acons (.kon (.int 3)) .anil)))) .anil))))
abbrev s__law_some_1_1 : C := (.iff (.andv (.cmp .NotEq (.var 1) (.frz (.lst .anil))) (.cmp .Eq (.cal 59 (.acons (.var 0) (.acons (.kon (.int 2)) .anil))) (.kon (.int 0)))) s__law_some_1_1a_0 .nop)
abbrev s__law_some_1_2 : C := (.exp (.btm .append (.var 1) (.acons (.var 3) .anil)))
abbrev s__law_some_1 : C := (.forr (.gn 2) (.rng1 (.cal 59 (.acons (.var 0) (.acons (.kon (.int 7)) .anil)))) (.seq s__law_some_1_0 (.seq s__law_some_1_1 s__law_some_1_2)))
abbrev s__law_some_2 : C := (.ret (.var 1))
abbrev c__law_some : C := (.seq s__law_some_0 (.seq s__law_some_1 s__law_some_2))
def f__law_some : Fn := ⟨1, 4, c__law_some⟩
abbrev s__law_made_0a_0 : C := (.ret (.frz (.newv 10 101 0 (.kon (.cls 10)) .anil)))
abbrev s__law_made_0 : C := (.iff (.cmp .Eq (.blt .len (.acons (.var 0) .anil)) (.kon (.int 0))) s__law_made_0a_0 .nop)
abbrev s__law_made_1a_0 : C := (.ret (.frz (.newv 10 101 0 (.kon (.cls 10)) (.acons (.idx (.var 0) (.kon (.int 0))) .anil))))
abbrev s__law_made_1 : C := (.iff (.cmp .Eq (.blt .len (.acons (.var 0) .anil)) (.kon (.int 1))) s__law_made_1a_0 .nop)
abbrev s__law_made_2a_0 : C := (.ret (.frz (.newv 10 101 0 (.kon (.cls 10)) (.acons (.idx (.var 0) (.kon (.int 0))) (.acons (.idx (.var 0) (.kon (.int 1))) .anil)))))
abbrev s__law_made_2 : C := (.iff (.cmp .Eq (.blt .len (.acons (.var 0) .anil)) (.kon (.int 2))) s__law_made_2a_0 .nop)
abbrev s__law_made_3a_0 : C := (.ret (.frz (.newv 10 101 0 (.kon (.cls 10)) (.acons (.idx (.var 0) (.kon (.int 0))) (.acons (.idx (.var 0) (.kon (.int 1))) (.acons (.idx (.var 0) (.kon (.int 2))) .anil))))))
abbrev s__law_made_3 : C := (.iff (.cmp .Eq (.blt .len (.acons (.var 0) .anil)) (.kon (.int 3))) s__law_made_3a_0 .nop)
abbrev s__law_made_4a_0 : C := (.ret (.frz (.newv 10 101 0 (.kon (.cls 10)) (.acons (.idx (.var 0) (.kon (.int 0))) (.acons (.idx (.var 0) (.kon (.int 1))) (.acons (.idx (.var 0) (.kon (.int 2))) (.acons (.idx (.var 0) (.kon (.int 3))) .anil)))))))
abbrev s__law_made_4 : C := (.iff (.cmp .Eq (.blt .len (.acons (.var 0) .anil)) (.kon (.int 4))) s__law_made_4a_0 .nop)
abbrev s__law_made_5a_0 : C := (.ret (.frz (.newv 10 101 0 (.kon (.cls 10)) (.acons (.idx (.var 0) (.kon (.int 0))) (.acons (.idx (.var 0) (.kon (.int 1))) (.acons (.idx (.var 0) (.kon (.int 2))) (.acons (.idx (.var 0) (.kon (.int 3))) (.acons (.idx (.var 0) (.kon (.int 4))) .anil))))))))
abbrev s__law_made_5 : C := (.iff (.cmp .Eq (.blt .len (.acons (.var 0) .anil)) (.kon (.int 5))) s__law_made_5a_0 .nop)
abbrev s__law_made_6 : C := (.ret (.frz (.newv 10 101 0 (.kon (.cls 10)) (.acons (.idx (.var 0) (.kon (.int 0))) (.acons (.idx (.var 0) (.kon (.int 1))) (.acons (.idx (.var 0) (.kon (.int 2))) (.acons (.idx (.var 0) (.kon (.int 3))) (.acons (.idx (.var 0) (.kon (.int 4))) (.acons (.idx (.var 0) (.kon (.int 5))) .anil)))))))))
abbrev c__law_made : C := (.seq s__law_made_0 (.seq s__law_made_1 (.seq s__law_made_2 (.seq s__law_made_3 (.seq s__law_made_4 (.seq s__law_made_5 s__law_made_6))))))
def f__law_made : Fn := ⟨1, 1, c__law_made⟩
abbrev s__law_written_0 : C := (.asg (.gt (.gcons (.gn 1) (.gcons (.gn 2) .gnil))) (.tup (.acons (.lst .anil) (.acons (.kon (.int 0)) .anil))))
abbrev s__law_written_1_0a_0 : C := (.asg (.gn 4) (.var 2))
abbrev s__law_written_1_0a_1_0a_0 : C := (.asg (.gn 4) (.var 5))
abbrev s__law_written_1_0a_1_0 : C := (.iff (.cmp .Eq (.idx (.var 0) (.var 5)) (.bin .Sub (.bin .Add (.idx (.var 0) (.var 2)) (.var 5)) (.var 2))) s__law_written_1_0a_1_0a_0 .nop)
abbrev s__law_written_1_0a_1 : C := (.forr (.gn 5) (.rng2 (.bin .Add (.var 2) (.kon (.int 1))) (.blt .len (.acons (.var 0) .anil))) s__law_written_1_0a_1_0)
abbrev s__law_written_1_0a_2 : C := (.exp (.btm .append (.var 1) (.acons (.ite (.cmp .Eq (.var 4) (.var 2)) (.tos (.idx (.var 0) (.var 2))) (.bin .Add (.bin .Add (.tos (.idx (.var 0) (.var 2))) (.kon (.str [46, 46]))) (.tos (.idx (.var 0) (.var 4))))) .anil)))
abbrev s__law_written_1_0a_3 : C := (.asg (.gn 2) (.bin .Add (.var 4) (.kon (.int 1))))
abbrev s__law_written_1_0 : C := (.iff (.cmp .Lt (.var 2) (.blt .len (.acons (.var 0) .anil))) (.seq s__law_written_1_0a_0 (.seq s__law_written_1_0a_1 (.seq s__law_written_1_0a_2 s__law_written_1_0a_3))) .nop)
abbrev s__law_written_1 : C := (.forr (.gn 3) (.rng1 (.blt .len (.acons (.var 0) .anil))) s__law_written_1_0)
abbrev s__law_written_2 : C := (.ret (.btm .join (.kon (.str [44, 32])) (.acons (.var 1) .anil)))
abbrev c__law_written : C := (.seq s__law_written_0 (.seq s__law_written_1 s__law_written_2))
def f__law_written : Fn := ⟨1, 6, c__law_written⟩
abbrev s__law_is_list_0a_0 : C := (.ret (.kon (.bl false)))
abbrev s__law_is_list_0 : C := (.iff (.orv (.notv (.isb .list (.var 0))) (.cmp .NotEq (.var 0) (.var 1))) s__law_is_list_0a_0 .nop)
abbrev s__law_is_list_1 : C := (.ret (.blt .all (.acons (.frz (.lc [2] (.gn 2) (.wkp (.var 0)) (.kon (.bl true)) (.andv (.isb .int (.var 2)) (.notv (.isb .bool (.var 2)))))) .anil)))
abbrev c__law_is_list : C := (.seq s__law_is_list_0 s__law_is_list_1)
def f__law_is_list : Fn := ⟨2, 3, c__law_is_list⟩
abbrev s__law_from_0 : C := (.asg (.gn 2) (.frz (.lc [3] (.gn 3) (.wkp (.var 0)) (.cmp .GtE (.var 3) (.var 1)) (.var 3))))
abbrev s__law_from_1 : C := (.ret (.ite (.cmp .NotEq (.var 2) (.frz (.lst .anil))) (.idx (.var 2) (.kon (.int 0))) (.kon .non)))
abbrev c__law_from : C := (.seq s__law_from_0 s__law_from_1)
def f__law_from : Fn := ⟨2, 4, c__law_from⟩
abbrev s__law_asked_0 : C := (.asg (.gn 3) (.mth 10 30 105 (.var 0) .anil))
abbrev s__law_asked_1a_0 : C := (.ret (.kon (.bl false)))
abbrev s__law_asked_1 : C := (.iff (.orv (.notv (.cal 137 (.acons (.var 3) (.acons (.var 1) .anil)))) (.notv (.cal 137 (.acons (.frz (.lsg 10 32 29 (.var 0))) (.acons (.var 1) .anil))))) s__law_asked_1a_0 .nop)
abbrev s__law_asked_2 : C := (.exp (.btm .append (.var 3) (.acons (.kon (.int 5)) .anil)))
abbrev s__law_asked_3a_0 : C := (.ret (.kon (.bl false)))
abbrev s__law_asked_3 : C := (.iff (.orv (.notv (.cal 137 (.acons (.frz (.mth 10 30 105 (.var 0) .anil)) (.acons (.var 1) .anil)))) (.cmp .NotEq (.own .len 10 125 (.acons (.var 0) .anil)) (.blt .len (.acons (.var 1) .anil)))) s__law_asked_3a_0 .nop)
abbrev s__law_asked_4_0 : C := (.asg (.gn 5) (.mth 10 27 100 (.var 0) (.acons (.var 4) .anil)))
abbrev s__law_asked_4_1a_0 : C := (.ret (.kon (.bl false)))
abbrev s__law_asked_4_1 : C := (.iff (.orv (.cmp .NotEq (.own .cont 10 127 (.acons (.var 4) (.acons (.var 0) .anil))) (.cmp .In (.var 4) (.var 1))) (.orv (.cmp .NotEq (.var 5) (.cal 138 (.acons (.var 1) (.acons (.var 4) .anil)))) (.isb .bool (.var 5)))) s__law_asked_4_1a_0 .nop)
abbrev s__law_asked_4 : C := (.forr (.gn 4) (.wkp (.var 2)) (.seq s__law_asked_4_0 s__law_asked_4_1))
abbrev s__law_asked_5_0a_0 : C := (.ret (.kon (.bl false)))
abbrev s__law_asked_5_0 : C := (.iff (.cmp .IsNot (.own .cont 10 127 (.acons (.var 6) (.acons (.var 0) .anil))) (.kon (.bl false))) s__law_asked_5_0a_0 .nop)
abbrev s__law_asked_5 : C := (.forr (.gn 6) (.wkp (.frz (.lst (.acons (.kon (.bl true)) (.acons (.kon (.bl false)) (.acons (.kon .non) (.acons (.kon (.str [48])) (.acons (.tou (.var 1)) (.acons (.frz (.lst (.acons (.kon (.int 0)) .anil))) (.acons (.tup (.acons (.kon (.int 1)) .anil)) (.acons (.bin .Add (.bin .Pow (.kon (.int 10)) (.kon (.int 12))) (.kon (.int 1))) (.acons (.neg (.kon (.int 1))) .anil)))))))))))) s__law_asked_5_0)
abbrev s__law_asked_6 : C := (.asg (.gn 7) (.bin .Add (.bin .Add (.kon (.str [68, 97, 121, 115, 40])) (.btm .join (.kon (.str [44, 32])) (.acons (.frz (.lc [4] (.gn 4) (.wkp (.var 1)) (.kon (.bl true)) (.tos (.var 4)))) .anil))) (.kon (.str [41]))))
abbrev s__law_asked_7 : C := (.ret (.andv (.cmp .Eq (.own .str 10 139 (.acons (.var 0) .anil)) (.cal 140 (.acons (.var 1) .anil))) (.cmp .Eq (.own .rep 10 126 (.acons (.var 0) .anil)) (.var 7))))
abbrev c__law_asked : C := (.seq s__law_asked_0 (.seq s__law_asked_1 (.seq s__law_asked_2 (.seq s__law_asked_3 (.seq s__law_asked_4 (.seq s__law_asked_5 (.seq s__law_asked_6 s__law_asked_7)))))))
def f__law_asked : Fn := ⟨3, 8, c__law_asked⟩
abbrev s_law_0a_0 : C := (.ret (.kon (.bl false)))
abbrev s_law_0 : C := (.iff (.orv (.cmp .NotEq (.gl 14) (.kon (.int 400))) (.cmp .NotEq (.gl 15) (.bin .Pow (.kon (.int 10)) (.kon (.int 12))))) s_law_0a_0 .nop)
abbrev s_law_1_0 : C := (.asg (.gn 2) (.cal 2 (.acons (.var 0) (.acons (.var 1) .anil))))
abbrev s_law_1_1 : C := (.asg (.gn 3) (.frz (.cal 135 (.acons (.var 2) .anil))))
abbrev s_law_1_2 : C := (.asg (.gt (.gcons (.gn 5) (.gcons (.gn 6) .gnil))) (.tup (.acons (.frz (.blt .sorteds (.acons (.setv (.var 3)) .anil))) (.acons (.frz (.blt .sorteds (.acons (.setv (.frz (.cal 135 (.acons (.var 2) .anil)))) .anil))) .anil))))
abbrev s_law_1_3 : C := (.asg (.gt (.gcons (.gn 7) (.gcons (.gn 8) (.gcons (.gn 9) .gnil)))) (.tup (.acons (.frz (.cal 19 (.acons (.var 3) .anil))) (.acons (.frz (.cal 19 (.acons (.frz (.rev (.var 3))) .anil))) (.acons (.frz (.cal 19 (.acons (.frz (.slc (.var 5) (.part (.kon (.int 1))) (.kon .non))) .anil))) .anil)))))
abbrev s_law_1_4 : C := (.asg (.gn 4) (.frz (.bin .Add (.frz (.bin .Add (.frz (.bin .Add (.var 3) (.var 6))) (.frz (.lc [10] (.gn 10) (.wkp (.var 3)) (.cmp .Lt (.var 10) (.bin .Pow (.kon (.int 10)) (.kon (.int 12)))) (.bin .Add (.var 10) (.kon (.int 1))))))) (.frz (.lst (.acons (.kon (.int 0)) (.acons (.bin .Pow (.kon (.int 10)) (.kon (.int 12))) .anil)))))))
abbrev s_law_1_5a_0 : C := (.ret (.kon (.bl false)))
abbrev s_law_1_5 : C := (.iff (.orv (.notv (.cal 136 (.acons (.var 7) (.acons (.var 5) (.acons (.var 4) .anil))))) (.notv (.cal 136 (.acons (.var 9) (.acons (.frz (.slc (.var 5) (.part (.kon (.int 1))) (.kon .non))) (.acons (.var 4) .anil)))))) s_law_1_5a_0 .nop)
abbrev s_law_1_6a_0 : C := (.ret (.kon (.bl false)))
abbrev s_law_1_6 : C := (.iff (.orv (.notv (.own .eq 10 102 (.acons (.var 7) (.acons (.var 8) .anil)))) (.orv (.own .ne 10 102 (.acons (.var 7) (.acons (.var 8) .anil))) (.cmp .NotEq (.own .eq 10 102 (.acons (.var 7) (.acons (.var 9) .anil))) (.cmp .Eq (.var 5) (.frz (.lst .anil)))))) s_law_1_6a_0 .nop)
abbrev s_law_1_7a_0 : C := (.ret (.kon (.bl false)))
abbrev s_law_1_7 : C := (.iff (.orv (.cmp .NotEq (.own .eq 10 102 (.acons (.var 7) (.acons (.frz (.cal 19 (.acons (.var 6) .anil))) .anil))) (.cmp .Eq (.var 5) (.var 6))) (.orv (.own .eq 10 102 (.acons (.var 7) (.acons (.var 5) .anil))) (.orv (.own .eq 10 102 (.acons (.var 7) (.acons (.frz (.blt .tuple (.acons (.var 5) .anil))) .anil))) (.cmp .Is (.var 7) (.kon .non))))) s_law_1_7a_0 .nop)
abbrev s_law_1_8a_0 : C := (.ret (.kon (.bl false)))
abbrev s_law_1_8 : C := (.iff (.notv (.cal 136 (.acons (.var 7) (.acons (.var 5) (.acons (.var 4) .anil))))) s_law_1_8a_0 .nop)
abbrev s_law_1 : C := (.forr (.gn 1) (.rng1 (.blt .max (.acons (.kon (.int 1)) (.acons (.blt .min (.acons (.blt .len (.acons (.var 0) .anil)) (.acons (.kon (.int 12)) .anil))) .anil)))) (.seq s_law_1_0 (.seq s_law_1_1 (.seq s_law_1_2 (.seq s_law_1_3 (.seq s_law_1_4 (.seq s_law_1_5 (.seq s_law_1_6 (.seq s_law_1_7 s_law_1_8)))))))))
abbrev s_law_2 : C := (.ret (.kon (.bl true)))
abbrev c_law : C := (.seq s_law_0 (.seq s_law_1 s_law_2))
def f_law : Fn := ⟨1, 11, c_law⟩
def fdL : List (Nat × Nat) := [(10, 29)]
def exL : List (Nat × List Nat) := [(11, [0]), (12, [28])]
def suL : List (Nat × Nat) := []
def pcL : List Nat := [10]
def pg : Pg where
  fn i := match i with
    | 104 => some f_is_integer
    | 103 => some f_is_day
    | 141 => some f_pieces_of
    | 101 => some f_Days___init__
    | 105 => some f_Days_listed
    | 100 => some f_Days_from_day
    | 125 => some f_Days___len__
    | 127 => some f_Days___contains__
    | 102 => some f_Days___eq__
    | 139 => some f_Days___str__
    | 126 => some f_Days___repr__
    | 2 => some f__law_bag
    | 59 => some f__law_take
    | 4 => some f__law_of
    | 96 => some f__law_day
    | 135 => some f__law_some
    | 19 => some f__law_made
    | 140 => some f__law_written
    | 137 => some f__law_is_list
    | 138 => some f__law_from
    | 136 => some f__law_asked
    | 8 => some f_law
    | _ => none
  gl i := match i with
    | 13 => some (.int 1000000000000)
    | 12 => some (.int 400)
    | 15 => some (.int 1000000000000)
    | 14 => some (.int 400)
    | _ => none
  fd c f := inL fdL c f
  exc c := exAt exL c
  sub c d := inL suL c d
  wf := 1000000
  pc c := inN pcL c
end Vm.k02
namespace Vm.k02
open PySem L2 Vm
def top (i : Nat) : Stmt := PySem.Challenge.pw_madeahead_k02_days_made.main.body.getD i (.Pass ⟨0, 0, 0, 0⟩)
def names0 : List Str := ["at", "word", "line", "lines", "ahead", "marks", "key", "skips", "hold", "faces", "possible", "pieces", "condition", "by", "look", "words", "told", "cancelled", "booked", "touched"]
def names1 : List Str := ["text", "day", "origin", "is_plain", "is_home", "implies", "steps", "from_day", "what", "row", "listed", "texts", "each", "is_within", "days", "pairs", "entries"]
def names : List Str := names0 ++ names1
structure Ad where
  a_is_integer : Addr
  d_is_integer : FuncData
  a_is_day : Addr
  d_is_day : FuncData
  a_pieces_of : Addr
  d_pieces_of : FuncData
  a_Days___init__ : Addr
  d_Days___init__ : FuncData
  a_Days_listed : Addr
  d_Days_listed : FuncData
  a_Days_from_day : Addr
  d_Days_from_day : FuncData
  a_Days___len__ : Addr
  d_Days___len__ : FuncData
  a_Days___contains__ : Addr
  d_Days___contains__ : FuncData
  a_Days___eq__ : Addr
  d_Days___eq__ : FuncData
  a_Days___str__ : Addr
  d_Days___str__ : FuncData
  a_Days___repr__ : Addr
  d_Days___repr__ : FuncData
  a__law_bag : Addr
  d__law_bag : FuncData
  a__law_take : Addr
  d__law_take : FuncData
  a__law_of : Addr
  d__law_of : FuncData
  a__law_day : Addr
  d__law_day : FuncData
  a__law_some : Addr
  d__law_some : FuncData
  a__law_made : Addr
  d__law_made : FuncData
  a__law_written : Addr
  d__law_written : FuncData
  a__law_is_list : Addr
  d__law_is_list : FuncData
  a__law_from : Addr
  d__law_from : FuncData
  a__law_asked : Addr
  d__law_asked : FuncData
  a_law : Addr
  d_law : FuncData
  a_BadDays___init__ : Addr
  d_BadDays___init__ : FuncData
  a_TooMany___init__ : Addr
  d_TooMany___init__ : FuncData
  a_Days_each : Addr
  d_Days_each : FuncData
  c_BadDays : Addr
  c_TooMany : Addr
  c_Days : Addr
  wd : World
def caOf (D : Ad) : Nat → Addr
  | 11 => D.c_BadDays
  | 12 => D.c_TooMany
  | 10 => D.c_Days
  | _ => 0
def zz (K : PySem.W.Frag) (D : Ad) : Zz := { K := K, ca := caOf D, nm := nmOf names, wd := D.wd }
abbrev t_is_integer : Stmt := top 16
abbrev p_is_integer : List Str := ["thing"]
abbrev n_is_integer : List Str := ["thing"]
abbrev t_is_day : Stmt := top 17
abbrev p_is_day : List Str := ["thing"]
abbrev n_is_day : List Str := ["thing"]
abbrev t_pieces_of : Stmt := top 22
abbrev p_pieces_of : List Str := ["row"]
abbrev n_pieces_of : List Str := ["row", "pieces", "at", "end"]
abbrev t_Days___init__ : Stmt := inClass (top 23) 2
abbrev p_Days___init__ : List Str := ["self", "days"]
abbrev n_Days___init__ : List Str := ["self", "days", "at", "day", "kept"]
abbrev t_Days_listed : Stmt := inClass (top 23) 5
abbrev p_Days_listed : List Str := ["self"]
abbrev n_Days_listed : List Str := ["self"]
abbrev t_Days_from_day : Stmt := inClass (top 23) 8
abbrev p_Days_from_day : List Str := ["self", "day"]
abbrev n_Days_from_day : List Str := ["self", "day", "each"]
abbrev t_Days___len__ : Stmt := inClass (top 23) 9
abbrev p_Days___len__ : List Str := ["self"]
abbrev n_Days___len__ : List Str := ["self"]
abbrev t_Days___contains__ : Stmt := inClass (top 23) 10
abbrev p_Days___contains__ : List Str := ["self", "thing"]
abbrev n_Days___contains__ : List Str := ["self", "thing"]
abbrev t_Days___eq__ : Stmt := inClass (top 23) 11
abbrev p_Days___eq__ : List Str := ["self", "other"]
abbrev n_Days___eq__ : List Str := ["self", "other"]
abbrev t_Days___str__ : Stmt := inClass (top 23) 16
abbrev p_Days___str__ : List Str := ["self"]
abbrev n_Days___str__ : List Str := ["self"]
abbrev t_Days___repr__ : Stmt := inClass (top 23) 17
abbrev p_Days___repr__ : List Str := ["self"]
abbrev n_Days___repr__ : List Str := ["self", "row", "day"]
abbrev t__law_bag : Stmt := top 25
abbrev p__law_bag : List Str := ["_law_script", "_law_at"]
abbrev n__law_bag : List Str := ["_law_script", "_law_at", "_law_cell", "_law_mixed", "_law_k", "_law_each"]
abbrev t__law_take : Stmt := top 26
abbrev p__law_take : List Str := ["_law_bag_here", "_law_many"]
abbrev n__law_take : List Str := ["_law_bag_here", "_law_many", "_law_digit"]
abbrev t__law_of : Stmt := top 27
abbrev p__law_of : List Str := ["_law_bag_here", "_law_some_here"]
abbrev n__law_of : List Str := ["_law_bag_here", "_law_some_here"]
abbrev t__law_day : Stmt := top 28
abbrev p__law_day : List Str := ["_law_bag_here"]
abbrev n__law_day : List Str := ["_law_bag_here", "_law_way"]
abbrev t__law_some : Stmt := top 29
abbrev p__law_some : List Str := ["_law_bag_here"]
abbrev n__law_some : List Str := ["_law_bag_here", "_law_found", "_law_k", "_law_day_here"]
abbrev t__law_made : Stmt := top 30
abbrev p__law_made : List Str := ["_law_row"]
abbrev n__law_made : List Str := ["_law_row"]
abbrev t__law_written : Stmt := top 31
abbrev p__law_written : List Str := ["_law_due"]
abbrev n__law_written : List Str := ["_law_due", "_law_pieces", "_law_at", "_law_turn", "_law_end", "_law_k"]
abbrev t__law_is_list : Stmt := top 32
abbrev p__law_is_list : List Str := ["_law_told", "_law_due"]
abbrev n__law_is_list : List Str := ["_law_told", "_law_due", "_law_day_here"]
abbrev t__law_from : Stmt := top 33
abbrev p__law_from : List Str := ["_law_due", "_law_day_here"]
abbrev n__law_from : List Str := ["_law_due", "_law_day_here", "_law_found", "_law_each"]
abbrev t__law_asked : Stmt := top 34
abbrev p__law_asked : List Str := ["_law_days", "_law_due", "_law_probes"]
abbrev n__law_asked : List Str := ["_law_days", "_law_due", "_law_probes", "_law_listed", "_law_day_here", "_law_first", "_law_thing", "_law_texts"]
abbrev t_law : Stmt := top 35
abbrev p_law : List Str := ["_law_script"]
abbrev n_law : List Str := ["_law_script", "_law_turn", "_law_bag_here", "_law_row", "_law_probes", "_law_due", "_law_other", "_law_days", "_law_turned", "_law_less", "_law_day_here"]
abbrev t_BadDays___init__ : Stmt := inClass (top 3) 0
abbrev p_BadDays___init__ : List Str := ["self", "at"]
abbrev n_BadDays___init__ : List Str := ["self", "at"]
abbrev t_TooMany___init__ : Stmt := inClass (top 5) 0
abbrev p_TooMany___init__ : List Str := ["self", "what"]
abbrev n_TooMany___init__ : List Str := ["self", "what"]
abbrev t_Days_each : Stmt := inClass (top 23) 6
abbrev p_Days_each : List Str := ["self"]
structure Tx (wd : World) (K : PySem.W.Frag) (mg : Str → Option Value) (D : Ad) : Prop where
  ew : D.wd = wd
  m_is_integer : mg "is_integer" = some (.ref D.a_is_integer)
  k_is_integer : PySem.W.keepIn K (.ref D.a_is_integer) = true
  f_is_integer : Fun K "is_integer" "is_integer" t_is_integer D.a_is_integer D.d_is_integer
  b_is_integer : Binds K D.d_is_integer p_is_integer []
  m_is_day : mg "is_day" = some (.ref D.a_is_day)
  k_is_day : PySem.W.keepIn K (.ref D.a_is_day) = true
  f_is_day : Fun K "is_day" "is_day" t_is_day D.a_is_day D.d_is_day
  b_is_day : Binds K D.d_is_day p_is_day []
  m_pieces_of : mg "pieces_of" = some (.ref D.a_pieces_of)
  k_pieces_of : PySem.W.keepIn K (.ref D.a_pieces_of) = true
  f_pieces_of : Fun K "pieces_of" "pieces_of" t_pieces_of D.a_pieces_of D.d_pieces_of
  b_pieces_of : Binds K D.d_pieces_of p_pieces_of []
  f_Days___init__ : Fun K "__init__" "Days.__init__" t_Days___init__ D.a_Days___init__ D.d_Days___init__
  bv_Days___init__ : BV D.d_Days___init__ p_Days___init__ 1
  f_Days_listed : Fun K "listed" "Days.listed" t_Days_listed D.a_Days_listed D.d_Days_listed
  b_Days_listed : Binds K D.d_Days_listed p_Days_listed []
  f_Days_from_day : Fun K "from_day" "Days.from_day" t_Days_from_day D.a_Days_from_day D.d_Days_from_day
  b_Days_from_day : Binds K D.d_Days_from_day p_Days_from_day []
  f_Days___len__ : Fun K "__len__" "Days.__len__" t_Days___len__ D.a_Days___len__ D.d_Days___len__
  b_Days___len__ : Binds K D.d_Days___len__ p_Days___len__ []
  f_Days___contains__ : Fun K "__contains__" "Days.__contains__" t_Days___contains__ D.a_Days___contains__ D.d_Days___contains__
  b_Days___contains__ : Binds K D.d_Days___contains__ p_Days___contains__ []
  f_Days___eq__ : Fun K "__eq__" "Days.__eq__" t_Days___eq__ D.a_Days___eq__ D.d_Days___eq__
  b_Days___eq__ : Binds K D.d_Days___eq__ p_Days___eq__ []
  f_Days___str__ : Fun K "__str__" "Days.__str__" t_Days___str__ D.a_Days___str__ D.d_Days___str__
  b_Days___str__ : Binds K D.d_Days___str__ p_Days___str__ []
  f_Days___repr__ : Fun K "__repr__" "Days.__repr__" t_Days___repr__ D.a_Days___repr__ D.d_Days___repr__
  b_Days___repr__ : Binds K D.d_Days___repr__ p_Days___repr__ []
  m__law_bag : mg "_law_bag" = some (.ref D.a__law_bag)
  k__law_bag : PySem.W.keepIn K (.ref D.a__law_bag) = true
  f__law_bag : Fun K "_law_bag" "_law_bag" t__law_bag D.a__law_bag D.d__law_bag
  b__law_bag : Binds K D.d__law_bag p__law_bag []
  m__law_take : mg "_law_take" = some (.ref D.a__law_take)
  k__law_take : PySem.W.keepIn K (.ref D.a__law_take) = true
  f__law_take : Fun K "_law_take" "_law_take" t__law_take D.a__law_take D.d__law_take
  b__law_take : Binds K D.d__law_take p__law_take []
  m__law_of : mg "_law_of" = some (.ref D.a__law_of)
  k__law_of : PySem.W.keepIn K (.ref D.a__law_of) = true
  f__law_of : Fun K "_law_of" "_law_of" t__law_of D.a__law_of D.d__law_of
  b__law_of : Binds K D.d__law_of p__law_of []
  m__law_day : mg "_law_day" = some (.ref D.a__law_day)
  k__law_day : PySem.W.keepIn K (.ref D.a__law_day) = true
  f__law_day : Fun K "_law_day" "_law_day" t__law_day D.a__law_day D.d__law_day
  b__law_day : Binds K D.d__law_day p__law_day []
  m__law_some : mg "_law_some" = some (.ref D.a__law_some)
  k__law_some : PySem.W.keepIn K (.ref D.a__law_some) = true
  f__law_some : Fun K "_law_some" "_law_some" t__law_some D.a__law_some D.d__law_some
  b__law_some : Binds K D.d__law_some p__law_some []
  m__law_made : mg "_law_made" = some (.ref D.a__law_made)
  k__law_made : PySem.W.keepIn K (.ref D.a__law_made) = true
  f__law_made : Fun K "_law_made" "_law_made" t__law_made D.a__law_made D.d__law_made
  b__law_made : Binds K D.d__law_made p__law_made []
  m__law_written : mg "_law_written" = some (.ref D.a__law_written)
  k__law_written : PySem.W.keepIn K (.ref D.a__law_written) = true
  f__law_written : Fun K "_law_written" "_law_written" t__law_written D.a__law_written D.d__law_written
  b__law_written : Binds K D.d__law_written p__law_written []
  m__law_is_list : mg "_law_is_list" = some (.ref D.a__law_is_list)
  k__law_is_list : PySem.W.keepIn K (.ref D.a__law_is_list) = true
  f__law_is_list : Fun K "_law_is_list" "_law_is_list" t__law_is_list D.a__law_is_list D.d__law_is_list
  b__law_is_list : Binds K D.d__law_is_list p__law_is_list []
  m__law_from : mg "_law_from" = some (.ref D.a__law_from)
  k__law_from : PySem.W.keepIn K (.ref D.a__law_from) = true
  f__law_from : Fun K "_law_from" "_law_from" t__law_from D.a__law_from D.d__law_from
  b__law_from : Binds K D.d__law_from p__law_from []
  m__law_asked : mg "_law_asked" = some (.ref D.a__law_asked)
  k__law_asked : PySem.W.keepIn K (.ref D.a__law_asked) = true
  f__law_asked : Fun K "_law_asked" "_law_asked" t__law_asked D.a__law_asked D.d__law_asked
  b__law_asked : Binds K D.d__law_asked p__law_asked []
  m_law : mg "law" = some (.ref D.a_law)
  k_law : PySem.W.keepIn K (.ref D.a_law) = true
  f_law : Fun K "law" "law" t_law D.a_law D.d_law
  b_law : Binds K D.d_law p_law []
  f_BadDays___init__ : Fun K "__init__" "BadDays.__init__" t_BadDays___init__ D.a_BadDays___init__ D.d_BadDays___init__
  b_BadDays___init__ : Binds K D.d_BadDays___init__ p_BadDays___init__ []
  f_TooMany___init__ : Fun K "__init__" "TooMany.__init__" t_TooMany___init__ D.a_TooMany___init__ D.d_TooMany___init__
  b_TooMany___init__ : Binds K D.d_TooMany___init__ p_TooMany___init__ []
  f_Days_each : Fun K "each" "Days.each" t_Days_each D.a_Days_each D.d_Days_each
  b_Days_each : Binds K D.d_Days_each p_Days_each []
  n_abs : mg "abs" = none
  n_all : mg "all" = none
  n_bool : mg "bool" = none
  n_enumerate : mg "enumerate" = none
  n_int : mg "int" = none
  n_isinstance : mg "isinstance" = none
  n_len : mg "len" = none
  n_list : mg "list" = none
  n_max : mg "max" = none
  n_min : mg "min" = none
  n_range : mg "range" = none
  n_repr : mg "repr" = none
  n_set : mg "set" = none
  n_sorted : mg "sorted" = none
  n_str : mg "str" = none
  n_tuple : mg "tuple" = none
  g_LAST_DAY : GK K mg "LAST_DAY" (.int 1000000000000)
  g_MOST_DAYS : GK K mg "MOST_DAYS" (.int 400)
  ck_Days_LAST : CK K D.c_Days "LAST" (.int 1000000000000)
  ck_Days_MOST : CK K D.c_Days "MOST" (.int 400)
  g_BadDays : mg "BadDays" = some (.ref D.c_BadDays)
  g_TooMany : mg "TooMany" = some (.ref D.c_TooMany)
  g_Days : mg "Days" = some (.ref D.c_Days)
  cl_Days : Cls K D.c_Days
  mk_Days : Mk K D.c_Days D.a_Days___init__
  me_Days_each : Meth K D.c_Days "each" D.a_Days_each
  me_Days_from_day : Meth K D.c_Days "from_day" D.a_Days_from_day
  me_Days_listed : Meth K D.c_Days "listed" D.a_Days_listed
  na_Days_row : NoAttr K D.c_Days "row"
  ox_BadDays : OexC K D.c_BadDays
  ix_BadDays : PySem.W.findIn K (.ref D.c_BadDays) "__init__" = some (some (.ref D.a_BadDays___init__))
  tx_BadDays : PySem.W.typeIn K (.ref D.a_BadDays___init__) = some (.type "function")
  no_BadDays_at : PySem.W.findIn K (.ref D.c_BadDays) "at" = some none
  ox_TooMany : OexC K D.c_TooMany
  ix_TooMany : PySem.W.findIn K (.ref D.c_TooMany) "__init__" = some (some (.ref D.a_TooMany___init__))
  tx_TooMany : PySem.W.typeIn K (.ref D.a_TooMany___init__) = some (.type "function")
  no_TooMany_what : PySem.W.findIn K (.ref D.c_TooMany) "what" = some none
  ha_Days : PySem.W.findIn K (.ref D.c_Days) "__class__" = some (some (.builtin "object.__class__"))
  hm_Days : PySem.W.mroIn K D.c_Days (.type "object") = some true
  ki : KiCls K
  tf_Days : TypF K D.c_Days
  nb1_bool_Days : PySem.W.kitOne K (.ref D.c_Days) (.type "bool") = some false
  nb1_int_Days : PySem.W.kitOne K (.ref D.c_Days) (.type "int") = some false
  nb1_list_Days : PySem.W.kitOne K (.ref D.c_Days) (.type "list") = some false
  it_Days : ∀ q : DT, PySem.W.kitOne K (.type (dtn q)) (.ref D.c_Days) = some false
  ik_Days_Days : PySem.W.kitOne K (.ref D.c_Days) (.ref D.c_Days) = some true
  nf_Days_Days : PySem.W.notFirst K D.c_Days (.ref D.c_Days) = true
  om_Days___contains__ : OwnM K D.c_Days "__contains__" D.a_Days___contains__
  om_Days___eq__ : OwnM K D.c_Days "__eq__" D.a_Days___eq__
  om_Days___len__ : OwnM K D.c_Days "__len__" D.a_Days___len__
  om_Days___repr__ : OwnM K D.c_Days "__repr__" D.a_Days___repr__
  om_Days___str__ : OwnM K D.c_Days "__str__" D.a_Days___str__
  on_Days : PySem.W.findIn K (.ref D.c_Days) "__ne__" = some (some (.builtin "object.__ne__"))
section
variable {P : Program} {w wd : World} {K : PySem.W.Frag} {mg : Str → Option Value} {base : Heap} {D : Ad} {n : Nat}
theorem Tx.inj (T : Tx wd K mg D) : ∀ f g, (zz K D).nm f = (zz K D).nm g → f = g := fun f g h => nm_inj (names := names) (by decide +kernel) h
theorem Tx.obj (T : Tx wd K mg D) : ObjF K (zz K D) pg := ⟨T.inj, fun c f h => inL_all (p := fun c f => Cls K (caOf D c) ∧ NoAttr K (caOf D c) (nmOf names f)) fdL (⟨⟨T.cl_Days, T.na_Days_row⟩, trivial⟩) h⟩
theorem Tx.pcl (T : Tx wd K mg D) : ∀ c', pg.pc c' = true → Cls K (caOf D c') := fun c' h => inN_all (p := fun c' => Cls K (caOf D c')) pcL (⟨T.cl_Days, trivial⟩) h
theorem Tx.pca (T : Tx wd K mg D) : ∀ c', pg.pc c' = true → PySem.W.findIn K (.ref (caOf D c')) "__class__" = some (some (.builtin "object.__class__")) := fun c' h => inN_all (p := fun c' => PySem.W.findIn K (.ref (caOf D c')) "__class__" = some (some (.builtin "object.__class__"))) pcL (⟨T.ha_Days, trivial⟩) h
theorem Tx.pcm (T : Tx wd K mg D) : ∀ c', pg.pc c' = true → PySem.W.mroIn K (caOf D c') (.type "object") = some true := fun c' h => inN_all (p := fun c' => PySem.W.mroIn K (caOf D c') (.type "object") = some true) pcL (⟨T.hm_Days, trivial⟩) h
theorem Tx.pc (T : Tx wd K mg D) : PcOk K (zz K D) pg := ⟨T.pcl, T.pca, T.pcm, T.ki.1, T.ki.2⟩
theorem Tx.nb_bool (T : Tx wd K mg D) : ∀ c', pg.pc c' = true → PySem.W.kitOne K (.ref (caOf D c')) (.type "bool") = some false := fun c' h => inN_all (p := fun c' => PySem.W.kitOne K (.ref (caOf D c')) (.type "bool") = some false) pcL (⟨T.nb1_bool_Days, trivial⟩) h
theorem Tx.nb_int (T : Tx wd K mg D) : ∀ c', pg.pc c' = true → PySem.W.kitOne K (.ref (caOf D c')) (.type "int") = some false := fun c' h => inN_all (p := fun c' => PySem.W.kitOne K (.ref (caOf D c')) (.type "int") = some false) pcL (⟨T.nb1_int_Days, trivial⟩) h
theorem Tx.nb_list (T : Tx wd K mg D) : ∀ c', pg.pc c' = true → PySem.W.kitOne K (.ref (caOf D c')) (.type "list") = some false := fun c' h => inN_all (p := fun c' => PySem.W.kitOne K (.ref (caOf D c')) (.type "list") = some false) pcL (⟨T.nb1_list_Days, trivial⟩) h
theorem Tx.ik_Days (T : Tx wd K mg D) : ∀ c', pg.pc c' = true → PySem.W.kitOne K (.ref (caOf D c')) (.ref D.c_Days) = some (decide (c' = 10)) := fun c' h => inN_all (p := fun c' => PySem.W.kitOne K (.ref (caOf D c')) (.ref D.c_Days) = some (decide (c' = 10))) pcL (⟨T.ik_Days_Days, trivial⟩) h
theorem Tx.nfo_Days (T : Tx wd K mg D) : ∀ c', pg.pc c' = true → PySem.W.notFirst K D.c_Days (.ref (caOf D c')) = true := fun c' h => inN_all (p := fun c' => PySem.W.notFirst K D.c_Days (.ref (caOf D c')) = true) pcL (⟨T.nf_Days_Days, trivial⟩) h
theorem Tx.nf_Days (T : Tx wd K mg D) : NotF K (zz K D) pg D.c_Days := ⟨T.nfo_Days, fun q => nf_sub (T.tf_Days.at q)⟩
theorem gf_Days_each (T : Tx wd K mg D) : GFn P w K mg base 1 D.a_Days_each D.d_Days_each p_Days_each (fun vs H Q _ => ∃ a dx gs t xs, vs = [V.ref a] ∧ H a = some (.ins ((zz K D).ca 10) dx gs) ∧ gs.lookup ("row" : Str) = some (V.ref t) ∧ SqT K H t xs ∧ (xs.length ≤ sizeLine → Q xs H)) :=
  gfn_each (Z := zz K D) (c := 10) (fi := 29) rfl T.obj rfl T.f_Days_each ⟨rfl, rfl, rfl, by decide +kernel, rfl, by decide +kernel, by decide +kernel⟩ rfl rfl (.inl rfl)
structure All (P : Program) (w : World) (K : PySem.W.Frag) (mg : Str → Option Value) (base : Heap) (D : Ad) (n : Nat) : Prop where
  o_is_integer : FnOk P w K mg base (L2.CX P w) (3 * n + 2) D.a_is_integer D.d_is_integer p_is_integer (spF (zz K D) pg n 104)
  o_is_day : FnOk P w K mg base (L2.CX P w) (3 * n + 2) D.a_is_day D.d_is_day p_is_day (spF (zz K D) pg n 103)
  o_pieces_of : FnOk P w K mg base (L2.CX P w) (3 * n + 2) D.a_pieces_of D.d_pieces_of p_pieces_of (spF (zz K D) pg n 141)
  o_Days___init__ : FnV P w K mg base (L2.CX P w) (3 * n + 2) D.a_Days___init__ D.d_Days___init__ p_Days___init__ (spF (zz K D) pg n 101)
  o_Days_listed : FnOk P w K mg base (L2.CX P w) (3 * n + 2) D.a_Days_listed D.d_Days_listed p_Days_listed (spF (zz K D) pg n 105)
  o_Days_from_day : FnOk P w K mg base (L2.CX P w) (3 * n + 2) D.a_Days_from_day D.d_Days_from_day p_Days_from_day (spF (zz K D) pg n 100)
  o_Days___len__ : FnOk P w K mg base (L2.CX P w) (3 * n + 2) D.a_Days___len__ D.d_Days___len__ p_Days___len__ (spF (zz K D) pg n 125)
  o_Days___contains__ : FnOk P w K mg base (L2.CX P w) (3 * n + 2) D.a_Days___contains__ D.d_Days___contains__ p_Days___contains__ (spF (zz K D) pg n 127)
  o_Days___eq__ : FnOk P w K mg base (L2.CX P w) (3 * n + 2) D.a_Days___eq__ D.d_Days___eq__ p_Days___eq__ (spF (zz K D) pg n 102)
  o_Days___str__ : FnOk P w K mg base (L2.CX P w) (3 * n + 2) D.a_Days___str__ D.d_Days___str__ p_Days___str__ (spF (zz K D) pg n 139)
  o_Days___repr__ : FnOk P w K mg base (L2.CX P w) (3 * n + 2) D.a_Days___repr__ D.d_Days___repr__ p_Days___repr__ (spF (zz K D) pg n 126)
  o__law_bag : FnOk P w K mg base (L2.CX P w) (3 * n + 2) D.a__law_bag D.d__law_bag p__law_bag (spF (zz K D) pg n 2)
  o__law_take : FnOk P w K mg base (L2.CX P w) (3 * n + 2) D.a__law_take D.d__law_take p__law_take (spF (zz K D) pg n 59)
  o__law_of : FnOk P w K mg base (L2.CX P w) (3 * n + 2) D.a__law_of D.d__law_of p__law_of (spF (zz K D) pg n 4)
  o__law_day : FnOk P w K mg base (L2.CX P w) (3 * n + 2) D.a__law_day D.d__law_day p__law_day (spF (zz K D) pg n 96)
  o__law_some : FnOk P w K mg base (L2.CX P w) (3 * n + 2) D.a__law_some D.d__law_some p__law_some (spF (zz K D) pg n 135)
  o__law_made : FnOk P w K mg base (L2.CX P w) (3 * n + 2) D.a__law_made D.d__law_made p__law_made (spF (zz K D) pg n 19)
  o__law_written : FnOk P w K mg base (L2.CX P w) (3 * n + 2) D.a__law_written D.d__law_written p__law_written (spF (zz K D) pg n 140)
  o__law_is_list : FnOk P w K mg base (L2.CX P w) (3 * n + 2) D.a__law_is_list D.d__law_is_list p__law_is_list (spF (zz K D) pg n 137)
  o__law_from : FnOk P w K mg base (L2.CX P w) (3 * n + 2) D.a__law_from D.d__law_from p__law_from (spF (zz K D) pg n 138)
  o__law_asked : FnOk P w K mg base (L2.CX P w) (3 * n + 2) D.a__law_asked D.d__law_asked p__law_asked (spF (zz K D) pg n 136)
  o_law : FnOk P w K mg base (L2.CX P w) (3 * n + 2) D.a_law D.d_law p_law (spF (zz K D) pg n 8)
theorem xi_BadDays (T : Tx w K mg D) : FnOk P w K mg base (L2.CX P w) 1 D.a_BadDays___init__ D.d_BadDays___init__ p_BadDays___init__ (spI ((zz K D).ca 11) ([0].map (zz K D).nm)) := by
  have sc : FnScope n_BadDays___init__ p_BadDays___init__ (defScope t_BadDays___init__) := scL_ok (by decide +kernel)
  exact Fun.okX (k := 0) (N := n_BadDays___init__) T.f_BadDays___init__ sc (spI_len rfl) fun cdv A0 outer s H vs Q E hr h => ⟨_, pss_one (ps_ost (pv 0) (pv 1)), rd_init1 (N := n_BadDays___init__) (by decide) T.ox_BadDays T.no_BadDays_at h⟩
theorem xi_TooMany (T : Tx w K mg D) : FnOk P w K mg base (L2.CX P w) 1 D.a_TooMany___init__ D.d_TooMany___init__ p_TooMany___init__ (spI ((zz K D).ca 12) ([28].map (zz K D).nm)) := by
  have sc : FnScope n_TooMany___init__ p_TooMany___init__ (defScope t_TooMany___init__) := scL_ok (by decide +kernel)
  exact Fun.okX (k := 0) (N := n_TooMany___init__) T.f_TooMany___init__ sc (spI_len rfl) fun cdv A0 outer s H vs Q E hr h => ⟨_, pss_one (ps_ost (pv 0) (pv 1)), rd_init1 (N := n_TooMany___init__) (by decide) T.ox_TooMany T.no_TooMany_what h⟩
theorem w_is_integer (T : Tx w K mg D) (A : All P w K mg base D n) : FnOk P w K mg base (L2.CX P w) (3 * (n + 1) + 2) D.a_is_integer D.d_is_integer p_is_integer (spF (zz K D) pg (n + 1) 104) := by
  have sc : FnScope n_is_integer p_is_integer (defScope t_is_integer) := scL_ok (by decide +kernel)
  refine Fun.okX (k := 3 * n + 4) (N := n_is_integer) T.f_is_integer sc (spF_len (F := f_is_integer) rfl) fun cdv A0 outer s H vs Q E hr h => ⟨_, ?_, spF_body (F := f_is_integer) rfl rfl rfl (by decide) h⟩
  have tk := takes_of (X := cxOf (L2.CX P w) P w K mg base n_is_integer "is_integer" (defScope t_is_integer) D.a_is_integer cdv A0 outer s H E) rfl rfl rfl rfl
  show PSs (cxOf (L2.CX P w) P w K mg base n_is_integer "is_integer" (defScope t_is_integer) D.a_is_integer cdv A0 outer s H E) (defBody t_is_integer) (rdS (zz K D) pg (run pg n) (fun cls d _ H2 => E cls d H2) c_is_integer )
  exact (s_one (s_ret (v_and rfl (v_isb rfl T.pc T.nb_int rfl (by rfl) T.n_isinstance (by rfl) T.n_int (by decide +kernel) (v_v 0)) (v_one (v_not rfl (v_isb rfl T.pc T.nb_bool rfl (by rfl) T.n_isinstance (by rfl) T.n_bool (by decide +kernel) (v_v 0)))))))
theorem w_is_day (T : Tx w K mg D) (A : All P w K mg base D n) : FnOk P w K mg base (L2.CX P w) (3 * (n + 1) + 2) D.a_is_day D.d_is_day p_is_day (spF (zz K D) pg (n + 1) 103) := by
  have sc : FnScope n_is_day p_is_day (defScope t_is_day) := scL_ok (by decide +kernel)
  refine Fun.okX (k := 3 * n + 4) (N := n_is_day) T.f_is_day sc (spF_len (F := f_is_day) rfl) fun cdv A0 outer s H vs Q E hr h => ⟨_, ?_, spF_body (F := f_is_day) rfl rfl rfl (by decide) h⟩
  have tk := takes_of (X := cxOf (L2.CX P w) P w K mg base n_is_day "is_day" (defScope t_is_day) D.a_is_day cdv A0 outer s H E) rfl rfl rfl rfl
  show PSs (cxOf (L2.CX P w) P w K mg base n_is_day "is_day" (defScope t_is_day) D.a_is_day cdv A0 outer s H E) (defBody t_is_day) (rdS (zz K D) pg (run pg n) (fun cls d _ H2 => E cls d H2) c_is_day )
  exact (s_one (s_ret (v_and rfl (v_cal tk A.o_is_integer (hr.mono (by omega)) (by rfl) T.m_is_integer T.k_is_integer T.b_is_integer (v_acons (v_v 0) v_anil)) (v_one (v_chn rfl (hu65 hr) v_int (v_v 0) (v_glx (by rfl) T.g_LAST_DAY (by rfl)))))))
theorem w_pieces_of (T : Tx w K mg D) (A : All P w K mg base D n) : FnOk P w K mg base (L2.CX P w) (3 * (n + 1) + 2) D.a_pieces_of D.d_pieces_of p_pieces_of (spF (zz K D) pg (n + 1) 141) := by
  have sc : FnScope n_pieces_of p_pieces_of (defScope t_pieces_of) := scL_ok (by decide +kernel)
  refine Fun.okX (k := 3 * n + 4) (N := n_pieces_of) T.f_pieces_of sc (spF_len (F := f_pieces_of) rfl) fun cdv A0 outer s H vs Q E hr h => ⟨_, ?_, spF_body (F := f_pieces_of) rfl rfl rfl (by decide) h⟩
  have tk := takes_of (X := cxOf (L2.CX P w) P w K mg base n_pieces_of "pieces_of" (defScope t_pieces_of) D.a_pieces_of cdv A0 outer s H E) rfl rfl rfl rfl
  show PSs (cxOf (L2.CX P w) P w K mg base n_pieces_of "pieces_of" (defScope t_pieces_of) D.a_pieces_of cdv A0 outer s H E) (defBody t_pieces_of) (rdS (zz K D) pg (run pg n) (fun cls d _ H2 => E cls d H2) c_pieces_of )
  exact (s_cons (s_n 1 sc.nd (v_lst v_anil))
    (s_cons (s_n 2 sc.nd v_int)
    (s_cons (s_whl (passes_of rfl) (t_cmp rfl (hu65 hr) (v_v 2) (v_blt (cb_len rfl) (by rfl) T.n_len (by decide +kernel) (v_acons (v_v 0) v_anil)) (nomark _)) (s_cons (s_n 3 sc.nd (v_v 2))
    (s_cons (s_whl (passes_of rfl) (PW.pt (w_and (t_cmp rfl (hu65 hr) (v_bin rfl rfl (v_v 3) v_int) (v_blt (cb_len rfl) (by rfl) T.n_len (by decide +kernel) (v_acons (v_v 0) v_anil)) (nomark _)) (w_one_and (t_cmp rfl (hu65 hr) (v_idx rfl (v_v 0) (v_bin rfl rfl (v_v 3) v_int) (fun _ _ => rfl)) (v_bin rfl rfl (v_idx rfl (v_v 0) (v_v 3) (fun _ _ => rfl)) v_int) (nomark _))))) (s_one (s_n 3 sc.nd (v_bin rfl rfl (v_v 3) v_int))))
    (s_cons (s_exp (v_btm PySem.F.plainAttrs_list (rcv_list rfl fun _ _ => rfl) PySem.F.slot_list_append PySem.F.type_list_append mb_append (v_v 1) (v_acons (v_ite (t_cmp rfl (hu65 hr) (v_v 3) (v_v 2) (nomark _)) (v_fst (fj_cons isS_tos (v_fmt (v_idx rfl (v_v 0) (v_v 2) (fun _ _ => rfl))) (fj_cons isS_kon (v_str (by decide +kernel)) (fj_cons isS_tos (v_fmt (v_idx rfl (v_v 0) (v_v 3) (fun _ _ => rfl))) fj_nil)))) (v_tos (by rfl) T.n_str (v_idx rfl (v_v 0) (v_v 2) (fun _ _ => rfl)))) v_anil)))
    (s_one (s_n 2 sc.nd (v_bin rfl rfl (v_v 3) v_int)))))))
    (s_one (s_ret (v_v 1))))))
theorem w_Days___init__ (T : Tx w K mg D) (A : All P w K mg base D n) : FnV P w K mg base (L2.CX P w) (3 * (n + 1) + 2) D.a_Days___init__ D.d_Days___init__ p_Days___init__ (spF (zz K D) pg (n + 1) 101) := by
  have sc : FnScope n_Days___init__ p_Days___init__ (defScope t_Days___init__) := scL_ok (by decide +kernel)
  refine okV (k := 3 * n + 4) (N := n_Days___init__) T.f_Days___init__.ex sc fun cdv A0 outer s H vs Q E hr h => ⟨_, ?_, spF_body (F := f_Days___init__) rfl rfl rfl (by decide) h⟩
  have tk := takes_of (X := cxOf (L2.CX P w) P w K mg base n_Days___init__ "Days.__init__" (defScope t_Days___init__) D.a_Days___init__ cdv A0 outer s H E) rfl rfl rfl rfl
  show PSs (cxOf (L2.CX P w) P w K mg base n_Days___init__ "Days.__init__" (defScope t_Days___init__) D.a_Days___init__ cdv A0 outer s H E) (defBody t_Days___init__) (rdS (zz K D) pg (run pg n) (fun cls d _ H2 => E cls d H2) c_Days___init__ )
  exact (s_cons (s_for (passes_of rfl) rfl (i_enum rfl (by rfl) T.n_enumerate (v_v 1)) (g_tup rfl rfl (g_cons (g_n 2 sc.nd) (g_cons (g_n 3 sc.nd) g_nil)) (gcons_len (gcons_len gnil_len))) (s_one (s_if (t_not (t_val rfl (v_cal tk A.o_is_day (hr.mono (by omega)) (by rfl) T.m_is_day T.k_is_day T.b_is_day (v_acons (v_v 3) v_anil)) (fun _ => rfl))) (s_one (s_rse (CX := L2.CX P w) (fl := [0]) rfl tk T.ox_BadDays T.ix_BadDays T.tx_BadDays (xi_BadDays T) (hr.mono (by omega)) T.b_BadDays___init__ (by rfl) T.g_BadDays rfl (v_acons (v_v 2) v_anil))) s_nil)))
    (s_cons (s_n 4 sc.nd (v_frz (v_blt (cb_sortedd rfl rfl (hu65 hr)) (by rfl) T.n_sorted (by decide +kernel) (v_acons (v_dcm (own := [("day", 3)]) rfl rfl sc.nd (i_val rfl (v_v 1)) (blkOk_by (N := n_Days___init__) (sc := defScope t_Days___init__) (by decide +kernel)) (tgOk_name (by decide)) (fun _ _ _ _ _ => g_k 3 sc.nd) (fun _ _ _ _ _ => ts_nil) (fun _ _ _ _ _ => (v_v 3)) (fun _ _ _ _ _ => v_bl)) v_anil))))
    (s_cons (s_if (t_cmp rfl (hu65 hr) (v_blt (cb_len rfl) (by rfl) T.n_len (by decide +kernel) (v_acons (v_v 4) v_anil)) (v_glx (by rfl) T.g_MOST_DAYS (by rfl)) (nomark _)) (s_one (s_rse (CX := L2.CX P w) (fl := [28]) rfl tk T.ox_TooMany T.ix_TooMany T.tx_TooMany (xi_TooMany T) (hr.mono (by omega)) T.b_TooMany___init__ (by rfl) T.g_TooMany rfl (v_acons (v_str (by decide +kernel)) v_anil))) s_nil)
    (s_one (s_att T.obj rfl (v_v 0) (v_frz (v_blty (cb_tuple rfl) (by rfl) T.n_tuple (by decide +kernel) (v_acons (v_v 4) v_anil))))))))
theorem w_Days_listed (T : Tx w K mg D) (A : All P w K mg base D n) : FnOk P w K mg base (L2.CX P w) (3 * (n + 1) + 2) D.a_Days_listed D.d_Days_listed p_Days_listed (spF (zz K D) pg (n + 1) 105) := by
  have sc : FnScope n_Days_listed p_Days_listed (defScope t_Days_listed) := scL_ok (by decide +kernel)
  refine Fun.okX (k := 3 * n + 4) (N := n_Days_listed) T.f_Days_listed sc (spF_len (F := f_Days_listed) rfl) fun cdv A0 outer s H vs Q E hr h => ⟨_, ?_, spF_body (F := f_Days_listed) rfl rfl rfl (by decide) h⟩
  have tk := takes_of (X := cxOf (L2.CX P w) P w K mg base n_Days_listed "Days.listed" (defScope t_Days_listed) D.a_Days_listed cdv A0 outer s H E) rfl rfl rfl rfl
  show PSs (cxOf (L2.CX P w) P w K mg base n_Days_listed "Days.listed" (defScope t_Days_listed) D.a_Days_listed cdv A0 outer s H E) (defBody t_Days_listed) (rdS (zz K D) pg (run pg n) (fun cls d _ H2 => E cls d H2) c_Days_listed )
  exact (s_one (s_ret (v_blty (cb_list rfl) (by rfl) T.n_list (by decide +kernel) (v_acons (v_att T.obj rfl (v_v 0)) v_anil))))
theorem w_Days_from_day (T : Tx w K mg D) (A : All P w K mg base D n) : FnOk P w K mg base (L2.CX P w) (3 * (n + 1) + 2) D.a_Days_from_day D.d_Days_from_day p_Days_from_day (spF (zz K D) pg (n + 1) 100) := by
  have sc : FnScope n_Days_from_day p_Days_from_day (defScope t_Days_from_day) := scL_ok (by decide +kernel)
  refine Fun.okX (k := 3 * n + 4) (N := n_Days_from_day) T.f_Days_from_day sc (spF_len (F := f_Days_from_day) rfl) fun cdv A0 outer s H vs Q E hr h => ⟨_, ?_, spF_body (F := f_Days_from_day) rfl rfl rfl (by decide) h⟩
  have tk := takes_of (X := cxOf (L2.CX P w) P w K mg base n_Days_from_day "Days.from_day" (defScope t_Days_from_day) D.a_Days_from_day cdv A0 outer s H E) rfl rfl rfl rfl
  show PSs (cxOf (L2.CX P w) P w K mg base n_Days_from_day "Days.from_day" (defScope t_Days_from_day) D.a_Days_from_day cdv A0 outer s H E) (defBody t_Days_from_day) (rdS (zz K D) pg (run pg n) (fun cls d _ H2 => E cls d H2) c_Days_from_day )
  exact (s_cons (s_for (passes_of rfl) rfl (i_val rfl (v_att T.obj rfl (v_v 0))) (g_n 2 sc.nd) (s_one (s_if (t_cmp rfl (hu65 hr) (v_v 2) (v_v 1) (nomark _)) (s_one (s_ret (v_v 2))) s_nil)))
    (s_one (s_ret v_non)))
theorem w_Days___len__ (T : Tx w K mg D) (A : All P w K mg base D n) : FnOk P w K mg base (L2.CX P w) (3 * (n + 1) + 2) D.a_Days___len__ D.d_Days___len__ p_Days___len__ (spF (zz K D) pg (n + 1) 125) := by
  have sc : FnScope n_Days___len__ p_Days___len__ (defScope t_Days___len__) := scL_ok (by decide +kernel)
  refine Fun.okX (k := 3 * n + 4) (N := n_Days___len__) T.f_Days___len__ sc (spF_len (F := f_Days___len__) rfl) fun cdv A0 outer s H vs Q E hr h => ⟨_, ?_, spF_body (F := f_Days___len__) rfl rfl rfl (by decide) h⟩
  have tk := takes_of (X := cxOf (L2.CX P w) P w K mg base n_Days___len__ "Days.__len__" (defScope t_Days___len__) D.a_Days___len__ cdv A0 outer s H E) rfl rfl rfl rfl
  show PSs (cxOf (L2.CX P w) P w K mg base n_Days___len__ "Days.__len__" (defScope t_Days___len__) D.a_Days___len__ cdv A0 outer s H E) (defBody t_Days___len__) (rdS (zz K D) pg (run pg n) (fun cls d _ H2 => E cls d H2) c_Days___len__ )
  exact (s_one (s_ret (v_blt (cb_len rfl) (by rfl) T.n_len (by decide +kernel) (v_acons (v_att T.obj rfl (v_v 0)) v_anil))))
theorem w_Days___contains__ (T : Tx w K mg D) (A : All P w K mg base D n) : FnOk P w K mg base (L2.CX P w) (3 * (n + 1) + 2) D.a_Days___contains__ D.d_Days___contains__ p_Days___contains__ (spF (zz K D) pg (n + 1) 127) := by
  have sc : FnScope n_Days___contains__ p_Days___contains__ (defScope t_Days___contains__) := scL_ok (by decide +kernel)
  refine Fun.okX (k := 3 * n + 4) (N := n_Days___contains__) T.f_Days___contains__ sc (spF_len (F := f_Days___contains__) rfl) fun cdv A0 outer s H vs Q E hr h => ⟨_, ?_, spF_body (F := f_Days___contains__) rfl rfl rfl (by decide) h⟩
  have tk := takes_of (X := cxOf (L2.CX P w) P w K mg base n_Days___contains__ "Days.__contains__" (defScope t_Days___contains__) D.a_Days___contains__ cdv A0 outer s H E) rfl rfl rfl rfl
  show PSs (cxOf (L2.CX P w) P w K mg base n_Days___contains__ "Days.__contains__" (defScope t_Days___contains__) D.a_Days___contains__ cdv A0 outer s H E) (defBody t_Days___contains__) (rdS (zz K D) pg (run pg n) (fun cls d _ H2 => E cls d H2) c_Days___contains__ )
  exact (s_one (s_ret (v_and rfl (v_cal tk A.o_is_day (hr.mono (by omega)) (by rfl) T.m_is_day T.k_is_day T.b_is_day (v_acons (v_v 1) v_anil)) (v_one (v_cmp rfl (hu65 hr) (v_v 1) (v_att T.obj rfl (v_v 0)) (by with_unfolding_all rfl))))))
theorem w_Days___eq__ (T : Tx w K mg D) (A : All P w K mg base D n) : FnOk P w K mg base (L2.CX P w) (3 * (n + 1) + 2) D.a_Days___eq__ D.d_Days___eq__ p_Days___eq__ (spF (zz K D) pg (n + 1) 102) := by
  have sc : FnScope n_Days___eq__ p_Days___eq__ (defScope t_Days___eq__) := scL_ok (by decide +kernel)
  refine Fun.okX (k := 3 * n + 4) (N := n_Days___eq__) T.f_Days___eq__ sc (spF_len (F := f_Days___eq__) rfl) fun cdv A0 outer s H vs Q E hr h => ⟨_, ?_, spF_body (F := f_Days___eq__) rfl rfl rfl (by decide) h⟩
  have tk := takes_of (X := cxOf (L2.CX P w) P w K mg base n_Days___eq__ "Days.__eq__" (defScope t_Days___eq__) D.a_Days___eq__ cdv A0 outer s H E) rfl rfl rfl rfl
  show PSs (cxOf (L2.CX P w) P w K mg base n_Days___eq__ "Days.__eq__" (defScope t_Days___eq__) D.a_Days___eq__ cdv A0 outer s H E) (defBody t_Days___eq__) (rdS (zz K D) pg (run pg n) (fun cls d _ H2 => E cls d H2) c_Days___eq__ )
  exact (s_one (s_ret (v_and rfl (v_iso rfl T.pc T.ik_Days (T.it_Days) (by rfl) T.n_isinstance (by rfl) T.g_Days (v_v 1)) (v_one (v_cmp rfl (hu65 hr) (v_att T.obj rfl (v_v 0)) (v_att T.obj rfl (v_v 1)) (nomark _))))))
theorem w_Days___str__ (T : Tx w K mg D) (A : All P w K mg base D n) : FnOk P w K mg base (L2.CX P w) (3 * (n + 1) + 2) D.a_Days___str__ D.d_Days___str__ p_Days___str__ (spF (zz K D) pg (n + 1) 139) := by
  have sc : FnScope n_Days___str__ p_Days___str__ (defScope t_Days___str__) := scL_ok (by decide +kernel)
  refine Fun.okX (k := 3 * n + 4) (N := n_Days___str__) T.f_Days___str__ sc (spF_len (F := f_Days___str__) rfl) fun cdv A0 outer s H vs Q E hr h => ⟨_, ?_, spF_body (F := f_Days___str__) rfl rfl rfl (by decide) h⟩
  have tk := takes_of (X := cxOf (L2.CX P w) P w K mg base n_Days___str__ "Days.__str__" (defScope t_Days___str__) D.a_Days___str__ cdv A0 outer s H E) rfl rfl rfl rfl
  show PSs (cxOf (L2.CX P w) P w K mg base n_Days___str__ "Days.__str__" (defScope t_Days___str__) D.a_Days___str__ cdv A0 outer s H E) (defBody t_Days___str__) (rdS (zz K D) pg (run pg n) (fun cls d _ H2 => E cls d H2) c_Days___str__ )
  exact (s_one (s_ret (v_btm PySem.F.plainAttrs_str (rcv_str (.inl rfl)) PySem.F.slot_str_join PySem.F.type_str_join (mb_join rfl) (v_str (by decide +kernel)) (v_acons (v_frz (v_cal tk A.o_pieces_of (hr.mono (by omega)) (by rfl) T.m_pieces_of T.k_pieces_of T.b_pieces_of (v_acons (v_att T.obj rfl (v_v 0)) v_anil))) v_anil))))
theorem w_Days___repr__ (T : Tx w K mg D) (A : All P w K mg base D n) : FnOk P w K mg base (L2.CX P w) (3 * (n + 1) + 2) D.a_Days___repr__ D.d_Days___repr__ p_Days___repr__ (spF (zz K D) pg (n + 1) 126) := by
  have sc : FnScope n_Days___repr__ p_Days___repr__ (defScope t_Days___repr__) := scL_ok (by decide +kernel)
  refine Fun.okX (k := 3 * n + 4) (N := n_Days___repr__) T.f_Days___repr__ sc (spF_len (F := f_Days___repr__) rfl) fun cdv A0 outer s H vs Q E hr h => ⟨_, ?_, spF_body (F := f_Days___repr__) rfl rfl rfl (by decide) h⟩
  have tk := takes_of (X := cxOf (L2.CX P w) P w K mg base n_Days___repr__ "Days.__repr__" (defScope t_Days___repr__) D.a_Days___repr__ cdv A0 outer s H E) rfl rfl rfl rfl
  show PSs (cxOf (L2.CX P w) P w K mg base n_Days___repr__ "Days.__repr__" (defScope t_Days___repr__) D.a_Days___repr__ cdv A0 outer s H E) (defBody t_Days___repr__) (rdS (zz K D) pg (run pg n) (fun cls d _ H2 => E cls d H2) c_Days___repr__ )
  exact (s_cons (s_n 1 sc.nd (v_btm PySem.F.plainAttrs_str (rcv_str (.inl rfl)) PySem.F.slot_str_join PySem.F.type_str_join (mb_join rfl) (v_str (by decide +kernel)) (v_acons (v_frz (v_lc (own := [("day", 2)]) rfl rfl sc.nd (i_val rfl (v_att T.obj rfl (v_v 0))) (blkOk_by (N := n_Days___repr__) (sc := defScope t_Days___repr__) (by decide +kernel)) (tgOk_name (by decide)) (fun _ _ _ _ _ => g_k 2 sc.nd) (fun _ _ _ _ _ => ts_nil) (fun _ _ _ _ _ => (v_tos (by rfl) T.n_str (v_v 2))))) v_anil)))
    (s_one (s_ret (v_fst (fj_cons isS_kon (v_str (by decide +kernel)) (fj_cons isS_tos (v_fmt (v_v 1)) (fj_cons isS_kon (v_str (by decide +kernel)) fj_nil)))))))
theorem w__law_bag (T : Tx w K mg D) (A : All P w K mg base D n) : FnOk P w K mg base (L2.CX P w) (3 * (n + 1) + 2) D.a__law_bag D.d__law_bag p__law_bag (spF (zz K D) pg (n + 1) 2) := by
  have sc : FnScope n__law_bag p__law_bag (defScope t__law_bag) := scL_ok (by decide +kernel)
  refine Fun.okX (k := 3 * n + 4) (N := n__law_bag) T.f__law_bag sc (spF_len (F := f__law_bag) rfl) fun cdv A0 outer s H vs Q E hr h => ⟨_, ?_, spF_body (F := f__law_bag) rfl rfl rfl (by decide) h⟩
  have tk := takes_of (X := cxOf (L2.CX P w) P w K mg base n__law_bag "_law_bag" (defScope t__law_bag) D.a__law_bag cdv A0 outer s H E) rfl rfl rfl rfl
  show PSs (cxOf (L2.CX P w) P w K mg base n__law_bag "_law_bag" (defScope t__law_bag) D.a__law_bag cdv A0 outer s H E) (defBody t__law_bag) (rdS (zz K D) pg (run pg n) (fun cls d _ H2 => E cls d H2) c__law_bag )
  exact (s_cons (s_n 2 sc.nd (v_ite (t_cmp rfl (hu65 hr) (v_v 1) (v_blt (cb_len rfl) (by rfl) T.n_len (by decide +kernel) (v_acons (v_v 0) v_anil)) (nomark _)) (v_idx rfl (v_v 0) (v_v 1) (fun _ _ => rfl)) v_int))
    (s_cons (s_n 3 sc.nd (v_bin rfl rfl (v_bin rfl rfl v_int (v_v 1)) v_int))
    (s_cons (s_for (passes_of rfl) rfl (i_enum rfl (by rfl) T.n_enumerate (v_frz (v_slc rfl (v_v 0) o_none (o_some v_int)))) (g_tup rfl rfl (g_cons (g_n 4 sc.nd) (g_cons (g_n 5 sc.nd) g_nil)) (gcons_len (gcons_len gnil_len))) (s_one (s_n 3 sc.nd (v_bin rfl rfl (v_blty (cb_int) (by rfl) T.n_int (by decide +kernel) (v_acons (v_bin rfl rfl (v_bin rfl rfl (v_bin rfl rfl (v_bin rfl rfl (v_v 3) v_int) (v_bin rfl rfl (v_blty (cb_int) (by rfl) T.n_int (by decide +kernel) (v_acons (v_v 5) v_anil)) v_int)) (v_bin rfl rfl v_int (v_v 4))) v_int) v_anil)) v_int))))
    (s_one (s_ret (v_lst (v_acons (v_ite (t_cmp rfl (hu65 hr) (v_blt (cb_abs) (by rfl) T.n_abs (by decide +kernel) (v_acons (v_v 2) v_anil)) (v_bin rfl rfl v_int v_int) (nomark _)) (v_blt (cb_abs) (by rfl) T.n_abs (by decide +kernel) (v_acons (v_v 2) v_anil)) v_int) (v_acons (v_v 3) v_anil))))))))
theorem w__law_take (T : Tx w K mg D) (A : All P w K mg base D n) : FnOk P w K mg base (L2.CX P w) (3 * (n + 1) + 2) D.a__law_take D.d__law_take p__law_take (spF (zz K D) pg (n + 1) 59) := by
  have sc : FnScope n__law_take p__law_take (defScope t__law_take) := scL_ok (by decide +kernel)
  refine Fun.okX (k := 3 * n + 4) (N := n__law_take) T.f__law_take sc (spF_len (F := f__law_take) rfl) fun cdv A0 outer s H vs Q E hr h => ⟨_, ?_, spF_body (F := f__law_take) rfl rfl rfl (by decide) h⟩
  have tk := takes_of (X := cxOf (L2.CX P w) P w K mg base n__law_take "_law_take" (defScope t__law_take) D.a__law_take cdv A0 outer s H E) rfl rfl rfl rfl
  show PSs (cxOf (L2.CX P w) P w K mg base n__law_take "_law_take" (defScope t__law_take) D.a__law_take cdv A0 outer s H E) (defBody t__law_take) (rdS (zz K D) pg (run pg n) (fun cls d _ H2 => E cls d H2) c__law_take )
  exact (s_cons (s_if (t_cmp rfl (hu65 hr) (v_idx rfl (v_v 0) v_int (fun _ _ => rfl)) v_int (nomark _)) (s_cons (s_n 2 sc.nd (v_bin rfl rfl (v_blty (cb_int) (by rfl) T.n_int (by decide +kernel) (v_acons (v_idx rfl (v_v 0) v_int (fun _ _ => rfl)) v_anil)) (v_v 1)))
    (s_cons (s_asg (v_bin rfl rfl (v_idx rfl (v_v 0) v_int (fun _ _ => rfl)) (v_v 1)) (g_idx (W := W0) (v_v 0) v_int))
    (s_one (s_ret (v_v 2))))) s_nil)
    (s_cons (s_asg (v_bin rfl rfl (v_blty (cb_int) (by rfl) T.n_int (by decide +kernel) (v_acons (v_bin rfl rfl (v_bin rfl rfl (v_idx rfl (v_v 0) v_int (fun _ _ => rfl)) v_int) v_int) v_anil)) v_int) (g_idx (W := W0) (v_v 0) v_int))
    (s_one (s_ret (v_bin rfl rfl (v_bin rfl rfl (v_bin rfl rfl (v_blty (cb_int) (by rfl) T.n_int (by decide +kernel) (v_acons (v_bin rfl rfl (v_bin rfl rfl (v_idx rfl (v_v 0) v_int (fun _ _ => rfl)) v_int) v_int) v_anil)) v_int) v_int) (v_v 1))))))
theorem w__law_of (T : Tx w K mg D) (A : All P w K mg base D n) : FnOk P w K mg base (L2.CX P w) (3 * (n + 1) + 2) D.a__law_of D.d__law_of p__law_of (spF (zz K D) pg (n + 1) 4) := by
  have sc : FnScope n__law_of p__law_of (defScope t__law_of) := scL_ok (by decide +kernel)
  refine Fun.okX (k := 3 * n + 4) (N := n__law_of) T.f__law_of sc (spF_len (F := f__law_of) rfl) fun cdv A0 outer s H vs Q E hr h => ⟨_, ?_, spF_body (F := f__law_of) rfl rfl rfl (by decide) h⟩
  have tk := takes_of (X := cxOf (L2.CX P w) P w K mg base n__law_of "_law_of" (defScope t__law_of) D.a__law_of cdv A0 outer s H E) rfl rfl rfl rfl
  show PSs (cxOf (L2.CX P w) P w K mg base n__law_of "_law_of" (defScope t__law_of) D.a__law_of cdv A0 outer s H E) (defBody t__law_of) (rdS (zz K D) pg (run pg n) (fun cls d _ H2 => E cls d H2) c__law_of )
  exact (s_one (s_ret (v_idx rfl (v_v 1) (v_cal tk A.o__law_take (hr.mono (by omega)) (by rfl) T.m__law_take T.k__law_take T.b__law_take (v_acons (v_v 0) (v_acons (v_blt (cb_len rfl) (by rfl) T.n_len (by decide +kernel) (v_acons (v_v 1) v_anil)) v_anil))) (fun _ _ => rfl))))
theorem w__law_day (T : Tx w K mg D) (A : All P w K mg base D n) : FnOk P w K mg base (L2.CX P w) (3 * (n + 1) + 2) D.a__law_day D.d__law_day p__law_day (spF (zz K D) pg (n + 1) 96) := by
  have sc : FnScope n__law_day p__law_day (defScope t__law_day) := scL_ok (by decide +kernel)
  refine Fun.okX (k := 3 * n + 4) (N := n__law_day) T.f__law_day sc (spF_len (F := f__law_day) rfl) fun cdv A0 outer s H vs Q E hr h => ⟨_, ?_, spF_body (F := f__law_day) rfl rfl rfl (by decide) h⟩
  have tk := takes_of (X := cxOf (L2.CX P w) P w K mg base n__law_day "_law_day" (defScope t__law_day) D.a__law_day cdv A0 outer s H E) rfl rfl rfl rfl
  show PSs (cxOf (L2.CX P w) P w K mg base n__law_day "_law_day" (defScope t__law_day) D.a__law_day cdv A0 outer s H E) (defBody t__law_day) (rdS (zz K D) pg (run pg n) (fun cls d _ H2 => E cls d H2) c__law_day )
  exact (s_cons (s_n 1 sc.nd (v_cal tk A.o__law_take (hr.mono (by omega)) (by rfl) T.m__law_take T.k__law_take T.b__law_take (v_acons (v_v 0) (v_acons v_int v_anil))))
    (s_cons (s_if (t_cmp rfl (hu65 hr) (v_v 1) v_int (nomark _)) (s_one (s_ret (v_cal tk A.o__law_take (hr.mono (by omega)) (by rfl) T.m__law_take T.k__law_take T.b__law_take (v_acons (v_v 0) (v_acons v_int v_anil))))) s_nil)
    (s_cons (s_if (t_cmp rfl (hu65 hr) (v_v 1) v_int (nomark _)) (s_one (s_ret (v_bin rfl rfl (v_bin rfl rfl v_int v_int) (v_cal tk A.o__law_take (hr.mono (by omega)) (by rfl) T.m__law_take T.k__law_take T.b__law_take (v_acons (v_v 0) (v_acons v_int v_anil)))))) s_nil)
    (s_cons (s_if (t_cmp rfl (hu65 hr) (v_v 1) v_int (nomark _)) (s_one (s_ret (v_cal tk A.o__law_take (hr.mono (by omega)) (by rfl) T.m__law_take T.k__law_take T.b__law_take (v_acons (v_v 0) (v_acons v_int v_anil))))) s_nil)
    (s_one (s_ret (v_bin rfl rfl (v_bin rfl rfl (v_cal tk A.o__law_take (hr.mono (by omega)) (by rfl) T.m__law_take T.k__law_take T.b__law_take (v_acons (v_v 0) (v_acons (v_bin rfl rfl v_int v_int) v_anil))) (v_bin rfl rfl v_int v_int)) (v_cal tk A.o__law_take (hr.mono (by omega)) (by rfl) T.m__law_take T.k__law_take T.b__law_take (v_acons (v_v 0) (v_acons (v_bin rfl rfl v_int v_int) v_anil))))))))))
theorem w__law_some (T : Tx w K mg D) (A : All P w K mg base D n) : FnOk P w K mg base (L2.CX P w) (3 * (n + 1) + 2) D.a__law_some D.d__law_some p__law_some (spF (zz K D) pg (n + 1) 135) := by
  have sc : FnScope n__law_some p__law_some (defScope t__law_some) := scL_ok (by decide +kernel)
  refine Fun.okX (k := 3 * n + 4) (N := n__law_some) T.f__law_some sc (spF_len (F := f__law_some) rfl) fun cdv A0 outer s H vs Q E hr h => ⟨_, ?_, spF_body (F := f__law_some) rfl rfl rfl (by decide) h⟩
  have tk := takes_of (X := cxOf (L2.CX P w) P w K mg base n__law_some "_law_some" (defScope t__law_some) D.a__law_some cdv A0 outer s H E) rfl rfl rfl rfl
  show PSs (cxOf (L2.CX P w) P w K mg base n__law_some "_law_some" (defScope t__law_some) D.a__law_some cdv A0 outer s H E) (defBody t__law_some) (rdS (zz K D) pg (run pg n) (fun cls d _ H2 => E cls d H2) c__law_some )
  exact (s_cons (s_n 1 sc.nd (v_lst v_anil))
    (s_cons (s_for (passes_of rfl) rfl (i_rng1 (by rfl) T.n_range (v_cal tk A.o__law_take (hr.mono (by omega)) (by rfl) T.m__law_take T.k__law_take T.b__law_take (v_acons (v_v 0) (v_acons v_int v_anil)))) (g_n 2 sc.nd) (s_cons (s_n 3 sc.nd (v_cal tk A.o__law_day (hr.mono (by omega)) (by rfl) T.m__law_day T.k__law_day T.b__law_day (v_acons (v_v 0) v_anil)))
    (s_cons (s_if (PW.pt (w_and (t_cmp rfl (hu65 hr) (v_v 1) (v_frz (v_lst v_anil)) (nomark _)) (w_one_and (t_cmp rfl (hu65 hr) (v_cal tk A.o__law_take (hr.mono (by omega)) (by rfl) T.m__law_take T.k__law_take T.b__law_take (v_acons (v_v 0) (v_acons v_int v_anil))) v_int (nomark _))))) (s_one (s_n 3 sc.nd (v_blt (cb_min rfl) (by rfl) T.n_min (by decide +kernel) (v_acons (v_bin rfl rfl v_int v_int) (v_acons (v_bin rfl rfl (v_cal tk A.o__law_of (hr.mono (by omega)) (by rfl) T.m__law_of T.k__law_of T.b__law_of (v_acons (v_v 0) (v_acons (v_v 1) v_anil))) (v_cal tk A.o__law_take (hr.mono (by omega)) (by rfl) T.m__law_take T.k__law_take T.b__law_take (v_acons (v_v 0) (v_acons v_int v_anil)))) v_anil))))) s_nil)
    (s_one (s_exp (v_btm PySem.F.plainAttrs_list (rcv_list rfl fun _ _ => rfl) PySem.F.slot_list_append PySem.F.type_list_append mb_append (v_v 1) (v_acons (v_v 3) v_anil)))))))
    (s_one (s_ret (v_v 1)))))
theorem w__law_made (T : Tx w K mg D) (A : All P w K mg base D n) : FnOk P w K mg base (L2.CX P w) (3 * (n + 1) + 2) D.a__law_made D.d__law_made p__law_made (spF (zz K D) pg (n + 1) 19) := by
  have sc : FnScope n__law_made p__law_made (defScope t__law_made) := scL_ok (by decide +kernel)
  refine Fun.okX (k := 3 * n + 4) (N := n__law_made) T.f__law_made sc (spF_len (F := f__law_made) rfl) fun cdv A0 outer s H vs Q E hr h => ⟨_, ?_, spF_body (F := f__law_made) rfl rfl rfl (by decide) h⟩
  have tk := takes_of (X := cxOf (L2.CX P w) P w K mg base n__law_made "_law_made" (defScope t__law_made) D.a__law_made cdv A0 outer s H E) rfl rfl rfl rfl
  show PSs (cxOf (L2.CX P w) P w K mg base n__law_made "_law_made" (defScope t__law_made) D.a__law_made cdv A0 outer s H E) (defBody t__law_made) (rdS (zz K D) pg (run pg n) (fun cls d _ H2 => E cls d H2) c__law_made )
  exact (s_cons (s_if (t_cmp rfl (hu65 hr) (v_blt (cb_len rfl) (by rfl) T.n_len (by decide +kernel) (v_acons (v_v 0) v_anil)) v_int (nomark _)) (s_one (s_ret (v_frz (v_newv tk T.mk_Days A.o_Days___init__ (hr.mono (by omega)) T.bv_Days___init__ rfl (v_kcls (by rfl) T.g_Days) ca_nil')))) s_nil)
    (s_cons (s_if (t_cmp rfl (hu65 hr) (v_blt (cb_len rfl) (by rfl) T.n_len (by decide +kernel) (v_acons (v_v 0) v_anil)) v_int (nomark _)) (s_one (s_ret (v_frz (v_newv tk T.mk_Days A.o_Days___init__ (hr.mono (by omega)) T.bv_Days___init__ rfl (v_kcls (by rfl) T.g_Days) (ca_plain (v_acons (v_idx rfl (v_v 0) v_int (fun _ _ => rfl)) v_anil)))))) s_nil)
    (s_cons (s_if (t_cmp rfl (hu65 hr) (v_blt (cb_len rfl) (by rfl) T.n_len (by decide +kernel) (v_acons (v_v 0) v_anil)) v_int (nomark _)) (s_one (s_ret (v_frz (v_newv tk T.mk_Days A.o_Days___init__ (hr.mono (by omega)) T.bv_Days___init__ rfl (v_kcls (by rfl) T.g_Days) (ca_plain (v_acons (v_idx rfl (v_v 0) v_int (fun _ _ => rfl)) (v_acons (v_idx rfl (v_v 0) v_int (fun _ _ => rfl)) v_anil))))))) s_nil)
    (s_cons (s_if (t_cmp rfl (hu65 hr) (v_blt (cb_len rfl) (by rfl) T.n_len (by decide +kernel) (v_acons (v_v 0) v_anil)) v_int (nomark _)) (s_one (s_ret (v_frz (v_newv tk T.mk_Days A.o_Days___init__ (hr.mono (by omega)) T.bv_Days___init__ rfl (v_kcls (by rfl) T.g_Days) (ca_plain (v_acons (v_idx rfl (v_v 0) v_int (fun _ _ => rfl)) (v_acons (v_idx rfl (v_v 0) v_int (fun _ _ => rfl)) (v_acons (v_idx rfl (v_v 0) v_int (fun _ _ => rfl)) v_anil)))))))) s_nil)
    (s_cons (s_if (t_cmp rfl (hu65 hr) (v_blt (cb_len rfl) (by rfl) T.n_len (by decide +kernel) (v_acons (v_v 0) v_anil)) v_int (nomark _)) (s_one (s_ret (v_frz (v_newv tk T.mk_Days A.o_Days___init__ (hr.mono (by omega)) T.bv_Days___init__ rfl (v_kcls (by rfl) T.g_Days) (ca_plain (v_acons (v_idx rfl (v_v 0) v_int (fun _ _ => rfl)) (v_acons (v_idx rfl (v_v 0) v_int (fun _ _ => rfl)) (v_acons (v_idx rfl (v_v 0) v_int (fun _ _ => rfl)) (v_acons (v_idx rfl (v_v 0) v_int (fun _ _ => rfl)) v_anil))))))))) s_nil)
    (s_cons (s_if (t_cmp rfl (hu65 hr) (v_blt (cb_len rfl) (by rfl) T.n_len (by decide +kernel) (v_acons (v_v 0) v_anil)) v_int (nomark _)) (s_one (s_ret (v_frz (v_newv tk T.mk_Days A.o_Days___init__ (hr.mono (by omega)) T.bv_Days___init__ rfl (v_kcls (by rfl) T.g_Days) (ca_plain (v_acons (v_idx rfl (v_v 0) v_int (fun _ _ => rfl)) (v_acons (v_idx rfl (v_v 0) v_int (fun _ _ => rfl)) (v_acons (v_idx rfl (v_v 0) v_int (fun _ _ => rfl)) (v_acons (v_idx rfl (v_v 0) v_int (fun _ _ => rfl)) (v_acons (v_idx rfl (v_v 0) v_int (fun _ _ => rfl)) v_anil)))))))))) s_nil)
    (s_one (s_ret (v_frz (v_newv tk T.mk_Days A.o_Days___init__ (hr.mono (by omega)) T.bv_Days___init__ rfl (v_kcls (by rfl) T.g_Days) (ca_plain (v_acons (v_idx rfl (v_v 0) v_int (fun _ _ => rfl)) (v_acons (v_idx rfl (v_v 0) v_int (fun _ _ => rfl)) (v_acons (v_idx rfl (v_v 0) v_int (fun _ _ => rfl)) (v_acons (v_idx rfl (v_v 0) v_int (fun _ _ => rfl)) (v_acons (v_idx rfl (v_v 0) v_int (fun _ _ => rfl)) (v_acons (v_idx rfl (v_v 0) v_int (fun _ _ => rfl)) v_anil)))))))))))))))))
theorem w__law_written (T : Tx w K mg D) (A : All P w K mg base D n) : FnOk P w K mg base (L2.CX P w) (3 * (n + 1) + 2) D.a__law_written D.d__law_written p__law_written (spF (zz K D) pg (n + 1) 140) := by
  have sc : FnScope n__law_written p__law_written (defScope t__law_written) := scL_ok (by decide +kernel)
  refine Fun.okX (k := 3 * n + 4) (N := n__law_written) T.f__law_written sc (spF_len (F := f__law_written) rfl) fun cdv A0 outer s H vs Q E hr h => ⟨_, ?_, spF_body (F := f__law_written) rfl rfl rfl (by decide) h⟩
  have tk := takes_of (X := cxOf (L2.CX P w) P w K mg base n__law_written "_law_written" (defScope t__law_written) D.a__law_written cdv A0 outer s H E) rfl rfl rfl rfl
  show PSs (cxOf (L2.CX P w) P w K mg base n__law_written "_law_written" (defScope t__law_written) D.a__law_written cdv A0 outer s H E) (defBody t__law_written) (rdS (zz K D) pg (run pg n) (fun cls d _ H2 => E cls d H2) c__law_written )
  exact (s_cons (s_par rfl sc.nd rfl rfl (by decide) rfl rfl (v_lst v_anil) v_int (by first | rfl | kernel_rfl))
    (s_cons (s_for (passes_of rfl) rfl (i_rng1 (by rfl) T.n_range (v_blt (cb_len rfl) (by rfl) T.n_len (by decide +kernel) (v_acons (v_v 0) v_anil))) (g_n 3 sc.nd) (s_one (s_if (t_cmp rfl (hu65 hr) (v_v 2) (v_blt (cb_len rfl) (by rfl) T.n_len (by decide +kernel) (v_acons (v_v 0) v_anil)) (nomark _)) (s_cons (s_n 4 sc.nd (v_v 2))
    (s_cons (s_for (passes_of rfl) rfl (i_rng2 (by rfl) T.n_range (v_bin rfl rfl (v_v 2) v_int) (v_blt (cb_len rfl) (by rfl) T.n_len (by decide +kernel) (v_acons (v_v 0) v_anil))) (g_n 5 sc.nd) (s_one (s_if (t_cmp rfl (hu65 hr) (v_idx rfl (v_v 0) (v_v 5) (fun _ _ => rfl)) (v_bin rfl rfl (v_bin rfl rfl (v_idx rfl (v_v 0) (v_v 2) (fun _ _ => rfl)) (v_v 5)) (v_v 2)) (nomark _)) (s_one (s_n 4 sc.nd (v_v 5))) s_nil)))
    (s_cons (s_exp (v_btm PySem.F.plainAttrs_list (rcv_list rfl fun _ _ => rfl) PySem.F.slot_list_append PySem.F.type_list_append mb_append (v_v 1) (v_acons (v_ite (t_cmp rfl (hu65 hr) (v_v 4) (v_v 2) (nomark _)) (v_tos (by rfl) T.n_str (v_idx rfl (v_v 0) (v_v 2) (fun _ _ => rfl))) (v_bin rfl rfl (v_bin rfl rfl (v_tos (by rfl) T.n_str (v_idx rfl (v_v 0) (v_v 2) (fun _ _ => rfl))) (v_str (by decide +kernel))) (v_tos (by rfl) T.n_str (v_idx rfl (v_v 0) (v_v 4) (fun _ _ => rfl))))) v_anil)))
    (s_one (s_n 2 sc.nd (v_bin rfl rfl (v_v 4) v_int)))))) s_nil)))
    (s_one (s_ret (v_btm PySem.F.plainAttrs_str (rcv_str (.inl rfl)) PySem.F.slot_str_join PySem.F.type_str_join (mb_join rfl) (v_str (by decide +kernel)) (v_acons (v_v 1) v_anil))))))
theorem w__law_is_list (T : Tx w K mg D) (A : All P w K mg base D n) : FnOk P w K mg base (L2.CX P w) (3 * (n + 1) + 2) D.a__law_is_list D.d__law_is_list p__law_is_list (spF (zz K D) pg (n + 1) 137) := by
  have sc : FnScope n__law_is_list p__law_is_list (defScope t__law_is_list) := scL_ok (by decide +kernel)
  refine Fun.okX (k := 3 * n + 4) (N := n__law_is_list) T.f__law_is_list sc (spF_len (F := f__law_is_list) rfl) fun cdv A0 outer s H vs Q E hr h => ⟨_, ?_, spF_body (F := f__law_is_list) rfl rfl rfl (by decide) h⟩
  have tk := takes_of (X := cxOf (L2.CX P w) P w K mg base n__law_is_list "_law_is_list" (defScope t__law_is_list) D.a__law_is_list cdv A0 outer s H E) rfl rfl rfl rfl
  show PSs (cxOf (L2.CX P w) P w K mg base n__law_is_list "_law_is_list" (defScope t__law_is_list) D.a__law_is_list cdv A0 outer s H E) (defBody t__law_is_list) (rdS (zz K D) pg (run pg n) (fun cls d _ H2 => E cls d H2) c__law_is_list )
  exact (s_cons (s_if (PW.pt (w_or (t_not (t_val rfl (v_isb rfl T.pc T.nb_list rfl (by rfl) T.n_isinstance (by rfl) T.n_list (by decide +kernel) (v_v 0)) (fun _ => rfl))) (w_one_or (t_cmp rfl (hu65 hr) (v_v 0) (v_v 1) (nomark _))))) (s_one (s_ret v_bl)) s_nil)
    (s_one (s_ret (v_blt (cb_all rfl rfl) (by rfl) T.n_all (by decide +kernel) (v_acons (v_frz (v_lc (own := [("_law_day_here", 2)]) rfl rfl sc.nd (i_val rfl (v_v 0)) (blkOk_by (N := n__law_is_list) (sc := defScope t__law_is_list) (by decide +kernel)) (tgOk_name (by decide)) (fun _ _ _ _ _ => g_k 2 sc.nd) (fun _ _ _ _ _ => ts_nil) (fun _ _ _ _ _ => (v_and rfl (v_isb rfl T.pc T.nb_int rfl (by rfl) T.n_isinstance (by rfl) T.n_int (by decide +kernel) (v_v 2)) (v_one (v_not rfl (v_isb rfl T.pc T.nb_bool rfl (by rfl) T.n_isinstance (by rfl) T.n_bool (by decide +kernel) (v_v 2)))))))) v_anil)))))
theorem w__law_from (T : Tx w K mg D) (A : All P w K mg base D n) : FnOk P w K mg base (L2.CX P w) (3 * (n + 1) + 2) D.a__law_from D.d__law_from p__law_from (spF (zz K D) pg (n + 1) 138) := by
  have sc : FnScope n__law_from p__law_from (defScope t__law_from) := scL_ok (by decide +kernel)
  refine Fun.okX (k := 3 * n + 4) (N := n__law_from) T.f__law_from sc (spF_len (F := f__law_from) rfl) fun cdv A0 outer s H vs Q E hr h => ⟨_, ?_, spF_body (F := f__law_from) rfl rfl rfl (by decide) h⟩
  have tk := takes_of (X := cxOf (L2.CX P w) P w K mg base n__law_from "_law_from" (defScope t__law_from) D.a__law_from cdv A0 outer s H E) rfl rfl rfl rfl
  show PSs (cxOf (L2.CX P w) P w K mg base n__law_from "_law_from" (defScope t__law_from) D.a__law_from cdv A0 outer s H E) (defBody t__law_from) (rdS (zz K D) pg (run pg n) (fun cls d _ H2 => E cls d H2) c__law_from )
  exact (s_cons (s_setlcf (own := [("_law_each", 3)]) rfl rfl sc.nd rfl rfl rfl (i_val rfl (v_v 0)) (blkOk_by (N := n__law_from) (sc := defScope t__law_from) (by decide +kernel)) (tgOk_name (by decide)) (fun _ _ _ _ _ => g_k 3 sc.nd) (fun _ _ _ _ _ => (ts_one (t_cmp rfl (hu65 hr) (v_v 3) (v_v 1) (nomark _)))) (fun _ _ _ _ _ => (v_v 3)))
    (s_one (s_ret (v_ite (t_cmp rfl (hu65 hr) (v_v 2) (v_frz (v_lst v_anil)) (nomark _)) (v_idx rfl (v_v 2) v_int (fun _ _ => rfl)) v_non))))
theorem w__law_asked (T : Tx w K mg D) (A : All P w K mg base D n) : FnOk P w K mg base (L2.CX P w) (3 * (n + 1) + 2) D.a__law_asked D.d__law_asked p__law_asked (spF (zz K D) pg (n + 1) 136) := by
  have sc : FnScope n__law_asked p__law_asked (defScope t__law_asked) := scL_ok (by decide +kernel)
  refine Fun.okX (k := 3 * n + 4) (N := n__law_asked) T.f__law_asked sc (spF_len (F := f__law_asked) rfl) fun cdv A0 outer s H vs Q E hr h => ⟨_, ?_, spF_body (F := f__law_asked) rfl rfl rfl (by decide) h⟩
  have tk := takes_of (X := cxOf (L2.CX P w) P w K mg base n__law_asked "_law_asked" (defScope t__law_asked) D.a__law_asked cdv A0 outer s H E) rfl rfl rfl rfl
  show PSs (cxOf (L2.CX P w) P w K mg base n__law_asked "_law_asked" (defScope t__law_asked) D.a__law_asked cdv A0 outer s H E) (defBody t__law_asked) (rdS (zz K D) pg (run pg n) (fun cls d _ H2 => E cls d H2) c__law_asked )
  exact (s_cons (s_n 3 sc.nd (v_mth0 T.obj tk rfl T.cl_Days T.me_Days_listed A.o_Days_listed (hr.mono (by omega)) T.b_Days_listed (v_v 0)))
    (s_cons (s_if (PW.pt (w_or (t_not (t_val rfl (v_cal tk A.o__law_is_list (hr.mono (by omega)) (by rfl) T.m__law_is_list T.k__law_is_list T.b__law_is_list (v_acons (v_v 3) (v_acons (v_v 1) v_anil))) (fun _ => rfl))) (w_one_or (t_not (t_val rfl (v_cal tk A.o__law_is_list (hr.mono (by omega)) (by rfl) T.m__law_is_list T.k__law_is_list T.b__law_is_list (v_acons (v_frz (v_lsg rfl T.obj rfl rfl T.cl_Days T.me_Days_each (gf_Days_each T) (hr.mono (by omega)) T.b_Days_each (by rfl) T.n_list (by decide +kernel) (v_v 0))) (v_acons (v_v 1) v_anil))) (fun _ => rfl)))))) (s_one (s_ret v_bl)) s_nil)
    (s_cons (s_exp (v_btm PySem.F.plainAttrs_list (rcv_list rfl fun _ _ => rfl) PySem.F.slot_list_append PySem.F.type_list_append mb_append (v_v 3) (v_acons v_int v_anil)))
    (s_cons (s_if (PW.pt (w_or (t_not (t_val rfl (v_cal tk A.o__law_is_list (hr.mono (by omega)) (by rfl) T.m__law_is_list T.k__law_is_list T.b__law_is_list (v_acons (v_frz (v_mth0 T.obj tk rfl T.cl_Days T.me_Days_listed A.o_Days_listed (hr.mono (by omega)) T.b_Days_listed (v_v 0))) (v_acons (v_v 1) v_anil))) (fun _ => rfl))) (w_one_or (t_cmp rfl (hu65 hr) (v_own1 (fun _ => rfl) (fun _ => rfl) rfl (run_olen T.om_Days___len__ A.o_Days___len__ (hr.mono (by omega)) T.b_Days___len__) (.inl ⟨_, rfl, by decide +kernel⟩) (by rfl) T.n_len (v_v 0)) (v_blt (cb_len rfl) (by rfl) T.n_len (by decide +kernel) (v_acons (v_v 1) v_anil)) (nomark _))))) (s_one (s_ret v_bl)) s_nil)
    (s_cons (s_for (passes_of rfl) rfl (i_val rfl (v_v 2)) (g_n 4 sc.nd) (s_cons (s_n 5 sc.nd (v_mth T.obj tk rfl T.cl_Days T.me_Days_from_day A.o_Days_from_day (hr.mono (by omega)) T.b_Days_from_day (v_v 0) (v_acons (v_v 4) v_anil)))
    (s_one (s_if (PW.pt (w_or (t_cmp rfl (hu65 hr) (v_oin T.om_Days___contains__ A.o_Days___contains__ (hr.mono (by omega)) T.b_Days___contains__ (v_v 4) (v_v 0)) (v_cmp rfl (hu65 hr) (v_v 4) (v_v 1) (by with_unfolding_all rfl)) (nomark _)) (w_or (t_cmp rfl (hu65 hr) (v_v 5) (v_cal tk A.o__law_from (hr.mono (by omega)) (by rfl) T.m__law_from T.k__law_from T.b__law_from (v_acons (v_v 1) (v_acons (v_v 4) v_anil))) (nomark _)) (w_one_or (t_val rfl (v_isb rfl T.pc T.nb_bool rfl (by rfl) T.n_isinstance (by rfl) T.n_bool (by decide +kernel) (v_v 5)) (fun _ => rfl)))))) (s_one (s_ret v_bl)) s_nil))))
    (s_cons (s_for (passes_of rfl) rfl (i_val rfl (v_frz (v_lst (v_acons v_bl (v_acons v_bl (v_acons v_non (v_acons (v_str (by decide +kernel)) (v_acons (v_tou rfl hr (by rfl) T.n_str (v_v 1)) (v_acons (v_frz (v_lst (v_acons v_int v_anil))) (v_acons (v_tup (v_acons v_int v_anil)) (v_acons (v_bin rfl rfl (v_bin rfl rfl v_int v_int) v_int) (v_acons (v_neg v_int) v_anil)))))))))))) (g_n 6 sc.nd) (s_one (s_if (t_cmp rfl (hu65 hr) (v_oin T.om_Days___contains__ A.o_Days___contains__ (hr.mono (by omega)) T.b_Days___contains__ (v_v 6) (v_v 0)) v_bl (nomark _)) (s_one (s_ret v_bl)) s_nil)))
    (s_cons (s_n 7 sc.nd (v_bin rfl rfl (v_bin rfl rfl (v_str (by decide +kernel)) (v_btm PySem.F.plainAttrs_str (rcv_str (.inl rfl)) PySem.F.slot_str_join PySem.F.type_str_join (mb_join rfl) (v_str (by decide +kernel)) (v_acons (v_frz (v_lc (own := [("_law_day_here", 4)]) rfl rfl sc.nd (i_val rfl (v_v 1)) (blkOk_by (N := n__law_asked) (sc := defScope t__law_asked) (by decide +kernel)) (tgOk_name (by decide)) (fun _ _ _ _ _ => g_k 4 sc.nd) (fun _ _ _ _ _ => ts_nil) (fun _ _ _ _ _ => (v_tos (by rfl) T.n_str (v_v 4))))) v_anil))) (v_str (by decide +kernel))))
    (s_one (s_ret (v_and rfl (v_cmp rfl (hu65 hr) (v_own1 (fun _ => rfl) (fun _ => rfl) rfl (run_ostr T.om_Days___str__ A.o_Days___str__ (hr.mono (by omega)) T.b_Days___str__) (.inr ⟨_, rfl, by decide +kernel⟩) (by rfl) T.n_str (v_v 0)) (v_cal tk A.o__law_written (hr.mono (by omega)) (by rfl) T.m__law_written T.k__law_written T.b__law_written (v_acons (v_v 1) v_anil)) (nomark _)) (v_one (v_cmp rfl (hu65 hr) (v_own1 (fun _ => rfl) (fun _ => rfl) rfl (run_orep T.om_Days___repr__ A.o_Days___repr__ (hr.mono (by omega)) T.b_Days___repr__) (.inl ⟨_, rfl, by decide +kernel⟩) (by rfl) T.n_repr (v_v 0)) (v_v 7) (nomark _)))))))))))))
theorem w_law (T : Tx w K mg D) (A : All P w K mg base D n) : FnOk P w K mg base (L2.CX P w) (3 * (n + 1) + 2) D.a_law D.d_law p_law (spF (zz K D) pg (n + 1) 8) := by
  have sc : FnScope n_law p_law (defScope t_law) := scL_ok (by decide +kernel)
  refine Fun.okX (k := 3 * n + 4) (N := n_law) T.f_law sc (spF_len (F := f_law) rfl) fun cdv A0 outer s H vs Q E hr h => ⟨_, ?_, spF_body (F := f_law) rfl rfl rfl (by decide) h⟩
  have tk := takes_of (X := cxOf (L2.CX P w) P w K mg base n_law "law" (defScope t_law) D.a_law cdv A0 outer s H E) rfl rfl rfl rfl
  show PSs (cxOf (L2.CX P w) P w K mg base n_law "law" (defScope t_law) D.a_law cdv A0 outer s H E) (defBody t_law) (rdS (zz K D) pg (run pg n) (fun cls d _ H2 => E cls d H2) c_law )
  exact (s_cons (s_if (PW.pt (w_or (t_cmp rfl (hu65 hr) (v_cgl (by rfl) T.g_Days T.ck_Days_MOST rfl rfl) v_int (nomark _)) (w_one_or (t_cmp rfl (hu65 hr) (v_cgl (by rfl) T.g_Days T.ck_Days_LAST rfl rfl) (v_bin rfl rfl v_int v_int) (nomark _))))) (s_one (s_ret v_bl)) s_nil)
    (s_cons (s_for (passes_of rfl) rfl (i_rng1 (by rfl) T.n_range (v_blt (cb_max rfl) (by rfl) T.n_max (by decide +kernel) (v_acons v_int (v_acons (v_blt (cb_min rfl) (by rfl) T.n_min (by decide +kernel) (v_acons (v_blt (cb_len rfl) (by rfl) T.n_len (by decide +kernel) (v_acons (v_v 0) v_anil)) (v_acons v_int v_anil))) v_anil)))) (g_n 1 sc.nd) (s_cons (s_n 2 sc.nd (v_cal tk A.o__law_bag (hr.mono (by omega)) (by rfl) T.m__law_bag T.k__law_bag T.b__law_bag (v_acons (v_v 0) (v_acons (v_v 1) v_anil))))
    (s_cons (s_n 3 sc.nd (v_frz (v_cal tk A.o__law_some (hr.mono (by omega)) (by rfl) T.m__law_some T.k__law_some T.b__law_some (v_acons (v_v 2) v_anil))))
    (s_cons (s_par rfl sc.nd rfl rfl (by decide) rfl rfl (v_frz (v_blt (cb_sorteds rfl T.ew.symm rfl (hu65 hr)) (by rfl) T.n_sorted (by decide +kernel) (v_acons (v_setv rfl T.ew.symm rfl (by rfl) T.n_set (v_v 3)) v_anil))) (v_frz (v_blt (cb_sorteds rfl T.ew.symm rfl (hu65 hr)) (by rfl) T.n_sorted (by decide +kernel) (v_acons (v_setv rfl T.ew.symm rfl (by rfl) T.n_set (v_frz (v_cal tk A.o__law_some (hr.mono (by omega)) (by rfl) T.m__law_some T.k__law_some T.b__law_some (v_acons (v_v 2) v_anil)))) v_anil))) (by first | rfl | kernel_rfl))
    (s_cons (s_par3 rfl sc.nd rfl rfl rfl (by decide) (by decide) (by decide) rfl rfl rfl (v_frz (v_cal tk A.o__law_made (hr.mono (by omega)) (by rfl) T.m__law_made T.k__law_made T.b__law_made (v_acons (v_v 3) v_anil))) (v_frz (v_cal tk A.o__law_made (hr.mono (by omega)) (by rfl) T.m__law_made T.k__law_made T.b__law_made (v_acons (v_frz (v_rev rfl (v_v 3))) v_anil))) (v_frz (v_cal tk A.o__law_made (hr.mono (by omega)) (by rfl) T.m__law_made T.k__law_made T.b__law_made (v_acons (v_frz (v_slc rfl (v_v 5) (o_some v_int) o_none)) v_anil))) rfl)
    (s_cons (s_n 4 sc.nd (v_frz (v_bin rfl rfl (v_frz (v_bin rfl rfl (v_frz (v_bin rfl rfl (v_v 3) (v_v 6))) (v_frz (v_lc (own := [("_law_day_here", 10)]) rfl rfl sc.nd (i_val rfl (v_v 3)) (blkOk_by (N := n_law) (sc := defScope t_law) (by decide +kernel)) (tgOk_name (by decide)) (fun _ _ _ _ _ => g_k 10 sc.nd) (fun _ _ _ _ _ => (ts_one (t_cmp rfl (hu65 hr) (v_v 10) (v_bin rfl rfl v_int v_int) (nomark _)))) (fun _ _ _ _ _ => (v_bin rfl rfl (v_v 10) v_int)))))) (v_frz (v_lst (v_acons v_int (v_acons (v_bin rfl rfl v_int v_int) v_anil)))))))
    (s_cons (s_if (PW.pt (w_or (t_not (t_val rfl (v_cal tk A.o__law_asked (hr.mono (by omega)) (by rfl) T.m__law_asked T.k__law_asked T.b__law_asked (v_acons (v_v 7) (v_acons (v_v 5) (v_acons (v_v 4) v_anil)))) (fun _ => rfl))) (w_one_or (t_not (t_val rfl (v_cal tk A.o__law_asked (hr.mono (by omega)) (by rfl) T.m__law_asked T.k__law_asked T.b__law_asked (v_acons (v_v 9) (v_acons (v_frz (v_slc rfl (v_v 5) (o_some v_int) o_none)) (v_acons (v_v 4) v_anil)))) (fun _ => rfl)))))) (s_one (s_ret v_bl)) s_nil)
    (s_cons (s_if (PW.pt (w_or (t_not (t_oeq rfl (T.pc) T.nf_Days T.om_Days___eq__ A.o_Days___eq__ (hr.mono (by omega)) T.b_Days___eq__ (v_v 7) (v_v 8))) (w_or (t_onq rfl (T.pc) T.nf_Days T.om_Days___eq__ T.on_Days T.hm_Days A.o_Days___eq__ (hr.mono (by omega)) T.b_Days___eq__ (v_v 7) (v_v 8)) (w_one_or (t_cmp rfl (hu65 hr) (v_oeq rfl (T.pc) T.nf_Days T.om_Days___eq__ A.o_Days___eq__ (hr.mono (by omega)) T.b_Days___eq__ (v_v 7) (v_v 9)) (v_cmp rfl (hu65 hr) (v_v 5) (v_frz (v_lst v_anil)) (nomark _)) (nomark _)))))) (s_one (s_ret v_bl)) s_nil)
    (s_cons (s_if (PW.pt (w_or (t_cmp rfl (hu65 hr) (v_oeq rfl (T.pc) T.nf_Days T.om_Days___eq__ A.o_Days___eq__ (hr.mono (by omega)) T.b_Days___eq__ (v_v 7) (v_frz (v_cal tk A.o__law_made (hr.mono (by omega)) (by rfl) T.m__law_made T.k__law_made T.b__law_made (v_acons (v_v 6) v_anil)))) (v_cmp rfl (hu65 hr) (v_v 5) (v_v 6) (nomark _)) (nomark _)) (w_or (t_oeq rfl (T.pc) T.nf_Days T.om_Days___eq__ A.o_Days___eq__ (hr.mono (by omega)) T.b_Days___eq__ (v_v 7) (v_v 5)) (w_or (t_oeq rfl (T.pc) T.nf_Days T.om_Days___eq__ A.o_Days___eq__ (hr.mono (by omega)) T.b_Days___eq__ (v_v 7) (v_frz (v_blty (cb_tuple rfl) (by rfl) T.n_tuple (by decide +kernel) (v_acons (v_v 5) v_anil)))) (w_one_or (t_cmp rfl (hu65 hr) (v_v 7) v_non (nomark _))))))) (s_one (s_ret v_bl)) s_nil)
    (s_one (s_if (t_not (t_val rfl (v_cal tk A.o__law_asked (hr.mono (by omega)) (by rfl) T.m__law_asked T.k__law_asked T.b__law_asked (v_acons (v_v 7) (v_acons (v_v 5) (v_acons (v_v 4) v_anil)))) (fun _ => rfl))) (s_one (s_ret v_bl)) s_nil)))))))))))
    (s_one (s_ret v_bl))))
theorem all (T : Tx w K mg D) : ∀ n, All P w K mg base D n
  | 0 => ⟨fnOk_zero, fnOk_zero, fnOk_zero, fnV_zero, fnOk_zero, fnOk_zero, fnOk_zero, fnOk_zero, fnOk_zero, fnOk_zero, fnOk_zero, fnOk_zero, fnOk_zero, fnOk_zero, fnOk_zero, fnOk_zero, fnOk_zero, fnOk_zero, fnOk_zero, fnOk_zero, fnOk_zero, fnOk_zero⟩
  | n + 1 => ⟨w_is_integer T (all T n), w_is_day T (all T n), w_pieces_of T (all T n), w_Days___init__ T (all T n), w_Days_listed T (all T n), w_Days_from_day T (all T n), w_Days___len__ T (all T n), w_Days___contains__ T (all T n), w_Days___eq__ T (all T n), w_Days___str__ T (all T n), w_Days___repr__ T (all T n), w__law_bag T (all T n), w__law_take T (all T n), w__law_of T (all T n), w__law_day T (all T n), w__law_some T (all T n), w__law_made T (all T n), w__law_written T (all T n), w__law_is_list T (all T n), w__law_from T (all T n), w__law_asked T (all T n), w_law T (all T n)⟩
end
end Vm.k02
namespace Vm
open PySem
section
variable {P : Pg} {Φ : Nat → List D → Sto → Res} {σ : Sl} {S T : Sto} {ins : List D} {n k f i : Nat}
theorem ev_seq {a b : C} : ev P Φ (.seq a b) ins σ S = bn (ev P Φ a [] σ S) fun σ S => ev P Φ b [] σ S := rfl
theorem run_eq {F : Fn} {ds : List D} (hf : P.fn f = some F) (hl : ds.length = F.np) : run P (n + 1) f ds S = fin (ev P (run P n) F.body [] (ds.map some ++ List.replicate (F.ns - F.np) none) S) := by
  unfold run
  rw [hf]
  dsimp only
  rw [if_pos hl]
theorem ev_forr {g it b : C} {ds xs : List D} {raws : List (List D)} (h : ev P Φ it [] σ S = .val ds T) (hw : walk T ds = some (raws, xs)) : ev P Φ (.forr g it b) ins σ S = loopR (stillW ds raws) (fun x σ S => bg (ev P Φ g [x] σ S) fun σ S => ev P Φ b [] σ S) xs σ T := by
  rw [ev, h]
  simp only [bv, hw]
theorem fl_all : ∀ {xs : List D}, D.flats xs = xs.all D.flat
  | [] => rfl
  | x :: xs => by rw [D.flats, List.all_cons, fl_all]
theorem fl_mem {xs : List D} (h : D.flats xs = true) {x : D} (hx : x ∈ xs) : x.flat = true := by
  rw [fl_all, List.all_eq_true] at h
  exact h x hx
theorem fl_of {xs : List D} (h : ∀ x ∈ xs, x.flat = true) : D.flats xs = true := by
  rw [fl_all, List.all_eq_true]
  exact h
theorem mapO_id {α : Type} {f : α → Option α} : ∀ {xs : List α}, (∀ x ∈ xs, f x = some x) → mapO f xs = some xs
  | [], _ => rfl
  | x :: xs, h => by rw [mapO, h x List.mem_cons_self, mapO_id fun y hy => h y (List.mem_cons_of_mem _ hy)]
theorem frz_flat : ∀ (n : Nat) {d : D}, d.flat = true → frzD S k n d = some d
  | 0, d, h => by rw [frzD, if_pos h]
  | n + 1, d, h => by
    cases d with
    | tup xs =>
      rw [D.flat] at h
      simp only [frzD]
      rw [mapO_id fun x hx => frz_flat n (fl_mem h hx)]
    | ref i => cases h
    | _ => simp only [frzD, if_pos h]
theorem frz_lst {xs : List D} {i : Nat} (hi : k ≤ i) (h : S[i]? = some (.lst xs)) (hx : D.flats xs = true) : frzD S k (n + 1) (.ref i) = some (.rol xs) := by
  simp only [frzD, if_pos hi, h]
  rw [mapO_id fun x hx' => frz_flat n (fl_mem hx hx')]
theorem fl_places : ∀ {ds : List D}, D.flats ds = true → placesOf ds = []
  | [], _ => rfl
  | d :: ds, h => by
    rw [D.flats, Bool.and_eq_true] at h
    have ih := fl_places h.2
    cases d with
    | ref i => exact absurd h.1 (by simp [D.flat])
    | _ => exact ih
theorem fl_lo {rs : List Nat} : ∀ {ds : List D}, D.flats ds = true → ds.map (loD rs) = ds
  | [], _ => rfl
  | d :: ds, h => by
    rw [D.flats, Bool.and_eq_true] at h
    rw [List.map_cons, fl_lo h.2]
    cases d with
    | ref i => exact absurd h.1 (by simp [D.flat])
    | _ => rfl
theorem callL_0 {ds : List D} (h : D.flats ds = true) : callL σ Φ f ds S = finL σ S [] (Φ f ds []) := by
  have hp := fl_places h
  have hm := fl_lo (rs := []) h
  have hl : locOk S [] ds = true := by
    unfold locOk
    simp only [List.nodup_nil, decide_true, List.all_nil, Bool.true_and, List.all_eq_true]
    intro d hd
    cases d with
    | ref i => rfl
    | _ => exact fl_mem h hd
  unfold callL
  rw [hp, if_pos hl, hm]
  rfl
theorem callL_1 {ds : List D} {o : Ob} (hi : S[i]? = some o) (ho : o.flat = true) (h : D.flats ds = true) : callL σ Φ f (.ref i :: ds) S = finL σ S [i] (Φ f (.ref 0 :: ds) [o]) := by
  have hp := fl_places h
  have hm := fl_lo (rs := [i]) h
  have hl : locOk S [i] (.ref i :: ds) = true := by
    unfold locOk
    simp only [List.nodup_cons, List.not_mem_nil, not_false_iff, List.nodup_nil, and_self, decide_true, List.all_cons, hi, ho, List.all_nil, Bool.and_true, Bool.true_and, List.all_eq_true]
    intro d hd
    cases d with
    | ref i => rfl
    | _ => exact fl_mem h hd
  unfold callL
  rw [show placesOf (.ref i :: ds) = [i] by rw [placesOf, hp], if_pos hl, List.map_cons, hm]
  have e1 : loD [i] (.ref i) = .ref 0 := by simp [loD]
  have e2 : pick S [i] = [o] := by simp [pick, hi]
  rw [e1, e2]
/-- a value comes back, of a call upon no objects -/
theorem fin0 {d : D} (h : d.flat = true) : finL σ S [] (.val [d] T) = .val [d] S := by
  have hr : ∀ j, d ≠ .ref j := fun j e => by rw [e] at h; cases h
  unfold finL
  simp only [List.length_nil, List.take_zero, List.all_nil, if_true]
  cases d with
  | ref j => exact absurd rfl (hr j)
  | _ => simp only [frz_flat 20 h]; rfl
theorem fin0r {j : Nat} {o : Ob} (h : T[j]? = some o) (ho : o.flat = true) : finL σ S [] (.val [.ref j] T) = .val [.ref S.length] (S ++ [o]) := by
  unfold finL
  simp only [List.length_nil, List.take_zero, List.all_nil, if_true, Nat.not_lt_zero, if_false, h, ho]
  rfl
theorem fin1 {d : D} {o : Ob} (h : d.flat = true) (ho : o.flat = true) : finL σ S [i] (.val [d] (o :: T)) = .val [d] (S.set i o) := by
  have hr : ∀ j, d ≠ .ref j := fun j e => by rw [e] at h; cases h
  unfold finL
  simp only [List.length_cons, List.length_nil, Nat.zero_add, List.take_succ_cons, List.take_zero, List.all_cons, ho, List.all_nil, Bool.and_true, if_true]
  cases d with
  | ref j => exact absurd rfl (hr j)
  | _ => simp only [frz_flat 20 h]; rfl
theorem frz_new {xs : List D} (hx : D.flats xs = true) (hS : S.all Ob.flat = true) {j : Nat} (hj : S.length ≤ j) (h : (S ++ T)[j]? = some (.lst xs)) : frzR σ S.length (.val [.ref j] (S ++ T)) = .val [.rol xs] S := by
  unfold frzR
  simp only [List.take_left', hS, if_true, frz_lst hj h hx]
theorem get_new {o : Ob} : (S ++ [o])[S.length]? = some o := by simp
theorem lt_of_get {i : Nat} {o : Ob} (h : S[i]? = some o) : i < S.length := (List.getElem?_eq_some_iff.mp h).1
theorem get_set {i : Nat} {o q : Ob} (h : S[i]? = some q) : (S.set i o)[i]? = some o := by rw [List.getElem?_set_self (lt_of_get h)]
theorem still_lst {i : Nat} {xs : List D} (h : S[i]? = some (.lst xs)) : still (.ref i) xs S = true := by
  unfold still
  simp only [h, Ob.isLst, D.beqs_self]
/-- a loop, by what is known when a part of the items is gone through -/
theorem loop_pre (I : List D → Sl → Sto → Prop) {chk : Sto → Bool} {f : D → Sl → Sto → Res} {xs : List D} (hc : ∀ pre σ S, I pre σ S → chk S = true)
    (h : ∀ pre x post, xs = pre ++ x :: post → ∀ σ S, I pre σ S → ∃ σ' S', (f x σ S = .nx σ' S' ∨ f x σ S = .ct σ' S') ∧ I (pre ++ [x]) σ' S') (h0 : I [] σ S) : ∃ σ' S', loopR chk f xs σ S = .nx σ' S' ∧ I xs σ' S' := by
  suffices ∀ (post pre : List D), xs = pre ++ post → ∀ σ S, I pre σ S → ∃ σ' S', loopR chk f post σ S = .nx σ' S' ∧ I xs σ' S' from this xs [] rfl σ S h0
  intro post
  induction post with
  | nil =>
    intro pre e σ S hI
    rw [List.append_nil] at e
    subst e
    exact ⟨σ, S, by rw [loopR, if_pos (hc _ _ _ hI)], hI⟩
  | cons x post ih =>
    intro pre e σ S hI
    obtain ⟨σ1, S1, e1, h1⟩ := h pre x post e σ S hI
    obtain ⟨σ2, S2, e2, h2⟩ := ih (pre ++ [x]) (by rw [e]; simp) σ1 S1 h1
    refine ⟨σ2, S2, ?_, h2⟩
    rw [loopR, if_pos (hc _ _ _ hI)]
    rcases e1 with e1 | e1 <;> rw [e1] <;> exact e2
theorem str_beq (a b : List Nat) : (({ cps := a.toArray } : Str) == { cps := b.toArray }) = (a == b) := by
  rw [Bool.eq_iff_iff]
  simp
end
end Vm
namespace Vm.RB
open Vm
def c__law_bag : C :=
    (.seq (.asg (.gn 2) (.ite (.cmp .Lt (.var 1) (.blt .len (.acons (.var 0) .anil))) (.idx (.var 0) (.var 1)) (.kon (.int 0))))
    (.seq (.asg (.gn 3) (.blt .abs (.acons (.var 2) .anil)))
    (.seq (.asg (.gn 4) (.bin .Add (.bin .Add (.bin .Mult (.bin .Mod (.blt .int (.acons (.var 2) .anil)) (.kon (.int 2305843009213693951))) (.kon (.int 5))) (.bin .Mult (.kon (.int 8191)) (.var 1))) (.kon (.int 12289))))
    (.ret (.lst (.acons (.ite (.cmp .GtE (.var 3) (.bin .Pow (.kon (.int 10)) (.kon (.int 18)))) (.var 3) (.kon (.int 0))) (.acons (.var 4) (.acons (.kon (.int 0)) .anil))))))))
def f__law_bag : Fn := ⟨2, 5, c__law_bag⟩
section
variable {P : Pg} {S T : Sto} {n : Nat} {σ : Sl}
theorem mul_ok {i j : Int} (h : i.natAbs < 18446744073709551616 ∨ j.natAbs < 18446744073709551616) : mulOk i j = true := by
  unfold mulOk
  rcases h with h | h
  · rw [decide_eq_true h]; rfl
  · rw [decide_eq_true h]; simp
theorem div_ok {j : Int} (h0 : 0 < j) (h : j < 1000000000000000000) : divOk j = true := by
  unfold divOk
  have h1 : j.natAbs ≠ 0 := by omega
  have h2 : j.natAbs.log2 < 60 := (Nat.log2_lt h1).mpr (by omega)
  rw [decide_eq_true (by omega : j ≠ 0), decide_eq_true h0, decide_eq_true (by omega : j.natAbs.log2 < 9000)]
  simp
/-- a bag; k draws at the most were made -/
def Bag (o : Ob) (k : Int) : Prop := ∃ a b c : Int, o = .lst [.int a, .int b, .int c] ∧ 0 ≤ a ∧ 0 ≤ b ∧ b < 12000000000000000000 ∧ 0 ≤ c ∧ c ≤ k
theorem Bag.flat {o : Ob} {k : Int} (h : Bag o k) : o.flat = true := by
  obtain ⟨a, b, c, rfl, _⟩ := h
  rfl
theorem Bag.mono {o : Ob} {k l : Int} (h : Bag o k) (hk : k ≤ l) : Bag o l := by
  obtain ⟨a, b, c, e, h1, h2, h3, h4, h5⟩ := h
  exact ⟨a, b, c, e, h1, h2, h3, h4, Int.le_trans h5 hk⟩
theorem bag (hf : P.fn 2 = some f__law_bag) {ns : List Int} {p : Nat} (hp : p < 1000) (hl : ns.length ≤ 63) :
    ∃ o, Bag o 0 ∧ run P (n + 1) 2 [.scr (ns.map D.int), .int p] [] = .val [.ref 0] [o] := by
  rw [run_eq hf rfl]
  show ∃ o, Bag o 0 ∧ fin (ev P (run P n) c__law_bag [] [some (.scr (ns.map D.int)), some (.int p), none, none, none] []) = .val [.ref 0] [o]
  have key : ∀ v : Int, (∀ σ : Sl, σ[0]? = some (some (.scr (ns.map D.int))) → σ[1]? = some (some (.int p)) → ev P (run P n) (.ite (.cmp .Lt (.var 1) (.blt .len (.acons (.var 0) .anil))) (.idx (.var 0) (.var 1)) (.kon (.int 0))) [] σ [] = .val [.int v] []) →
      ∃ o, Bag o 0 ∧ fin (ev P (run P n) c__law_bag [] [some (.scr (ns.map D.int)), some (.int p), none, none, none] []) = .val [.ref 0] [o] := by
    intro v hv
    have e := hv [some (.scr (ns.map D.int)), some (.int p), none, none, none] rfl rfl
    have h1 : (0 : Int) ≤ v.fmod 2305843009213693951 := Int.fmod_nonneg_of_pos _ (by decide)
    have h2 : v.fmod 2305843009213693951 < 2305843009213693951 := Int.fmod_lt_of_pos _ (by decide)
    have m1 : mulOk 8191 (p : Int) = true := mul_ok (.inl (by decide))
    have m2 : mulOk (v.fmod 2305843009213693951) 5 = true := mul_ok (.inr (by decide))
    have p1 : powOk 10 18 = true := by decide
    by_cases h : (1000000000000000000 : Int) ≤ (if v < 0 then -v else v)
    rotate_left
    · refine ⟨_, ⟨0, v.fmod 2305843009213693951 * 5 + 8191 * (p : Int) + 12289, 0, rfl, by decide, by omega, by omega, by decide, by decide⟩, ?_⟩
      unfold c__law_bag
      rw [ev_seq, ev, e]
      simp [ev, b1, bn, bg, bv, fin, callB, callB1, opBin, arith, opCmp, leI_eq, p1, m1, m2, h, tru, SL]
    · refine ⟨_, ⟨if v < 0 then -v else v, v.fmod 2305843009213693951 * 5 + 8191 * (p : Int) + 12289, 0, rfl, by omega, by omega, by omega, by decide, by decide⟩, ?_⟩
      unfold c__law_bag
      rw [ev_seq, ev, e]
      simp [ev, b1, bn, bg, bv, fin, callB, callB1, opBin, arith, opCmp, leI_eq, p1, m1, m2, h, tru, SL]
  by_cases h : p < ns.length
  · refine key (ns[p]) fun σ h0 h1 => ?_
    simp [ev, h0, h1, b1, bv, callB, callB1, opCmp, ltI_eq, h, tru, opIx, L2.atI, L2.ixN]
  · refine key 0 fun σ h0 h1 => ?_
    simp [ev, h0, h1, b1, bv, callB, callB1, opCmp, ltI_eq, h, tru]
end
end Vm.RB
namespace Vm
open Vm PySem
/-- a sequence of these columns -/
def Cols (d : D) (xs : List D) : Prop := d = .tup xs ∨ d = .rol xs
theorem Cols.flat {d : D} {xs : List D} (h : Cols d xs) (hx : D.flats xs = true) : d.flat = true := by
  rcases h with rfl | rfl <;> simpa only [D.flat] using hx
theorem ev_nx {P : Pg} {Φ : Nat → List D → Sto → Res} {σ σ' : Sl} {S T : Sto} {a b : C} {ins : List D} (h : ev P Φ a [] σ S = .nx σ' T) : ev P Φ (.seq a b) ins σ S = ev P Φ b [] σ' T := by
  rw [ev_seq, h]
  rfl
theorem atI_nat {xs : List D} {d : Nat} (h : d < xs.length) : L2.atI xs (d : Int) = some xs[d] := by simp [L2.atI, L2.ixN, h]
theorem eqD_int {S : Sto} {i j : Int} : eqD S (.int i) (.int j) = some (i == j) := rfl
end Vm
namespace Vm
open Vm PySem
section
variable {P : Pg} {Φ : Nat → List D → Sto → Res} {σ : Sl} {S T U : Sto} {a b c e r as : C} {d x y : D} {ds xs ys : List D} {i j p f n : Nat} {o o' : Ob}
theorem all_set (hS : S.all Ob.flat = true) (ho : o.flat = true) : (S.set p o).all Ob.flat = true := by
  rw [List.all_eq_true] at hS ⊢
  intro x hx
  rcases List.mem_or_eq_of_mem_set hx with h | h
  · exact hS x h
  · rw [h]; exact ho
theorem all_app (hS : S.all Ob.flat = true) (ho : o.flat = true) : (S ++ [o]).all Ob.flat = true := by
  rw [List.all_append, hS]
  simp [ho]
theorem set_last : (S ++ [o]).set S.length o' = S ++ [o'] := by simp
theorem eqD_str {u v : List Nat} : eqD S (.str u) (.str v) = some (u == v) := by
  show some (({ cps := u.toArray } : PySem.Str) == { cps := v.toArray }) = _
  rw [str_beq]
end
end Vm
namespace Vm
open PySem
abbrev KX := Nat → List (Nat × D) → Sto → Prop
/-- one value, or an error -/
def RV (r : Res) (K : D → Sto → Prop) (X : KX) : Prop :=
  match r with
  | .val [d] S => K d S
  | .exc c fs _ S => X c fs S
  | _ => False
/-- values, or an error -/
def RA (r : Res) (K : List D → Sto → Prop) (X : KX) : Prop :=
  match r with
  | .val ds S => K ds S
  | .exc c fs _ S => X c fs S
  | _ => False
/-- the state behind a target -/
def RG (r : Res) (K : Sl → Sto → Prop) : Prop :=
  match r with
  | .nx σ S => K σ S
  | _ => False
def noX : KX := fun _ _ _ => False
section
variable {σ : Sl} {S T : Sto} {K K' : D → Sto → Prop} {KA KA' : List D → Sto → Prop} {X X' : KX} {r : Res} {d : D} {ds : List D}
theorem RV.imp (h : RV r K X) (f : ∀ d S, K d S → K' d S) : RV r K' X := by
  cases r with
  | val ds S =>
    match ds, h with
    | [d], h => exact f _ _ h
    | [], h => exact h.elim
    | _ :: _ :: _, h => exact h.elim
  | exc c fs σ S => exact h
  | _ => exact h.elim
theorem RA.imp (h : RA r KA X) (f : ∀ d S, KA d S → KA' d S) : RA r KA' X := by
  cases r with
  | val ds S => exact f _ _ h
  | exc c fs σ S => exact h
  | _ => exact h.elim
theorem rv_b1 {k : D → Sto → Res} (h : RV r (fun d S => RV (k d S) K X) X) : RV (b1 σ r k) K X := by
  cases r with
  | val ds S =>
    match ds, h with
    | [d], h => exact h
    | [], h => exact h.elim
    | _ :: _ :: _, h => exact h.elim
  | exc c fs σ S => exact h
  | _ => exact h.elim
theorem rv_bv {k : List D → Sto → Res} (h : RA r (fun d S => RV (k d S) K X) X) : RV (bv σ r k) K X := by
  cases r with
  | val ds S => exact h
  | exc c fs σ S => exact h
  | _ => exact h.elim
theorem ra_b1 {k : D → Sto → Res} (h : RV r (fun d S => RA (k d S) KA X) X) : RA (b1 σ r k) KA X := by
  cases r with
  | val ds S =>
    match ds, h with
    | [d], h => exact h
    | [], h => exact h.elim
    | _ :: _ :: _, h => exact h.elim
  | exc c fs σ S => exact h
  | _ => exact h.elim
theorem ra_bv {k : List D → Sto → Res} (h : RA r (fun d S => RA (k d S) KA X) X) : RA (bv σ r k) KA X := by
  cases r with
  | val ds S => exact h
  | exc c fs σ S => exact h
  | _ => exact h.elim
theorem rv_of (e : r = .val [d] S) (h : K d S) : RV r K X := by subst e; exact h
theorem rv_ex (h : RV r K X) : (∃ d S, r = .val [d] S ∧ K d S) ∨ ∃ c fs σ S, r = .exc c fs σ S ∧ X c fs S := by
  cases r with
  | val ds S =>
    match ds, h with
    | [d], h => exact .inl ⟨d, S, rfl, h⟩
    | [], h => exact h.elim
    | _ :: _ :: _, h => exact h.elim
  | exc c fs σ S => exact .inr ⟨c, fs, σ, S, rfl, h⟩
  | _ => exact h.elim
end
section
variable (P : Pg) (Φ : Nat → List D → Sto → Res)
def WE (c : C) (σ : Sl) (S : Sto) (K : D → Sto → Prop) (X : KX) : Prop := RV (ev P Φ c [] σ S) K X
def WA (c : C) (σ : Sl) (S : Sto) (K : List D → Sto → Prop) (X : KX) : Prop := RA (ev P Φ c [] σ S) K X
def WG (c : C) (ins : List D) (σ : Sl) (S : Sto) (K : Sl → Sto → Prop) : Prop := RG (ev P Φ c ins σ S) K
def WS (c : C) (σ : Sl) (S : Sto) (E : Res → Prop) : Prop := E (ev P Φ c [] σ S)
end
/-- on from a statement's end -/
def Nx (k : Sl → Sto → Prop) (E : Res → Prop) : Res → Prop
  | .nx σ S => k σ S
  | r => E r
/-- the end of a kept part: n objects were there -/
def FZ (n : Nat) (K : D → Sto → Prop) (d : D) (S : Sto) : Prop := (S.take n).all Ob.flat = true ∧ ∃ d', frzD S n 20 d = some d' ∧ K d' (S.take n)
/-- an error of a kept part -/
def FX (n : Nat) (X : KX) : KX := fun c fs S => (S.take n).all Ob.flat = true ∧ ∃ fs', frzF S n fs = some fs' ∧ X c fs' (S.take n)
/-- a test's answer -/
def TT (S : Sto) (d : D) (A B : Prop) : Prop := ∃ q, tru S d = some q ∧ (q = true → A) ∧ (q = false → B)
section
variable {P : Pg} {Φ : Nat → List D → Sto → Res} {σ σ' : Sl} {S T : Sto} {K K' : D → Sto → Prop} {KA : List D → Sto → Prop} {X : KX} {E : Res → Prop} {KS : Sl → Sto → Prop}
variable {a b c e t k v g o it as ks r : C} {x y d : D} {ds xs ys ins : List D} {i j n f m cc : Nat} {op op' : Operator} {cop cop' : CmpOp}
theorem w_var (h : σ[i]? = some (some d)) (q : K d S) : WE P Φ (.var i) σ S K X := by
  show RV (ev P Φ (.var i) [] σ S) K X
  rw [ev, h]; exact q
theorem w_kon (q : K d S) : WE P Φ (.kon d) σ S K X := q
theorem w_gl (h : P.gl i = some d) (q : K d S) : WE P Φ (.gl i) σ S K X := by
  show RV (ev P Φ (.gl i) [] σ S) K X
  rw [ev, h]; exact q
theorem w_bin (h : WE P Φ a σ S (fun x S => WE P Φ b σ S (fun y S => RV (opBin op x y S) K X) X) X) : WE P Φ (.bin op a b) σ S K X := rv_b1 (RV.imp h fun _ _ h => rv_b1 h)
theorem w_neg (h : WE P Φ a σ S (fun x S => ∃ i, x = .int i ∧ K (.int (-i)) S) X) : WE P Φ (.neg a) σ S K X := rv_b1 (RV.imp h fun _ _ ⟨_, e, q⟩ => by subst e; exact q)
theorem w_notv (h : WE P Φ a σ S (fun x S => ∃ q, tru S x = some q ∧ K (.bl (!q)) S) X) : WE P Φ (.notv a) σ S K X := rv_b1 (RV.imp h fun x S ⟨_, e, q⟩ => by
  show RV (match tru S x with
    | some b => .val [.bl (!b)] S
    | none => .bad) K X
  rw [e]; exact q)
theorem w_cmp (h : WE P Φ a σ S (fun x S => WE P Φ b σ S (fun y S => ∃ q, opCmp cop x y S = some q ∧ K (.bl q) S) X) X) : WE P Φ (.cmp cop a b) σ S K X := rv_b1 (RV.imp h fun x S h => rv_b1 (RV.imp h fun y S ⟨_, e, q⟩ => by
  show RV (match opCmp cop x y S with
    | some b => .val [.bl b] S
    | none => .bad) K X
  rw [e]; exact q))
theorem w_chn (h : WE P Φ a σ S (fun x S => WE P Φ b σ S (fun y S => ∃ q, opCmp cop x y S = some q ∧ (q = true → WE P Φ c σ S (fun z S => ∃ q, opCmp cop' y z S = some q ∧ K (.bl q) S) X) ∧ (q = false → K (.bl false) S)) X) X) : WE P Φ (.chn cop cop' a b c) σ S K X :=
  rv_b1 (RV.imp h fun x S h => rv_b1 (RV.imp h fun y S ⟨q, e, h1, h2⟩ => by
    show RV (match opCmp cop x y S with
      | some true => b1 σ (ev P Φ c [] σ S) fun z S => match opCmp cop' y z S with
        | some b => .val [.bl b] S
        | none => .bad
      | some false => .val [.bl false] S
      | none => .bad) K X
    rw [e]
    cases q with
    | false => exact h2 rfl
    | true => exact rv_b1 (RV.imp (h1 rfl) fun z S ⟨_, e, q⟩ => by rw [e]; exact q)))
theorem w_andv (h : WE P Φ a σ S (fun x S => TT S x (WE P Φ b σ S K X) (K x S)) X) : WE P Φ (.andv a b) σ S K X := rv_b1 (RV.imp h fun x S ⟨q, e, h1, h2⟩ => by
  show RV (match tru S x with
    | some true => ev P Φ b [] σ S
    | some false => .val [x] S
    | none => .bad) K X
  rw [e]
  cases q with
  | false => exact h2 rfl
  | true => exact h1 rfl)
theorem w_orv (h : WE P Φ a σ S (fun x S => TT S x (K x S) (WE P Φ b σ S K X)) X) : WE P Φ (.orv a b) σ S K X := rv_b1 (RV.imp h fun x S ⟨q, e, h1, h2⟩ => by
  show RV (match tru S x with
    | some true => .val [x] S
    | some false => ev P Φ b [] σ S
    | none => .bad) K X
  rw [e]
  cases q with
  | false => exact h2 rfl
  | true => exact h1 rfl)
theorem w_ite (h : WE P Φ t σ S (fun x S => TT S x (WE P Φ a σ S K X) (WE P Φ b σ S K X)) X) : WE P Φ (.ite t a b) σ S K X := rv_b1 (RV.imp h fun x S ⟨q, e, h1, h2⟩ => by
  show RV (match tru S x with
    | some true => ev P Φ a [] σ S
    | some false => ev P Φ b [] σ S
    | none => .bad) K X
  rw [e]
  cases q with
  | false => exact h2 rfl
  | true => exact h1 rfl)
theorem w_att (h : WE P Φ a σ S (fun x S => ∃ c fs d, insOf S x = some (c, fs) ∧ fs.lookup f = some d ∧ P.fd c f = true ∧ K d S) X) : WE P Φ (.att f a) σ S K X := rv_b1 (RV.imp h fun x S ⟨c, fs, d, e1, e2, e3, q⟩ => by
  show RV (match insOf S x with
    | some (c, fs) => match fs.lookup f with
      | some d => if P.fd c f then .val [d] S else .bad
      | none => .bad
    | none => .bad) K X
  rw [e1]
  dsimp only
  rw [e2]
  dsimp only
  rw [if_pos e3]; exact q)
theorem w_idx (h : WE P Φ a σ S (fun x S => WE P Φ b σ S (fun y S => ∃ d, opIx x y S = some d ∧ K d S) X) X) : WE P Φ (.idx a b) σ S K X := rv_b1 (RV.imp h fun x S h => rv_b1 (RV.imp h fun y S ⟨_, e, q⟩ => by
  show RV (match opIx x y S with
    | some d => .val [d] S
    | none => .bad) K X
  rw [e]; exact q))
theorem w_slc (h : WE P Φ a σ S (fun x S => WE P Φ b σ S (fun y S => ∃ l, ends y = some l ∧ WE P Φ c σ S (fun z S => ∃ h, ends z = some h ∧ RV (opSlice x l h S) K X) X) X) X) : WE P Φ (.slc a b c) σ S K X := rv_b1 (RV.imp h fun x S h => rv_b1 (RV.imp h fun y S ⟨l, e, h⟩ => by
  show RV (match ends y with
    | some l => b1 σ (ev P Φ c [] σ S) fun z S => match ends z with
      | some h => opSlice x l h S
      | none => .bad
    | none => .bad) K X
  rw [e]
  exact rv_b1 (RV.imp h fun z S ⟨l, e, h⟩ => by rw [e]; exact h)))
theorem w_part (h : WE P Φ a σ S (fun x S => ∃ i, x = .int i ∧ K (.int i) S) X) : WE P Φ (.part a) σ S K X := rv_b1 (RV.imp h fun _ _ ⟨_, e, q⟩ => by subst e; exact q)
theorem w_tup (h : WA P Φ as σ S (fun ds S => ds.length ≤ SL ∧ K (.tup ds) S) X) : WE P Φ (.tup as) σ S K X := rv_bv (RA.imp h fun ds S ⟨e, q⟩ => by rw [if_pos e]; exact q)
theorem w_lst (h : WA P Φ as σ S (fun ds S => ds.length ≤ SL ∧ K (.ref S.length) (S ++ [.lst ds])) X) : WE P Φ (.lst as) σ S K X := rv_bv (RA.imp h fun ds S ⟨e, q⟩ => by rw [if_pos e]; exact q)
theorem w_cal (h : WA P Φ as σ S (fun ds S => RV (callL σ Φ f ds S) K X) X) : WE P Φ (.cal f as) σ S K X := rv_bv h
theorem w_calk {na nk : Nat} {prm : List (Nat ⊕ D)} (h : WA P Φ as σ S (fun ds S => WA P Φ ks σ S (fun es S => ds.length = na ∧ es.length = nk ∧ ∃ gs, rearr prm (ds ++ es) = some gs ∧ RV (callL σ Φ f gs S) K X) X) X) : WE P Φ (.calk f na nk as ks prm) σ S K X :=
  rv_bv (RA.imp h fun ds S h => rv_bv (RA.imp h fun es S ⟨e1, e2, gs, e3, q⟩ => by rw [if_pos ⟨e1, e2⟩, e3]; exact q))
theorem w_blt {bi : Bi} (h : WA P Φ as σ S (fun ds S => RV (callB bi ds S) K X) X) : WE P Φ (.blt bi as) σ S K X := rv_bv h
theorem w_btm {bm : Bm} (h : WE P Φ o σ S (fun x S => rcv bm x S = true ∧ WA P Φ as σ S (fun ds S => RV (callM bm x ds S) K X) X) X) : WE P Φ (.btm bm o as) σ S K X := rv_b1 (RV.imp h fun x S ⟨e, h⟩ => by rw [if_pos e]; exact rv_bv h)
theorem w_mth {mi : Nat} (h : WE P Φ o σ S (fun x S => ∃ fs, insOf S x = some (cc, fs) ∧ fs.lookup mi = none ∧ WA P Φ as σ S (fun ds S => RV (callL σ Φ f (x :: ds) S) K X) X) X) : WE P Φ (.mth cc mi f o as) σ S K X := rv_b1 (RV.imp h fun x S ⟨fs, e1, e2, h⟩ => by
  show RV (match insOf S x with
    | some (c', fs) => if c' = cc ∧ fs.lookup mi = none then bv σ (ev P Φ as [] σ S) fun ds S => callL σ Φ f (x :: ds) S else .bad
    | none => .bad) K X
  rw [e1]
  dsimp only
  rw [if_pos ⟨rfl, e2⟩]
  exact rv_bv h)
theorem w_mthk {mi na nk : Nat} {prm : List (Nat ⊕ D)} (h : WE P Φ o σ S (fun x S => ∃ fs, insOf S x = some (cc, fs) ∧ fs.lookup mi = none ∧ WA P Φ as σ S (fun ds S => WA P Φ ks σ S (fun es S => ds.length = na ∧ es.length = nk ∧ ∃ gs, rearr prm ((x :: ds) ++ es) = some gs ∧ RV (callL σ Φ f gs S) K X) X) X) X) : WE P Φ (.mthk cc mi f na nk o as ks prm) σ S K X :=
  rv_b1 (RV.imp h fun x S ⟨fs, e1, e2, h⟩ => by
    show RV (match insOf S x with
      | some (c', fs) => if c' = cc ∧ fs.lookup mi = none then bv σ (ev P Φ as [] σ S) fun ds S => bv σ (ev P Φ ks [] σ S) fun es S => (if ds.length = na ∧ es.length = nk then match rearr prm ((x :: ds) ++ es) with
        | some gs => callL σ Φ f gs S
        | none => .bad
        else .bad) else .bad
      | none => .bad) K X
    rw [e1]
    dsimp only
    rw [if_pos ⟨rfl, e2⟩]
    exact rv_bv (RA.imp h fun ds S h => rv_bv (RA.imp h fun es S ⟨e1, e2, gs, e3, q⟩ => by rw [if_pos ⟨e1, e2⟩, e3]; exact q)))
theorem w_prp {fi : Nat} (h : WE P Φ a σ S (fun x S => ∃ fs, insOf S x = some (cc, fs) ∧ RV (callL σ Φ f [x] S) K noX) X) : WE P Φ (.prp cc fi f a) σ S K X := rv_b1 (RV.imp h fun x S ⟨fs, e1, h⟩ => by
  show RV (match insOf S x with
    | some (c', _) => if c' = cc then (match callL σ Φ f [x] S with
        | .val [d] S => .val [d] S
        | _ => .bad) else .bad
    | none => .bad) K X
  rw [e1]
  dsimp only
  rw [if_pos rfl]
  rcases rv_ex h with ⟨d, S1, e, q⟩ | ⟨_, _, _, _, _, q⟩
  · rw [e]; exact q
  · exact q.elim)
theorem w_newk {na nk : Nat} {prm : List (Nat ⊕ D)} (h : WA P Φ as σ S (fun ds S => WA P Φ ks σ S (fun es S => ds.length = na ∧ es.length = nk ∧ ∃ gs, rearr prm (.ref S.length :: (ds ++ es)) = some gs ∧ RV (newR σ S.length (callL σ Φ f gs (S ++ [.ins cc []]))) K X) X) X) : WE P Φ (.newk cc f na nk as ks prm) σ S K X :=
  rv_bv (RA.imp h fun ds S h => rv_bv (RA.imp h fun es S ⟨e1, e2, gs, e3, q⟩ => by rw [if_pos ⟨e1, e2⟩, e3]; exact q))
theorem w_newv {kk : Nat} (h : WE P Φ a σ S (fun x S => x = .cls cc ∧ WA P Φ as σ S (fun ds S => kk ≤ ds.length ∧ ds.length ≤ SL ∧ RV (newR σ S.length (callL σ Φ f (.ref S.length :: (ds.take kk ++ [.tup (ds.drop kk)])) (S ++ [.ins cc []]))) K X) X) X) : WE P Φ (.newv cc f kk a as) σ S K X :=
  rv_b1 (RV.imp h fun x S ⟨e, h⟩ => by
    subst e
    dsimp only
    rw [if_pos rfl]
    exact rv_bv (RA.imp h fun ds S ⟨e1, e2, q⟩ => by rw [if_pos ⟨e1, e2⟩]; exact q))
theorem w_newc {na nk : Nat} {prm : List (Nat ⊕ D)} (h : WE P Φ a σ S (fun x S => x = .cls cc ∧ WA P Φ as σ S (fun ds S => WA P Φ ks σ S (fun es S => ds.length = na ∧ es.length = nk ∧ ∃ gs, rearr prm (.ref S.length :: (ds ++ es)) = some gs ∧ RV (newR σ S.length (callL σ Φ f gs (S ++ [.ins cc []]))) K X) X) X) X) : WE P Φ (.newc cc f na nk a as ks prm) σ S K X :=
  rv_b1 (RV.imp h fun x S ⟨e, h⟩ => by
    subst e
    dsimp only
    rw [if_pos rfl]
    exact rv_bv (RA.imp h fun ds S h => rv_bv (RA.imp h fun es S ⟨e1, e2, gs, e3, q⟩ => by rw [if_pos ⟨e1, e2⟩, e3]; exact q)))
theorem w_frz (h : WE P Φ a σ S (FZ S.length K) (FX S.length X)) : WE P Φ (.frz a) σ S K X := by
  show RV (frzR σ S.length (ev P Φ a [] σ S)) K X
  rcases rv_ex h with ⟨d, S1, e, h1, d', h2, q⟩ | ⟨c, fs, σ1, S1, e, h1, fs', h2, q⟩
  · rw [e]
    simp only [frzR]
    rw [if_pos h1, h2]
    exact q
  · rw [e]
    simp only [frzR]
    rw [if_pos h1, h2]
    exact q
theorem w_iso (h : WE P Φ a σ S (fun x S => ∃ q, (match insOf S x with
    | some (c', _) => if P.pc c' then some (decide (c' = cc)) else none
    | none => match dty S x with
      | some _ => some false
      | none => none) = some q ∧ K (.bl q) S) X) : WE P Φ (.iso cc a) σ S K X := rv_b1 (RV.imp h fun x S ⟨q, e, h⟩ => by
  show RV (match insOf S x with
    | some (c', _) => if P.pc c' then .val [.bl (decide (c' = cc))] S else .bad
    | none => match dty S x with
      | some _ => .val [.bl false] S
      | none => .bad) K X
  cases e1 : insOf S x with
  | some p =>
    obtain ⟨c', fs⟩ := p
    rw [e1] at e
    dsimp only at e ⊢
    split at e
    · rename_i hp
      rw [if_pos hp]
      cases e
      exact h
    · cases e
  | none =>
    rw [e1] at e
    dsimp only at e ⊢
    cases e2 : dty S x with
    | none => rw [e2] at e; cases e
    | some z => rw [e2] at e; cases e; exact h)
theorem w_isb {ty : Ty} (h : WE P Φ a σ S (fun x S => ∃ q, (match insOf S x with
    | some (c', _) => if P.pc c' && isBt ty then some false else none
    | none => isTy S x ty) = some q ∧ K (.bl q) S) X) : WE P Φ (.isb ty a) σ S K X := rv_b1 (RV.imp h fun x S ⟨q, e, h⟩ => by
  show RV (match insOf S x with
    | some (c', _) => if P.pc c' && isBt ty then .val [.bl false] S else .bad
    | none => match isTy S x ty with
      | some b => .val [.bl b] S
      | none => .bad) K X
  cases e1 : insOf S x with
  | some p =>
    obtain ⟨c', fs⟩ := p
    rw [e1] at e
    dsimp only at e ⊢
    split at e
    · rename_i hp
      rw [if_pos hp]
      cases e
      exact h
    · cases e
  | none =>
    rw [e1] at e
    dsimp only at e ⊢
    rw [e]
    exact h)
theorem w_own {ow : Ow} (h : WA P Φ as σ S (fun ds S => ∃ x r fs, ownA ow ds = some (x, r) ∧ insOf S x = some (cc, fs) ∧ ownOk P S ow r = true ∧ RV (ownR ow (callL σ Φ f (x :: r) S)) K X) X) : WE P Φ (.own ow cc f as) σ S K X := rv_bv (RA.imp h fun ds S ⟨x, r, fs, e1, e2, e3, q⟩ => by
  show RV (match ownA ow ds with
    | some (x, r) => match insOf S x with
      | some (c', _) => if c' = cc ∧ ownOk P S ow r = true then ownR ow (callL σ Φ f (x :: r) S) else .bad
      | none => .bad
    | none => .bad) K X
  rw [e1]
  dsimp only
  rw [e2]
  dsimp only
  rw [if_pos ⟨rfl, e3⟩]
  exact q)
theorem w_setv (h : WE P Φ a σ S (fun x S => ∃ xs is, extOf S x = some xs ∧ intsOf xs = some is ∧ xs.length < 4000 ∧ K (.ref S.length) (S ++ [.set xs])) X) : WE P Φ (.setv a) σ S K X := rv_b1 (RV.imp h fun x S ⟨xs, is, e1, e2, e3, q⟩ => by
  rw [e1]
  dsimp only
  rw [e2]
  dsimp only
  rw [if_pos e3]
  exact q)
theorem w_anil (q : KA [] S) : WA P Φ .anil σ S KA X := q
theorem w_acons (h : WE P Φ a σ S (fun d S => WA P Φ r σ S (fun ds S => KA (d :: ds) S) X) X) : WA P Φ (.acons a r) σ S KA X := ra_b1 (RV.imp h fun _ _ h => ra_bv (RA.imp h fun _ _ h => h))
theorem w_asp (h : WE P Φ a σ S (fun d S => ∃ xs, extOf S d = some xs ∧ WA P Φ r σ S (fun ds S => KA (xs ++ ds) S) X) X) : WA P Φ (.asp a r) σ S KA X := ra_b1 (RV.imp h fun d S ⟨xs, e, h⟩ => by
  rw [e]
  exact ra_bv (RA.imp h fun _ _ h => h))
theorem w_wkp (h : WE P Φ a σ S (fun d S => KA [d] S) X) : WA P Φ (.wkp a) σ S KA X := ra_b1 h
theorem w_enu (h : WE P Φ a σ S (fun d S => KA [.int 1, d] S) X) : WA P Φ (.enu a) σ S KA X := ra_b1 h
theorem w_zip2 (h : WE P Φ a σ S (fun d S => WE P Φ b σ S (fun e S => KA [.int 2, d, e] S) X) X) : WA P Φ (.zip2 a b) σ S KA X := ra_b1 (RV.imp h fun _ _ h => ra_b1 h)
theorem w_rng1 (h : WE P Φ a σ S (fun d S => ∃ j, d = .int j ∧ inR j = true ∧ KA [.tup (rangeD 0 j)] S) X) : WA P Φ (.rng1 a) σ S KA X := ra_b1 (RV.imp h fun d S ⟨j, e1, e2, q⟩ => by
  subst e1
  dsimp only
  rw [if_pos e2]
  exact q)
theorem w_rng2 (h : WE P Φ a σ S (fun d S => WE P Φ b σ S (fun e S => ∃ i j, d = .int i ∧ e = .int j ∧ inR i = true ∧ inR j = true ∧ KA [.tup (rangeD i j)] S) X) X) : WA P Φ (.rng2 a b) σ S KA X := ra_b1 (RV.imp h fun d S h => ra_b1 (RV.imp h fun e S ⟨i, j, e1, e2, e3, e4, q⟩ => by
  subst e1 e2
  dsimp only
  rw [e3, e4, if_pos (by rfl)]
  exact q))
/-- the slot i gets d -/
def putS (σ : Sl) (i : Nat) (d : D) : Option Sl := if i < σ.length then some (σ.set i (some d)) else none
theorem g_gn (h : putS σ i d = some σ') (q : KS σ' S) : WG P Φ (.gn i) [d] σ S KS := by
  unfold putS at h
  split at h
  · rename_i hi
    cases h
    show RG (if i < σ.length then .nx (σ.set i (some d)) S else .bad) KS
    rw [if_pos hi]; exact q
  · cases h
theorem g_gt (h : WG P Φ g xs σ S KS) : WG P Φ (.gt g) [.tup xs] σ S KS := h
theorem g_gtl (h : WG P Φ g xs σ S KS) : WG P Φ (.gtl g) [.rol xs] σ S KS := h
theorem g_gnil (q : KS σ S) : WG P Φ .gnil [] σ S KS := q
theorem g_gcons (h : WG P Φ g [d] σ S fun σ S => WG P Φ r ds σ S KS) : WG P Φ (.gcons g r) (d :: ds) σ S KS := by
  show RG (bg (ev P Φ g [d] σ S) fun σ S => ev P Φ r ds σ S) KS
  have h : RG (ev P Φ g [d] σ S) fun σ S => RG (ev P Φ r ds σ S) KS := h
  cases q : ev P Φ g [d] σ S with
  | nx σ1 S1 => rw [q] at h; exact h
  | _ => rw [q] at h; exact h.elim
theorem g_ga (h : WE P Φ o σ S (fun x S => ∃ i c fs, x = .ref i ∧ S[i]? = some (.ins c fs) ∧ fs.length < 1000 ∧ P.fd c f = true ∧ KS σ (S.set i (.ins c (putD f d fs)))) noX) : WG P Φ (.ga f o) [d] σ S KS := by
  show RG (b1 σ (ev P Φ o [] σ S) fun x S => match x with
      | .ref i => match S[i]? with
        | some (.ins c fs) => if fs.length < 1000 ∧ P.fd c f = true then .nx σ (S.set i (.ins c (putD f d fs))) else .bad
        | _ => .bad
      | _ => .bad) KS
  rcases rv_ex h with ⟨x, S1, e, i, c, fs, rfl, h1, h2, h3, q⟩ | ⟨_, _, _, _, _, q⟩
  · rw [e]
    simp only [b1]
    rw [h1]
    dsimp only
    rw [if_pos ⟨h2, h3⟩]
    exact q
  · exact q.elim
theorem g_gi (h : WE P Φ o σ S (fun x S => WE P Φ it σ S (fun y S => ∃ r k xs j, x = .ref r ∧ y = .int k ∧ S[r]? = some (.lst xs) ∧ L2.ixN xs.length k = some j ∧ KS σ (S.set r (.lst (xs.set j d)))) noX) noX) : WG P Φ (.gi o it) [d] σ S KS := by
  show RG (b1 σ (ev P Φ o [] σ S) fun x S => b1 σ (ev P Φ it [] σ S) fun y S => match x, y with
      | .ref r, .int k => match S[r]? with
        | some (.lst xs) => match L2.ixN xs.length k with
          | some j => .nx σ (S.set r (.lst (xs.set j d)))
          | none => .bad
        | _ => .bad
      | _, _ => .bad) KS
  rcases rv_ex h with ⟨x, S1, e, h⟩ | ⟨_, _, _, _, _, q⟩
  · rw [e]
    simp only [b1]
    rcases rv_ex h with ⟨y, S2, e, r, k, xs, j, rfl, rfl, h1, h2, q⟩ | ⟨_, _, _, _, _, q⟩
    · rw [e]
      simp only [b1]
      rw [h1]
      dsimp only
      rw [h2]
      exact q
    · exact q.elim
  · exact q.elim
theorem g_gd (h : WE P Φ o σ S (fun x S => WE P Φ it σ S (fun y S => ∃ r kvs, x = .ref r ∧ S[r]? = some (.dct kvs) ∧ isKey y = true ∧ kvs.length < SL ∧ KS σ (S.set r (.dct (putK kvs y d)))) noX) noX) : WG P Φ (.gd o it) [d] σ S KS := by
  show RG (b1 σ (ev P Φ o [] σ S) fun x S => b1 σ (ev P Φ it [] σ S) fun y S => match x with
      | .ref r => match S[r]? with
        | some (.dct kvs) => if isKey y ∧ kvs.length < SL then .nx σ (S.set r (.dct (putK kvs y d))) else .bad
        | _ => .bad
      | _ => .bad) KS
  rcases rv_ex h with ⟨x, S1, e, h⟩ | ⟨_, _, _, _, _, q⟩
  · rw [e]
    simp only [b1]
    rcases rv_ex h with ⟨y, S2, e2, r, kvs, rfl, h1, h2, h3, q⟩ | ⟨_, _, _, _, _, q⟩
    · rw [e2]
      simp only [b1]
      rw [h1]
      dsimp only
      rw [if_pos ⟨h2, h3⟩]
      exact q
    · exact q.elim
  · exact q.elim
theorem nx_nx {k : Sl → Sto → Prop} (h : k σ S) : Nx k E (.nx σ S) := h
theorem nx_rt {k : Sl → Sto → Prop} (h : E (.rt d S)) : Nx k E (.rt d S) := h
theorem nx_bk {k : Sl → Sto → Prop} (h : E (.bk σ S)) : Nx k E (.bk σ S) := h
theorem nx_ct {k : Sl → Sto → Prop} (h : E (.ct σ S)) : Nx k E (.ct σ S) := h
theorem nx_exc {k : Sl → Sto → Prop} {fs : List (Nat × D)} (h : E (.exc cc fs σ S)) : Nx k E (.exc cc fs σ S) := h
theorem s_seqW (h : WS P Φ a σ S (Nx (fun σ S => WS P Φ b σ S E) E)) : WS P Φ (.seq a b) σ S E := by
  show E (bn (ev P Φ a [] σ S) fun σ S => ev P Φ b [] σ S)
  have h : Nx (fun σ S => WS P Φ b σ S E) E (ev P Φ a [] σ S) := h
  cases q : ev P Φ a [] σ S with
  | nx σ1 S1 => rw [q] at h; exact h
  | _ => rw [q] at h; exact h
theorem s_nopW (h : E (.nx σ S)) : WS P Φ .nop σ S E := h
theorem s_asgW (h : WE P Φ e σ S (fun d S => WG P Φ g [d] σ S fun σ S => E (.nx σ S)) (fun c fs S => E (.exc c fs σ S))) : WS P Φ (.asg g e) σ S E := by
  show E (b1 σ (ev P Φ e [] σ S) fun d S => bg (ev P Φ g [d] σ S) fun σ S => .nx σ S)
  rcases rv_ex h with ⟨d, S1, q, h⟩ | ⟨c, fs, σ1, S1, q, h⟩
  · rw [q]
    simp only [b1]
    have h : RG (ev P Φ g [d] σ S1) fun σ S => E (.nx σ S) := h
    cases q2 : ev P Φ g [d] σ S1 with
    | nx σ2 S2 => rw [q2] at h; exact h
    | _ => rw [q2] at h; exact h.elim
  · rw [q]
    exact h
theorem s_augW {z : D} (h0 : σ[i]? = some (some z)) (h : WE P Φ e σ S (fun y S => ∃ i1 i2 r, z = .int i1 ∧ y = .int i2 ∧ (match op with
    | .Add => some (i1 + i2)
    | .Sub => some (i1 - i2)
    | _ => none) = some r ∧ E (.nx (σ.set i (some (.int r))) S)) (fun c fs S => E (.exc c fs σ S))) : WS P Φ (.aug i op e) σ S E := by
  show E (ev P Φ (.aug i op e) [] σ S)
  rw [ev, h0]
  dsimp only
  rcases rv_ex h with ⟨d, S1, q, i1, i2, r, rfl, rfl, e, h⟩ | ⟨c, fs, σ1, S1, q, h⟩
  · rw [q]
    simp only [b1]
    cases op <;> first | (cases e; done) | (cases e; exact h)
  · rw [q]
    exact h
theorem s_iffW (h : WE P Φ t σ S (fun x S => TT S x (WS P Φ a σ S E) (WS P Φ b σ S E)) (fun c fs S => E (.exc c fs σ S))) : WS P Φ (.iff t a b) σ S E := by
  show E (b1 σ (ev P Φ t [] σ S) fun x S => match tru S x with
    | some true => ev P Φ a [] σ S
    | some false => ev P Φ b [] σ S
    | none => .bad)
  rcases rv_ex h with ⟨d, S1, q, z, e, h1, h2⟩ | ⟨c, fs, σ1, S1, q, h⟩
  · rw [q]
    simp only [b1]
    rw [e]
    cases z with
    | false => exact h2 rfl
    | true => exact h1 rfl
  · rw [q]
    exact h
theorem s_retW (h : WE P Φ e σ S (fun d S => E (.rt d S)) (fun c fs S => E (.exc c fs σ S))) : WS P Φ (.ret e) σ S E := by
  show E (b1 σ (ev P Φ e [] σ S) fun d S => .rt d S)
  rcases rv_ex h with ⟨d, S1, q, h⟩ | ⟨c, fs, σ1, S1, q, h⟩ <;> (rw [q]; exact h)
theorem s_retnW (h : E (.rt .non S)) : WS P Φ .retn σ S E := h
theorem s_expW (h : WE P Φ e σ S (fun d S => E (.nx σ S)) (fun c fs S => E (.exc c fs σ S))) : WS P Φ (.exp e) σ S E := by
  show E (b1 σ (ev P Φ e [] σ S) fun _ S => .nx σ S)
  rcases rv_ex h with ⟨d, S1, q, h⟩ | ⟨c, fs, σ1, S1, q, h⟩ <;> (rw [q]; exact h)
theorem s_brkW (h : E (.bk σ S)) : WS P Φ .brk σ S E := h
theorem s_cntW (h : E (.ct σ S)) : WS P Φ .cnt σ S E := h
theorem s_rseW (h : WA P Φ as σ S (fun ds S => ∃ fl, P.exc cc = some fl ∧ ds.length = fl.length ∧ E (.exc cc (fl.zip ds).reverse σ S)) (fun c fs S => E (.exc c fs σ S))) : WS P Φ (.rse cc as) σ S E := by
  show E (bv σ (ev P Φ as [] σ S) fun ds S => match P.exc cc with
    | some fl => if ds.length = fl.length then .exc cc (fl.zip ds).reverse σ S else .bad
    | none => .bad)
  have h : RA (ev P Φ as [] σ S) _ _ := h
  cases q : ev P Φ as [] σ S with
  | val ds S1 =>
    rw [q] at h
    obtain ⟨fl, e1, e2, h⟩ := h
    simp only [bv]
    rw [e1]
    dsimp only
    rw [if_pos e2]
    exact h
  | exc c fs σ1 S1 => rw [q] at h; exact h
  | _ => rw [q] at h; exact h.elim
/-- a body that may raise: what is asked of its end -/
def TryE (P : Pg) (cc i : Nat) (s : C) (E : Res → Prop) : Res → Prop
  | .exc c' fs σ1 S1 => (P.exc c').isSome = true ∧ (P.sub c' cc = true → flatF fs = true ∧ E (wipe1 i (ev P (Φx P c' fs) s [] (σ1.set i none) S1))) ∧ (P.sub c' cc = false → E (.exc c' fs σ1 S1))
  | r => E r
theorem s_tryW {s : C} (h : WS P Φ b σ S (TryE P cc i s E)) : WS P Φ (.tryx cc i b s) σ S E := by
  show E (match ev P Φ b [] σ S with
    | .exc c' fs σ1 S1 => if (P.exc c').isSome then (if P.sub c' cc then (if flatF fs then wipe1 i (ev P (Φx P c' fs) s [] (σ1.set i none) S1) else .bad) else .exc c' fs σ1 S1) else .bad
    | r => r)
  have h : TryE P cc i s E (ev P Φ b [] σ S) := h
  cases q : ev P Φ b [] σ S with
  | exc c' fs σ1 S1 =>
    rw [q] at h
    obtain ⟨h1, h2, h3⟩ := h
    dsimp only
    rw [if_pos h1]
    cases hs : P.sub c' cc with
    | true =>
      obtain ⟨h4, h5⟩ := h2 hs
      rw [if_pos rfl, if_pos h4]
      exact h5
    | false =>
      rw [if_neg Bool.false_ne_true]
      exact h3 hs
  | _ => rw [q] at h; exact h
theorem try_nx {s : C} (h : E (.nx σ S)) : TryE P cc i s E (.nx σ S) := h
theorem try_rt {s : C} (h : E (.rt d S)) : TryE P cc i s E (.rt d S) := h
/-- a turn's end -/
def TurnE (I : Sl → Sto → Prop) (E : Res → Prop) : Res → Prop
  | .nx σ S => I σ S
  | .ct σ S => I σ S
  | .bk σ S => E (.nx σ S)
  | .rt d S => E (.rt d S)
  | .exc c fs σ S => E (.exc c fs σ S)
  | _ => False
theorem turn_nx {I : Sl → Sto → Prop} (h : I σ S) : TurnE I E (.nx σ S) := h
theorem turn_ct {I : Sl → Sto → Prop} (h : I σ S) : TurnE I E (.ct σ S) := h
theorem turn_bk {I : Sl → Sto → Prop} (h : E (.nx σ S)) : TurnE I E (.bk σ S) := h
theorem turn_rt {I : Sl → Sto → Prop} (h : E (.rt d S)) : TurnE I E (.rt d S) := h
theorem turn_exc {I : Sl → Sto → Prop} {fs : List (Nat × D)} (h : E (.exc cc fs σ S)) : TurnE I E (.exc cc fs σ S) := h
theorem loop_w {chk : Sto → Bool} {f : D → Sl → Sto → Res} (I : List D → Sl → Sto → Prop) (hc : ∀ post σ S, I post σ S → chk S = true) (h : ∀ x post σ S, I (x :: post) σ S → TurnE (I post) E (f x σ S)) (he : ∀ σ S, I [] σ S → E (.nx σ S)) :
    ∀ xs σ S, I xs σ S → E (loopR chk f xs σ S)
  | [], σ, S, h0 => by
    rw [loopR, if_pos (hc _ _ _ h0)]
    exact he _ _ h0
  | x :: xs, σ, S, h0 => by
    rw [loopR, if_pos (hc _ _ _ h0)]
    have h1 := h x xs σ S h0
    cases q : f x σ S with
    | nx σ1 S1 => rw [q] at h1; exact loop_w I hc h he xs σ1 S1 h1
    | ct σ1 S1 => rw [q] at h1; exact loop_w I hc h he xs σ1 S1 h1
    | bk σ1 S1 => rw [q] at h1; exact h1
    | rt d S1 => rw [q] at h1; exact h1
    | exc c fs σ1 S1 => rw [q] at h1; exact h1
    | _ => rw [q] at h1; exact h1.elim
/-- for: I tells of the items that are left, the slots, the store -/
theorem s_forW {raws : List (List D)} (I : List D → Sl → Sto → Prop) (h : WA P Φ it σ S (fun ds S => ∃ raws xs, walk S ds = some (raws, xs) ∧ I xs σ S ∧ (∀ post σ S, I post σ S → stillW ds raws S = true)) (fun c fs S => E (.exc c fs σ S)))
    (hb : ∀ x post σ S, I (x :: post) σ S → WG P Φ g [x] σ S fun σ S => WS P Φ b σ S (TurnE (I post) E)) (he : ∀ σ S, I [] σ S → E (.nx σ S)) : WS P Φ (.forr g it b) σ S E := by
  show E (bv σ (ev P Φ it [] σ S) fun ds S => match walk S ds with
    | some (raws, xs) => loopR (stillW ds raws) (fun x σ S => bg (ev P Φ g [x] σ S) fun σ S => ev P Φ b [] σ S) xs σ S
    | none => .bad)
  have h : RA (ev P Φ it [] σ S) _ _ := h
  cases q : ev P Φ it [] σ S with
  | val ds S1 =>
    rw [q] at h
    obtain ⟨raws, xs, e1, h0, hc⟩ := h
    simp only [bv]
    rw [e1]
    refine loop_w I hc (fun x post σ S hi => ?_) he xs σ S1 h0
    have h2 : RG (ev P Φ g [x] σ S) _ := hb x post σ S hi
    cases q2 : ev P Φ g [x] σ S with
    | nx σ2 S2 => rw [q2] at h2; exact h2
    | _ => rw [q2] at h2; exact h2.elim
  | exc c fs σ1 S1 => rw [q] at h; exact h
  | _ => rw [q] at h; exact h.elim
theorem run_w {F : Fn} {E : Res → Prop} (hf : P.fn f = some F) (hl : ds.length = F.np) (h : WS P (run P n) F.body (ds.map some ++ List.replicate (F.ns - F.np) none) S fun r => E (fin r)) : E (run P (n + 1) f ds S) := by
  rw [run_eq hf hl]
  exact h
end
end Vm
namespace Vm
open PySem
section
variable {P : Pg} {Φ : Nat → List D → Sto → Res} {σ σ' : Sl} {S T U : Sto} {K K' : D → Sto → Prop} {X X' : KX} {A B : Prop} {BB : Bool → Prop} {BD : D → Prop} {BL : List D → Prop} {x y d : D} {ds xs ys : List D} {i j k : Int} {n m f cc : Nat} {q : Bool} {p : Prop} [Decidable p] {r : Res} {o o' : Ob}
theorem RV.imp2 (h : RV r K X) (f : ∀ d S, K d S → K' d S) (g : ∀ c fs S, X c fs S → X' c fs S) : RV r K' X' := by
  cases r with
  | val ds S =>
    match ds, h with
    | [d], h => exact f _ _ h
    | [], h => exact h.elim
    | _ :: _ :: _, h => exact h.elim
  | exc c fs σ S => exact g _ _ _ h
  | _ => exact h.elim
/-- an equation as a promise -/
theorem rv_eq (h : RV r (fun d' S' => d' = d ∧ S' = S) noX) : r = .val [d] S := by
  rcases rv_ex h with ⟨d', S', e, rfl, rfl⟩ | ⟨_, _, _, _, _, z⟩
  · exact e
  · exact z.elim
theorem r_add (h : K (.int (i + j)) S) : RV (opBin .Add (.int i) (.int j) S) K X := h
theorem r_sub (h : K (.int (i - j)) S) : RV (opBin .Sub (.int i) (.int j) S) K X := h
theorem r_mul (hm : mulOk i j = true) (h : K (.int (i * j)) S) : RV (opBin .Mult (.int i) (.int j) S) K X := by
  show RV (match arith .Mult i j with
    | some k => .val [.int k] S
    | none => .bad) K X
  simp only [arith, hm, if_true]
  exact h
theorem r_pow (hm : powOk i j = true) (e : i ^ j.toNat = k) (h : K (.int k) S) : RV (opBin .Pow (.int i) (.int j) S) K X := by
  show RV (match arith .Pow i j with
    | some k => .val [.int k] S
    | none => .bad) K X
  simp only [arith, hm, if_true, e]
  exact h
theorem r_adds {u v : List Nat} (hl : u.length + v.length ≤ SL) (h : K (.str (u ++ v)) S) : RV (opBin .Add (.str u) (.str v) S) K X := by
  show RV (if u.length + v.length ≤ SL then .val [.str (u ++ v)] S else .bad) K X
  rw [if_pos hl]; exact h
theorem r_addl (h1 : S.lv x = some xs) (h2 : S.lv y = some ys) (hl : xs.length + ys.length ≤ SL) (h : K (.ref S.length) (S ++ [.lst (xs ++ ys)])) : RV (binLst .Add x y S) K X := by
  unfold binLst
  simp only [h1, h2, if_pos hl]
  exact h
theorem r_addr (hl : xs.length + ys.length ≤ SL) (h : K (.ref S.length) (S ++ [.lst (xs ++ ys)])) : RV (opBin .Add (.rol xs) (.rol ys) S) K X := by
  show RV (binLst .Add (.rol xs) (.rol ys) S) K X
  exact r_addl (xs := xs) (ys := ys) rfl rfl hl h
theorem c_lt (h : BB (decide (i < j))) : ∃ q, opCmp .Lt (.int i) (.int j) S = some q ∧ BB q := ⟨_, by simp only [opCmp, ltI_eq], h⟩
theorem c_le (h : BB (decide (i ≤ j))) : ∃ q, opCmp .LtE (.int i) (.int j) S = some q ∧ BB q := ⟨_, by simp only [opCmp, leI_eq], h⟩
theorem c_gt (h : BB (decide (j < i))) : ∃ q, opCmp .Gt (.int i) (.int j) S = some q ∧ BB q := ⟨_, by simp only [opCmp, ltI_eq], h⟩
theorem c_ge (h : BB (decide (j ≤ i))) : ∃ q, opCmp .GtE (.int i) (.int j) S = some q ∧ BB q := ⟨_, by simp only [opCmp, leI_eq], h⟩
theorem c_eqi (h : BB (decide (i = j))) : ∃ q, opCmp .Eq (.int i) (.int j) S = some q ∧ BB q := ⟨_, by
  show eqD S (.int i) (.int j) = _
  rw [eqD_int]
  rfl, h⟩
theorem c_nei (h : BB (!decide (i = j))) : ∃ q, opCmp .NotEq (.int i) (.int j) S = some q ∧ BB q := ⟨_, by
  show (eqD S (.int i) (.int j)).map (!·) = _
  rw [eqD_int]
  rfl, h⟩
theorem c_eq (e : eqD S x y = some q) (h : BB q) : ∃ q, opCmp .Eq x y S = some q ∧ BB q := ⟨_, e, h⟩
theorem c_ne (e : eqD S x y = some q) (h : BB (!q)) : ∃ q, opCmp .NotEq x y S = some q ∧ BB q := ⟨_, by
  show (eqD S x y).map (!·) = _
  rw [e]
  rfl, h⟩
theorem c_in (e : contains S x y = some q) (h : BB q) : ∃ q, opCmp .In x y S = some q ∧ BB q := ⟨_, e, h⟩
theorem tt_true (h : A) : TT S (.bl true) A B := ⟨true, rfl, fun _ => h, fun z => nomatch z⟩
theorem tt_false (h : B) : TT S (.bl false) A B := ⟨false, rfl, (fun z => nomatch z), fun _ => h⟩
theorem tt_dec (h1 : p → A) (h2 : ¬ p → B) : TT S (.bl (decide p)) A B := ⟨_, rfl, fun e => h1 (of_decide_eq_true e), fun e => h2 (of_decide_eq_false e)⟩
theorem tt_ndec (h1 : ¬ p → A) (h2 : p → B) : TT S (.bl (!decide p)) A B := ⟨_, rfl, (fun e => h1 fun z => by simp [z] at e), fun e => h2 (by simpa using e)⟩
theorem tt_nbl (h1 : q = false → A) (h2 : q = true → B) : TT S (.bl (!q)) A B := ⟨_, rfl, (fun e => h1 (by simpa using e)), fun e => h2 (by simpa using e)⟩
theorem n_bl (h : BB q) : ∃ q', tru S (.bl q) = some q' ∧ BB q' := ⟨q, rfl, h⟩
theorem x_int {Q : Int → Prop} (h : Q i) : ∃ j, D.int i = .int j ∧ Q j := ⟨i, rfl, h⟩
theorem fz_same (hS : S.all Ob.flat = true) (hd : d.flat = true) (h : K d S) : FZ S.length K d S := by
  refine ⟨by rw [List.take_length]; exact hS, d, frz_flat 20 hd, ?_⟩
  rw [List.take_length]; exact h
theorem fz_new (hS : S.all Ob.flat = true) (hx : D.flats xs = true) (h : K (.rol xs) S) : FZ S.length K (.ref S.length) (S ++ [.lst xs]) := by
  refine ⟨by rw [List.take_left' rfl]; exact hS, .rol xs, frz_lst (Nat.le_refl _) get_new hx, ?_⟩
  rw [List.take_left' rfl]; exact h
theorem fz_dropL {V : Sto} {a : Nat} (ha : S.length ≤ a) (e : (S ++ V)[a]? = some (.lst xs)) (hS : S.all Ob.flat = true) (hx : D.flats xs = true) (h : K (.rol xs) S) : FZ S.length K (.ref a) (S ++ V) := by
  refine ⟨by rw [List.take_left' rfl]; exact hS, .rol xs, frz_lst ha e hx, ?_⟩
  rw [List.take_left' rfl]; exact h
theorem frzF_flat {fs : List (Nat × D)} (h : flatF fs = true) : frzF T n fs = some fs := by
  refine mapO_id fun p hp => ?_
  unfold flatF at h
  rw [List.all_eq_true] at h
  rw [frz_flat 20 (h p hp)]
  rfl
/-- what comes back of a call without cells -/
def R0 (S : Sto) (K : D → Sto → Prop) : D → Sto → Prop := fun d U => (d.flat = true ∧ K d S) ∨ (∃ j o, d = .ref j ∧ U[j]? = some o ∧ o.flat = true ∧ K (.ref S.length) (S ++ [o])) ∨ ((∀ j, d ≠ .ref j) ∧ ∃ d', frzD U 0 20 d = some d' ∧ K d' S)
def X0 (S : Sto) (X : KX) : KX := fun c fs U => ∃ fs', frzF U 0 fs = some fs' ∧ X c fs' S
theorem rc0 (hd : D.flats ds = true) (h : RV (Φ f ds []) (R0 S K) (X0 S X)) : RV (callL σ Φ f ds S) K X := by
  rw [callL_0 hd]
  rcases rv_ex h with ⟨d, U, e, h | ⟨j, o, rfl, h1, h2, h3⟩ | ⟨h1, d', h2, h3⟩⟩ | ⟨c, fs, σ1, U, e, fs', h1, h2⟩
  · rw [e, fin0 h.1]; exact h.2
  · rw [e, fin0r h1 h2]; exact h3
  · rw [e]
    unfold finL
    simp only [List.length_nil, List.take_zero, List.all_nil, if_true]
    cases d with
    | ref j => exact absurd rfl (h1 j)
    | _ => simp only [h2]; exact h3
  · rw [e]
    simp only [finL, List.length_nil, List.take_zero, List.all_nil, if_true, h1]
    exact h2
theorem r0_new {a : Nat} (e : U[a]? = some o) (ho : o.flat = true) (h : K (.ref S.length) (S ++ [o])) : R0 S K (.ref a) U := .inr (.inl ⟨_, _, rfl, e, ho, h⟩)
/-- .. with one cell, ahead -/
def R1 (S : Sto) (a : Nat) (K : D → Sto → Prop) : D → Sto → Prop := fun d U => ∃ o' V, U = o' :: V ∧ o'.flat = true ∧ ((d.flat = true ∧ K d (S.set a o')) ∨ (d = .ref 0 ∧ K (.ref a) (S.set a o')) ∨ (∃ j o, d = .ref (j + 1) ∧ V[j]? = some o ∧ o.flat = true ∧ K (.ref S.length) (S.set a o' ++ [o])) ∨ ((∀ j, d ≠ .ref j) ∧ ∃ d', frzD U 1 20 d = some d' ∧ K d' (S.set a o')))
theorem rc1 {a : Nat} (hi : S[a]? = some o) (ho : o.flat = true) (hd : D.flats ds = true) (h : RV (Φ f (.ref 0 :: ds) [o]) (R1 S a K) (fun c fs U => ∃ o' V fs', U = o' :: V ∧ o'.flat = true ∧ frzF U 1 fs = some fs' ∧ X c fs' (S.set a o'))) : RV (callL σ Φ f (.ref a :: ds) S) K X := by
  rw [callL_1 hi ho hd]
  rcases rv_ex h with ⟨d, U, e, o', V, rfl, hf, h | ⟨rfl, h⟩ | ⟨j, q, rfl, h1, h2, h⟩ | ⟨h1, d', h2, h⟩⟩ | ⟨c, fs, σ1, U, e, o', V, fs', rfl, h0, h1, h2⟩
  · rw [e, fin1 h.1 hf]; exact h.2
  · rw [e]
    simp only [finL, List.length_singleton, List.take_succ_cons, List.take_zero, List.all_cons, hf, List.all_nil, Bool.and_self, if_true, Nat.zero_lt_one, List.getElem?_cons_zero]
    exact h
  · rw [e]
    have hn : ¬ (j + 1 < 1) := by omega
    simp only [finL, List.length_singleton, List.take_succ_cons, List.take_zero, List.all_cons, hf, List.all_nil, Bool.and_self, if_true, hn, if_false, List.getElem?_cons_succ, h1, h2]
    exact h
  · rw [e]
    unfold finL
    simp only [List.length_singleton, List.take_succ_cons, List.take_zero, List.all_cons, hf, List.all_nil, Bool.and_self, if_true]
    cases d with
    | ref j => exact absurd rfl (h1 j)
    | _ => simp only [h2]; exact h
  · rw [e]
    simp only [finL, List.length_singleton, List.take_succ_cons, List.take_zero, List.all_cons, h0, List.all_nil, Bool.and_self, if_true, h1]
    exact h2
theorem r1_flat {a : Nat} {V : Sto} (ho : o.flat = true) (hd : d.flat = true) (h : K d (S.set a o)) : R1 S a K d (o :: V) := ⟨o, V, rfl, ho, .inl ⟨hd, h⟩⟩
theorem fin_rtW (h : K d S) : RV (fin (.rt d S)) K X := h
theorem fin_nxW (h : K .non S) : RV (fin (.nx σ S)) K X := h
theorem fin_excW {fs : List (Nat × D)} (h : X cc fs S) : RV (fin (.exc cc fs σ S)) K X := h
/-- a new object, behind its __init__ -/
theorem new_W {i : Nat} (h : RV r (fun d U => d = .non ∧ K (.ref i) U) X) : RV (newR σ i r) K X := by
  rcases rv_ex h with ⟨d, U, e, rfl, h⟩ | ⟨c, fs, σ1, U, e, h⟩
  · rw [e]; exact h
  · rw [e]; exact h
end
end Vm
namespace Vm
open PySem
section
variable {P : Pg} {Φ : Nat → List D → Sto → Res} {σ σ' : Sl} {S T U : Sto} {K K' : D → Sto → Prop} {X X' : KX} {d : D} {ds xs ys : List D} {n f cc : Nat} {r : Res} {g it t e kc vc : C} {own : List Nat}
theorem rc0e {v : D} (hd : D.flats ds = true) (e : Φ f ds [] = .val [v] U) (hv : v.flat = true) (h : K v S) : RV (callL σ Φ f ds S) K X := by
  rw [callL_0 hd, e, fin0 hv]; exact h
/-- a turn: what it adds -/
def TurnK (P : Pg) (Φ : Nat → List D → Sto → Res) (g t e : C) (x : D) (σ : Sl) (S : Sto) (K : List D → Sto → Prop) : Prop :=
  WG P Φ g [x] σ S fun σ2 S2 => WE P Φ t σ2 S2 (fun y S3 => TT S3 y (WE P Φ e σ2 S3 (fun z S4 => K [z] S4) noX) (K [] S3)) noX
theorem turn_ok {x : D} {KA : List D → Sto → Prop} (h : TurnK P Φ g t e x σ S KA) : ∃ ds S', turnC (ev P Φ g [x] σ S) (fun σ S => ev P Φ t [] σ S) (fun σ S => ev P Φ e [] σ S) = .val ds S' ∧ KA ds S' := by
  have h : RG (ev P Φ g [x] σ S) _ := h
  unfold turnC
  cases q : ev P Φ g [x] σ S with
  | nx σ2 S2 =>
    rw [q] at h
    simp only [bg]
    rcases rv_ex h with ⟨y, S3, e1, b, e2, h1, h2⟩ | ⟨_, _, _, _, _, z⟩
    · rw [e1]
      simp only [b1]
      rw [e2]
      cases b with
      | false => exact ⟨_, _, rfl, h2 rfl⟩
      | true =>
        rcases rv_ex (h1 rfl) with ⟨z, S4, e3, h3⟩ | ⟨_, _, _, _, _, z⟩
        · dsimp only
          rw [e3]
          exact ⟨_, _, rfl, h3⟩
        · exact z.elim
    · exact z.elim
  | _ => rw [q] at h; exact h.elim
/-- [..] whose turns leave the store as it is -/
theorem w_lcF {α : Type} {xs : List α} {dx : α → D} (f : α → List D) (h : WA P Φ it σ S (fun ds S => (∃ raws, walk S ds = some (raws, xs.map dx) ∧ stillW ds raws S = true) ∧ (∀ x ∈ xs, TurnK P Φ g t e (dx x) (wipeD σ own) S fun zs S' => zs = f x ∧ S' = S) ∧ (xs.flatMap f).length ≤ SL ∧ K (.ref S.length) (S ++ [.lst (xs.flatMap f)])) X) : WE P Φ (.lc own g it t e) σ S K X := by
  refine rv_bv (RA.imp h fun ds S ⟨⟨raws, e1, hc⟩, ht, h4, h5⟩ => ?_)
  rw [e1]
  have gen : ∀ (ys : List α) (acc : List D), (∀ y ∈ ys, y ∈ xs) → loopC (stillW ds raws) (fun x S => turnC (ev P Φ g [x] (wipeD σ own) S) (fun σ S => ev P Φ t [] σ S) fun σ S => ev P Φ e [] σ S) acc (ys.map dx) S = .val (acc ++ ys.flatMap f) S := by
    intro ys
    induction ys with
    | nil => intro acc _; rw [List.map_nil, loopC, if_pos hc]; simp
    | cons y ys ih =>
      intro acc hm
      obtain ⟨zs, S1, e2, e3, e4⟩ := turn_ok (ht y (hm y List.mem_cons_self))
      subst e3 e4
      rw [List.map_cons, loopC, if_pos hc, e2]
      dsimp only
      rw [ih _ fun z hz => hm z (List.mem_cons_of_mem _ hz)]
      simp
  dsimp only
  rw [gen xs [] fun _ hx => hx]
  simp only [endC, List.nil_append, if_pos h4]
  exact h5
/-- {..} whose turns leave the store as it is and give one pair each -/
theorem w_dcF {α : Type} {xs : List α} {dx : α → D} (f : α → D × D) (h : WA P Φ it σ S (fun ds S => (∃ raws, walk S ds = some (raws, xs.map dx) ∧ stillW ds raws S = true) ∧ (∀ x ∈ xs, WG P Φ g [dx x] (wipeD σ own) S fun σ2 S2 => WE P Φ t σ2 S2 (fun y S3 => ∃ b, tru S3 y = some b ∧ b = true ∧ WE P Φ kc σ2 S3 (fun z S4 => WE P Φ vc σ2 S4 (fun w S5 => S5 = S ∧ f x = (z, w) ∧ isKey z = true) noX) noX) noX) ∧ xs.length ≤ SL ∧ K (.ref S.length) (S ++ [.dct (mergeD [] (xs.map f))])) X) : WE P Φ (.dcm own g it t kc vc) σ S K X := by
  refine rv_bv (RA.imp h fun ds S ⟨⟨raws, e1, hc⟩, ht, h4, h5⟩ => ?_)
  rw [e1]
  have one : ∀ x ∈ xs, isKey (f x).1 = true ∧ turnP (ev P Φ g [dx x] (wipeD σ own) S) (fun σ S => ev P Φ t [] σ S) (fun σ S => ev P Φ kc [] σ S) (fun σ S => ev P Φ vc [] σ S) = .val [(f x).1, (f x).2] S := by
    intro x hx
    have h : RG (ev P Φ g [dx x] (wipeD σ own) S) _ := ht x hx
    unfold turnP
    cases q : ev P Φ g [dx x] (wipeD σ own) S with
    | nx σ2 S2 =>
      rw [q] at h
      simp only [bg]
      rcases rv_ex h with ⟨y, S3, e1, b, e2, rfl, h1⟩ | ⟨_, _, _, _, _, z⟩
      · rw [e1]
        simp only [b1]
        rw [e2]
        dsimp only
        rcases rv_ex h1 with ⟨z, S4, e3, h2⟩ | ⟨_, _, _, _, _, z⟩
        · rw [e3]
          dsimp only
          rcases rv_ex h2 with ⟨w, S5, e4, rfl, e5, e6⟩ | ⟨_, _, _, _, _, z⟩
          · rw [e4, e5]
            exact ⟨e6, rfl⟩
          · exact z.elim
        · exact z.elim
      · exact z.elim
    | _ => rw [q] at h; exact h.elim
  have gen : ∀ (ys : List α) (acc : List D), (∀ y ∈ ys, y ∈ xs) → loopC (stillW ds raws) (fun x S => turnP (ev P Φ g [x] (wipeD σ own) S) (fun σ S => ev P Φ t [] σ S) (fun σ S => ev P Φ kc [] σ S) fun σ S => ev P Φ vc [] σ S) acc (ys.map dx) S = .val (acc ++ ys.flatMap fun x => [(f x).1, (f x).2]) S := by
    intro ys
    induction ys with
    | nil => intro acc _; rw [List.map_nil, loopC, if_pos hc]; simp
    | cons y ys ih =>
      intro acc hm
      rw [List.map_cons, loopC, if_pos hc, (one y (hm y List.mem_cons_self)).2]
      dsimp only
      rw [ih _ fun z hz => hm z (List.mem_cons_of_mem _ hz)]
      simp
  have hp : ∀ (ys : List α), (∀ y ∈ ys, y ∈ xs) → pairsOf (ys.flatMap fun x => [(f x).1, (f x).2]) = some (ys.map f) := by
    intro ys
    induction ys with
    | nil => intro _; rfl
    | cons y ys ih =>
      intro hm
      show (if isKey (f y).1 = true then (match pairsOf (ys.flatMap fun x => [(f x).1, (f x).2]) with
        | some q => some (((f y).1, (f y).2) :: q)
        | none => none) else none) = _
      rw [if_pos (one y (hm y List.mem_cons_self)).1, ih fun z hz => hm z (List.mem_cons_of_mem _ hz)]
      rfl
  dsimp only
  rw [gen xs [] fun _ hx => hx]
  simp only [endD, List.nil_append, hp xs fun _ hx => hx, List.length_map, if_pos h4]
  exact h5
/-- the keys of a dict of pairs: each once, the first ones first -/
theorem merge_keys (v : D) : ∀ (ns : List Int) (acc : List Int), acc.Nodup → ∃ ks : List Int, mergeD (acc.map fun i => (D.int i, v)) (ns.map fun i => (D.int i, v)) = ks.map (fun i => (D.int i, v)) ∧ ks.Nodup ∧ ∀ x, x ∈ ks ↔ x ∈ acc ∨ x ∈ ns
  | [], acc, ha => ⟨acc, rfl, ha, fun x => by simp⟩
  | n :: ns, acc, ha => by
    have e : putK (acc.map fun i => (D.int i, v)) (.int n) v = (if n ∈ acc then acc else acc ++ [n]).map fun i => (D.int i, v) := by
      unfold putK
      have h1 : ((acc.map fun i => (D.int i, v)).any fun p => D.beq p.1 (.int n)) = decide (n ∈ acc) := by
        rw [Bool.eq_iff_iff, List.any_eq_true, decide_eq_true_eq]
        constructor
        · rintro ⟨p, hp, q⟩
          obtain ⟨m, hm, rfl⟩ := List.mem_map.mp hp
          simp only [D.beq, beq_iff_eq] at q
          rw [← q]; exact hm
        · intro hn
          exact ⟨_, List.mem_map_of_mem hn, by simp [D.beq]⟩
      rw [h1]
      by_cases hn : n ∈ acc
      · rw [decide_eq_true hn, if_pos rfl, if_pos hn, List.map_map]
        refine List.map_congr_left fun i _ => ?_
        simp only [Function.comp]
        split <;> rfl
      · rw [decide_eq_false hn, if_neg Bool.false_ne_true, if_neg hn, List.map_append]
        rfl
    have hn' : (if n ∈ acc then acc else acc ++ [n]).Nodup := by
      split
      · exact ha
      · rename_i hn
        rw [List.nodup_append]
        exact ⟨ha, by simp, fun a h1 b h2 => by rw [List.mem_singleton.mp h2]; rintro rfl; exact hn h1⟩
    obtain ⟨ks, h1, h2, h3⟩ := merge_keys v ns _ hn'
    refine ⟨ks, ?_, h2, fun x => ?_⟩
    · show mergeD (putK (acc.map fun i => (D.int i, v)) (.int n) v) (ns.map fun i => (D.int i, v)) = _
      rw [e]; exact h1
    · rw [h3 x, List.mem_cons]
      split
      · rename_i hn
        constructor
        · rintro (h | h)
          · exact .inl h
          · exact .inr (.inr h)
        · rintro (h | rfl | h)
          · exact .inl h
          · exact .inl hn
          · exact .inr h
      · rw [List.mem_append, List.mem_singleton, or_assoc]
end
end Vm
namespace Vm
open PySem
section
variable {S T : Sto} {K : D → Sto → Prop} {X : KX} {xs ys : List D} {d : D} {i j : Int} {u v : List Nat} {b : Bool} {a : Nat}
theorem b_lenr (h : K (.int xs.length) S) : RV (callB .len [.rol xs] S) K X := h
theorem b_lent (h : K (.int xs.length) S) : RV (callB .len [.tup xs] S) K X := h
theorem b_lenc (h : K (.int xs.length) S) : RV (callB .len [.scr xs] S) K X := h
theorem b_lens (h : K (.int u.length) S) : RV (callB .len [.str u] S) K X := h
theorem b_lenl (e : S[a]? = some (.lst xs)) (h : K (.int xs.length) S) : RV (callB .len [.ref a] S) K X := by
  refine rv_of (d := .int xs.length) ?_ h
  simp only [callB, callB1, Sto.lv, Sto.l, e]
theorem b_tupr (h : K (.tup xs) S) : RV (callB .tuple [.rol xs] S) K X := h
theorem b_tupt (h : K (.tup xs) S) : RV (callB .tuple [.tup xs] S) K X := h
theorem b_lstr (h : K (.ref S.length) (S ++ [.lst xs])) : RV (callB .list [.rol xs] S) K X := h
theorem b_lstt (h : K (.ref S.length) (S ++ [.lst xs])) : RV (callB .list [.tup xs] S) K X := h
theorem b_int (h : K (.int i) S) : RV (callB .int [.int i] S) K X := h
theorem b_intb (h : K (.int (if b then 1 else 0)) S) : RV (callB .int [.bl b] S) K X := h
theorem b_bool (h : K (.bl b) S) : RV (callB .bool [.bl b] S) K X := h
theorem b_abs (h : K (.int (if i < 0 then -i else i)) S) : RV (callB .abs [.int i] S) K X := h
theorem b_max (h : K (.int (if j > i then j else i)) S) : RV (callB .max [.int i, .int j] S) K X := h
theorem b_min (h : K (.int (if j < i then j else i)) S) : RV (callB .min [.int i, .int j] S) K X := h
theorem bools_bl : ∀ bs : List Bool, bools (bs.map D.bl) = some bs
  | [] => rfl
  | b :: r => by rw [List.map_cons, bools, bools_bl r]; rfl
theorem b_allr {bs : List Bool} (h : K (.bl (bs.all id)) S) : RV (callB .all [.rol (bs.map D.bl)] S) K X := by
  refine rv_of ?_ h
  simp only [callB, callB1, Sto.lv, Option.bind_some, bools_bl]
theorem b_sorteds {ns : List Int} (e : S[a]? = some (.set (ns.map D.int))) (h : K (.ref S.length) (S ++ [.lst ((isortI (dedZ ns)).map D.int)])) : RV (callB .sorteds [.ref a] S) K X := by
  refine rv_of ?_ h
  simp only [callB, callB1, setOf, e, dedI_ints, sortD_ints]
theorem m_app (e : S[a]? = some (.lst xs)) (hl : xs.length < SL) (h : K .non (S.set a (.lst (xs ++ [d])))) : RV (callM .append (.ref a) [d] S) K X := by
  refine rv_of (d := .non) ?_ h
  simp only [callM, e, if_pos hl]
theorem fl_ints (ns : List Int) : D.flats (ns.map D.int) = true := fl_of fun x hx => by obtain ⟨z, _, rfl⟩ := List.mem_map.mp hx; rfl
theorem ints_of_map : ∀ ns : List Int, intsOf (ns.map D.int) = some ns
  | [] => rfl
  | n :: r => by rw [List.map_cons, intsOf, ints_of_map r]; try rfl
end
/-- a boolean's answer -/
def TB (d : D) (A B : Prop) : Prop := ∃ q, d = .bl q ∧ (q = true → A) ∧ (q = false → B)
section
variable {P : Pg} {Φ : Nat → List D → Sto → Res} {σ : Sl} {S T : Sto} {K : D → Sto → Prop} {X : KX} {a b : C} {A B p : Prop} [Decidable p] {q : Bool}
theorem w_andB (h : WE P Φ a σ S (fun x S => TB x (WE P Φ b σ S K X) (K (.bl false) S)) X) : WE P Φ (.andv a b) σ S K X :=
  w_andv (RV.imp h fun x S ⟨q, e, h1, h2⟩ => by subst e; exact ⟨q, rfl, h1, fun e => by subst e; exact h2 rfl⟩)
theorem w_orB (h : WE P Φ a σ S (fun x S => TB x (K (.bl true) S) (WE P Φ b σ S K X)) X) : WE P Φ (.orv a b) σ S K X :=
  w_orv (RV.imp h fun x S ⟨q, e, h1, h2⟩ => by subst e; exact ⟨q, rfl, (fun e => by subst e; exact h1 rfl), h2⟩)
theorem tb_true (h : A) : TB (.bl true) A B := ⟨true, rfl, fun _ => h, fun z => nomatch z⟩
theorem tb_false (h : B) : TB (.bl false) A B := ⟨false, rfl, (fun z => nomatch z), fun _ => h⟩
theorem tb_dec (h1 : p → A) (h2 : ¬ p → B) : TB (.bl (decide p)) A B := ⟨_, rfl, fun e => h1 (of_decide_eq_true e), fun e => h2 (of_decide_eq_false e)⟩
theorem tb_ndec (h1 : ¬ p → A) (h2 : p → B) : TB (.bl (!decide p)) A B := ⟨_, rfl, (fun e => h1 fun z => by simp [z] at e), fun e => h2 (by simpa using e)⟩
theorem tb_bl (h1 : q = true → A) (h2 : q = false → B) : TB (.bl q) A B := ⟨_, rfl, h1, h2⟩
theorem cj_dec (h1 : p → A) (h2 : ¬ p → B) : (decide p = true → A) ∧ (decide p = false → B) := ⟨fun e => h1 (of_decide_eq_true e), fun e => h2 (of_decide_eq_false e)⟩
theorem tt_nfalse (h : A) : TT S (.bl (!false)) A B := ⟨true, rfl, fun _ => h, fun z => nomatch z⟩
theorem tt_ntrue (h : B) : TT S (.bl (!true)) A B := ⟨false, rfl, (fun z => nomatch z), fun _ => h⟩
theorem tb_nfalse (h : A) : TB (.bl (!false)) A B := ⟨true, rfl, fun _ => h, fun z => nomatch z⟩
theorem tb_ntrue (h : B) : TB (.bl (!true)) A B := ⟨false, rfl, (fun z => nomatch z), fun _ => h⟩
theorem eqv_ints : ∀ a b : List Int, PySem.PyData.eqvAll (a.map PySem.PyData.int) (b.map PySem.PyData.int) = decide (a = b)
  | [], [] => rfl
  | [], _ :: _ => rfl
  | _ :: _, [] => rfl
  | x :: a, y :: b => by
    rw [List.map_cons, List.map_cons, PySem.PyData.eqvAll, eqv_ints a b, show PySem.PyData.eqv (.int x) (.int y) = (x == y) from rfl, Bool.eq_iff_iff, Bool.and_eq_true, beq_iff_eq, decide_eq_true_eq, decide_eq_true_eq, List.cons.injEq]
theorem eqD_tupZ {a b : List Int} : eqD S (.tup (a.map D.int)) (.tup (b.map D.int)) = some (decide (a = b)) := by
  unfold eqD
  rw [pd_tup, pd_tup, pds_ints, pds_ints]
  show some (PySem.PyData.eqv (.tuple (a.map PySem.PyData.int)) (.tuple (b.map PySem.PyData.int))) = _
  rw [PySem.PyData.eqv, eqv_ints]
theorem eqD_rolZ {a b : List Int} : eqD S (.rol (a.map D.int)) (.rol (b.map D.int)) = some (decide (a = b)) := by
  unfold eqD
  rw [pd_rol, pd_rol, pds_ints, pds_ints]
  show some (PySem.PyData.eqv (.list (a.map PySem.PyData.int)) (.list (b.map PySem.PyData.int))) = _
  rw [PySem.PyData.eqv, eqv_ints]
theorem eqD_lvZ {x y : D} {a b : List Int} (hx : S.lv x = some (a.map D.int)) (hy : S.lv y = some (b.map D.int)) : eqD S x y = some (decide (a = b)) := by
  have e : ∀ {c : D} {l : List Int}, S.lv c = some (l.map D.int) → pd S 40 c = some (.list (l.map PySem.PyData.int)) := fun {c l} hc => by
    cases c with
    | ref i => rw [pd_ref, show S.l i = some (l.map D.int) from hc, Option.bind_some, pds_ints]; rfl
    | rol ys => cases hc; rw [pd_rol, pds_ints]; rfl
    | _ => cases hc
  unfold eqD
  rw [e hx, e hy]
  show some (PySem.PyData.eqv (.list (a.map PySem.PyData.int)) (.list (b.map PySem.PyData.int))) = _
  rw [PySem.PyData.eqv, eqv_ints]
end
/-- a suite's end -/
def W1 (i : Nat) (E : Res → Prop) (r : Res) : Prop := E (wipe1 i r)
section
variable {P : Pg} {σ : Sl} {S : Sto} {K : D → Sto → Prop} {X : KX} {s : C} {E : Res → Prop} {c cc i f : Nat} {fs : List (Nat × D)} {d : D} {q : Bool}
theorem w1_nx (h : E (.nx (σ.set i none) S)) : W1 i E (.nx σ S) := h
theorem w1_rt (h : E (.rt d S)) : W1 i E (.rt d S) := h
theorem w1_ct (h : E (.ct (σ.set i none) S)) : W1 i E (.ct σ S) := h
theorem w1_bk (h : E (.bk (σ.set i none) S)) : W1 i E (.bk σ S) := h
end
section
variable {P : Pg} {Φ : Nat → List D → Sto → Res} {σ : Sl} {S : Sto} {K : D → Sto → Prop} {KA : List D → Sto → Prop} {X : KX} {KS : Sl → Sto → Prop} {c s : C} {ins : List D} {E : Res → Prop} {r : Res} {A B : Prop} {d : D} {i cc : Nat} {k : Sl → Sto → Prop}
theorem aE (h : WE P Φ c σ S K X) : WE P Φ c σ S K X := h
theorem aV (h : WE P Φ (.var i) σ S K X) : WE P Φ (.var i) σ S K X := h
theorem aA (h : WA P Φ c σ S KA X) : WA P Φ c σ S KA X := h
theorem aG (h : WG P Φ c ins σ S KS) : WG P Φ c ins σ S KS := h
theorem aN (h : WG P Φ (.gn i) ins σ S KS) : WG P Φ (.gn i) ins σ S KS := h
theorem aS (h : WS P Φ c σ S E) : WS P Φ c σ S E := h
theorem aR (h : RV r K X) : RV r K X := h
theorem aT (h : TT S d A B) : TT S d A B := h
theorem aB (h : TB d A B) : TB d A B := h
theorem aX (h : Nx k E r) : Nx k E r := h
theorem aU (h : TurnE k E r) : TurnE k E r := h
theorem aY (h : TryE P cc i s E r) : TryE P cc i s E r := h
theorem aW (h : W1 i E r) : W1 i E r := h
end
section
variable {P : Pg} {Φ : Nat → List D → Sto → Res} {σ : Sl} {S : Sto} {t b : C} {E : Res → Prop}
theorem s_whlW (I : Nat → Sl → Sto → Prop) {m : Nat} (hm : m < P.wf) (h0 : I m σ S)
    (h : ∀ m σ S, I m σ S → WE P Φ t σ S (fun x S1 => TT S1 x (WS P Φ b σ S1 (TurnE (fun σ S => ∃ m', m' < m ∧ I m' σ S) E)) (E (.nx σ S1))) (fun c fs S1 => E (.exc c fs σ S1))) : WS P Φ (.whl t b) σ S E := by
  show E (whileR (fun σ S => ev P Φ t [] σ S) (fun σ S => ev P Φ b [] σ S) P.wf σ S)
  have go : ∀ (fuel m : Nat) (σ : Sl) (S : Sto), m < fuel → I m σ S → E (whileR (fun σ S => ev P Φ t [] σ S) (fun σ S => ev P Φ b [] σ S) fuel σ S) := by
    intro fuel
    induction fuel with
    | zero => intro m σ S h0; exact absurd h0 (Nat.not_lt_zero _)
    | succ fuel ih =>
      intro m σ S h0 hi
      rw [whileR]
      rcases rv_ex (h m σ S hi) with ⟨d, S1, e, q, e2, h1, h2⟩ | ⟨c, fs, σ1, S1, e, hx⟩
      · rw [e]
        simp only [b1]
        rw [e2]
        cases q with
        | false => exact h2 rfl
        | true =>
          have h3 : TurnE _ E (ev P Φ b [] σ S1) := h1 rfl
          dsimp only
          cases q : ev P Φ b [] σ S1 with
          | nx σ2 S2 => rw [q] at h3; obtain ⟨m', l, hi⟩ := h3; exact ih m' σ2 S2 (by omega) hi
          | ct σ2 S2 => rw [q] at h3; obtain ⟨m', l, hi⟩ := h3; exact ih m' σ2 S2 (by omega) hi
          | bk σ2 S2 => rw [q] at h3; exact h3
          | rt d S2 => rw [q] at h3; exact h3
          | exc c fs σ2 S2 => rw [q] at h3; exact h3
          | _ => rw [q] at h3; exact h3.elim
      · rw [e]
        exact hx
  exact go _ m σ S hm h0
end
section
variable {P : Pg} {Φ : Nat → List D → Sto → Res} {S : Sto} {K : D → Sto → Prop} {X : KX} {KS : Sl → Sto → Prop} {d : D} {r : Sl} {y0 y1 y2 y3 y4 y5 y6 y7 y8 y9 y10 y11 y12 y13 y14 y15 y16 y17 y18 y19 y20 : Option D}
theorem w_var0 (q : K d S) : WE P Φ (.var 0) (some d :: r) S K X := w_var rfl q
theorem g_gn0 (q : KS (some d :: r) S) : WG P Φ (.gn 0) [d] (y0 :: r) S KS := g_gn (show (if 0 < List.length (y0 :: r) then some (List.set (y0 :: r) 0 (some d)) else none) = some (some d :: r) by rw [if_pos (by simp only [List.length_cons]; omega)]; rfl) q
theorem w_var1 (q : K d S) : WE P Φ (.var 1) (y0 :: some d :: r) S K X := w_var rfl q
theorem g_gn1 (q : KS (y0 :: some d :: r) S) : WG P Φ (.gn 1) [d] (y0 :: y1 :: r) S KS := g_gn (show (if 1 < List.length (y0 :: y1 :: r) then some (List.set (y0 :: y1 :: r) 1 (some d)) else none) = some (y0 :: some d :: r) by rw [if_pos (by simp only [List.length_cons]; omega)]; rfl) q
theorem w_var2 (q : K d S) : WE P Φ (.var 2) (y0 :: y1 :: some d :: r) S K X := w_var rfl q
theorem g_gn2 (q : KS (y0 :: y1 :: some d :: r) S) : WG P Φ (.gn 2) [d] (y0 :: y1 :: y2 :: r) S KS := g_gn (show (if 2 < List.length (y0 :: y1 :: y2 :: r) then some (List.set (y0 :: y1 :: y2 :: r) 2 (some d)) else none) = some (y0 :: y1 :: some d :: r) by rw [if_pos (by simp only [List.length_cons]; omega)]; rfl) q
theorem w_var3 (q : K d S) : WE P Φ (.var 3) (y0 :: y1 :: y2 :: some d :: r) S K X := w_var rfl q
theorem g_gn3 (q : KS (y0 :: y1 :: y2 :: some d :: r) S) : WG P Φ (.gn 3) [d] (y0 :: y1 :: y2 :: y3 :: r) S KS := g_gn (show (if 3 < List.length (y0 :: y1 :: y2 :: y3 :: r) then some (List.set (y0 :: y1 :: y2 :: y3 :: r) 3 (some d)) else none) = some (y0 :: y1 :: y2 :: some d :: r) by rw [if_pos (by simp only [List.length_cons]; omega)]; rfl) q
theorem w_var4 (q : K d S) : WE P Φ (.var 4) (y0 :: y1 :: y2 :: y3 :: some d :: r) S K X := w_var rfl q
theorem g_gn4 (q : KS (y0 :: y1 :: y2 :: y3 :: some d :: r) S) : WG P Φ (.gn 4) [d] (y0 :: y1 :: y2 :: y3 :: y4 :: r) S KS := g_gn (show (if 4 < List.length (y0 :: y1 :: y2 :: y3 :: y4 :: r) then some (List.set (y0 :: y1 :: y2 :: y3 :: y4 :: r) 4 (some d)) else none) = some (y0 :: y1 :: y2 :: y3 :: some d :: r) by rw [if_pos (by simp only [List.length_cons]; omega)]; rfl) q
theorem w_var5 (q : K d S) : WE P Φ (.var 5) (y0 :: y1 :: y2 :: y3 :: y4 :: some d :: r) S K X := w_var rfl q
theorem g_gn5 (q : KS (y0 :: y1 :: y2 :: y3 :: y4 :: some d :: r) S) : WG P Φ (.gn 5) [d] (y0 :: y1 :: y2 :: y3 :: y4 :: y5 :: r) S KS := g_gn (show (if 5 < List.length (y0 :: y1 :: y2 :: y3 :: y4 :: y5 :: r) then some (List.set (y0 :: y1 :: y2 :: y3 :: y4 :: y5 :: r) 5 (some d)) else none) = some (y0 :: y1 :: y2 :: y3 :: y4 :: some d :: r) by rw [if_pos (by simp only [List.length_cons]; omega)]; rfl) q
theorem w_var6 (q : K d S) : WE P Φ (.var 6) (y0 :: y1 :: y2 :: y3 :: y4 :: y5 :: some d :: r) S K X := w_var rfl q
theorem g_gn6 (q : KS (y0 :: y1 :: y2 :: y3 :: y4 :: y5 :: some d :: r) S) : WG P Φ (.gn 6) [d] (y0 :: y1 :: y2 :: y3 :: y4 :: y5 :: y6 :: r) S KS := g_gn (show (if 6 < List.length (y0 :: y1 :: y2 :: y3 :: y4 :: y5 :: y6 :: r) then some (List.set (y0 :: y1 :: y2 :: y3 :: y4 :: y5 :: y6 :: r) 6 (some d)) else none) = some (y0 :: y1 :: y2 :: y3 :: y4 :: y5 :: some d :: r) by rw [if_pos (by simp only [List.length_cons]; omega)]; rfl) q
theorem w_var7 (q : K d S) : WE P Φ (.var 7) (y0 :: y1 :: y2 :: y3 :: y4 :: y5 :: y6 :: some d :: r) S K X := w_var rfl q
theorem g_gn7 (q : KS (y0 :: y1 :: y2 :: y3 :: y4 :: y5 :: y6 :: some d :: r) S) : WG P Φ (.gn 7) [d] (y0 :: y1 :: y2 :: y3 :: y4 :: y5 :: y6 :: y7 :: r) S KS := g_gn (show (if 7 < List.length (y0 :: y1 :: y2 :: y3 :: y4 :: y5 :: y6 :: y7 :: r) then some (List.set (y0 :: y1 :: y2 :: y3 :: y4 :: y5 :: y6 :: y7 :: r) 7 (some d)) else none) = some (y0 :: y1 :: y2 :: y3 :: y4 :: y5 :: y6 :: some d :: r) by rw [if_pos (by simp only [List.length_cons]; omega)]; rfl) q
theorem w_var8 (q : K d S) : WE P Φ (.var 8) (y0 :: y1 :: y2 :: y3 :: y4 :: y5 :: y6 :: y7 :: some d :: r) S K X := w_var rfl q
theorem g_gn8 (q : KS (y0 :: y1 :: y2 :: y3 :: y4 :: y5 :: y6 :: y7 :: some d :: r) S) : WG P Φ (.gn 8) [d] (y0 :: y1 :: y2 :: y3 :: y4 :: y5 :: y6 :: y7 :: y8 :: r) S KS := g_gn (show (if 8 < List.length (y0 :: y1 :: y2 :: y3 :: y4 :: y5 :: y6 :: y7 :: y8 :: r) then some (List.set (y0 :: y1 :: y2 :: y3 :: y4 :: y5 :: y6 :: y7 :: y8 :: r) 8 (some d)) else none) = some (y0 :: y1 :: y2 :: y3 :: y4 :: y5 :: y6 :: y7 :: some d :: r) by rw [if_pos (by simp only [List.length_cons]; omega)]; rfl) q
theorem w_var9 (q : K d S) : WE P Φ (.var 9) (y0 :: y1 :: y2 :: y3 :: y4 :: y5 :: y6 :: y7 :: y8 :: some d :: r) S K X := w_var rfl q
theorem g_gn9 (q : KS (y0 :: y1 :: y2 :: y3 :: y4 :: y5 :: y6 :: y7 :: y8 :: some d :: r) S) : WG P Φ (.gn 9) [d] (y0 :: y1 :: y2 :: y3 :: y4 :: y5 :: y6 :: y7 :: y8 :: y9 :: r) S KS := g_gn (show (if 9 < List.length (y0 :: y1 :: y2 :: y3 :: y4 :: y5 :: y6 :: y7 :: y8 :: y9 :: r) then some (List.set (y0 :: y1 :: y2 :: y3 :: y4 :: y5 :: y6 :: y7 :: y8 :: y9 :: r) 9 (some d)) else none) = some (y0 :: y1 :: y2 :: y3 :: y4 :: y5 :: y6 :: y7 :: y8 :: some d :: r) by rw [if_pos (by simp only [List.length_cons]; omega)]; rfl) q
theorem w_var10 (q : K d S) : WE P Φ (.var 10) (y0 :: y1 :: y2 :: y3 :: y4 :: y5 :: y6 :: y7 :: y8 :: y9 :: some d :: r) S K X := w_var rfl q
theorem g_gn10 (q : KS (y0 :: y1 :: y2 :: y3 :: y4 :: y5 :: y6 :: y7 :: y8 :: y9 :: some d :: r) S) : WG P Φ (.gn 10) [d] (y0 :: y1 :: y2 :: y3 :: y4 :: y5 :: y6 :: y7 :: y8 :: y9 :: y10 :: r) S KS := g_gn (show (if 10 < List.length (y0 :: y1 :: y2 :: y3 :: y4 :: y5 :: y6 :: y7 :: y8 :: y9 :: y10 :: r) then some (List.set (y0 :: y1 :: y2 :: y3 :: y4 :: y5 :: y6 :: y7 :: y8 :: y9 :: y10 :: r) 10 (some d)) else none) = some (y0 :: y1 :: y2 :: y3 :: y4 :: y5 :: y6 :: y7 :: y8 :: y9 :: some d :: r) by rw [if_pos (by simp only [List.length_cons]; omega)]; rfl) q
theorem w_var11 (q : K d S) : WE P Φ (.var 11) (y0 :: y1 :: y2 :: y3 :: y4 :: y5 :: y6 :: y7 :: y8 :: y9 :: y10 :: some d :: r) S K X := w_var rfl q
theorem g_gn11 (q : KS (y0 :: y1 :: y2 :: y3 :: y4 :: y5 :: y6 :: y7 :: y8 :: y9 :: y10 :: some d :: r) S) : WG P Φ (.gn 11) [d] (y0 :: y1 :: y2 :: y3 :: y4 :: y5 :: y6 :: y7 :: y8 :: y9 :: y10 :: y11 :: r) S KS := g_gn (show (if 11 < List.length (y0 :: y1 :: y2 :: y3 :: y4 :: y5 :: y6 :: y7 :: y8 :: y9 :: y10 :: y11 :: r) then some (List.set (y0 :: y1 :: y2 :: y3 :: y4 :: y5 :: y6 :: y7 :: y8 :: y9 :: y10 :: y11 :: r) 11 (some d)) else none) = some (y0 :: y1 :: y2 :: y3 :: y4 :: y5 :: y6 :: y7 :: y8 :: y9 :: y10 :: some d :: r) by rw [if_pos (by simp only [List.length_cons]; omega)]; rfl) q
theorem w_var12 (q : K d S) : WE P Φ (.var 12) (y0 :: y1 :: y2 :: y3 :: y4 :: y5 :: y6 :: y7 :: y8 :: y9 :: y10 :: y11 :: some d :: r) S K X := w_var rfl q
theorem g_gn12 (q : KS (y0 :: y1 :: y2 :: y3 :: y4 :: y5 :: y6 :: y7 :: y8 :: y9 :: y10 :: y11 :: some d :: r) S) : WG P Φ (.gn 12) [d] (y0 :: y1 :: y2 :: y3 :: y4 :: y5 :: y6 :: y7 :: y8 :: y9 :: y10 :: y11 :: y12 :: r) S KS := g_gn (show (if 12 < List.length (y0 :: y1 :: y2 :: y3 :: y4 :: y5 :: y6 :: y7 :: y8 :: y9 :: y10 :: y11 :: y12 :: r) then some (List.set (y0 :: y1 :: y2 :: y3 :: y4 :: y5 :: y6 :: y7 :: y8 :: y9 :: y10 :: y11 :: y12 :: r) 12 (some d)) else none) = some (y0 :: y1 :: y2 :: y3 :: y4 :: y5 :: y6 :: y7 :: y8 :: y9 :: y10 :: y11 :: some d :: r) by rw [if_pos (by simp only [List.length_cons]; omega)]; rfl) q
theorem w_var13 (q : K d S) : WE P Φ (.var 13) (y0 :: y1 :: y2 :: y3 :: y4 :: y5 :: y6 :: y7 :: y8 :: y9 :: y10 :: y11 :: y12 :: some d :: r) S K X := w_var rfl q
theorem g_gn13 (q : KS (y0 :: y1 :: y2 :: y3 :: y4 :: y5 :: y6 :: y7 :: y8 :: y9 :: y10 :: y11 :: y12 :: some d :: r) S) : WG P Φ (.gn 13) [d] (y0 :: y1 :: y2 :: y3 :: y4 :: y5 :: y6 :: y7 :: y8 :: y9 :: y10 :: y11 :: y12 :: y13 :: r) S KS := g_gn (show (if 13 < List.length (y0 :: y1 :: y2 :: y3 :: y4 :: y5 :: y6 :: y7 :: y8 :: y9 :: y10 :: y11 :: y12 :: y13 :: r) then some (List.set (y0 :: y1 :: y2 :: y3 :: y4 :: y5 :: y6 :: y7 :: y8 :: y9 :: y10 :: y11 :: y12 :: y13 :: r) 13 (some d)) else none) = some (y0 :: y1 :: y2 :: y3 :: y4 :: y5 :: y6 :: y7 :: y8 :: y9 :: y10 :: y11 :: y12 :: some d :: r) by rw [if_pos (by simp only [List.length_cons]; omega)]; rfl) q
theorem w_var14 (q : K d S) : WE P Φ (.var 14) (y0 :: y1 :: y2 :: y3 :: y4 :: y5 :: y6 :: y7 :: y8 :: y9 :: y10 :: y11 :: y12 :: y13 :: some d :: r) S K X := w_var rfl q
theorem g_gn14 (q : KS (y0 :: y1 :: y2 :: y3 :: y4 :: y5 :: y6 :: y7 :: y8 :: y9 :: y10 :: y11 :: y12 :: y13 :: some d :: r) S) : WG P Φ (.gn 14) [d] (y0 :: y1 :: y2 :: y3 :: y4 :: y5 :: y6 :: y7 :: y8 :: y9 :: y10 :: y11 :: y12 :: y13 :: y14 :: r) S KS := g_gn (show (if 14 < List.length (y0 :: y1 :: y2 :: y3 :: y4 :: y5 :: y6 :: y7 :: y8 :: y9 :: y10 :: y11 :: y12 :: y13 :: y14 :: r) then some (List.set (y0 :: y1 :: y2 :: y3 :: y4 :: y5 :: y6 :: y7 :: y8 :: y9 :: y10 :: y11 :: y12 :: y13 :: y14 :: r) 14 (some d)) else none) = some (y0 :: y1 :: y2 :: y3 :: y4 :: y5 :: y6 :: y7 :: y8 :: y9 :: y10 :: y11 :: y12 :: y13 :: some d :: r) by rw [if_pos (by simp only [List.length_cons]; omega)]; rfl) q
theorem w_var15 (q : K d S) : WE P Φ (.var 15) (y0 :: y1 :: y2 :: y3 :: y4 :: y5 :: y6 :: y7 :: y8 :: y9 :: y10 :: y11 :: y12 :: y13 :: y14 :: some d :: r) S K X := w_var rfl q
theorem g_gn15 (q : KS (y0 :: y1 :: y2 :: y3 :: y4 :: y5 :: y6 :: y7 :: y8 :: y9 :: y10 :: y11 :: y12 :: y13 :: y14 :: some d :: r) S) : WG P Φ (.gn 15) [d] (y0 :: y1 :: y2 :: y3 :: y4 :: y5 :: y6 :: y7 :: y8 :: y9 :: y10 :: y11 :: y12 :: y13 :: y14 :: y15 :: r) S KS := g_gn (show (if 15 < List.length (y0 :: y1 :: y2 :: y3 :: y4 :: y5 :: y6 :: y7 :: y8 :: y9 :: y10 :: y11 :: y12 :: y13 :: y14 :: y15 :: r) then some (List.set (y0 :: y1 :: y2 :: y3 :: y4 :: y5 :: y6 :: y7 :: y8 :: y9 :: y10 :: y11 :: y12 :: y13 :: y14 :: y15 :: r) 15 (some d)) else none) = some (y0 :: y1 :: y2 :: y3 :: y4 :: y5 :: y6 :: y7 :: y8 :: y9 :: y10 :: y11 :: y12 :: y13 :: y14 :: some d :: r) by rw [if_pos (by simp only [List.length_cons]; omega)]; rfl) q
theorem w_var16 (q : K d S) : WE P Φ (.var 16) (y0 :: y1 :: y2 :: y3 :: y4 :: y5 :: y6 :: y7 :: y8 :: y9 :: y10 :: y11 :: y12 :: y13 :: y14 :: y15 :: some d :: r) S K X := w_var rfl q
theorem g_gn16 (q : KS (y0 :: y1 :: y2 :: y3 :: y4 :: y5 :: y6 :: y7 :: y8 :: y9 :: y10 :: y11 :: y12 :: y13 :: y14 :: y15 :: some d :: r) S) : WG P Φ (.gn 16) [d] (y0 :: y1 :: y2 :: y3 :: y4 :: y5 :: y6 :: y7 :: y8 :: y9 :: y10 :: y11 :: y12 :: y13 :: y14 :: y15 :: y16 :: r) S KS := g_gn (show (if 16 < List.length (y0 :: y1 :: y2 :: y3 :: y4 :: y5 :: y6 :: y7 :: y8 :: y9 :: y10 :: y11 :: y12 :: y13 :: y14 :: y15 :: y16 :: r) then some (List.set (y0 :: y1 :: y2 :: y3 :: y4 :: y5 :: y6 :: y7 :: y8 :: y9 :: y10 :: y11 :: y12 :: y13 :: y14 :: y15 :: y16 :: r) 16 (some d)) else none) = some (y0 :: y1 :: y2 :: y3 :: y4 :: y5 :: y6 :: y7 :: y8 :: y9 :: y10 :: y11 :: y12 :: y13 :: y14 :: y15 :: some d :: r) by rw [if_pos (by simp only [List.length_cons]; omega)]; rfl) q
theorem w_var17 (q : K d S) : WE P Φ (.var 17) (y0 :: y1 :: y2 :: y3 :: y4 :: y5 :: y6 :: y7 :: y8 :: y9 :: y10 :: y11 :: y12 :: y13 :: y14 :: y15 :: y16 :: some d :: r) S K X := w_var rfl q
theorem g_gn17 (q : KS (y0 :: y1 :: y2 :: y3 :: y4 :: y5 :: y6 :: y7 :: y8 :: y9 :: y10 :: y11 :: y12 :: y13 :: y14 :: y15 :: y16 :: some d :: r) S) : WG P Φ (.gn 17) [d] (y0 :: y1 :: y2 :: y3 :: y4 :: y5 :: y6 :: y7 :: y8 :: y9 :: y10 :: y11 :: y12 :: y13 :: y14 :: y15 :: y16 :: y17 :: r) S KS := g_gn (show (if 17 < List.length (y0 :: y1 :: y2 :: y3 :: y4 :: y5 :: y6 :: y7 :: y8 :: y9 :: y10 :: y11 :: y12 :: y13 :: y14 :: y15 :: y16 :: y17 :: r) then some (List.set (y0 :: y1 :: y2 :: y3 :: y4 :: y5 :: y6 :: y7 :: y8 :: y9 :: y10 :: y11 :: y12 :: y13 :: y14 :: y15 :: y16 :: y17 :: r) 17 (some d)) else none) = some (y0 :: y1 :: y2 :: y3 :: y4 :: y5 :: y6 :: y7 :: y8 :: y9 :: y10 :: y11 :: y12 :: y13 :: y14 :: y15 :: y16 :: some d :: r) by rw [if_pos (by simp only [List.length_cons]; omega)]; rfl) q
theorem w_var18 (q : K d S) : WE P Φ (.var 18) (y0 :: y1 :: y2 :: y3 :: y4 :: y5 :: y6 :: y7 :: y8 :: y9 :: y10 :: y11 :: y12 :: y13 :: y14 :: y15 :: y16 :: y17 :: some d :: r) S K X := w_var rfl q
theorem g_gn18 (q : KS (y0 :: y1 :: y2 :: y3 :: y4 :: y5 :: y6 :: y7 :: y8 :: y9 :: y10 :: y11 :: y12 :: y13 :: y14 :: y15 :: y16 :: y17 :: some d :: r) S) : WG P Φ (.gn 18) [d] (y0 :: y1 :: y2 :: y3 :: y4 :: y5 :: y6 :: y7 :: y8 :: y9 :: y10 :: y11 :: y12 :: y13 :: y14 :: y15 :: y16 :: y17 :: y18 :: r) S KS := g_gn (show (if 18 < List.length (y0 :: y1 :: y2 :: y3 :: y4 :: y5 :: y6 :: y7 :: y8 :: y9 :: y10 :: y11 :: y12 :: y13 :: y14 :: y15 :: y16 :: y17 :: y18 :: r) then some (List.set (y0 :: y1 :: y2 :: y3 :: y4 :: y5 :: y6 :: y7 :: y8 :: y9 :: y10 :: y11 :: y12 :: y13 :: y14 :: y15 :: y16 :: y17 :: y18 :: r) 18 (some d)) else none) = some (y0 :: y1 :: y2 :: y3 :: y4 :: y5 :: y6 :: y7 :: y8 :: y9 :: y10 :: y11 :: y12 :: y13 :: y14 :: y15 :: y16 :: y17 :: some d :: r) by rw [if_pos (by simp only [List.length_cons]; omega)]; rfl) q
theorem w_var19 (q : K d S) : WE P Φ (.var 19) (y0 :: y1 :: y2 :: y3 :: y4 :: y5 :: y6 :: y7 :: y8 :: y9 :: y10 :: y11 :: y12 :: y13 :: y14 :: y15 :: y16 :: y17 :: y18 :: some d :: r) S K X := w_var rfl q
theorem g_gn19 (q : KS (y0 :: y1 :: y2 :: y3 :: y4 :: y5 :: y6 :: y7 :: y8 :: y9 :: y10 :: y11 :: y12 :: y13 :: y14 :: y15 :: y16 :: y17 :: y18 :: some d :: r) S) : WG P Φ (.gn 19) [d] (y0 :: y1 :: y2 :: y3 :: y4 :: y5 :: y6 :: y7 :: y8 :: y9 :: y10 :: y11 :: y12 :: y13 :: y14 :: y15 :: y16 :: y17 :: y18 :: y19 :: r) S KS := g_gn (show (if 19 < List.length (y0 :: y1 :: y2 :: y3 :: y4 :: y5 :: y6 :: y7 :: y8 :: y9 :: y10 :: y11 :: y12 :: y13 :: y14 :: y15 :: y16 :: y17 :: y18 :: y19 :: r) then some (List.set (y0 :: y1 :: y2 :: y3 :: y4 :: y5 :: y6 :: y7 :: y8 :: y9 :: y10 :: y11 :: y12 :: y13 :: y14 :: y15 :: y16 :: y17 :: y18 :: y19 :: r) 19 (some d)) else none) = some (y0 :: y1 :: y2 :: y3 :: y4 :: y5 :: y6 :: y7 :: y8 :: y9 :: y10 :: y11 :: y12 :: y13 :: y14 :: y15 :: y16 :: y17 :: y18 :: some d :: r) by rw [if_pos (by simp only [List.length_cons]; omega)]; rfl) q
end
section
variable {P : Pg} {Φ : Nat → List D → Sto → Res} {S : Sto} {e : C} {E : Res → Prop} {z : Int} {r : Sl} {y0 y1 y2 y3 y4 y5 y6 y7 y8 y9 y10 y11 y12 : Option D}
theorem s_augA0 (h : WE P Φ e (some (.int z) :: r) S (fun y S => ∃ j, y = .int j ∧ E (.nx (some (.int (z + j)) :: r) S)) (fun c fs S => E (.exc c fs (some (.int z) :: r) S))) : WS P Φ (.aug 0 .Add e) (some (.int z) :: r) S E := s_augW (z := .int z) rfl (RV.imp h fun y S ⟨j, e, h⟩ => ⟨z, j, z + j, rfl, e, rfl, h⟩)
theorem s_augA1 (h : WE P Φ e (y0 :: some (.int z) :: r) S (fun y S => ∃ j, y = .int j ∧ E (.nx (y0 :: some (.int (z + j)) :: r) S)) (fun c fs S => E (.exc c fs (y0 :: some (.int z) :: r) S))) : WS P Φ (.aug 1 .Add e) (y0 :: some (.int z) :: r) S E := s_augW (z := .int z) rfl (RV.imp h fun y S ⟨j, e, h⟩ => ⟨z, j, z + j, rfl, e, rfl, h⟩)
theorem s_augA2 (h : WE P Φ e (y0 :: y1 :: some (.int z) :: r) S (fun y S => ∃ j, y = .int j ∧ E (.nx (y0 :: y1 :: some (.int (z + j)) :: r) S)) (fun c fs S => E (.exc c fs (y0 :: y1 :: some (.int z) :: r) S))) : WS P Φ (.aug 2 .Add e) (y0 :: y1 :: some (.int z) :: r) S E := s_augW (z := .int z) rfl (RV.imp h fun y S ⟨j, e, h⟩ => ⟨z, j, z + j, rfl, e, rfl, h⟩)
theorem s_augA3 (h : WE P Φ e (y0 :: y1 :: y2 :: some (.int z) :: r) S (fun y S => ∃ j, y = .int j ∧ E (.nx (y0 :: y1 :: y2 :: some (.int (z + j)) :: r) S)) (fun c fs S => E (.exc c fs (y0 :: y1 :: y2 :: some (.int z) :: r) S))) : WS P Φ (.aug 3 .Add e) (y0 :: y1 :: y2 :: some (.int z) :: r) S E := s_augW (z := .int z) rfl (RV.imp h fun y S ⟨j, e, h⟩ => ⟨z, j, z + j, rfl, e, rfl, h⟩)
theorem s_augA4 (h : WE P Φ e (y0 :: y1 :: y2 :: y3 :: some (.int z) :: r) S (fun y S => ∃ j, y = .int j ∧ E (.nx (y0 :: y1 :: y2 :: y3 :: some (.int (z + j)) :: r) S)) (fun c fs S => E (.exc c fs (y0 :: y1 :: y2 :: y3 :: some (.int z) :: r) S))) : WS P Φ (.aug 4 .Add e) (y0 :: y1 :: y2 :: y3 :: some (.int z) :: r) S E := s_augW (z := .int z) rfl (RV.imp h fun y S ⟨j, e, h⟩ => ⟨z, j, z + j, rfl, e, rfl, h⟩)
theorem s_augA5 (h : WE P Φ e (y0 :: y1 :: y2 :: y3 :: y4 :: some (.int z) :: r) S (fun y S => ∃ j, y = .int j ∧ E (.nx (y0 :: y1 :: y2 :: y3 :: y4 :: some (.int (z + j)) :: r) S)) (fun c fs S => E (.exc c fs (y0 :: y1 :: y2 :: y3 :: y4 :: some (.int z) :: r) S))) : WS P Φ (.aug 5 .Add e) (y0 :: y1 :: y2 :: y3 :: y4 :: some (.int z) :: r) S E := s_augW (z := .int z) rfl (RV.imp h fun y S ⟨j, e, h⟩ => ⟨z, j, z + j, rfl, e, rfl, h⟩)
theorem s_augA6 (h : WE P Φ e (y0 :: y1 :: y2 :: y3 :: y4 :: y5 :: some (.int z) :: r) S (fun y S => ∃ j, y = .int j ∧ E (.nx (y0 :: y1 :: y2 :: y3 :: y4 :: y5 :: some (.int (z + j)) :: r) S)) (fun c fs S => E (.exc c fs (y0 :: y1 :: y2 :: y3 :: y4 :: y5 :: some (.int z) :: r) S))) : WS P Φ (.aug 6 .Add e) (y0 :: y1 :: y2 :: y3 :: y4 :: y5 :: some (.int z) :: r) S E := s_augW (z := .int z) rfl (RV.imp h fun y S ⟨j, e, h⟩ => ⟨z, j, z + j, rfl, e, rfl, h⟩)
theorem s_augA7 (h : WE P Φ e (y0 :: y1 :: y2 :: y3 :: y4 :: y5 :: y6 :: some (.int z) :: r) S (fun y S => ∃ j, y = .int j ∧ E (.nx (y0 :: y1 :: y2 :: y3 :: y4 :: y5 :: y6 :: some (.int (z + j)) :: r) S)) (fun c fs S => E (.exc c fs (y0 :: y1 :: y2 :: y3 :: y4 :: y5 :: y6 :: some (.int z) :: r) S))) : WS P Φ (.aug 7 .Add e) (y0 :: y1 :: y2 :: y3 :: y4 :: y5 :: y6 :: some (.int z) :: r) S E := s_augW (z := .int z) rfl (RV.imp h fun y S ⟨j, e, h⟩ => ⟨z, j, z + j, rfl, e, rfl, h⟩)
theorem s_augA8 (h : WE P Φ e (y0 :: y1 :: y2 :: y3 :: y4 :: y5 :: y6 :: y7 :: some (.int z) :: r) S (fun y S => ∃ j, y = .int j ∧ E (.nx (y0 :: y1 :: y2 :: y3 :: y4 :: y5 :: y6 :: y7 :: some (.int (z + j)) :: r) S)) (fun c fs S => E (.exc c fs (y0 :: y1 :: y2 :: y3 :: y4 :: y5 :: y6 :: y7 :: some (.int z) :: r) S))) : WS P Φ (.aug 8 .Add e) (y0 :: y1 :: y2 :: y3 :: y4 :: y5 :: y6 :: y7 :: some (.int z) :: r) S E := s_augW (z := .int z) rfl (RV.imp h fun y S ⟨j, e, h⟩ => ⟨z, j, z + j, rfl, e, rfl, h⟩)
theorem s_augA9 (h : WE P Φ e (y0 :: y1 :: y2 :: y3 :: y4 :: y5 :: y6 :: y7 :: y8 :: some (.int z) :: r) S (fun y S => ∃ j, y = .int j ∧ E (.nx (y0 :: y1 :: y2 :: y3 :: y4 :: y5 :: y6 :: y7 :: y8 :: some (.int (z + j)) :: r) S)) (fun c fs S => E (.exc c fs (y0 :: y1 :: y2 :: y3 :: y4 :: y5 :: y6 :: y7 :: y8 :: some (.int z) :: r) S))) : WS P Φ (.aug 9 .Add e) (y0 :: y1 :: y2 :: y3 :: y4 :: y5 :: y6 :: y7 :: y8 :: some (.int z) :: r) S E := s_augW (z := .int z) rfl (RV.imp h fun y S ⟨j, e, h⟩ => ⟨z, j, z + j, rfl, e, rfl, h⟩)
theorem s_augA10 (h : WE P Φ e (y0 :: y1 :: y2 :: y3 :: y4 :: y5 :: y6 :: y7 :: y8 :: y9 :: some (.int z) :: r) S (fun y S => ∃ j, y = .int j ∧ E (.nx (y0 :: y1 :: y2 :: y3 :: y4 :: y5 :: y6 :: y7 :: y8 :: y9 :: some (.int (z + j)) :: r) S)) (fun c fs S => E (.exc c fs (y0 :: y1 :: y2 :: y3 :: y4 :: y5 :: y6 :: y7 :: y8 :: y9 :: some (.int z) :: r) S))) : WS P Φ (.aug 10 .Add e) (y0 :: y1 :: y2 :: y3 :: y4 :: y5 :: y6 :: y7 :: y8 :: y9 :: some (.int z) :: r) S E := s_augW (z := .int z) rfl (RV.imp h fun y S ⟨j, e, h⟩ => ⟨z, j, z + j, rfl, e, rfl, h⟩)
theorem s_augA11 (h : WE P Φ e (y0 :: y1 :: y2 :: y3 :: y4 :: y5 :: y6 :: y7 :: y8 :: y9 :: y10 :: some (.int z) :: r) S (fun y S => ∃ j, y = .int j ∧ E (.nx (y0 :: y1 :: y2 :: y3 :: y4 :: y5 :: y6 :: y7 :: y8 :: y9 :: y10 :: some (.int (z + j)) :: r) S)) (fun c fs S => E (.exc c fs (y0 :: y1 :: y2 :: y3 :: y4 :: y5 :: y6 :: y7 :: y8 :: y9 :: y10 :: some (.int z) :: r) S))) : WS P Φ (.aug 11 .Add e) (y0 :: y1 :: y2 :: y3 :: y4 :: y5 :: y6 :: y7 :: y8 :: y9 :: y10 :: some (.int z) :: r) S E := s_augW (z := .int z) rfl (RV.imp h fun y S ⟨j, e, h⟩ => ⟨z, j, z + j, rfl, e, rfl, h⟩)
end
end Vm
namespace Vm.RC
open Vm PySem
def b_bag (k3 : Int) : C := (.asg (.gn 3) (.bin .Mod (.blt .int (.acons (.bin .Add (.bin .Add (.bin .Add (.bin .Mult (.var 3) (.kon (.int k3))) (.bin .Mod (.blt .int (.acons (.var 5) .anil)) (.kon (.int 2147483587)))) (.bin .Mult (.kon (.int 37)) (.var 4))) (.kon (.int 11))) .anil)) (.kon (.int 2147483629))))
def c_bag (k1 k2 k3 : Int) : C := (.seq (.asg (.gn 2) (.ite (.cmp .Lt (.var 1) (.blt .len (.acons (.var 0) .anil))) (.idx (.var 0) (.var 1)) (.kon (.int 0))))
  (.seq (.asg (.gn 3) (.bin .Add (.bin .Mult (.kon (.int k1)) (.var 1)) (.kon (.int k2))))
  (.seq (.forr (.gt (.gcons (.gn 4) (.gcons (.gn 5) .gnil))) (.enu (.frz (.slc (.var 0) (.kon .non) (.part (.kon (.int 63)))))) (b_bag k3))
  (.ret (.lst (.acons (.ite (.cmp .GtE (.blt .abs (.acons (.var 2) .anil)) (.bin .Pow (.kon (.int 10)) (.kon (.int 18)))) (.blt .abs (.acons (.var 2) .anil)) (.kon (.int 0))) (.acons (.var 3) .anil)))))))
def f_bag (k1 k2 k3 : Int) : Fn := ⟨2, 6, c_bag k1 k2 k3⟩
def c_take (t1 t2 t3 : Int) : C := (.seq (.iff (.cmp .Gt (.idx (.var 0) (.kon (.int 0))) (.kon (.int 0))) (.seq (.asg (.gn 2) (.bin .Mod (.blt .int (.acons (.idx (.var 0) (.kon (.int 0))) .anil)) (.var 1))) (.seq (.asg (.gi (.var 0) (.kon (.int 0))) (.bin .FloorDiv (.idx (.var 0) (.kon (.int 0))) (.var 1))) (.ret (.var 2)))) .nop)
  (.seq (.asg (.gi (.var 0) (.kon (.int 1))) (.bin .Mod (.blt .int (.acons (.bin .Add (.bin .Mult (.idx (.var 0) (.kon (.int 1))) (.kon (.int t1))) (.kon (.int t2))) .anil)) (.kon (.int 2147483563))))
  (.ret (.bin .Mod (.bin .FloorDiv (.bin .Mod (.blt .int (.acons (.bin .Mult (.bin .FloorDiv (.idx (.var 0) (.kon (.int 1))) (.kon (.int 13))) (.kon (.int t3))) .anil)) (.kon (.int 2147483549))) (.kon (.int 32))) (.var 1)))))
def f_take (t1 t2 t3 : Int) : Fn := ⟨2, 3, c_take t1 t2 t3⟩
def c_of : C := (.ret (.idx (.var 1) (.cal 59 (.acons (.var 0) (.acons (.blt .len (.acons (.var 1) .anil)) .anil)))))
def f_of : Fn := ⟨2, 2, c_of⟩
/-- the drawing defs of a law -/
structure Has (P : Pg) : Prop where
  bag : ∃ k1 k2 k3 : Int, 0 ≤ k1 ∧ k1 < 1000000 ∧ 0 ≤ k2 ∧ k2 < 1000000 ∧ 0 ≤ k3 ∧ k3 < 1000000 ∧ P.fn 2 = some (f_bag k1 k2 k3)
  take : ∃ t1 t2 t3 : Int, 0 ≤ t1 ∧ t1 < 1000000 ∧ 0 ≤ t2 ∧ t2 < 1000000 ∧ 0 ≤ t3 ∧ t3 < 1000000 ∧ P.fn 59 = some (f_take t1 t2 t3)
  of : P.fn 4 = some f_of
/-- a bag -/
def Bag (o : Ob) : Prop := ∃ a b : Int, o = .lst [.int a, .int b] ∧ 0 ≤ a ∧ 0 ≤ b ∧ b < 2147483648
theorem Bag.flat {o : Ob} (h : Bag o) : o.flat = true := by
  obtain ⟨a, b, rfl, _⟩ := h
  rfl
section
variable {P : Pg} {S T : Sto} {n : Nat} {σ : Sl} {o : Ob}
theorem pick (HP : Has P) {a b m : Int} (ha : 0 ≤ a) (hb : 0 ≤ b) (hb2 : b < 2147483648) (hm : 0 < m) (hm2 : m < 1000000000000000000) :
    ∃ d a' b' : Int, 0 ≤ d ∧ d < m ∧ 0 ≤ a' ∧ 0 ≤ b' ∧ b' < 2147483648 ∧ run P (n + 1) 59 [.ref 0, .int m] [.lst [.int a, .int b]] = .val [.int d] [.lst [.int a', .int b']] := by
  obtain ⟨t1, t2, t3, h1, h2, h3, h4, h5, h6, hf⟩ := HP.take
  rw [run_eq hf rfl]
  show ∃ d a' b' : Int, 0 ≤ d ∧ d < m ∧ 0 ≤ a' ∧ 0 ≤ b' ∧ b' < 2147483648 ∧ fin (ev P (run P n) (c_take t1 t2 t3) [] [some (.ref 0), some (.int m), none] [.lst [.int a, .int b]]) = .val [.int d] [.lst [.int a', .int b']]
  have hm0 : m ≠ 0 := by omega
  by_cases h : 0 < a
  · refine ⟨a.fmod m, a.fdiv m, b, Int.fmod_nonneg_of_pos _ hm, Int.fmod_lt_of_pos _ hm, Int.fdiv_nonneg ha (by omega), hb, hb2, ?_⟩
    simp [c_take, ev, b1, bn, bg, bv, fin, opIx, Sto.lv, Sto.l, L2.atI, L2.ixN, opCmp, ltI_eq, h, tru, callB, callB1, opBin, arith, RB.div_ok hm hm2, if_neg hm0]
  · have g1 : (0 : Int) ≤ (b * t1 + t2).fmod 2147483563 := Int.fmod_nonneg_of_pos _ (by decide)
    have g2 : (b * t1 + t2).fmod 2147483563 < 2147483563 := Int.fmod_lt_of_pos _ (by decide)
    have m1 : mulOk b t1 = true := RB.mul_ok (.inl (by omega))
    have m2 : mulOk (((b * t1 + t2).fmod 2147483563).fdiv 13) t3 = true := RB.mul_ok (.inr (by omega))
    have d1 : divOk 13 = true := by decide
    have d2 : divOk 32 = true := by decide
    refine ⟨((((((b * t1 + t2).fmod 2147483563).fdiv 13 * t3).fmod 2147483549).fdiv 32).fmod m), a, (b * t1 + t2).fmod 2147483563, Int.fmod_nonneg_of_pos _ hm, Int.fmod_lt_of_pos _ hm, ha, g1, by omega, ?_⟩
    simp [c_take, ev, b1, bn, bg, bv, fin, opIx, Sto.lv, Sto.l, L2.atI, L2.ixN, opCmp, ltI_eq, h, tru, callB, callB1, opBin, arith, if_neg hm0, m1, m2, d1, d2]
theorem bag_turn {k3 : Int} (h1 : 0 ≤ k3) (h2 : k3 < 1000000) {Φ : Nat → List D → Sto → Res} {s0 s1 s2 s4 s5 : Option D} {b v : Int} {k : Nat} (hb : 0 ≤ b) (hb2 : b < 2147483648) (hk : k < 1000) :
    ∃ b' : Int, 0 ≤ b' ∧ b' < 2147483648 ∧ (bg (ev P Φ (.gt (.gcons (.gn 4) (.gcons (.gn 5) .gnil))) [.tup [.int k, .int v]] [s0, s1, s2, some (.int b), s4, s5] S) fun σ S => ev P Φ (b_bag k3) [] σ S) = .nx [s0, s1, s2, some (.int b'), some (.int k), some (.int v)] S := by
  have g1 : (0 : Int) ≤ (b * k3 + v.fmod 2147483587 + 37 * (k : Int) + 11).fmod 2147483629 := Int.fmod_nonneg_of_pos _ (by decide)
  have g2 : (b * k3 + v.fmod 2147483587 + 37 * (k : Int) + 11).fmod 2147483629 < 2147483629 := Int.fmod_lt_of_pos _ (by decide)
  have m1 : mulOk b k3 = true := RB.mul_ok (.inl (by omega))
  have m2 : mulOk 37 (k : Int) = true := RB.mul_ok (.inl (by decide))
  refine ⟨_, g1, by omega, ?_⟩
  simp [b_bag, ev, bg, b1, bv, callB, callB1, opBin, arith, m1, m2]
theorem bag (HP : Has P) {ns : List Int} {p : Nat} (hp : p < 1000) (hl : ns.length ≤ 63) :
    ∃ o, Bag o ∧ run P (n + 1) 2 [.scr (ns.map D.int), .int p] [] = .val [.ref 0] [o] := by
  obtain ⟨k1, k2, k3, h1, h2, h3, h4, h5, h6, hf⟩ := HP.bag
  rw [run_eq hf rfl]
  show ∃ o, Bag o ∧ fin (ev P (run P n) (c_bag k1 k2 k3) [] [some (.scr (ns.map D.int)), some (.int p), none, none, none, none] []) = .val [.ref 0] [o]
  obtain ⟨v, e0⟩ : ∃ v : Int, ev P (run P n) (.asg (.gn 2) (.ite (.cmp .Lt (.var 1) (.blt .len (.acons (.var 0) .anil))) (.idx (.var 0) (.var 1)) (.kon (.int 0)))) [] [some (.scr (ns.map D.int)), some (.int p), none, none, none, none] [] = .nx [some (.scr (ns.map D.int)), some (.int p), some (.int v), none, none, none] [] := by
    by_cases h : p < ns.length
    · refine ⟨ns[p], ?_⟩
      simp [ev, b1, bv, bg, callB, callB1, opCmp, ltI_eq, h, tru, opIx, L2.atI, L2.ixN]
    · refine ⟨0, ?_⟩
      simp [ev, b1, bv, bg, callB, callB1, opCmp, ltI_eq, h, tru]
  have m1 : mulOk k1 (p : Int) = true := RB.mul_ok (.inl (by omega))
  have e1 : ev P (run P n) (.asg (.gn 3) (.bin .Add (.bin .Mult (.kon (.int k1)) (.var 1)) (.kon (.int k2)))) [] [some (.scr (ns.map D.int)), some (.int p), some (.int v), none, none, none] [] = .nx [some (.scr (ns.map D.int)), some (.int p), some (.int v), some (.int (k1 * p + k2)), none, none] [] := by
    simp [ev, b1, bg, opBin, arith, m1]
  have hcut : cutD (ns.map D.int) none (some 63) = ns.map D.int := by
    unfold cutD
    rw [HT.sIx_none, show ((63 : Int)) = ((63 : Nat) : Int) from rfl, HT.sIx_nat, List.drop_zero, Nat.sub_zero]
    exact List.take_of_length_le (by rw [List.length_map]; omega)
  have hz : (ns.map D.int).length ≤ SL := by rw [List.length_map]; show ns.length ≤ 16777216; omega
  have hfl : D.flats (ns.map D.int) = true := fl_of fun x hx => by obtain ⟨z, _, rfl⟩ := List.mem_map.mp hx; rfl
  have e2 : ev P (run P n) (.enu (.frz (.slc (.var 0) (.kon .non) (.part (.kon (.int 63)))))) [] [some (.scr (ns.map D.int)), some (.int p), some (.int v), some (.int (k1 * p + k2)), none, none] [] = .val [.int 1, .rol (ns.map D.int)] [] := by
    have q : ev P (run P n) (.slc (.var 0) (.kon .non) (.part (.kon (.int 63)))) [] [some (.scr (ns.map D.int)), some (.int p), some (.int v), some (.int (k1 * p + k2)), none, none] [] = .val [.ref 0] ([] ++ [.lst (ns.map D.int)]) := by
      simp only [ev, List.getElem?_cons_zero, b1, ends, opSlice, hz, if_true, hcut, List.length_nil]
    have q2 : frzR [some (.scr (ns.map D.int)), some (.int p), some (.int v), some (.int (k1 * p + k2)), none, none] ([] : Sto).length (.val [.ref 0] ([] ++ [.lst (ns.map D.int)])) = .val [.rol (ns.map D.int)] [] := frz_new hfl rfl (Nat.le_refl _) rfl
    rw [ev, ev, q, q2]
    rfl
  have hm : ∀ y ∈ enumD 0 (ns.map D.int), ∃ (k : Nat) (x : Int), k < 1000 ∧ y = .tup [.int k, .int x] := by
    intro y hy
    obtain ⟨i, hi⟩ := List.getElem?_of_mem hy
    obtain ⟨x, h1, h2⟩ := enumD_get hi
    rw [List.getElem?_map] at h1
    cases q : ns[i]? with
    | none => rw [q] at h1; cases h1
    | some z =>
      rw [q] at h1
      cases h1
      have := (List.getElem?_eq_some_iff.mp q).1
      exact ⟨0 + i, z, by omega, h2⟩
  have e3 := ev_forr (g := .gt (.gcons (.gn 4) (.gcons (.gn 5) .gnil))) (b := b_bag k3) (ins := []) e2 (xs := enumD 0 (ns.map D.int)) (raws := [ns.map D.int]) rfl
  have h37 : 0 ≤ k1 * (p : Int) := Int.mul_nonneg h1 (by omega)
  have h38 : k1 * (p : Int) ≤ 1000000 * 1000 := Int.le_trans (Int.mul_le_mul_of_nonneg_left (by omega : (p : Int) ≤ 1000) h1) (Int.mul_le_mul_of_nonneg_right (by omega) (by decide))
  obtain ⟨σ', S', e4, b, s4, s5, hb1, hb2, rfl, rfl⟩ := loop_pre (fun _ σ S => ∃ b s4 s5, 0 ≤ b ∧ b < 2147483648 ∧ σ = [some (.scr (ns.map D.int)), some (.int p), some (.int v), some (.int b), s4, s5] ∧ S = [])
    (chk := stillW [.int 1, .rol (ns.map D.int)] [ns.map D.int]) (f := fun x σ S => bg (ev P (run P n) (.gt (.gcons (.gn 4) (.gcons (.gn 5) .gnil))) [x] σ S) fun σ S => ev P (run P n) (b_bag k3) [] σ S) (xs := enumD 0 (ns.map D.int)) (σ := [some (.scr (ns.map D.int)), some (.int p), some (.int v), some (.int (k1 * p + k2)), none, none]) (S := [])
    (fun _ σ S _ => rfl)
    (by
      rintro pre x post hx σ S ⟨b, s4, s5, hb, hb2, rfl, rfl⟩
      obtain ⟨k, z, hk, rfl⟩ := hm x (by rw [hx]; simp)
      obtain ⟨b', g1, g2, g3⟩ := bag_turn (P := P) (Φ := run P n) (S := []) h5 h6 (s0 := some (.scr (ns.map D.int))) (s1 := some (.int p)) (s2 := some (.int v)) (s4 := s4) (s5 := s5) (v := z) hb hb2 hk
      exact ⟨_, _, .inl g3, b', _, _, g1, g2, rfl, rfl⟩)
    ⟨_, _, _, by omega, by omega, rfl, rfl⟩
  have p1 : powOk 10 18 = true := by decide
  unfold c_bag
  rw [ev_nx e0, ev_nx e1, ev_seq, e3, e4]
  by_cases h : (1000000000000000000 : Int) ≤ (if v < 0 then -v else v)
  · refine ⟨.lst [.int (if v < 0 then -v else v), .int b], ⟨_, _, rfl, by omega, hb1, hb2⟩, ?_⟩
    simp [bn, ev, b1, bv, fin, callB, callB1, opCmp, leI_eq, opBin, arith, p1, h, tru, SL]
  · refine ⟨.lst [.int 0, .int b], ⟨_, _, rfl, by decide, hb1, hb2⟩, ?_⟩
    simp [bn, ev, b1, bv, fin, callB, callB1, opCmp, leI_eq, opBin, arith, p1, h, tru, SL]
/-- a drawn number, where the bag stands at i -/
theorem take (HP : Has P) {i : Nat} {m : Int} (hi : S[i]? = some o) (h : Bag o) (hm : 0 < m) (hm2 : m < 1000000000000000000) :
    ∃ (d : Nat) (o' : Ob), (d : Int) < m ∧ Bag o' ∧ callL σ (run P (n + 1)) 59 [.ref i, .int m] S = .val [.int d] (S.set i o') := by
  have hfl := h.flat
  obtain ⟨a, b, rfl, h1, h2, h3⟩ := h
  obtain ⟨d, a', b', g1, g2, g3, g4, g5, g6⟩ := pick (n := n) HP h1 h2 h3 hm hm2
  obtain ⟨e, rfl⟩ := Int.eq_ofNat_of_zero_le g1
  refine ⟨e, .lst [.int a', .int b'], g2, ⟨a', b', rfl, g3, g4, g5⟩, ?_⟩
  rw [callL_1 hi hfl rfl, g6]
  exact fin1 rfl rfl
end
end Vm.RC
namespace Vm.RC
open Vm
end Vm.RC
namespace Vm
section
variable {S T : Sto} {K : D → Sto → Prop} {X : KX} {fs : List (Nat × D)} {c cc : Nat} {a : Nat} {d : D}
theorem frz_ins {n k : Nat} (hi : k ≤ a) (h : S[a]? = some (.ins c fs)) (hx : D.flats (fs.map (·.2)) = true) : frzD S k (n + 1) (.ref a) = some (.rin c (fs.map (·.1)) (fs.map (·.2))) := by
  simp only [frzD, if_pos hi, h]
  rw [mapO_id fun x hx' => frz_flat n (fl_mem hx hx')]
theorem fz_ins {V : Sto} (ha : S.length ≤ a) (e : (S ++ V)[a]? = some (.ins c fs)) (hS : S.all Ob.flat = true) (hx : D.flats (fs.map (·.2)) = true) (h : K (.rin c (fs.map (·.1)) (fs.map (·.2))) S) : FZ S.length K (.ref a) (S ++ V) := by
  refine ⟨by rw [List.take_left' rfl]; exact hS, _, frz_ins ha e hx, ?_⟩
  rw [List.take_left' rfl]; exact h
theorem all_cons {o : Ob} (ho : o.flat = true) (hT : T.all Ob.flat = true) : (o :: T).all Ob.flat = true := by rw [List.all_cons, ho, hT]; rfl
end
end Vm
namespace Vm.RC
open Vm
/-- the store is flat, a bag stands at i -/
def BagAt (S : Sto) (i : Nat) : Prop := S.all Ob.flat = true ∧ ∃ o, S[i]? = some o ∧ Bag o
/-- drawing: the bag ahead stays a bag, what comes back is flat -/
def Dr (r : Res) (Q : D → Prop) : Prop := RV r (fun d U => ∃ o' V, U = o' :: V ∧ Bag o' ∧ d.flat = true ∧ Q d) noX
section
variable {P : Pg} {Φ : Nat → List D → Sto → Res} {S T : Sto} {n f : Nat} {σ : Sl} {o : Ob} {i p : Nat} {K : D → Sto → Prop} {X : KX} {m : Int} {xs ds : List D} {Q : D → Prop}
theorem BagAt.set {o' : Ob} (h : BagAt S i) (hb : Bag o') : BagAt (S.set i o') i := by
  obtain ⟨h1, o, h2, _⟩ := h
  exact ⟨all_set h1 hb.flat, o', get_set h2, hb⟩
theorem BagAt.new {o' : Ob} (h : S.all Ob.flat = true) (hb : Bag o') : BagAt (S ++ [o']) S.length := ⟨all_app h hb.flat, o', get_new, hb⟩
theorem drA (hi : S[i]? = some o) (h : Bag o) (hd : D.flats ds = true) (hr : Dr (Φ f (.ref 0 :: ds) [o]) Q) (k : ∀ d o', Q d → d.flat = true → Bag o' → K d (S.set i o')) : RV (callL σ Φ f (.ref i :: ds) S) K X :=
  rc1 hi h.flat hd (RV.imp2 hr (fun d U ⟨o', V, e, h1, h2, h3⟩ => by subst e; exact r1_flat h1.flat h2 (k d o' h3 h2 h1)) fun _ _ _ h => h.elim)
theorem dr0 (h : Bag o) (hd : D.flats ds = true) (hr : Dr (Φ f (.ref 0 :: ds) [o]) Q) (k : ∀ d o', Q d → d.flat = true → Bag o' → K d (o' :: T)) : RV (callL σ Φ f (.ref 0 :: ds) (o :: T)) K X := drA (S := o :: T) (i := 0) rfl h hd hr k
theorem takeA (HP : Has P) (hi : S[i]? = some o) (h : Bag o) (hm : 0 < m) (hm2 : m < 1000000000000000000) (k : ∀ (d : Nat) o', (d : Int) < m → Bag o' → K (.int d) (S.set i o')) : RV (callL σ (run P (n + 1)) 59 [.ref i, .int m] S) K X := by
  obtain ⟨d, o', h1, h2, h3⟩ := take (n := n) (σ := σ) HP hi h hm hm2
  exact rv_of h3 (k d o' h1 h2)
theorem take0 (HP : Has P) (h : Bag o) (hm : 0 < m) (hm2 : m < 1000000000000000000) (k : ∀ (d : Nat) o', (d : Int) < m → Bag o' → K (.int d) (o' :: T)) : RV (callL σ (run P (n + 1)) 59 [.ref 0, .int m] (o :: T)) K X := takeA (S := o :: T) (i := 0) HP rfl h hm hm2 k
theorem bagN (HP : Has P) {ns : List Int} {p : Nat} (hp : p < 1000) (hl : ns.length ≤ 63) (k : ∀ o, Bag o → K (.ref S.length) (S ++ [o])) : RV (callL σ (run P (n + 1)) 2 [.scr (ns.map D.int), .int p] S) K X := by
  obtain ⟨o, h1, h2⟩ := bag (n := n) HP hp hl
  refine rc0 ?_ (rv_of h2 (r0_new rfl h1.flat (k o h1)))
  show (D.flat (.scr (ns.map D.int)) && true) = true
  rw [D.flat, fl_ints]
  rfl
theorem bagN' (hΦ : Φ = run P (n + 1)) (HP : Has P) {ns : List Int} {p : Nat} (hp : p < 1000) (hl : ns.length ≤ 63) (k : ∀ o, Bag o → K (.ref S.length) (S ++ [o])) : RV (callL σ Φ 2 [.scr (ns.map D.int), .int p] S) K X := by
  subst hΦ
  exact bagN HP hp hl k
end
end Vm.RC
namespace Vm.DY
open Vm
local macro_rules | `(tactic| walk_at "st") => `(tactic| first
  | ((with_reducible refine aE ?_); first | ((with_reducible refine aV ?_); first | with_reducible refine w_var0 ?_ | with_reducible refine w_var1 ?_ | with_reducible refine w_var2 ?_ | with_reducible refine w_var3 ?_ | with_reducible refine w_var4 ?_ | with_reducible refine w_var5 ?_ | with_reducible refine w_var6 ?_ | with_reducible refine w_var7 ?_ | with_reducible refine w_var8 ?_ | with_reducible refine w_var9 ?_ | with_reducible refine w_var10 ?_ | with_reducible refine w_var11 ?_ | with_reducible refine w_var12 ?_ | with_reducible refine w_var13 ?_ | with_reducible refine w_var14 ?_ | with_reducible refine w_var15 ?_ | with_reducible refine w_var16 ?_ | with_reducible refine w_var17 ?_ | with_reducible refine w_var18 ?_ | with_reducible refine w_var19 ?_ | ((with_reducible refine w_var (d := ?_) ?_ ?_); rotate_left; exact rfl)) | with_reducible refine w_kon ?_ | with_reducible refine w_cal ?_ | with_reducible refine w_frz ?_ | with_reducible refine w_cmp ?_ | with_reducible refine w_bin ?_ | with_reducible refine w_notv ?_ | with_reducible refine w_andB ?_ | with_reducible refine w_orB ?_ | with_reducible refine w_ite ?_ | with_reducible refine w_att ?_ | with_reducible refine w_idx ?_ | with_reducible refine w_slc ?_ | with_reducible refine w_blt ?_ | with_reducible refine w_btm ?_ | with_reducible refine w_tup ?_ | with_reducible refine w_lst ?_ | with_reducible refine w_mth ?_ | with_reducible refine w_own ?_ | with_reducible refine w_calk ?_ | with_reducible refine w_mthk ?_ | with_reducible refine w_chn ?_ | with_reducible refine w_newv ?_ | with_reducible refine w_newk ?_ | with_reducible refine w_newc ?_ | with_reducible refine w_iso ?_ | with_reducible refine w_isb ?_ | with_reducible refine w_prp ?_ | with_reducible refine w_part ?_ | with_reducible refine w_neg ?_ | with_reducible refine w_setv ?_ | with_reducible refine w_lsg ?_ | with_reducible refine w_stp ?_ | with_reducible refine w_tos ?_ | with_reducible refine w_fst ?_ | with_reducible refine w_sin ?_ | with_reducible refine w_frd ?_ | with_reducible refine w_lse ?_ | with_reducible refine w_deq ?_ | ((with_reducible refine w_gl (d := ?_) ?_ ?_); rotate_left; exact rfl))
  | ((with_reducible refine aA ?_); first | with_reducible refine w_anil ?_ | with_reducible refine w_acons ?_ | with_reducible refine w_wkp ?_ | with_reducible refine w_wkd ?_ | with_reducible refine w_asp ?_ | with_reducible refine w_enu ?_ | with_reducible refine w_zip2 ?_ | with_reducible refine w_rng1 ?_ | with_reducible refine w_rng2 ?_)
  | ((with_reducible refine aG ?_); first | ((with_reducible refine aN ?_); first | with_reducible refine g_gn0 ?_ | with_reducible refine g_gn1 ?_ | with_reducible refine g_gn2 ?_ | with_reducible refine g_gn3 ?_ | with_reducible refine g_gn4 ?_ | with_reducible refine g_gn5 ?_ | with_reducible refine g_gn6 ?_ | with_reducible refine g_gn7 ?_ | with_reducible refine g_gn8 ?_ | with_reducible refine g_gn9 ?_ | with_reducible refine g_gn10 ?_ | with_reducible refine g_gn11 ?_ | with_reducible refine g_gn12 ?_ | with_reducible refine g_gn13 ?_ | with_reducible refine g_gn14 ?_ | with_reducible refine g_gn15 ?_ | with_reducible refine g_gn16 ?_ | with_reducible refine g_gn17 ?_ | with_reducible refine g_gn18 ?_ | with_reducible refine g_gn19 ?_ | ((with_reducible refine g_gn (σ' := ?_) ?_ ?_); rotate_left; exact rfl; try dsimp only [List.set_cons_zero, List.set_cons_succ])) | with_reducible refine g_gt ?_ | with_reducible refine g_gtl ?_ | with_reducible refine g_gnil ?_ | with_reducible refine g_gcons ?_ | with_reducible refine g_ga ?_ | with_reducible refine g_gi ?_ | with_reducible refine g_gd ?_)
  | ((with_reducible refine aS ?_); first | with_reducible refine s_seqW ?_ | with_reducible refine s_asgW ?_ | with_reducible refine s_retW ?_ | with_reducible refine s_iffW ?_ | with_reducible refine s_expW ?_ | with_reducible refine s_nopW ?_ | with_reducible refine s_retnW ?_ | with_reducible refine s_brkW ?_ | with_reducible refine s_cntW ?_ | with_reducible refine s_rseW ?_ | with_reducible refine s_tryW ?_ | with_reducible refine s_augA0 ?_ | with_reducible refine s_augA1 ?_ | with_reducible refine s_augA2 ?_ | with_reducible refine s_augA3 ?_ | with_reducible refine s_augA4 ?_ | with_reducible refine s_augA5 ?_ | with_reducible refine s_augA6 ?_ | with_reducible refine s_augA7 ?_ | with_reducible refine s_augA8 ?_ | with_reducible refine s_augA9 ?_ | with_reducible refine s_augA10 ?_ | with_reducible refine s_augA11 ?_ | ((with_reducible refine s_augW (z := ?_) ?_ ?_); rotate_left; exact rfl))
  | ((with_reducible refine aR ?_); first | with_reducible refine fin_rtW ?_ | with_reducible refine fin_nxW ?_ | with_reducible refine fin_excW ?_ | with_reducible refine r_add ?_ | with_reducible refine r_sub ?_ | with_reducible refine b_lenr ?_ | with_reducible refine b_lent ?_ | with_reducible refine b_lenc ?_ | with_reducible refine b_lens ?_ | with_reducible refine b_tupr ?_ | with_reducible refine b_tupt ?_ | with_reducible refine b_lstr ?_ | with_reducible refine b_lstt ?_ | with_reducible refine b_int ?_ | with_reducible refine b_intb ?_ | with_reducible refine b_bool ?_ | with_reducible refine b_abs ?_ | with_reducible refine b_max ?_ | with_reducible refine b_min ?_)
  | ((with_reducible refine aT ?_); first | with_reducible refine tt_true ?_ | with_reducible refine tt_false ?_ | with_reducible refine tt_ntrue ?_ | with_reducible refine tt_nfalse ?_ | with_reducible refine tt_dec (fun hc => ?_) (fun hc => ?_) | with_reducible refine tt_ndec (fun hc => ?_) (fun hc => ?_))
  | ((with_reducible refine aB ?_); first | with_reducible refine tb_true ?_ | with_reducible refine tb_false ?_ | with_reducible refine tb_ntrue ?_ | with_reducible refine tb_nfalse ?_ | with_reducible refine tb_dec (fun hc => ?_) (fun hc => ?_) | with_reducible refine tb_ndec (fun hc => ?_) (fun hc => ?_))
  | ((with_reducible refine aX ?_); first | with_reducible refine nx_nx ?_ | with_reducible refine nx_rt ?_ | with_reducible refine nx_exc ?_ | with_reducible refine nx_bk ?_ | with_reducible refine nx_ct ?_)
  | ((with_reducible refine aU ?_); first | with_reducible refine turn_nx ?_ | with_reducible refine turn_ct ?_ | with_reducible refine turn_bk ?_ | with_reducible refine turn_rt ?_ | with_reducible refine turn_exc ?_)
  | ((with_reducible refine aY ?_); first | with_reducible refine try_nx ?_ | with_reducible refine try_rt ?_)
  | ((with_reducible refine aW ?_); first | with_reducible refine w1_nx ?_ | with_reducible refine w1_rt ?_ | with_reducible refine w1_ct ?_ | with_reducible refine w1_bk ?_)
  | with_reducible refine c_lt ?_
  | with_reducible refine c_le ?_
  | with_reducible refine c_gt ?_
  | with_reducible refine c_ge ?_
  | with_reducible refine c_eqi ?_
  | with_reducible refine c_nei ?_
  | with_reducible refine n_bl ?_
  | with_reducible refine x_int ?_
  | with_reducible refine cj_dec (fun hc => ?_) (fun hc => ?_))
local macro_rules | `(tactic| walk_at "go") => `(tactic| repeat walk_at "st")
abbrev c_is_integer : C := (.ret (.andv (.isb .int (.var 0)) (.notv (.isb .bool (.var 0)))))
abbrev c_is_day : C := (.ret (.andv (.cal 104 (.acons (.var 0) .anil)) (.chn .LtE .LtE (.kon (.int 0)) (.var 0) (.gl 13))))
abbrev c_init : C := (.seq (.forr (.gt (.gcons (.gn 2) (.gcons (.gn 3) .gnil))) (.enu (.var 1)) (.iff (.notv (.cal 103 (.acons (.var 3) .anil))) (.rse 11 (.acons (.var 2) .anil)) .nop))
  (.seq (.asg (.gn 4) (.frz (.blt .sortedd (.acons (.dcm [3] (.gn 3) (.wkp (.var 1)) (.kon (.bl true)) (.var 3) (.kon (.bl true))) .anil))))
  (.seq (.iff (.cmp .Gt (.blt .len (.acons (.var 4) .anil)) (.gl 12)) (.rse 12 (.acons (.kon (.str [100, 97, 121, 115])) .anil)) .nop)
  (.asg (.ga 29 (.var 0)) (.frz (.blt .tuple (.acons (.var 4) .anil)))))))
abbrev c_from : C := (.seq (.forr (.gn 2) (.wkp (.att 29 (.var 0))) (.iff (.cmp .GtE (.var 2) (.var 1)) (.ret (.var 2)) .nop)) (.ret (.kon .non)))
abbrev c_deq : C := (.ret (.andv (.iso 10 (.var 1)) (.cmp .Eq (.att 29 (.var 0)) (.att 29 (.var 1)))))
structure Has (P : Pg) : Prop where
  f1 : P.fn 104 = some ⟨1, 1, c_is_integer⟩
  f2 : P.fn 103 = some ⟨1, 1, c_is_day⟩
  f3 : P.fn 101 = some ⟨2, 5, c_init⟩
  g1 : P.gl 13 = some (.int 1000000000000)
  g2 : P.gl 12 = some (.int 400)
  e1 : P.exc 11 = some [0]
  e2 : P.exc 12 = some [28]
  pc : P.pc 10 = true
  fd : P.fd 10 29 = true
def isInt : D → Bool
  | .int _ => true
  | _ => false
def isDay : D → Bool
  | .int i => decide (0 ≤ i) && decide (i ≤ 1000000000000)
  | _ => false
/-- a value whose type is known -/
def Kn (P : Pg) (d : D) : Prop := d.flat = true ∧ okY P [] d = true
section
variable {P : Pg} {n : Nat} {d : D} {K : D → Sto → Prop} {X : KX} {S : Sto} {σ : Sl}
theorem is_integer (H : Has P) (hd : Kn P d) : run P (n + 1) 104 [d] [] = .val [.bl (isInt d)] [] := by
  refine rv_eq (run_w (E := fun r => RV r _ noX) H.f1 rfl ?_)
  obtain ⟨hf, hk⟩ := hd
  show WS P (run P n) c_is_integer [some d] [] _
  walk_at "go"
  cases d with
  | rin c ns ds =>
    have hp : P.pc c = true := hk
    refine ⟨false, ?_, ?_⟩
    · show (if (P.pc c && isBt .int) = true then some false else none) = _
      rw [hp]; rfl
    · walk_at "go"
      exact ⟨rfl, rfl⟩
  | bl b => exact ⟨true, rfl, by
      walk_at "go"
      exact ⟨true, rfl, by walk_at "go"; exact ⟨rfl, rfl⟩⟩⟩
  | int i => exact ⟨true, rfl, by
      walk_at "go"
      exact ⟨false, rfl, by walk_at "go"; exact ⟨rfl, rfl⟩⟩⟩
  | ref i => cases hf
  | cls c => cases hk
  | rdc _ _ => cases hk
  | _ => exact ⟨false, rfl, by walk_at "go"; exact ⟨rfl, rfl⟩⟩
theorem is_day (H : Has P) (hd : Kn P d) : run P (n + 2) 103 [d] [] = .val [.bl (isDay d)] [] := by
  refine rv_eq (run_w (E := fun r => RV r _ noX) H.f2 rfl ?_)
  show WS P (run P (n + 1)) c_is_day [some d] [] _
  walk_at "go"
  refine rc0e (by simp only [D.flats, hd.1]; rfl) (is_integer H hd) rfl ?_
  cases d with
  | int i =>
    refine tb_true ?_
    walk_at "go"
    · rename_i h1
      refine w_gl H.g1 ?_
      walk_at "go"
      simp only [isDay, h1, decide_true, Bool.true_and, and_self]
    · rename_i h1
      walk_at "go"
      refine ⟨?_, rfl⟩
      simp only [isDay, h1, decide_false, Bool.false_and]
  | _ =>
    refine tb_false ?_
    walk_at "go"
    exact ⟨rfl, rfl⟩
/-- in order, each once -/
def norm (ns : List Int) : List Int := isortI (dedZ ns)
abbrev DAYS : List Nat := [100, 97, 121, 115]
theorem isDay_int {i : Int} : isDay (.int i) = true ↔ 0 ≤ i ∧ i ≤ 1000000000000 := by simp [isDay]
/-- the values are days -/
theorem ints_of : ∀ {ds : List D}, (∀ d ∈ ds, isDay d = true) → ∃ ns : List Int, ds = ns.map D.int ∧ ∀ i ∈ ns, 0 ≤ i ∧ i ≤ 1000000000000
  | [], _ => ⟨[], rfl, fun i h => by cases h⟩
  | d :: ds, h => by
    obtain ⟨ns, e, q⟩ := ints_of fun x hx => h x (List.mem_cons_of_mem _ hx)
    have hd := h d List.mem_cons_self
    cases d with
    | int i => exact ⟨i :: ns, by rw [e]; rfl, fun j hj => by
        rcases List.mem_cons.mp hj with rfl | hj
        · exact isDay_int.mp hd
        · exact q j hj⟩
    | _ => cases hd
/-- what an __init__ with values leaves -/
def InitK (ds : List D) : D → Sto → Prop := fun d T => d = .non ∧ ∃ (ns : List Int) (V : Sto), ds = ns.map D.int ∧ (∀ i ∈ ns, 0 ≤ i ∧ i ≤ 1000000000000) ∧ (norm ns).length ≤ 400 ∧ T = .ins 10 [(29, .tup ((norm ns).map D.int))] :: V
def InitX (ds : List D) : KX := fun c fs T => (∃ pre x post V, ds = pre ++ x :: post ∧ (∀ d ∈ pre, isDay d = true) ∧ isDay x = false ∧ c = 11 ∧ fs = [(0, .int (pre.length : Nat))] ∧ T = .ins 10 [] :: V) ∨
  ∃ (ns : List Int) (V : Sto), ds = ns.map D.int ∧ (∀ i ∈ ns, 0 ≤ i ∧ i ≤ 1000000000000) ∧ 400 < (norm ns).length ∧ c = 12 ∧ fs = [(28, .str DAYS)] ∧ T = .ins 10 [] :: V
theorem init (H : Has P) {ds : List D} (hk : ∀ d ∈ ds, Kn P d) (hl : ds.length ≤ 100000) : RV (run P (n + 3) 101 [.ref 0, .tup ds] [.ins 10 []]) (InitK ds) (InitX ds) := by
  refine run_w (E := fun r => RV r _ _) H.f3 rfl ?_
  show WS P (run P (n + 2)) c_init [some (.ref 0), some (.tup ds), none, none, none] [.ins 10 []] _
  walk_at "st"
  with_reducible refine s_forW (raws := [ds]) (fun post σ S => ∃ pre back x2 x3, ds = pre ++ back ∧ post = enumD pre.length back ∧ (∀ d ∈ pre, isDay d = true) ∧ σ = [some (.ref 0), some (.tup ds), x2, x3, none] ∧ S = [.ins 10 []]) ?_ ?_ ?_
  · walk_at "go"
    exact ⟨_, _, rfl, ⟨[], ds, none, none, rfl, rfl, (fun d h => nomatch h), rfl, rfl⟩, by rintro post σ S ⟨_, _, _, _, _, _, _, _, rfl⟩; rfl⟩
  · rintro x post σ S ⟨pre, back, x2, x3, hd, hp, ha, rfl, rfl⟩
    match back, hd, hp with
    | y :: ys, hd, hp =>
      rw [enumD] at hp
      obtain ⟨rfl, rfl⟩ := List.cons.inj hp
      have hy : Kn P y := hk y (by rw [hd]; simp)
      walk_at "go"
      refine rc0e (by simp only [D.flats, hy.1]; rfl) (is_day H hy) rfl ?_
      walk_at "go"
      refine tt_nbl (fun e => ?_) (fun e => ?_)
      · walk_at "go"
        refine ⟨_, H.e1, rfl, ?_⟩
        walk_at "go"
        exact .inl ⟨pre, y, ys, [], hd, ha, e, rfl, rfl, rfl⟩
      · walk_at "go"
        refine ⟨pre ++ [y], ys, _, _, by rw [hd]; simp, by simp, ?_, rfl, rfl⟩
        intro d h
        rcases List.mem_append.mp h with h | h
        · exact ha d h
        · rw [List.mem_singleton.mp h]; exact e
  · rintro σ S ⟨pre, back, x2, x3, hd, hp, ha, rfl, rfl⟩
    match back, hd, hp with
    | [], hd, hp =>
      rw [List.append_nil] at hd
      subst hd
      obtain ⟨ns, rfl, hn⟩ := ints_of ha
      rw [List.length_map] at hl
      obtain ⟨ks, e1, e2, e3⟩ := merge_keys (.bl true) ns [] List.nodup_nil
      have e4 : isortI ks = norm ns := isortI_eq (nodup_perm e2 (dedZ_nodup ns) fun x => by rw [e3 x, dedZ_mem]; simp)
      have e5 : (norm ns).length ≤ ns.length := by rw [norm, (isortI_perm _).length_eq]; exact dedZ_len ns
      walk_at "st"
      walk_at "st"
      walk_at "st"
      walk_at "st"
      walk_at "st"
      walk_at "st"
      refine w_dcF (α := Int) (xs := ns) (dx := D.int) (fun i => (.int i, .bl true)) ?_
      walk_at "go"
      refine ⟨⟨_, rfl, rfl⟩, fun x hx => ?_, by show ns.length ≤ 16777216; omega, ?_⟩
      · walk_at "go"
        refine ⟨rfl, ?_⟩
        walk_at "go"
        exact ⟨rfl, rfl, rfl⟩
      have e1 : mergeD [] (ns.map fun i => (D.int i, D.bl true)) = ks.map fun i => (D.int i, D.bl true) := e1
      rw [e1]
      walk_at "go"
      have e6 : callB .sortedd [.ref [Ob.ins 10 []].length] ([Ob.ins 10 []] ++ [.dct (ks.map fun i => (D.int i, D.bl true))]) = .val [.ref 2] ([Ob.ins 10 []] ++ [.dct (ks.map fun i => (D.int i, D.bl true)), .lst ((norm ns).map D.int)]) := by
        have e7 : ((ks.map fun i => (D.int i, D.bl true)).all fun p => keyB p.1) = true := by rw [List.all_map, List.all_eq_true]; intro x _; rfl
        have e8 : ((ks.map fun i => (D.int i, D.bl true)).map (·.1)) = ks.map D.int := by rw [List.map_map]; rfl
        simp only [callB, callB1, dctOf, List.length_singleton, List.cons_append, List.nil_append, List.getElem?_cons_succ, List.getElem?_cons_zero, e7, if_true, e8, sortD_ints, e4]
        rfl
      refine rv_of e6 (fz_dropL (S := [.ins 10 []]) (a := 2) (by decide) rfl rfl (fl_ints _) ?_)
      walk_at "go"
      refine w_gl H.g2 ?_
      walk_at "go"
      · rename_i hc
        refine ⟨_, H.e2, rfl, ?_⟩
        walk_at "go"
        refine .inr ⟨ns, [], rfl, hn, ?_, rfl, rfl, rfl⟩
        rw [List.length_map] at hc
        omega
      · rename_i hc
        walk_at "go"
        refine fz_same (S := [.ins 10 []]) rfl (fl_ints _) ?_
        walk_at "go"
        refine ⟨0, 10, [], rfl, rfl, by decide, H.fd, ?_⟩
        walk_at "go"
        refine ⟨rfl, ns, [], rfl, hn, ?_, rfl⟩
        rw [List.length_map] at hc
        omega
end
end Vm.DY
namespace Vm.DY
open Vm
local macro_rules | `(tactic| walk_at "st") => `(tactic| first
  | ((with_reducible refine aE ?_); first | ((with_reducible refine aV ?_); first | with_reducible refine w_var0 ?_ | with_reducible refine w_var1 ?_ | with_reducible refine w_var2 ?_ | with_reducible refine w_var3 ?_ | with_reducible refine w_var4 ?_ | with_reducible refine w_var5 ?_ | with_reducible refine w_var6 ?_ | with_reducible refine w_var7 ?_ | with_reducible refine w_var8 ?_ | with_reducible refine w_var9 ?_ | with_reducible refine w_var10 ?_ | with_reducible refine w_var11 ?_ | with_reducible refine w_var12 ?_ | with_reducible refine w_var13 ?_ | with_reducible refine w_var14 ?_ | with_reducible refine w_var15 ?_ | with_reducible refine w_var16 ?_ | with_reducible refine w_var17 ?_ | with_reducible refine w_var18 ?_ | with_reducible refine w_var19 ?_ | ((with_reducible refine w_var (d := ?_) ?_ ?_); rotate_left; exact rfl)) | with_reducible refine w_kon ?_ | with_reducible refine w_cal ?_ | with_reducible refine w_frz ?_ | with_reducible refine w_cmp ?_ | with_reducible refine w_bin ?_ | with_reducible refine w_notv ?_ | with_reducible refine w_andB ?_ | with_reducible refine w_orB ?_ | with_reducible refine w_ite ?_ | with_reducible refine w_att ?_ | with_reducible refine w_idx ?_ | with_reducible refine w_slc ?_ | with_reducible refine w_blt ?_ | with_reducible refine w_btm ?_ | with_reducible refine w_tup ?_ | with_reducible refine w_lst ?_ | with_reducible refine w_mth ?_ | with_reducible refine w_own ?_ | with_reducible refine w_calk ?_ | with_reducible refine w_mthk ?_ | with_reducible refine w_chn ?_ | with_reducible refine w_newv ?_ | with_reducible refine w_newk ?_ | with_reducible refine w_newc ?_ | with_reducible refine w_iso ?_ | with_reducible refine w_isb ?_ | with_reducible refine w_prp ?_ | with_reducible refine w_part ?_ | with_reducible refine w_neg ?_ | with_reducible refine w_setv ?_ | with_reducible refine w_lsg ?_ | with_reducible refine w_stp ?_ | with_reducible refine w_tos ?_ | with_reducible refine w_fst ?_ | with_reducible refine w_sin ?_ | with_reducible refine w_frd ?_ | with_reducible refine w_lse ?_ | with_reducible refine w_deq ?_ | ((with_reducible refine w_gl (d := ?_) ?_ ?_); rotate_left; exact rfl))
  | ((with_reducible refine aA ?_); first | with_reducible refine w_anil ?_ | with_reducible refine w_acons ?_ | with_reducible refine w_wkp ?_ | with_reducible refine w_wkd ?_ | with_reducible refine w_asp ?_ | with_reducible refine w_enu ?_ | with_reducible refine w_zip2 ?_ | with_reducible refine w_rng1 ?_ | with_reducible refine w_rng2 ?_)
  | ((with_reducible refine aG ?_); first | ((with_reducible refine aN ?_); first | with_reducible refine g_gn0 ?_ | with_reducible refine g_gn1 ?_ | with_reducible refine g_gn2 ?_ | with_reducible refine g_gn3 ?_ | with_reducible refine g_gn4 ?_ | with_reducible refine g_gn5 ?_ | with_reducible refine g_gn6 ?_ | with_reducible refine g_gn7 ?_ | with_reducible refine g_gn8 ?_ | with_reducible refine g_gn9 ?_ | with_reducible refine g_gn10 ?_ | with_reducible refine g_gn11 ?_ | with_reducible refine g_gn12 ?_ | with_reducible refine g_gn13 ?_ | with_reducible refine g_gn14 ?_ | with_reducible refine g_gn15 ?_ | with_reducible refine g_gn16 ?_ | with_reducible refine g_gn17 ?_ | with_reducible refine g_gn18 ?_ | with_reducible refine g_gn19 ?_ | ((with_reducible refine g_gn (σ' := ?_) ?_ ?_); rotate_left; exact rfl; try dsimp only [List.set_cons_zero, List.set_cons_succ])) | with_reducible refine g_gt ?_ | with_reducible refine g_gtl ?_ | with_reducible refine g_gnil ?_ | with_reducible refine g_gcons ?_ | with_reducible refine g_ga ?_ | with_reducible refine g_gi ?_ | with_reducible refine g_gd ?_)
  | ((with_reducible refine aS ?_); first | with_reducible refine s_seqW ?_ | with_reducible refine s_asgW ?_ | with_reducible refine s_retW ?_ | with_reducible refine s_iffW ?_ | with_reducible refine s_expW ?_ | with_reducible refine s_nopW ?_ | with_reducible refine s_retnW ?_ | with_reducible refine s_brkW ?_ | with_reducible refine s_cntW ?_ | with_reducible refine s_rseW ?_ | with_reducible refine s_tryW ?_ | with_reducible refine s_augA0 ?_ | with_reducible refine s_augA1 ?_ | with_reducible refine s_augA2 ?_ | with_reducible refine s_augA3 ?_ | with_reducible refine s_augA4 ?_ | with_reducible refine s_augA5 ?_ | with_reducible refine s_augA6 ?_ | with_reducible refine s_augA7 ?_ | with_reducible refine s_augA8 ?_ | with_reducible refine s_augA9 ?_ | with_reducible refine s_augA10 ?_ | with_reducible refine s_augA11 ?_ | ((with_reducible refine s_augW (z := ?_) ?_ ?_); rotate_left; exact rfl))
  | ((with_reducible refine aR ?_); first | with_reducible refine fin_rtW ?_ | with_reducible refine fin_nxW ?_ | with_reducible refine fin_excW ?_ | with_reducible refine r_add ?_ | with_reducible refine r_sub ?_ | with_reducible refine b_lenr ?_ | with_reducible refine b_lent ?_ | with_reducible refine b_lenc ?_ | with_reducible refine b_lens ?_ | with_reducible refine b_tupr ?_ | with_reducible refine b_tupt ?_ | with_reducible refine b_lstr ?_ | with_reducible refine b_lstt ?_ | with_reducible refine b_int ?_ | with_reducible refine b_intb ?_ | with_reducible refine b_bool ?_ | with_reducible refine b_abs ?_ | with_reducible refine b_max ?_ | with_reducible refine b_min ?_)
  | ((with_reducible refine aT ?_); first | with_reducible refine tt_true ?_ | with_reducible refine tt_false ?_ | with_reducible refine tt_ntrue ?_ | with_reducible refine tt_nfalse ?_ | with_reducible refine tt_dec (fun hc => ?_) (fun hc => ?_) | with_reducible refine tt_ndec (fun hc => ?_) (fun hc => ?_))
  | ((with_reducible refine aB ?_); first | with_reducible refine tb_true ?_ | with_reducible refine tb_false ?_ | with_reducible refine tb_ntrue ?_ | with_reducible refine tb_nfalse ?_ | with_reducible refine tb_dec (fun hc => ?_) (fun hc => ?_) | with_reducible refine tb_ndec (fun hc => ?_) (fun hc => ?_))
  | ((with_reducible refine aX ?_); first | with_reducible refine nx_nx ?_ | with_reducible refine nx_rt ?_ | with_reducible refine nx_exc ?_ | with_reducible refine nx_bk ?_ | with_reducible refine nx_ct ?_)
  | ((with_reducible refine aU ?_); first | with_reducible refine turn_nx ?_ | with_reducible refine turn_ct ?_ | with_reducible refine turn_bk ?_ | with_reducible refine turn_rt ?_ | with_reducible refine turn_exc ?_)
  | ((with_reducible refine aY ?_); first | with_reducible refine try_nx ?_ | with_reducible refine try_rt ?_)
  | ((with_reducible refine aW ?_); first | with_reducible refine w1_nx ?_ | with_reducible refine w1_rt ?_ | with_reducible refine w1_ct ?_ | with_reducible refine w1_bk ?_)
  | with_reducible refine c_lt ?_
  | with_reducible refine c_le ?_
  | with_reducible refine c_gt ?_
  | with_reducible refine c_ge ?_
  | with_reducible refine c_eqi ?_
  | with_reducible refine c_nei ?_
  | with_reducible refine n_bl ?_
  | with_reducible refine x_int ?_
  | with_reducible refine cj_dec (fun hc => ?_) (fun hc => ?_))
local macro_rules | `(tactic| walk_at "go") => `(tactic| repeat walk_at "st")
abbrev DY (row : List Int) : D := .rin 10 [29] [.tup (row.map D.int)]
structure HasF (P : Pg) : Prop where
  f6 : P.fn 100 = some ⟨2, 3, c_from⟩
structure HasQ (P : Pg) : Prop where
  f7 : P.fn 102 = some ⟨2, 2, c_deq⟩
section
variable {P : Pg} {n : Nat} {d : D} {K : D → Sto → Prop} {X : KX} {S : Sto} {σ : Sl}
theorem DY_flat {row : List Int} : D.flat (DY row) = true := by
  show D.flats [.tup (row.map D.int)] = true
  rw [D.flats, D.flat, fl_ints]; rfl
theorem rolZ_flat {row : List Int} : D.flat (.rol (row.map D.int)) = true := by
  rw [D.flat]; exact fl_ints row
theorem fl1 {d : D} (h : d.flat = true) : D.flats [d] = true := by rw [D.flats, h]; rfl
theorem fl2 {d e : D} (h : d.flat = true) (k : e.flat = true) : D.flats [d, e] = true := by rw [D.flats, h, fl1 k]; rfl
theorem fl3 {d e f : D} (h : d.flat = true) (k : e.flat = true) (l : f.flat = true) : D.flats [d, e, f] = true := by rw [D.flats, h, fl2 k l]; rfl
/-- Days(..) -/
theorem newD (H : Has P) {ds : List D} (hk : ∀ d ∈ ds, Kn P d) (hl : ds.length ≤ 100000)
    (h1 : ∀ ns : List Int, ds = ns.map D.int → (∀ i ∈ ns, 0 ≤ i ∧ i ≤ 1000000000000) → (norm ns).length ≤ 400 → K (.ref S.length) (S ++ [.ins 10 [(29, .tup ((norm ns).map D.int))]]))
    (h2 : ∀ pre x post, ds = pre ++ x :: post → (∀ d ∈ pre, isDay d = true) → isDay x = false → X 11 [(0, .int (pre.length : Nat))] (S ++ [.ins 10 []]))
    (h3 : ∀ ns : List Int, ds = ns.map D.int → (∀ i ∈ ns, 0 ≤ i ∧ i ≤ 1000000000000) → 400 < (norm ns).length → X 12 [(28, .str DAYS)] (S ++ [.ins 10 []])) :
    RV (newR σ S.length (callL σ (run P (n + 3)) 101 [.ref S.length, .tup ds] (S ++ [.ins 10 []]))) K X := by
  refine new_W (rc1 get_new rfl ?_ ?_)
  · show (D.flat (.tup ds) && true) = true
    rw [D.flat, Bool.and_true]
    exact fl_of fun x hx => (hk x hx).1
  · refine RV.imp2 (init H hk hl) ?_ ?_
    · rintro d U ⟨rfl, ns, V, e1, e2, e3, rfl⟩
      refine ⟨_, V, rfl, ?_, .inl ⟨rfl, rfl, ?_⟩⟩
      · show ((D.flat (.tup _)) && true) = true
        rw [D.flat, Bool.and_true]; exact fl_ints _
      · rw [set_last]; exact h1 ns e1 e2 e3
    · rintro c fs U (⟨pre, x, post, V, e1, e2, e3, rfl, rfl, rfl⟩ | ⟨ns, V, e1, e2, e3, rfl, rfl, rfl⟩)
      · refine ⟨_, V, _, rfl, rfl, frzF_flat rfl, ?_⟩
        rw [set_last]; exact h2 _ _ _ e1 e2 e3
      · refine ⟨_, V, _, rfl, rfl, frzF_flat rfl, ?_⟩
        rw [set_last]; exact h3 _ e1 e2 e3
theorem inj : ∀ a b : List Int, a.map D.int = b.map D.int → a = b
  | [], [], _ => rfl
  | x :: a, y :: b, e => by
    have := List.cons.inj e
    rw [D.int.inj this.1, inj a b this.2]
/-- .. of whole numbers that are days, kept -/
theorem newZ (H : Has P) {ns : List Int} (hn : ∀ i ∈ ns, 0 ≤ i ∧ i ≤ 1000000000000) (hl : ns.length ≤ 400) (hS : S.all Ob.flat = true) (h : K (DY (norm ns)) S) :
    RV (newR σ S.length (callL σ (run P (n + 3)) 101 [.ref S.length, .tup (ns.map D.int)] (S ++ [.ins 10 []]))) (FZ S.length K) (FX S.length X) := by
  have hq : (norm ns).length ≤ 400 := by
    have : (norm ns).length ≤ ns.length := by rw [norm, (isortI_perm _).length_eq]; exact dedZ_len ns
    omega
  refine newD H (fun d hd => ?_) (by rw [List.length_map]; omega) (fun ms e1 e2 e3 => ?_) (fun pre x post e1 e2 e3 => ?_) fun ms e1 e2 e3 => ?_
  · obtain ⟨i, hi, rfl⟩ := List.mem_map.mp hd
    exact ⟨rfl, rfl⟩
  · rw [inj _ _ e1] at h
    refine fz_ins (Nat.le_refl _) get_new hS ?_ h
    show (D.flat (.tup _) && true) = true
    rw [D.flat, Bool.and_true]; exact fl_ints _
  · have : x ∈ ns.map D.int := by rw [e1]; simp
    obtain ⟨i, hi, rfl⟩ := List.mem_map.mp this
    rw [isDay_int.mpr (hn i hi)] at e3
    cases e3
  · rw [← inj _ _ e1] at e3
    omega
theorem isDay_of {b : D} (h : isDay b = true) : ∃ i, b = .int i ∧ 0 ≤ i ∧ i ≤ 1000000000000 := by
  cases b with
  | int i => exact ⟨i, rfl, isDay_int.mp h⟩
  | _ => cases h
/-- .from_day(..) -/
def fromF (row : List Int) (x : Int) : D := match row.find? fun y => decide (x ≤ y) with
  | some y => .int y
  | none => .non
theorem from_day (HF : HasF P) (H : Has P) {row : List Int} {x : Int} : run P (n + 1) 100 [DY row, .int x] [] = .val [fromF row x] [] := by
  refine rv_eq (run_w (E := fun r => RV r _ noX) HF.f6 rfl ?_)
  show WS P (run P n) c_from [some (DY row), some (.int x), none] [] _
  walk_at "st"
  with_reducible refine s_forW (raws := [row.map D.int]) (fun post σ S => ∃ (ms : List Int) (x2 : Option D), post = ms.map D.int ∧ fromF row x = fromF ms x ∧ σ = [some (DY row), some (.int x), x2] ∧ S = []) ?_ ?_ ?_
  · walk_at "go"
    refine ⟨10, _, _, rfl, rfl, H.fd, ?_⟩
    walk_at "go"
    exact ⟨_, _, rfl, ⟨row, _, rfl, rfl, rfl, rfl⟩, by rintro post σ S ⟨_, _, _, _, _, rfl⟩; rfl⟩
  · rintro y post σ S ⟨ms, x2, h1, h2, rfl, rfl⟩
    match ms, h1 with
    | m :: ms, h1 =>
      obtain ⟨rfl, rfl⟩ := List.cons.inj h1
      walk_at "go"
      · rename_i h3
        refine ⟨?_, rfl⟩
        rw [h2, fromF, List.find?_cons_of_pos (by rw [decide_eq_true h3])]
      · rename_i h3
        walk_at "go"
        refine ⟨ms, _, rfl, ?_, rfl, rfl⟩
        rw [h2, fromF, List.find?_cons_of_neg (by rw [decide_eq_false h3]; decide)]
        rfl
  · rintro σ S ⟨ms, x2, h1, h2, rfl, rfl⟩
    match ms, h1 with
    | [], h1 =>
      walk_at "go"
      exact ⟨by rw [h2]; rfl, rfl⟩
/-- == -/
theorem eq (HQ : HasQ P) (H : Has P) {a b : List Int} : run P (n + 1) 102 [DY a, DY b] [] = .val [.bl (decide (a = b))] [] := by
  refine rv_eq (run_w (E := fun r => RV r _ noX) HQ.f7 rfl ?_)
  show WS P (run P n) c_deq [some (DY a), some (DY b)] [] _
  walk_at "go"
  refine ⟨true, by show (if P.pc 10 = true then some (decide (10 = 10)) else none) = _; rw [H.pc]; rfl, ?_⟩
  walk_at "go"
  refine ⟨10, _, _, rfl, rfl, H.fd, ?_⟩
  walk_at "go"
  refine ⟨10, _, _, rfl, rfl, H.fd, ?_⟩
  refine c_eq eqD_tupZ ?_
  walk_at "go"
  exact ⟨rfl, rfl⟩
/-- in order: as they are -/
theorem norm_id : ∀ {l : List Int}, l.Pairwise (· < ·) → norm l = l := by
  intro l h
  have hn : l.Nodup := h.imp fun h e => by omega
  have e : ∀ {l : List Int}, l.Nodup → dedZ l = l := by
    intro l
    induction l with
    | nil => intro _; rfl
    | cons x l ih =>
      intro h
      rw [List.nodup_cons] at h
      rw [dedZ, if_neg (by rw [List.contains_iff_mem]; exact h.1), ih h.2]
  rw [norm, e hn]
  exact sorted_eq (isortI_sorted l) (h.imp fun h => by omega) (isortI_perm l)
end
end Vm.DY
namespace Vm
end Vm
namespace Vm
section
variable {P : Pg} {Φ : Nat → List D → Sto → Res} {σ : Sl} {S T : Sto} {K : D → Sto → Prop} {KA : List D → Sto → Prop} {X : KX} {a o as : C} {i : Int}
theorem w_lsg {c mi fi : Nat} (h : WE P Φ o σ S (fun x S => ∃ fs xs, insOf S x = some (c, fs) ∧ fs.lookup mi = none ∧ P.fd c fi = true ∧ fs.lookup fi = some (.tup xs) ∧ K (.ref S.length) (S ++ [.lst xs])) X) : WE P Φ (.lsg c mi fi o) σ S K X :=
  rv_b1 (RV.imp h fun x S ⟨fs, xs, e1, e2, e3, e4, q⟩ => by
    rw [e1]
    dsimp only
    rw [if_pos ⟨rfl, e2, e3⟩, e4]
    exact q)
theorem w_stp {k : Nat} (h : WE P Φ a σ S (fun x S => ∃ xs, S.lv x = some xs ∧ K (.ref S.length) (S ++ [.lst (stepL k xs)])) X) : WE P Φ (.stp a k) σ S K X :=
  rv_b1 (RV.imp h fun x S ⟨xs, e1, q⟩ => by
    rw [e1]
    exact q)
/-- the text of a number or of a text -/
def tosT : D → Option (List Nat)
  | .str s => some s
  | .int i => if i.natAbs < 2 ^ 1900 then some (digs i) else none
  | _ => none
theorem tosT_int (h : i.natAbs < 2 ^ 64) : tosT (.int i) = some (digs i) := by
  show (if i.natAbs < 2 ^ 1900 then some (digs i) else none) = _
  rw [if_pos (Nat.lt_of_lt_of_le h (Nat.pow_le_pow_right (by decide) (by decide)))]
theorem w_tos (h : WE P Φ a σ S (fun x S => ∃ t, tosT x = some t ∧ K (.str t) S) X) : WE P Φ (.tos a) σ S K X :=
  rv_b1 (RV.imp h fun x S ⟨t, e, q⟩ => by
    cases x with
    | str s => cases e; exact q
    | int i =>
      have e : (if i.natAbs < 2 ^ 1900 then some (digs i) else none) = some t := e
      by_cases hi : i.natAbs < 2 ^ 1900
      · rw [if_pos hi] at e
        dsimp only
        rw [if_pos hi]
        cases e
        exact q
      · rw [if_neg hi] at e
        cases e
    | _ => cases e)
theorem w_fst (h : WA P Φ as σ S (fun ds S => ∃ zs, strsOf ds = some zs ∧ (zs.map List.length).sum ≤ SL ∧ K (.str zs.flatten) S) noX) : WE P Φ (.fst as) σ S K X := by
  have h : RA (ev P Φ as [] σ S) _ noX := h
  show RV (match ev P Φ as [] σ S with
    | .val ds S => match strsOf ds with
      | some zs => if (zs.map List.length).sum ≤ SL then .val [.str zs.flatten] S else .bad
      | none => .bad
    | _ => .bad) K X
  cases q : ev P Φ as [] σ S with
  | val ds S1 =>
    rw [q] at h
    obtain ⟨zs, e1, e2, k⟩ := h
    dsimp only
    rw [e1]
    dsimp only
    rw [if_pos e2]
    exact k
  | exc c fs σ1 S1 => rw [q] at h; exact h.elim
  | _ => rw [q] at h; exact h.elim
theorem m_join {sep : List Nat} {x : D} {zs : List (List Nat)} (e : extOf S x = some (zs.map D.str)) (hl : (zs.map List.length).sum + sep.length * zs.length ≤ SL) (h : K (.str (joinT sep zs)) S) : RV (callM .join (.str sep) [x] S) K X := by
  show RV (match (extOf S x).bind strsOf with
    | some zs => if (zs.map List.length).sum + sep.length * zs.length ≤ SL then .val [.str (joinT sep zs)] S else .bad
    | none => .bad) K X
  rw [e, Option.bind_some, strsOf_map]
  dsimp only
  rw [if_pos hl]
  exact h
end
theorem ow_e {Φ : Nat → List D → Sto → Res} {σ : Sl} {S U : Sto} {K : D → Sto → Prop} {X : KX} {f : Nat} {ds : List D} {ow : Ow} {v w : D} (hd : D.flats ds = true) (e : Φ f ds [] = .val [v] U) (hv : v.flat = true) (h2 : ownV ow v = some w) (k : K w S) : RV (ownR ow (callL σ Φ f ds S)) K X := by
  rw [callL_0 hd, e, fin0 hv]
  show RV (match ownV ow v with
    | some d' => .val [d'] S
    | none => .bad) K X
  rw [h2]
  exact k
theorem r_slcr {S : Sto} {K : D → Sto → Prop} {X : KX} {xs : List D} {l h : Option Int} (k : K (.ref S.length) (S ++ [.lst (cutD xs l h)])) : RV (opSlice (.rol xs) l h S) K X := k
theorem ownV_len {n : Nat} (h : n < 1000000) : ownV .len (.int n) = some (.int n) := by
  show (if 0 ≤ (n : Int) ∧ (n : Int) < 4611686018427387904 then some (D.int n) else none) = _
  rw [if_pos ⟨by omega, by omega⟩]
theorem anyb_int (ns : List Int) (i : Int) : ((ns.map D.int).any fun z => D.beq z (.int i)) = decide (i ∈ ns) := by
  rw [List.any_map, Bool.eq_iff_iff, List.any_eq_true, decide_eq_true_eq]
  constructor
  · rintro ⟨x, hx, q⟩
    have q : (x == i) = true := q
    rw [← beq_iff_eq.mp q]; exact hx
  · intro h
    exact ⟨i, h, by show (i == i) = true; exact beq_self_eq_true i⟩
theorem w_sin {P : Pg} {Φ : Nat → List D → Sto → Res} {σ : Sl} {S : Sto} {K : D → Sto → Prop} {X : KX} {neg : Bool} {k a : C} (h : WE P Φ k σ S (fun y S => WE P Φ a σ S (fun x S => ∃ (ns : List Int) (i : Int), setOf S x = some (ns.map D.int) ∧ y = .int i ∧ K (.bl (if neg then !decide (i ∈ ns) else decide (i ∈ ns))) S) X) X) : WE P Φ (.sin neg k a) σ S K X :=
  rv_b1 (RV.imp h fun y S h => rv_b1 (RV.imp h fun x S ⟨ns, i, e1, e2, q⟩ => by
    subst e2
    rw [e1]
    dsimp only
    rw [anyb_int]
    exact q))
theorem sum_len {b : Nat} : ∀ {zs : List (List Nat)}, (∀ z ∈ zs, z.length ≤ b) → (zs.map List.length).sum ≤ b * zs.length
  | [], _ => Nat.zero_le _
  | z :: zs, h => by
    have h1 := h z List.mem_cons_self
    have h2 := sum_len (zs := zs) fun y hy => h y (List.mem_cons_of_mem _ hy)
    rw [List.map_cons, List.sum_cons, List.length_cons, Nat.mul_add, Nat.mul_one]
    omega
theorem digs_nat (n : Nat) : digs ((n : Nat) : Int) = TL.numL n := by
  have h := TL.tl_num n
  have e := str_int ((n : Nat) : Int)
  rw [e] at h
  exact h
theorem digs_le {i : Int} (h0 : 0 ≤ i) (h1 : i ≤ 1000000000000) : (digs i).length ≤ 13 := by
  obtain ⟨n, rfl⟩ := Int.eq_ofNat_of_zero_le h0
  have e : digs ((n : Nat) : Int) = TL.numL n := digs_nat n
  rw [e]
  exact TL.numL_len (by decide) (Nat.lt_of_le_of_lt (show n ≤ 1000000000000 by omega) (by decide))
/-- a number among numbers -/
theorem con_ints {S : Sto} {i : Int} {row : List Int} {c : D} (hc : c = .tup (row.map D.int) ∨ S.lv c = some (row.map D.int)) : contains S (.int i) c = some (decide (i ∈ row)) := by
  have e : ∀ u v : Int, PySem.PyData.eqv (.int u) (.int v) = decide (u = v) := fun u v => by
    have h : PySem.PyData.eqvAll ([u].map PySem.PyData.int) ([v].map PySem.PyData.int) = decide ([u] = [v]) := eqv_ints [u] [v]
    have h2 : PySem.PyData.eqvAll [PySem.PyData.int u] [PySem.PyData.int v] = PySem.PyData.eqv (.int u) (.int v) := by simp [PySem.PyData.eqvAll]
    have h3 : PySem.PyData.eqv (.int u) (.int v) = decide ([u] = [v]) := h2.symm.trans h
    rw [h3]
    exact decide_eq_decide.mpr ⟨fun z => (List.cons.inj z).1, fun z => by rw [z]⟩
  have ps : pds S 39 (row.map D.int) = some (row.map PySem.PyData.int) := by
    induction row with
    | nil => rfl
    | cons x row ih =>
      have ih : pds S 39 (row.map D.int) = some (row.map PySem.PyData.int) := by
        clear hc
        clear ih
        induction row with
        | nil => rfl
        | cons y row ih => rw [List.map_cons, pds_con, pd_int, ih]; rfl
      rw [List.map_cons, pds_con, pd_int, ih]; rfl
  have fin : (row.map PySem.PyData.int).any (fun q => PySem.PyData.eqv q (.int i)) = decide (i ∈ row) := by
    rw [List.any_map, Bool.eq_iff_iff, List.any_eq_true, decide_eq_true_eq]
    constructor
    · rintro ⟨x, hx, q⟩
      have q : PySem.PyData.eqv (.int x) (.int i) = true := q
      rw [e, decide_eq_true_eq] at q
      rw [← q]; exact hx
    · intro h
      exact ⟨i, h, by show PySem.PyData.eqv (.int i) (.int i) = true; rw [e]; exact decide_eq_true rfl⟩
  rcases hc with rfl | hc
  · unfold contains
    dsimp only
    rw [pd_int, ps]
    dsimp only
    rw [fin]
  · unfold contains
    cases c with
    | tup ys => cases hc
    | str s => cases hc
    | ref j => dsimp only; rw [hc]; dsimp only; rw [pd_int, ps]; dsimp only; rw [fin]
    | rol ys => dsimp only; rw [hc]; dsimp only; rw [pd_int, ps]; dsimp only; rw [fin]
    | _ => cases hc
end Vm
namespace Vm.DY
open Vm
local macro_rules | `(tactic| walk_at "st") => `(tactic| first
  | ((with_reducible refine aE ?_); first | ((with_reducible refine aV ?_); first | with_reducible refine w_var0 ?_ | with_reducible refine w_var1 ?_ | with_reducible refine w_var2 ?_ | with_reducible refine w_var3 ?_ | with_reducible refine w_var4 ?_ | with_reducible refine w_var5 ?_ | with_reducible refine w_var6 ?_ | with_reducible refine w_var7 ?_ | with_reducible refine w_var8 ?_ | with_reducible refine w_var9 ?_ | with_reducible refine w_var10 ?_ | with_reducible refine w_var11 ?_ | with_reducible refine w_var12 ?_ | with_reducible refine w_var13 ?_ | with_reducible refine w_var14 ?_ | with_reducible refine w_var15 ?_ | with_reducible refine w_var16 ?_ | with_reducible refine w_var17 ?_ | with_reducible refine w_var18 ?_ | with_reducible refine w_var19 ?_ | ((with_reducible refine w_var (d := ?_) ?_ ?_); rotate_left; exact rfl)) | with_reducible refine w_kon ?_ | with_reducible refine w_cal ?_ | with_reducible refine w_frz ?_ | with_reducible refine w_cmp ?_ | with_reducible refine w_bin ?_ | with_reducible refine w_notv ?_ | with_reducible refine w_andB ?_ | with_reducible refine w_orB ?_ | with_reducible refine w_ite ?_ | with_reducible refine w_att ?_ | with_reducible refine w_idx ?_ | with_reducible refine w_slc ?_ | with_reducible refine w_blt ?_ | with_reducible refine w_btm ?_ | with_reducible refine w_tup ?_ | with_reducible refine w_lst ?_ | with_reducible refine w_mth ?_ | with_reducible refine w_own ?_ | with_reducible refine w_calk ?_ | with_reducible refine w_mthk ?_ | with_reducible refine w_chn ?_ | with_reducible refine w_newv ?_ | with_reducible refine w_newk ?_ | with_reducible refine w_newc ?_ | with_reducible refine w_iso ?_ | with_reducible refine w_isb ?_ | with_reducible refine w_prp ?_ | with_reducible refine w_part ?_ | with_reducible refine w_neg ?_ | with_reducible refine w_setv ?_ | with_reducible refine w_lsg ?_ | with_reducible refine w_stp ?_ | with_reducible refine w_tos ?_ | with_reducible refine w_fst ?_ | with_reducible refine w_sin ?_ | with_reducible refine w_frd ?_ | with_reducible refine w_lse ?_ | with_reducible refine w_deq ?_ | ((with_reducible refine w_gl (d := ?_) ?_ ?_); rotate_left; exact rfl))
  | ((with_reducible refine aA ?_); first | with_reducible refine w_anil ?_ | with_reducible refine w_acons ?_ | with_reducible refine w_wkp ?_ | with_reducible refine w_wkd ?_ | with_reducible refine w_asp ?_ | with_reducible refine w_enu ?_ | with_reducible refine w_zip2 ?_ | with_reducible refine w_rng1 ?_ | with_reducible refine w_rng2 ?_)
  | ((with_reducible refine aG ?_); first | ((with_reducible refine aN ?_); first | with_reducible refine g_gn0 ?_ | with_reducible refine g_gn1 ?_ | with_reducible refine g_gn2 ?_ | with_reducible refine g_gn3 ?_ | with_reducible refine g_gn4 ?_ | with_reducible refine g_gn5 ?_ | with_reducible refine g_gn6 ?_ | with_reducible refine g_gn7 ?_ | with_reducible refine g_gn8 ?_ | with_reducible refine g_gn9 ?_ | with_reducible refine g_gn10 ?_ | with_reducible refine g_gn11 ?_ | with_reducible refine g_gn12 ?_ | with_reducible refine g_gn13 ?_ | with_reducible refine g_gn14 ?_ | with_reducible refine g_gn15 ?_ | with_reducible refine g_gn16 ?_ | with_reducible refine g_gn17 ?_ | with_reducible refine g_gn18 ?_ | with_reducible refine g_gn19 ?_ | ((with_reducible refine g_gn (σ' := ?_) ?_ ?_); rotate_left; exact rfl; try dsimp only [List.set_cons_zero, List.set_cons_succ])) | with_reducible refine g_gt ?_ | with_reducible refine g_gtl ?_ | with_reducible refine g_gnil ?_ | with_reducible refine g_gcons ?_ | with_reducible refine g_ga ?_ | with_reducible refine g_gi ?_ | with_reducible refine g_gd ?_)
  | ((with_reducible refine aS ?_); first | with_reducible refine s_seqW ?_ | with_reducible refine s_asgW ?_ | with_reducible refine s_retW ?_ | with_reducible refine s_iffW ?_ | with_reducible refine s_expW ?_ | with_reducible refine s_nopW ?_ | with_reducible refine s_retnW ?_ | with_reducible refine s_brkW ?_ | with_reducible refine s_cntW ?_ | with_reducible refine s_rseW ?_ | with_reducible refine s_tryW ?_ | with_reducible refine s_augA0 ?_ | with_reducible refine s_augA1 ?_ | with_reducible refine s_augA2 ?_ | with_reducible refine s_augA3 ?_ | with_reducible refine s_augA4 ?_ | with_reducible refine s_augA5 ?_ | with_reducible refine s_augA6 ?_ | with_reducible refine s_augA7 ?_ | with_reducible refine s_augA8 ?_ | with_reducible refine s_augA9 ?_ | with_reducible refine s_augA10 ?_ | with_reducible refine s_augA11 ?_ | ((with_reducible refine s_augW (z := ?_) ?_ ?_); rotate_left; exact rfl))
  | ((with_reducible refine aR ?_); first | with_reducible refine fin_rtW ?_ | with_reducible refine fin_nxW ?_ | with_reducible refine fin_excW ?_ | with_reducible refine r_add ?_ | with_reducible refine r_sub ?_ | with_reducible refine b_lenr ?_ | with_reducible refine b_lent ?_ | with_reducible refine b_lenc ?_ | with_reducible refine b_lens ?_ | with_reducible refine b_tupr ?_ | with_reducible refine b_tupt ?_ | with_reducible refine b_lstr ?_ | with_reducible refine b_lstt ?_ | with_reducible refine b_int ?_ | with_reducible refine b_intb ?_ | with_reducible refine b_bool ?_ | with_reducible refine b_abs ?_ | with_reducible refine b_max ?_ | with_reducible refine b_min ?_)
  | ((with_reducible refine aT ?_); first | with_reducible refine tt_true ?_ | with_reducible refine tt_false ?_ | with_reducible refine tt_ntrue ?_ | with_reducible refine tt_nfalse ?_ | with_reducible refine tt_dec (fun hc => ?_) (fun hc => ?_) | with_reducible refine tt_ndec (fun hc => ?_) (fun hc => ?_))
  | ((with_reducible refine aB ?_); first | with_reducible refine tb_true ?_ | with_reducible refine tb_false ?_ | with_reducible refine tb_ntrue ?_ | with_reducible refine tb_nfalse ?_ | with_reducible refine tb_dec (fun hc => ?_) (fun hc => ?_) | with_reducible refine tb_ndec (fun hc => ?_) (fun hc => ?_))
  | ((with_reducible refine aX ?_); first | with_reducible refine nx_nx ?_ | with_reducible refine nx_rt ?_ | with_reducible refine nx_exc ?_ | with_reducible refine nx_bk ?_ | with_reducible refine nx_ct ?_)
  | ((with_reducible refine aU ?_); first | with_reducible refine turn_nx ?_ | with_reducible refine turn_ct ?_ | with_reducible refine turn_bk ?_ | with_reducible refine turn_rt ?_ | with_reducible refine turn_exc ?_)
  | ((with_reducible refine aY ?_); first | with_reducible refine try_nx ?_ | with_reducible refine try_rt ?_)
  | ((with_reducible refine aW ?_); first | with_reducible refine w1_nx ?_ | with_reducible refine w1_rt ?_ | with_reducible refine w1_ct ?_ | with_reducible refine w1_bk ?_)
  | with_reducible refine c_lt ?_
  | with_reducible refine c_le ?_
  | with_reducible refine c_gt ?_
  | with_reducible refine c_ge ?_
  | with_reducible refine c_eqi ?_
  | with_reducible refine c_nei ?_
  | with_reducible refine n_bl ?_
  | with_reducible refine x_int ?_
  | with_reducible refine cj_dec (fun hc => ?_) (fun hc => ?_))
local macro_rules | `(tactic| walk_at "go") => `(tactic| repeat walk_at "st")
abbrev c_dlen : C := (.ret (.blt .len (.acons (.att 29 (.var 0)) .anil)))
abbrev c_dhas : C := (.ret (.andv (.cal 103 (.acons (.var 1) .anil)) (.cmp .In (.var 1) (.att 29 (.var 0)))))
abbrev c_drep : C := (.seq (.asg (.gn 1) (.btm .join (.kon (.str [44, 32])) (.acons (.frz (.lc [2] (.gn 2) (.wkp (.att 29 (.var 0))) (.kon (.bl true)) (.tos (.var 2)))) .anil)))
  (.ret (.fst (.acons (.kon (.str [68, 97, 121, 115, 40])) (.acons (.tos (.var 1)) (.acons (.kon (.str [41])) .anil))))))
structure HasM (P : Pg) : Prop where
  f8 : P.fn 125 = some ⟨1, 1, c_dlen⟩
  f9 : P.fn 127 = some ⟨2, 2, c_dhas⟩
structure HasP (P : Pg) : Prop where
  f10 : P.fn 126 = some ⟨1, 3, c_drep⟩
/-- the days' texts, joined -/
def dT (row : List Int) : List Nat := joinT [44, 32] (row.map digs)
section
variable {P : Pg} {n : Nat} {S : Sto} {σ : Sl} {K : D → Sto → Prop} {X : KX} {row : List Int}
theorem rol_flat1 {row : List Int} : D.flats [.rol (row.map D.int)] = true := by rw [D.flats, rolZ_flat]; rfl
theorem len_run (HM : HasM P) (H : Has P) : run P (n + 1) 125 [DY row] [] = .val [.int row.length] [] := by
  refine rv_eq (run_w (E := fun r => RV r _ noX) HM.f8 rfl ?_)
  show WS P (run P n) c_dlen [some (DY row)] [] _
  walk_at "go"
  refine ⟨10, _, _, rfl, rfl, H.fd, ?_⟩
  walk_at "go"
  exact ⟨by rw [List.length_map], rfl⟩
/-- these are days -/
abbrev Days (row : List Int) : Prop := ∀ i ∈ row, 0 ≤ i ∧ i ≤ 1000000000000
def hasB (row : List Int) : D → Bool
  | .int i => decide (i ∈ row)
  | _ => false
theorem has_run (HM : HasM P) (H : Has P) {d : D} (hk : Kn P d) (hr : Days row) : run P (n + 3) 127 [DY row, d] [] = .val [.bl (hasB row d)] [] := by
  refine rv_eq (run_w (E := fun r => RV r _ noX) HM.f9 rfl ?_)
  show WS P (run P (n + 2)) c_dhas [some (DY row), some d] [] _
  walk_at "go"
  refine rc0e (by simp only [D.flats, hk.1]; rfl) (is_day H hk) rfl ?_
  refine tb_bl (fun e => ?_) (fun e => ?_)
  · obtain ⟨i, rfl, h0, h1⟩ := isDay_of e
    walk_at "go"
    refine ⟨10, _, _, rfl, rfl, H.fd, ?_⟩
    refine c_in (con_ints (.inl rfl)) ?_
    walk_at "go"
    exact ⟨rfl, rfl⟩
  · walk_at "go"
    refine ⟨?_, rfl⟩
    cases d with
    | int i =>
      have hn : i ∉ row := fun hm => by
        have := isDay_int.mpr (hr i hm)
        rw [this] at e; cases e
      show D.bl false = D.bl (decide (i ∈ row))
      rw [decide_eq_false hn]
    | _ => rfl
theorem kn_int {i : Int} : Kn P (.int i) := ⟨rfl, rfl⟩
theorem digs_lens (hr : Days row) : ((row.map digs).map List.length).sum ≤ 13 * row.length := by
  have h := sum_len (b := 13) (zs := row.map digs) fun z hz => by
    obtain ⟨i, hi, rfl⟩ := List.mem_map.mp hz
    exact digs_le (hr i hi).1 (hr i hi).2
  rw [List.length_map] at h
  exact h
theorem nat_lt {i : Int} (h : 0 ≤ i ∧ i ≤ 1000000000000) : i.natAbs < 2 ^ 64 := Nat.lt_of_le_of_lt (show i.natAbs ≤ 1000000000000 by omega) (by decide)
/-- [str(x) for x in row] -/
theorem w_strs {g : Nat} {own : List Nat} {it : C} {Φ : Nat → List D → Sto → Res} (hr : Days row) (hl : row.length ≤ 1000)
    (h : WA P Φ it σ S (fun ds S' => ((∃ raws, walk S' ds = some (raws, row.map D.int) ∧ stillW ds raws S' = true) ∧ (∀ x ∈ row, ∃ τ, putS (wipeD σ own) g (.int x) = some τ ∧ τ[g]? = some (some (.int x)))) ∧ K (.ref S'.length) (S' ++ [.lst ((row.map digs).map D.str)])) X) :
    WE P Φ (.lc own (.gn g) it (.kon (.bl true)) (.tos (.var g))) σ S K X := by
  refine w_lcF (α := Int) (xs := row) (dx := D.int) (fun i => [.str (digs i)]) (RA.imp h fun ds S' ⟨⟨h1, h2⟩, h3⟩ => ⟨h1, fun x hx => ?_, ?_, ?_⟩)
  · obtain ⟨τ, e1, e2⟩ := h2 x hx
    refine g_gn e1 ?_
    refine w_kon ?_
    refine tt_true ?_
    refine w_tos (w_var e2 ⟨_, tosT_int (nat_lt (hr x hx)), rfl, rfl⟩)
  · rw [← List.map_eq_flatMap, List.length_map]; show row.length ≤ 16777216; omega
  · rw [← List.map_eq_flatMap]
    rw [List.map_map] at h3
    exact h3
theorem dT_len (hr : Days row) (hl : row.length ≤ 1000) : ((row.map digs).map List.length).sum + [44, 32].length * (row.map digs).length ≤ SL := by
  have := digs_lens hr
  rw [List.length_map (f := digs)]
  show _ + 2 * row.length ≤ 16777216
  omega
theorem join_len : ∀ (zs : List (List Nat)) (sep : List Nat), (joinT sep zs).length ≤ (zs.map List.length).sum + sep.length * zs.length
  | [], sep => Nat.zero_le _
  | [z], sep => by show z.length ≤ z.length + 0 + _; omega
  | z :: y :: zs, sep => by
    have ih := join_len (y :: zs) sep
    rw [joinT]
    · rw [List.length_append, List.length_append, List.map_cons, List.sum_cons, List.length_cons (as := y :: zs), Nat.mul_add, Nat.mul_one]
      omega
    · exact fun h => by cases h
theorem str_flats (zs : List (List Nat)) : D.flats (zs.map D.str) = true := fl_of fun x hx => by obtain ⟨z, _, rfl⟩ := List.mem_map.mp hx; rfl
theorem repr_run (HP : HasP P) (H : Has P) (hr : Days row) (hl : row.length ≤ 1000) : run P (n + 1) 126 [DY row] [] = .val [.str ([68, 97, 121, 115, 40] ++ dT row ++ [41])] [] := by
  refine rv_eq (run_w (E := fun r => RV r _ noX) HP.f10 rfl ?_)
  show WS P (run P n) c_drep [some (DY row), none, none] [] _
  walk_at "go"
  refine ⟨rfl, ?_⟩
  walk_at "go"
  refine w_strs hr hl ?_
  walk_at "go"
  refine ⟨10, _, _, rfl, rfl, H.fd, ?_⟩
  refine ⟨⟨⟨_, rfl, rfl⟩, fun x hx => ⟨_, rfl, rfl⟩⟩, ?_⟩
  refine fz_new (S := []) rfl (str_flats _) ?_
  walk_at "go"
  refine m_join (zs := row.map digs) rfl (dT_len hr hl) ?_
  walk_at "go"
  refine ⟨_, rfl, ?_⟩
  walk_at "go"
  refine ⟨[[68, 97, 121, 115, 40], dT row, [41]], rfl, ?_, ?_⟩
  · have h1 := join_len (row.map digs) [44, 32]
    have h2 := digs_lens hr
    rw [List.length_map (f := digs)] at h1
    show 5 + ((dT row).length + (1 + 0)) ≤ 16777216
    have h3 : (dT row).length ≤ ((row.map digs).map List.length).sum + 2 * row.length := h1
    omega
  walk_at "go"
  refine ⟨?_, rfl⟩
  show D.str ([68, 97, 121, 115, 40] ++ (dT row ++ ([41] ++ []))) = _
  rw [List.append_nil, List.append_assoc]
theorem eqD_bl {S : Sto} {a b : Bool} : eqD S (.bl a) (.bl b) = some (decide (a = b)) := by
  unfold eqD
  rw [pd_bl, pd_bl]
  cases a <;> cases b <;> rfl
theorem first_at {m : Int} {ms : List Int} : opIx (.rol ((m :: ms).map D.int)) (.int 0) S = some (.int m) := by
  show L2.atI ((m :: ms).map D.int) 0 = _
  unfold L2.atI L2.ixN
  rw [if_pos (Int.le_refl 0), if_pos (by rw [List.length_map, List.length_cons]; omega)]
  rfl
theorem cut_map {α β : Type} (f : α → β) (xs : List α) (a b : Option Int) : cutD (xs.map f) a b = (cutD xs a b).map f := by
  unfold cutD
  rw [List.length_map, List.map_take, List.map_drop]
theorem fromE (HF : HasF P) (H : Has P) {x : Int} {y : D} (e : fromF row x = y) (hy : y.flat = true) (k : K y S) : RV (callL σ (run P (n + 1)) 100 [DY row, .int x] S) K X := rc0e (by rw [D.flats, DY_flat]; rfl) (from_day HF H) (by rw [e]; exact hy) (by rw [e]; exact k)
end
end Vm.DY
namespace Vm.DY
open Vm
local macro_rules | `(tactic| walk_at "st") => `(tactic| first
  | ((with_reducible refine aE ?_); first | ((with_reducible refine aV ?_); first | with_reducible refine w_var0 ?_ | with_reducible refine w_var1 ?_ | with_reducible refine w_var2 ?_ | with_reducible refine w_var3 ?_ | with_reducible refine w_var4 ?_ | with_reducible refine w_var5 ?_ | with_reducible refine w_var6 ?_ | with_reducible refine w_var7 ?_ | with_reducible refine w_var8 ?_ | with_reducible refine w_var9 ?_ | with_reducible refine w_var10 ?_ | with_reducible refine w_var11 ?_ | with_reducible refine w_var12 ?_ | with_reducible refine w_var13 ?_ | with_reducible refine w_var14 ?_ | with_reducible refine w_var15 ?_ | with_reducible refine w_var16 ?_ | with_reducible refine w_var17 ?_ | with_reducible refine w_var18 ?_ | with_reducible refine w_var19 ?_ | ((with_reducible refine w_var (d := ?_) ?_ ?_); rotate_left; exact rfl)) | with_reducible refine w_kon ?_ | with_reducible refine w_cal ?_ | with_reducible refine w_frz ?_ | with_reducible refine w_cmp ?_ | with_reducible refine w_bin ?_ | with_reducible refine w_notv ?_ | with_reducible refine w_andB ?_ | with_reducible refine w_orB ?_ | with_reducible refine w_ite ?_ | with_reducible refine w_att ?_ | with_reducible refine w_idx ?_ | with_reducible refine w_slc ?_ | with_reducible refine w_blt ?_ | with_reducible refine w_btm ?_ | with_reducible refine w_tup ?_ | with_reducible refine w_lst ?_ | with_reducible refine w_mth ?_ | with_reducible refine w_own ?_ | with_reducible refine w_calk ?_ | with_reducible refine w_mthk ?_ | with_reducible refine w_chn ?_ | with_reducible refine w_newv ?_ | with_reducible refine w_newk ?_ | with_reducible refine w_newc ?_ | with_reducible refine w_iso ?_ | with_reducible refine w_isb ?_ | with_reducible refine w_prp ?_ | with_reducible refine w_part ?_ | with_reducible refine w_neg ?_ | with_reducible refine w_setv ?_ | with_reducible refine w_lsg ?_ | with_reducible refine w_stp ?_ | with_reducible refine w_tos ?_ | with_reducible refine w_fst ?_ | with_reducible refine w_sin ?_ | with_reducible refine w_frd ?_ | with_reducible refine w_lse ?_ | with_reducible refine w_deq ?_ | ((with_reducible refine w_gl (d := ?_) ?_ ?_); rotate_left; exact rfl))
  | ((with_reducible refine aA ?_); first | with_reducible refine w_anil ?_ | with_reducible refine w_acons ?_ | with_reducible refine w_wkp ?_ | with_reducible refine w_wkd ?_ | with_reducible refine w_asp ?_ | with_reducible refine w_enu ?_ | with_reducible refine w_zip2 ?_ | with_reducible refine w_rng1 ?_ | with_reducible refine w_rng2 ?_)
  | ((with_reducible refine aG ?_); first | ((with_reducible refine aN ?_); first | with_reducible refine g_gn0 ?_ | with_reducible refine g_gn1 ?_ | with_reducible refine g_gn2 ?_ | with_reducible refine g_gn3 ?_ | with_reducible refine g_gn4 ?_ | with_reducible refine g_gn5 ?_ | with_reducible refine g_gn6 ?_ | with_reducible refine g_gn7 ?_ | with_reducible refine g_gn8 ?_ | with_reducible refine g_gn9 ?_ | with_reducible refine g_gn10 ?_ | with_reducible refine g_gn11 ?_ | with_reducible refine g_gn12 ?_ | with_reducible refine g_gn13 ?_ | with_reducible refine g_gn14 ?_ | with_reducible refine g_gn15 ?_ | with_reducible refine g_gn16 ?_ | with_reducible refine g_gn17 ?_ | with_reducible refine g_gn18 ?_ | with_reducible refine g_gn19 ?_ | ((with_reducible refine g_gn (σ' := ?_) ?_ ?_); rotate_left; exact rfl; try dsimp only [List.set_cons_zero, List.set_cons_succ])) | with_reducible refine g_gt ?_ | with_reducible refine g_gtl ?_ | with_reducible refine g_gnil ?_ | with_reducible refine g_gcons ?_ | with_reducible refine g_ga ?_ | with_reducible refine g_gi ?_ | with_reducible refine g_gd ?_)
  | ((with_reducible refine aS ?_); first | with_reducible refine s_seqW ?_ | with_reducible refine s_asgW ?_ | with_reducible refine s_retW ?_ | with_reducible refine s_iffW ?_ | with_reducible refine s_expW ?_ | with_reducible refine s_nopW ?_ | with_reducible refine s_retnW ?_ | with_reducible refine s_brkW ?_ | with_reducible refine s_cntW ?_ | with_reducible refine s_rseW ?_ | with_reducible refine s_tryW ?_ | with_reducible refine s_augA0 ?_ | with_reducible refine s_augA1 ?_ | with_reducible refine s_augA2 ?_ | with_reducible refine s_augA3 ?_ | with_reducible refine s_augA4 ?_ | with_reducible refine s_augA5 ?_ | with_reducible refine s_augA6 ?_ | with_reducible refine s_augA7 ?_ | with_reducible refine s_augA8 ?_ | with_reducible refine s_augA9 ?_ | with_reducible refine s_augA10 ?_ | with_reducible refine s_augA11 ?_ | ((with_reducible refine s_augW (z := ?_) ?_ ?_); rotate_left; exact rfl))
  | ((with_reducible refine aR ?_); first | with_reducible refine fin_rtW ?_ | with_reducible refine fin_nxW ?_ | with_reducible refine fin_excW ?_ | with_reducible refine r_add ?_ | with_reducible refine r_sub ?_ | with_reducible refine b_lenr ?_ | with_reducible refine b_lent ?_ | with_reducible refine b_lenc ?_ | with_reducible refine b_lens ?_ | with_reducible refine b_tupr ?_ | with_reducible refine b_tupt ?_ | with_reducible refine b_lstr ?_ | with_reducible refine b_lstt ?_ | with_reducible refine b_int ?_ | with_reducible refine b_intb ?_ | with_reducible refine b_bool ?_ | with_reducible refine b_abs ?_ | with_reducible refine b_max ?_ | with_reducible refine b_min ?_)
  | ((with_reducible refine aT ?_); first | with_reducible refine tt_true ?_ | with_reducible refine tt_false ?_ | with_reducible refine tt_ntrue ?_ | with_reducible refine tt_nfalse ?_ | with_reducible refine tt_dec (fun hc => ?_) (fun hc => ?_) | with_reducible refine tt_ndec (fun hc => ?_) (fun hc => ?_))
  | ((with_reducible refine aB ?_); first | with_reducible refine tb_true ?_ | with_reducible refine tb_false ?_ | with_reducible refine tb_ntrue ?_ | with_reducible refine tb_nfalse ?_ | with_reducible refine tb_dec (fun hc => ?_) (fun hc => ?_) | with_reducible refine tb_ndec (fun hc => ?_) (fun hc => ?_))
  | ((with_reducible refine aX ?_); first | with_reducible refine nx_nx ?_ | with_reducible refine nx_rt ?_ | with_reducible refine nx_exc ?_ | with_reducible refine nx_bk ?_ | with_reducible refine nx_ct ?_)
  | ((with_reducible refine aU ?_); first | with_reducible refine turn_nx ?_ | with_reducible refine turn_ct ?_ | with_reducible refine turn_bk ?_ | with_reducible refine turn_rt ?_ | with_reducible refine turn_exc ?_)
  | ((with_reducible refine aY ?_); first | with_reducible refine try_nx ?_ | with_reducible refine try_rt ?_)
  | ((with_reducible refine aW ?_); first | with_reducible refine w1_nx ?_ | with_reducible refine w1_rt ?_ | with_reducible refine w1_ct ?_ | with_reducible refine w1_bk ?_)
  | with_reducible refine c_lt ?_
  | with_reducible refine c_le ?_
  | with_reducible refine c_gt ?_
  | with_reducible refine c_ge ?_
  | with_reducible refine c_eqi ?_
  | with_reducible refine c_nei ?_
  | with_reducible refine n_bl ?_
  | with_reducible refine x_int ?_
  | with_reducible refine cj_dec (fun hc => ?_) (fun hc => ?_))
local macro_rules | `(tactic| walk_at "go") => `(tactic| repeat walk_at "st")
/-- in order, days, at most 400 -/
structure Row (a : List Int) : Prop where
  d : Days a
  s : a.Pairwise (· < ·)
  l : a.length ≤ 400
section
variable {P : Pg} {n : Nat} {S : Sto} {σ : Sl} {K : D → Sto → Prop} {X : KX} {a b : List Int}
theorem Row.filter (h : Row a) (p : Int → Bool) : Row (a.filter p) := ⟨fun i hi => h.d i (List.mem_filter.mp hi).1, h.s.filter _, Nat.le_trans (List.length_filter_le _ _) h.l⟩
theorem Row.norm (h : Row a) : norm a = a := norm_id h.s
theorem norm_char {ns l : List Int} (hl : l.Pairwise (· < ·)) (h : ∀ i, i ∈ l ↔ i ∈ ns) : norm ns = l := by
  have hn : l.Nodup := hl.imp fun h e => by omega
  refine sorted_eq (isortI_sorted _) (hl.imp fun h => by omega) ((isortI_perm _).trans ?_)
  refine (List.perm_ext_iff_of_nodup (dedZ_nodup _) hn).mpr fun i => ?_
  rw [dedZ_mem, h]
theorem Row.sub {a r : List Int} (h : Row r) (hs : a.Sublist r) : Row a := ⟨fun i hi => h.d i (hs.subset hi), h.s.sublist hs, Nat.le_trans hs.length_le h.l⟩
end
end Vm.DY
namespace Vm.DY
open Vm
local macro_rules | `(tactic| walk_at "st") => `(tactic| first
  | ((with_reducible refine aE ?_); first | ((with_reducible refine aV ?_); first | with_reducible refine w_var0 ?_ | with_reducible refine w_var1 ?_ | with_reducible refine w_var2 ?_ | with_reducible refine w_var3 ?_ | with_reducible refine w_var4 ?_ | with_reducible refine w_var5 ?_ | with_reducible refine w_var6 ?_ | with_reducible refine w_var7 ?_ | with_reducible refine w_var8 ?_ | with_reducible refine w_var9 ?_ | with_reducible refine w_var10 ?_ | with_reducible refine w_var11 ?_ | with_reducible refine w_var12 ?_ | with_reducible refine w_var13 ?_ | with_reducible refine w_var14 ?_ | with_reducible refine w_var15 ?_ | with_reducible refine w_var16 ?_ | with_reducible refine w_var17 ?_ | with_reducible refine w_var18 ?_ | with_reducible refine w_var19 ?_ | ((with_reducible refine w_var (d := ?_) ?_ ?_); rotate_left; exact rfl)) | with_reducible refine w_kon ?_ | with_reducible refine w_cal ?_ | with_reducible refine w_frz ?_ | with_reducible refine w_cmp ?_ | with_reducible refine w_bin ?_ | with_reducible refine w_notv ?_ | with_reducible refine w_andB ?_ | with_reducible refine w_orB ?_ | with_reducible refine w_ite ?_ | with_reducible refine w_att ?_ | with_reducible refine w_idx ?_ | with_reducible refine w_slc ?_ | with_reducible refine w_blt ?_ | with_reducible refine w_btm ?_ | with_reducible refine w_tup ?_ | with_reducible refine w_lst ?_ | with_reducible refine w_mth ?_ | with_reducible refine w_own ?_ | with_reducible refine w_calk ?_ | with_reducible refine w_mthk ?_ | with_reducible refine w_chn ?_ | with_reducible refine w_newv ?_ | with_reducible refine w_newk ?_ | with_reducible refine w_newc ?_ | with_reducible refine w_iso ?_ | with_reducible refine w_isb ?_ | with_reducible refine w_prp ?_ | with_reducible refine w_part ?_ | with_reducible refine w_neg ?_ | with_reducible refine w_setv ?_ | with_reducible refine w_lsg ?_ | with_reducible refine w_stp ?_ | with_reducible refine w_tos ?_ | with_reducible refine w_fst ?_ | with_reducible refine w_sin ?_ | with_reducible refine w_frd ?_ | with_reducible refine w_lse ?_ | with_reducible refine w_deq ?_ | ((with_reducible refine w_gl (d := ?_) ?_ ?_); rotate_left; exact rfl))
  | ((with_reducible refine aA ?_); first | with_reducible refine w_anil ?_ | with_reducible refine w_acons ?_ | with_reducible refine w_wkp ?_ | with_reducible refine w_wkd ?_ | with_reducible refine w_asp ?_ | with_reducible refine w_enu ?_ | with_reducible refine w_zip2 ?_ | with_reducible refine w_rng1 ?_ | with_reducible refine w_rng2 ?_)
  | ((with_reducible refine aG ?_); first | ((with_reducible refine aN ?_); first | with_reducible refine g_gn0 ?_ | with_reducible refine g_gn1 ?_ | with_reducible refine g_gn2 ?_ | with_reducible refine g_gn3 ?_ | with_reducible refine g_gn4 ?_ | with_reducible refine g_gn5 ?_ | with_reducible refine g_gn6 ?_ | with_reducible refine g_gn7 ?_ | with_reducible refine g_gn8 ?_ | with_reducible refine g_gn9 ?_ | with_reducible refine g_gn10 ?_ | with_reducible refine g_gn11 ?_ | with_reducible refine g_gn12 ?_ | with_reducible refine g_gn13 ?_ | with_reducible refine g_gn14 ?_ | with_reducible refine g_gn15 ?_ | with_reducible refine g_gn16 ?_ | with_reducible refine g_gn17 ?_ | with_reducible refine g_gn18 ?_ | with_reducible refine g_gn19 ?_ | ((with_reducible refine g_gn (σ' := ?_) ?_ ?_); rotate_left; exact rfl; try dsimp only [List.set_cons_zero, List.set_cons_succ])) | with_reducible refine g_gt ?_ | with_reducible refine g_gtl ?_ | with_reducible refine g_gnil ?_ | with_reducible refine g_gcons ?_ | with_reducible refine g_ga ?_ | with_reducible refine g_gi ?_ | with_reducible refine g_gd ?_)
  | ((with_reducible refine aS ?_); first | with_reducible refine s_seqW ?_ | with_reducible refine s_asgW ?_ | with_reducible refine s_retW ?_ | with_reducible refine s_iffW ?_ | with_reducible refine s_expW ?_ | with_reducible refine s_nopW ?_ | with_reducible refine s_retnW ?_ | with_reducible refine s_brkW ?_ | with_reducible refine s_cntW ?_ | with_reducible refine s_rseW ?_ | with_reducible refine s_tryW ?_ | with_reducible refine s_augA0 ?_ | with_reducible refine s_augA1 ?_ | with_reducible refine s_augA2 ?_ | with_reducible refine s_augA3 ?_ | with_reducible refine s_augA4 ?_ | with_reducible refine s_augA5 ?_ | with_reducible refine s_augA6 ?_ | with_reducible refine s_augA7 ?_ | with_reducible refine s_augA8 ?_ | with_reducible refine s_augA9 ?_ | with_reducible refine s_augA10 ?_ | with_reducible refine s_augA11 ?_ | ((with_reducible refine s_augW (z := ?_) ?_ ?_); rotate_left; exact rfl))
  | ((with_reducible refine aR ?_); first | with_reducible refine fin_rtW ?_ | with_reducible refine fin_nxW ?_ | with_reducible refine fin_excW ?_ | with_reducible refine r_add ?_ | with_reducible refine r_sub ?_ | with_reducible refine b_lenr ?_ | with_reducible refine b_lent ?_ | with_reducible refine b_lenc ?_ | with_reducible refine b_lens ?_ | with_reducible refine b_tupr ?_ | with_reducible refine b_tupt ?_ | with_reducible refine b_lstr ?_ | with_reducible refine b_lstt ?_ | with_reducible refine b_int ?_ | with_reducible refine b_intb ?_ | with_reducible refine b_bool ?_ | with_reducible refine b_abs ?_ | with_reducible refine b_max ?_ | with_reducible refine b_min ?_)
  | ((with_reducible refine aT ?_); first | with_reducible refine tt_true ?_ | with_reducible refine tt_false ?_ | with_reducible refine tt_ntrue ?_ | with_reducible refine tt_nfalse ?_ | with_reducible refine tt_dec (fun hc => ?_) (fun hc => ?_) | with_reducible refine tt_ndec (fun hc => ?_) (fun hc => ?_))
  | ((with_reducible refine aB ?_); first | with_reducible refine tb_true ?_ | with_reducible refine tb_false ?_ | with_reducible refine tb_ntrue ?_ | with_reducible refine tb_nfalse ?_ | with_reducible refine tb_dec (fun hc => ?_) (fun hc => ?_) | with_reducible refine tb_ndec (fun hc => ?_) (fun hc => ?_))
  | ((with_reducible refine aX ?_); first | with_reducible refine nx_nx ?_ | with_reducible refine nx_rt ?_ | with_reducible refine nx_exc ?_ | with_reducible refine nx_bk ?_ | with_reducible refine nx_ct ?_)
  | ((with_reducible refine aU ?_); first | with_reducible refine turn_nx ?_ | with_reducible refine turn_ct ?_ | with_reducible refine turn_bk ?_ | with_reducible refine turn_rt ?_ | with_reducible refine turn_exc ?_)
  | ((with_reducible refine aY ?_); first | with_reducible refine try_nx ?_ | with_reducible refine try_rt ?_)
  | ((with_reducible refine aW ?_); first | with_reducible refine w1_nx ?_ | with_reducible refine w1_rt ?_ | with_reducible refine w1_ct ?_ | with_reducible refine w1_bk ?_)
  | with_reducible refine c_lt ?_
  | with_reducible refine c_le ?_
  | with_reducible refine c_gt ?_
  | with_reducible refine c_ge ?_
  | with_reducible refine c_eqi ?_
  | with_reducible refine c_nei ?_
  | with_reducible refine n_bl ?_
  | with_reducible refine x_int ?_
  | with_reducible refine cj_dec (fun hc => ?_) (fun hc => ?_))
local macro_rules | `(tactic| walk_at "go") => `(tactic| repeat walk_at "st")
abbrev c_pcs2 : C := (.whl (.andv (.cmp .Lt (.bin .Add (.var 3) (.kon (.int 1))) (.blt .len (.acons (.var 0) .anil))) (.cmp .Eq (.idx (.var 0) (.bin .Add (.var 3) (.kon (.int 1)))) (.bin .Add (.idx (.var 0) (.var 3)) (.kon (.int 1))))) (.asg (.gn 3) (.bin .Add (.var 3) (.kon (.int 1)))))
abbrev c_pcs3 : C := (.exp (.btm .append (.var 1) (.acons (.ite (.cmp .Gt (.var 3) (.var 2)) (.fst (.acons (.tos (.idx (.var 0) (.var 2))) (.acons (.kon (.str [46, 46])) (.acons (.tos (.idx (.var 0) (.var 3))) .anil)))) (.tos (.idx (.var 0) (.var 2)))) .anil)))
abbrev c_pcs : C := (.seq (.asg (.gn 1) (.lst .anil)) (.seq (.asg (.gn 2) (.kon (.int 0))) (.seq (.whl (.cmp .Lt (.var 2) (.blt .len (.acons (.var 0) .anil))) (.seq (.asg (.gn 3) (.var 2)) (.seq c_pcs2 (.seq c_pcs3 (.asg (.gn 2) (.bin .Add (.var 3) (.kon (.int 1))))))))
  (.ret (.var 1)))))
abbrev c_dstr : C := (.ret (.btm .join (.kon (.str [44, 32])) (.acons (.frz (.cal 141 (.acons (.att 29 (.var 0)) .anil))) .anil)))
structure HasPc (P : Pg) : Prop where
  f : P.fn 141 = some ⟨1, 4, c_pcs⟩
  w : P.wf = 1000000
structure HasStr (P : Pg) : Prop where
  f : P.fn 139 = some ⟨1, 1, c_dstr⟩
/-- days beside each other: the first one and the last one -/
def blocks : List Int → List (Int × Int)
  | [] => []
  | a :: r => match blocks r with
    | (b, e) :: bs => if b = a + 1 then (a, e) :: bs else (a, a) :: (b, e) :: bs
    | [] => [(a, a)]
theorem blocks_head : ∀ (a : Int) (r : List Int), ∃ e bs, blocks (a :: r) = (a, e) :: bs
  | a, r => by
    rw [blocks]
    split
    · split
      · exact ⟨_, _, rfl⟩
      · exact ⟨_, _, rfl⟩
    · exact ⟨_, _, rfl⟩
/-- a, a + 1, ..: k more -/
def cons1 (a : Int) : Nat → List Int
  | 0 => [a]
  | k + 1 => a :: cons1 (a + 1) k
theorem cons1_snoc (a : Int) : ∀ k : Nat, cons1 a (k + 1) = cons1 a k ++ [a + ((k : Int) + 1)]
  | 0 => by show [a, a + 1] = [a] ++ [a + ((0 : Nat) + 1 : Int)]; simp
  | k + 1 => by
    rw [cons1, cons1_snoc (a + 1) k, cons1]
    show a :: (cons1 (a + 1) k ++ [a + 1 + ((k : Int) + 1)]) = a :: (cons1 (a + 1) k ++ [a + (((k + 1 : Nat) : Int) + 1)])
    rw [show a + 1 + ((k : Int) + 1) = a + (((k + 1 : Nat) : Int) + 1) by omega]
theorem cons1_len (a : Int) : ∀ k : Nat, (cons1 a k).length = k + 1
  | 0 => rfl
  | k + 1 => by rw [cons1, List.length_cons, cons1_len]
theorem blocks_run : ∀ (k : Nat) (a : Int) (rest : List Int), (∀ b r, rest = b :: r → b ≠ a + (k : Int) + 1) → blocks (cons1 a k ++ rest) = (a, a + (k : Int)) :: blocks rest
  | 0, a, rest, h => by
    show blocks (a :: rest) = _
    rw [blocks, show a + ((0 : Nat) : Int) = a by omega]
    cases rest with
    | nil => rfl
    | cons b r =>
      obtain ⟨e, bs, q⟩ := blocks_head b r
      have hb := h b r rfl
      rw [q]
      dsimp only
      rw [if_neg (by omega)]
  | k + 1, a, rest, h => by
    show blocks (a :: (cons1 (a + 1) k ++ rest)) = _
    rw [blocks, blocks_run k (a + 1) rest fun b r e => by have := h b r e; omega]
    dsimp only
    rw [if_pos rfl, show a + 1 + (k : Int) = a + ((k + 1 : Nat) : Int) by omega]
theorem blocks_len : ∀ r : List Int, (blocks r).length ≤ r.length
  | [] => Nat.le_refl _
  | a :: r => by
    have ih := blocks_len r
    rw [blocks]
    split
    · rename_i q
      rw [q, List.length_cons] at ih
      split
      · simp only [List.length_cons]; omega
      · simp only [List.length_cons]; omega
    · simp
theorem blocks_days : ∀ {r : List Int}, Days r → ∀ p ∈ blocks r, 0 ≤ p.1 ∧ p.1 ≤ p.2 ∧ p.2 ≤ 1000000000000
  | [], _ => by intro p hp; cases hp
  | a :: r, h => by
    have ih := blocks_days (r := r) fun i hi => h i (List.mem_cons_of_mem _ hi)
    have ha := h a List.mem_cons_self
    rw [blocks]
    split
    · rename_i b e bs q
      rw [q] at ih
      have hb := ih (b, e) List.mem_cons_self
      split
      · rename_i hba
        intro p hp
        rcases List.mem_cons.mp hp with rfl | hp
        · exact ⟨ha.1, by show a ≤ e; have : b ≤ e := hb.2.1; omega, hb.2.2⟩
        · exact ih p (List.mem_cons_of_mem _ hp)
      · intro p hp
        rcases List.mem_cons.mp hp with rfl | hp
        · exact ⟨ha.1, Int.le_refl _, ha.2⟩
        · exact ih p hp
    · intro p hp
      rw [List.mem_singleton.mp hp]
      exact ⟨ha.1, Int.le_refl _, ha.2⟩
/-- how a block is written -/
def pcT (p : Int × Int) : List Nat := if p.1 < p.2 then digs p.1 ++ ([46, 46] ++ digs p.2) else digs p.1
def strT (row : List Int) : List Nat := joinT [44, 32] ((blocks row).map pcT)
section
variable {P : Pg} {n : Nat} {S : Sto} {σ : Sl} {K : D → Sto → Prop} {X : KX} {row : List Int}
theorem at_tr {x : D} (hx : x = .tup (row.map D.int) ∨ x = .rol (row.map D.int)) {j : Nat} (h : j < row.length) : opIx x (.int (j : Nat)) S = some (.int row[j]) := by
  have e : L2.atI (row.map D.int) ((j : Nat) : Int) = some (.int row[j]) := by
    rw [atI_nat (by rw [List.length_map]; exact h), List.getElem_map]
  rcases hx with rfl | rfl
  · exact e
  · exact e
theorem len_tr {x : D} (hx : x = .tup (row.map D.int) ∨ x = .rol (row.map D.int)) (k : K (.int row.length) S) : RV (callB .len [x] S) K X := by
  rcases hx with rfl | rfl
  · refine b_lent ?_; rw [List.length_map]; exact k
  · refine b_lenr ?_; rw [List.length_map]; exact k
theorem pcs_ws (HP : HasPc P) {Φ : Nat → List D → Sto → Res} (hd : Days row) (hl : row.length ≤ 1000) {x : D} (hx : x = .tup (row.map D.int) ∨ x = .rol (row.map D.int)) :
    WS P Φ c_pcs [some x, none, none, none] [] fun r => RV (fin r) (fun d U => d = .ref 0 ∧ U = [.lst ((blocks row).map fun p => D.str (pcT p))]) noX := by
  walk_at "go"
  refine ⟨Nat.zero_le _, ?_⟩
  walk_at "go"
  with_reducible refine s_whlW (fun m σ S => ∃ (at_ : Nat) (done : List (Int × Int)) (x3 : Option D), m = row.length - at_ ∧ at_ ≤ row.length ∧ blocks row = done ++ blocks (row.drop at_) ∧ done.length ≤ at_ ∧ σ = [some x, some (.ref 0), some (.int (at_ : Nat)), x3] ∧ S = [.lst (done.map fun p => D.str (pcT p))]) (m := row.length) (by rw [HP.w]; omega) ⟨0, [], none, by omega, Nat.zero_le _, rfl, Nat.le_refl _, rfl, rfl⟩ ?_
  rintro m σ S ⟨at_, done, x3, rfl, h1, h2, h3, rfl, rfl⟩
  walk_at "go"
  refine len_tr hx ?_
  walk_at "go"
  · rename_i hc
    have hlt : at_ < row.length := by omega
    obtain ⟨a, r, hdr⟩ : ∃ a r, row.drop at_ = a :: r := by
      cases e : row.drop at_ with
      | nil => rw [List.drop_eq_nil_iff] at e; omega
      | cons a r => exact ⟨a, r, rfl⟩
    have h00 : row.drop at_ = cons1 a 0 ++ row.drop (at_ + 0 + 1) := by
      rw [cons1, show at_ + 0 + 1 = at_ + 1 by omega, ← List.drop_drop, hdr]
      rfl
    walk_at "go"
    with_reducible refine s_whlW (fun m σ S => ∃ k : Nat, m = row.length - (at_ + k) ∧ at_ + k < row.length ∧ row.drop at_ = cons1 a k ++ row.drop (at_ + k + 1) ∧ σ = [some x, some (.ref 0), some (.int (at_ : Nat)), some (.int ((at_ + k : Nat) : Int))] ∧ S = [.lst (done.map fun p => D.str (pcT p))]) (m := row.length - at_) (by rw [HP.w]; omega) ⟨0, by omega, by omega, h00, rfl, rfl⟩ ?_
    rintro m σ S ⟨k, rfl, g1, g2, rfl, rfl⟩
    have rk : ∀ j : Nat, (hj : j ≤ k) → row[at_ + j]'(by omega) = a + (j : Int) := by
      have key : ∀ (k : Nat) (b : Int) (rest : List Int) (j : Nat), j ≤ k → (cons1 b k ++ rest)[j]? = some (b + (j : Int)) := by
        intro k
        induction k with
        | zero =>
          intro b rest j hj
          obtain rfl : j = 0 := by omega
          show some b = some (b + ((0 : Nat) : Int))
          simp
        | succ k ih =>
          intro b rest j hj
          cases j with
          | zero => show some b = some (b + ((0 : Nat) : Int)); simp
          | succ j =>
            show (cons1 (b + 1) k ++ rest)[j]? = _
            rw [ih (b + 1) rest j (by omega)]
            congr 1
            omega
      intro j hj
      have h := key k a (row.drop (at_ + k + 1)) j hj
      rw [← g2, List.getElem?_drop] at h
      exact (List.getElem?_eq_some_iff.mp h).2
    have last : row[at_ + k]'(by omega) = a + (k : Int) := rk k (Nat.le_refl _)
    have first : row[at_]'(by omega) = a := by have := rk 0 (Nat.zero_le _); simpa using this
    have ha := hd a (by rw [← first]; exact List.getElem_mem _)
    have hk := hd (a + (k : Int)) (by rw [← last]; exact List.getElem_mem _)
    have tail : (∀ b r, row.drop (at_ + k + 1) = b :: r → b ≠ a + (k : Int) + 1) → WS P Φ (.seq c_pcs3 (.asg (.gn 2) (.bin .Add (.var 3) (.kon (.int 1))))) [some x, some (.ref 0), some (.int (at_ : Nat)), some (.int ((at_ + k : Nat) : Int))] [.lst (done.map fun p => D.str (pcT p))] (TurnE (fun σ S => ∃ m', m' < row.length - at_ ∧ ∃ (at_ : Nat) (done : List (Int × Int)) (x3 : Option D), m' = row.length - at_ ∧ at_ ≤ row.length ∧ blocks row = done ++ blocks (row.drop at_) ∧ done.length ≤ at_ ∧ σ = [some x, some (.ref 0), some (.int (at_ : Nat)), x3] ∧ S = [.lst (done.map fun p => D.str (pcT p))]) (Nx (fun σ S => WS P Φ (.ret (.var 1)) σ S fun r => RV (fin r) (fun d U => d = .ref 0 ∧ U = [.lst ((blocks row).map fun p => D.str (pcT p))]) noX) fun r => RV (fin r) (fun d U => d = .ref 0 ∧ U = [.lst ((blocks row).map fun p => D.str (pcT p))]) noX)) := fun hrest => by
      have hb : blocks row = (done ++ [(a, a + (k : Int))]) ++ blocks (row.drop (at_ + k + 1)) := by
        rw [h2, g2, blocks_run k a _ hrest, List.append_assoc]
        rfl
      have fin2 : ∀ {t : List Nat}, t = pcT (a, a + (k : Int)) → WS P Φ (.asg (.gn 2) (.bin .Add (.var 3) (.kon (.int 1)))) [some x, some (.ref 0), some (.int (at_ : Nat)), some (.int ((at_ + k : Nat) : Int))] [.lst (done.map (fun p => D.str (pcT p)) ++ [D.str t])] (TurnE (fun σ S => ∃ m', m' < row.length - at_ ∧ ∃ (at_ : Nat) (done : List (Int × Int)) (x3 : Option D), m' = row.length - at_ ∧ at_ ≤ row.length ∧ blocks row = done ++ blocks (row.drop at_) ∧ done.length ≤ at_ ∧ σ = [some x, some (.ref 0), some (.int (at_ : Nat)), x3] ∧ S = [.lst (done.map fun p => D.str (pcT p))]) (Nx (fun σ S => WS P Φ (.ret (.var 1)) σ S fun r => RV (fin r) (fun d U => d = .ref 0 ∧ U = [.lst ((blocks row).map fun p => D.str (pcT p))]) noX) fun r => RV (fin r) (fun d U => d = .ref 0 ∧ U = [.lst ((blocks row).map fun p => D.str (pcT p))]) noX)) := by
        rintro t rfl
        walk_at "go"
        refine ⟨row.length - (at_ + k + 1), by omega, at_ + k + 1, done ++ [(a, a + (k : Int))], some (.int ((at_ + k : Nat) : Int)), rfl, by omega, hb, by rw [List.length_append]; show done.length + 1 ≤ _; omega, rfl, ?_⟩
        rw [List.map_append]
        rfl
      generalize C.asg (.gn 2) (.bin .Add (.var 3) (.kon (.int 1))) = T2 at fin2 ⊢
      walk_at "go"
      refine ⟨rfl, ?_⟩
      walk_at "go"
      · rename_i hgt
        refine ⟨_, at_tr hx hlt, ?_⟩
        rw [first]
        refine ⟨_, tosT_int (nat_lt ha), ?_⟩
        walk_at "go"
        refine ⟨_, at_tr hx g1, ?_⟩
        rw [last]
        refine ⟨_, tosT_int (nat_lt hk), ?_⟩
        walk_at "go"
        have q1 := digs_le ha.1 ha.2
        have q2 := digs_le hk.1 hk.2
        refine ⟨[digs a, [46, 46], digs (a + (k : Int))], rfl, by show (digs a).length + (2 + ((digs (a + (k : Int))).length + 0)) ≤ 16777216; omega, ?_⟩
        walk_at "go"
        refine m_app rfl (by rw [List.length_map]; show done.length < 16777216; omega) ?_
        walk_at "go"
        refine fin2 ?_
        unfold pcT
        rw [if_pos (by show a < a + (k : Int); omega)]
        simp
      · rename_i hgt
        walk_at "go"
        refine ⟨_, at_tr hx hlt, ?_⟩
        rw [first]
        refine ⟨_, tosT_int (nat_lt ha), ?_⟩
        walk_at "go"
        refine m_app rfl (by rw [List.length_map]; show done.length < 16777216; omega) ?_
        walk_at "go"
        refine fin2 ?_
        unfold pcT
        rw [if_neg (by show ¬ (a < a + (k : Int)); omega)]
    generalize C.seq c_pcs3 (.asg (.gn 2) (.bin .Add (.var 3) (.kon (.int 1)))) = T3 at tail ⊢
    walk_at "go"
    refine len_tr hx ?_
    walk_at "go"
    · rename_i hin
      have g3 : at_ + (k + 1) < row.length := by omega
      refine ⟨.int (row[at_ + (k + 1)]'g3), by
        have := at_tr (S := [.lst (done.map fun p => D.str (pcT p))]) hx g3
        rwa [show ((at_ + (k + 1) : Nat) : Int) = ((at_ + k : Nat) : Int) + 1 by omega] at this, ?_⟩
      walk_at "go"
      refine ⟨_, at_tr hx g1, ?_⟩
      rw [last]
      have hdrop : row.drop (at_ + k + 1) = row[at_ + (k + 1)]'g3 :: row.drop (at_ + (k + 1) + 1) := by
        rw [show at_ + k + 1 = at_ + (k + 1) by omega]
        exact List.drop_eq_getElem_cons g3
      walk_at "st"
      walk_at "st"
      refine c_eqi ?_
      refine tt_dec (fun he => ?_) (fun he => ?_)
      · walk_at "go"
        refine ⟨row.length - (at_ + (k + 1)), by omega, k + 1, rfl, g3, ?_, ?_, rfl⟩
        · rw [g2, hdrop, he, cons1_snoc, List.append_assoc]
          show cons1 a k ++ ((a + (k : Int) + 1) :: _) = cons1 a k ++ ([a + ((k : Int) + 1)] ++ _)
          rw [Int.add_assoc]
          rfl
        · rw [show ((at_ + (k + 1) : Nat) : Int) = ((at_ + k : Nat) : Int) + 1 by omega]
      · walk_at "go"
        refine tail fun b r e => ?_
        rw [hdrop] at e
        rw [← (List.cons.inj e).1]
        exact he
    · rename_i hin
      walk_at "go"
      refine tail fun b r e => ?_
      rw [List.drop_eq_nil_of_le (by omega)] at e
      cases e
  · rename_i hc
    walk_at "go"
    refine ⟨rfl, ?_⟩
    rw [h2, List.drop_eq_nil_of_le (by omega), blocks, List.append_nil]
theorem pcs_ex (HP : HasPc P) {Φ : Nat → List D → Sto → Res} (hd : Days row) (hl : row.length ≤ 1000) {x : D} (hx : x = .tup (row.map D.int) ∨ x = .rol (row.map D.int)) : fin (ev P Φ c_pcs [] [some x, none, none, none] []) = .val [.ref 0] [.lst (((blocks row).map pcT).map D.str)] := by
  have h : RV (fin (ev P Φ c_pcs [] [some x, none, none, none] [])) _ noX := pcs_ws HP hd hl hx
  rcases rv_ex h with ⟨d, S, e, rfl, rfl⟩ | ⟨_, _, _, _, _, h⟩
  · rw [List.map_map]; exact e
  · exact h.elim
theorem pcs_run (HP : HasPc P) (hd : Days row) (hl : row.length ≤ 1000) {x : D} (hx : x = .tup (row.map D.int) ∨ x = .rol (row.map D.int)) : run P (n + 1) 141 [x] [] = .val [.ref 0] [.lst (((blocks row).map pcT).map D.str)] := by
  refine run_w (E := fun r => r = .val [.ref 0] [.lst (((blocks row).map pcT).map D.str)]) HP.f rfl ?_
  exact pcs_ex HP hd hl hx
theorem x_flat {x : D} (hx : x = .tup (row.map D.int) ∨ x = .rol (row.map D.int)) : D.flats [x] = true := by
  rcases hx with rfl | rfl
  · show (D.flat (.tup _) && true) = true
    rw [D.flat, Bool.and_true]; exact fl_ints _
  · exact rol_flat1
/-- pieces_of(..), kept -/
theorem pcsW (HP : HasPc P) (hd : Days row) (hl : row.length ≤ 1000) {x : D} (hx : x = .tup (row.map D.int) ∨ x = .rol (row.map D.int)) (hS : S.all Ob.flat = true) (k : K (.rol (((blocks row).map pcT).map D.str)) S) : RV (callL σ (run P (n + 1)) 141 [x] S) (FZ S.length K) (FX S.length X) :=
  rc0 (x_flat hx) (rv_of (pcs_run HP hd hl hx) (r0_new rfl (str_flats _) (fz_new hS (str_flats _) k)))
theorem pcT_len {p : Int × Int} (h : 0 ≤ p.1 ∧ p.1 ≤ p.2 ∧ p.2 ≤ 1000000000000) : (pcT p).length ≤ 28 := by
  have h1 := digs_le h.1 (show p.1 ≤ 1000000000000 by omega)
  have h2 := digs_le (show 0 ≤ p.2 by omega) h.2.2
  unfold pcT
  split
  · rw [List.length_append, List.length_append]
    show _ + (2 + _) ≤ 28
    omega
  · omega
theorem pcs_sum (hd : Days row) : (((blocks row).map pcT).map List.length).sum ≤ 28 * row.length := by
  have h := sum_len (b := 28) (zs := (blocks row).map pcT) fun z hz => by
    obtain ⟨p, hp, rfl⟩ := List.mem_map.mp hz
    exact pcT_len (blocks_days hd p hp)
  rw [List.length_map] at h
  have := blocks_len row
  omega
theorem str_run (HS : HasStr P) (HP : HasPc P) (H : Has P) (hd : Days row) (hl : row.length ≤ 1000) : run P (n + 2) 139 [DY row] [] = .val [.str (strT row)] [] := by
  refine rv_eq (run_w (E := fun r => RV r _ noX) HS.f rfl ?_)
  show WS P (run P (n + 1)) c_dstr [some (DY row)] [] _
  have h2 := pcs_sum hd
  have h3 := blocks_len row
  walk_at "go"
  refine ⟨rfl, ?_⟩
  walk_at "go"
  refine ⟨10, _, _, rfl, rfl, H.fd, ?_⟩
  refine pcsW (S := []) HP hd hl (.inl rfl) rfl ?_
  walk_at "go"
  refine m_join (zs := (blocks row).map pcT) rfl (by rw [List.length_map]; show _ + 2 * _ ≤ 16777216; omega) ?_
  walk_at "go"
  exact ⟨rfl, rfl⟩
end
end Vm.DY
namespace Vm
section
variable {P : Pg} {Φ : Nat → List D → Sto → Res} {σ : Sl} {S T : Sto} {K : D → Sto → Prop} {KA : List D → Sto → Prop} {X : KX} {a b o : C}
/-- a new dict, kept -/
def FD (n : Nat) (K : D → Sto → Prop) (d : D) (T : Sto) : Prop := ∃ i kvs, d = .ref i ∧ n ≤ i ∧ (T.take n).all Ob.flat = true ∧ T[i]? = some (.dct kvs) ∧ D.flats (kvs.map (·.1)) = true ∧ D.flats (kvs.map (·.2)) = true ∧ K (.rdc (kvs.map (·.1)) (kvs.map (·.2))) (T.take n)
theorem w_frd (h : WE P Φ a σ S (FD S.length K) (FX S.length X)) : WE P Φ (.frd a) σ S K X := by
  show RV (frdR σ S.length (ev P Φ a [] σ S)) K X
  rcases rv_ex h with ⟨d, S1, e, i, kvs, rfl, h1, h2, h3, h4, h5, q⟩ | ⟨c, fs, σ1, S1, e, h1, fs', h2, q⟩
  · rw [e]
    simp only [frdR]
    rw [if_pos ⟨h1, h2⟩, h3]
    dsimp only
    rw [if_pos (by rw [h4, h5]; rfl)]
    exact q
  · rw [e]
    simp only [frdR]
    rw [if_pos h1, h2]
    exact q
theorem w_wkd (h : WE P Φ a σ S (fun d S => KA [.int 3, d] S) X) : WA P Φ (.wkd a) σ S KA X := ra_b1 h
theorem w_lse {c mi fi : Nat} (h : WE P Φ o σ S (fun x S => ∃ fs ks ds, insOf S x = some (c, fs) ∧ fs.lookup mi = none ∧ P.fd c fi = true ∧ fs.lookup fi = some (.rdc ks ds) ∧ ks.all keyB = true ∧ D.flats ds = true ∧ ks.length = ds.length ∧ K (.ref S.length) (S ++ [.lst (ks.map fun k => .tup [k, (getK (ks.zip ds) k).getD .non])])) X) : WE P Φ (.lse c mi fi o) σ S K X :=
  rv_b1 (RV.imp h fun x S ⟨fs, ks, ds, e1, e2, e3, e4, e5, e6, e7, q⟩ => by
    rw [e1]
    dsimp only
    rw [if_pos ⟨rfl, e2, e3⟩, e4]
    dsimp only
    rw [if_pos ⟨e5, e6, e7⟩]
    exact q)
theorem w_deq {neg : Bool} (h : WE P Φ a σ S (fun x S => WE P Φ b σ S (fun y S => ∃ ks ls, dctOf S x = some ks ∧ dctOf S y = some ls ∧ dTxt ks = true ∧ dTxt ls = true ∧ K (.bl (if neg then !(dEq ks ls) else dEq ks ls)) S) X) X) : WE P Φ (.deq neg a b) σ S K X :=
  rv_b1 (RV.imp h fun x S h => rv_b1 (RV.imp h fun y S ⟨ks, ls, e1, e2, e3, e4, q⟩ => by
    rw [e1, e2]
    dsimp only
    rw [if_pos (by rw [e3, e4]; rfl)]
    exact q))
end
end Vm
namespace Vm
section
variable {Φ : Nat → List D → Sto → Res} {S T : Sto} {i j f : Nat} {σ : Sl}
theorem callL_2 {ds : List D} {o q : Ob} (hi : S[i]? = some o) (hj : S[j]? = some q) (hij : i ≠ j) (ho : o.flat = true) (hq : q.flat = true) (h : D.flats ds = true) : callL σ Φ f (.ref i :: .ref j :: ds) S = finL σ S [i, j] (Φ f (.ref 0 :: .ref 1 :: ds) [o, q]) := by
  have hp := fl_places h
  have hm := fl_lo (rs := [i, j]) h
  have hl : locOk S [i, j] (.ref i :: .ref j :: ds) = true := by
    unfold locOk
    simp only [List.nodup_cons, List.not_mem_nil, not_false_iff, List.nodup_nil, and_self, and_true, List.mem_singleton, hij, decide_true, List.all_cons, hi, hj, ho, hq, List.all_nil, Bool.and_true, Bool.true_and, List.all_eq_true]
    intro d hd
    cases d with
    | ref i => rfl
    | _ => exact fl_mem h hd
  unfold callL
  rw [show placesOf (.ref i :: .ref j :: ds) = [i, j] by rw [placesOf, placesOf, hp], if_pos hl, List.map_cons, List.map_cons, hm]
  have e1 : loD [i, j] (.ref i) = .ref 0 := by simp [loD]
  have e3 : loD [i, j] (.ref j) = .ref 1 := by
    show D.ref ([i, j].idxOf j) = .ref 1
    have e : [i, j].idxOf j = 1 := by
      have h1 : (i == j) = false := beq_eq_false_iff_ne.mpr hij
      rw [List.idxOf_cons, h1, List.idxOf_cons, beq_self_eq_true]; rfl
    rw [e]
  have e2 : pick S [i, j] = [o, q] := by simp [pick, hi, hj]
  rw [e1, e2, e3]
theorem fin2 {d : D} {o q : Ob} (h : d.flat = true) (ho : o.flat = true) (hq : q.flat = true) : finL σ S [i, j] (.val [d] (o :: q :: T)) = .val [d] ((S.set i o).set j q) := by
  have hr : ∀ j, d ≠ .ref j := fun j e => by rw [e] at h; cases h
  unfold finL
  simp only [List.length_cons, List.length_nil, Nat.zero_add, Nat.reduceAdd, List.take_succ_cons, List.take_zero, List.all_cons, ho, hq, List.all_nil, Bool.and_true, if_true]
  cases d with
  | ref j => exact absurd rfl (hr j)
  | _ => simp only [frz_flat 20 h]; rfl
end
end Vm
namespace Vm.RC
open Vm
end Vm.RC
namespace Vm.k02
open Vm Vm.RC Vm.DY
local macro_rules | `(tactic| walk_at "st") => `(tactic| first
  | ((with_reducible refine aE ?_); first | ((with_reducible refine aV ?_); first | with_reducible refine w_var0 ?_ | with_reducible refine w_var1 ?_ | with_reducible refine w_var2 ?_ | with_reducible refine w_var3 ?_ | with_reducible refine w_var4 ?_ | with_reducible refine w_var5 ?_ | with_reducible refine w_var6 ?_ | with_reducible refine w_var7 ?_ | with_reducible refine w_var8 ?_ | with_reducible refine w_var9 ?_ | with_reducible refine w_var10 ?_ | with_reducible refine w_var11 ?_ | with_reducible refine w_var12 ?_ | with_reducible refine w_var13 ?_ | with_reducible refine w_var14 ?_ | with_reducible refine w_var15 ?_ | with_reducible refine w_var16 ?_ | with_reducible refine w_var17 ?_ | with_reducible refine w_var18 ?_ | with_reducible refine w_var19 ?_ | ((with_reducible refine w_var (d := ?_) ?_ ?_); rotate_left; exact rfl)) | with_reducible refine w_kon ?_ | with_reducible refine w_cal ?_ | with_reducible refine w_frz ?_ | with_reducible refine w_cmp ?_ | with_reducible refine w_bin ?_ | with_reducible refine w_notv ?_ | with_reducible refine w_andB ?_ | with_reducible refine w_orB ?_ | with_reducible refine w_ite ?_ | with_reducible refine w_att ?_ | with_reducible refine w_idx ?_ | with_reducible refine w_slc ?_ | with_reducible refine w_blt ?_ | with_reducible refine w_btm ?_ | with_reducible refine w_tup ?_ | with_reducible refine w_lst ?_ | with_reducible refine w_mth ?_ | with_reducible refine w_own ?_ | with_reducible refine w_calk ?_ | with_reducible refine w_mthk ?_ | with_reducible refine w_chn ?_ | with_reducible refine w_newv ?_ | with_reducible refine w_newk ?_ | with_reducible refine w_newc ?_ | with_reducible refine w_iso ?_ | with_reducible refine w_isb ?_ | with_reducible refine w_prp ?_ | with_reducible refine w_part ?_ | with_reducible refine w_neg ?_ | with_reducible refine w_setv ?_ | with_reducible refine w_lsg ?_ | with_reducible refine w_stp ?_ | with_reducible refine w_tos ?_ | with_reducible refine w_fst ?_ | with_reducible refine w_sin ?_ | with_reducible refine w_frd ?_ | with_reducible refine w_lse ?_ | with_reducible refine w_deq ?_ | ((with_reducible refine w_gl (d := ?_) ?_ ?_); rotate_left; exact rfl))
  | ((with_reducible refine aA ?_); first | with_reducible refine w_anil ?_ | with_reducible refine w_acons ?_ | with_reducible refine w_wkp ?_ | with_reducible refine w_wkd ?_ | with_reducible refine w_asp ?_ | with_reducible refine w_enu ?_ | with_reducible refine w_zip2 ?_ | with_reducible refine w_rng1 ?_ | with_reducible refine w_rng2 ?_)
  | ((with_reducible refine aG ?_); first | ((with_reducible refine aN ?_); first | with_reducible refine g_gn0 ?_ | with_reducible refine g_gn1 ?_ | with_reducible refine g_gn2 ?_ | with_reducible refine g_gn3 ?_ | with_reducible refine g_gn4 ?_ | with_reducible refine g_gn5 ?_ | with_reducible refine g_gn6 ?_ | with_reducible refine g_gn7 ?_ | with_reducible refine g_gn8 ?_ | with_reducible refine g_gn9 ?_ | with_reducible refine g_gn10 ?_ | with_reducible refine g_gn11 ?_ | with_reducible refine g_gn12 ?_ | with_reducible refine g_gn13 ?_ | with_reducible refine g_gn14 ?_ | with_reducible refine g_gn15 ?_ | with_reducible refine g_gn16 ?_ | with_reducible refine g_gn17 ?_ | with_reducible refine g_gn18 ?_ | with_reducible refine g_gn19 ?_ | ((with_reducible refine g_gn (σ' := ?_) ?_ ?_); rotate_left; exact rfl; try dsimp only [List.set_cons_zero, List.set_cons_succ])) | with_reducible refine g_gt ?_ | with_reducible refine g_gtl ?_ | with_reducible refine g_gnil ?_ | with_reducible refine g_gcons ?_ | with_reducible refine g_ga ?_ | with_reducible refine g_gi ?_ | with_reducible refine g_gd ?_)
  | ((with_reducible refine aS ?_); first | with_reducible refine s_seqW ?_ | with_reducible refine s_asgW ?_ | with_reducible refine s_retW ?_ | with_reducible refine s_iffW ?_ | with_reducible refine s_expW ?_ | with_reducible refine s_nopW ?_ | with_reducible refine s_retnW ?_ | with_reducible refine s_brkW ?_ | with_reducible refine s_cntW ?_ | with_reducible refine s_rseW ?_ | with_reducible refine s_tryW ?_ | with_reducible refine s_augA0 ?_ | with_reducible refine s_augA1 ?_ | with_reducible refine s_augA2 ?_ | with_reducible refine s_augA3 ?_ | with_reducible refine s_augA4 ?_ | with_reducible refine s_augA5 ?_ | with_reducible refine s_augA6 ?_ | with_reducible refine s_augA7 ?_ | with_reducible refine s_augA8 ?_ | with_reducible refine s_augA9 ?_ | with_reducible refine s_augA10 ?_ | with_reducible refine s_augA11 ?_ | ((with_reducible refine s_augW (z := ?_) ?_ ?_); rotate_left; exact rfl))
  | ((with_reducible refine aR ?_); first | with_reducible refine fin_rtW ?_ | with_reducible refine fin_nxW ?_ | with_reducible refine fin_excW ?_ | with_reducible refine r_add ?_ | with_reducible refine r_sub ?_ | with_reducible refine b_lenr ?_ | with_reducible refine b_lent ?_ | with_reducible refine b_lenc ?_ | with_reducible refine b_lens ?_ | with_reducible refine b_tupr ?_ | with_reducible refine b_tupt ?_ | with_reducible refine b_lstr ?_ | with_reducible refine b_lstt ?_ | with_reducible refine b_int ?_ | with_reducible refine b_intb ?_ | with_reducible refine b_bool ?_ | with_reducible refine b_abs ?_ | with_reducible refine b_max ?_ | with_reducible refine b_min ?_)
  | ((with_reducible refine aT ?_); first | with_reducible refine tt_true ?_ | with_reducible refine tt_false ?_ | with_reducible refine tt_ntrue ?_ | with_reducible refine tt_nfalse ?_ | with_reducible refine tt_dec (fun hc => ?_) (fun hc => ?_) | with_reducible refine tt_ndec (fun hc => ?_) (fun hc => ?_))
  | ((with_reducible refine aB ?_); first | with_reducible refine tb_true ?_ | with_reducible refine tb_false ?_ | with_reducible refine tb_ntrue ?_ | with_reducible refine tb_nfalse ?_ | with_reducible refine tb_dec (fun hc => ?_) (fun hc => ?_) | with_reducible refine tb_ndec (fun hc => ?_) (fun hc => ?_))
  | ((with_reducible refine aX ?_); first | with_reducible refine nx_nx ?_ | with_reducible refine nx_rt ?_ | with_reducible refine nx_exc ?_ | with_reducible refine nx_bk ?_ | with_reducible refine nx_ct ?_)
  | ((with_reducible refine aU ?_); first | with_reducible refine turn_nx ?_ | with_reducible refine turn_ct ?_ | with_reducible refine turn_bk ?_ | with_reducible refine turn_rt ?_ | with_reducible refine turn_exc ?_)
  | ((with_reducible refine aY ?_); first | with_reducible refine try_nx ?_ | with_reducible refine try_rt ?_)
  | ((with_reducible refine aW ?_); first | with_reducible refine w1_nx ?_ | with_reducible refine w1_rt ?_ | with_reducible refine w1_ct ?_ | with_reducible refine w1_bk ?_)
  | with_reducible refine c_lt ?_
  | with_reducible refine c_le ?_
  | with_reducible refine c_gt ?_
  | with_reducible refine c_ge ?_
  | with_reducible refine c_eqi ?_
  | with_reducible refine c_nei ?_
  | with_reducible refine n_bl ?_
  | with_reducible refine x_int ?_
  | with_reducible refine cj_dec (fun hc => ?_) (fun hc => ?_))
local macro_rules | `(tactic| walk_at "go") => `(tactic| repeat walk_at "st")
theorem hasR : RC.Has pg := ⟨⟨_, _, _, by decide, by decide, by decide, by decide, by decide, by decide, rfl⟩, ⟨_, _, _, by decide, by decide, by decide, by decide, by decide, by decide, rfl⟩, rfl⟩
theorem hasD : DY.Has pg := ⟨rfl, rfl, rfl, rfl, rfl, rfl, rfl, rfl, rfl⟩
theorem hasM : DY.HasM pg := ⟨rfl, rfl⟩
theorem hasP : DY.HasP pg := ⟨rfl⟩
theorem hasF : DY.HasF pg := ⟨rfl⟩
theorem hasQ : DY.HasQ pg := ⟨rfl⟩
theorem hasPc : DY.HasPc pg := ⟨rfl, rfl⟩
theorem hasStr : DY.HasStr pg := ⟨rfl⟩
theorem w_tou {P : Pg} {Φ : Nat → List D → Sto → Res} {σ : Sl} {S : Sto} {K : D → Sto → Prop} {X : KX} {a : C} (h : WE P Φ a σ S (fun x S => ∃ ns : List Int, S.lv x = some (ns.map D.int) ∧ ns.length ≤ 1000 ∧ (∀ i ∈ ns, i.natAbs < 18446744073709551616) ∧ K .unk S) X) : WE P Φ (.tou a) σ S K X := rv_b1 (RV.imp h fun x S ⟨ns, e, hl, hb, q⟩ => by
  show RV (match (S.lv x).bind intsOf with
    | some ns => if ns.length ≤ 1000 ∧ ns.all (fun i => decide (i.natAbs < 18446744073709551616)) = true then .val [.unk] S else .bad
    | none => .bad) K X
  rw [e]
  simp only [Option.bind_some, ints_of_map]
  rw [if_pos ⟨hl, List.all_eq_true.mpr fun i hi => decide_eq_true (hb i hi)⟩]
  exact q)
section
variable {n : Nat} {o : Ob}
theorem day_run (ho : Bag o) : Dr (run pg (n + 2) 96 [.ref 0] [o]) fun d => ∃ i : Int, d = .int i ∧ 0 ≤ i ∧ i ≤ 1000000000000 := by
  refine run_w (E := fun r => RV r _ noX) (F := f__law_day) rfl rfl ?_
  show WS pg (run pg (n + 1)) c__law_day [some (.ref 0), none] [o] _
  walk_at "go"
  refine take0 (T := []) hasR ho (by decide) (by decide) fun k1 o1 h1 ho1 => ?_
  walk_at "go"
  · refine take0 (T := []) hasR ho1 (by decide) (by decide) fun k2 o2 h2 ho2 => ?_
    walk_at "go"
    exact ⟨o2, [], rfl, ho2, rfl, _, rfl, by omega, by omega⟩
  · walk_at "go"
    · refine r_pow (by decide) rfl ?_
      walk_at "go"
      refine take0 (T := []) hasR ho1 (by decide) (by decide) fun k2 o2 h2 ho2 => ?_
      walk_at "go"
      refine ⟨o2, [], rfl, ho2, rfl, _, rfl, ?_, ?_⟩
      · show 0 ≤ (1000000000000 : Int) - k2
        omega
      · show (1000000000000 : Int) - k2 ≤ 1000000000000
        omega
    · walk_at "go"
      · refine take0 (T := []) hasR ho1 (by decide) (by decide) fun k2 o2 h2 ho2 => ?_
        walk_at "go"
        exact ⟨o2, [], rfl, ho2, rfl, _, rfl, by omega, by omega⟩
      · walk_at "go"
        refine r_pow (by decide) rfl ?_
        walk_at "go"
        refine take0 (T := []) hasR ho1 (by decide) (by decide) fun k2 o2 h2 ho2 => ?_
        walk_at "go"
        refine r_pow (by decide) rfl ?_
        refine r_mul (RB.mul_ok (.inr (by decide))) ?_
        walk_at "go"
        refine r_pow (by decide) rfl ?_
        walk_at "go"
        refine take0 (T := []) hasR ho2 (by decide) (by decide) fun k3 o3 h3 ho3 => ?_
        walk_at "go"
        have h2 : (k2 : Int) < 1000000 := h2
        have h3 : (k3 : Int) < 1000000 := h3
        refine ⟨o3, [], rfl, ho3, rfl, _, rfl, ?_, ?_⟩
        · show 0 ≤ (k2 : Int) * 1000000 + k3
          omega
        · show (k2 : Int) * 1000000 + k3 ≤ 1000000000000
          omega
/-- drawing a list: a new cell behind the bag -/
def DrL (r : Res) (Q : List Int → Prop) : Prop := RV r (fun d U => ∃ o' row V, U = o' :: .lst (row.map D.int) :: V ∧ Bag o' ∧ d = .ref 1 ∧ Q row) noX
theorem drL {Φ : Nat → List D → Sto → Res} {S : Sto} {i f : Nat} {Q : List Int → Prop} {σ : Sl} {K : D → Sto → Prop} {X : KX} (h : BagAt S i) (hr : ∀ o, Bag o → DrL (Φ f [.ref 0] [o]) Q) (k : ∀ row S', Q row → BagAt S' i → S'.length = S.length → K (.rol (row.map D.int)) S') : RV (callL σ Φ f [.ref i] S) (FZ S.length K) (FX S.length X) := by
  obtain ⟨h1, o, h2, h3⟩ := h
  refine rc1 h2 h3.flat rfl (RV.imp2 (hr o h3) (fun d U ⟨o', row, V, e, hb, e2, q⟩ => ?_) fun _ _ _ h => h.elim)
  subst e e2
  have e : (S.set i o').length = S.length := List.length_set
  have hb2 : BagAt (S.set i o') i := BagAt.set ⟨h1, o, h2, h3⟩ hb
  refine ⟨o', .lst (row.map D.int) :: V, rfl, hb.flat, .inr (.inr (.inl ⟨0, .lst (row.map D.int), rfl, rfl, fl_ints _, ?_⟩))⟩
  have := k row _ q hb2 e
  rw [← e]
  exact fz_new hb2.1 (fl_ints _) this
theorem of2 {Φ : Nat → List D → Sto → Res} (hΦ : Φ = run pg (n + 2)) (ho : Bag o) {row : List Int} (h0 : row ≠ []) (hl : row.length < 1000000) {σ : Sl} {K : D → Sto → Prop} {X : KX} (k : ∀ i o', i ∈ row → Bag o' → K (.int i) [o', .lst (row.map D.int)]) : RV (callL σ Φ 4 [.ref 0, .ref 1] [o, .lst (row.map D.int)]) K X := by
  subst hΦ
  rw [callL_2 (S := [o, .lst (row.map D.int)]) (i := 0) (j := 1) rfl rfl (by decide) ho.flat (fl_ints _) rfl]
  have hp := List.length_pos_iff.mpr h0
  have h : RV (run pg (n + 2) 4 [.ref 0, .ref 1] [o, .lst (row.map D.int)]) (fun d U => ∃ i o', d = .int i ∧ U = [o', .lst (row.map D.int)] ∧ i ∈ row ∧ Bag o') noX := by
    refine run_w (E := fun r => RV r _ noX) (F := f__law_of) rfl rfl ?_
    show WS pg (run pg (n + 1)) c__law_of [some (.ref 0), some (.ref 1)] [o, .lst (row.map D.int)] _
    walk_at "go"
    refine b_lenl rfl ?_
    refine take0 (T := [.lst (row.map D.int)]) hasR ho (by rw [List.length_map]; omega) (by rw [List.length_map]; omega) fun k o1 h1 ho1 => ?_
    rw [List.length_map] at h1
    have hk : k < row.length := by omega
    refine ⟨.int row[k], ?_, ?_⟩
    · show L2.atI (row.map D.int) (k : Int) = _
      rw [atI_nat (by rw [List.length_map]; exact hk)]
      simp
    walk_at "go"
    exact ⟨_, _, rfl, rfl, List.getElem_mem _, ho1⟩
  rcases rv_ex h with ⟨d, U, e, i, o', rfl, rfl, h1, h2⟩ | ⟨_, _, _, _, _, z⟩
  · rw [e, fin2 (d := .int i) (o := o') (q := .lst (row.map D.int)) rfl h2.flat (fl_ints _)]
    exact k i o' h1 h2
  · exact z.elim
abbrev T12 : Int := 1000000000000
theorem some_run (ho : Bag o) : DrL (run pg (n + 3) 135 [.ref 0] [o]) fun row => row.length ≤ 6 ∧ Days row := by
  refine run_w (E := fun r => RV r _ noX) (F := f__law_some) rfl rfl ?_
  show WS pg (run pg (n + 2)) c__law_some [some (.ref 0), none, none, none] [o] _
  obtain ⟨Φ, hΦ⟩ : ∃ Φ, Φ = run pg (n + 2) := ⟨_, rfl⟩
  rw [← hΦ]
  have tk : ∀ {T : Sto} {σ : Sl} {K : D → Sto → Prop} {X : KX} {o : Ob} {m : Int}, Bag o → 0 < m → m < 1000000000000000000 → (∀ (d : Nat) o', (d : Int) < m → Bag o' → K (.int d) (o' :: T)) → RV (callL σ Φ 59 [.ref 0, .int m] (o :: T)) K X := fun ho h1 h2 k => by
    subst hΦ
    exact take0 hasR ho h1 h2 k
  have tday : ∀ {o : Ob}, Bag o → Dr (Φ 96 [.ref 0] [o]) fun d => ∃ i : Int, d = .int i ∧ 0 ≤ i ∧ i ≤ 1000000000000 := fun ho => by
    subst hΦ
    exact day_run ho
  walk_at "go"
  refine ⟨Nat.zero_le _, ?_⟩
  walk_at "go"
  with_reducible refine s_forW (raws := []) (fun post σ S => ∃ (row : List Int) (o' : Ob) (x2 x3 : Option D), row.length + post.length ≤ 6 ∧ Days row ∧ Bag o' ∧ σ = [some (.ref 0), some (.ref 1), x2, x3] ∧ S = [o', .lst (row.map D.int)]) ?_ ?_ ?_
  · walk_at "go"
    refine tk (T := [.lst []]) ho (by decide) (by decide) fun k o1 hk ho1 => ?_
    walk_at "go"
    refine ⟨by rw [inR, decide_eq_true (by omega), decide_eq_true (by omega)]; rfl, _, _, rfl, ⟨[], o1, _, _, ?_, (by intro i hi; cases hi), ho1, rfl, rfl⟩, by rintro post σ S ⟨_, _, _, _, _, _, _, _, rfl⟩; rfl⟩
    rw [rangeD, List.length_map, List.length_range]
    show 0 + _ ≤ 6
    omega
  · rintro p post σ S ⟨row, o1, x2, x3, h1, h2, ho1, rfl, rfl⟩
    rw [List.length_cons] at h1
    have fin : ∀ {E : Res → Prop} {o' : Ob} {i : Int} {x2 : Option D}, E (.nx [some (.ref 0), some (.ref 1), x2, some (.int i)] [o', .lst ((row ++ [i]).map D.int)]) → WS pg Φ s__law_some_1_2 [some (.ref 0), some (.ref 1), x2, some (.int i)] [o', .lst (row.map D.int)] E := fun {E o' i x2} hE => by
      walk_at "go"
      refine ⟨rfl, ?_⟩
      walk_at "go"
      refine m_app rfl (by rw [List.length_map]; show row.length < 16777216; omega) ?_
      walk_at "go"
      rw [List.map_append] at hE
      exact hE
    have next : ∀ {o' : Ob} {i : Int} {x2 : Option D}, Bag o' → 0 ≤ i → i ≤ T12 → ∃ (row1 : List Int) (o1 : Ob) (y2 y3 : Option D), row1.length + post.length ≤ 6 ∧ Days row1 ∧ Bag o1 ∧ [some (.ref 0), some (.ref 1), x2, some (.int i)] = [some (.ref 0), some (.ref 1), y2, y3] ∧ [o', .lst ((row ++ [i]).map D.int)] = [o1, .lst (row1.map D.int)] := fun {o' i x2} ho' i0 i1 => by
      refine ⟨row ++ [i], o', _, _, by rw [List.length_append]; show row.length + 1 + _ ≤ 6; omega, fun j hj => ?_, ho', rfl, rfl⟩
      rcases List.mem_append.mp hj with hj | hj
      · exact h2 j hj
      · rw [List.mem_singleton.mp hj]; exact ⟨i0, i1⟩
    walk_at "st"
    walk_at "st"
    walk_at "go"
    refine dr0 (T := [.lst (row.map D.int)]) ho1 rfl (tday ho1) fun d o2 hd hf ho2 => ?_
    obtain ⟨i, rfl, i0, i1⟩ := hd
    walk_at "go"
    refine ⟨Nat.zero_le _, ?_⟩
    refine fz_new (S := [o2, .lst (row.map D.int)]) (all_cons ho2.flat (all_cons (fl_ints _) rfl)) rfl ?_
    refine c_ne (eqD_lvZ (b := []) rfl rfl) ?_
    refine tb_ndec (fun hne => ?_) (fun hne => ?_)
    · walk_at "go"
      refine tk (T := [.lst (row.map D.int)]) ho2 (by decide) (by decide) fun k o3 hk ho3 => ?_
      walk_at "st"
      refine c_eqi ?_
      refine tt_dec (fun hz => ?_) (fun hz => ?_)
      · walk_at "go"
        refine r_pow (k := 1000000000000) (by decide) rfl ?_
        walk_at "go"
        refine of2 hΦ ho3 hne (by omega) fun j o4 hj ho4 => ?_
        walk_at "go"
        refine tk (T := [.lst (row.map D.int)]) ho4 (by decide) (by decide) fun e o5 he ho5 => ?_
        iterate 5 walk_at "st"
        have := h2 j hj
        refine fin ?_
        refine turn_nx (next ho5 ?_ ?_)
        · split <;> omega
        · show _ ≤ (1000000000000 : Int)
          split <;> omega
      · walk_at "st"
        walk_at "st"
        exact fin (turn_nx (next ho3 i0 i1))
    · walk_at "st"
      walk_at "st"
      walk_at "st"
      exact fin (turn_nx (next ho2 i0 i1))
  · rintro σ S ⟨row, o1, x2, x3, h1, h2, ho1, rfl, rfl⟩
    walk_at "go"
    exact ⟨o1, row, [], rfl, ho1, rfl, by simpa using h1, h2⟩
end
end Vm.k02
namespace Vm.k02
open Vm Vm.RC Vm.DY
local macro_rules | `(tactic| walk_at "st") => `(tactic| first
  | ((with_reducible refine aE ?_); first | ((with_reducible refine aV ?_); first | with_reducible refine w_var0 ?_ | with_reducible refine w_var1 ?_ | with_reducible refine w_var2 ?_ | with_reducible refine w_var3 ?_ | with_reducible refine w_var4 ?_ | with_reducible refine w_var5 ?_ | with_reducible refine w_var6 ?_ | with_reducible refine w_var7 ?_ | with_reducible refine w_var8 ?_ | with_reducible refine w_var9 ?_ | with_reducible refine w_var10 ?_ | with_reducible refine w_var11 ?_ | with_reducible refine w_var12 ?_ | with_reducible refine w_var13 ?_ | with_reducible refine w_var14 ?_ | with_reducible refine w_var15 ?_ | with_reducible refine w_var16 ?_ | with_reducible refine w_var17 ?_ | with_reducible refine w_var18 ?_ | with_reducible refine w_var19 ?_ | ((with_reducible refine w_var (d := ?_) ?_ ?_); rotate_left; exact rfl)) | with_reducible refine w_kon ?_ | with_reducible refine w_cal ?_ | with_reducible refine w_frz ?_ | with_reducible refine w_cmp ?_ | with_reducible refine w_bin ?_ | with_reducible refine w_notv ?_ | with_reducible refine w_andB ?_ | with_reducible refine w_orB ?_ | with_reducible refine w_ite ?_ | with_reducible refine w_att ?_ | with_reducible refine w_idx ?_ | with_reducible refine w_slc ?_ | with_reducible refine w_blt ?_ | with_reducible refine w_btm ?_ | with_reducible refine w_tup ?_ | with_reducible refine w_lst ?_ | with_reducible refine w_mth ?_ | with_reducible refine w_own ?_ | with_reducible refine w_calk ?_ | with_reducible refine w_mthk ?_ | with_reducible refine w_chn ?_ | with_reducible refine w_newv ?_ | with_reducible refine w_newk ?_ | with_reducible refine w_newc ?_ | with_reducible refine w_iso ?_ | with_reducible refine w_isb ?_ | with_reducible refine w_prp ?_ | with_reducible refine w_part ?_ | with_reducible refine w_neg ?_ | with_reducible refine w_setv ?_ | with_reducible refine w_lsg ?_ | with_reducible refine w_stp ?_ | with_reducible refine w_tos ?_ | with_reducible refine w_fst ?_ | with_reducible refine w_sin ?_ | with_reducible refine w_frd ?_ | with_reducible refine w_lse ?_ | with_reducible refine w_deq ?_ | ((with_reducible refine w_gl (d := ?_) ?_ ?_); rotate_left; exact rfl))
  | ((with_reducible refine aA ?_); first | with_reducible refine w_anil ?_ | with_reducible refine w_acons ?_ | with_reducible refine w_wkp ?_ | with_reducible refine w_wkd ?_ | with_reducible refine w_asp ?_ | with_reducible refine w_enu ?_ | with_reducible refine w_zip2 ?_ | with_reducible refine w_rng1 ?_ | with_reducible refine w_rng2 ?_)
  | ((with_reducible refine aG ?_); first | ((with_reducible refine aN ?_); first | with_reducible refine g_gn0 ?_ | with_reducible refine g_gn1 ?_ | with_reducible refine g_gn2 ?_ | with_reducible refine g_gn3 ?_ | with_reducible refine g_gn4 ?_ | with_reducible refine g_gn5 ?_ | with_reducible refine g_gn6 ?_ | with_reducible refine g_gn7 ?_ | with_reducible refine g_gn8 ?_ | with_reducible refine g_gn9 ?_ | with_reducible refine g_gn10 ?_ | with_reducible refine g_gn11 ?_ | with_reducible refine g_gn12 ?_ | with_reducible refine g_gn13 ?_ | with_reducible refine g_gn14 ?_ | with_reducible refine g_gn15 ?_ | with_reducible refine g_gn16 ?_ | with_reducible refine g_gn17 ?_ | with_reducible refine g_gn18 ?_ | with_reducible refine g_gn19 ?_ | ((with_reducible refine g_gn (σ' := ?_) ?_ ?_); rotate_left; exact rfl; try dsimp only [List.set_cons_zero, List.set_cons_succ])) | with_reducible refine g_gt ?_ | with_reducible refine g_gtl ?_ | with_reducible refine g_gnil ?_ | with_reducible refine g_gcons ?_ | with_reducible refine g_ga ?_ | with_reducible refine g_gi ?_ | with_reducible refine g_gd ?_)
  | ((with_reducible refine aS ?_); first | with_reducible refine s_seqW ?_ | with_reducible refine s_asgW ?_ | with_reducible refine s_retW ?_ | with_reducible refine s_iffW ?_ | with_reducible refine s_expW ?_ | with_reducible refine s_nopW ?_ | with_reducible refine s_retnW ?_ | with_reducible refine s_brkW ?_ | with_reducible refine s_cntW ?_ | with_reducible refine s_rseW ?_ | with_reducible refine s_tryW ?_ | with_reducible refine s_augA0 ?_ | with_reducible refine s_augA1 ?_ | with_reducible refine s_augA2 ?_ | with_reducible refine s_augA3 ?_ | with_reducible refine s_augA4 ?_ | with_reducible refine s_augA5 ?_ | with_reducible refine s_augA6 ?_ | with_reducible refine s_augA7 ?_ | with_reducible refine s_augA8 ?_ | with_reducible refine s_augA9 ?_ | with_reducible refine s_augA10 ?_ | with_reducible refine s_augA11 ?_ | ((with_reducible refine s_augW (z := ?_) ?_ ?_); rotate_left; exact rfl))
  | ((with_reducible refine aR ?_); first | with_reducible refine fin_rtW ?_ | with_reducible refine fin_nxW ?_ | with_reducible refine fin_excW ?_ | with_reducible refine r_add ?_ | with_reducible refine r_sub ?_ | with_reducible refine b_lenr ?_ | with_reducible refine b_lent ?_ | with_reducible refine b_lenc ?_ | with_reducible refine b_lens ?_ | with_reducible refine b_tupr ?_ | with_reducible refine b_tupt ?_ | with_reducible refine b_lstr ?_ | with_reducible refine b_lstt ?_ | with_reducible refine b_int ?_ | with_reducible refine b_intb ?_ | with_reducible refine b_bool ?_ | with_reducible refine b_abs ?_ | with_reducible refine b_max ?_ | with_reducible refine b_min ?_)
  | ((with_reducible refine aT ?_); first | with_reducible refine tt_true ?_ | with_reducible refine tt_false ?_ | with_reducible refine tt_ntrue ?_ | with_reducible refine tt_nfalse ?_ | with_reducible refine tt_dec (fun hc => ?_) (fun hc => ?_) | with_reducible refine tt_ndec (fun hc => ?_) (fun hc => ?_))
  | ((with_reducible refine aB ?_); first | with_reducible refine tb_true ?_ | with_reducible refine tb_false ?_ | with_reducible refine tb_ntrue ?_ | with_reducible refine tb_nfalse ?_ | with_reducible refine tb_dec (fun hc => ?_) (fun hc => ?_) | with_reducible refine tb_ndec (fun hc => ?_) (fun hc => ?_))
  | ((with_reducible refine aX ?_); first | with_reducible refine nx_nx ?_ | with_reducible refine nx_rt ?_ | with_reducible refine nx_exc ?_ | with_reducible refine nx_bk ?_ | with_reducible refine nx_ct ?_)
  | ((with_reducible refine aU ?_); first | with_reducible refine turn_nx ?_ | with_reducible refine turn_ct ?_ | with_reducible refine turn_bk ?_ | with_reducible refine turn_rt ?_ | with_reducible refine turn_exc ?_)
  | ((with_reducible refine aY ?_); first | with_reducible refine try_nx ?_ | with_reducible refine try_rt ?_)
  | ((with_reducible refine aW ?_); first | with_reducible refine w1_nx ?_ | with_reducible refine w1_rt ?_ | with_reducible refine w1_ct ?_ | with_reducible refine w1_bk ?_)
  | with_reducible refine c_lt ?_
  | with_reducible refine c_le ?_
  | with_reducible refine c_gt ?_
  | with_reducible refine c_ge ?_
  | with_reducible refine c_eqi ?_
  | with_reducible refine c_nei ?_
  | with_reducible refine n_bl ?_
  | with_reducible refine x_int ?_
  | with_reducible refine cj_dec (fun hc => ?_) (fun hc => ?_))
local macro_rules | `(tactic| walk_at "go") => `(tactic| repeat walk_at "st")
section
variable {n : Nat} {o : Ob} {row : List Int}
theorem listed_run : run pg (n + 1) 105 [DY row] [] = .val [.ref 0] [.lst (row.map D.int)] := by
  have h : RV (run pg (n + 1) 105 [DY row] []) (fun d U => d = .ref 0 ∧ U = [.lst (row.map D.int)]) noX := by
    refine run_w (E := fun r => RV r _ noX) (F := f_Days_listed) rfl rfl ?_
    show WS pg (run pg n) c_Days_listed [some (DY row)] [] _
    walk_at "go"
    refine ⟨10, _, _, rfl, rfl, rfl, ?_⟩
    walk_at "go"
    exact ⟨rfl, rfl⟩
  rcases rv_ex h with ⟨d, U, e, rfl, rfl⟩ | ⟨_, _, _, _, _, z⟩
  · exact e
  · exact z.elim
theorem is_list_ws {Φ : Nat → List D → Sto → Res} {x : D} {S : Sto} (hx : S.lv x = some (row.map D.int)) (hS : S.all Ob.flat = true) (hl : row.length ≤ 1000) (hi : isTy S x .list = some true) (hn : insOf S x = none) (hw : walk S [x] = some ([row.map D.int], row.map D.int)) (hst : stillW [x] [row.map D.int] S = true) : WS pg Φ c__law_is_list [some x, some (.rol (row.map D.int)), none] S fun r => RV (fin r) (fun d U => d = .bl true ∧ U = S) noX := by
  walk_at "go"
  refine ⟨true, by rw [hn]; exact hi, ?_⟩
  walk_at "go"
  refine c_ne (eqD_lvZ (a := row) (b := row) hx rfl) ?_
  rw [decide_eq_true rfl]
  walk_at "go"
  refine w_lcF (α := Int) (xs := row) (dx := D.int) (fun i => [.bl true]) ?_
  walk_at "go"
  refine ⟨⟨_, hw, hst⟩, fun i hi => ?_, ?_, ?_⟩
  · unfold TurnK
    walk_at "go"
    refine ⟨true, rfl, ?_⟩
    walk_at "go"
    refine ⟨false, rfl, ?_⟩
    walk_at "go"
    exact ⟨rfl, rfl⟩
  · rw [← List.map_eq_flatMap, List.length_map]; show _ ≤ 16777216; omega
  rw [← List.map_eq_flatMap, show row.map (fun _ => D.bl true) = (row.map fun _ => true).map D.bl by rw [List.map_map]; rfl]
  refine fz_new hS (fl_of fun x hx => by obtain ⟨z, _, rfl⟩ := List.mem_map.mp hx; rfl) ?_
  walk_at "go"
  refine b_allr ?_
  walk_at "go"
  refine ⟨?_, rfl⟩
  congr 1
  rw [List.all_eq_true]
  intro b hb
  obtain ⟨i, _, rfl⟩ := List.mem_map.mp hb
  rfl
theorem is_list0 (hl : row.length ≤ 1000) : run pg (n + 1) 137 [.rol (row.map D.int), .rol (row.map D.int)] [] = .val [.bl true] [] := by
  refine rv_eq (run_w (E := fun r => RV r _ noX) (F := f__law_is_list) rfl rfl ?_)
  exact is_list_ws rfl rfl hl rfl rfl rfl rfl
theorem is_list1 (hl : row.length ≤ 1000) : RV (run pg (n + 1) 137 [.ref 0, .rol (row.map D.int)] [.lst (row.map D.int)]) (fun d U => d = .bl true ∧ U = [.lst (row.map D.int)]) noX := by
  refine run_w (E := fun r => RV r _ noX) (F := f__law_is_list) rfl rfl ?_
  exact is_list_ws rfl (by show (D.flats _ && true) = true; rw [fl_ints]; rfl) hl rfl rfl rfl (by simp [stillW, still_lst])
theorem from_run {x : Int} (hl : row.length ≤ 1000) : run pg (n + 1) 138 [.rol (row.map D.int), .int x] [] = .val [fromF row x] [] := by
  refine rv_eq (run_w (E := fun r => RV r _ noX) (F := f__law_from) rfl rfl ?_)
  show WS pg (run pg n) c__law_from [some (.rol (row.map D.int)), some (.int x), none, none] [] _
  walk_at "go"
  refine w_lcF (α := Int) (xs := row) (dx := D.int) (fun i => if decide (x ≤ i) then [.int i] else []) ?_
  walk_at "go"
  have e : (row.flatMap fun i => if decide (x ≤ i) then [D.int i] else []) = (row.filter fun i => decide (x ≤ i)).map D.int := by
    clear hl
    induction row with
    | nil => rfl
    | cons y r ih =>
      rw [List.flatMap_cons, ih, List.filter_cons]
      cases decide (x ≤ y) <;> rfl
  refine ⟨⟨_, rfl, rfl⟩, fun i hi => ?_, ?_, ?_⟩
  · unfold TurnK
    walk_at "go"
    · rename_i hc
      exact ⟨by rw [decide_eq_true hc]; rfl, rfl⟩
    · rename_i hc
      exact ⟨by rw [decide_eq_false hc]; rfl, rfl⟩
  · rw [e, List.length_map]
    have := List.length_filter_le (fun i => decide (x ≤ i)) row
    show _ ≤ 16777216
    omega
  rw [e]
  refine fz_new (S := []) rfl (fl_ints _) ?_
  walk_at "go"
  refine ⟨Nat.zero_le _, ?_⟩
  refine fz_new (S := []) rfl rfl ?_
  refine c_ne (eqD_rolZ (b := [])) ?_
  have hf : fromF row x = match row.filter fun i => decide (x ≤ i) with
    | [] => .non
    | y :: _ => .int y := by
    unfold fromF
    rw [← List.head?_filter]
    cases row.filter fun i => decide (x ≤ i) <;> rfl
  rw [hf]
  cases row.filter fun i => decide (x ≤ i) with
  | nil =>
    rw [decide_eq_true rfl]
    walk_at "go"
    exact ⟨rfl, rfl⟩
  | cons y r =>
    rw [decide_eq_false (by exact fun z => nomatch z)]
    walk_at "go"
    refine ⟨_, first_at, ?_⟩
    walk_at "go"
    exact ⟨rfl, rfl⟩
theorem norm_len6 (hl : row.length ≤ 6) : (norm row).length ≤ 6 := by
  have : (norm row).length ≤ row.length := by rw [norm, (isortI_perm _).length_eq]; exact dedZ_len row
  omega
theorem made_run (hd : Days row) (hl : row.length ≤ 6) : run pg (n + 4) 19 [.rol (row.map D.int)] [] = .val [DY (norm row)] [] := by
  refine rv_eq (run_w (E := fun r => RV r _ noX) (F := f__law_made) rfl rfl ?_)
  show WS pg (run pg (n + 3)) c__law_made [some (.rol (row.map D.int))] [] _
  match row, hd, hl with
  | [], hd, hl =>
    walk_at "go"
    case' refine_2 => rename_i hc; exact absurd rfl hc
    rename_i hc; clear hc
    walk_at "go"
    refine ⟨rfl, ?_⟩
    walk_at "go"
    refine ⟨Nat.zero_le _, by show 0 ≤ 16777216; omega, ?_⟩
    refine newZ (ns := []) hasD hd (by show 0 ≤ 400; omega) rfl ?_
    walk_at "go"
    exact ⟨rfl, rfl⟩
  | [a], hd, hl =>
    walk_at "go"
    · rename_i hc; exact absurd hc (by show ¬ (((1 : Nat) : Int) = 0); decide)
    rename_i hc; clear hc
    walk_at "go"
    case' refine_2 => rename_i hc; exact absurd rfl hc
    rename_i hc; clear hc
    walk_at "go"
    refine ⟨rfl, ?_⟩
    walk_at "go"
    refine ⟨_, rfl, ?_⟩
    walk_at "go"
    refine ⟨Nat.zero_le _, by show 1 ≤ 16777216; omega, ?_⟩
    refine newZ (ns := [a]) hasD hd (by show 1 ≤ 400; omega) rfl ?_
    walk_at "go"
    exact ⟨rfl, rfl⟩
  | [a, b], hd, hl =>
    walk_at "go"
    · rename_i hc; exact absurd hc (by show ¬ (((2 : Nat) : Int) = 0); decide)
    rename_i hc; clear hc
    walk_at "go"
    · rename_i hc; exact absurd hc (by show ¬ (((2 : Nat) : Int) = 1); decide)
    rename_i hc; clear hc
    walk_at "go"
    case' refine_2 => rename_i hc; exact absurd rfl hc
    rename_i hc; clear hc
    walk_at "go"
    refine ⟨rfl, ?_⟩
    walk_at "go"
    refine ⟨_, rfl, ?_⟩
    walk_at "go"
    refine ⟨_, rfl, ?_⟩
    walk_at "go"
    refine ⟨Nat.zero_le _, by show 2 ≤ 16777216; omega, ?_⟩
    refine newZ (ns := [a, b]) hasD hd (by show 2 ≤ 400; omega) rfl ?_
    walk_at "go"
    exact ⟨rfl, rfl⟩
  | [a, b, c], hd, hl =>
    walk_at "go"
    · rename_i hc; exact absurd hc (by show ¬ (((3 : Nat) : Int) = 0); decide)
    rename_i hc; clear hc
    walk_at "go"
    · rename_i hc; exact absurd hc (by show ¬ (((3 : Nat) : Int) = 1); decide)
    rename_i hc; clear hc
    walk_at "go"
    · rename_i hc; exact absurd hc (by show ¬ (((3 : Nat) : Int) = 2); decide)
    rename_i hc; clear hc
    walk_at "go"
    case' refine_2 => rename_i hc; exact absurd rfl hc
    rename_i hc; clear hc
    walk_at "go"
    refine ⟨rfl, ?_⟩
    walk_at "go"
    refine ⟨_, rfl, ?_⟩
    walk_at "go"
    refine ⟨_, rfl, ?_⟩
    walk_at "go"
    refine ⟨_, rfl, ?_⟩
    walk_at "go"
    refine ⟨Nat.zero_le _, by show 3 ≤ 16777216; omega, ?_⟩
    refine newZ (ns := [a, b, c]) hasD hd (by show 3 ≤ 400; omega) rfl ?_
    walk_at "go"
    exact ⟨rfl, rfl⟩
  | [a, b, c, d], hd, hl =>
    walk_at "go"
    · rename_i hc; exact absurd hc (by show ¬ (((4 : Nat) : Int) = 0); decide)
    rename_i hc; clear hc
    walk_at "go"
    · rename_i hc; exact absurd hc (by show ¬ (((4 : Nat) : Int) = 1); decide)
    rename_i hc; clear hc
    walk_at "go"
    · rename_i hc; exact absurd hc (by show ¬ (((4 : Nat) : Int) = 2); decide)
    rename_i hc; clear hc
    walk_at "go"
    · rename_i hc; exact absurd hc (by show ¬ (((4 : Nat) : Int) = 3); decide)
    rename_i hc; clear hc
    walk_at "go"
    case' refine_2 => rename_i hc; exact absurd rfl hc
    rename_i hc; clear hc
    walk_at "go"
    refine ⟨rfl, ?_⟩
    walk_at "go"
    refine ⟨_, rfl, ?_⟩
    walk_at "go"
    refine ⟨_, rfl, ?_⟩
    walk_at "go"
    refine ⟨_, rfl, ?_⟩
    walk_at "go"
    refine ⟨_, rfl, ?_⟩
    walk_at "go"
    refine ⟨Nat.zero_le _, by show 4 ≤ 16777216; omega, ?_⟩
    refine newZ (ns := [a, b, c, d]) hasD hd (by show 4 ≤ 400; omega) rfl ?_
    walk_at "go"
    exact ⟨rfl, rfl⟩
  | [a, b, c, d, e], hd, hl =>
    walk_at "go"
    · rename_i hc; exact absurd hc (by show ¬ (((5 : Nat) : Int) = 0); decide)
    rename_i hc; clear hc
    walk_at "go"
    · rename_i hc; exact absurd hc (by show ¬ (((5 : Nat) : Int) = 1); decide)
    rename_i hc; clear hc
    walk_at "go"
    · rename_i hc; exact absurd hc (by show ¬ (((5 : Nat) : Int) = 2); decide)
    rename_i hc; clear hc
    walk_at "go"
    · rename_i hc; exact absurd hc (by show ¬ (((5 : Nat) : Int) = 3); decide)
    rename_i hc; clear hc
    walk_at "go"
    · rename_i hc; exact absurd hc (by show ¬ (((5 : Nat) : Int) = 4); decide)
    rename_i hc; clear hc
    walk_at "go"
    case' refine_2 => rename_i hc; exact absurd rfl hc
    rename_i hc; clear hc
    walk_at "go"
    refine ⟨rfl, ?_⟩
    walk_at "go"
    refine ⟨_, rfl, ?_⟩
    walk_at "go"
    refine ⟨_, rfl, ?_⟩
    walk_at "go"
    refine ⟨_, rfl, ?_⟩
    walk_at "go"
    refine ⟨_, rfl, ?_⟩
    walk_at "go"
    refine ⟨_, rfl, ?_⟩
    walk_at "go"
    refine ⟨Nat.zero_le _, by show 5 ≤ 16777216; omega, ?_⟩
    refine newZ (ns := [a, b, c, d, e]) hasD hd (by show 5 ≤ 400; omega) rfl ?_
    walk_at "go"
    exact ⟨rfl, rfl⟩
  | [a, b, c, d, e, f], hd, hl =>
    walk_at "go"
    · rename_i hc; exact absurd hc (by show ¬ (((6 : Nat) : Int) = 0); decide)
    rename_i hc; clear hc
    walk_at "go"
    · rename_i hc; exact absurd hc (by show ¬ (((6 : Nat) : Int) = 1); decide)
    rename_i hc; clear hc
    walk_at "go"
    · rename_i hc; exact absurd hc (by show ¬ (((6 : Nat) : Int) = 2); decide)
    rename_i hc; clear hc
    walk_at "go"
    · rename_i hc; exact absurd hc (by show ¬ (((6 : Nat) : Int) = 3); decide)
    rename_i hc; clear hc
    walk_at "go"
    · rename_i hc; exact absurd hc (by show ¬ (((6 : Nat) : Int) = 4); decide)
    rename_i hc; clear hc
    walk_at "go"
    · rename_i hc; exact absurd hc (by show ¬ (((6 : Nat) : Int) = 5); decide)
    rename_i hc; clear hc
    walk_at "go"
    refine ⟨rfl, ?_⟩
    walk_at "go"
    refine ⟨_, rfl, ?_⟩
    walk_at "go"
    refine ⟨_, rfl, ?_⟩
    walk_at "go"
    refine ⟨_, rfl, ?_⟩
    walk_at "go"
    refine ⟨_, rfl, ?_⟩
    walk_at "go"
    refine ⟨_, rfl, ?_⟩
    walk_at "go"
    refine ⟨_, rfl, ?_⟩
    walk_at "go"
    refine ⟨Nat.zero_le _, by show 6 ≤ 16777216; omega, ?_⟩
    refine newZ (ns := [a, b, c, d, e, f]) hasD hd (by show 6 ≤ 400; omega) rfl ?_
    walk_at "go"
    exact ⟨rfl, rfl⟩
end
end Vm.k02
namespace Vm.k02
open Vm Vm.RC Vm.DY
local macro_rules | `(tactic| walk_at "st") => `(tactic| first
  | ((with_reducible refine aE ?_); first | ((with_reducible refine aV ?_); first | with_reducible refine w_var0 ?_ | with_reducible refine w_var1 ?_ | with_reducible refine w_var2 ?_ | with_reducible refine w_var3 ?_ | with_reducible refine w_var4 ?_ | with_reducible refine w_var5 ?_ | with_reducible refine w_var6 ?_ | with_reducible refine w_var7 ?_ | with_reducible refine w_var8 ?_ | with_reducible refine w_var9 ?_ | with_reducible refine w_var10 ?_ | with_reducible refine w_var11 ?_ | with_reducible refine w_var12 ?_ | with_reducible refine w_var13 ?_ | with_reducible refine w_var14 ?_ | with_reducible refine w_var15 ?_ | with_reducible refine w_var16 ?_ | with_reducible refine w_var17 ?_ | with_reducible refine w_var18 ?_ | with_reducible refine w_var19 ?_ | ((with_reducible refine w_var (d := ?_) ?_ ?_); rotate_left; exact rfl)) | with_reducible refine w_kon ?_ | with_reducible refine w_cal ?_ | with_reducible refine w_frz ?_ | with_reducible refine w_cmp ?_ | with_reducible refine w_bin ?_ | with_reducible refine w_notv ?_ | with_reducible refine w_andB ?_ | with_reducible refine w_orB ?_ | with_reducible refine w_ite ?_ | with_reducible refine w_att ?_ | with_reducible refine w_idx ?_ | with_reducible refine w_slc ?_ | with_reducible refine w_blt ?_ | with_reducible refine w_btm ?_ | with_reducible refine w_tup ?_ | with_reducible refine w_lst ?_ | with_reducible refine w_mth ?_ | with_reducible refine w_own ?_ | with_reducible refine w_calk ?_ | with_reducible refine w_mthk ?_ | with_reducible refine w_chn ?_ | with_reducible refine w_newv ?_ | with_reducible refine w_newk ?_ | with_reducible refine w_newc ?_ | with_reducible refine w_iso ?_ | with_reducible refine w_isb ?_ | with_reducible refine w_prp ?_ | with_reducible refine w_part ?_ | with_reducible refine w_neg ?_ | with_reducible refine w_setv ?_ | with_reducible refine w_lsg ?_ | with_reducible refine w_stp ?_ | with_reducible refine w_tos ?_ | with_reducible refine w_fst ?_ | with_reducible refine w_sin ?_ | with_reducible refine w_frd ?_ | with_reducible refine w_lse ?_ | with_reducible refine w_deq ?_ | ((with_reducible refine w_gl (d := ?_) ?_ ?_); rotate_left; exact rfl))
  | ((with_reducible refine aA ?_); first | with_reducible refine w_anil ?_ | with_reducible refine w_acons ?_ | with_reducible refine w_wkp ?_ | with_reducible refine w_wkd ?_ | with_reducible refine w_asp ?_ | with_reducible refine w_enu ?_ | with_reducible refine w_zip2 ?_ | with_reducible refine w_rng1 ?_ | with_reducible refine w_rng2 ?_)
  | ((with_reducible refine aG ?_); first | ((with_reducible refine aN ?_); first | with_reducible refine g_gn0 ?_ | with_reducible refine g_gn1 ?_ | with_reducible refine g_gn2 ?_ | with_reducible refine g_gn3 ?_ | with_reducible refine g_gn4 ?_ | with_reducible refine g_gn5 ?_ | with_reducible refine g_gn6 ?_ | with_reducible refine g_gn7 ?_ | with_reducible refine g_gn8 ?_ | with_reducible refine g_gn9 ?_ | with_reducible refine g_gn10 ?_ | with_reducible refine g_gn11 ?_ | with_reducible refine g_gn12 ?_ | with_reducible refine g_gn13 ?_ | with_reducible refine g_gn14 ?_ | with_reducible refine g_gn15 ?_ | with_reducible refine g_gn16 ?_ | with_reducible refine g_gn17 ?_ | with_reducible refine g_gn18 ?_ | with_reducible refine g_gn19 ?_ | ((with_reducible refine g_gn (σ' := ?_) ?_ ?_); rotate_left; exact rfl; try dsimp only [List.set_cons_zero, List.set_cons_succ])) | with_reducible refine g_gt ?_ | with_reducible refine g_gtl ?_ | with_reducible refine g_gnil ?_ | with_reducible refine g_gcons ?_ | with_reducible refine g_ga ?_ | with_reducible refine g_gi ?_ | with_reducible refine g_gd ?_)
  | ((with_reducible refine aS ?_); first | with_reducible refine s_seqW ?_ | with_reducible refine s_asgW ?_ | with_reducible refine s_retW ?_ | with_reducible refine s_iffW ?_ | with_reducible refine s_expW ?_ | with_reducible refine s_nopW ?_ | with_reducible refine s_retnW ?_ | with_reducible refine s_brkW ?_ | with_reducible refine s_cntW ?_ | with_reducible refine s_rseW ?_ | with_reducible refine s_tryW ?_ | with_reducible refine s_augA0 ?_ | with_reducible refine s_augA1 ?_ | with_reducible refine s_augA2 ?_ | with_reducible refine s_augA3 ?_ | with_reducible refine s_augA4 ?_ | with_reducible refine s_augA5 ?_ | with_reducible refine s_augA6 ?_ | with_reducible refine s_augA7 ?_ | with_reducible refine s_augA8 ?_ | with_reducible refine s_augA9 ?_ | with_reducible refine s_augA10 ?_ | with_reducible refine s_augA11 ?_ | ((with_reducible refine s_augW (z := ?_) ?_ ?_); rotate_left; exact rfl))
  | ((with_reducible refine aR ?_); first | with_reducible refine fin_rtW ?_ | with_reducible refine fin_nxW ?_ | with_reducible refine fin_excW ?_ | with_reducible refine r_add ?_ | with_reducible refine r_sub ?_ | with_reducible refine b_lenr ?_ | with_reducible refine b_lent ?_ | with_reducible refine b_lenc ?_ | with_reducible refine b_lens ?_ | with_reducible refine b_tupr ?_ | with_reducible refine b_tupt ?_ | with_reducible refine b_lstr ?_ | with_reducible refine b_lstt ?_ | with_reducible refine b_int ?_ | with_reducible refine b_intb ?_ | with_reducible refine b_bool ?_ | with_reducible refine b_abs ?_ | with_reducible refine b_max ?_ | with_reducible refine b_min ?_)
  | ((with_reducible refine aT ?_); first | with_reducible refine tt_true ?_ | with_reducible refine tt_false ?_ | with_reducible refine tt_ntrue ?_ | with_reducible refine tt_nfalse ?_ | with_reducible refine tt_dec (fun hc => ?_) (fun hc => ?_) | with_reducible refine tt_ndec (fun hc => ?_) (fun hc => ?_))
  | ((with_reducible refine aB ?_); first | with_reducible refine tb_true ?_ | with_reducible refine tb_false ?_ | with_reducible refine tb_ntrue ?_ | with_reducible refine tb_nfalse ?_ | with_reducible refine tb_dec (fun hc => ?_) (fun hc => ?_) | with_reducible refine tb_ndec (fun hc => ?_) (fun hc => ?_))
  | ((with_reducible refine aX ?_); first | with_reducible refine nx_nx ?_ | with_reducible refine nx_rt ?_ | with_reducible refine nx_exc ?_ | with_reducible refine nx_bk ?_ | with_reducible refine nx_ct ?_)
  | ((with_reducible refine aU ?_); first | with_reducible refine turn_nx ?_ | with_reducible refine turn_ct ?_ | with_reducible refine turn_bk ?_ | with_reducible refine turn_rt ?_ | with_reducible refine turn_exc ?_)
  | ((with_reducible refine aY ?_); first | with_reducible refine try_nx ?_ | with_reducible refine try_rt ?_)
  | ((with_reducible refine aW ?_); first | with_reducible refine w1_nx ?_ | with_reducible refine w1_rt ?_ | with_reducible refine w1_ct ?_ | with_reducible refine w1_bk ?_)
  | with_reducible refine c_lt ?_
  | with_reducible refine c_le ?_
  | with_reducible refine c_gt ?_
  | with_reducible refine c_ge ?_
  | with_reducible refine c_eqi ?_
  | with_reducible refine c_nei ?_
  | with_reducible refine n_bl ?_
  | with_reducible refine x_int ?_
  | with_reducible refine cj_dec (fun hc => ?_) (fun hc => ?_))
local macro_rules | `(tactic| walk_at "go") => `(tactic| repeat walk_at "st")
theorem rangeD_cons {i j : Int} (h : i < j) : rangeD i j = .int i :: rangeD (i + 1) j := by
  unfold rangeD
  rw [show (j - i).toNat = (j - (i + 1)).toNat + 1 by omega, List.range_succ_eq_map, List.map_cons, List.map_map]
  congr 1
  · show D.int (i + ((0 : Nat) : Int)) = _
    simp
  · refine List.map_congr_left fun k _ => ?_
    show D.int (i + ((k + 1 : Nat) : Int)) = D.int (i + 1 + (k : Int))
    congr 1
    omega
theorem rangeD_nil {i j : Int} (h : j ≤ i) : rangeD i j = [] := by
  unfold rangeD
  rw [show (j - i).toNat = 0 by omega]
  rfl
theorem split_run : ∀ (r : List Int) (a : Int), (a :: r).Pairwise (· < ·) → ∃ k rest, a :: r = cons1 a k ++ rest ∧ ∀ b ∈ rest, a + (k : Int) + 1 < b
  | [], a, _ => ⟨0, [], rfl, fun b h => by cases h⟩
  | b :: r, a, h => by
    rw [List.pairwise_cons] at h
    obtain ⟨h1, h2⟩ := h
    by_cases e : b = a + 1
    · obtain ⟨k, rest, e1, e2⟩ := split_run r b h2
      refine ⟨k + 1, rest, ?_, fun c hc => ?_⟩
      · rw [e1, cons1, e]; rfl
      · have := e2 c hc
        omega
    · refine ⟨0, b :: r, rfl, fun c hc => ?_⟩
      have := h1 b List.mem_cons_self
      rcases List.mem_cons.mp hc with rfl | hc
      · omega
      · have := (List.pairwise_cons.mp h2).1 c hc
        omega
theorem cons1_at : ∀ (k : Nat) (b : Int) (rest : List Int) (j : Nat), j ≤ k → (cons1 b k ++ rest)[j]? = some (b + (j : Int)) := by
  intro k
  induction k with
  | zero =>
    intro b rest j hj
    obtain rfl : j = 0 := by omega
    show some b = some (b + ((0 : Nat) : Int))
    simp
  | succ k ih =>
    intro b rest j hj
    cases j with
    | zero => show some b = some (b + ((0 : Nat) : Int)); simp
    | succ j =>
      show (cons1 (b + 1) k ++ rest)[j]? = _
      rw [ih (b + 1) rest j (by omega)]
      congr 1
      omega
theorem asc_far : ∀ (rest : List Int) (c : Int), rest.Pairwise (· < ·) → (∀ b ∈ rest, c < b) → ∀ (j : Nat) (v : Int), rest[j]? = some v → c + (j : Int) < v
  | [], c, _, _, j, v, h => by simp at h
  | b :: r, c, h, hb, 0, v, hv => by
    cases hv
    have := hb b List.mem_cons_self
    show c + ((0 : Nat) : Int) < b
    omega
  | b :: r, c, h, hb, j + 1, v, hv => by
    rw [List.pairwise_cons] at h
    have h0 := hb b List.mem_cons_self
    have := asc_far r b h.2 h.1 j v hv
    omega
theorem run_at {r rest : List Int} {a : Int} {k : Nat} (h : r = cons1 a k ++ rest) (hs : r.Pairwise (· < ·)) (hb : ∀ b ∈ rest, a + (k : Int) + 1 < b) {j : Nat} {v : Int} (hv : r[j]? = some v) : v = a + (j : Int) ↔ j ≤ k := by
  subst h
  refine ⟨fun e => ?_, fun hj => ?_⟩
  · by_cases hj : j ≤ k
    · exact hj
    · rw [List.getElem?_append_right (by rw [cons1_len]; omega), cons1_len] at hv
      have := asc_far rest (a + (k : Int) + 1) (List.pairwise_append.mp hs).2.1 hb _ v hv
      omega
  · rw [cons1_at k a rest j hj] at hv
    exact (Option.some.inj hv).symm
section
variable {n : Nat} {row : List Int}
theorem at_row {S : Sto} {j : Nat} {v : Int} (h : row[j]? = some v) : opIx (.rol (row.map D.int)) (.int (j : Int)) S = some (.int v) := by
  show L2.atI (row.map D.int) (j : Int) = _
  obtain ⟨hl, e⟩ := List.getElem?_eq_some_iff.mp h
  rw [atI_nat (by rw [List.length_map]; exact hl)]
  simp [e]
abbrev St (row : List Int) (at_ : Nat) (x3 x4 x5 : Option D) : Sl := [some (.rol (row.map D.int)), some (.ref 0), some (.int (at_ : Nat)), x3, x4, x5]
abbrev So (done : List (Int × Int)) : Sto := [.lst (done.map fun p => D.str (pcT p))]
/-- the inner loop finds the end of the block -/
theorem inner_ws {Φ : Nat → List D → Sto → Res} {at_ k : Nat} {a : Int} {rest : List Int} {x3 x5 : Option D} {done : List (Int × Int)} {E : Res → Prop} (hl : row.length ≤ 1000) (hs : row.Pairwise (· < ·)) (hlt : at_ < row.length) (hr : row.drop at_ = cons1 a k ++ rest) (hb : ∀ b ∈ rest, a + (k : Int) + 1 < b) (hE : ∀ x5, E (.nx (St row at_ x3 (some (.int ((at_ + k : Nat) : Int))) x5) (So done))) :
    WS pg Φ s__law_written_1_0a_1 (St row at_ x3 (some (.int (at_ : Nat))) x5) (So done) E := by
  have hk : at_ + k < row.length := by
    have := congrArg List.length hr
    rw [List.length_drop, List.length_append, cons1_len] at this
    omega
  have ra : ∀ {j : Nat} {v : Int}, row[at_ + j]? = some v → (v = a + (j : Int) ↔ j ≤ k) := fun {j v} h => by
    rw [← List.getElem?_drop] at h
    exact run_at hr (hs.drop) hb h
  have first : row[at_]? = some a := by
    have h : (row.drop at_)[0]? = some (a + ((0 : Nat) : Int)) := by rw [hr]; exact cons1_at k a rest 0 (Nat.zero_le _)
    rw [List.getElem?_drop] at h
    simpa using h
  with_reducible refine s_forW (raws := []) (fun post σ S => ∃ (j : Nat) (x5 : Option D), at_ + 1 ≤ j ∧ j ≤ row.length ∧ post = rangeD (j : Int) (row.length : Int) ∧ σ = St row at_ x3 (some (.int ((at_ + min k (j - 1 - at_) : Nat) : Int))) x5 ∧ S = So done) ?_ ?_ ?_
  · walk_at "go"
    refine ⟨_, _, rfl, rfl, by rw [inR, decide_eq_true (by omega), decide_eq_true (by omega)]; rfl, by rw [List.length_map, inR, decide_eq_true (by omega), decide_eq_true (by omega)]; rfl, _, _, rfl, ⟨at_ + 1, x5, Nat.le_refl _, hlt, ?_, ?_, rfl⟩, by rintro post σ S ⟨_, _, _, _, _, _, rfl⟩; rfl⟩
    · rw [List.length_map]; rfl
    · rw [show at_ + 1 - 1 - at_ = 0 by omega, Nat.min_zero]; rfl
  · rintro p post σ S ⟨j, x5, h1, h2, h3, rfl, rfl⟩
    have hj : j < row.length := by
      rcases Nat.lt_or_ge j row.length with h | h
      · exact h
      · rw [rangeD_nil (by omega)] at h3; cases h3
    rw [rangeD_cons (by omega)] at h3
    obtain ⟨rfl, rfl⟩ := List.cons.inj h3
    obtain ⟨v, hv⟩ : ∃ v, row[j]? = some v := ⟨_, List.getElem?_eq_getElem hj⟩
    have hra := ra (j := j - at_) (v := v) (by rw [show at_ + (j - at_) = j by omega]; exact hv)
    walk_at "go"
    refine ⟨_, at_row hv, ?_⟩
    walk_at "go"
    refine ⟨_, at_row first, ?_⟩
    walk_at "st"
    walk_at "st"
    walk_at "st"
    walk_at "st"
    refine c_eqi ?_
    refine tt_dec (fun he => ?_) (fun he => ?_)
    · walk_at "go"
      refine ⟨j + 1, some (.int (j : Nat)), by omega, hj, rfl, ?_, rfl⟩
      have := hra.mp (by omega)
      rw [show at_ + min k (j + 1 - 1 - at_) = j by omega]
    · walk_at "go"
      refine ⟨j + 1, some (.int (j : Nat)), by omega, hj, rfl, ?_, rfl⟩
      have : ¬ (j - at_ ≤ k) := fun z => he (by have := hra.mpr z; omega)
      rw [show min k (j + 1 - 1 - at_) = min k (j - 1 - at_) by omega]
  · rintro σ S ⟨j, x5, h1, h2, h3, rfl, rfl⟩
    have hj : j = row.length := by
      rcases Nat.lt_or_ge j row.length with h | h
      · rw [rangeD_cons (by omega)] at h3; cases h3
      · omega
    rw [show min k (j - 1 - at_) = k by omega]
    exact hE _
theorem written_ws {Φ : Nat → List D → Sto → Res} (hs : row.Pairwise (· < ·)) (hd : Days row) (hl : row.length ≤ 1000) : WS pg Φ c__law_written [some (.rol (row.map D.int)), none, none, none, none, none] [] fun r => RV (fin r) (fun d U => d = .str (strT row)) noX := by
  walk_at "go"
  refine ⟨Nat.zero_le _, ?_⟩
  walk_at "go"
  refine ⟨by show 2 ≤ 16777216; omega, ?_⟩
  walk_at "go"
  with_reducible refine s_forW (raws := []) (fun post σ S => ∃ (at_ : Nat) (done : List (Int × Int)) (x3 x4 x5 : Option D), at_ ≤ row.length ∧ row.length - at_ ≤ post.length ∧ blocks row = done ++ blocks (row.drop at_) ∧ done.length ≤ at_ ∧ σ = St row at_ x3 x4 x5 ∧ S = So done) ?_ ?_ ?_
  · walk_at "go"
    refine ⟨by rw [List.length_map, inR, decide_eq_true (by omega), decide_eq_true (by omega)]; rfl, _, _, rfl, ⟨0, [], none, none, none, Nat.zero_le _, ?_, rfl, Nat.le_refl _, rfl, rfl⟩, by rintro post σ S ⟨_, _, _, _, _, _, _, _, _, _, rfl⟩; rfl⟩
    rw [rangeD, List.length_map, List.length_range, List.length_map]
    omega
  · rintro p post σ S ⟨at_, done, x3, x4, x5, h1, h2, h3, h4, rfl, rfl⟩
    rw [List.length_cons] at h2
    rcases Nat.lt_or_ge at_ row.length with hlt | hge
    · skip
      obtain ⟨a, r, hdr⟩ : ∃ a r, row.drop at_ = a :: r := by
        cases e : row.drop at_ with
        | nil => rw [List.drop_eq_nil_iff] at e; omega
        | cons a r => exact ⟨a, r, rfl⟩
      obtain ⟨k, rest, q1, q2⟩ := split_run r a (by rw [← hdr]; exact hs.drop)
      rw [← hdr] at q1
      have hlen := congrArg List.length q1
      rw [List.length_drop, List.length_append, cons1_len] at hlen
      have hrest : row.drop (at_ + k + 1) = rest := by
        rw [show at_ + k + 1 = at_ + (k + 1) by omega, ← List.drop_drop, q1, List.drop_left' (cons1_len a k)]
      have hblk : blocks row = (done ++ [(a, a + (k : Int))]) ++ blocks (row.drop (at_ + k + 1)) := by
        rw [h3, q1, blocks_run k a rest fun b r' e => by have := q2 b (by rw [e]; exact List.mem_cons_self); omega, hrest, List.append_assoc]
        rfl
      have rk : ∀ j : Nat, j ≤ k → row[at_ + j]? = some (a + (j : Int)) := fun j hj => by
        rw [← List.getElem?_drop, q1]
        exact cons1_at k a rest j hj
      have first : row[at_]? = some a := by have := rk 0 (Nat.zero_le _); simpa using this
      have last := rk k (Nat.le_refl _)
      have ha := hd a (List.mem_of_getElem? first)
      have hk := hd _ (List.mem_of_getElem? last)
      have l1 := digs_le ha.1 ha.2
      have l2 := digs_le hk.1 hk.2
      walk_at "go"
      · skip
        with_reducible refine inner_ws hl hs hlt q1 q2 fun x5 => ?_
        walk_at "go"
        refine ⟨rfl, ?_⟩
        walk_at "go"
        · rename_i he
          refine ⟨_, at_row first, ?_⟩
          refine ⟨_, tosT_int (nat_lt ha), ?_⟩
          walk_at "go"
          refine m_app rfl (by rw [List.length_map]; show done.length < 16777216; omega) ?_
          walk_at "go"
          refine ⟨at_ + k + 1, done ++ [(a, a + (k : Int))], _, _, _, by omega, by omega, hblk, by rw [List.length_append]; show done.length + 1 ≤ _; omega, rfl, ?_⟩
          show [Ob.lst (done.map (fun p => D.str (pcT p)) ++ [D.str (digs a)])] = _
          rw [show digs a = pcT (a, a + (k : Int)) by unfold pcT; rw [if_neg (by omega)], So, List.map_append]
          rfl
        · rename_i he
          walk_at "go"
          refine ⟨_, at_row first, ?_⟩
          refine ⟨_, tosT_int (nat_lt ha), ?_⟩
          walk_at "go"
          refine r_adds (by show _ + 2 ≤ 16777216; omega) ?_
          walk_at "go"
          refine ⟨_, at_row last, ?_⟩
          refine ⟨_, tosT_int (nat_lt hk), ?_⟩
          refine r_adds (by rw [List.length_append]; show _ + 2 + _ ≤ 16777216; omega) ?_
          walk_at "go"
          refine m_app rfl (by rw [List.length_map]; show done.length < 16777216; omega) ?_
          walk_at "go"
          refine ⟨at_ + k + 1, done ++ [(a, a + (k : Int))], _, _, _, by omega, by omega, hblk, by rw [List.length_append]; show done.length + 1 ≤ _; omega, rfl, ?_⟩
          show [Ob.lst (done.map (fun p => D.str (pcT p)) ++ [D.str (digs a ++ [46, 46] ++ digs (a + (k : Int)))])] = _
          rw [show digs a ++ [46, 46] ++ digs (a + (k : Int)) = pcT (a, a + (k : Int)) by unfold pcT; rw [if_pos (by omega), List.append_assoc], So, List.map_append]
          rfl
      · rename_i hc
        with_reducible refine absurd ?_ hc
        rw [List.length_map]
        omega
    · walk_at "go"
      · rename_i hc
        rw [List.length_map] at hc
        with_reducible refine False.elim ?_
        omega
      · walk_at "go"
        exact ⟨at_, done, _, _, _, h1, by omega, h3, h4, rfl, rfl⟩
  · rintro σ S ⟨at_, done, x3, x4, x5, h1, h2, h3, h4, rfl, rfl⟩
    rw [List.length_nil] at h2
    obtain rfl : at_ = row.length := by omega
    rw [List.drop_length, blocks, List.append_nil] at h3
    subst h3
    have hq := pcs_sum hd
    have hbl := blocks_len row
    walk_at "go"
    refine ⟨rfl, ?_⟩
    walk_at "go"
    refine m_join (zs := (blocks row).map pcT) (by rw [List.map_map]; rfl) ?_ ?_
    · rw [List.length_map (f := pcT)]
      show _ + 2 * (blocks row).length ≤ 16777216
      omega
    walk_at "go"
    rfl
theorem rv_some {r : Res} {v : D} (h : RV r (fun d U => d = v) noX) : ∃ U, r = .val [v] U := by
  rcases rv_ex h with ⟨d, U, e, rfl⟩ | ⟨_, _, _, _, _, z⟩
  · exact ⟨U, e⟩
  · exact z.elim
theorem ws_some {Φ : Nat → List D → Sto → Res} {c : C} {σ : Sl} {S : Sto} {v : D} (h : WS pg Φ c σ S fun r => RV (fin r) (fun d U => d = v) noX) : ∃ U, fin (ev pg Φ c [] σ S) = .val [v] U := rv_some h
theorem written_some {Φ : Nat → List D → Sto → Res} (hs : row.Pairwise (· < ·)) (hd : Days row) (hl : row.length ≤ 1000) : ∃ U, fin (ev pg Φ c__law_written [] [some (.rol (row.map D.int)), none, none, none, none, none] []) = .val [.str (strT row)] U := by
  with_reducible exact ws_some (written_ws hs hd hl)
theorem written_run (hs : row.Pairwise (· < ·)) (hd : Days row) (hl : row.length ≤ 1000) : ∃ U, run pg (n + 1) 140 [.rol (row.map D.int)] [] = .val [.str (strT row)] U := by
  rw [run_eq (F := f__law_written) rfl rfl]
  with_reducible refine Exists.elim (written_some (Φ := run pg n) hs hd hl) fun U e => ?_
  refine ⟨U, Eq.trans ?_ e⟩
  rfl
end
end Vm.k02
namespace Vm.k02
open Vm Vm.RC Vm.DY
local macro_rules | `(tactic| walk_at "st") => `(tactic| first
  | ((with_reducible refine aE ?_); first | ((with_reducible refine aV ?_); first | with_reducible refine w_var0 ?_ | with_reducible refine w_var1 ?_ | with_reducible refine w_var2 ?_ | with_reducible refine w_var3 ?_ | with_reducible refine w_var4 ?_ | with_reducible refine w_var5 ?_ | with_reducible refine w_var6 ?_ | with_reducible refine w_var7 ?_ | with_reducible refine w_var8 ?_ | with_reducible refine w_var9 ?_ | with_reducible refine w_var10 ?_ | with_reducible refine w_var11 ?_ | with_reducible refine w_var12 ?_ | with_reducible refine w_var13 ?_ | with_reducible refine w_var14 ?_ | with_reducible refine w_var15 ?_ | with_reducible refine w_var16 ?_ | with_reducible refine w_var17 ?_ | with_reducible refine w_var18 ?_ | with_reducible refine w_var19 ?_ | ((with_reducible refine w_var (d := ?_) ?_ ?_); rotate_left; exact rfl)) | with_reducible refine w_kon ?_ | with_reducible refine w_cal ?_ | with_reducible refine w_frz ?_ | with_reducible refine w_cmp ?_ | with_reducible refine w_bin ?_ | with_reducible refine w_notv ?_ | with_reducible refine w_andB ?_ | with_reducible refine w_orB ?_ | with_reducible refine w_ite ?_ | with_reducible refine w_att ?_ | with_reducible refine w_idx ?_ | with_reducible refine w_slc ?_ | with_reducible refine w_blt ?_ | with_reducible refine w_btm ?_ | with_reducible refine w_tup ?_ | with_reducible refine w_lst ?_ | with_reducible refine w_mth ?_ | with_reducible refine w_own ?_ | with_reducible refine w_calk ?_ | with_reducible refine w_mthk ?_ | with_reducible refine w_chn ?_ | with_reducible refine w_newv ?_ | with_reducible refine w_newk ?_ | with_reducible refine w_newc ?_ | with_reducible refine w_iso ?_ | with_reducible refine w_isb ?_ | with_reducible refine w_prp ?_ | with_reducible refine w_part ?_ | with_reducible refine w_neg ?_ | with_reducible refine w_setv ?_ | with_reducible refine w_lsg ?_ | with_reducible refine w_stp ?_ | with_reducible refine w_tos ?_ | with_reducible refine w_fst ?_ | with_reducible refine w_sin ?_ | with_reducible refine w_frd ?_ | with_reducible refine w_lse ?_ | with_reducible refine w_deq ?_ | ((with_reducible refine w_gl (d := ?_) ?_ ?_); rotate_left; exact rfl))
  | ((with_reducible refine aA ?_); first | with_reducible refine w_anil ?_ | with_reducible refine w_acons ?_ | with_reducible refine w_wkp ?_ | with_reducible refine w_wkd ?_ | with_reducible refine w_asp ?_ | with_reducible refine w_enu ?_ | with_reducible refine w_zip2 ?_ | with_reducible refine w_rng1 ?_ | with_reducible refine w_rng2 ?_)
  | ((with_reducible refine aG ?_); first | ((with_reducible refine aN ?_); first | with_reducible refine g_gn0 ?_ | with_reducible refine g_gn1 ?_ | with_reducible refine g_gn2 ?_ | with_reducible refine g_gn3 ?_ | with_reducible refine g_gn4 ?_ | with_reducible refine g_gn5 ?_ | with_reducible refine g_gn6 ?_ | with_reducible refine g_gn7 ?_ | with_reducible refine g_gn8 ?_ | with_reducible refine g_gn9 ?_ | with_reducible refine g_gn10 ?_ | with_reducible refine g_gn11 ?_ | with_reducible refine g_gn12 ?_ | with_reducible refine g_gn13 ?_ | with_reducible refine g_gn14 ?_ | with_reducible refine g_gn15 ?_ | with_reducible refine g_gn16 ?_ | with_reducible refine g_gn17 ?_ | with_reducible refine g_gn18 ?_ | with_reducible refine g_gn19 ?_ | ((with_reducible refine g_gn (σ' := ?_) ?_ ?_); rotate_left; exact rfl; try dsimp only [List.set_cons_zero, List.set_cons_succ])) | with_reducible refine g_gt ?_ | with_reducible refine g_gtl ?_ | with_reducible refine g_gnil ?_ | with_reducible refine g_gcons ?_ | with_reducible refine g_ga ?_ | with_reducible refine g_gi ?_ | with_reducible refine g_gd ?_)
  | ((with_reducible refine aS ?_); first | with_reducible refine s_seqW ?_ | with_reducible refine s_asgW ?_ | with_reducible refine s_retW ?_ | with_reducible refine s_iffW ?_ | with_reducible refine s_expW ?_ | with_reducible refine s_nopW ?_ | with_reducible refine s_retnW ?_ | with_reducible refine s_brkW ?_ | with_reducible refine s_cntW ?_ | with_reducible refine s_rseW ?_ | with_reducible refine s_tryW ?_ | with_reducible refine s_augA0 ?_ | with_reducible refine s_augA1 ?_ | with_reducible refine s_augA2 ?_ | with_reducible refine s_augA3 ?_ | with_reducible refine s_augA4 ?_ | with_reducible refine s_augA5 ?_ | with_reducible refine s_augA6 ?_ | with_reducible refine s_augA7 ?_ | with_reducible refine s_augA8 ?_ | with_reducible refine s_augA9 ?_ | with_reducible refine s_augA10 ?_ | with_reducible refine s_augA11 ?_ | ((with_reducible refine s_augW (z := ?_) ?_ ?_); rotate_left; exact rfl))
  | ((with_reducible refine aR ?_); first | with_reducible refine fin_rtW ?_ | with_reducible refine fin_nxW ?_ | with_reducible refine fin_excW ?_ | with_reducible refine r_add ?_ | with_reducible refine r_sub ?_ | with_reducible refine b_lenr ?_ | with_reducible refine b_lent ?_ | with_reducible refine b_lenc ?_ | with_reducible refine b_lens ?_ | with_reducible refine b_tupr ?_ | with_reducible refine b_tupt ?_ | with_reducible refine b_lstr ?_ | with_reducible refine b_lstt ?_ | with_reducible refine b_int ?_ | with_reducible refine b_intb ?_ | with_reducible refine b_bool ?_ | with_reducible refine b_abs ?_ | with_reducible refine b_max ?_ | with_reducible refine b_min ?_)
  | ((with_reducible refine aT ?_); first | with_reducible refine tt_true ?_ | with_reducible refine tt_false ?_ | with_reducible refine tt_ntrue ?_ | with_reducible refine tt_nfalse ?_ | with_reducible refine tt_dec (fun hc => ?_) (fun hc => ?_) | with_reducible refine tt_ndec (fun hc => ?_) (fun hc => ?_))
  | ((with_reducible refine aB ?_); first | with_reducible refine tb_true ?_ | with_reducible refine tb_false ?_ | with_reducible refine tb_ntrue ?_ | with_reducible refine tb_nfalse ?_ | with_reducible refine tb_dec (fun hc => ?_) (fun hc => ?_) | with_reducible refine tb_ndec (fun hc => ?_) (fun hc => ?_))
  | ((with_reducible refine aX ?_); first | with_reducible refine nx_nx ?_ | with_reducible refine nx_rt ?_ | with_reducible refine nx_exc ?_ | with_reducible refine nx_bk ?_ | with_reducible refine nx_ct ?_)
  | ((with_reducible refine aU ?_); first | with_reducible refine turn_nx ?_ | with_reducible refine turn_ct ?_ | with_reducible refine turn_bk ?_ | with_reducible refine turn_rt ?_ | with_reducible refine turn_exc ?_)
  | ((with_reducible refine aY ?_); first | with_reducible refine try_nx ?_ | with_reducible refine try_rt ?_)
  | ((with_reducible refine aW ?_); first | with_reducible refine w1_nx ?_ | with_reducible refine w1_rt ?_ | with_reducible refine w1_ct ?_ | with_reducible refine w1_bk ?_)
  | with_reducible refine c_lt ?_
  | with_reducible refine c_le ?_
  | with_reducible refine c_gt ?_
  | with_reducible refine c_ge ?_
  | with_reducible refine c_eqi ?_
  | with_reducible refine c_nei ?_
  | with_reducible refine n_bl ?_
  | with_reducible refine x_int ?_
  | with_reducible refine cj_dec (fun hc => ?_) (fun hc => ?_))
local macro_rules | `(tactic| walk_at "go") => `(tactic| repeat walk_at "st")
section
variable {n : Nat} {row : List Int} {Φ : Nat → List D → Sto → Res} {σ : Sl} {S : Sto} {K : D → Sto → Prop} {X : KX}
theorem f1 {row : List Int} : D.flats [DY row] = true := by rw [D.flats, DY_flat]; rfl
theorem f2 {row : List Int} {d : D} (h : d.flat = true) : D.flats [DY row, d] = true := by rw [D.flats, DY_flat, D.flats, h]; rfl
theorem listedW (hΦ : Φ = run pg (n + 3)) (k : K (.ref S.length) (S ++ [.lst (row.map D.int)])) : RV (callL σ Φ 105 [DY row] S) K X := by
  subst hΦ
  refine rc0 f1 ?_
  rw [listed_run (n := n + 2)]
  exact r0_new rfl (fl_ints _) k
theorem isl0W (hΦ : Φ = run pg (n + 3)) (hl : row.length ≤ 1000) (k : K (.bl true) S) : RV (callL σ Φ 137 [.rol (row.map D.int), .rol (row.map D.int)] S) K X := by
  subst hΦ
  exact rc0e (by rw [D.flats, rolZ_flat, D.flats, rolZ_flat]; rfl) (is_list0 hl) rfl k
theorem isl1W (hΦ : Φ = run pg (n + 3)) (hl : row.length ≤ 1000) (k : K (.bl true) [.lst (row.map D.int)]) : RV (callL σ Φ 137 [.ref 0, .rol (row.map D.int)] [.lst (row.map D.int)]) K X := by
  subst hΦ
  refine rc1 rfl (fl_ints _) (by rw [D.flats, rolZ_flat]; rfl) ?_
  refine RV.imp2 (is_list1 (n := n + 2) hl) (fun d U ⟨e1, e2⟩ => ?_) fun _ _ _ h => h.elim
  subst e1 e2
  exact ⟨.lst (row.map D.int), [], rfl, fl_ints _, .inl ⟨rfl, k⟩⟩
theorem lenW (hΦ : Φ = run pg (n + 3)) (hl : row.length ≤ 1000) (k : K (.int row.length) S) : RV (ownR .len (callL σ Φ 125 [DY row] S)) K X := by
  subst hΦ
  exact ow_e f1 (len_run hasM hasD) rfl (ownV_len (by omega)) k
theorem hasW (hΦ : Φ = run pg (n + 3)) {d : D} (hk : Kn pg d) (hr : Days row) (k : K (.bl (hasB row d)) S) : RV (ownR .cont (callL σ Φ 127 [DY row, d] S)) K X := by
  subst hΦ
  exact ow_e (f2 hk.1) (has_run hasM hasD hk hr) rfl rfl k
theorem fromW (hΦ : Φ = run pg (n + 3)) {x : Int} (hf : (fromF row x).flat = true) (k : K (fromF row x) S) : RV (callL σ Φ 100 [DY row, .int x] S) K X := by
  subst hΦ
  exact fromE hasF hasD rfl hf k
theorem lfromW (hΦ : Φ = run pg (n + 3)) {x : Int} (hl : row.length ≤ 1000) (hf : (fromF row x).flat = true) (k : K (fromF row x) S) : RV (callL σ Φ 138 [.rol (row.map D.int), .int x] S) K X := by
  subst hΦ
  exact rc0e (by rw [D.flats, rolZ_flat]; rfl) (from_run hl) hf k
theorem strW (hΦ : Φ = run pg (n + 3)) (hd : Days row) (hl : row.length ≤ 1000) (k : K (.str (strT row)) S) : RV (ownR .str (callL σ Φ 139 [DY row] S)) K X := by
  subst hΦ
  exact ow_e f1 (str_run hasStr hasPc hasD hd hl) rfl rfl k
theorem reprW (hΦ : Φ = run pg (n + 3)) (hd : Days row) (hl : row.length ≤ 1000) (k : K (.str ([68, 97, 121, 115, 40] ++ dT row ++ [41])) S) : RV (ownR .rep (callL σ Φ 126 [DY row] S)) K X := by
  subst hΦ
  exact ow_e f1 (repr_run hasP hasD hd hl) rfl rfl k
theorem wrW (hΦ : Φ = run pg (n + 3)) (hs : row.Pairwise (· < ·)) (hd : Days row) (hl : row.length ≤ 1000) (k : K (.str (strT row)) S) : RV (callL σ Φ 140 [.rol (row.map D.int)] S) K X := by
  subst hΦ
  obtain ⟨U, e⟩ := written_run (n := n + 2) hs hd hl
  exact rc0e (by rw [D.flats, rolZ_flat]; rfl) e rfl k
theorem from_two (row : List Int) (x : Int) : fromF row x = .non ∨ ∃ i, fromF row x = .int i := by
  unfold fromF
  cases row.find? fun y => decide (x ≤ y) with
  | none => exact .inl rfl
  | some y => exact .inr ⟨y, rfl⟩
theorem from_flat (row : List Int) (x : Int) : (fromF row x).flat = true := by
  rcases from_two row x with e | ⟨i, e⟩ <;> rw [e] <;> rfl
theorem from_eq (row : List Int) (x : Int) : eqD S (fromF row x) (fromF row x) = some true := by
  rcases from_two row x with e | ⟨i, e⟩ <;> rw [e]
  · unfold eqD; rw [pd_non]; rfl
  · rw [eqD_int, beq_self_eq_true]
theorem from_isb (row : List Int) (x : Int) : (match insOf S (fromF row x) with
    | some (c', _) => if pg.pc c' && isBt .bool then some false else none
    | none => isTy S (fromF row x) .bool) = some false := by
  rcases from_two row x with e | ⟨i, e⟩ <;> rw [e] <;> rfl
abbrev THG : List D := [.bl true, .bl false, .non, .str [48], .unk, .rol [.int 0], .tup [.int 1], .int 1000000000001, .int (-1)]
theorem thg_kn {d : D} (h : d ∈ THG) : Kn pg d := by
  simp only [List.mem_cons, List.not_mem_nil, or_false] at h
  rcases h with rfl | rfl | rfl | rfl | rfl | rfl | rfl | rfl | rfl <;> exact ⟨rfl, rfl⟩
theorem thg_no {d : D} (hr : Days row) (h : d ∈ THG) : hasB row d = false := by
  simp only [List.mem_cons, List.not_mem_nil, or_false] at h
  rcases h with rfl | rfl | rfl | rfl | rfl | rfl | rfl | rfl | rfl
  all_goals first | rfl | exact decide_eq_false fun z => by have := hr _ z; omega
abbrev Sa (row probes : List Int) (x3 x4 x5 x6 x7 : Option D) : Sl := [some (DY row), some (.rol (row.map D.int)), some (.rol (probes.map D.int)), x3, x4, x5, x6, x7]
variable {probes : List Int} {x3 x4 x5 x6 x7 : Option D} {E : Res → Prop} {W : List D}
abbrev LS (xs : List D) : Sto := [.lst xs]
theorem a0 (hΦ : Φ = run pg (n + 3)) (hE : E (.nx (Sa row probes (some (.ref 0)) x4 x5 x6 x7) (LS (row.map D.int)))) : WS pg Φ s__law_asked_0 (Sa row probes x3 x4 x5 x6 x7) [] E := by
  walk_at "go"
  refine ⟨_, rfl, rfl, ?_⟩
  walk_at "go"
  refine listedW hΦ ?_
  walk_at "go"
  exact hE
theorem a1 (hΦ : Φ = run pg (n + 3)) (hl : row.length ≤ 1000) (hE : E (.nx (Sa row probes (some (.ref 0)) x4 x5 x6 x7) (LS (row.map D.int)))) : WS pg Φ s__law_asked_1 (Sa row probes (some (.ref 0)) x4 x5 x6 x7) (LS (row.map D.int)) E := by
  walk_at "go"
  refine isl1W hΦ hl ?_
  walk_at "go"
  refine ⟨_, row.map D.int, rfl, rfl, rfl, rfl, ?_⟩
  refine fz_new (S := LS (row.map D.int)) (by show (D.flats _ && true) = true; rw [fl_ints]; rfl) (fl_ints _) ?_
  walk_at "go"
  refine isl0W hΦ hl ?_
  walk_at "go"
  exact hE
theorem a2 (hl : row.length ≤ 1000) (hE : E (.nx (Sa row probes (some (.ref 0)) x4 x5 x6 x7) (LS ((row ++ [5]).map D.int)))) : WS pg Φ s__law_asked_2 (Sa row probes (some (.ref 0)) x4 x5 x6 x7) (LS (row.map D.int)) E := by
  walk_at "go"
  refine ⟨rfl, ?_⟩
  walk_at "go"
  refine m_app rfl (by rw [List.length_map]; show row.length < 16777216; omega) ?_
  walk_at "go"
  rw [List.map_append] at hE
  exact hE
theorem a3 (hΦ : Φ = run pg (n + 3)) (hl : row.length ≤ 1000) (hS : S.all Ob.flat = true) (hE : E (.nx (Sa row probes x3 x4 x5 x6 x7) S)) : WS pg Φ s__law_asked_3 (Sa row probes x3 x4 x5 x6 x7) S E := by
  walk_at "go"
  refine ⟨_, rfl, rfl, ?_⟩
  walk_at "go"
  refine listedW hΦ ?_
  refine fz_new hS (fl_ints _) ?_
  walk_at "go"
  refine isl0W hΦ hl ?_
  walk_at "go"
  refine ⟨_, _, _, rfl, rfl, rfl, ?_⟩
  refine lenW hΦ hl ?_
  walk_at "go"
  · rename_i hc; exact absurd (by rw [List.length_map]) hc
  walk_at "go"
  exact hE
theorem a4 (hΦ : Φ = run pg (n + 3)) (hl : row.length ≤ 1000) (hd : Days row) (hE : ∀ x4 x5, E (.nx (Sa row probes x3 x4 x5 x6 x7) S)) : WS pg Φ s__law_asked_4 (Sa row probes x3 x4 x5 x6 x7) S E := by
  with_reducible refine s_forW (raws := []) (fun post σ S' => ∃ (ps : List Int) (x4 x5 : Option D), post = ps.map D.int ∧ σ = Sa row probes x3 x4 x5 x6 x7 ∧ S' = S) ?_ ?_ ?_
  · walk_at "go"
    exact ⟨_, _, rfl, ⟨probes, _, _, rfl, rfl, rfl⟩, by rintro post σ S ⟨_, _, _, _, _, rfl⟩; rfl⟩
  · rintro p post σ S' ⟨ps, x4, x5, h1, rfl, rfl⟩
    match ps, h1 with
    | i :: ps, h1 =>
      obtain ⟨rfl, rfl⟩ := List.cons.inj h1
      walk_at "go"
      refine ⟨_, rfl, rfl, ?_⟩
      walk_at "go"
      refine fromW hΦ (from_flat _ _) ?_
      walk_at "go"
      refine ⟨_, _, _, rfl, rfl, rfl, ?_⟩
      refine hasW hΦ kn_int hd ?_
      walk_at "go"
      refine c_in (con_ints (.inr rfl)) ?_
      refine c_ne eqD_bl ?_
      rw [show decide (hasB row (.int i) = decide (i ∈ row)) = true from decide_eq_true rfl]
      walk_at "go"
      refine lfromW hΦ hl (from_flat _ _) ?_
      refine c_ne (from_eq _ _) ?_
      walk_at "go"
      refine ⟨false, from_isb _ _, ?_⟩
      walk_at "go"
      exact ⟨ps, _, _, rfl, rfl, rfl⟩
  · rintro σ S' ⟨ps, x4, x5, h1, rfl, rfl⟩
    exact hE _ _
theorem a5 (hΦ : Φ = run pg (n + 3)) (hl : row.length ≤ 1000) (hd : Days row) (hS : S.all Ob.flat = true) (hE : ∀ x6, E (.nx (Sa row probes x3 x4 x5 x6 x7) S)) : WS pg Φ s__law_asked_5 (Sa row probes x3 x4 x5 x6 x7) S E := by
  with_reducible refine s_forW (raws := []) (fun post σ S' => ∃ (x6 : Option D), (∀ d ∈ post, d ∈ THG) ∧ σ = Sa row probes x3 x4 x5 x6 x7 ∧ S' = S) ?_ ?_ ?_
  · walk_at "go"
    refine w_tou ?_
    walk_at "go"
    refine ⟨row, rfl, hl, fun i hi => nat_lt (hd i hi), ?_⟩
    walk_at "go"
    refine ⟨by show 1 ≤ 16777216; omega, ?_⟩
    refine fz_new hS rfl ?_
    walk_at "go"
    refine ⟨by show 1 ≤ 16777216; omega, ?_⟩
    walk_at "go"
    refine r_pow (k := 1000000000000) (by decide) rfl ?_
    walk_at "go"
    refine ⟨by show 9 ≤ 16777216; omega, ?_⟩
    refine fz_new (xs := THG) hS rfl ?_
    walk_at "go"
    exact ⟨_, THG, rfl, ⟨x6, fun d h => h, rfl, rfl⟩, by rintro post σ S ⟨_, _, _, rfl⟩; rfl⟩
  · rintro p post σ S' ⟨x6, h1, rfl, rfl⟩
    walk_at "go"
    refine ⟨_, _, _, rfl, rfl, rfl, ?_⟩
    refine hasW hΦ (thg_kn (h1 p List.mem_cons_self)) hd ?_
    rw [thg_no hd (h1 p List.mem_cons_self)]
    walk_at "go"
    refine ⟨false, rfl, ?_⟩
    walk_at "go"
    exact ⟨_, fun d h => h1 d (List.mem_cons_of_mem _ h), rfl, rfl⟩
  · rintro σ S' ⟨x6, h1, rfl, rfl⟩
    exact hE _
theorem a6 (hl : row.length ≤ 1000) (hd : Days row) (hS : S.all Ob.flat = true) (hE : E (.nx (Sa row probes x3 x4 x5 x6 (some (.str ([68, 97, 121, 115, 40] ++ dT row ++ [41])))) S)) : WS pg Φ s__law_asked_6 (Sa row probes x3 x4 x5 x6 x7) S E := by
  walk_at "go"
  refine ⟨rfl, ?_⟩
  walk_at "go"
  refine w_strs hd hl ?_
  walk_at "go"
  refine ⟨⟨⟨_, rfl, rfl⟩, fun x hx => ⟨_, rfl, rfl⟩⟩, ?_⟩
  refine fz_new hS (str_flats _) ?_
  walk_at "go"
  refine m_join (zs := row.map digs) rfl (dT_len hd hl) ?_
  have h3 : (dT row).length ≤ 15000 := by
    have h1 := join_len (row.map digs) [44, 32]
    have h2 := digs_lens hd
    rw [List.length_map (f := digs)] at h1
    have h3 : (dT row).length ≤ ((row.map digs).map List.length).sum + 2 * row.length := h1
    omega
  refine r_adds (by show 5 + (dT row).length ≤ 16777216; omega) ?_
  walk_at "go"
  refine r_adds (by rw [List.length_append]; show 5 + (dT row).length + 1 ≤ 16777216; omega) ?_
  walk_at "go"
  exact hE
theorem a7 (hΦ : Φ = run pg (n + 3)) (hs : row.Pairwise (· < ·)) (hl : row.length ≤ 1000) (hd : Days row) (hE : E (.rt (.bl true) S)) : WS pg Φ s__law_asked_7 (Sa row probes x3 x4 x5 x6 (some (.str ([68, 97, 121, 115, 40] ++ dT row ++ [41])))) S E := by
  walk_at "go"
  refine ⟨_, _, _, rfl, rfl, rfl, ?_⟩
  refine strW hΦ hd hl ?_
  walk_at "go"
  refine wrW hΦ hs hd hl ?_
  refine c_eq (q := true) (eqD_str.trans (congrArg some (beq_self_eq_true (strT row)))) ?_
  walk_at "go"
  refine ⟨_, _, _, rfl, rfl, rfl, ?_⟩
  refine reprW hΦ hd hl ?_
  walk_at "go"
  refine c_eq (q := true) (eqD_str.trans (congrArg some (beq_self_eq_true ([68, 97, 121, 115, 40] ++ dT row ++ [41])))) ?_
  walk_at "go"
  exact hE
theorem asked_ws (hΦ : Φ = run pg (n + 3)) (hs : row.Pairwise (· < ·)) (hl : row.length ≤ 1000) (hd : Days row) : WS pg Φ c__law_asked (Sa row probes none none none none none) [] fun r => RV (fin r) (fun d U => d = .bl true) noX := by
  have hS : (LS ((row ++ [5]).map D.int)).all Ob.flat = true := by show (D.flats _ && true) = true; rw [fl_ints]; rfl
  refine s_seqW (a0 hΦ (nx_nx ?_))
  refine s_seqW (a1 hΦ hl (nx_nx ?_))
  refine s_seqW (a2 hl (nx_nx ?_))
  refine s_seqW (a3 hΦ hl hS (nx_nx ?_))
  refine s_seqW (a4 hΦ hl hd fun x4 x5 => nx_nx ?_)
  refine s_seqW (a5 hΦ hl hd hS fun x6 => nx_nx ?_)
  refine s_seqW (a6 hl hd hS (nx_nx ?_))
  exact a7 hΦ hs hl hd rfl
theorem asked_some (hΦ : Φ = run pg (n + 3)) (hs : row.Pairwise (· < ·)) (hl : row.length ≤ 1000) (hd : Days row) : ∃ U, fin (ev pg Φ c__law_asked [] (Sa row probes none none none none none) []) = .val [.bl true] U := by
  with_reducible exact ws_some (asked_ws hΦ hs hl hd)
theorem asked_run (hs : row.Pairwise (· < ·)) (hl : row.length ≤ 1000) (hd : Days row) : ∃ U, run pg (n + 4) 136 [DY row, .rol (row.map D.int), .rol (probes.map D.int)] [] = .val [.bl true] U := by
  rw [run_eq (F := f__law_asked) rfl rfl]
  with_reducible refine Exists.elim (asked_some (probes := probes) (Φ := run pg (n + 3)) rfl hs hl hd) fun U e => ?_
  refine ⟨U, Eq.trans ?_ e⟩
  rfl
end
end Vm.k02
namespace Vm.k02
open Vm Vm.RC Vm.DY
local macro_rules | `(tactic| walk_at "st") => `(tactic| first
  | ((with_reducible refine aE ?_); first | ((with_reducible refine aV ?_); first | with_reducible refine w_var0 ?_ | with_reducible refine w_var1 ?_ | with_reducible refine w_var2 ?_ | with_reducible refine w_var3 ?_ | with_reducible refine w_var4 ?_ | with_reducible refine w_var5 ?_ | with_reducible refine w_var6 ?_ | with_reducible refine w_var7 ?_ | with_reducible refine w_var8 ?_ | with_reducible refine w_var9 ?_ | with_reducible refine w_var10 ?_ | with_reducible refine w_var11 ?_ | with_reducible refine w_var12 ?_ | with_reducible refine w_var13 ?_ | with_reducible refine w_var14 ?_ | with_reducible refine w_var15 ?_ | with_reducible refine w_var16 ?_ | with_reducible refine w_var17 ?_ | with_reducible refine w_var18 ?_ | with_reducible refine w_var19 ?_ | ((with_reducible refine w_var (d := ?_) ?_ ?_); rotate_left; exact rfl)) | with_reducible refine w_kon ?_ | with_reducible refine w_cal ?_ | with_reducible refine w_frz ?_ | with_reducible refine w_cmp ?_ | with_reducible refine w_bin ?_ | with_reducible refine w_notv ?_ | with_reducible refine w_andB ?_ | with_reducible refine w_orB ?_ | with_reducible refine w_ite ?_ | with_reducible refine w_att ?_ | with_reducible refine w_idx ?_ | with_reducible refine w_slc ?_ | with_reducible refine w_blt ?_ | with_reducible refine w_btm ?_ | with_reducible refine w_tup ?_ | with_reducible refine w_lst ?_ | with_reducible refine w_mth ?_ | with_reducible refine w_own ?_ | with_reducible refine w_calk ?_ | with_reducible refine w_mthk ?_ | with_reducible refine w_chn ?_ | with_reducible refine w_newv ?_ | with_reducible refine w_newk ?_ | with_reducible refine w_newc ?_ | with_reducible refine w_iso ?_ | with_reducible refine w_isb ?_ | with_reducible refine w_prp ?_ | with_reducible refine w_part ?_ | with_reducible refine w_neg ?_ | with_reducible refine w_setv ?_ | with_reducible refine w_lsg ?_ | with_reducible refine w_stp ?_ | with_reducible refine w_tos ?_ | with_reducible refine w_fst ?_ | with_reducible refine w_sin ?_ | with_reducible refine w_frd ?_ | with_reducible refine w_lse ?_ | with_reducible refine w_deq ?_ | ((with_reducible refine w_gl (d := ?_) ?_ ?_); rotate_left; exact rfl))
  | ((with_reducible refine aA ?_); first | with_reducible refine w_anil ?_ | with_reducible refine w_acons ?_ | with_reducible refine w_wkp ?_ | with_reducible refine w_wkd ?_ | with_reducible refine w_asp ?_ | with_reducible refine w_enu ?_ | with_reducible refine w_zip2 ?_ | with_reducible refine w_rng1 ?_ | with_reducible refine w_rng2 ?_)
  | ((with_reducible refine aG ?_); first | ((with_reducible refine aN ?_); first | with_reducible refine g_gn0 ?_ | with_reducible refine g_gn1 ?_ | with_reducible refine g_gn2 ?_ | with_reducible refine g_gn3 ?_ | with_reducible refine g_gn4 ?_ | with_reducible refine g_gn5 ?_ | with_reducible refine g_gn6 ?_ | with_reducible refine g_gn7 ?_ | with_reducible refine g_gn8 ?_ | with_reducible refine g_gn9 ?_ | with_reducible refine g_gn10 ?_ | with_reducible refine g_gn11 ?_ | with_reducible refine g_gn12 ?_ | with_reducible refine g_gn13 ?_ | with_reducible refine g_gn14 ?_ | with_reducible refine g_gn15 ?_ | with_reducible refine g_gn16 ?_ | with_reducible refine g_gn17 ?_ | with_reducible refine g_gn18 ?_ | with_reducible refine g_gn19 ?_ | ((with_reducible refine g_gn (σ' := ?_) ?_ ?_); rotate_left; exact rfl; try dsimp only [List.set_cons_zero, List.set_cons_succ])) | with_reducible refine g_gt ?_ | with_reducible refine g_gtl ?_ | with_reducible refine g_gnil ?_ | with_reducible refine g_gcons ?_ | with_reducible refine g_ga ?_ | with_reducible refine g_gi ?_ | with_reducible refine g_gd ?_)
  | ((with_reducible refine aS ?_); first | with_reducible refine s_seqW ?_ | with_reducible refine s_asgW ?_ | with_reducible refine s_retW ?_ | with_reducible refine s_iffW ?_ | with_reducible refine s_expW ?_ | with_reducible refine s_nopW ?_ | with_reducible refine s_retnW ?_ | with_reducible refine s_brkW ?_ | with_reducible refine s_cntW ?_ | with_reducible refine s_rseW ?_ | with_reducible refine s_tryW ?_ | with_reducible refine s_augA0 ?_ | with_reducible refine s_augA1 ?_ | with_reducible refine s_augA2 ?_ | with_reducible refine s_augA3 ?_ | with_reducible refine s_augA4 ?_ | with_reducible refine s_augA5 ?_ | with_reducible refine s_augA6 ?_ | with_reducible refine s_augA7 ?_ | with_reducible refine s_augA8 ?_ | with_reducible refine s_augA9 ?_ | with_reducible refine s_augA10 ?_ | with_reducible refine s_augA11 ?_ | ((with_reducible refine s_augW (z := ?_) ?_ ?_); rotate_left; exact rfl))
  | ((with_reducible refine aR ?_); first | with_reducible refine fin_rtW ?_ | with_reducible refine fin_nxW ?_ | with_reducible refine fin_excW ?_ | with_reducible refine r_add ?_ | with_reducible refine r_sub ?_ | with_reducible refine b_lenr ?_ | with_reducible refine b_lent ?_ | with_reducible refine b_lenc ?_ | with_reducible refine b_lens ?_ | with_reducible refine b_tupr ?_ | with_reducible refine b_tupt ?_ | with_reducible refine b_lstr ?_ | with_reducible refine b_lstt ?_ | with_reducible refine b_int ?_ | with_reducible refine b_intb ?_ | with_reducible refine b_bool ?_ | with_reducible refine b_abs ?_ | with_reducible refine b_max ?_ | with_reducible refine b_min ?_)
  | ((with_reducible refine aT ?_); first | with_reducible refine tt_true ?_ | with_reducible refine tt_false ?_ | with_reducible refine tt_ntrue ?_ | with_reducible refine tt_nfalse ?_ | with_reducible refine tt_dec (fun hc => ?_) (fun hc => ?_) | with_reducible refine tt_ndec (fun hc => ?_) (fun hc => ?_))
  | ((with_reducible refine aB ?_); first | with_reducible refine tb_true ?_ | with_reducible refine tb_false ?_ | with_reducible refine tb_ntrue ?_ | with_reducible refine tb_nfalse ?_ | with_reducible refine tb_dec (fun hc => ?_) (fun hc => ?_) | with_reducible refine tb_ndec (fun hc => ?_) (fun hc => ?_))
  | ((with_reducible refine aX ?_); first | with_reducible refine nx_nx ?_ | with_reducible refine nx_rt ?_ | with_reducible refine nx_exc ?_ | with_reducible refine nx_bk ?_ | with_reducible refine nx_ct ?_)
  | ((with_reducible refine aU ?_); first | with_reducible refine turn_nx ?_ | with_reducible refine turn_ct ?_ | with_reducible refine turn_bk ?_ | with_reducible refine turn_rt ?_ | with_reducible refine turn_exc ?_)
  | ((with_reducible refine aY ?_); first | with_reducible refine try_nx ?_ | with_reducible refine try_rt ?_)
  | ((with_reducible refine aW ?_); first | with_reducible refine w1_nx ?_ | with_reducible refine w1_rt ?_ | with_reducible refine w1_ct ?_ | with_reducible refine w1_bk ?_)
  | with_reducible refine c_lt ?_
  | with_reducible refine c_le ?_
  | with_reducible refine c_gt ?_
  | with_reducible refine c_ge ?_
  | with_reducible refine c_eqi ?_
  | with_reducible refine c_nei ?_
  | with_reducible refine n_bl ?_
  | with_reducible refine x_int ?_
  | with_reducible refine cj_dec (fun hc => ?_) (fun hc => ?_))
local macro_rules | `(tactic| walk_at "go") => `(tactic| repeat walk_at "st")
section
variable {n : Nat} {a b row : List Int} {Φ : Nat → List D → Sto → Res} {σ : Sl} {S : Sto} {K : D → Sto → Prop} {X : KX} {E : Res → Prop}
theorem norm_lt (ns : List Int) : (norm ns).Pairwise (· < ·) := by
  have h1 : (norm ns).Nodup := (isortI_perm _).nodup_iff.mpr (dedZ_nodup _)
  have h2 := isortI_sorted (dedZ ns)
  refine (List.pairwise_and_iff.mpr ⟨h2, h1⟩).imp fun ⟨p, q⟩ => by omega
theorem norm_mem {ns : List Int} {i : Int} : i ∈ norm ns ↔ i ∈ ns := by rw [norm, (isortI_perm _).mem_iff, dedZ_mem]
structure Sm (row : List Int) : Prop where
  l : row.length ≤ 6
  d : Days row
theorem Sm.norm {row : List Int} (h : Sm row) : Row (norm row) := ⟨fun i hi => h.d i (norm_mem.mp hi), norm_lt _, Nat.le_trans (norm_len6 h.l) (by decide)⟩
theorem norm_rev {row : List Int} : norm row.reverse = norm row := norm_char (norm_lt _) fun i => by rw [norm_mem, List.mem_reverse]
theorem w_rev {a : C} (h : WE pg Φ a σ S (fun x S => ∃ xs, S.lv x = some xs ∧ K (.ref S.length) (S ++ [.lst xs.reverse])) X) : WE pg Φ (.rev a) σ S K X :=
  rv_b1 (RV.imp h fun x S ⟨xs, e, q⟩ => by
    show RV (match S.lv x with
      | some xs => .val [.ref S.length] (S ++ [.lst xs.reverse])
      | none => .bad) K X
    rw [e]
    exact q)
theorem madeW (hΦ : Φ = run pg (n + 4)) (h : Days row) (hl : row.length ≤ 6) (k : K (DY (norm row)) S) : RV (callL σ Φ 19 [.rol (row.map D.int)] S) K X := by
  subst hΦ
  exact rc0e (fl1 rolZ_flat) (made_run h hl) DY_flat k
theorem askW {probes : List Int} (hΦ : Φ = run pg (n + 4)) (h : Row row) (k : K (.bl true) S) : RV (callL σ Φ 136 [DY row, .rol (row.map D.int), .rol (probes.map D.int)] S) K X := by
  subst hΦ
  obtain ⟨U, e⟩ := asked_run (n := n) (probes := probes) h.s (Nat.le_trans h.l (by decide)) h.d
  exact rc0e (fl3 DY_flat rolZ_flat rolZ_flat) e rfl k
theorem eqW (hΦ : Φ = run pg (n + 4)) (k : K (.bl (decide (a = b))) S) : RV (ownR .eq (callL σ Φ 102 [DY a, DY b] S)) K X := by
  subst hΦ
  exact ow_e (fl2 DY_flat DY_flat) (DY.eq hasQ hasD) rfl rfl k
theorem neW (hΦ : Φ = run pg (n + 4)) (k : K (.bl (!decide (a = b))) S) : RV (ownR .ne (callL σ Φ 102 [DY a, DY b] S)) K X := by
  subst hΦ
  exact ow_e (fl2 DY_flat DY_flat) (DY.eq hasQ hasD) rfl rfl k
theorem eqx_run {x : D} (h1 : insOf [] x = none) (h2 : (dty [] x).isSome = true) : run pg (n + 1) 102 [DY a, x] [] = .val [.bl false] [] := by
  refine rv_eq (run_w (E := fun r => RV r _ noX) (F := f_Days___eq__) rfl rfl ?_)
  show WS pg (run pg n) c_Days___eq__ [some (DY a), some x] [] _
  walk_at "go"
  refine ⟨false, ?_, ?_⟩
  · rw [h1]
    show (match dty [] x with
      | some _ => some false
      | none => none) = some false
    cases q : dty [] x with
    | none => rw [q] at h2; cases h2
    | some t => rfl
  · walk_at "go"
    exact ⟨rfl, rfl⟩
theorem eqxW {x : D} (hΦ : Φ = run pg (n + 4)) (hx : x.flat = true) (h1 : insOf [] x = none) (h2 : (dty [] x).isSome = true) (k : K (.bl false) S) : RV (ownR .eq (callL σ Φ 102 [DY a, x] S)) K X := by
  subst hΦ
  exact ow_e (fl2 DY_flat hx) (eqx_run h1 h2) rfl rfl k
theorem cut1 {row : List Int} : cutD row (some 1) none = row.drop 1 := by
  unfold cutD
  cases row with
  | nil => rfl
  | cons x r =>
    simp [HT.sIx]
abbrev Lw (sc : List Int) (k : Int) (i : Nat) (row probes due other : Option D) (d1 d2 d3 x10 : Option D) : Sl := [some (.scr (sc.map D.int)), some (.int k), some (.ref i), row, probes, due, other, d1, d2, d3, x10]
variable {sc : List Int} {k : Int} {i : Nat} {x3 x4 x5 x6 x7 x8 x9 x10 : Option D} {row2 probes : List Int}
theorem fz_two {o : Ob} {xs : List D} (hS : S.all Ob.flat = true) (hx : D.flats xs = true) (h : K (.rol xs) S) : FZ S.length K (.ref (S ++ [o]).length) (S ++ [o] ++ [.lst xs]) := by
  rw [List.append_assoc]
  exact fz_dropL (a := (S ++ [o]).length) (by simp) (by simp) hS hx h
theorem t1 (hΦ : Φ = run pg (n + 4)) (hB : BagAt S i) (hE : ∀ row S', Sm row → BagAt S' i → E (.nx (Lw sc k i (some (.rol (row.map D.int))) x4 x5 x6 x7 x8 x9 x10) S')) : WS pg Φ s_law_1_1 (Lw sc k i x3 x4 x5 x6 x7 x8 x9 x10) S E := by
  walk_at "go"
  refine drL (Q := fun row => row.length ≤ 6 ∧ Days row) hB (fun o ho => by rw [hΦ]; exact some_run ho) fun row S' q hB' hl => ?_
  walk_at "go"
  exact hE row S' ⟨q.1, q.2⟩ hB'
theorem t2 (hΦ : Φ = run pg (n + 4)) (hB : BagAt S i) (hr : Sm row) (hE : ∀ row2 S', Sm row2 → BagAt S' i → E (.nx (Lw sc k i (some (.rol (row.map D.int))) x4 (some (.rol ((norm row).map D.int))) (some (.rol ((norm row2).map D.int))) x7 x8 x9 x10) S')) : WS pg Φ s_law_1_2 (Lw sc k i (some (.rol (row.map D.int))) x4 x5 x6 x7 x8 x9 x10) S E := by
  have l1 := hr.l
  walk_at "go"
  refine ⟨_, row, rfl, ints_of_map _, by rw [List.length_map]; omega, ?_⟩
  walk_at "go"
  refine b_sorteds get_new ?_
  refine fz_two hB.1 (fl_ints _) ?_
  walk_at "go"
  refine drL (Q := fun row => row.length ≤ 6 ∧ Days row) hB (fun o ho => by rw [hΦ]; exact some_run ho) fun row2 S' q hB' hl => ?_
  have q1 := q.1
  have q2 := q.2
  refine ⟨_, row2, rfl, ints_of_map _, by rw [List.length_map]; omega, ?_⟩
  walk_at "go"
  refine b_sorteds get_new ?_
  rw [← hl]
  refine fz_two hB'.1 (fl_ints _) ?_
  walk_at "go"
  refine ⟨by show 2 ≤ 16777216; omega, ?_⟩
  walk_at "go"
  exact hE row2 S' ⟨q1, q2⟩ hB'
theorem t3 (hΦ : Φ = run pg (n + 4)) (hS : S.all Ob.flat = true) (hr : Sm row) (hE : E (.nx (Lw sc k i (some (.rol (row.map D.int))) x4 (some (.rol ((norm row).map D.int))) x6 (some (DY (norm row))) (some (DY (norm row))) (some (DY ((norm row).drop 1))) x10) S)) : WS pg Φ s_law_1_3 (Lw sc k i (some (.rol (row.map D.int))) x4 (some (.rol ((norm row).map D.int))) x6 x7 x8 x9 x10) S E := by
  have hn := norm_len6 hr.l
  have hd : Days ((norm row).drop 1) := fun i hi => hr.norm.d i (List.mem_of_mem_drop hi)
  walk_at "go"
  refine madeW hΦ hr.d hr.l ?_
  refine fz_same hS DY_flat ?_
  walk_at "go"
  refine w_rev ?_
  walk_at "go"
  refine ⟨_, rfl, ?_⟩
  rw [← List.map_reverse]
  refine fz_new hS (fl_ints _) ?_
  walk_at "go"
  refine madeW hΦ (fun i hi => hr.d i (List.mem_reverse.mp hi)) (by rw [List.length_reverse]; exact hr.l) ?_
  rw [norm_rev]
  refine fz_same hS DY_flat ?_
  walk_at "go"
  refine ⟨_, rfl, ?_⟩
  walk_at "go"
  refine ⟨_, rfl, ?_⟩
  refine r_slcr ?_
  rw [cut_map, cut1]
  refine fz_new hS (fl_ints _) ?_
  walk_at "go"
  refine madeW hΦ hd (by rw [List.length_drop]; omega) ?_
  rw [norm_id (hr.norm.s.drop)]
  refine fz_same hS DY_flat ?_
  walk_at "go"
  refine ⟨by show 3 ≤ 16777216; omega, ?_⟩
  walk_at "go"
  exact hE
theorem t4 (hS : S.all Ob.flat = true) (hr : Sm row) (hr2 : Sm row2) (hE : ∀ probes : List Int, E (.nx (Lw sc k i (some (.rol (row.map D.int))) (some (.rol (probes.map D.int))) x5 (some (.rol ((norm row2).map D.int))) x7 x8 x9 x10) S)) : WS pg Φ s_law_1_4 (Lw sc k i (some (.rol (row.map D.int))) x4 x5 (some (.rol ((norm row2).map D.int))) x7 x8 x9 x10) S E := by
  have l1 := hr.l
  have l2 := norm_len6 hr2.l
  walk_at "go"
  refine r_addr (by rw [List.length_map, List.length_map]; show _ ≤ 16777216; omega) ?_
  rw [← List.map_append]
  refine fz_new hS (fl_ints _) ?_
  walk_at "go"
  refine w_lcF (α := Int) (xs := row) (dx := D.int) (fun i => if decide (i < 1000000000000) then [.int (i + 1)] else []) ?_
  walk_at "go"
  have e : (row.flatMap fun i => if decide (i < 1000000000000) then [D.int (i + 1)] else []) = ((row.filter fun i => decide (i < 1000000000000)).map (· + 1)).map D.int := by
    clear l1 hr hE
    induction row with
    | nil => rfl
    | cons y r ih =>
      rw [List.flatMap_cons, ih, List.filter_cons]
      cases decide (y < 1000000000000) <;> rfl
  have l3 : ((row.filter fun i => decide (i < 1000000000000)).map (· + 1)).length ≤ 6 := by
    rw [List.length_map]
    exact Nat.le_trans (List.length_filter_le _ _) l1
  refine ⟨⟨_, rfl, rfl⟩, fun i hi => ?_, ?_, ?_⟩
  · unfold TurnK
    walk_at "go"
    refine r_pow (k := 1000000000000) (by decide) rfl ?_
    walk_at "st"
    refine tt_dec (fun hc => ?_) (fun hc => ?_)
    · walk_at "go"
      exact ⟨by rw [decide_eq_true hc]; rfl, rfl⟩
    · exact ⟨by rw [decide_eq_false hc]; rfl, rfl⟩
  · rw [e, List.length_map]; show _ ≤ 16777216; omega
  rw [e]
  refine fz_new hS (fl_ints _) ?_
  refine r_addr (by rw [List.length_map, List.length_map, List.length_append]; show _ ≤ 16777216; omega) ?_
  rw [← List.map_append]
  refine fz_new hS (fl_ints _) ?_
  walk_at "go"
  refine r_pow (k := 1000000000000) (by decide) rfl ?_
  walk_at "go"
  refine ⟨by show 2 ≤ 16777216; omega, ?_⟩
  refine fz_new (xs := [0, 1000000000000].map D.int) hS rfl ?_
  refine r_addr (by simp only [List.length_map, List.length_append] at l3 ⊢; show _ ≤ 16777216; simp; omega) ?_
  rw [← List.map_append]
  refine fz_new hS (fl_ints _) ?_
  walk_at "go"
  exact hE _
abbrev L2w (sc : List Int) (k : Int) (i : Nat) (row row2 probes : List Int) (x10 : Option D) : Sl := Lw sc k i (some (.rol (row.map D.int))) (some (.rol (probes.map D.int))) (some (.rol ((norm row).map D.int))) (some (.rol ((norm row2).map D.int))) (some (DY (norm row))) (some (DY (norm row))) (some (DY ((norm row).drop 1))) x10
theorem drop1 (hr : Sm row) : Row ((norm row).drop 1) := hr.norm.sub (List.drop_sublist 1 _)
theorem t5 (hΦ : Φ = run pg (n + 4)) (hS : S.all Ob.flat = true) (hr : Sm row) (hE : E (.nx (L2w sc k i row row2 probes x10) S)) : WS pg Φ s_law_1_5 (L2w sc k i row row2 probes x10) S E := by
  walk_at "go"
  refine askW hΦ hr.norm ?_
  walk_at "go"
  refine ⟨_, rfl, ?_⟩
  walk_at "go"
  refine ⟨_, rfl, ?_⟩
  refine r_slcr ?_
  rw [cut_map, cut1]
  refine fz_new hS (fl_ints _) ?_
  walk_at "go"
  refine askW hΦ (drop1 hr) ?_
  walk_at "go"
  exact hE
theorem nil_drop {r : List Int} : decide (r = r.drop 1) = decide (r = []) := by
  cases r with
  | nil => rfl
  | cons x r =>
    rw [decide_eq_false (fun z => ?_), decide_eq_false (fun z => by cases z)]
    have := congrArg List.length z
    simp at this
theorem t6 (hΦ : Φ = run pg (n + 4)) (hS : S.all Ob.flat = true) (hE : E (.nx (L2w sc k i row row2 probes x10) S)) : WS pg Φ s_law_1_6 (L2w sc k i row row2 probes x10) S E := by
  walk_at "go"
  refine ⟨_, _, _, rfl, rfl, rfl, ?_⟩
  refine eqW hΦ ?_
  rw [decide_eq_true rfl]
  walk_at "go"
  refine ⟨_, _, _, rfl, rfl, rfl, ?_⟩
  refine neW hΦ ?_
  rw [decide_eq_true rfl]
  walk_at "go"
  refine ⟨_, _, _, rfl, rfl, rfl, ?_⟩
  refine eqW hΦ ?_
  rw [nil_drop]
  walk_at "go"
  refine ⟨Nat.zero_le _, ?_⟩
  refine fz_new hS rfl ?_
  refine c_eq (eqD_rolZ (b := [])) ?_
  refine c_ne eqD_bl ?_
  rw [decide_eq_true rfl]
  walk_at "go"
  exact hE
theorem t7 (hΦ : Φ = run pg (n + 4)) (hS : S.all Ob.flat = true) (hr2 : Sm row2) (hE : E (.nx (L2w sc k i row row2 probes x10) S)) : WS pg Φ s_law_1_7 (L2w sc k i row row2 probes x10) S E := by
  walk_at "go"
  refine madeW hΦ hr2.norm.d (norm_len6 hr2.l) ?_
  rw [norm_id hr2.norm.s]
  refine fz_same hS DY_flat ?_
  walk_at "go"
  refine ⟨_, _, _, rfl, rfl, rfl, ?_⟩
  refine eqW hΦ ?_
  walk_at "go"
  refine c_eq eqD_rolZ ?_
  refine c_ne eqD_bl ?_
  rw [decide_eq_true rfl]
  walk_at "go"
  refine ⟨_, _, _, rfl, rfl, rfl, ?_⟩
  refine eqxW hΦ rolZ_flat rfl rfl ?_
  walk_at "go"
  refine fz_same hS (fl_ints _) ?_
  walk_at "go"
  refine ⟨_, _, _, rfl, rfl, rfl, ?_⟩
  refine eqxW (x := .tup ((norm row).map D.int)) hΦ (fl_ints _) rfl rfl ?_
  walk_at "go"
  refine ⟨false, rfl, ?_⟩
  walk_at "go"
  exact hE
theorem t8 (hΦ : Φ = run pg (n + 4)) (hr : Sm row) (hE : E (.nx (L2w sc k i row row2 probes x10) S)) : WS pg Φ s_law_1_8 (L2w sc k i row row2 probes x10) S E := by
  walk_at "go"
  refine askW hΦ hr.norm ?_
  walk_at "go"
  exact hE
variable {ns : List Int}
theorem law_turn (hΦ : Φ = run pg (n + 4)) {p : Nat} (hp : p < 1000) (hl : ns.length ≤ 63) (hS : S.all Ob.flat = true) {x2 : Option D} (hE : ∀ i x3 x4 x5 x6 x7 x8 x9 S', S'.all Ob.flat = true → E (.nx (Lw ns (p : Int) i x3 x4 x5 x6 x7 x8 x9 x10) S')) :
    WS pg Φ (.seq s_law_1_0 (.seq s_law_1_1 (.seq s_law_1_2 (.seq s_law_1_3 (.seq s_law_1_4 (.seq s_law_1_5 (.seq s_law_1_6 (.seq s_law_1_7 s_law_1_8)))))))) [some (.scr (ns.map D.int)), some (.int (p : Int)), x2, x3, x4, x5, x6, x7, x8, x9, x10] S E := by
  refine s_seqW ?_
  walk_at "go"
  refine bagN' (n := n + 3) hΦ hasR hp hl fun o ho => ?_
  walk_at "st"
  walk_at "st"
  have hB := BagAt.new hS ho
  refine s_seqW (t1 hΦ hB fun row S1 hr hB1 => nx_nx ?_)
  refine s_seqW (t2 hΦ hB1 hr fun row2 S2 hr2 hB2 => nx_nx ?_)
  refine s_seqW (t3 hΦ hB2.1 hr (nx_nx ?_))
  refine s_seqW (t4 hB2.1 hr hr2 fun probes => nx_nx ?_)
  refine s_seqW (t5 hΦ hB2.1 hr (nx_nx ?_))
  refine s_seqW (t6 hΦ hB2.1 (nx_nx ?_))
  refine s_seqW (t7 hΦ hB2.1 hr2 (nx_nx ?_))
  exact t8 hΦ hr (hE _ _ _ _ _ _ _ _ _ hB2.1)
theorem law_run (hl : ns.length ≤ 63) : RV (run pg 5 8 [.scr (ns.map D.int)] []) (fun d _ => d = .bl true) noX := by
  refine run_w (E := fun r => RV r _ noX) (F := f_law) rfl rfl ?_
  show WS pg (run pg 4) c_law [some (.scr (ns.map D.int)), none, none, none, none, none, none, none, none, none, none] [] _
  obtain ⟨Φ, hΦ⟩ : ∃ Φ, Φ = run pg (0 + 4) := ⟨_, rfl⟩
  rw [show run pg 4 = Φ from hΦ.symm]
  refine s_seqW ?_
  walk_at "go"
  · rename_i hc; exact absurd rfl hc
  walk_at "go"
  refine r_pow (k := 1000000000000) (by decide) rfl ?_
  walk_at "go"
  · rename_i hc; exact absurd rfl hc
  walk_at "go"
  with_reducible refine s_forW (raws := []) (fun post σ S => (∀ p ∈ post, ∃ k : Nat, p = .int k ∧ k < 12) ∧ S.all Ob.flat = true ∧ ∃ x1 x2 x3 x4 x5 x6 x7 x8 x9 x10, σ = [some (.scr (ns.map D.int)), x1, x2, x3, x4, x5, x6, x7, x8, x9, x10]) ?_ ?_ ?_
  · walk_at "go"
    refine ⟨by rw [inR, decide_eq_true (by split <;> split <;> omega), decide_eq_true (by split <;> split <;> omega)]; rfl, _, _, rfl, ⟨?_, rfl, none, none, none, none, none, none, none, none, none, none, rfl⟩, by rintro post σ S ⟨_, _, _, _, _, _, _, _, _, _, _, _, rfl⟩; rfl⟩
    intro p hp
    obtain ⟨k, hk, rfl⟩ := List.mem_map.mp hp
    have hk := List.mem_range.mp hk
    refine ⟨k, by rw [Int.zero_add], ?_⟩
    split at hk <;> split at hk <;> omega
  · rintro p post σ S ⟨hp, hS, x1, x2, x3, x4, x5, x6, x7, x8, x9, x10, rfl⟩
    obtain ⟨k, rfl, hk⟩ := hp p List.mem_cons_self
    walk_at "st"
    refine law_turn hΦ (by omega) hl hS fun i x3 x4 x5 x6 x7 x8 x9 S' hS' => ?_
    walk_at "go"
    exact ⟨fun p h => hp p (List.mem_cons_of_mem _ h), hS', _, _, _, _, _, _, _, _, _, _, rfl⟩
  · intro σ S hI
    with_reducible refine nx_nx ?_
    obtain ⟨_, hS, x1, x2, x3, x4, x5, x6, x7, x8, x9, x10, e⟩ := hI
    rw [e]
    walk_at "go"
    rfl
theorem good : ∀ ns : List Int, ns.length ≤ 63 → ∃ S, run pg 5 8 [.scr (ns.map D.int)] [] = .val [.bl true] S := fun ns hl => by
  rcases rv_ex (law_run hl) with ⟨d, S, e, rfl⟩ | ⟨_, _, _, _, _, h⟩
  · exact ⟨S, e⟩
  · exact h.elim
end
end Vm.k02
namespace Vm.k02
open PySem L2 Vm
theorem all_mk {l : PySem.W.OpenLaw} {w : World} {K : PySem.W.Frag} {h : Heap} {mg : Str → Option Value} {fa : Addr} (X : K.In h) (G : h.Ns mainGlobals mg) (hfa : mg "law" = some (.ref fa))
    {C_BadDays : Addr}
    {C_TooMany : Addr}
    {C_Days : Addr}
    {A0 : Addr} {oc0 kV0 dc0 pm0 cd0 ct0 : Value} {od0 an0 : Option Addr} {sl0 : Array (Option Value)}
    {A1 : Addr} {oc1 kV1 dc1 pm1 cd1 ct1 : Value} {od1 an1 : Option Addr} {sl1 : Array (Option Value)}
    {A2 : Addr} {oc2 kV2 dc2 pm2 cd2 ct2 : Value} {od2 an2 : Option Addr} {sl2 : Array (Option Value)}
    {A3 : Addr} {oc3 kV3 dc3 pm3 cd3 ct3 : Value} {od3 an3 : Option Addr} {sl3 : Array (Option Value)}
    {A4 : Addr} {oc4 kV4 dc4 pm4 cd4 ct4 : Value} {od4 an4 : Option Addr} {sl4 : Array (Option Value)}
    {A5 : Addr} {oc5 kV5 dc5 pm5 cd5 ct5 : Value} {od5 an5 : Option Addr} {sl5 : Array (Option Value)}
    {A6 : Addr} {oc6 kV6 dc6 pm6 cd6 ct6 : Value} {od6 an6 : Option Addr} {sl6 : Array (Option Value)}
    {A7 : Addr} {oc7 kV7 dc7 pm7 cd7 ct7 : Value} {od7 an7 : Option Addr} {sl7 : Array (Option Value)}
    {A8 : Addr} {oc8 kV8 dc8 pm8 cd8 ct8 : Value} {od8 an8 : Option Addr} {sl8 : Array (Option Value)}
    {A9 : Addr} {oc9 kV9 dc9 pm9 cd9 ct9 : Value} {od9 an9 : Option Addr} {sl9 : Array (Option Value)}
    {A10 : Addr} {oc10 kV10 dc10 pm10 cd10 ct10 : Value} {od10 an10 : Option Addr} {sl10 : Array (Option Value)}
    {A11 : Addr} {oc11 kV11 dc11 pm11 cd11 ct11 : Value} {od11 an11 : Option Addr} {sl11 : Array (Option Value)}
    {A12 : Addr} {oc12 kV12 dc12 pm12 cd12 ct12 : Value} {od12 an12 : Option Addr} {sl12 : Array (Option Value)}
    {A13 : Addr} {oc13 kV13 dc13 pm13 cd13 ct13 : Value} {od13 an13 : Option Addr} {sl13 : Array (Option Value)}
    {A14 : Addr} {oc14 kV14 dc14 pm14 cd14 ct14 : Value} {od14 an14 : Option Addr} {sl14 : Array (Option Value)}
    {A15 : Addr} {oc15 kV15 dc15 pm15 cd15 ct15 : Value} {od15 an15 : Option Addr} {sl15 : Array (Option Value)}
    {A16 : Addr} {oc16 kV16 dc16 pm16 cd16 ct16 : Value} {od16 an16 : Option Addr} {sl16 : Array (Option Value)}
    {A17 : Addr} {oc17 kV17 dc17 pm17 cd17 ct17 : Value} {od17 an17 : Option Addr} {sl17 : Array (Option Value)}
    {A18 : Addr} {oc18 kV18 dc18 pm18 cd18 ct18 : Value} {od18 an18 : Option Addr} {sl18 : Array (Option Value)}
    {A19 : Addr} {oc19 kV19 dc19 pm19 cd19 ct19 : Value} {od19 an19 : Option Addr} {sl19 : Array (Option Value)}
    {A20 : Addr} {oc20 kV20 dc20 pm20 cd20 ct20 : Value} {od20 an20 : Option Addr} {sl20 : Array (Option Value)}
    {A21 : Addr} {oc21 kV21 dc21 pm21 cd21 ct21 : Value} {od21 an21 : Option Addr} {sl21 : Array (Option Value)}
    {A22 : Addr} {oc22 kV22 dc22 pm22 cd22 ct22 : Value} {od22 an22 : Option Addr} {sl22 : Array (Option Value)}
    {A23 : Addr} {oc23 kV23 dc23 pm23 cd23 ct23 : Value} {od23 an23 : Option Addr} {sl23 : Array (Option Value)}
    {A24 : Addr} {oc24 kV24 dc24 pm24 cd24 ct24 : Value} {od24 an24 : Option Addr} {sl24 : Array (Option Value)}
    {nmE_BadDays qE_BadDays : Str} {NE_BadDays : Addr} {bsE_BadDays bmE_BadDays subE_BadDays : List Value} {snE_BadDays : List Str} {abE_BadDays : Bool} {colE_BadDays : Option Bool} {ddE_BadDays : Option Addr} {k0E_BadDays k1E_BadDays k2E_BadDays k3E_BadDays k5E_BadDays : Option Value}
    {nmE_TooMany qE_TooMany : Str} {NE_TooMany : Addr} {bsE_TooMany bmE_TooMany subE_TooMany : List Value} {snE_TooMany : List Str} {abE_TooMany : Bool} {colE_TooMany : Option Bool} {ddE_TooMany : Option Addr} {k0E_TooMany k1E_TooMany k2E_TooMany k3E_TooMany k5E_TooMany : Option Value}
    {u0 : Tok}
    {u1 : Tok}
    {u2 : Tok}
    {u3 : Tok}
    (g_BadDays : PySem.W.nsIn K mainGlobals "BadDays" = some (some (.ref C_BadDays)))
    (g_TooMany : PySem.W.nsIn K mainGlobals "TooMany" = some (some (.ref C_TooMany)))
    (g_Days : PySem.W.nsIn K mainGlobals "Days" = some (some (.ref C_Days)))
    (cl1_Days : PySem.W.plainGet K C_Days Str.empty = true)
    (cl2_Days : PySem.W.hasDictIn K C_Days = true)
    (cl3_Days : PySem.W.plainOver K C_Days = true)
    (cl4_Days : PySem.W.findIn K (.ref C_Days) "__setattr__" = some (some (.builtin "object.__setattr__")))
    (mk2_Days : PySem.W.findIn K (.ref C_Days) "__init__" = some (some (.ref A3)))
    (mk1_Days : PySem.W.makesIn K C_Days = true)
    (mk3_Days : PySem.W.isFn K (.ref A3) = true)
    (mk4_Days : PySem.W.keepIn K (.ref C_Days) = true)
    (me1_Days_each : PySem.W.findIn K (.ref C_Days) "each" = some (some (.ref A24)))
    (me2_Days_each : PySem.W.isFn K (.ref A24) = true)
    (me3_Days_each : PySem.W.keepIn K (.ref A24) = true)
    (me1_Days_from_day : PySem.W.findIn K (.ref C_Days) "from_day" = some (some (.ref A5)))
    (me2_Days_from_day : PySem.W.isFn K (.ref A5) = true)
    (me3_Days_from_day : PySem.W.keepIn K (.ref A5) = true)
    (me1_Days_listed : PySem.W.findIn K (.ref C_Days) "listed" = some (some (.ref A4)))
    (me2_Days_listed : PySem.W.isFn K (.ref A4) = true)
    (me3_Days_listed : PySem.W.keepIn K (.ref A4) = true)
    (na_Days_row : PySem.W.findIn K (.ref C_Days) "row" = some none)
    (ix_BadDays : PySem.W.findIn K (.ref C_BadDays) "__init__" = some (some (.ref A22)))
    (oa_BadDays : K.lookup C_BadDays = some (excClassObj nmE_BadDays qE_BadDays C_BadDays NE_BadDays bsE_BadDays bmE_BadDays true snE_BadDays subE_BadDays abE_BadDays colE_BadDays ddE_BadDays k0E_BadDays k1E_BadDays k2E_BadDays k3E_BadDays k5E_BadDays "ValueError.__new__"))
    (ob_BadDays : PySem.HandSPX.refsVE bmE_BadDays = true)
    (oc_BadDays : PySem.W.findIn K (.ref C_BadDays) "__setattr__" = some (some (.builtin "object.__setattr__")))
    (od_BadDays : PySem.W.subIn K (.ref C_BadDays) (.type "BaseException") = some true)
    (oe_BadDays : PySem.W.typeIn K (.ref C_BadDays) = some (.type "type"))
    (of_BadDays : PySem.W.keepIn K (.ref C_BadDays) = true)
    (tx_BadDays : PySem.W.typeIn K (.ref A22) = some (.type "function"))
    (no_BadDays_at : PySem.W.findIn K (.ref C_BadDays) "at" = some none)
    (ix_TooMany : PySem.W.findIn K (.ref C_TooMany) "__init__" = some (some (.ref A23)))
    (oa_TooMany : K.lookup C_TooMany = some (excClassObj nmE_TooMany qE_TooMany C_TooMany NE_TooMany bsE_TooMany bmE_TooMany true snE_TooMany subE_TooMany abE_TooMany colE_TooMany ddE_TooMany k0E_TooMany k1E_TooMany k2E_TooMany k3E_TooMany k5E_TooMany "ValueError.__new__"))
    (ob_TooMany : PySem.HandSPX.refsVE bmE_TooMany = true)
    (oc_TooMany : PySem.W.findIn K (.ref C_TooMany) "__setattr__" = some (some (.builtin "object.__setattr__")))
    (od_TooMany : PySem.W.subIn K (.ref C_TooMany) (.type "BaseException") = some true)
    (oe_TooMany : PySem.W.typeIn K (.ref C_TooMany) = some (.type "type"))
    (of_TooMany : PySem.W.keepIn K (.ref C_TooMany) = true)
    (tx_TooMany : PySem.W.typeIn K (.ref A23) = some (.type "function"))
    (no_TooMany_what : PySem.W.findIn K (.ref C_TooMany) "what" = some none)
    (ha_Days : PySem.W.findIn K (.ref C_Days) "__class__" = some (some (.builtin "object.__class__")))
    (hm_Days : PySem.W.mroIn K C_Days (.type "object") = some true)
    (tf_Days_NoneType : PySem.W.subIn K (.type "NoneType") (.ref C_Days) = some false)
    (tf_Days_bool : PySem.W.subIn K (.type "bool") (.ref C_Days) = some false)
    (tf_Days_int : PySem.W.subIn K (.type "int") (.ref C_Days) = some false)
    (tf_Days_str : PySem.W.subIn K (.type "str") (.ref C_Days) = some false)
    (tf_Days_tuple : PySem.W.subIn K (.type "tuple") (.ref C_Days) = some false)
    (tf_Days_list : PySem.W.subIn K (.type "list") (.ref C_Days) = some false)
    (nb_bool_Days : PySem.W.subIn K (.ref C_Days) (.type "bool") = some false)
    (nb_int_Days : PySem.W.subIn K (.ref C_Days) (.type "int") = some false)
    (nb_list_Days : PySem.W.subIn K (.ref C_Days) (.type "list") = some false)
    (xt_Days : PySem.W.typeIn K (.ref C_Days) = some (.type "type"))
    (om1_Days___contains__ : PySem.W.findIn K (.ref C_Days) "__contains__" = some (some (.ref A7)))
    (om2_Days___contains__ : PySem.W.isFn K (.ref A7) = true)
    (om1_Days___eq__ : PySem.W.findIn K (.ref C_Days) "__eq__" = some (some (.ref A8)))
    (om2_Days___eq__ : PySem.W.isFn K (.ref A8) = true)
    (om1_Days___len__ : PySem.W.findIn K (.ref C_Days) "__len__" = some (some (.ref A6)))
    (om2_Days___len__ : PySem.W.isFn K (.ref A6) = true)
    (om1_Days___repr__ : PySem.W.findIn K (.ref C_Days) "__repr__" = some (some (.ref A10)))
    (om2_Days___repr__ : PySem.W.isFn K (.ref A10) = true)
    (om1_Days___str__ : PySem.W.findIn K (.ref C_Days) "__str__" = some (some (.ref A9)))
    (om2_Days___str__ : PySem.W.isFn K (.ref A9) = true)
    (on_Days : PySem.W.findIn K (.ref C_Days) "__ne__" = some (some (.builtin "object.__ne__")))
    (ki1 : PySem.W.specialIn K (.builtin "object.__class__") "__get__" = some (some (.builtin "getset_descriptor.__get__")))
    (ki2 : PySem.W.takesIn K (.builtin "object.__class__") = some true)
    (a0 : PySem.W.nsIn K mainGlobals "is_integer" = some (some (.ref A0)))
    (a1 : PySem.W.nsIn K mainGlobals "is_day" = some (some (.ref A1)))
    (a2 : PySem.W.nsIn K mainGlobals "pieces_of" = some (some (.ref A2)))
    (a11 : PySem.W.nsIn K mainGlobals "_law_bag" = some (some (.ref A11)))
    (a12 : PySem.W.nsIn K mainGlobals "_law_take" = some (some (.ref A12)))
    (a13 : PySem.W.nsIn K mainGlobals "_law_of" = some (some (.ref A13)))
    (a14 : PySem.W.nsIn K mainGlobals "_law_day" = some (some (.ref A14)))
    (a15 : PySem.W.nsIn K mainGlobals "_law_some" = some (some (.ref A15)))
    (a16 : PySem.W.nsIn K mainGlobals "_law_made" = some (some (.ref A16)))
    (a17 : PySem.W.nsIn K mainGlobals "_law_written" = some (some (.ref A17)))
    (a18 : PySem.W.nsIn K mainGlobals "_law_is_list" = some (some (.ref A18)))
    (a19 : PySem.W.nsIn K mainGlobals "_law_from" = some (some (.ref A19)))
    (a20 : PySem.W.nsIn K mainGlobals "_law_asked" = some (some (.ref A20)))
    (a21 : PySem.W.nsIn K mainGlobals "law" = some (some (.ref A21)))
    (z_abs : PySem.W.nsIn K mainGlobals "abs" = some none)
    (z_all : PySem.W.nsIn K mainGlobals "all" = some none)
    (z_bool : PySem.W.nsIn K mainGlobals "bool" = some none)
    (z_enumerate : PySem.W.nsIn K mainGlobals "enumerate" = some none)
    (z_int : PySem.W.nsIn K mainGlobals "int" = some none)
    (z_isinstance : PySem.W.nsIn K mainGlobals "isinstance" = some none)
    (z_len : PySem.W.nsIn K mainGlobals "len" = some none)
    (z_list : PySem.W.nsIn K mainGlobals "list" = some none)
    (z_max : PySem.W.nsIn K mainGlobals "max" = some none)
    (z_min : PySem.W.nsIn K mainGlobals "min" = some none)
    (z_range : PySem.W.nsIn K mainGlobals "range" = some none)
    (z_repr : PySem.W.nsIn K mainGlobals "repr" = some none)
    (z_set : PySem.W.nsIn K mainGlobals "set" = some none)
    (z_sorted : PySem.W.nsIn K mainGlobals "sorted" = some none)
    (z_str : PySem.W.nsIn K mainGlobals "str" = some none)
    (z_tuple : PySem.W.nsIn K mainGlobals "tuple" = some none)
    (v_LAST_DAY : PySem.W.nsIn K mainGlobals "LAST_DAY" = some (some (.int (1000000000000) u0)))
    (v_MOST_DAYS : PySem.W.nsIn K mainGlobals "MOST_DAYS" = some (some (.int (400) u1)))
    (ck1_Days : PySem.W.readsIn K C_Days (.type "type") = true)
    (ck2_Days : PySem.W.specialIn K (.ref C_Days) "__getattribute__" = some (some (.builtin "type.__getattribute__")))
    (ck3_Days_LAST : PySem.W.findCls K (.ref C_Days) (.type "type") "LAST" = some (.val (.int (1000000000000) u2)))
    (ck3_Days_MOST : PySem.W.findCls K (.ref C_Days) (.type "type") "MOST" = some (.val (.int (400) u3)))
    (l0 : K.lookup A0 = some ⟨oc0, od0, .func (PySem.W.fnOf "is_integer" "is_integer" (defArgs t_is_integer) (defBody t_is_integer) (defScope t_is_integer) .none kV0 dc0 pm0 an0 cd0 ct0), sl0⟩)
    (c0 : PySem.W.codeIn K cd0 "is_integer" = true)
    (k0 : PySem.W.keepIn K (.ref A0) = true)
    (l1 : K.lookup A1 = some ⟨oc1, od1, .func (PySem.W.fnOf "is_day" "is_day" (defArgs t_is_day) (defBody t_is_day) (defScope t_is_day) .none kV1 dc1 pm1 an1 cd1 ct1), sl1⟩)
    (c1 : PySem.W.codeIn K cd1 "is_day" = true)
    (k1 : PySem.W.keepIn K (.ref A1) = true)
    (l2 : K.lookup A2 = some ⟨oc2, od2, .func (PySem.W.fnOf "pieces_of" "pieces_of" (defArgs t_pieces_of) (defBody t_pieces_of) (defScope t_pieces_of) .none kV2 dc2 pm2 an2 cd2 ct2), sl2⟩)
    (c2 : PySem.W.codeIn K cd2 "pieces_of" = true)
    (k2 : PySem.W.keepIn K (.ref A2) = true)
    (l3 : K.lookup A3 = some ⟨oc3, od3, .func (PySem.W.fnOf "__init__" "Days.__init__" (defArgs t_Days___init__) (defBody t_Days___init__) (defScope t_Days___init__) .none kV3 dc3 pm3 an3 cd3 ct3), sl3⟩)
    (c3 : PySem.W.codeIn K cd3 "Days.__init__" = true)
    (k3 : PySem.W.keepIn K (.ref A3) = true)
    (l4 : K.lookup A4 = some ⟨oc4, od4, .func (PySem.W.fnOf "listed" "Days.listed" (defArgs t_Days_listed) (defBody t_Days_listed) (defScope t_Days_listed) .none kV4 dc4 pm4 an4 cd4 ct4), sl4⟩)
    (c4 : PySem.W.codeIn K cd4 "Days.listed" = true)
    (k4 : PySem.W.keepIn K (.ref A4) = true)
    (l5 : K.lookup A5 = some ⟨oc5, od5, .func (PySem.W.fnOf "from_day" "Days.from_day" (defArgs t_Days_from_day) (defBody t_Days_from_day) (defScope t_Days_from_day) .none kV5 dc5 pm5 an5 cd5 ct5), sl5⟩)
    (c5 : PySem.W.codeIn K cd5 "Days.from_day" = true)
    (k5 : PySem.W.keepIn K (.ref A5) = true)
    (l6 : K.lookup A6 = some ⟨oc6, od6, .func (PySem.W.fnOf "__len__" "Days.__len__" (defArgs t_Days___len__) (defBody t_Days___len__) (defScope t_Days___len__) .none kV6 dc6 pm6 an6 cd6 ct6), sl6⟩)
    (c6 : PySem.W.codeIn K cd6 "Days.__len__" = true)
    (k6 : PySem.W.keepIn K (.ref A6) = true)
    (l7 : K.lookup A7 = some ⟨oc7, od7, .func (PySem.W.fnOf "__contains__" "Days.__contains__" (defArgs t_Days___contains__) (defBody t_Days___contains__) (defScope t_Days___contains__) .none kV7 dc7 pm7 an7 cd7 ct7), sl7⟩)
    (c7 : PySem.W.codeIn K cd7 "Days.__contains__" = true)
    (k7 : PySem.W.keepIn K (.ref A7) = true)
    (l8 : K.lookup A8 = some ⟨oc8, od8, .func (PySem.W.fnOf "__eq__" "Days.__eq__" (defArgs t_Days___eq__) (defBody t_Days___eq__) (defScope t_Days___eq__) .none kV8 dc8 pm8 an8 cd8 ct8), sl8⟩)
    (c8 : PySem.W.codeIn K cd8 "Days.__eq__" = true)
    (k8 : PySem.W.keepIn K (.ref A8) = true)
    (l9 : K.lookup A9 = some ⟨oc9, od9, .func (PySem.W.fnOf "__str__" "Days.__str__" (defArgs t_Days___str__) (defBody t_Days___str__) (defScope t_Days___str__) .none kV9 dc9 pm9 an9 cd9 ct9), sl9⟩)
    (c9 : PySem.W.codeIn K cd9 "Days.__str__" = true)
    (k9 : PySem.W.keepIn K (.ref A9) = true)
    (l10 : K.lookup A10 = some ⟨oc10, od10, .func (PySem.W.fnOf "__repr__" "Days.__repr__" (defArgs t_Days___repr__) (defBody t_Days___repr__) (defScope t_Days___repr__) .none kV10 dc10 pm10 an10 cd10 ct10), sl10⟩)
    (c10 : PySem.W.codeIn K cd10 "Days.__repr__" = true)
    (k10 : PySem.W.keepIn K (.ref A10) = true)
    (l11 : K.lookup A11 = some ⟨oc11, od11, .func (PySem.W.fnOf "_law_bag" "_law_bag" (defArgs t__law_bag) (defBody t__law_bag) (defScope t__law_bag) .none kV11 dc11 pm11 an11 cd11 ct11), sl11⟩)
    (c11 : PySem.W.codeIn K cd11 "_law_bag" = true)
    (k11 : PySem.W.keepIn K (.ref A11) = true)
    (l12 : K.lookup A12 = some ⟨oc12, od12, .func (PySem.W.fnOf "_law_take" "_law_take" (defArgs t__law_take) (defBody t__law_take) (defScope t__law_take) .none kV12 dc12 pm12 an12 cd12 ct12), sl12⟩)
    (c12 : PySem.W.codeIn K cd12 "_law_take" = true)
    (k12 : PySem.W.keepIn K (.ref A12) = true)
    (l13 : K.lookup A13 = some ⟨oc13, od13, .func (PySem.W.fnOf "_law_of" "_law_of" (defArgs t__law_of) (defBody t__law_of) (defScope t__law_of) .none kV13 dc13 pm13 an13 cd13 ct13), sl13⟩)
    (c13 : PySem.W.codeIn K cd13 "_law_of" = true)
    (k13 : PySem.W.keepIn K (.ref A13) = true)
    (l14 : K.lookup A14 = some ⟨oc14, od14, .func (PySem.W.fnOf "_law_day" "_law_day" (defArgs t__law_day) (defBody t__law_day) (defScope t__law_day) .none kV14 dc14 pm14 an14 cd14 ct14), sl14⟩)
    (c14 : PySem.W.codeIn K cd14 "_law_day" = true)
    (k14 : PySem.W.keepIn K (.ref A14) = true)
    (l15 : K.lookup A15 = some ⟨oc15, od15, .func (PySem.W.fnOf "_law_some" "_law_some" (defArgs t__law_some) (defBody t__law_some) (defScope t__law_some) .none kV15 dc15 pm15 an15 cd15 ct15), sl15⟩)
    (c15 : PySem.W.codeIn K cd15 "_law_some" = true)
    (k15 : PySem.W.keepIn K (.ref A15) = true)
    (l16 : K.lookup A16 = some ⟨oc16, od16, .func (PySem.W.fnOf "_law_made" "_law_made" (defArgs t__law_made) (defBody t__law_made) (defScope t__law_made) .none kV16 dc16 pm16 an16 cd16 ct16), sl16⟩)
    (c16 : PySem.W.codeIn K cd16 "_law_made" = true)
    (k16 : PySem.W.keepIn K (.ref A16) = true)
    (l17 : K.lookup A17 = some ⟨oc17, od17, .func (PySem.W.fnOf "_law_written" "_law_written" (defArgs t__law_written) (defBody t__law_written) (defScope t__law_written) .none kV17 dc17 pm17 an17 cd17 ct17), sl17⟩)
    (c17 : PySem.W.codeIn K cd17 "_law_written" = true)
    (k17 : PySem.W.keepIn K (.ref A17) = true)
    (l18 : K.lookup A18 = some ⟨oc18, od18, .func (PySem.W.fnOf "_law_is_list" "_law_is_list" (defArgs t__law_is_list) (defBody t__law_is_list) (defScope t__law_is_list) .none kV18 dc18 pm18 an18 cd18 ct18), sl18⟩)
    (c18 : PySem.W.codeIn K cd18 "_law_is_list" = true)
    (k18 : PySem.W.keepIn K (.ref A18) = true)
    (l19 : K.lookup A19 = some ⟨oc19, od19, .func (PySem.W.fnOf "_law_from" "_law_from" (defArgs t__law_from) (defBody t__law_from) (defScope t__law_from) .none kV19 dc19 pm19 an19 cd19 ct19), sl19⟩)
    (c19 : PySem.W.codeIn K cd19 "_law_from" = true)
    (k19 : PySem.W.keepIn K (.ref A19) = true)
    (l20 : K.lookup A20 = some ⟨oc20, od20, .func (PySem.W.fnOf "_law_asked" "_law_asked" (defArgs t__law_asked) (defBody t__law_asked) (defScope t__law_asked) .none kV20 dc20 pm20 an20 cd20 ct20), sl20⟩)
    (c20 : PySem.W.codeIn K cd20 "_law_asked" = true)
    (k20 : PySem.W.keepIn K (.ref A20) = true)
    (l21 : K.lookup A21 = some ⟨oc21, od21, .func (PySem.W.fnOf "law" "law" (defArgs t_law) (defBody t_law) (defScope t_law) .none kV21 dc21 pm21 an21 cd21 ct21), sl21⟩)
    (c21 : PySem.W.codeIn K cd21 "law" = true)
    (k21 : PySem.W.keepIn K (.ref A21) = true)
    (l22 : K.lookup A22 = some ⟨oc22, od22, .func (PySem.W.fnOf "__init__" "BadDays.__init__" (defArgs t_BadDays___init__) (defBody t_BadDays___init__) (defScope t_BadDays___init__) .none kV22 dc22 pm22 an22 cd22 ct22), sl22⟩)
    (c22 : PySem.W.codeIn K cd22 "BadDays.__init__" = true)
    (k22 : PySem.W.keepIn K (.ref A22) = true)
    (l23 : K.lookup A23 = some ⟨oc23, od23, .func (PySem.W.fnOf "__init__" "TooMany.__init__" (defArgs t_TooMany___init__) (defBody t_TooMany___init__) (defScope t_TooMany___init__) .none kV23 dc23 pm23 an23 cd23 ct23), sl23⟩)
    (c23 : PySem.W.codeIn K cd23 "TooMany.__init__" = true)
    (k23 : PySem.W.keepIn K (.ref A23) = true)
    (l24 : K.lookup A24 = some ⟨oc24, od24, .func (PySem.W.fnOf "each" "Days.each" (defArgs t_Days_each) (defBody t_Days_each) (defScope t_Days_each) .none kV24 dc24 pm24 an24 cd24 ct24), sl24⟩)
    (c24 : PySem.W.codeIn K cd24 "Days.each" = true)
    (k24 : PySem.W.keepIn K (.ref A24) = true) :
    ∃ fd : FuncData, (∀ (s : Shared) (v : Value), BindsTo s fd ⟨[v], []⟩ [("_law_script", v)]) ∧ ∀ base : Heap, K.In base → base.Ns mainGlobals mg → FnOk l.prog w K mg base (L2.CX l.prog w) (3 * 5 + 2) fa fd ["_law_script"] (spL K) := by
  have e := hfa.symm.trans (PySem.W.mg_of X G a21)
  cases e
  have F0 := fun_mk (st := t_is_integer) l0 c0 k0
  have F1 := fun_mk (st := t_is_day) l1 c1 k1
  have F2 := fun_mk (st := t_pieces_of) l2 c2 k2
  have F3 := fun_mk (st := t_Days___init__) l3 c3 k3
  have F4 := fun_mk (st := t_Days_listed) l4 c4 k4
  have F5 := fun_mk (st := t_Days_from_day) l5 c5 k5
  have F6 := fun_mk (st := t_Days___len__) l6 c6 k6
  have F7 := fun_mk (st := t_Days___contains__) l7 c7 k7
  have F8 := fun_mk (st := t_Days___eq__) l8 c8 k8
  have F9 := fun_mk (st := t_Days___str__) l9 c9 k9
  have F10 := fun_mk (st := t_Days___repr__) l10 c10 k10
  have F11 := fun_mk (st := t__law_bag) l11 c11 k11
  have F12 := fun_mk (st := t__law_take) l12 c12 k12
  have F13 := fun_mk (st := t__law_of) l13 c13 k13
  have F14 := fun_mk (st := t__law_day) l14 c14 k14
  have F15 := fun_mk (st := t__law_some) l15 c15 k15
  have F16 := fun_mk (st := t__law_made) l16 c16 k16
  have F17 := fun_mk (st := t__law_written) l17 c17 k17
  have F18 := fun_mk (st := t__law_is_list) l18 c18 k18
  have F19 := fun_mk (st := t__law_from) l19 c19 k19
  have F20 := fun_mk (st := t__law_asked) l20 c20 k20
  have F21 := fun_mk (st := t_law) l21 c21 k21
  have F22 := fun_mk (st := t_BadDays___init__) l22 c22 k22
  have F23 := fun_mk (st := t_TooMany___init__) l23 c23 k23
  have F24 := fun_mk (st := t_Days_each) l24 c24 k24
  let D : Ad := ⟨A0, PySem.W.fnOf "is_integer" "is_integer" (defArgs t_is_integer) (defBody t_is_integer) (defScope t_is_integer) .none kV0 dc0 pm0 an0 cd0 ct0, A1, PySem.W.fnOf "is_day" "is_day" (defArgs t_is_day) (defBody t_is_day) (defScope t_is_day) .none kV1 dc1 pm1 an1 cd1 ct1, A2, PySem.W.fnOf "pieces_of" "pieces_of" (defArgs t_pieces_of) (defBody t_pieces_of) (defScope t_pieces_of) .none kV2 dc2 pm2 an2 cd2 ct2, A3, PySem.W.fnOf "__init__" "Days.__init__" (defArgs t_Days___init__) (defBody t_Days___init__) (defScope t_Days___init__) .none kV3 dc3 pm3 an3 cd3 ct3, A4, PySem.W.fnOf "listed" "Days.listed" (defArgs t_Days_listed) (defBody t_Days_listed) (defScope t_Days_listed) .none kV4 dc4 pm4 an4 cd4 ct4, A5, PySem.W.fnOf "from_day" "Days.from_day" (defArgs t_Days_from_day) (defBody t_Days_from_day) (defScope t_Days_from_day) .none kV5 dc5 pm5 an5 cd5 ct5, A6, PySem.W.fnOf "__len__" "Days.__len__" (defArgs t_Days___len__) (defBody t_Days___len__) (defScope t_Days___len__) .none kV6 dc6 pm6 an6 cd6 ct6, A7, PySem.W.fnOf "__contains__" "Days.__contains__" (defArgs t_Days___contains__) (defBody t_Days___contains__) (defScope t_Days___contains__) .none kV7 dc7 pm7 an7 cd7 ct7, A8, PySem.W.fnOf "__eq__" "Days.__eq__" (defArgs t_Days___eq__) (defBody t_Days___eq__) (defScope t_Days___eq__) .none kV8 dc8 pm8 an8 cd8 ct8, A9, PySem.W.fnOf "__str__" "Days.__str__" (defArgs t_Days___str__) (defBody t_Days___str__) (defScope t_Days___str__) .none kV9 dc9 pm9 an9 cd9 ct9, A10, PySem.W.fnOf "__repr__" "Days.__repr__" (defArgs t_Days___repr__) (defBody t_Days___repr__) (defScope t_Days___repr__) .none kV10 dc10 pm10 an10 cd10 ct10, A11, PySem.W.fnOf "_law_bag" "_law_bag" (defArgs t__law_bag) (defBody t__law_bag) (defScope t__law_bag) .none kV11 dc11 pm11 an11 cd11 ct11, A12, PySem.W.fnOf "_law_take" "_law_take" (defArgs t__law_take) (defBody t__law_take) (defScope t__law_take) .none kV12 dc12 pm12 an12 cd12 ct12, A13, PySem.W.fnOf "_law_of" "_law_of" (defArgs t__law_of) (defBody t__law_of) (defScope t__law_of) .none kV13 dc13 pm13 an13 cd13 ct13, A14, PySem.W.fnOf "_law_day" "_law_day" (defArgs t__law_day) (defBody t__law_day) (defScope t__law_day) .none kV14 dc14 pm14 an14 cd14 ct14, A15, PySem.W.fnOf "_law_some" "_law_some" (defArgs t__law_some) (defBody t__law_some) (defScope t__law_some) .none kV15 dc15 pm15 an15 cd15 ct15, A16, PySem.W.fnOf "_law_made" "_law_made" (defArgs t__law_made) (defBody t__law_made) (defScope t__law_made) .none kV16 dc16 pm16 an16 cd16 ct16, A17, PySem.W.fnOf "_law_written" "_law_written" (defArgs t__law_written) (defBody t__law_written) (defScope t__law_written) .none kV17 dc17 pm17 an17 cd17 ct17, A18, PySem.W.fnOf "_law_is_list" "_law_is_list" (defArgs t__law_is_list) (defBody t__law_is_list) (defScope t__law_is_list) .none kV18 dc18 pm18 an18 cd18 ct18, A19, PySem.W.fnOf "_law_from" "_law_from" (defArgs t__law_from) (defBody t__law_from) (defScope t__law_from) .none kV19 dc19 pm19 an19 cd19 ct19, A20, PySem.W.fnOf "_law_asked" "_law_asked" (defArgs t__law_asked) (defBody t__law_asked) (defScope t__law_asked) .none kV20 dc20 pm20 an20 cd20 ct20, fa, PySem.W.fnOf "law" "law" (defArgs t_law) (defBody t_law) (defScope t_law) .none kV21 dc21 pm21 an21 cd21 ct21, A22, PySem.W.fnOf "__init__" "BadDays.__init__" (defArgs t_BadDays___init__) (defBody t_BadDays___init__) (defScope t_BadDays___init__) .none kV22 dc22 pm22 an22 cd22 ct22, A23, PySem.W.fnOf "__init__" "TooMany.__init__" (defArgs t_TooMany___init__) (defBody t_TooMany___init__) (defScope t_TooMany___init__) .none kV23 dc23 pm23 an23 cd23 ct23, A24, PySem.W.fnOf "each" "Days.each" (defArgs t_Days_each) (defBody t_Days_each) (defScope t_Days_each) .none kV24 dc24 pm24 an24 cd24 ct24, C_BadDays, C_TooMany, C_Days, w⟩
  have T : Tx w K mg D := {
    g_BadDays := PySem.W.mg_of X G g_BadDays,
    g_TooMany := PySem.W.mg_of X G g_TooMany,
    g_Days := PySem.W.mg_of X G g_Days,
    cl_Days := ⟨cl1_Days, cl2_Days, cl3_Days, cl4_Days⟩,
    mk_Days := ⟨mk1_Days, mk2_Days, mk3_Days, mk4_Days⟩,
    me_Days_each := ⟨me1_Days_each, me2_Days_each, me3_Days_each⟩,
    me_Days_from_day := ⟨me1_Days_from_day, me2_Days_from_day, me3_Days_from_day⟩,
    me_Days_listed := ⟨me1_Days_listed, me2_Days_listed, me3_Days_listed⟩,
    na_Days_row := na_Days_row,
    ox_BadDays := ⟨⟨_, _, _, _, _, _, _, _, _, _, _, _, _, _, _, oa_BadDays, ob_BadDays⟩, oc_BadDays, od_BadDays, oe_BadDays, of_BadDays⟩,
    ix_BadDays := ix_BadDays,
    tx_BadDays := tx_BadDays,
    no_BadDays_at := no_BadDays_at,
    ox_TooMany := ⟨⟨_, _, _, _, _, _, _, _, _, _, _, _, _, _, _, oa_TooMany, ob_TooMany⟩, oc_TooMany, od_TooMany, oe_TooMany, of_TooMany⟩,
    ix_TooMany := ix_TooMany,
    tx_TooMany := tx_TooMany,
    no_TooMany_what := no_TooMany_what,
    ha_Days := ha_Days,
    hm_Days := hm_Days,
    tf_Days := ⟨tf_Days_NoneType, tf_Days_bool, tf_Days_int, tf_Days_str, tf_Days_tuple, tf_Days_list⟩,
    nb1_bool_Days := kit_bt (by decide +kernel) nb_bool_Days,
    nb1_int_Days := kit_bt (by decide +kernel) nb_int_Days,
    nb1_list_Days := kit_bt (by decide +kernel) nb_list_Days,
    it_Days := fun q => kit_typ cl2_Days xt_Days (TypF.at ⟨tf_Days_NoneType, tf_Days_bool, tf_Days_int, tf_Days_str, tf_Days_tuple, tf_Days_list⟩ q),
    ik_Days_Days := kit_same,
    nf_Days_Days := nf_same,
    om_Days___contains__ := ⟨om1_Days___contains__, om2_Days___contains__⟩,
    om_Days___eq__ := ⟨om1_Days___eq__, om2_Days___eq__⟩,
    om_Days___len__ := ⟨om1_Days___len__, om2_Days___len__⟩,
    om_Days___repr__ := ⟨om1_Days___repr__, om2_Days___repr__⟩,
    om_Days___str__ := ⟨om1_Days___str__, om2_Days___str__⟩,
    on_Days := on_Days,
    ki := ⟨ki1, ki2⟩,
    ck_Days_LAST := ck_of ck1_Days ck2_Days ck3_Days_LAST kv_int,
    ck_Days_MOST := ck_of ck1_Days ck2_Days ck3_Days_MOST kv_int,
    ew := rfl,
    m_is_integer := PySem.W.mg_of X G a0,
    k_is_integer := k0,
    f_is_integer := F0,
    b_is_integer := F0.binds (ps := p_is_integer) fun _ _ _ _ _ _ us hl => match us, hl with | [_], _ => rfl,
    m_is_day := PySem.W.mg_of X G a1,
    k_is_day := k1,
    f_is_day := F1,
    b_is_day := F1.binds (ps := p_is_day) fun _ _ _ _ _ _ us hl => match us, hl with | [_], _ => rfl,
    m_pieces_of := PySem.W.mg_of X G a2,
    k_pieces_of := k2,
    f_pieces_of := F2,
    b_pieces_of := F2.binds (ps := p_pieces_of) fun _ _ _ _ _ _ us hl => match us, hl with | [_], _ => rfl,
    f_Days___init__ := F3,
    bv_Days___init__ := bv1 (fun _ => rfl) (fun _ _ _ => rfl),
    f_Days_listed := F4,
    b_Days_listed := F4.binds (ps := p_Days_listed) fun _ _ _ _ _ _ us hl => match us, hl with | [_], _ => rfl,
    f_Days_from_day := F5,
    b_Days_from_day := F5.binds (ps := p_Days_from_day) fun _ _ _ _ _ _ us hl => match us, hl with | [_, _], _ => rfl,
    f_Days___len__ := F6,
    b_Days___len__ := F6.binds (ps := p_Days___len__) fun _ _ _ _ _ _ us hl => match us, hl with | [_], _ => rfl,
    f_Days___contains__ := F7,
    b_Days___contains__ := F7.binds (ps := p_Days___contains__) fun _ _ _ _ _ _ us hl => match us, hl with | [_, _], _ => rfl,
    f_Days___eq__ := F8,
    b_Days___eq__ := F8.binds (ps := p_Days___eq__) fun _ _ _ _ _ _ us hl => match us, hl with | [_, _], _ => rfl,
    f_Days___str__ := F9,
    b_Days___str__ := F9.binds (ps := p_Days___str__) fun _ _ _ _ _ _ us hl => match us, hl with | [_], _ => rfl,
    f_Days___repr__ := F10,
    b_Days___repr__ := F10.binds (ps := p_Days___repr__) fun _ _ _ _ _ _ us hl => match us, hl with | [_], _ => rfl,
    m__law_bag := PySem.W.mg_of X G a11,
    k__law_bag := k11,
    f__law_bag := F11,
    b__law_bag := F11.binds (ps := p__law_bag) fun _ _ _ _ _ _ us hl => match us, hl with | [_, _], _ => rfl,
    m__law_take := PySem.W.mg_of X G a12,
    k__law_take := k12,
    f__law_take := F12,
    b__law_take := F12.binds (ps := p__law_take) fun _ _ _ _ _ _ us hl => match us, hl with | [_, _], _ => rfl,
    m__law_of := PySem.W.mg_of X G a13,
    k__law_of := k13,
    f__law_of := F13,
    b__law_of := F13.binds (ps := p__law_of) fun _ _ _ _ _ _ us hl => match us, hl with | [_, _], _ => rfl,
    m__law_day := PySem.W.mg_of X G a14,
    k__law_day := k14,
    f__law_day := F14,
    b__law_day := F14.binds (ps := p__law_day) fun _ _ _ _ _ _ us hl => match us, hl with | [_], _ => rfl,
    m__law_some := PySem.W.mg_of X G a15,
    k__law_some := k15,
    f__law_some := F15,
    b__law_some := F15.binds (ps := p__law_some) fun _ _ _ _ _ _ us hl => match us, hl with | [_], _ => rfl,
    m__law_made := PySem.W.mg_of X G a16,
    k__law_made := k16,
    f__law_made := F16,
    b__law_made := F16.binds (ps := p__law_made) fun _ _ _ _ _ _ us hl => match us, hl with | [_], _ => rfl,
    m__law_written := PySem.W.mg_of X G a17,
    k__law_written := k17,
    f__law_written := F17,
    b__law_written := F17.binds (ps := p__law_written) fun _ _ _ _ _ _ us hl => match us, hl with | [_], _ => rfl,
    m__law_is_list := PySem.W.mg_of X G a18,
    k__law_is_list := k18,
    f__law_is_list := F18,
    b__law_is_list := F18.binds (ps := p__law_is_list) fun _ _ _ _ _ _ us hl => match us, hl with | [_, _], _ => rfl,
    m__law_from := PySem.W.mg_of X G a19,
    k__law_from := k19,
    f__law_from := F19,
    b__law_from := F19.binds (ps := p__law_from) fun _ _ _ _ _ _ us hl => match us, hl with | [_, _], _ => rfl,
    m__law_asked := PySem.W.mg_of X G a20,
    k__law_asked := k20,
    f__law_asked := F20,
    b__law_asked := F20.binds (ps := p__law_asked) fun _ _ _ _ _ _ us hl => match us, hl with | [_, _, _], _ => rfl,
    m_law := PySem.W.mg_of X G a21,
    k_law := k21,
    f_law := F21,
    b_law := F21.binds (ps := p_law) fun _ _ _ _ _ _ us hl => match us, hl with | [_], _ => rfl,
    f_BadDays___init__ := F22,
    b_BadDays___init__ := F22.binds (ps := p_BadDays___init__) fun _ _ _ _ _ _ us hl => match us, hl with | [_, _], _ => rfl,
    f_TooMany___init__ := F23,
    b_TooMany___init__ := F23.binds (ps := p_TooMany___init__) fun _ _ _ _ _ _ us hl => match us, hl with | [_, _], _ => rfl,
    f_Days_each := F24,
    b_Days_each := F24.binds (ps := p_Days_each) fun _ _ _ _ _ _ us hl => match us, hl with | [_], _ => rfl,
    n_abs := PySem.W.mg_none_of X G z_abs,
    n_all := PySem.W.mg_none_of X G z_all,
    n_bool := PySem.W.mg_none_of X G z_bool,
    n_enumerate := PySem.W.mg_none_of X G z_enumerate,
    n_int := PySem.W.mg_none_of X G z_int,
    n_isinstance := PySem.W.mg_none_of X G z_isinstance,
    n_len := PySem.W.mg_none_of X G z_len,
    n_list := PySem.W.mg_none_of X G z_list,
    n_max := PySem.W.mg_none_of X G z_max,
    n_min := PySem.W.mg_none_of X G z_min,
    n_range := PySem.W.mg_none_of X G z_range,
    n_repr := PySem.W.mg_none_of X G z_repr,
    n_set := PySem.W.mg_none_of X G z_set,
    n_sorted := PySem.W.mg_none_of X G z_sorted,
    n_str := PySem.W.mg_none_of X G z_str,
    n_tuple := PySem.W.mg_none_of X G z_tuple,
    g_LAST_DAY := gk_of X G v_LAST_DAY kv_int,
    g_MOST_DAYS := gk_of X G v_MOST_DAYS kv_int }
  exact ⟨D.d_law, fun s v => .of_eq rfl, fun base _ _ => ((all T 5).o_law).imp (spL_imp (Z := zz K D) rfl good)⟩
end Vm.k02
open PySem PySem.W PyProof.Rows in
set_option maxRecDepth 100000 in
set_option maxHeartbeats 0 in
theorem PySem.Challenge.cw_madeahead_k02_days_made_holds : PySem.Challenge.rw_madeahead_k02_days_made.Holds := by
  w_on; o_law; k_head; (case hw => w_witness2)
  k_fill
  refine Vm.walkV (k := 3 * 5 + 2) (l := PySem.Challenge.rw_madeahead_k02_days_made) rfl rfl ⟨rfl, by decide, by decide⟩ (fun w h Y => PySem.W.kIn_of Y) ?F
  case F =>
    intro w mg fa h KX G hmg
    refine' Vm.k02.all_mk KX G hmg ?g_BadDays ?g_TooMany ?g_Days ?cl1_Days ?cl2_Days ?cl3_Days ?cl4_Days ?mk2_Days ?mk1_Days ?mk3_Days ?mk4_Days ?me1_Days_each ?me2_Days_each ?me3_Days_each ?me1_Days_from_day ?me2_Days_from_day ?me3_Days_from_day ?me1_Days_listed ?me2_Days_listed ?me3_Days_listed ?na_Days_row ?ix_BadDays ?oa_BadDays ?ob_BadDays ?oc_BadDays ?od_BadDays ?oe_BadDays ?of_BadDays ?tx_BadDays ?no_BadDays_at ?ix_TooMany ?oa_TooMany ?ob_TooMany ?oc_TooMany ?od_TooMany ?oe_TooMany ?of_TooMany ?tx_TooMany ?no_TooMany_what ?ha_Days ?hm_Days ?tf_Days_NoneType ?tf_Days_bool ?tf_Days_int ?tf_Days_str ?tf_Days_tuple ?tf_Days_list ?nb_bool_Days ?nb_int_Days ?nb_list_Days ?xt_Days ?om1_Days___contains__ ?om2_Days___contains__ ?om1_Days___eq__ ?om2_Days___eq__ ?om1_Days___len__ ?om2_Days___len__ ?om1_Days___repr__ ?om2_Days___repr__ ?om1_Days___str__ ?om2_Days___str__ ?on_Days ?ki1 ?ki2 ?a0 ?a1 ?a2 ?a11 ?a12 ?a13 ?a14 ?a15 ?a16 ?a17 ?a18 ?a19 ?a20 ?a21 ?z_abs ?z_all ?z_bool ?z_enumerate ?z_int ?z_isinstance ?z_len ?z_list ?z_max ?z_min ?z_range ?z_repr ?z_set ?z_sorted ?z_str ?z_tuple ?v_LAST_DAY ?v_MOST_DAYS ?ck1_Days ?ck2_Days ?ck3_Days_LAST ?ck3_Days_MOST ?l0 ?c0 ?k0 ?l1 ?c1 ?k1 ?l2 ?c2 ?k2 ?l3 ?c3 ?k3 ?l4 ?c4 ?k4 ?l5 ?c5 ?k5 ?l6 ?c6 ?k6 ?l7 ?c7 ?k7 ?l8 ?c8 ?k8 ?l9 ?c9 ?k9 ?l10 ?c10 ?k10 ?l11 ?c11 ?k11 ?l12 ?c12 ?k12 ?l13 ?c13 ?k13 ?l14 ?c14 ?k14 ?l15 ?c15 ?k15 ?l16 ?c16 ?k16 ?l17 ?c17 ?k17 ?l18 ?c18 ?k18 ?l19 ?c19 ?k19 ?l20 ?c20 ?k20 ?l21 ?c21 ?k21 ?l22 ?c22 ?k22 ?l23 ?c23 ?k23 ?l24 ?c24 ?k24
    (case g_BadDays => k_is)
    (case g_TooMany => k_is)
    (case g_Days => k_is)
    (case cl1_Days => k_is)
    (case cl2_Days => k_is)
    (case cl3_Days => k_is)
    (case cl4_Days => k_is)
    (case mk2_Days => k_is)
    (case mk1_Days => k_is)
    (case mk3_Days => k_is)
    (case mk4_Days => k_is)
    (case me1_Days_each => k_is)
    (case me2_Days_each => k_is)
    (case me3_Days_each => k_is)
    (case me1_Days_from_day => k_is)
    (case me2_Days_from_day => k_is)
    (case me3_Days_from_day => k_is)
    (case me1_Days_listed => k_is)
    (case me2_Days_listed => k_is)
    (case me3_Days_listed => k_is)
    (case na_Days_row => k_is)
    (case ix_BadDays => k_is)
    (case oa_BadDays => k_is)
    (case ob_BadDays => first | rfl | decide +kernel)
    (case oc_BadDays => k_is)
    (case od_BadDays => k_is)
    (case oe_BadDays => k_is)
    (case of_BadDays => k_is)
    (case tx_BadDays => k_is)
    (case no_BadDays_at => k_is)
    (case ix_TooMany => k_is)
    (case oa_TooMany => k_is)
    (case ob_TooMany => first | rfl | decide +kernel)
    (case oc_TooMany => k_is)
    (case od_TooMany => k_is)
    (case oe_TooMany => k_is)
    (case of_TooMany => k_is)
    (case tx_TooMany => k_is)
    (case no_TooMany_what => k_is)
    (case ha_Days => k_is)
    (case hm_Days => k_is)
    (case tf_Days_NoneType => k_is)
    (case tf_Days_bool => k_is)
    (case tf_Days_int => k_is)
    (case tf_Days_str => k_is)
    (case tf_Days_tuple => k_is)
    (case tf_Days_list => k_is)
    (case nb_bool_Days => k_is)
    (case nb_int_Days => k_is)
    (case nb_list_Days => k_is)
    (case xt_Days => k_is)
    (case om1_Days___contains__ => k_is)
    (case om2_Days___contains__ => k_is)
    (case om1_Days___eq__ => k_is)
    (case om2_Days___eq__ => k_is)
    (case om1_Days___len__ => k_is)
    (case om2_Days___len__ => k_is)
    (case om1_Days___repr__ => k_is)
    (case om2_Days___repr__ => k_is)
    (case om1_Days___str__ => k_is)
    (case om2_Days___str__ => k_is)
    (case on_Days => k_is)
    (case ki1 => k_is)
    (case ki2 => k_is)
    (case a0 => k_is)
    (case a1 => k_is)
    (case a2 => k_is)
    (case a11 => k_is)
    (case a12 => k_is)
    (case a13 => k_is)
    (case a14 => k_is)
    (case a15 => k_is)
    (case a16 => k_is)
    (case a17 => k_is)
    (case a18 => k_is)
    (case a19 => k_is)
    (case a20 => k_is)
    (case a21 => k_is)
    (case z_abs => k_is)
    (case z_all => k_is)
    (case z_bool => k_is)
    (case z_enumerate => k_is)
    (case z_int => k_is)
    (case z_isinstance => k_is)
    (case z_len => k_is)
    (case z_list => k_is)
    (case z_max => k_is)
    (case z_min => k_is)
    (case z_range => k_is)
    (case z_repr => k_is)
    (case z_set => k_is)
    (case z_sorted => k_is)
    (case z_str => k_is)
    (case z_tuple => k_is)
    (case v_LAST_DAY => k_is)
    (case v_MOST_DAYS => k_is)
    (case ck1_Days => k_is)
    (case ck2_Days => k_is)
    (case ck3_Days_LAST => k_is)
    (case ck3_Days_MOST => k_is)
    (case l0 => k_is)
    (case c0 => k_is)
    (case k0 => k_is)
    (case l1 => k_is)
    (case c1 => k_is)
    (case k1 => k_is)
    (case l2 => k_is)
    (case c2 => k_is)
    (case k2 => k_is)
    (case l3 => k_is)
    (case c3 => k_is)
    (case k3 => k_is)
    (case l4 => k_is)
    (case c4 => k_is)
    (case k4 => k_is)
    (case l5 => k_is)
    (case c5 => k_is)
    (case k5 => k_is)
    (case l6 => k_is)
    (case c6 => k_is)
    (case k6 => k_is)
    (case l7 => k_is)
    (case c7 => k_is)
    (case k7 => k_is)
    (case l8 => k_is)
    (case c8 => k_is)
    (case k8 => k_is)
    (case l9 => k_is)
    (case c9 => k_is)
    (case k9 => k_is)
    (case l10 => k_is)
    (case c10 => k_is)
    (case k10 => k_is)
    (case l11 => k_is)
    (case c11 => k_is)
    (case k11 => k_is)
    (case l12 => k_is)
    (case c12 => k_is)
    (case k12 => k_is)
    (case l13 => k_is)
    (case c13 => k_is)
    (case k13 => k_is)
    (case l14 => k_is)
    (case c14 => k_is)
    (case k14 => k_is)
    (case l15 => k_is)
    (case c15 => k_is)
    (case k15 => k_is)
    (case l16 => k_is)
    (case c16 => k_is)
    (case k16 => k_is)
    (case l17 => k_is)
    (case c17 => k_is)
    (case k17 => k_is)
    (case l18 => k_is)
    (case c18 => k_is)
    (case k18 => k_is)
    (case l19 => k_is)
    (case c19 => k_is)
    (case k19 => k_is)
    (case l20 => k_is)
    (case c20 => k_is)
    (case k20 => k_is)
    (case l21 => k_is)
    (case c21 => k_is)
    (case k21 => k_is)
    (case l22 => k_is)
    (case c22 => k_is)
    (case k22 => k_is)
    (case l23 => k_is)
    (case c23 => k_is)
    (case k23 => k_is)
    (case l24 => k_is)
    (case c24 => k_is)
    (case k24 => k_is)
