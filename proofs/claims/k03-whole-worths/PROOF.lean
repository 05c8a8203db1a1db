import PyProof.Rows.All
import Wide.All
import OpenK.AllK
import Wide.FinOn
import HandS.Base
import HandS.Call
import HandS.List
import KE.KeyNested
import HandS.Comp
import HandS.Exc
import HandS.Slots
import HandS.Words
import HandS.Dict
import KE.KDictCopyH
import KE.KDictWalk
import KE.KDictPairs
import HandS.TupLen
import HandS.Iter
import HandS.Zip
import KE.GoesEnum
import HandS.More
import HandS.SlotsOwn
import HandS.IsInst
import HandS.Wide
import HandS.TupAny
import HandS.TupLe
import HandS.Deep
import HandS.Star
import HandS.CallSlots
import HandS.ExcOwn
import HandS.HeadWalk
import HandS.Conv
import HandS.Style
import HandS.TupSets
import PyProof.AutoSeq1
import HandS.DictComp
import HandS.Defaults
import KE.KStateDown
import HandS.Head0
import HandS.Head1
import HandS.Head2
import HandS.HeadEnd
import HandS.HeadHook1
import HandS.HeadHook2
import PyProof.P3Eq
import PySem.Challenge.RW_coolway_k03_whole_worths
section
set_option Elab.async false
set_option linter.all false
/-! Ev: a small evaluator for the part of Python that stands in the texts: values, memory, results. -/
namespace Ev
open PySem

/-- values: tuples are plain, everything that changes stands in the memory -/
inductive PV where
  | non
  | bl (b : Bool)
  | int (i : Int)
  | str (x : Str)
  | tup (xs : List PV)
  | ref (n : Nat)

/-- what stands in the memory -/
inductive Ob where
  | lst (xs : List PV)
  | dic (kvs : List (PV × PV))
  | ins (c : Nat) (fs : List (Option PV))
  /-- a list that is read alone: the script -/
  | scr (xs : List PV)

/-- a raised exception: which class, what its one attribute holds -/
structure Exc where
  cls : Nat
  arg : Option PV

/-! ### the memory: a tree over paths -/
inductive Tr where
  | lf
  | nd (o : Option Ob) (l r : Tr)

def path : Nat → Nat → List Bool
  | 0, _ => []
  | f + 1, n => match n with
    | 0 => []
    | m + 1 => (match Nat.beq (m % 2) 0 with | true => true | false => false) :: path f (m / 2)
def Tr.get : Tr → List Bool → Option Ob
  | .lf, _ => none
  | .nd o _ _, [] => o
  | .nd _ l r, b :: bs => match b with
    | true => l.get bs
    | false => r.get bs
def Tr.put (o : Ob) : List Bool → Tr → Tr
  | [], .lf => .nd (some o) .lf .lf
  | [], .nd _ l r => .nd (some o) l r
  | b :: bs, .lf => match b with
    | true => .nd none (Tr.put o bs .lf) .lf
    | false => .nd none .lf (Tr.put o bs .lf)
  | b :: bs, .nd v l r => match b with
    | true => .nd v (Tr.put o bs l) r
    | false => .nd v l (Tr.put o bs r)
theorem Tr.get_lf : ∀ p : List Bool, Tr.lf.get p = none
  | [] => rfl
  | _ :: _ => rfl
theorem Tr.get_put (o : Ob) : ∀ (p : List Bool) (t : Tr), (Tr.put o p t).get p = some o
  | [], .lf => rfl
  | [], .nd _ _ _ => rfl
  | true :: bs, .lf => Tr.get_put o bs .lf
  | false :: bs, .lf => Tr.get_put o bs .lf
  | true :: bs, .nd _ l _ => Tr.get_put o bs l
  | false :: bs, .nd _ _ r => Tr.get_put o bs r
theorem Tr.get_put_ne (o : Ob) : ∀ (p q : List Bool) (t : Tr), p ≠ q → (Tr.put o p t).get q = t.get q
  | [], [], _, h => absurd rfl h
  | [], true :: bs, .lf, _ => by
    show Tr.lf.get bs = _
    rw [Tr.get_lf, Tr.get_lf]
  | [], false :: bs, .lf, _ => by
    show Tr.lf.get bs = _
    rw [Tr.get_lf, Tr.get_lf]
  | [], b :: bs, .nd _ _ _, _ => by cases b <;> rfl
  | true :: bs, [], .lf, _ => rfl
  | false :: bs, [], .lf, _ => rfl
  | true :: bs, [], .nd _ _ _, _ => rfl
  | false :: bs, [], .nd _ _ _, _ => rfl
  | true :: bs, true :: cs, .lf, h => Tr.get_put_ne o bs cs .lf (fun e => h (by rw [e]))
  | true :: bs, false :: cs, .lf, _ => by
    show Tr.lf.get cs = _
    rw [Tr.get_lf, Tr.get_lf]
  | false :: bs, true :: cs, .lf, _ => by
    show Tr.lf.get cs = _
    rw [Tr.get_lf, Tr.get_lf]
  | false :: bs, false :: cs, .lf, h => Tr.get_put_ne o bs cs .lf (fun e => h (by rw [e]))
  | true :: bs, true :: cs, .nd _ l _, h => Tr.get_put_ne o bs cs l (fun e => h (by rw [e]))
  | true :: bs, false :: cs, .nd _ _ _, _ => rfl
  | false :: bs, true :: cs, .nd _ _ _, _ => rfl
  | false :: bs, false :: cs, .nd _ _ r, h => Tr.get_put_ne o bs cs r (fun e => h (by rw [e]))
def unpath : List Bool → Nat
  | [] => 0
  | true :: bs => 2 * unpath bs + 1
  | false :: bs => 2 * unpath bs + 2
theorem unpath_path : ∀ f n, n ≤ f → unpath (path f n) = n
  | 0, n, h => by have : n = 0 := by omega
                  subst this; rfl
  | f + 1, 0, _ => rfl
  | f + 1, m + 1, h => by
    have ih := unpath_path f (m / 2) (by omega)
    unfold path
    cases e : Nat.beq (m % 2) 0 with
    | true =>
      have e' : m % 2 = 0 := Nat.eq_of_beq_eq_true e
      simp only [e, unpath, ih]
      omega
    | false =>
      have e' : m % 2 ≠ 0 := Nat.ne_of_beq_eq_false e
      simp only [e, unpath, ih]
      omega
theorem path_inj {m n : Nat} (h : path m m = path n n) : m = n := by
  rw [← unpath_path m m (Nat.le_refl _), h, unpath_path n n (Nat.le_refl _)]

structure Mem where
  size : Nat
  tr : Tr
  /-- lists that are walked; dicts that are walked -/
  locks : List Nat
  dl : List Nat

def Mem.get (h : Mem) (n : Nat) : Option Ob := match Nat.blt n h.size with
  | true => h.tr.get (path n n)
  | false => none
def Mem.push (h : Mem) (o : Ob) : Mem := ⟨h.size + 1, h.tr.put o (path h.size h.size), h.locks, h.dl⟩
def Mem.set (h : Mem) (n : Nat) (o : Ob) : Mem := ⟨h.size, h.tr.put o (path n n), h.locks, h.dl⟩
def Mem.lock (h : Mem) (ns : List Nat) : Mem := ⟨h.size, h.tr, ns ++ h.locks, h.dl⟩
def Mem.unlock (h : Mem) (ns : List Nat) : Mem := ⟨h.size, h.tr, h.locks.drop ns.length, h.dl⟩
def Mem.lockD (h : Mem) (n : Nat) : Mem := ⟨h.size, h.tr, h.locks, n :: h.dl⟩
def Mem.unlockD (h : Mem) : Mem := ⟨h.size, h.tr, h.locks, h.dl.tail⟩
def memb (n : Nat) : List Nat → Bool
  | [] => false
  | m :: r => match Nat.beq n m with
    | true => true
    | false => memb n r
def Mem.free (h : Mem) (n : Nat) : Bool := match memb n h.locks with
  | true => false
  | false => true

def Mem.freeD (h : Mem) (n : Nat) : Bool := match memb n h.dl with
  | true => false
  | false => true

theorem blt_iff {a b : Nat} : Nat.blt a b = true ↔ a < b := by
  show Nat.ble (a + 1) b = true ↔ _
  rw [Nat.ble_eq]
  exact Iff.rfl
theorem Mem.get_lt {h : Mem} {n : Nat} {o : Ob} (e : h.get n = some o) : n < h.size := by
  unfold Mem.get at e
  cases q : Nat.blt n h.size with
  | true => exact blt_iff.mp q
  | false => rw [q] at e; cases e
theorem Mem.get_of_lt {h : Mem} {n : Nat} (l : n < h.size) : h.get n = h.tr.get (path n n) := by
  unfold Mem.get
  rw [blt_iff.mpr l]
theorem Mem.get_none {h : Mem} {n : Nat} (l : h.size ≤ n) : h.get n = none := by
  cases e : h.get n with
  | none => rfl
  | some o => exact absurd (Mem.get_lt e) (by omega)
@[simp] theorem Mem.size_push (h : Mem) (o : Ob) : (h.push o).size = h.size + 1 := rfl
@[simp] theorem Mem.size_set (h : Mem) (n : Nat) (o : Ob) : (h.set n o).size = h.size := rfl
@[simp] theorem Mem.size_lock (h : Mem) (ns : List Nat) : (h.lock ns).size = h.size := rfl
@[simp] theorem Mem.size_unlock (h : Mem) (ns : List Nat) : (h.unlock ns).size = h.size := rfl
@[simp] theorem Mem.size_lockD (h : Mem) (n : Nat) : (h.lockD n).size = h.size := rfl
@[simp] theorem Mem.size_unlockD (h : Mem) : (h.unlockD).size = h.size := rfl
@[simp] theorem Mem.dl_push (h : Mem) (o : Ob) : (h.push o).dl = h.dl := rfl
@[simp] theorem Mem.dl_set (h : Mem) (n : Nat) (o : Ob) : (h.set n o).dl = h.dl := rfl
@[simp] theorem Mem.dl_lock (h : Mem) (ns : List Nat) : (h.lock ns).dl = h.dl := rfl
@[simp] theorem Mem.dl_unlock (h : Mem) (ns : List Nat) : (h.unlock ns).dl = h.dl := rfl
@[simp] theorem Mem.dl_lockD (h : Mem) (n : Nat) : (h.lockD n).dl = n :: h.dl := rfl
@[simp] theorem Mem.dl_unlockD (h : Mem) : h.unlockD.dl = h.dl.tail := rfl
@[simp] theorem Mem.locks_lockD (h : Mem) (n : Nat) : (h.lockD n).locks = h.locks := rfl
@[simp] theorem Mem.locks_unlockD (h : Mem) : h.unlockD.locks = h.locks := rfl
@[simp] theorem Mem.locks_push (h : Mem) (o : Ob) : (h.push o).locks = h.locks := rfl
@[simp] theorem Mem.locks_set (h : Mem) (n : Nat) (o : Ob) : (h.set n o).locks = h.locks := rfl
@[simp] theorem Mem.locks_lock (h : Mem) (ns : List Nat) : (h.lock ns).locks = ns ++ h.locks := rfl
@[simp] theorem Mem.locks_unlock (h : Mem) (ns : List Nat) : (h.unlock ns).locks = h.locks.drop ns.length := rfl
theorem Mem.get_push_new (h : Mem) (o : Ob) : (h.push o).get h.size = some o := by
  rw [Mem.get_of_lt (by simp)]
  exact Tr.get_put _ _ _
theorem Mem.get_push_old {h : Mem} {n : Nat} (o : Ob) (l : n < h.size) : (h.push o).get n = h.get n := by
  rw [Mem.get_of_lt (by simp; omega), Mem.get_of_lt l]
  exact Tr.get_put_ne _ _ _ _ fun e => by have := path_inj e; omega
theorem Mem.get_push {h : Mem} {n : Nat} {o u : Ob} (e : h.get n = some u) : (h.push o).get n = some u := by
  rw [Mem.get_push_old o (Mem.get_lt e)]; exact e
theorem Mem.get_set_same {h : Mem} {n : Nat} (o : Ob) (l : n < h.size) : (h.set n o).get n = some o := by
  rw [Mem.get_of_lt (by simpa using l)]
  exact Tr.get_put _ _ _
theorem Mem.get_set_ne {h : Mem} {n m : Nat} (o : Ob) (ne : m ≠ n) : (h.set n o).get m = h.get m := by
  by_cases l : m < h.size
  · rw [Mem.get_of_lt (by simpa using l), Mem.get_of_lt l]
    exact Tr.get_put_ne _ _ _ _ fun e => ne (path_inj e).symm
  · rw [Mem.get_none (by simpa using l), Mem.get_none (by omega)]
@[simp] theorem Mem.get_lock (h : Mem) (ns : List Nat) (n : Nat) : (h.lock ns).get n = h.get n := rfl
@[simp] theorem Mem.get_unlock (h : Mem) (ns : List Nat) (n : Nat) : (h.unlock ns).get n = h.get n := rfl
@[simp] theorem Mem.get_lockD (h : Mem) (n k : Nat) : (h.lockD n).get k = h.get k := rfl
@[simp] theorem Mem.get_unlockD (h : Mem) (k : Nat) : h.unlockD.get k = h.get k := rfl
theorem memb_iff {n : Nat} : ∀ {l : List Nat}, memb n l = true ↔ n ∈ l
  | [] => by simp [memb]
  | m :: r => by
    unfold memb
    cases e : Nat.beq n m with
    | true => simp [Nat.eq_of_beq_eq_true e]
    | false => simp [Nat.ne_of_beq_eq_false e, memb_iff (l := r)]
theorem Mem.free_iff {h : Mem} {n : Nat} : h.free n = true ↔ n ∉ h.locks := by
  unfold Mem.free
  cases e : memb n h.locks with
  | true => simp [memb_iff.mp e]
  | false => simp [← memb_iff, e]

theorem Mem.freeD_iff {h : Mem} {n : Nat} : h.freeD n = true ↔ memb n h.dl = false := by
  unfold Mem.freeD
  cases memb n h.dl <;> simp

/-! ### results -/
inductive Res (α : Type) where
  | ok (a : α) (h : Mem)
  | err (x : Exc) (h : Mem)
  | bad
def Res.bind {α β : Type} (r : Res α) (f : α → Mem → Res β) : Res β := match r with
  | .ok a h => f a h
  | .err x h => .err x h
  | .bad => .bad
def ofO {α : Type} (o : Option α) (h : Mem) : Res α := match o with
  | some a => .ok a h
  | none => .bad
@[simp] theorem Res.bind_ok {α β : Type} (a : α) (h : Mem) (f : α → Mem → Res β) : (Res.ok a h).bind f = f a h := rfl
@[simp] theorem Res.bind_err {α β : Type} (x : Exc) (h : Mem) (f : α → Mem → Res β) : (Res.err x h : Res α).bind f = .err x h := rfl
@[simp] theorem Res.bind_bad {α β : Type} (f : α → Mem → Res β) : (Res.bad : Res α).bind f = .bad := rfl
@[simp] theorem ofO_some {α : Type} (a : α) (h : Mem) : ofO (some a) h = .ok a h := rfl
@[simp] theorem ofO_none {α : Type} (h : Mem) : ofO (none : Option α) h = .bad := rfl

abbrev Env := List (Option PV)
/-- a statement's end -/
inductive SR where
  | nx (s : Env) (h : Mem)
  | rt (v : PV) (h : Mem)
  | bk (s : Env) (h : Mem)
  | ct (s : Env) (h : Mem)
  | er (x : Exc) (s : Env) (h : Mem)
  | bad
abbrev Calls := Nat → List PV → Mem → Res PV
abbrev XE := Calls → Env → Mem → Res PV
abbrev XA := Calls → Env → Mem → Res (List PV)
abbrev XT := Calls → Env → Mem → Res Bool
abbrev XS := Calls → Env → Mem → SR
/-- what a loop walks: the items, and what is locked meanwhile -/
abbrev XI := Calls → Env → Mem → Res (List PV × List Nat)
/-- a target -/
abbrev XG := Calls → PV → Env → Mem → Res Env
end Ev
end

section
set_option Elab.async false
set_option linter.all false
/-! Ev: the evaluator's pieces, one for each construct. -/
namespace Ev
open PySem

/-! ### small tests that the kernel reckons quickly -/
def fitsN (n : Nat) : Bool := Nat.ble n 65536
def fits {α : Type} (xs : List α) : Bool := fitsN xs.length
def ilt : Int → Int → Bool
  | .ofNat a, .ofNat b => Nat.blt a b
  | .ofNat _, .negSucc _ => false
  | .negSucc _, .ofNat _ => true
  | .negSucc a, .negSucc b => Nat.blt b a
def ieq : Int → Int → Bool
  | .ofNat a, .ofNat b => Nat.beq a b
  | .ofNat _, .negSucc _ => false
  | .negSucc _, .ofNat _ => false
  | .negSucc a, .negSucc b => Nat.beq a b
theorem ilt_iff {i j : Int} : ilt i j = true ↔ i < j := by
  cases i with
  | ofNat a => cases j with
    | ofNat b => simp only [ilt, blt_iff, Int.ofNat_eq_natCast]; omega
    | negSucc b =>
      refine ⟨fun z => (nomatch z), fun z => ?_⟩
      simp only [Int.ofNat_eq_natCast] at z
      omega
  | negSucc a => cases j with
    | ofNat b =>
      refine ⟨fun _ => ?_, fun _ => rfl⟩
      simp only [Int.ofNat_eq_natCast]
      omega
    | negSucc b => simp only [ilt, blt_iff]; omega
theorem ieq_iff {i j : Int} : ieq i j = true ↔ i = j := by
  cases i with
  | ofNat a => cases j with
    | ofNat b => simp only [ieq, Nat.beq_eq, Int.ofNat_eq_natCast]; omega
    | negSucc b => exact ⟨fun z => (nomatch z), fun z => (nomatch z)⟩
  | negSucc a => cases j with
    | ofNat b => exact ⟨fun z => (nomatch z), fun z => (nomatch z)⟩
    | negSucc b => simp only [ieq, Nat.beq_eq]; omega
theorem ilt_eq (i j : Int) : ilt i j = decide (i < j) := by
  rw [Bool.eq_iff_iff, ilt_iff, decide_eq_true_iff]
theorem ieq_eq (i j : Int) : ieq i j = decide (i = j) := by
  rw [Bool.eq_iff_iff, ieq_iff, decide_eq_true_iff]
def ile (i j : Int) : Bool := match ilt j i with | true => false | false => true
theorem ile_eq (i j : Int) : ile i j = decide (i ≤ j) := by
  unfold ile
  rw [ilt_eq]
  by_cases h : j < i
  · rw [decide_eq_true h, decide_eq_false (by omega)]
  · rw [decide_eq_false h, decide_eq_true (by omega)]
def lt64 (i : Int) : Bool := Nat.blt i.natAbs 18446744073709551616
theorem lt64_iff {i : Int} : lt64 i = true ↔ -(2 ^ 64) < i ∧ i < 2 ^ 64 := by
  unfold lt64
  rw [blt_iff]
  omega
def bnot (b : Bool) : Bool := match b with | true => false | false => true
@[simp] theorem bnot_eq (b : Bool) : bnot b = !b := by cases b <;> rfl
/-- if, on a computed bool -/
def cnd {α : Sort u} (b : Bool) (x y : α) : α := match b with | true => x | false => y
@[simp] theorem cnd_true {α : Sort u} (x y : α) : cnd true x y = x := rfl
@[simp] theorem cnd_false {α : Sort u} (x y : α) : cnd false x y = y := rfl
theorem fits_le {α : Type} {xs : List α} (h : fits xs = true) : xs.length ≤ sizeLine := by
  have h1 : xs.length ≤ 65536 := by
    unfold fits fitsN at h
    rwa [Nat.ble_eq] at h
  have : sizeLine = 16777216 := by decide
  omega

/-! ### data, for == -/
def toD (h : Mem) : Nat → PV → Option PyData
  | 0, _ => none
  | n + 1, v => match v with
    | .non => some .none
    | .bl b => some (.bool b)
    | .int i => some (.int i)
    | .str x => some (.str x)
    | .tup xs => (go (toD h n) xs).map PyData.tuple
    | .ref r => match h.get r with
      | some (.lst xs) => (go (toD h n) xs).map PyData.list
      | some (.scr xs) => (go (toD h n) xs).map PyData.list
      | _ => none
where
  go (f : PV → Option PyData) : List PV → Option (List PyData)
  | [] => some []
  | x :: xs => match f x with
    | none => none
    | some d => match go f xs with
      | none => none
      | some ds => some (d :: ds)
/-- == of two values; none: not of the kinds that are served -/
def eqv (h : Mem) (x y : PV) : Option Bool := match toD h 8 x with
  | none => none
  | some d => match toD h 8 y with
    | none => none
    | some e => cnd (SeqAt.shaped d) (cnd (SeqAt.shaped e) (some (PyData.eqv d e)) none) none

/-! ### operators -/
inductive BO where | add | sub | mul | fdiv | mod | pow
def mapInt2 (f : Int → Int → Int) (i j : Int) (h : Mem) : Res PV := .ok (.int (f i j)) h
def listOf (h : Mem) : PV → Option (List PV)
  | .ref a => match h.get a with
    | some (.lst xs) => some xs
    | _ => none
  | _ => none
def addV (x y : PV) (h : Mem) : Res PV := match x with
  | .int i => match y with
    | .int j => .ok (.int (i + j)) h
    | _ => .bad
  | .tup xs => match y with
    | .tup ys => cnd (fits (xs ++ ys)) (.ok (.tup (xs ++ ys)) h) .bad
    | _ => .bad
  | .str a => match y with
    | .str b => cnd (fitsN (a.length + b.length)) (.ok (.str (a ++ b)) h) .bad
    | _ => .bad
  | .ref _ => match listOf h x with
    | some xs => match listOf h y with
      | some ys => cnd (fits (xs ++ ys)) (.ok (.ref h.size) (h.push (.lst (xs ++ ys)))) .bad
      | none => .bad
    | none => .bad
  | _ => .bad
def mulV (x y : PV) (h : Mem) : Res PV := match y with
  | .int j => match x with
    | .int i => cnd (lt64 i) (.ok (.int (i * j)) h) (cnd (lt64 j) (.ok (.int (i * j)) h) .bad)
    | .ref _ => match listOf h x with
      | some xs => cnd (ile 0 j) (cnd (ilt j 65536) (cnd (fitsN (xs.length * j.toNat)) (.ok (.ref h.size) (h.push (.lst (List.replicate j.toNat xs).flatten))) .bad) .bad) .bad
      | none => .bad
    | _ => .bad
  | _ => .bad
def binop (o : BO) (x y : PV) (h : Mem) : Res PV := match o with
  | .add => addV x y h
  | .mul => mulV x y h
  | .sub => match x with
    | .int i => match y with
      | .int j => .ok (.int (i - j)) h
      | _ => .bad
    | _ => .bad
  | .fdiv => match x with
    | .int i => match y with
      | .int j => cnd (ilt 0 j) (cnd (Nat.blt j.natAbs.log2 9000) (.ok (.int (i / j)) h) .bad) .bad
      | _ => .bad
    | _ => .bad
  | .mod => match x with
    | .int i => match y with
      | .int j => cnd (ilt 0 j) (.ok (.int (i % j)) h) .bad
      | _ => .bad
    | _ => .bad
  | .pow => match x with
    | .int i => match y with
      | .int j => cnd (ile 0 j) (cnd (ile j 1000) (cnd (lt64 i) (.ok (.int (i ^ j.toNat)) h) .bad) .bad) .bad
      | _ => .bad
    | _ => .bad
inductive CO where | eq | ne | lt | le | gt | ge | is_ | isnot | in_ | notin
def icmp (f : Int → Int → Bool) (x y : PV) : Option Bool := match x with
  | .int i => match y with
    | .int j => some (f i j)
    | _ => none
  | _ => none
def intsOf : List PV → Option (List Int)
  | [] => some []
  | .int i :: xs => match intsOf xs with
    | some is => some (i :: is)
    | none => none
  | _ :: _ => none
def ltV (x y : PV) : Option Bool := match x with
  | .int _ => icmp ilt x y
  | .tup xs => match y with
    | .tup ys => match intsOf xs with
      | some is => match intsOf ys with
        | some js => some (HT.lexLt is js)
        | none => none
      | none => none
    | _ => none
  | _ => none
def isNon : PV → Bool
  | .non => true
  | _ => false
def beqB (a b : Bool) : Bool := match a with
  | true => b
  | false => bnot b
theorem beqB_eq (a b : Bool) : beqB a b = decide (a = b) := by cases a <;> cases b <;> rfl
def isV (x y : PV) : Option Bool := match y with
  | .non => some (isNon x)
  | .bl b => match x with
    | .bl a => some (beqB a b)
    | _ => none
  | _ => none
/-- x in a list of data -/
def inL (h : Mem) (x : PV) (xs : List PV) : Option Bool := match toD h 8 x with
  | none => none
  | some d => match toD.go (toD h 7) xs with
    | none => none
    | some ds => cnd (SeqAt.shaped d) (cnd (SeqAt.shaped (.list ds)) (some (ds.any fun z => PyData.eqv z d)) none) none
/-- keys of dicts: tuples of ints, None and such tuples -/
def keyG (f : PV → Option NestedKey) : List PV → Option (List NestedKey)
  | [] => some []
  | x :: xs => match f x with
    | none => none
    | some d => match keyG f xs with
      | none => none
      | some ds => some (d :: ds)
def keyE : Nat → PV → Option NestedKey
  | 0, _ => none
  | n + 1, v => match v with
    | .non => some .none
    | .int i => some (.num i)
    | .tup xs => match keyG (keyE n) xs with
      | some ks => some (.tup ks)
      | none => none
    | _ => none
def keyN (x : PV) : Option NestedKey := match x with
  | .tup _ => keyE 8 x
  | _ => none
def kEqL (f : PV → PV → Bool) : List PV → List PV → Bool
  | [], [] => true
  | x :: xs, y :: ys => match f x y with
    | true => kEqL f xs ys
    | false => false
  | _, _ => false
def kEq : Nat → PV → PV → Bool
  | 0, _, _ => false
  | n + 1, x, y => match x with
    | .non => match y with
      | .non => true
      | _ => false
    | .int i => match y with
      | .int j => ieq i j
      | _ => false
    | .tup xs => match y with
      | .tup ys => kEqL (kEq n) xs ys
      | _ => false
    | _ => false
/-- equal keys -/
def tkeyEq (x y : PV) : Bool := kEq 8 x y
def isTKey (x : PV) : Bool := match keyN x with
  | some _ => true
  | none => false
def dlook (k : PV) : List (PV × PV) → Option PV
  | [] => none
  | (j, v) :: r => match tkeyEq j k with | true => some v | false => dlook k r
/-- d[k] = v: the place is the first one's -/
def dput (k v : PV) : List (PV × PV) → List (PV × PV)
  | [] => [(k, v)]
  | (j, u) :: r => match tkeyEq j k with
    | true => (j, v) :: r
    | false => (j, u) :: dput k v r
def dputs : List (PV × PV) → List (PV × PV) → List (PV × PV)
  | acc, [] => acc
  | acc, (k, v) :: r => dputs (dput k v acc) r
/-- hash(k) -/
def hashG (f : PV → Option Int) : List PV → Option (List Int)
  | [] => some []
  | x :: xs => match f x with
    | none => none
    | some d => match hashG f xs with
      | none => none
      | some ds => some (d :: ds)
def hashF : Nat → PV → Option Int
  | 0, _ => none
  | n + 1, v => match v with
    | .non => some (reduceHash 0xFCA86420)
    | .int i => some (hashInt i)
    | .tup xs => match hashG (hashF n) xs with
      | some hs => some (reduceHash (Builtin.Tuple.tupleHashOf hs))
      | none => none
    | _ => none
def hashesF : List (PV × PV) → Option (List Int)
  | [] => some []
  | (k, _) :: r => match hashF 8 k with
    | none => none
    | some d => match hashesF r with
      | none => none
      | some ds => some (d :: ds)
def inI (i : Int) : List Int → Bool
  | [] => false
  | j :: r => match ieq i j with
    | true => true
    | false => inI i r
def nodI : List Int → Bool
  | [] => true
  | i :: r => match inI i r with
    | true => false
    | false => nodI r
/-- the keys' hashes are all different -/
def apart (kvs : List (PV × PV)) : Bool := match hashesF kvs with
  | some hs => nodI hs
  | none => false
/-- no key of the dict hashes as None does -/
def noneFree (kvs : List (PV × PV)) : Bool := match hashesF kvs with
  | some hs => match inI (reduceHash 0xFCA86420) hs with
    | true => false
    | false => true
  | none => false
def inD (x : PV) (kvs : List (PV × PV)) : Option Bool := match x with
  | .non => cnd (noneFree kvs) (some false) none
  | _ => cnd (isTKey x) (some (match dlook x kvs with | some _ => true | none => false)) none
def inV (h : Mem) (x y : PV) : Option Bool := match y with
  | .ref r => match h.get r with
    | some (.lst xs) => inL h x xs
    | some (.dic kvs) => inD x kvs
    | _ => none
  | _ => none
def onot (o : Option Bool) : Option Bool := match o with
  | some b => some (bnot b)
  | none => none
def cmpop (o : CO) (x y : PV) (h : Mem) : Option Bool := match o with
  | .eq => eqv h x y
  | .ne => onot (eqv h x y)
  | .lt => ltV x y
  | .le => icmp ile x y
  | .gt => icmp (fun i j => ilt j i) x y
  | .ge => icmp (fun i j => ile j i) x y
  | .is_ => isV x y
  | .isnot => onot (isV x y)
  | .in_ => inV h x y
  | .notin => onot (inV h x y)

/-! ### expressions -/
def eVar (i : Nat) : XE := fun _ s h => match s[i]? with
  | some (some v) => .ok v h
  | _ => .bad
def eC (v : PV) : XE := fun _ _ h => .ok v h
def eBin (o : BO) (a b : XE) : XE := fun c s h => (a c s h).bind fun x h1 => (b c s h1).bind fun y h2 => binop o x y h2
def eCmp (o : CO) (a b : XE) : XE := fun c s h => (a c s h).bind fun x h1 => (b c s h1).bind fun y h2 => ofO ((cmpop o x y h2).map PV.bl) h2
def eChain (o o' : CO) (a b d : XE) : XE := fun c s h => (a c s h).bind fun x h1 => (b c s h1).bind fun y h2 => match cmpop o x y h2 with
  | some true => (d c s h2).bind fun w h3 => ofO ((cmpop o' y w h3).map PV.bl) h3
  | some false => .ok (.bl false) h2
  | none => .bad
def eAnd (a b : XE) : XE := fun c s h => (a c s h).bind fun x h1 => match x with
  | .bl true => b c s h1
  | .bl false => .ok (.bl false) h1
  | _ => .bad
def eOr (a b : XE) : XE := fun c s h => (a c s h).bind fun x h1 => match x with
  | .bl true => .ok (.bl true) h1
  | .bl false => b c s h1
  | _ => .bad
def eNot (a : XE) : XE := fun c s h => (a c s h).bind fun x h1 => match x with
  | .bl b => .ok (.bl (bnot b)) h1
  | _ => .bad
def eIf (t : XT) (a b : XE) : XE := fun c s h => (t c s h).bind fun b' h1 => match b' with
  | true => a c s h1
  | false => b c s h1
/-- an expression as a test -/
def tE (a : XE) : XT := fun c s h => (a c s h).bind fun x h1 => match x with
  | .bl b => .ok b h1
  | _ => .bad
def tAnd (a b : XT) : XT := fun c s h => (a c s h).bind fun x h1 => match x with
  | true => b c s h1
  | false => .ok false h1
def tOr (a b : XT) : XT := fun c s h => (a c s h).bind fun x h1 => match x with
  | true => .ok true h1
  | false => b c s h1
def tNot (a : XT) : XT := fun c s h => (a c s h).bind fun x h1 => .ok (bnot x) h1
/-- argument lists, displays -/
def aNil : XA := fun _ _ h => .ok [] h
def aCons (a : XE) (r : XA) : XA := fun c s h => (a c s h).bind fun x h1 => (r c s h1).bind fun xs h2 => .ok (x :: xs) h2
def eTup (l : XA) : XE := fun c s h => (l c s h).bind fun xs h1 => cnd (fits xs) (.ok (.tup xs) h1) .bad
/-- a new list of what l gives -/
def eNew (l : XA) : XE := fun c s h => (l c s h).bind fun xs h1 => cnd (fits xs) (.ok (.ref h1.size) (h1.push (.lst xs))) .bad
/-- the items of a list, a tuple -/
def itemsOf (h : Mem) : PV → Option (List PV)
  | .tup xs => some xs
  | .ref a => match h.get a with
    | some (.lst xs) => some xs
    | some (.scr xs) => some xs
    | _ => none
  | _ => none
def listsOf (h : Mem) : PV → Option (List PV)
  | .ref a => match h.get a with
    | some (.lst xs) => some xs
    | some (.scr xs) => some xs
    | _ => none
  | _ => none
def lOf (a : XE) : XA := fun c s h => (a c s h).bind fun x h1 => ofO (listsOf h1 x) h1
def ixN (n : Nat) (i : Int) : Option Nat := match i with
  | .ofNat k => cnd (Nat.blt k n) (some k) none
  | .negSucc k => cnd (Nat.blt k n) (some (n - (k + 1))) none
def subV (x y : PV) (h : Mem) : Option PV := match y with
  | .int i => match itemsOf h x with
    | some xs => match ixN xs.length i with
      | some k => xs[k]?
      | none => none
    | none => none
  | .tup _ => match x with
    | .ref a => match h.get a with
      | some (.dic kvs) => cnd (isTKey y) (dlook y kvs) none
      | _ => none
    | _ => none
  | _ => none
def eSub (a b : XE) : XE := fun c s h => (a c s h).bind fun x h1 => (b c s h1).bind fun y h2 => ofO (subV x y h2) h2
/-- a slice's part -/
def oNone : Calls → Env → Mem → Res (Option Int) := fun _ _ h => .ok none h
def oSome (a : XE) : Calls → Env → Mem → Res (Option Int) := fun c s h => (a c s h).bind fun x h1 => match x with
  | .int i => .ok (some i) h1
  | _ => .bad
def cut (xs : List PV) (lo hi : Option Int) : List PV := (xs.drop (HT.sIx xs.length 0 lo)).take (HT.sIx xs.length xs.length hi - HT.sIx xs.length 0 lo)
def slV (x : PV) (lo hi : Option Int) (h : Mem) : Res PV := match x with
  | .tup xs => .ok (.tup (cut xs lo hi)) h
  | .ref a => match h.get a with
    | some (.lst xs) => .ok (.ref h.size) (h.push (.lst (cut xs lo hi)))
    | some (.scr xs) => .ok (.ref h.size) (h.push (.lst (cut xs lo hi)))
    | _ => .bad
  | _ => .bad
def eSl (a : XE) (lo hi : Calls → Env → Mem → Res (Option Int)) : XE := fun c s h => (a c s h).bind fun x h1 => (lo c s h1).bind fun l h2 => (hi c s h2).bind fun u h3 => slV x l u h3
/-- an attribute: for each class that has it, a slot or a property -/
inductive At where
  | slot (i : Nat)
  | prop (f : Nat)
def lookC {α : Type} (k : Nat) : List (Nat × α) → Option α
  | [] => none
  | (j, a) :: r => match Nat.beq j k with | true => some a | false => lookC k r
def noErr {α : Type} (r : Res α) : Res α := match r with
  | .ok a h => .ok a h
  | _ => .bad
def fldV (tab : List (Nat × At)) (c : Calls) (x : PV) (h1 : Mem) : Res PV := match x with
  | .ref r => match h1.get r with
    | some (.ins k fs) => match lookC k tab with
      | some (.slot i) => match fs[i]? with
        | some (some v) => .ok v h1
        | _ => .bad
      | some (.prop f) => noErr (c f [x] h1)
      | none => .bad
    | _ => .bad
  | _ => .bad
def eFld (tab : List (Nat × At)) (a : XE) : XE := fun c s h => (a c s h).bind fun x h1 => fldV tab c x h1
def eCall (f : Nat) (l : XA) : XE := fun c s h => (l c s h).bind fun xs h1 => c f xs h1
/-- a method of an own class -/
def methF (tab : List (Nat × Nat)) (x : PV) (h1 : Mem) : Option Nat := match x with
  | .ref r => match h1.get r with
    | some (.ins k _) => lookC k tab
    | _ => none
  | _ => none
def eMeth (tab : List (Nat × Nat)) (a : XE) (l : XA) : XE := fun c s h => (a c s h).bind fun x h1 => match methF tab x h1 with
  | some f => (l c s h1).bind fun xs h2 => c f (x :: xs) h2
  | none => .bad
/-- a new instance -/
def makeV (k f n : Nat) (c : Calls) (xs : List PV) (h1 : Mem) : Res PV :=
  (c f (.ref h1.size :: xs) (h1.push (.ins k (List.replicate n none)))).bind fun v h2 => match v with
    | .non => .ok (.ref h1.size) h2
    | _ => .bad
def eMake (k f n : Nat) (l : XA) : XE := fun c s h => (l c s h).bind fun xs h1 => makeV k f n c xs h1
/-- len: of lists, tuples, texts, dicts; own __len__ by the table -/
def lenI (v : PV) (h2 : Mem) : Res PV := match v with
  | .int i => cnd (ile 0 i) (cnd (ilt i 65536) (.ok (.int i) h2) .bad) .bad
  | _ => .bad
def lenV (tab : List (Nat × Nat)) (c : Calls) (x : PV) (h1 : Mem) : Res PV := match x with
  | .tup xs => .ok (.int (xs.length : Nat)) h1
  | .str z => cnd (fitsN z.length) (.ok (.int (z.length : Nat)) h1) .bad
  | .ref r => match h1.get r with
    | some (.lst xs) => .ok (.int (xs.length : Nat)) h1
    | some (.scr xs) => .ok (.int (xs.length : Nat)) h1
    | some (.dic kvs) => cnd (h1.freeD r) (.ok (.int (kvs.length : Nat)) h1) .bad
    | some (.ins k _) => match lookC k tab with
      | some f => (noErr (c f [x] h1)).bind lenI
      | none => .bad
    | none => .bad
  | _ => .bad
def eLen (tab : List (Nat × Nat)) (a : XE) : XE := fun c s h => (a c s h).bind fun x h1 => lenV tab c x h1
/-- what isinstance asks for -/
inductive IsK where | int | bool | str | tuple | list | own (k : Nat)
def isInt : IsK → Bool
  | .int => true
  | _ => false
def isBool : IsK → Bool
  | .int => true
  | .bool => true
  | _ => false
def isStr : IsK → Bool
  | .str => true
  | _ => false
def isTup : IsK → Bool
  | .tuple => true
  | _ => false
def isLst : IsK → Bool
  | .list => true
  | _ => false
/-- tab: the answer for instances, by their class -/
def isB (k : IsK) (tab : List (Nat × Bool)) (x : PV) (h : Mem) : Option Bool := match x with
  | .non => some false
  | .bl _ => some (isBool k)
  | .int _ => some (isInt k)
  | .str _ => some (isStr k)
  | .tup _ => some (isTup k)
  | .ref r => match h.get r with
    | some (.lst _) => some (isLst k)
    | some (.dic _) => some false
    | some (.ins j _) => lookC j tab
    | _ => none
def eIs (k : IsK) (tab : List (Nat × Bool)) (a : XE) : XE := fun c s h => (a c s h).bind fun x h1 => ofO ((isB k tab x h1).map PV.bl) h1
def blsOf : List PV → Option (List Bool)
  | [] => some []
  | .bl b :: xs => match blsOf xs with
    | some bs => some (b :: bs)
    | none => none
  | _ :: _ => none
def allB : List Bool → Bool
  | [] => true
  | b :: bs => match b with | true => allB bs | false => false
def anyB : List Bool → Bool
  | [] => false
  | b :: bs => match b with | true => true | false => anyB bs
def eAll (l : XA) : XE := fun c s h => (l c s h).bind fun xs h1 => match blsOf xs with
  | some bs => .ok (.bl (allB bs)) h1
  | none => .bad
def eAny (l : XA) : XE := fun c s h => (l c s h).bind fun xs h1 => match blsOf xs with
  | some bs => .ok (.bl (anyB bs)) h1
  | none => .bad
/-- built-ins by values -/
def eB (g : List PV → Mem → Res PV) (l : XA) : XE := fun c s h => (l c s h).bind g
def gMax2 (xs : List PV) (h : Mem) : Res PV := match xs with
  | [.int i, .int j] => .ok (.int (cnd (ilt i j) j i)) h
  | _ => .bad
def gMin2 (xs : List PV) (h : Mem) : Res PV := match xs with
  | [.int i, .int j] => .ok (.int (cnd (ilt j i) j i)) h
  | _ => .bad
/-- int(e) of an int or a bool -/
def gInt (xs : List PV) (h : Mem) : Res PV := match xs with
  | [.int i] => .ok (.int i) h
  | [.bl b] => .ok (.int (cnd b 1 0)) h
  | _ => .bad
def iabs (i : Int) : Int := match i with
  | .ofNat n => .ofNat n
  | .negSucc n => .ofNat (n + 1)
def gAbs (xs : List PV) (h : Mem) : Res PV := match xs with
  | [.int i] => .ok (.int (iabs i)) h
  | _ => .bad
/-- tuple(l), list(l) of a list -/
def gTupL (xs : List PV) (h : Mem) : Res PV := .ok (.tup xs) h
def gListL (xs : List PV) (h : Mem) : Res PV := .ok (.ref h.size) (h.push (.lst xs))
def sumI : List Int → Int
  | [] => 0
  | i :: is => i + sumI is
def gSum (xs : List PV) (h : Mem) : Res PV := match intsOf xs with
  | some is => .ok (.int (sumI is)) h
  | none => .bad
def maxI : Int → List Int → Int
  | m, [] => m
  | m, i :: is => maxI (cnd (ilt m i) i m) is
def minI : Int → List Int → Int
  | m, [] => m
  | m, i :: is => minI (cnd (ilt i m) i m) is
def gMaxL (xs : List PV) (h : Mem) : Res PV := match intsOf xs with
  | some (i :: is) => .ok (.int (maxI i is)) h
  | _ => .bad
def gMinL (xs : List PV) (h : Mem) : Res PV := match intsOf xs with
  | some (i :: is) => .ok (.int (minI i is)) h
  | _ => .bad
/-- o.append(e) -/
def eApp (a b : XE) : XE := fun c s h => (a c s h).bind fun x h1 => match x with
  | .ref r => match h1.get r with
    | some (.lst _) => (b c s h1).bind fun y h2 => match h2.get r with
      | some (.lst xs) => cnd (fits xs) (cnd (h2.free r) (.ok .non (h2.set r (.lst (xs ++ [y])))) .bad) .bad
      | _ => .bad
    | _ => .bad
  | _ => .bad

/-! ### dicts -/
def eDic0 : XE := fun _ _ h => .ok (.ref h.size) (h.push (.dic []))
def pairsOf : List PV → Option (List (PV × PV))
  | [] => some []
  | .tup [k, x] :: r => match isTKey k with
    | true => match pairsOf r with
      | some ps => some ((k, x) :: ps)
      | none => none
    | false => none
  | _ :: _ => none
def dictV (x : PV) (h1 : Mem) : Res PV := match x with
  | .ref r => match h1.get r with
    | some (.dic kvs) => cnd (apart kvs) (.ok (.ref h1.size) (h1.push (.dic kvs))) .bad
    | some (.lst xs) => match pairsOf xs with
      | some ps => .ok (.ref h1.size) (h1.push (.dic (dputs [] ps)))
      | none => .bad
    | _ => .bad
  | _ => .bad
def gDict (xs : List PV) (h : Mem) : Res PV := match xs with
  | [x] => dictV x h
  | _ => .bad
def dgetV (x k d : PV) (h : Mem) : Option PV := match x with
  | .ref r => match h.get r with
    | some (.dic kvs) => match k with
      | .non => cnd (noneFree kvs) (some d) none
      | _ => cnd (isTKey k) (some ((dlook k kvs).getD d)) none
    | _ => none
  | _ => none
def isDic (x : PV) (h : Mem) : Bool := match x with
  | .ref r => match h.get r with
    | some (.dic _) => true
    | _ => false
  | _ => false
def eGet1 (a b : XE) : XE := fun c s h => (a c s h).bind fun x h1 => cnd (isDic x h1) ((b c s h1).bind fun y h2 => ofO (dgetV x y .non h2) h2) .bad
def eGet2 (a b d : XE) : XE := fun c s h => (a c s h).bind fun x h1 => cnd (isDic x h1) ((b c s h1).bind fun y h2 => (d c s h2).bind fun z h3 => ofO (dgetV x y z h3) h3) .bad
/-- d.clear() -/
def eClrD (a : XE) : XE := fun c s h => (a c s h).bind fun x h1 => match x with
  | .ref r => match h1.get r with
    | some (.dic _) => cnd (h1.free r) (.ok .non (h1.set r (.dic []))) .bad
    | _ => .bad
  | _ => .bad
/-- l.extend(a list) -/
def eExt (a b : XE) : XE := fun c s h => (a c s h).bind fun x h1 => match x with
  | .ref r => match h1.get r with
    | some (.lst _) => (b c s h1).bind fun y h2 => match listOf h2 y with
      | some ys => match h2.get r with
        | some (.lst xs) => cnd (fits (xs ++ ys)) (cnd (h2.free r) (.ok .non (h2.set r (.lst (xs ++ ys)))) .bad) .bad
        | _ => .bad
      | none => .bad
    | _ => .bad
  | _ => .bad
/-- (.., *e, ..) -/
def aStar (l : XE) (r : XA) : XA := fun c s h => (l c s h).bind fun x h1 => match itemsOf h1 x with
  | some xs => (r c s h1).bind fun ys h2 => .ok (xs ++ ys) h2
  | none => .bad

/-! ### sorted(set(l)), l of tuples of small ints -/
def tInts : List PV → Option (List (List Int))
  | [] => some []
  | .tup xs :: r => match intsOf xs with
    | some k => match tInts r with
      | some ks => some (k :: ks)
      | none => none
    | none => none
  | _ :: _ => none
def small64 : List Int → Bool
  | [] => true
  | i :: r => cnd (ile 0 i) (cnd (ilt i 64) (small64 r) false) false
def allT (d : Nat) : List (List Int) → Bool
  | [] => true
  | k :: r => cnd (Nat.beq k.length d) (cnd (small64 k) (allT d r) false) false
def insT (k : List Int) : List (List Int) → List (List Int)
  | [] => [k]
  | j :: r => cnd (HT.lexLt k j) (k :: j :: r) (cnd (HT.lexLt j k) (j :: insT k r) (j :: r))
def ssort : List (List Int) → List (List Int)
  | [] => []
  | k :: r => insT k (ssort r)
def headLen : List (List Int) → Nat
  | [] => 1
  | k :: _ => k.length
def tupI (k : List Int) : PV := .tup (k.map PV.int)
def gSS (x : PV) (h : Mem) : Res PV := match listsOf h x with
  | some xs => match tInts xs with
    | some ks => cnd (Nat.blt ks.length 64) (cnd (Nat.blt 0 (headLen ks)) (cnd (allT (headLen ks) ks) (.ok (.ref h.size) (h.push (.lst ((ssort ks).map tupI)))) .bad) .bad) .bad
    | none => .bad
  | none => .bad
def eSS (a : XE) : XE := fun c s h => (a c s h).bind gSS

/-! ### what is walked -/
def iOf (a : XE) : XI := fun c s h => (a c s h).bind fun x h1 => match x with
  | .tup xs => .ok (xs, []) h1
  | .ref r => match h1.get r with
    | some (.lst xs) => .ok (xs, [r]) h1
    | some (.scr xs) => .ok (xs, [r]) h1
    | _ => .bad
  | _ => .bad
/-- a list, a tuple, a dict's keys -/
def iAny (a : XE) : XI := fun c s h => (a c s h).bind fun x h1 => match x with
  | .tup xs => .ok (xs, []) h1
  | .ref r => match h1.get r with
    | some (.lst xs) => .ok (xs, [r]) h1
    | some (.scr xs) => .ok (xs, [r]) h1
    | some (.dic kvs) => .ok (kvs.map fun q => q.1, [r]) h1
    | _ => .bad
  | _ => .bad
def itemsD (f : PV × PV → PV) (x : PV) (h1 : Mem) : Res (List PV × List Nat) := match x with
  | .ref r => match h1.get r with
    | some (.dic kvs) => .ok (kvs.map f, [r]) h1
    | _ => .bad
  | _ => .bad
def iItems (a : XE) : XI := fun c s h => (a c s h).bind (itemsD fun q => .tup [q.1, q.2])
def iVals (a : XE) : XI := fun c s h => (a c s h).bind (itemsD fun q => q.2)
/-- a new list that no one holds -/
def iNew (l : XA) : XI := fun c s h => (l c s h).bind fun xs h1 => .ok (xs, [h1.size]) (h1.push (.lst xs))
def upto (lo st : Int) : Nat → List PV
  | 0 => []
  | n + 1 => .int lo :: upto (lo + st) st n
def lt62 (i : Int) : Bool := cnd (ilt (-4611686018427387904) i) (ilt i 4611686018427387904) false
def iR1 (a : XE) : XI := fun c s h => (a c s h).bind fun x h1 => match x with
  | .int j => cnd (lt62 j) (.ok (upto 0 1 j.toNat, []) h1) .bad
  | _ => .bad
def iR2 (a b : XE) : XI := fun c s h => (a c s h).bind fun x h1 => (b c s h1).bind fun y h2 => match x with
  | .int i => match y with
    | .int j => cnd (lt62 i) (cnd (lt62 j) (.ok (upto i 1 (j - i).toNat, []) h2) .bad) .bad
    | _ => .bad
  | _ => .bad
def pairsI (i : Int) : List PV → List PV
  | [] => []
  | x :: xs => .tup [.int i, x] :: pairsI (i + 1) xs
def iEnum (a : XI) : XI := fun c s h => (a c s h).bind fun p h1 => .ok (pairsI 0 p.1, p.2) h1
def pairs : List PV → List PV → List PV
  | x :: xs, y :: ys => .tup [x, y] :: pairs xs ys
  | _, _ => []
def unlockR {α : Type} (ls : List Nat) (r : Res α) : Res α := match r with
  | .ok a h => .ok a (h.unlock ls)
  | .err x h => .err x (h.unlock ls)
  | .bad => .bad
def iZip (a b : XI) : XI := fun c s h => (a c s h).bind fun p h1 => (unlockR p.2 (b c s (h1.lock p.2))).bind fun q h2 => .ok (pairs p.1 q.1, q.2 ++ p.2) h2
def rng3 (i j k : Int) (h : Mem) : Res (List PV × List Nat) := cnd (ieq k 0) .bad (cnd (Nat.blt k.natAbs 1073741824) (cnd (Builtin.Range.small i j k) (cnd (ile 0 (Builtin.Range.rangeSize i j k)) (.ok (upto i k (Builtin.Range.rangeSize i j k).toNat, []) h) .bad) .bad) .bad)
def iR3 (a b d : XE) : XI := fun c s h => (a c s h).bind fun x h1 => (b c s h1).bind fun y h2 => (d c s h2).bind fun z h3 => match x with
  | .int i => match y with
    | .int j => match z with
      | .int k => rng3 i j k h3
      | _ => .bad
    | _ => .bad
  | _ => .bad

/-! ### targets -/
def gName (i : Nat) : XG := fun _ v s h => .ok (s.set i (some v)) h
/-! ### comprehensions -/
/-- a comprehension's target: a name, or names -/
inductive Tg where
  | nm (i : Nat)
  | un (is : List Nat)
def setAll : List Nat → List PV → Env → Option Env
  | [], [], s => some s
  | i :: is, x :: xs, s => setAll is xs (s.set i (some x))
  | _, _, _ => none
/-- (a, b, ..) = a tuple or a list -/
def gUnp (is : List Nat) : XG := fun c v s h => match itemsOf h v with
  | some xs => ofO (setAll is xs s) h
  | none => .bad
def tgG : Tg → XG
  | .nm i => gName i
  | .un is => gUnp is
def loopL (f : PV → Mem → Res (List PV)) : List PV → Mem → Res (List PV)
  | [], h => .ok [] h
  | x :: xs, h => (f x h).bind fun ys h1 => (loopL f xs h1).bind fun zs h2 => .ok (ys ++ zs) h2
/-- one clause's turns: the store, the tests, then what is inside -/
def turns (g : XG) (t : XT) (c : Calls) (s : Env) (inner : Env → Mem → Res (List PV)) (xs : List PV) (h : Mem) : Res (List PV) :=
  loopL (fun x h => (g c x s h).bind fun s' h1 => (t c s' h1).bind fun b h2 => match b with
    | true => inner s' h2
    | false => .ok [] h2) xs h
def lC1 (own : List Nat) (i : XI) (g : Tg) (t : XT) (e : XE) : XA := fun c s h => (i c s h).bind fun p h1 =>
  (noErr (turns (tgG g) t c (wipeV s own) (fun s' h => (e c s' h).bind fun y h' => .ok [y] h') p.1 (h1.lock p.2))).bind fun ys h2 => cnd (fits ys) (.ok ys (h2.unlock p.2)) .bad
where
  wipeV (s : Env) : List Nat → Env
  | [] => s
  | v :: vs => (wipeV s vs).set v none
def tYes : XT := fun _ _ h => .ok true h
def lC2 (own own1 : List Nat) (i : XI) (g : Tg) (t : XT) (i1 : XI) (g1 : Tg) (t1 : XT) (e : XE) : XA := fun c s h => (i c s h).bind fun p h1 =>
  (noErr (turns (tgG g) t c (lC1.wipeV s own) (fun s' h => (i1 c s' h).bind fun q h3 =>
    (turns (tgG g1) t1 c (lC1.wipeV s' own1) (fun s'' h => (e c s'' h).bind fun y h' => .ok [y] h') q.1 (h3.lock q.2)).bind fun ys h4 => .ok ys (h4.unlock q.2)) p.1 (h1.lock p.2))).bind fun ys h2 => cnd (fits ys) (.ok ys (h2.unlock p.2)) .bad

/-- {k: v for ..} -/
def dC1 (own : List Nat) (i : XI) (g : Tg) (t : XT) (ek ev : XE) : XE := fun c s h => (i c s h).bind fun p h1 =>
  (noErr (turns (tgG g) t c (lC1.wipeV s own) (fun s' h => (ek c s' h).bind fun k h' => (ev c s' h').bind fun y h'' => .ok [.tup [k, y]] h'') p.1 (h1.lock p.2))).bind fun ys h2 => cnd (fits ys) (match pairsOf ys with
    | some ps => .ok (.ref (h2.unlock p.2).size) ((h2.unlock p.2).push (.dic (dputs [] ps)))
    | none => .bad) .bad

/-! ### statements -/
def sOf {α : Type} (s : Env) (r : Res α) (f : α → Mem → SR) : SR := match r with
  | .ok a h => f a h
  | .err x h => .er x s h
  | .bad => .bad
@[simp] theorem sOf_ok {α : Type} (s : Env) (a : α) (h : Mem) (f : α → Mem → SR) : sOf s (.ok a h) f = f a h := rfl
@[simp] theorem sOf_err {α : Type} (s : Env) (x : Exc) (h : Mem) (f : α → Mem → SR) : sOf s (.err x h : Res α) f = .er x s h := rfl
@[simp] theorem sOf_bad {α : Type} (s : Env) (f : α → Mem → SR) : sOf s (.bad : Res α) f = .bad := rfl
def sNil : XS := fun _ s h => .nx s h
def sSeq (a b : XS) : XS := fun c s h => match a c s h with
  | .nx s' h' => b c s' h'
  | r => r
def sExpr (a : XE) : XS := fun c s h => sOf s (a c s h) fun _ h1 => .nx s h1
def sRet (a : XE) : XS := fun c s h => sOf s (a c s h) fun v h1 => .rt v h1
def sIf (t : XT) (a b : XS) : XS := fun c s h => sOf s (t c s h) fun x h1 => match x with
  | true => a c s h1
  | false => b c s h1
def sAsg (a : XE) (g : XG) : XS := fun c s h => sOf s (a c s h) fun v h1 => sOf s (g c v s h1) fun s' h2 => .nx s' h2
/-- name op= e -/
def sAug (i : Nat) (o : BO) (a : XE) : XS := fun c s h => match s[i]? with
  | some (some (.int x)) => sOf s (a c s h) fun v h1 => match v with
    | .int y => (match o with
      | .add => .nx (s.set i (some (.int (x + y)))) h1
      | .sub => .nx (s.set i (some (.int (x - y)))) h1
      | .mul => cnd (lt64 x) (.nx (s.set i (some (.int (x * y)))) h1) (cnd (lt64 y) (.nx (s.set i (some (.int (x * y)))) h1) .bad)
      | _ => .bad)
    | _ => .bad
  | _ => .bad
/-- o[i] = e of a list, in place -/
def sSetI (o i a : XE) : XS := fun c s h => sOf s (a c s h) fun v h1 => sOf s (o c s h1) fun x h2 => sOf s (i c s h2) fun y h3 => match x with
  | .ref r => match y with
    | .int k => match h3.get r with
      | some (.lst xs) => match ixN xs.length k with
        | some j => cnd (h3.free r) (.nx s (h3.set r (.lst (xs.set j v)))) .bad
        | none => .bad
      | _ => .bad
    | .tup ks => match h3.get r with
      | some (.dic kvs) => cnd (isTKey (.tup ks)) (cnd (fits kvs) (cnd (h3.free r) (.nx s (h3.set r (.dic (dput (.tup ks) v kvs)))) .bad) .bad) .bad
      | _ => .bad
    | _ => .bad
  | _ => .bad
/-- o.f = e of a slot -/
def sSlot (tab : List (Nat × Nat)) (o a : XE) : XS := fun c s h => sOf s (a c s h) fun v h1 => sOf s (o c s h1) fun x h2 => match x with
  | .ref r => match h2.get r with
    | some (.ins k fs) => match lookC k tab with
      | some i => cnd (Nat.blt i fs.length) (cnd (h2.free r) (.nx s (h2.set r (.ins k (fs.set i (some v))))) .bad) .bad
      | none => .bad
    | _ => .bad
  | _ => .bad
def loopS (f : PV → Env → Mem → SR) : List PV → Env → Mem → SR
  | [], s, h => .nx s h
  | x :: xs, s, h => match f x s h with
    | .nx s' h' => loopS f xs s' h'
    | .ct s' h' => loopS f xs s' h'
    | .bk s' h' => .bk s' h'
    | r => r
/-- a loop's end -/
def endS (ls : List Nat) (r : SR) : SR := match r with
  | .nx s h => .nx s (h.unlock ls)
  | .bk s h => .nx s (h.unlock ls)
  | .rt v h => .rt v (h.unlock ls)
  | .er x s h => .er x s (h.unlock ls)
  | _ => .bad
def sFor (i : XI) (g : XG) (b : XS) : XS := fun c s h => sOf s (i c s h) fun p h1 =>
  endS p.2 (loopS (fun x s h => sOf s (g c x s h) fun s' h' => b c s' h') p.1 s (h1.lock p.2))
def sBad : XS := fun _ _ _ => .bad

/-! ### defs and calls -/
structure Fd where
  np : Nat
  ns : Nat
  body : XS
def runFd (d : Fd) (c : Calls) (args : List PV) (h : Mem) : Res PV := cnd (Nat.beq args.length d.np)
  (match d.body c (args.map some ++ List.replicate (d.ns - args.length) none) h with
  | .nx _ h' => .ok .non h'
  | .rt v h' => .ok v h'
  | .er x _ h' => .err x h'
  | _ => .bad) .bad
def nthF : List Fd → Nat → Option Fd
  | [], _ => none
  | d :: r, n => match n with
    | 0 => some d
    | k + 1 => nthF r k
def callD (tab : List Fd) : Nat → Calls
  | 0 => fun _ _ _ => .bad
  | k + 1 => fun f args h => match nthF tab f with
    | some d => runFd d (callD tab k) args h
    | none => .bad
end Ev
end

section
set_option Elab.async false
set_option linter.all false
set_option maxRecDepth 100000
/-! Ev: how the evaluator's values and memory stand in the abstract heap. -/
namespace Ev
open PySem L2

/-- where the memory's objects stand: the object, and its own dict (an instance's; else the object again) -/
structure Mp where
  a : Nat → Addr
  d : Nat → Addr
def Mp.ext (m : Mp) (n : Nat) (p q : Addr) : Mp := ⟨fun i => if i = n then p else m.a i, fun i => if i = n then q else m.d i⟩
@[simp] theorem Mp.ext_a (m : Mp) (n : Nat) (p q : Addr) : (m.ext n p q).a n = p := if_pos rfl
@[simp] theorem Mp.ext_d (m : Mp) (n : Nat) (p q : Addr) : (m.ext n p q).d n = q := if_pos rfl
theorem Mp.ext_a_ne {m : Mp} {n i : Nat} {p q : Addr} (h : i ≠ n) : (m.ext n p q).a i = m.a i := if_neg h
theorem Mp.ext_d_ne {m : Mp} {n i : Nat} {p q : Addr} (h : i ≠ n) : (m.ext n p q).d i = m.d i := if_neg h

mutual
inductive RP (m : Mp) (z : Nat) (H : Hp) : PV → V → Prop
  | non : RP m z H .non .non
  | bl (b : Bool) : RP m z H (.bl b) (.bl b)
  | int (i : Int) : RP m z H (.int i) (.int i)
  | str (x : Str) : RP m z H (.str x) (.str x)
  | ref {n : Nat} : n < z → RP m z H (.ref n) (.ref (m.a n))
  | tup {xs : List PV} {a : Addr} {vs : List V} : H a = some (.tup vs) → RPs m z H xs vs → RP m z H (.tup xs) (.ref a)
inductive RPs (m : Mp) (z : Nat) (H : Hp) : List PV → List V → Prop
  | nil : RPs m z H [] []
  | cons {x : PV} {v : V} {xs : List PV} {vs : List V} : RP m z H x v → RPs m z H xs vs → RPs m z H (x :: xs) (v :: vs)
end

/-- the heap has changed at our own objects alone -/
structure Le (h : Mem) (m : Mp) (H : Hp) (h' : Mem) (m' : Mp) (H' : Hp) : Prop where
  le : h.size ≤ h'.size
  lk : h'.locks = h.locks
  ld : h'.dl = h.dl
  lkd : ∀ n, n ∈ h.locks → h'.get n = h.get n
  lkh : ∀ n, n ∈ h.locks → n < h.size → H' (m.a n) = H (m.a n)
  keep : ∀ n, n < h.size → m'.a n = m.a n ∧ m'.d n = m.d n
  frame : ∀ a o, H a = some o → (∀ n, n < h.size → a ≠ m.a n ∧ a ≠ m.d n) → H' a = some o
  tups : ∀ a vs, H a = some (.tup vs) → H' a = some (.tup vs)
  new : ∀ n, h.size ≤ n → n < h'.size → H (m'.a n) = none ∧ H (m'.d n) = none
  old : ∀ n, n < h.size → H' (m.a n) ≠ none ∧ H' (m.d n) ≠ none
theorem Le.trans {z z1 z2 : Mem} {m m1 m2 : Mp} {H H1 H2 : Hp} (a : Le z m H z1 m1 H1) (b : Le z1 m1 H1 z2 m2 H2) : Le z m H z2 m2 H2 where
  le := Nat.le_trans a.le b.le
  lk := b.lk.trans a.lk
  ld := b.ld.trans a.ld
  lkd := fun n hn => (b.lkd n (by rw [a.lk]; exact hn)).trans (a.lkd n hn)
  lkh := fun n hn hl => by
    have h1 := b.lkh n (by rw [a.lk]; exact hn) (Nat.lt_of_lt_of_le hl a.le)
    rw [(a.keep n hl).1] at h1
    exact h1.trans (a.lkh n hn hl)
  keep := fun n h => by
    have h1 := a.keep n h
    have h2 := b.keep n (Nat.lt_of_lt_of_le h a.le)
    exact ⟨h2.1.trans h1.1, h2.2.trans h1.2⟩
  frame := fun p o e k => b.frame p o (a.frame p o e k) fun n hn => by
    by_cases q : n < z.size
    · rw [(a.keep n q).1, (a.keep n q).2]; exact k n q
    · have := a.new n (by omega) hn
      refine ⟨fun w => ?_, fun w => ?_⟩
      · rw [← w, e] at this; exact nomatch this.1
      · rw [← w, e] at this; exact nomatch this.2
  tups := fun p vs e => b.tups p vs (a.tups p vs e)
  new := fun n h1 h2 => by
    by_cases q : n < z1.size
    · rw [(b.keep n q).1, (b.keep n q).2]; exact a.new n h1 q
    · have nn := b.new n (by omega) h2
      have key : ∀ p, H1 p = none → H p = none := fun p hp => by
        cases e : H p with
        | none => rfl
        | some o =>
          exfalso
          by_cases k : ∀ n, n < z.size → p ≠ m.a n ∧ p ≠ m.d n
          · rw [a.frame p o e k] at hp; cases hp
          · apply k
            intro j hj
            exact ⟨fun w => (a.old j hj).1 (by rw [← w]; exact hp), fun w => (a.old j hj).2 (by rw [← w]; exact hp)⟩
      exact ⟨key _ nn.1, key _ nn.2⟩
  old := fun n h => by
    have := b.old n (Nat.lt_of_lt_of_le h a.le)
    rw [(a.keep n h).1, (a.keep n h).2] at this
    exact this

/-- what values and objects lean on -/
structure Lw (z : Nat) (m : Mp) (H : Hp) (z' : Nat) (m' : Mp) (H' : Hp) : Prop where
  le : z ≤ z'
  keep : ∀ n, n < z → m'.a n = m.a n ∧ m'.d n = m.d n
  tups : ∀ a vs, H a = some (.tup vs) → H' a = some (.tup vs)
theorem Le.lw {h h' : Mem} {m m' : Mp} {H H' : Hp} (l : Le h m H h' m' H') : Lw h.size m H h'.size m' H' := ⟨l.le, l.keep, l.tups⟩
mutual
theorem RP.weak {z z' : Nat} {m m' : Mp} {H H' : Hp} (l : Lw z m H z' m' H') : ∀ {x : PV} {v : V}, RP m z H x v → RP m' z' H' x v
  | _, _, .non => .non
  | _, _, .bl b => .bl b
  | _, _, .int i => .int i
  | _, _, .str x => .str x
  | _, _, .ref (n := n) h => by
    rw [← (l.keep n h).1]
    exact .ref (Nat.lt_of_lt_of_le h l.le)
  | _, _, .tup e r => .tup (l.tups _ _ e) (RPs.weak l r)
theorem RPs.weak {z z' : Nat} {m m' : Mp} {H H' : Hp} (l : Lw z m H z' m' H') : ∀ {xs : List PV} {vs : List V}, RPs m z H xs vs → RPs m' z' H' xs vs
  | _, _, .nil => .nil
  | _, _, .cons r s => .cons (RP.weak l r) (RPs.weak l s)
end
theorem RP.mono {z z' : Mem} {m m' : Mp} {H H' : Hp} (l : Le z m H z' m' H') {x : PV} {v : V} (r : RP m z.size H x v) : RP m' z'.size H' x v := r.weak l.lw
theorem RPs.mono {z z' : Mem} {m m' : Mp} {H H' : Hp} (l : Le z m H z' m' H') {x : List PV} {v : List V} (r : RPs m z.size H x v) : RPs m' z'.size H' x v := r.weak l.lw
section
variable {m : Mp} {z : Nat} {H : Hp}
theorem RPs.length : ∀ {xs : List PV} {vs : List V}, RPs m z H xs vs → vs.length = xs.length
  | _, _, .nil => rfl
  | _, _, .cons _ s => congrArg (· + 1) (RPs.length s)
theorem RPs.append : ∀ {xs ys : List PV} {vs ws : List V}, RPs m z H xs vs → RPs m z H ys ws → RPs m z H (xs ++ ys) (vs ++ ws)
  | _, _, _, _, .nil, r => r
  | _, _, _, _, .cons a b, r => .cons a (RPs.append b r)
theorem RPs.get : ∀ {xs : List PV} {vs : List V} {i : Nat} {x : PV}, RPs m z H xs vs → xs[i]? = some x → ∃ v, vs[i]? = some v ∧ RP m z H x v
  | _, _, _, _, .nil, e => by simp at e
  | _, _, 0, _, .cons r _, e => by simp at e; subst e; exact ⟨_, rfl, r⟩
  | _, _, i + 1, x, .cons _ t, e => by
    obtain ⟨u, h1, h2⟩ := RPs.get (i := i) (x := x) t (by simpa using e)
    exact ⟨u, by simpa using h1, h2⟩
theorem RPs.get' : ∀ {xs : List PV} {vs : List V} {i : Nat} {v : V}, RPs m z H xs vs → vs[i]? = some v → ∃ x, xs[i]? = some x ∧ RP m z H x v
  | _, _, _, _, .nil, e => by simp at e
  | _, _, 0, _, .cons r _, e => by simp at e; subst e; exact ⟨_, rfl, r⟩
  | _, _, i + 1, x, .cons _ t, e => by
    obtain ⟨u, h1, h2⟩ := RPs.get' (i := i) (v := x) t (by simpa using e)
    exact ⟨u, by simpa using h1, h2⟩
theorem RPs.set {x : PV} {v : V} (r : RP m z H x v) : ∀ {xs : List PV} {vs : List V} (i : Nat), RPs m z H xs vs → RPs m z H (xs.set i x) (vs.set i v)
  | _, _, _, .nil => .nil
  | _, _, 0, .cons _ t => .cons r t
  | _, _, i + 1, .cons q t => .cons q (RPs.set r i t)
theorem RPs.drop : ∀ {xs : List PV} {vs : List V} (n : Nat), RPs m z H xs vs → RPs m z H (xs.drop n) (vs.drop n)
  | _, _, 0, r => r
  | _, _, _ + 1, .nil => .nil
  | _, _, n + 1, .cons _ t => RPs.drop n t
theorem RPs.take : ∀ {xs : List PV} {vs : List V} (n : Nat), RPs m z H xs vs → RPs m z H (xs.take n) (vs.take n)
  | _, _, 0, _ => .nil
  | _, _, _ + 1, .nil => .nil
  | _, _, n + 1, .cons r t => .cons r (RPs.take n t)
theorem RPs.one {x : PV} {vs : List V} (r : RPs m z H [x] vs) : ∃ v, vs = [v] ∧ RP m z H x v := by
  cases r with
  | cons a b => cases b; exact ⟨_, rfl, a⟩
theorem RPs.two {x y : PV} {vs : List V} (r : RPs m z H [x, y] vs) : ∃ v w, vs = [v, w] ∧ RP m z H x v ∧ RP m z H y w := by
  cases r with
  | cons a b =>
    obtain ⟨w, rfl, c⟩ := b.one
    exact ⟨_, _, rfl, a, c⟩
theorem RP.int_inv {i : Int} {v : V} (r : RP m z H (.int i) v) : v = .int i := by cases r; rfl
theorem RP.bl_inv {i : Bool} {v : V} (r : RP m z H (.bl i) v) : v = .bl i := by cases r; rfl
theorem RP.str_inv {i : Str} {v : V} (r : RP m z H (.str i) v) : v = .str i := by cases r; rfl
theorem RP.non_inv {v : V} (r : RP m z H .non v) : v = .non := by cases r; rfl
theorem RP.ref_inv {n : Nat} {v : V} (r : RP m z H (.ref n) v) : v = .ref (m.a n) ∧ n < z := by cases r; exact ⟨rfl, by assumption⟩
theorem RP.tup_inv {xs : List PV} {v : V} (r : RP m z H (.tup xs) v) : ∃ a vs, v = .ref a ∧ H a = some (.tup vs) ∧ RPs m z H xs vs := by
  cases r with
  | tup h r => exact ⟨_, _, rfl, h, r⟩
end

/-- the slots of an instance -/
def RSl (m : Mp) (z : Nat) (H : Hp) (fs : List (Option PV)) (vs : List (Option V)) : Prop := ∀ (i : Nat) (x : PV), fs[i]? = some (some x) → ∃ v, vs[i]? = some (some v) ∧ RP m z H x v
theorem RSl.weak {z z' : Nat} {m m' : Mp} {H H' : Hp} (l : Lw z m H z' m' H') {fs : List (Option PV)} {vs : List (Option V)} (r : RSl m z H fs vs) : RSl m' z' H' fs vs := fun i x e => by
  obtain ⟨v, e, r⟩ := r i x e
  exact ⟨v, e, r.weak l⟩
/-! ### dicts: their keys are tuples -/
mutual
/-- hash(k) of a key without texts -/
def hk : NestedKey → Int
  | .none => reduceHash 0xFCA86420
  | .num i => hashInt i
  | .text _ => 0
  | .tup ks => reduceHash (Builtin.Tuple.tupleHashOf (hks ks))
def hks : List NestedKey → List Int
  | [] => []
  | k :: ks => hk k :: hks ks
end
def enN (x : NestedKey × Addr × Value) : DictEntry := ⟨hk x.1, .ref x.2.1, x.2.2⟩
/-- o is a dict with these keys (at these addresses) and values -/
def DxF (o : Obj) (ws : List (NestedKey × Addr × V)) : Prop := ws.length ≤ sizeLine ∧ ∃ (es : Array DictEntry) (ep : Nat) (xs : List (NestedKey × Addr × Value)), o.ExactDict ∧ o.data = .dict es ep ∧ es.toList = xs.map enN ∧
  Paired (fun (p : NestedKey × Addr × V) (q : NestedKey × Addr × Value) => p.1 = q.1 ∧ p.2.1 = q.2.1 ∧ RelV p.2.2 q.2.2) ws xs ∧ (xs.map (·.1)).Nodup
/-- a dict stands at d -/
def DxO (d : Addr) (o : Obj) (ws : List (NestedKey × Addr × V)) : HO := .ext fun h => h.get? d = some o ∧ (d == sysModules) = false ∧ DxF o ws
inductive RKv (m : Mp) (z : Nat) (H : Hp) : List (PV × PV) → List (NestedKey × Addr × V) → Prop
  | nil : RKv m z H [] []
  | cons {k x : PV} {K : NestedKey} {b : Addr} {v : V} {kvs : List (PV × PV)} {ws : List (NestedKey × Addr × V)} : keyN k = some K → RP m z H k (.ref b) → RP m z H x v → RKv m z H kvs ws → RKv m z H ((k, x) :: kvs) ((K, b, v) :: ws)
theorem RKv.weak {z z' : Nat} {m m' : Mp} {H H' : Hp} (l : Lw z m H z' m' H') : ∀ {kvs : List (PV × PV)} {ws : List (NestedKey × Addr × V)}, RKv m z H kvs ws → RKv m' z' H' kvs ws
  | _, _, .nil => .nil
  | _, _, .cons e q r t => .cons e (q.weak l) (r.weak l) (RKv.weak l t)
theorem RKv.length {m : Mp} {z : Nat} {H : Hp} : ∀ {kvs : List (PV × PV)} {ws : List (NestedKey × Addr × V)}, RKv m z H kvs ws → ws.length = kvs.length
  | _, _, .nil => rfl
  | _, _, .cons _ _ _ t => congrArg (· + 1) (RKv.length t)

/-- an object of the memory; C: where the classes stand; b: it is locked -/
def OR (K : PySem.W.Frag) (C : Nat → Addr) (m : Mp) (z : Nat) (H : Hp) (n : Nat) (b : Bool) : Ob → Prop
  | .lst xs => m.d n = m.a n ∧ ∃ vs, H (m.a n) = some (.lst vs) ∧ RPs m z H xs vs
  | .scr xs => m.d n = m.a n ∧ H (m.a n) ≠ none ∧ ∃ vs, SqL K H (m.a n) vs ∧ (∀ us, H (m.a n) ≠ some (.tup us)) ∧ RPs m z H xs vs
  | .dic kvs => m.d n = m.a n ∧ ∃ o ws, H (m.a n) = some (DxO (m.a n) o ws) ∧ RKv m z H kvs ws
  | .ins c fs => m.d n ≠ m.a n ∧ (H (m.d n) ≠ none ∧ ∀ us, H (m.d n) ≠ some (.tup us)) ∧ ∃ vs, SlX.Slt H (m.a n) (C c) (m.d n) vs ∧ RSl m z H fs vs

structure RH (K : PySem.W.Frag) (C : Nat → Addr) (m : Mp) (h : Mem) (H : Hp) : Prop where
  all : ∀ n, n < h.size → ∃ o, h.get n = some o
  obj : ∀ n o, h.get n = some o → OR K C m h.size H n (memb n h.dl) o
  inj : ∀ i j, i < h.size → j < h.size → i ≠ j → m.a i ≠ m.a j ∧ m.a i ≠ m.d j ∧ m.d i ≠ m.a j ∧ m.d i ≠ m.d j
  lok : ∀ n ∈ h.locks, n < h.size
  lod : ∀ n ∈ h.dl, n < h.size

section
variable {K : PySem.W.Frag} {C : Nat → Addr} {m m' : Mp} {z z' : Mem} {H H' : Hp} {n : Nat} {b : Bool} {o : Ob} {h h' : Mem}
theorem SqL.congr {a : Addr} {vs : List V} (e : H' a = H a) (q : SqL K H a vs) : SqL K H' a vs := by
  unfold SqL Rd at q ⊢
  rw [e]
  exact q
theorem Slt.congr {a c d : Addr} {vs : List (Option V)} (e1 : H' a = H a) (e2 : H' d = H d) (q : SlX.Slt H a c d vs) : SlX.Slt H' a c d vs := by
  unfold SlX.Slt at q ⊢
  rw [e1, e2]
  exact q
/-- an object stays as it is -/
theorem OR.weak {z z' : Nat} (l : Lw z m H z' m' H') (hn : n < z) (e1 : H' (m.a n) = H (m.a n)) (e2 : H' (m.d n) = H (m.d n)) (q : OR K C m z H n b o) : OR K C m' z' H' n b o := by
  have k := l.keep n hn
  cases o with
  | lst xs =>
    obtain ⟨d, vs, e, r⟩ := q
    exact ⟨by rw [k.1, k.2]; exact d, vs, by rw [k.1, e1]; exact e, r.weak l⟩
  | scr xs =>
    obtain ⟨d, nn, vs, e, nt, r⟩ := q
    refine ⟨by rw [k.1, k.2]; exact d, by rw [k.1, e1]; exact nn, vs, ?_, by rw [k.1, e1]; exact nt, r.weak l⟩
    rw [k.1]
    exact SqL.congr e1 e
  | dic kvs =>
    obtain ⟨d, o, ws, e, r⟩ := q
    exact ⟨by rw [k.1, k.2]; exact d, o, ws, by rw [k.1, e1]; exact e, r.weak l⟩
  | ins c fs =>
    obtain ⟨d, nn, vs, e, r⟩ := q
    refine ⟨by rw [k.1, k.2]; exact d, by rw [k.2, e2]; exact nn, vs, ?_, r.weak l⟩
    rw [k.1, k.2]
    exact Slt.congr e1 e2 e
theorem OR.mono (l : Le z m H z' m' H') (hn : n < z.size) (e1 : H' (m.a n) = H (m.a n)) (e2 : H' (m.d n) = H (m.d n)) (q : OR K C m z.size H n b o) : OR K C m' z'.size H' n b o := q.weak l.lw hn e1 e2
theorem OR.live (q : OR K C m z.size H n b o) : H (m.a n) ≠ none ∧ H (m.d n) ≠ none ∧ (∀ us, H (m.a n) ≠ some (.tup us)) := by
  cases o with
  | lst xs =>
    obtain ⟨d, vs, e, r⟩ := q
    rw [d, e]
    exact ⟨fun z => (nomatch z), fun z => (nomatch z), fun _ z => (nomatch z)⟩
  | scr xs =>
    obtain ⟨d, nn, vs, e, nt, r⟩ := q
    rw [d]
    exact ⟨nn, nn, nt⟩
  | dic kvs =>
    obtain ⟨d, o, ws, e, r⟩ := q
    rw [d, e]
    exact ⟨fun z => (nomatch z), fun z => (nomatch z), fun _ z => by unfold DxO at z; cases z⟩
  | ins c fs =>
    obtain ⟨d, nn, vs, e, r⟩ := q
    refine ⟨?_, nn.1, ?_⟩
    · rcases e with ⟨e, _⟩ | ⟨e, _⟩ <;> rw [e] <;> exact fun z => nomatch z
    · rcases e with ⟨e, _⟩ | ⟨e, _⟩ <;> rw [e] <;> intro us z
      · exact nomatch z
      · unfold SlX.SlO at z; cases z
theorem RH.live (r : RH K C m h H) (hn : n < h.size) : H (m.a n) ≠ none ∧ H (m.d n) ≠ none ∧ (∀ us, H (m.a n) ≠ some (.tup us)) := by
  obtain ⟨o, e⟩ := r.all n hn
  exact (r.obj n o e).live
theorem RH.refl (r : RH K C m h H) : Le h m H h m H :=
  ⟨Nat.le_refl _, rfl, rfl, fun _ _ => rfl, fun _ _ _ => rfl, fun _ _ => ⟨rfl, rfl⟩, fun _ _ e _ => e, fun _ _ e => e, fun n h1 h2 => absurd h2 (by omega), fun n hn => ⟨(r.live hn).1, (r.live hn).2.1⟩⟩
theorem RH.fresh (r : RH K C m h H) {p : Addr} (hp : H p = none) (hn : n < h.size) : m.a n ≠ p ∧ m.d n ≠ p :=
  ⟨fun e => (r.live hn).1 (by rw [e]; exact hp), fun e => (r.live hn).2.1 (by rw [e]; exact hp)⟩
/-- a new object that the memory does not know -/
theorem RH.tmp (r : RH K C m h H) {p : Addr} {u : HO} (hp : H p = none) : Le h m H h m (upd H p u) ∧ RH K C m h (upd H p u) := by
  have l : Le h m H h m (upd H p u) := by
    refine ⟨Nat.le_refl _, rfl, rfl, fun _ _ => rfl, fun n _ hn => upd_ne (r.fresh hp hn).1, fun _ _ => ⟨rfl, rfl⟩, fun a o e _ => ?_, fun a vs e => ?_, fun n h1 h2 => absurd h2 (by omega), fun n hn => ?_⟩
    · rw [upd_ne (ne_of_none e hp)]; exact e
    · rw [upd_ne (ne_of_none e hp)]; exact e
    · rw [upd_ne (r.fresh hp hn).1, upd_ne (r.fresh hp hn).2]
      exact ⟨(r.live hn).1, (r.live hn).2.1⟩
  refine ⟨l, r.all, fun n o e => ?_, r.inj, r.lok, r.lod⟩
  have hn := Mem.get_lt e
  exact (r.obj n o e).mono l hn (upd_ne (r.fresh hp hn).1) (upd_ne (r.fresh hp hn).2)
theorem memb_push {h : Mem} {o : Ob} (n : Nat) : memb n (h.push o).dl = memb n h.dl := rfl
/-- a new object, laid at p (its dict at q) -/
theorem RH.new (r : RH K C m h H) {p q : Addr} (hp : H p = none) (hq : H q = none) (H' : Hp) (k : ∀ a, a ≠ p → a ≠ q → H' a = H a)
    (new : ∀ l : Le h m H (h.push o) (m.ext h.size p q) H', OR K C (m.ext h.size p q) (h.size + 1) H' h.size (memb h.size h.dl) o) (hpq : H' p ≠ none ∧ H' q ≠ none) :
    Le h m H (h.push o) (m.ext h.size p q) H' ∧ RH K C (m.ext h.size p q) (h.push o) H' := by
  have ka : ∀ a x, H a = some x → H' a = some x := fun a x e => by
    rw [k a (ne_of_none e hp) (ne_of_none e hq)]; exact e
  have hh : ∀ n, n < h.size → H' (m.a n) = H (m.a n) ∧ H' (m.d n) = H (m.d n) := fun n hn =>
    ⟨k _ (r.fresh hp hn).1 (r.fresh hq hn).1, k _ (r.fresh hp hn).2 (r.fresh hq hn).2⟩
  have l : Le h m H (h.push o) (m.ext h.size p q) H' := by
    refine ⟨Nat.le_succ _, rfl, rfl, fun n hn => Mem.get_push_old _ (r.lok n hn), fun n _ hn => (hh n hn).1, fun n hn => ⟨Mp.ext_a_ne (by omega), Mp.ext_d_ne (by omega)⟩, fun a x e _ => ka a x e, fun a vs e => ka a _ e, fun n h1 h2 => ?_, fun n hn => ?_⟩
    · have : n = h.size := by rw [Mem.size_push] at h2; omega
      subst this
      rw [Mp.ext_a, Mp.ext_d]
      exact ⟨hp, hq⟩
    · rw [(hh n hn).1, (hh n hn).2]
      exact ⟨(r.live hn).1, (r.live hn).2.1⟩
  refine ⟨l, fun n hn => ?_, fun n u e => ?_, fun i j hi hj ne => ?_, fun n hn => Nat.lt_succ_of_lt (r.lok n hn), fun n hn => Nat.lt_succ_of_lt (r.lod n hn)⟩
  · by_cases e : n = h.size
    · subst e; exact ⟨_, h.get_push_new _⟩
    · obtain ⟨u, eu⟩ := r.all n (by simp at hn; omega)
      exact ⟨u, Mem.get_push eu⟩
  · by_cases en : n = h.size
    · subst en
      rw [Mem.get_push_new] at e
      cases e
      exact new l
    · have hn : n < h.size := by
        have := Mem.get_lt e
        simp at this; omega
      rw [Mem.get_push_old _ hn] at e
      exact (r.obj n u e).mono l hn (hh n hn).1 (hh n hn).2
  · simp only [Mem.size_push] at hi hj
    by_cases ei : i = h.size
    · subst ei
      have hj' : j < h.size := by omega
      rw [Mp.ext_a, Mp.ext_d, Mp.ext_a_ne ne.symm, Mp.ext_d_ne ne.symm]
      exact ⟨(r.fresh hp hj').1.symm, (r.fresh hp hj').2.symm, (r.fresh hq hj').1.symm, (r.fresh hq hj').2.symm⟩
    · by_cases ej : j = h.size
      · subst ej
        have hi' : i < h.size := by omega
        rw [Mp.ext_a, Mp.ext_d, Mp.ext_a_ne ne, Mp.ext_d_ne ne]
        exact ⟨(r.fresh hp hi').1, (r.fresh hq hi').1, (r.fresh hp hi').2, (r.fresh hq hi').2⟩
      · rw [Mp.ext_a_ne ei, Mp.ext_d_ne ei, Mp.ext_a_ne ej, Mp.ext_d_ne ej]
        exact r.inj i j (by omega) (by omega) ne
/-- a new list -/
theorem RH.newL (r : RH K C m h H) {p : Addr} (hp : H p = none) {xs : List PV} {vs : List V} (rs : RPs m h.size H xs vs) :
    Le h m H (h.push (.lst xs)) (m.ext h.size p p) (upd H p (.lst vs)) ∧ RH K C (m.ext h.size p p) (h.push (.lst xs)) (upd H p (.lst vs)) :=
  r.new hp hp _ (fun a ha _ => upd_ne ha) (fun l => ⟨by rw [Mp.ext_a, Mp.ext_d], vs, by rw [Mp.ext_a]; exact upd_same, rs.mono l⟩) (by rw [upd_same]; exact ⟨fun z => (nomatch z), fun z => (nomatch z)⟩)
/-- an object is changed -/
theorem RH.put (r : RH K C m h H) {i : Nat} {u : Ob} (hi : i < h.size) (hfr : i ∉ h.locks) (H' : Hp) (k : ∀ a, a ≠ m.a i → a ≠ m.d i → H' a = H a) (tp : ∀ a vs, H a = some (.tup vs) → H' a = some (.tup vs))
    (hne : H' (m.a i) ≠ none ∧ H' (m.d i) ≠ none) (new : ∀ l : Le h m H (h.set i u) m H', OR K C m h.size H' i (memb i h.dl) u) : Le h m H (h.set i u) m H' ∧ RH K C m (h.set i u) H' := by
  have l : Le h m H (h.set i u) m H' := by
    refine ⟨Nat.le_refl _, rfl, rfl, fun n hn => Mem.get_set_ne _ (fun z => hfr (by rw [← z]; exact hn)), fun n hn hl => by
      have q := r.inj n i hl hi (fun z => hfr (by rw [← z]; exact hn))
      exact k _ q.1 q.2.1, fun _ _ => ⟨rfl, rfl⟩, fun a o e hn => ?_, tp, fun n h1 h2 => absurd h2 (by rw [Mem.size_set]; omega), fun n hn => ?_⟩
    · rw [k a (hn i hi).1 (hn i hi).2]; exact e
    · by_cases e : n = i
      · subst e; exact hne
      · have q := r.inj n i hn hi e
        rw [k _ q.1 q.2.1, k _ q.2.2.1 q.2.2.2]
        exact ⟨(r.live hn).1, (r.live hn).2.1⟩
  refine ⟨l, fun n hn => ?_, fun n o e => ?_, r.inj, r.lok, r.lod⟩
  · by_cases e : n = i
    · subst e; exact ⟨_, Mem.get_set_same _ hi⟩
    · obtain ⟨o, eo⟩ := r.all n hn
      exact ⟨o, by rw [Mem.get_set_ne _ e]; exact eo⟩
  · by_cases en : n = i
    · subst en
      rw [Mem.get_set_same _ hi] at e
      cases e
      exact new l
    · rw [Mem.get_set_ne _ en] at e
      have hn := Mem.get_lt e
      have q := r.inj n i hn hi en
      exact (r.obj n o e).mono l hn (k _ q.1 q.2.1) (k _ q.2.2.1 q.2.2.2)
theorem RH.putL (r : RH K C m h H) {i : Nat} {xs ys : List PV} {ws : List V} (e : h.get i = some (.lst xs)) (hfr : i ∉ h.locks) (rs : RPs m h.size H ys ws) :
    Le h m H (h.set i (.lst ys)) m (upd H (m.a i) (.lst ws)) ∧ RH K C m (h.set i (.lst ys)) (upd H (m.a i) (.lst ws)) := by
  have hi := Mem.get_lt e
  obtain ⟨d, vs, ev, _⟩ := r.obj i _ e
  refine r.put hi hfr _ (fun a ha _ => upd_ne ha) (fun a us ea => ?_) ?_ fun l => ⟨d, ws, upd_same, rs.mono l⟩
  · rw [upd_ne (fun z => by rw [z, ev] at ea; cases ea)]; exact ea
  · rw [d, upd_same]; exact ⟨fun z => (nomatch z), fun z => (nomatch z)⟩
/-- what is read as a list -/
theorem RH.sqL (r : RH K C m h H) {i : Nat} {xs : List PV} (e : h.get i = some (.lst xs) ∨ h.get i = some (.scr xs)) : ∃ vs, SqL K H (m.a i) vs ∧ RPs m h.size H xs vs := by
  rcases e with e | e
  · obtain ⟨_, vs, ev, rs⟩ := r.obj i _ e
    exact ⟨vs, SqL.of ev, rs⟩
  · obtain ⟨_, _, vs, ev, _, rs⟩ := r.obj i _ e
    exact ⟨vs, ev, rs⟩
end

/-! ### slots of a frame -/
structure RE (m : Mp) (z : Nat) (H : Hp) (s : Env) (σ : L2.St) : Prop where
  len : σ.length = s.length
  at_ : ∀ (i : Nat) (x : PV), s[i]? = some (some x) → ∃ v, σ[i]? = some (some v) ∧ RP m z H x v
section
variable {m m' : Mp} {z : Nat} {H H' : Hp} {s : Env} {σ : L2.St}
theorem RE.mono {y y' : Mem} (l : Le y m H y' m' H') (r : RE m y.size H s σ) : RE m' y'.size H' s σ := ⟨r.len, fun i x e => by
  obtain ⟨v, e, q⟩ := r.at_ i x e
  exact ⟨v, e, q.mono l⟩⟩
theorem RE.set (r : RE m z H s σ) (i : Nat) {x : PV} {v : V} (q : RP m z H x v) : RE m z H (s.set i (some x)) (σ.set i (some v)) := by
  refine ⟨by rw [List.length_set, List.length_set]; exact r.len, fun j y e => ?_⟩
  by_cases h : i = j
  · subst h
    by_cases hl : i < s.length
    · rw [List.getElem?_set_self hl] at e
      cases e
      exact ⟨v, List.getElem?_set_self (by rw [r.len]; exact hl), q⟩
    · rw [List.getElem?_eq_none (by rw [List.length_set]; omega)] at e; cases e
  · rw [List.getElem?_set_ne h] at e ⊢
    exact r.at_ j y e
/-- a comprehension's own slots forgotten -/
def wipeE (s : Env) : List Nat → Env
  | [] => s
  | v :: vs => (wipeE s vs).set v none
theorem RE.wipe (r : RE m z H s σ) : ∀ vs : List Nat, RE m z H (wipeE s vs) (wipe σ vs)
  | [] => r
  | i :: vs => by
    have ih := RE.wipe r vs
    unfold wipeE L2.wipe
    refine ⟨by rw [List.length_set, List.length_set]; exact ih.len, fun j y e => ?_⟩
    by_cases h : i = j
    · subst h
      by_cases hl : i < (wipeE s vs).length
      · rw [List.getElem?_set_self hl] at e; cases e
      · rw [List.getElem?_eq_none (by rw [List.length_set]; omega)] at e; cases e
    · rw [List.getElem?_set_ne h] at e ⊢
      exact ih.at_ j y e
theorem RPs.map_some {xs : List PV} {vs : List V} (r : RPs m z H xs vs) {i : Nat} {x : PV} (e : (xs.map some)[i]? = some (some x)) : ∃ v, (vs.map some)[i]? = some (some v) ∧ RP m z H x v := by
  rw [List.getElem?_map] at e
  cases q : xs[i]? with
  | none => rw [q] at e; cases e
  | some y =>
    rw [q] at e
    have : y = x := Option.some.inj (Option.some.inj e)
    subst this
    obtain ⟨v, ev, rv⟩ := r.get q
    exact ⟨v, by rw [List.getElem?_map, ev]; rfl, rv⟩
end
end Ev
end

section
set_option Elab.async false
set_option linter.all false
set_option maxRecDepth 100000
/-! Ev: dicts with tuples as keys, over the heap. -/
namespace Ev
open PySem PySem.Spec PyProof.Rows L2

/-! ### keys -/
section
variable {w : World}
theorem keyG_cons {f : PV → Option NestedKey} {x : PV} {xs : List PV} {ks : List NestedKey} (e : keyG f (x :: xs) = some ks) : ∃ k r, f x = some k ∧ keyG f xs = some r ∧ ks = k :: r := by
  unfold keyG at e
  cases e1 : f x with
  | none => rw [e1] at e; cases e
  | some k =>
    cases e2 : keyG f xs with
    | none => rw [e1, e2] at e; cases e
    | some r => rw [e1, e2] at e; cases e; exact ⟨k, r, rfl, rfl, rfl⟩
theorem keyE_tup {n : Nat} {xs : List PV} {K : NestedKey} (e : keyE (n + 1) (.tup xs) = some K) : ∃ ks, keyG (keyE n) xs = some ks ∧ K = .tup ks := by
  have e : (match keyG (keyE n) xs with
      | some ks => some (NestedKey.tup ks)
      | none => none) = some K := e
  cases e1 : keyG (keyE n) xs with
  | none => rw [e1] at e; cases e
  | some ks => rw [e1] at e; cases e; exact ⟨ks, rfl, rfl⟩
theorem hks_eq {n : Nat} (ih : ∀ x K, keyE n x = some K → K.hash w = hk K) : ∀ (xs : List PV) (ks : List NestedKey), keyG (keyE n) xs = some ks → NestedKey.hashes w ks = hks ks
  | [], _, e => by cases e; rfl
  | x :: xs, ks, e => by
    obtain ⟨k, r, e1, e2, rfl⟩ := keyG_cons e
    simp only [NestedKey.hashes, hks]
    rw [ih x k e1, hks_eq ih xs r e2]
theorem hk_eq : ∀ (n : Nat) (x : PV) (K : NestedKey), keyE n x = some K → K.hash w = hk K
  | 0, _, _, e => by cases e
  | n + 1, x, K, e => by
    cases x with
    | non => cases e; rfl
    | int i => cases e; rfl
    | tup xs =>
      obtain ⟨ks, e1, rfl⟩ := keyE_tup e
      simp only [NestedKey.hash, hk]
      rw [hks_eq (hk_eq n) xs ks e1]
    | bl b => cases e
    | str b => cases e
    | ref b => cases e
theorem deps {n : Nat} (ih : ∀ x K, keyE n x = some K → K.depth ≤ n) : ∀ (xs : List PV) (ks : List NestedKey), keyG (keyE n) xs = some ks → NestedKey.depthAll ks ≤ n
  | [], _, e => by cases e; exact Nat.zero_le _
  | x :: xs, ks, e => by
    obtain ⟨k, r, e1, e2, rfl⟩ := keyG_cons e
    simp only [NestedKey.depthAll]
    have h1 := ih x k e1
    have h2 := deps ih xs r e2
    omega
theorem depth_le : ∀ (n : Nat) (x : PV) (K : NestedKey), keyE n x = some K → K.depth ≤ n
  | 0, _, _, e => by cases e
  | n + 1, x, K, e => by
    cases x with
    | non => cases e; exact Nat.zero_le _
    | int i => cases e; exact Nat.zero_le _
    | tup xs =>
      obtain ⟨ks, e1, rfl⟩ := keyE_tup e
      simp only [NestedKey.depth]
      have := deps (depth_le n) xs ks e1
      omega
    | bl b => cases e
    | str b => cases e
    | ref b => cases e
theorem hashGs {n : Nat} (ih : ∀ x K, keyE n x = some K → hashF n x = some (hk K)) : ∀ (xs : List PV) (ks : List NestedKey), keyG (keyE n) xs = some ks → hashG (hashF n) xs = some (hks ks)
  | [], _, e => by cases e; rfl
  | x :: xs, ks, e => by
    obtain ⟨k, r, e1, e2, rfl⟩ := keyG_cons e
    unfold hashG
    rw [ih x k e1, hashGs ih xs r e2]
    rfl
theorem hashF_eq : ∀ (n : Nat) (x : PV) (K : NestedKey), keyE n x = some K → hashF n x = some (hk K)
  | 0, _, _, e => by cases e
  | n + 1, x, K, e => by
    cases x with
    | non => cases e; rfl
    | int i => cases e; rfl
    | tup xs =>
      obtain ⟨ks, e1, rfl⟩ := keyE_tup e
      have q := hashGs (hashF_eq n) xs ks e1
      show (match hashG (hashF n) xs with
        | some hs => some (reduceHash (Builtin.Tuple.tupleHashOf hs))
        | none => none) = some (hk (.tup ks))
      rw [q]
      rfl
    | bl b => cases e
    | str b => cases e
    | ref b => cases e
theorem kEqs {n : Nat} (ih : ∀ x y K L, keyE n x = some K → keyE n y = some L → kEq n x y = decide (K = L)) : ∀ (xs ys : List PV) (ks ls : List NestedKey), keyG (keyE n) xs = some ks → keyG (keyE n) ys = some ls → kEqL (kEq n) xs ys = decide (ks = ls)
  | [], [], _, _, e, f => by cases e; cases f; rfl
  | [], y :: ys, ks, ls, e, f => by
    obtain ⟨k, r, e1, e2, rfl⟩ := keyG_cons f
    cases e
    rfl
  | x :: xs, [], ks, ls, e, f => by
    obtain ⟨k, r, e1, e2, rfl⟩ := keyG_cons e
    cases f
    rfl
  | x :: xs, y :: ys, ks, ls, e, f => by
    obtain ⟨k, r, e1, e2, rfl⟩ := keyG_cons e
    obtain ⟨l, t, f1, f2, rfl⟩ := keyG_cons f
    have q := kEqs ih xs ys r t e2 f2
    unfold kEqL
    rw [ih x y k l e1 f1]
    by_cases h : k = l
    · simp [h, q]
    · simp [h]
theorem kEq_iff : ∀ (n : Nat) (x y : PV) (K L : NestedKey), keyE n x = some K → keyE n y = some L → kEq n x y = decide (K = L)
  | 0, _, _, _, _, e, _ => by cases e
  | n + 1, x, y, K, L, e, f => by
    cases x with
    | non =>
      cases e
      cases y with
      | non => cases f; rfl
      | int i => cases f; rfl
      | tup ys => obtain ⟨ks, e1, rfl⟩ := keyE_tup f; rfl
      | bl b => cases f
      | str b => cases f
      | ref b => cases f
    | int i =>
      cases e
      cases y with
      | non => cases f; rfl
      | int j =>
        cases f
        show ieq i j = _
        rw [ieq_eq]
        by_cases h : i = j
        · simp [h]
        · simp [h]
      | tup ys => obtain ⟨ks, e1, rfl⟩ := keyE_tup f; rfl
      | bl b => cases f
      | str b => cases f
      | ref b => cases f
    | tup xs =>
      obtain ⟨ks, e1, rfl⟩ := keyE_tup e
      cases y with
      | non => cases f; rfl
      | int j => cases f; rfl
      | tup ys =>
        obtain ⟨ls, f1, rfl⟩ := keyE_tup f
        show kEqL (kEq n) xs ys = _
        rw [kEqs (kEq_iff n) xs ys ks ls e1 f1]
        by_cases h : ks = ls
        · simp [h]
        · simp [h]
      | bl b => cases f
      | str b => cases f
      | ref b => cases f
    | bl b => cases e
    | str b => cases e
    | ref b => cases e
theorem keyN_E {x : PV} {K : NestedKey} (e : keyN x = some K) : keyE 8 x = some K := by
  cases x <;> first | exact e | (cases e; done)
theorem tkeyEq_iff {x y : PV} {K L : NestedKey} (e : keyN x = some K) (f : keyN y = some L) : tkeyEq x y = decide (K = L) := kEq_iff 8 x y K L (keyN_E e) (keyN_E f)
theorem isTKey_ok {x : PV} (h : isTKey x = true) : ∃ K, keyN x = some K := by
  unfold isTKey at h
  cases e : keyN x with
  | none => rw [e] at h; cases h
  | some K => exact ⟨K, rfl⟩
theorem hash_key {x : PV} {K : NestedKey} (e : keyN x = some K) : K.hash w = hk K := hk_eq 8 x K (keyN_E e)
end

/-- a key as it stands in the heap -/
theorem nested_all {P : Program} {w : World} {H : Hp} {h : Heap} {m : Mp} {z n : Nat} (ok : HOk P w H h)
    (ih : ∀ (x : PV) (K : NestedKey) (v : V) (u : Value), keyE n x = some K → RP m z H x v → RelV v u → NestedIs h K u) :
    ∀ (xs : List PV) (ks : List NestedKey) (vs : List V) (us : List Value), keyG (keyE n) xs = some ks → RPs m z H xs vs → Vals vs us → NestedAll h ks us
  | [], _, _, _, e, .nil, r => by cases e; cases r; exact .nil
  | x :: xs, ks, v :: vs, us, e, .cons a b, r => by
    obtain ⟨k, t, e1, e2, rfl⟩ := keyG_cons e
    cases r with
    | cons r1 r2 => exact .cons (ih x k v _ e1 a r1) (nested_all ok ih xs t vs _ e2 b r2)
theorem nested_of {P : Program} {w : World} {H : Hp} {h : Heap} {m : Mp} {z : Nat} (ok : HOk P w H h) :
    ∀ (n : Nat) (x : PV) (K : NestedKey) (v : V) (u : Value), keyE n x = some K → RP m z H x v → RelV v u → NestedIs h K u
  | 0, _, _, _, _, e, _, _ => by cases e
  | n + 1, x, K, v, u, e, r, ru => by
    cases x with
    | non =>
      cases e
      rw [r.non_inv] at ru
      obtain rfl : u = Value.none := ru
      exact .none
    | int i =>
      cases e
      rw [r.int_inv] at ru
      obtain ⟨t, rfl⟩ := ru
      exact .int i t
    | tup xs =>
      obtain ⟨ks, e1, rfl⟩ := keyE_tup e
      obtain ⟨a, vs, rfl, ea, rs⟩ := r.tup_inv
      obtain rfl : u = Value.ref a := ru
      obtain ⟨_, its, rv, ob, ho, hc, hd⟩ := (show ObjOk P w H h a (.tup vs) from ok _ _ ea)
      obtain ⟨k, hd⟩ := hd
      exact NestedIs.tup (vs := its.toArray) ho hc hd (by simpa using nested_all ok (nested_of ok n) xs ks vs its e1 rs rv)
    | bl b => cases e
    | str b => cases e
    | ref b => cases e
theorem key_is {P : Program} {w : World} {H : Hp} {h : Heap} {m : Mp} {z : Nat} (ok : HOk P w H h) {x : PV} {K : NestedKey} {b : Addr} (e : keyN x = some K) (r : RP m z H x (.ref b)) : (nestedKind P w).is h K b :=
  ⟨nested_of ok 8 x K _ _ (keyN_E e) r rfl, depth_le 8 x K (keyN_E e)⟩

/-! ### a dict's entries -/
abbrev Wx := List (NestedKey × Addr × V)
abbrev Xx := List (NestedKey × Addr × Value)
abbrev PWx (ws : Wx) (xs : Xx) : Prop := Paired (fun (p : NestedKey × Addr × V) (q : NestedKey × Addr × Value) => p.1 = q.1 ∧ p.2.1 = q.2.1 ∧ RelV p.2.2 q.2.2) ws xs
section
variable {m : Mp} {z : Nat} {H : Hp} {kvs : List (PV × PV)} {ws : Wx} {xs : Xx} {P : Program} {w : World} {h : Heap}
theorem rkv_is (ok : HOk P w H h) : ∀ {kvs : List (PV × PV)} {ws : Wx} {xs : Xx}, RKv m z H kvs ws → PWx ws xs → ∀ x ∈ xs, (nestedKind P w).is h x.1 x.2.1 ∧ x.1.hash w = hk x.1
  | _, _, _, .nil, .nil, x, hx => by cases hx
  | _, _, _, .cons e q r t, .cons pr pt, x, hx => by
    obtain ⟨p1, p2, p3⟩ := pr
    rcases List.mem_cons.mp hx with rfl | hx
    · rw [← p1, ← p2]
      exact ⟨key_is ok e q, hash_key e⟩
    · exact rkv_is ok t pt x hx
theorem en_map {w : World} {P : Program} : ∀ {xs : Xx}, (∀ x ∈ xs, x.1.hash w = hk x.1) → xs.map enN = xs.map (entryOfKey (nestedKind P w))
  | [], _ => rfl
  | x :: xs, h => by
    rw [List.map_cons, List.map_cons, en_map fun y hy => h y (List.mem_cons_of_mem _ hy)]
    have e : enN x = entryOfKey (nestedKind P w) x := by
      unfold enN entryOfKey
      rw [← h x (List.mem_cons_self ..)]
      rfl
    rw [e]
theorem dx_ok {P : Program} {w : World} {h : Heap} {a : Addr} {o : Obj} (ok : HOk P w H h) (e : H a = some (DxO a o ws)) (r : RKv m z H kvs ws) :
    h.get? a = some o ∧ (a == sysModules) = false ∧ ws.length ≤ sizeLine ∧ ∃ es ep xs, o.ExactDict ∧ o.data = .dict es ep ∧ es.toList = xs.map enN ∧ PWx ws xs ∧ h.DictOfH (nestedKind P w) a xs := by
  obtain ⟨⟨h1, h2, h3, es, ep, xs, d1, d2, d3, d4, d5⟩, _, _⟩ := (show ObjOk P w H h a (DxO a o ws) from ok _ _ e)
  have hi := rkv_is ok r d4
  exact ⟨h1, h2, h3, es, ep, xs, d1, d2, d3, d4, o, es, ep, h1, d1, d2, by rw [d3]; exact en_map fun x hx => (hi x hx).2, fun x hx => (hi x hx).1, d5⟩
theorem dxo_ok {P : Program} {w : World} {H : Hp} {h : Heap} {a : Addr} {o : Obj} {ws : Wx} (h1 : h.get? a = some o) (hd : (a == sysModules) = false) (f : DxF o ws) : ObjOk P w H h a (DxO a o ws) := by
  unfold DxO
  exact ⟨⟨h1, hd, f⟩, ⟨o, h1⟩, fun h1 h2 q k => ⟨k _ q.1, q.2⟩⟩
/-- and back -/
theorem dx_back {P : Program} {w : World} {h' : Heap} {a : Addr} (hd : (a == sysModules) = false) (hz : ws.length ≤ sizeLine) (p : PWx ws xs) (hh : ∀ x ∈ xs, x.1.hash w = hk x.1) (x : h'.DictOfH (nestedKind P w) a xs) :
    ∃ o, h'.get? a = some o ∧ ∀ H', ObjOk P w H' h' a (DxO a o ws) := by
  obtain ⟨o, es, ep, ho, hx, hdat, he, _, hn⟩ := x
  exact ⟨o, ho, fun _ => dxo_ok ho hd ⟨hz, es, ep, xs, hx, hdat, by rw [he]; exact (en_map hh).symm, p, hn⟩⟩
theorem look_ok {k : PV} {K : NestedKey} (e : keyN k = some K) : ∀ {kvs : List (PV × PV)} {ws : Wx} {xs : Xx}, RKv m z H kvs ws → PWx ws xs →
    (dlook k kvs = none ∧ atKey xs K = none) ∨ ∃ x v b u, dlook k kvs = some x ∧ atKey xs K = some (b, u) ∧ RP m z H x v ∧ RelV v u
  | _, _, _, .nil, .nil => .inl ⟨rfl, rfl⟩
  | (j, x) :: kvs, (J, b, v) :: ws, (J', b', u) :: xs, .cons ej q r t, .cons ⟨p1, p2, p3⟩ pt => by
    obtain rfl : J = J' := p1
    unfold dlook
    rw [tkeyEq_iff ej e]
    by_cases hh : J = K
    · subst hh
      simp only [decide_true]
      exact .inr ⟨x, v, b', u, rfl, by simp [atKey], r, p3⟩
    · simp only [decide_eq_false hh]
      have ea : atKey ((J, b', u) :: xs) K = atKey xs K := by simp [atKey, List.find?_cons, hh]
      rw [ea]
      exact look_ok e t pt
def putX (K : NestedKey) (b : Addr) (u : Value) : Xx → Xx
  | [] => [(K, b, u)]
  | (j, c, y) :: r => if j = K then (j, c, u) :: r else (j, c, y) :: putX K b u r
def putW (K : NestedKey) (b : Addr) (u : V) : Wx → Wx
  | [] => [(K, b, u)]
  | (j, c, y) :: r => if j = K then (j, c, u) :: r else (j, c, y) :: putW K b u r
theorem atKey_none {K : NestedKey} : ∀ {xs : Xx}, (∀ x ∈ xs, x.1 ≠ K) → atKey xs K = none
  | [], _ => rfl
  | x :: xs, h => by
    have h1 := h x (List.mem_cons_self ..)
    have ih := atKey_none (xs := xs) fun y hy => h y (List.mem_cons_of_mem _ hy)
    simpa [atKey, List.find?_cons, h1] using ih
theorem putAt_same {K : NestedKey} {u : Value} : ∀ {xs : Xx}, (∀ x ∈ xs, x.1 ≠ K) → xs.map (putAt K u) = xs
  | [], _ => rfl
  | x :: xs, h => by
    have h1 := h x (List.mem_cons_self ..)
    rw [List.map_cons, putAt_same fun y hy => h y (List.mem_cons_of_mem _ hy)]
    unfold putAt
    rw [if_neg h1]
theorem stored_eq {K : NestedKey} {b : Addr} {u : Value} : ∀ {xs : Xx}, (xs.map (·.1)).Nodup → storedH xs K b u = putX K b u xs
  | [], _ => by simp [storedH, atKey, putX]
  | (j, c, y) :: r, hn => by
    rw [List.map_cons, List.nodup_cons] at hn
    have ih := stored_eq (K := K) (b := b) (u := u) hn.2
    unfold putX
    by_cases h : j = K
    · subst h
      rw [if_pos rfl]
      have hno : ∀ x ∈ r, x.1 ≠ j := fun x hx e => hn.1 (List.mem_map.mpr ⟨x, hx, e⟩)
      have ea : (atKey ((j, c, y) :: r) j).isSome = true := by simp [atKey]
      unfold storedH
      rw [if_pos ea, List.map_cons, putAt_same hno]
      unfold putAt
      rw [if_pos rfl]
    · rw [if_neg h, ← ih]
      have ea : atKey ((j, c, y) :: r) K = atKey r K := by simp [atKey, List.find?_cons, h]
      unfold storedH
      rw [ea]
      by_cases q : (atKey r K).isSome = true
      · rw [if_pos q, if_pos q, List.map_cons]
        unfold putAt
        rw [if_neg h]
      · rw [if_neg q, if_neg q]
        rfl
theorem put_rel {k x : PV} {K : NestedKey} {b : Addr} {v : V} {u : Value} (e : keyN k = some K) (rk : RP m z H k (.ref b)) (rx : RP m z H x v) (rv : RelV v u) : ∀ {kvs : List (PV × PV)} {ws : Wx} {xs : Xx}, RKv m z H kvs ws → PWx ws xs →
    RKv m z H (dput k x kvs) (putW K b v ws) ∧ PWx (putW K b v ws) (putX K b u xs)
  | _, _, _, .nil, .nil => ⟨.cons e rk rx .nil, .cons ⟨rfl, rfl, rv⟩ .nil⟩
  | (j, y) :: kvs, (J, c, t) :: ws, (J', c', s) :: xs, .cons ej q r rest, .cons ⟨p1, p2, p3⟩ pt => by
    obtain rfl : J = J' := p1
    obtain rfl : c = c' := p2
    unfold dput putW putX
    rw [tkeyEq_iff ej e]
    by_cases hh : J = K
    · rw [if_pos hh, if_pos hh, decide_eq_true hh]
      exact ⟨.cons ej q rx rest, .cons ⟨rfl, rfl, rv⟩ pt⟩
    · rw [if_neg hh, if_neg hh, decide_eq_false hh]
      obtain ⟨a1, a2⟩ := put_rel e rk rx rv rest pt
      exact ⟨.cons ej q r a1, .cons ⟨rfl, rfl, p3⟩ a2⟩
theorem dput_len (k x : PV) : ∀ kvs : List (PV × PV), (dput k x kvs).length ≤ kvs.length + 1
  | [] => Nat.le_refl _
  | (j, y) :: r => by
    unfold dput
    cases tkeyEq j k
    · simp only [List.length_cons]
      have := dput_len k x r
      omega
    · simp only [List.length_cons]
      omega
theorem putX_key {K : NestedKey} {b : Addr} {u : Value} : ∀ {xs : Xx} {j : NestedKey}, j ∈ (putX K b u xs).map (·.1) → j = K ∨ j ∈ xs.map (·.1)
  | [], j, h => by
    have : j = K := by simpa [putX] using h
    exact .inl this
  | (i, c, y) :: r, j, h => by
    unfold putX at h
    split at h
    · rw [List.map_cons] at h
      exact .inr (by rw [List.map_cons]; exact h)
    · rw [List.map_cons] at h
      rw [List.map_cons]
      rcases List.mem_cons.mp h with e | h
      · exact .inr (List.mem_cons.mpr (.inl e))
      · rcases putX_key h with e | e
        · exact .inl e
        · exact .inr (List.mem_cons_of_mem _ e)
theorem hash_putX {w : World} {K : NestedKey} {b : Addr} {u : Value} (hK : K.hash w = hk K) : ∀ {l : Xx}, (∀ y ∈ l, y.1.hash w = hk y.1) → ∀ y ∈ putX K b u l, y.1.hash w = hk y.1
  | [], _, y, hy => by
    have : y = (K, b, u) := by simpa [putX] using hy
    subst this
    exact hK
  | (j, c, t) :: l, hc, y, hy => by
    unfold putX at hy
    split at hy
    · rcases List.mem_cons.mp hy with rfl | hy
      · exact hc (j, c, t) (List.mem_cons_self ..)
      · exact hc y (List.mem_cons_of_mem _ hy)
    · rcases List.mem_cons.mp hy with rfl | hy
      · exact hc (j, c, t) (List.mem_cons_self ..)
      · exact hash_putX hK (fun z hz => hc z (List.mem_cons_of_mem _ hz)) y hy
theorem nodup_putX {K : NestedKey} {b : Addr} {u : Value} : ∀ {xs : Xx}, (xs.map (·.1)).Nodup → ((putX K b u xs).map (·.1)).Nodup
  | [], _ => by simp [putX]
  | (i, c, y) :: r, h => by
    rw [List.map_cons, List.nodup_cons] at h
    unfold putX
    split
    · rw [List.map_cons, List.nodup_cons]
      exact h
    · rename_i ne
      rw [List.map_cons, List.nodup_cons]
      refine ⟨fun z => ?_, nodup_putX h.2⟩
      rcases putX_key z with e | e
      · exact ne e
      · exact h.1 e
theorem putW_len (K : NestedKey) (b : Addr) (u : V) : ∀ ws : Wx, (putW K b u ws).length ≤ ws.length + 1
  | [] => Nat.le_refl _
  | (j, c, y) :: r => by
    unfold putW
    split
    · simp only [List.length_cons]; omega
    · simp only [List.length_cons]
      have := putW_len K b u r
      omega
theorem puts_rel : ∀ {kvs : List (PV × PV)} {ws : Wx} {xs : Xx} {acc : List (PV × PV)} {aw : Wx} {ax : Xx}, RKv m z H kvs ws → PWx ws xs → RKv m z H acc aw → PWx aw ax → (ax.map (·.1)).Nodup →
    ∃ ws', RKv m z H (dputs acc kvs) ws' ∧ PWx ws' (storedAllH ax xs) ∧ ws'.length ≤ aw.length + ws.length
  | _, _, _, _, aw, _, .nil, .nil, r, p, _ => ⟨aw, r, p, Nat.le_refl _⟩
  | (k, x) :: kvs, (K, b, v) :: ws, (K', b', u) :: xs, acc, aw, ax, .cons e rk rx t, .cons ⟨p1, p2, p3⟩ pt, r, p, hn => by
    obtain rfl : K = K' := p1
    obtain rfl : b = b' := p2
    obtain ⟨a1, a2⟩ := put_rel e rk rx p3 r p
    obtain ⟨ws', h1, h2, h3⟩ := puts_rel t pt a1 a2 (nodup_putX hn)
    have hl := putW_len K b v aw
    refine ⟨ws', h1, ?_, by simp only [List.length_cons]; omega⟩
    have e2 : storedAllH ax ((K, b, u) :: xs) = storedAllH (storedH ax K b u) xs := rfl
    rw [e2, stored_eq hn]
    exact h2
theorem hashes_of : ∀ {kvs : List (PV × PV)} {ws : Wx} {xs : Xx}, RKv m z H kvs ws → PWx ws xs → hashesF kvs = some (xs.map fun x => hk x.1)
  | _, _, _, .nil, .nil => rfl
  | (k, x) :: kvs, (K, b, v) :: ws, (K', b', u) :: xs, .cons e rk rx t, .cons ⟨p1, p2, p3⟩ pt => by
    obtain rfl : K = K' := p1
    unfold hashesF
    rw [hashF_eq 8 k K (keyN_E e), hashes_of t pt]
    rfl
theorem inI_iff {i : Int} : ∀ {l : List Int}, inI i l = true ↔ i ∈ l
  | [] => by simp [inI]
  | j :: r => by
    unfold inI
    rw [ieq_eq]
    by_cases h : i = j
    · simp [h]
    · simp [h, inI_iff (l := r)]
theorem nodI_ok : ∀ {l : List Int}, nodI l = true → l.Nodup
  | [], _ => List.nodup_nil
  | i :: r, h => by
    unfold nodI at h
    cases e : inI i r with
    | true => rw [e] at h; cases h
    | false =>
      rw [e] at h
      rw [List.nodup_cons]
      exact ⟨fun z => (by rw [inI_iff.mpr z] at e; cases e), nodI_ok h⟩
end
end Ev
end

section
set_option Elab.async false
set_option linter.all false
set_option maxRecDepth 100000
/-! Ev: dicts in the memory: what each operation does. -/
namespace Ev
open PySem PySem.Spec PyProof.Rows L2

section
variable {K : PySem.W.Frag} {C : Nat → Addr} {m : Mp} {h : Mem} {H : Hp}
theorem RKv.mono {z z' : Mem} {m m' : Mp} {H H' : Hp} (l : Le z m H z' m' H') {kvs : List (PV × PV)} {ws : Wx} (r : RKv m z.size H kvs ws) : RKv m' z'.size H' kvs ws := r.weak l.lw
theorem RH.newD (r : RH K C m h H) {p : Addr} (hp : H p = none) {kvs : List (PV × PV)} {ws : Wx} (o : Obj) (rs : RKv m h.size H kvs ws) :
    Le h m H (h.push (.dic kvs)) (m.ext h.size p p) (upd H p (DxO p o ws)) ∧ RH K C (m.ext h.size p p) (h.push (.dic kvs)) (upd H p (DxO p o ws)) :=
  r.new hp hp _ (fun a ha _ => upd_ne ha) (fun l => ⟨by rw [Mp.ext_a, Mp.ext_d], o, ws, by rw [Mp.ext_a]; exact upd_same, rs.mono l⟩) (by rw [upd_same]; exact ⟨fun z => (nomatch z), fun z => (nomatch z)⟩)
theorem RH.putD (r : RH K C m h H) {i : Nat} {kvs ls : List (PV × PV)} {ws : Wx} (e : h.get i = some (.dic kvs)) (hfr : i ∉ h.locks) (o : Obj) (rs : RKv m h.size H ls ws) :
    Le h m H (h.set i (.dic ls)) m (upd H (m.a i) (DxO (m.a i) o ws)) ∧ RH K C m (h.set i (.dic ls)) (upd H (m.a i) (DxO (m.a i) o ws)) := by
  have hi := Mem.get_lt e
  obtain ⟨d, o1, ws1, ev, _⟩ := r.obj i _ e
  refine r.put hi hfr _ (fun a ha _ => upd_ne ha) (fun a us ea => ?_) ?_ fun l => ⟨d, o, ws, upd_same, rs.mono l⟩
  · rw [upd_ne (fun z => by rw [z, ev] at ea; unfold DxO at ea; cases ea)]; exact ea
  · rw [d, upd_same]; exact ⟨fun z => (nomatch z), fun z => (nomatch z)⟩
end

section
variable {X : Cx} {C : Nat → Addr} {pins : List (Addr × Obj)} {σ : L2.St} {H : Hp} {s : Shared} {h : Mem} {m : Mp} {i : Nat} {kvs : List (PV × PV)} {k x : PV} {b : Addr} {A : Around} {E : Value → Shared → Prop}
theorem nk_room (hu : A.units + 9 < cLine) : (nestedKind X.prog X.w).room A.in1 := by
  show A.in1.units + 8 < cLine
  have : A.in1.units = A.units + 1 := rfl
  omega
/-- what stands there -/
theorem dic_at (I : L2.Inv X pins σ H s) (rh : RH X.K C m h H) (e : h.get i = some (.dic kvs)) :
    ∃ o ws xs es ep, H (m.a i) = some (DxO (m.a i) o ws) ∧ RKv m h.size H kvs ws ∧ PWx ws xs ∧ s.heap.get? (m.a i) = some o ∧ o.ExactDict ∧ o.data = .dict es ep ∧ es.toList = xs.map enN ∧ ((m.a i) == sysModules) = false ∧ kvs.length ≤ sizeLine ∧
      s.heap.DictOfH (nestedKind X.prog X.w) (m.a i) xs ∧ ∀ x ∈ xs, x.1.hash X.w = hk x.1 := by
  obtain ⟨_, o, ws, e1, rk⟩ := rh.obj i _ e
  obtain ⟨h1, h2, h3, es, ep, xs, d1, d2, d3, d4, d5⟩ := dx_ok I.hok e1 rk
  exact ⟨o, ws, xs, es, ep, e1, rk, d4, h1, d1, d2, d3, h2, by rw [← rk.length]; exact h3, d5, fun x hx => (rkv_is (P := X.prog) (w := X.w) I.hok rk d4 x hx).2⟩
theorem key_ref (rk : RP m h.size H k v) (ek : keyN k = some NK) : ∃ b, v = .ref b := by
  cases k <;> first | (cases ek; done) | skip
  obtain ⟨a, vs, rfl, _, _⟩ := rk.tup_inv
  exact ⟨a, rfl⟩
theorem kd_getItem {NK : NestedKey} {Q : Value → Shared → Prop} (hu : A.units + 9 < cLine) (I : L2.Inv X pins σ H s) (rh : RH X.K C m h H) (e : h.get i = some (.dic kvs)) (rk : RP m h.size H k (.ref b)) (ek : keyN k = some NK)
    (lk : dlook k kvs = some x) (q : ∀ v w' s', RP m h.size H x v → L2.Inv X pins σ H s' → RelV v w' → Q w' s') : wpAny (model X.prog X.w) A (getItem (.ref (m.a i)) (.ref b)) Q E s := by
  obtain ⟨o, ws, xs, es, ep, e1, r, pw, _, _, _, _, hd, _, dd, _⟩ := dic_at I rh e
  rcases look_ok ek r pw with ⟨z, _⟩ | ⟨x', v, b', u, l1, l2, rx, rv⟩
  · rw [lk] at z; cases z
  · rw [lk] at l1; cases l1
    exact wpAny_getItem_heap (nk_room hu) (key_is I.hok ek rk) dd l2 (q v u _ rx (I.tok _) rv)
theorem kd_in {NK : NestedKey} {Q : Value → Shared → Prop} (hu : A.units + 9 < cLine) (I : L2.Inv X pins σ H s) (rh : RH X.K C m h H) (e : h.get i = some (.dic kvs)) (rk : RP m h.size H k (.ref b)) (ek : keyN k = some NK)
    (q : ∀ s', L2.Inv X pins σ H s' → Q (.bool (dlook k kvs).isSome) s') : wpAny (model X.prog X.w) A (compareOp .In (.ref b) (.ref (m.a i))) Q E s := by
  obtain ⟨o, ws, xs, es, ep, e1, r, pw, _, _, _, _, hd, _, dd, _⟩ := dic_at I rh e
  refine wpAny_in_heap (nk_room hu) (key_is I.hok ek rk) hd dd ?_
  have q' := q _ (I.tok (s.toks + (nestedKind X.prog X.w).draws NK))
  rcases look_ok ek r pw with ⟨z, z'⟩ | ⟨x', v, b', u, l1, l2, rx, rv⟩
  · rw [z] at q'; rw [z']; exact q'
  · rw [l1] at q'; rw [l2]; exact q'
theorem kd_notIn {NK : NestedKey} {Q : Value → Shared → Prop} (hu : A.units + 9 < cLine) (I : L2.Inv X pins σ H s) (rh : RH X.K C m h H) (e : h.get i = some (.dic kvs)) (rk : RP m h.size H k (.ref b)) (ek : keyN k = some NK)
    (q : ∀ s', L2.Inv X pins σ H s' → Q (.bool (!(dlook k kvs).isSome)) s') : wpAny (model X.prog X.w) A (compareOp .NotIn (.ref b) (.ref (m.a i))) Q E s := by
  obtain ⟨o, ws, xs, es, ep, e1, r, pw, _, _, _, _, hd, _, dd, _⟩ := dic_at I rh e
  refine wpAny_notIn_heap (nk_room hu) (key_is I.hok ek rk) hd dd ?_
  have q' := q _ (I.tok (s.toks + (nestedKind X.prog X.w).draws NK))
  rcases look_ok ek r pw with ⟨z, z'⟩ | ⟨x', v, b', u, l1, l2, rx, rv⟩
  · rw [z] at q'; rw [z']; exact q'
  · rw [l1] at q'; rw [l2]; exact q'
theorem kd_get {NK : NestedKey} {Q : Value → Shared → Prop} (hu : A.units + 9 < cLine) (I : L2.Inv X pins σ H s) (rh : RH X.K C m h H) (e : h.get i = some (.dic kvs)) (rk : RP m h.size H k (.ref b)) (ek : keyN k = some NK)
    (q : ∀ v w' s', RP m h.size H ((dlook k kvs).getD .non) v → L2.Inv X pins σ H s' → RelV v w' → Q w' s') : wpAny (model X.prog X.w) A (call (.builtin "dict.get") [.ref (m.a i), .ref b]) Q E s := by
  obtain ⟨o, ws, xs, es, ep, e1, r, pw, _, _, _, _, hd, _, dd, _⟩ := dic_at I rh e
  refine call_meetsIn PySem.F.slot_dict_get dd.typeIs PySem.F.entry_dict_get (PySem.F.args_dict_get_2 _ _) (meetsH_dict_get (nestedKind X.prog X.w) (m.a i) b hd) ⟨nk_room hu, NK, xs, key_is I.hok ek rk, dd, ?_⟩
  rcases look_ok ek r pw with ⟨z, z'⟩ | ⟨x', v, b', u, l1, l2, rx, rv⟩
  · rw [z']
    rw [z] at q
    exact q .non Value.none _ .non (I.tok _) rfl
  · rw [l2]
    rw [l1] at q
    exact q v u _ rx (I.tok _) rv
theorem kd_get2 {NK : NestedKey} {y : PV} {d : V} {du : Value} {Q : Value → Shared → Prop} (hu : A.units + 9 < cLine) (I : L2.Inv X pins σ H s) (rh : RH X.K C m h H) (e : h.get i = some (.dic kvs)) (rk : RP m h.size H k (.ref b)) (ek : keyN k = some NK) (ry : RP m h.size H y d) (rd : RelV d du)
    (q : ∀ v w' s', RP m h.size H ((dlook k kvs).getD y) v → L2.Inv X pins σ H s' → RelV v w' → Q w' s') : wpAny (model X.prog X.w) A (call (.builtin "dict.get") [.ref (m.a i), .ref b, du]) Q E s := by
  obtain ⟨o, ws, xs, es, ep, e1, r, pw, _, _, _, _, hd, _, dd, _⟩ := dic_at I rh e
  refine call_meetsIn PySem.F.slot_dict_get dd.typeIs PySem.F.entry_dict_get (PySem.F.args_dict_get_3 _ _ _) (meetsH_dict_get_default (nestedKind X.prog X.w) (m.a i) b hd du) ⟨nk_room hu, NK, xs, key_is I.hok ek rk, dd, ?_⟩
  rcases look_ok ek r pw with ⟨z, z'⟩ | ⟨x', v, b', u, l1, l2, rx, rv⟩
  · rw [z']
    rw [z] at q
    exact q d du _ ry (I.tok _) rd
  · rw [l2]
    rw [l1] at q
    exact q v u _ rx (I.tok _) rv
theorem kd_len {Q : Value → Shared → Prop} (I : L2.Inv X pins σ H s) (rh : RH X.K C m h H) (e : h.get i = some (.dic kvs)) (q : ∀ t s', L2.Inv X pins σ H s' → Q (.int (kvs.length : Nat) t) s') : wpAny (model X.prog X.w) A (call (.builtin "len") [.ref (m.a i)]) Q E s := by
  obtain ⟨o, ws, xs, es, ep, e1, r, pw, _, _, _, _, hd, z, dd, _⟩ := dic_at I rh e
  have hl : kvs.length = xs.length := by rw [← r.length]; exact Paired.length pw
  refine call_len_dictH hd dd (by rw [← hl]; rw [sizeLine_eq] at z; omega) ?_
  rw [← hl]
  exact q _ _ (I.tok _)
theorem kd_setItem {NK : NestedKey} {v : V} {vu : Value} {Q : Unit → Shared → Prop} (hu : A.units + 9 < cLine) (I : L2.Inv X pins σ H s) (rh : RH X.K C m h H) (e : h.get i = some (.dic kvs)) (hfr : i ∉ h.locks) (hz : kvs.length < sizeLine) (rk : RP m h.size H k (.ref b)) (ek : keyN k = some NK)
    (rx : RP m h.size H x v) (rv : RelV v vu) (q : ∀ s' H', L2.Inv X pins σ H' s' → Le h m H (h.set i (.dic (dput k x kvs))) m H' → RH X.K C m (h.set i (.dic (dput k x kvs))) H' → Q () s') :
    wpAny (model X.prog X.w) A (setItem (.ref (m.a i)) (.ref b) vu) Q E s := by
  obtain ⟨o, ws, xs, es, ep, e1, r, pw, _, _, _, _, hd, z, dd, hh⟩ := dic_at I rh e
  have hl : kvs.length = xs.length := by rw [← r.length]; exact Paired.length pw
  refine wpAny_setItem_heap (hsz := by rw [← hl]; exact z) (nk_room hu) (key_is I.hok ek rk) dd fun h' dd' hs => ?_
  rw [stored_eq dd.nodup] at dd'
  obtain ⟨r', pw'⟩ := put_rel ek rk rx rv r pw
  have hz' : (putW NK b v ws).length ≤ sizeLine := by
    have := putW_len NK b v ws
    have := r.length
    omega
  have hh' : ∀ y ∈ putX NK b vu xs, y.1.hash X.w = hk y.1 := by
    have key : ∀ l : Xx, (∀ y ∈ l, y.1.hash X.w = hk y.1) → ∀ y ∈ putX NK b vu l, y.1.hash X.w = hk y.1 := by
      intro l
      induction l with
      | nil =>
        intro _ y hy
        have : y = (NK, b, vu) := by simpa [putX] using hy
        subst this
        exact hash_key ek
      | cons c l ih =>
        intro hc y hy
        obtain ⟨j, c, t⟩ := c
        unfold putX at hy
        split at hy
        · rcases List.mem_cons.mp hy with rfl | hy
          · exact hc (j, c, t) (List.mem_cons_self ..)
          · exact hc y (List.mem_cons_of_mem _ hy)
        · rcases List.mem_cons.mp hy with rfl | hy
          · exact hc (j, c, t) (List.mem_cons_self ..)
          · exact ih (fun z hz => hc z (List.mem_cons_of_mem _ hz)) y hy
    exact key xs hh
  obtain ⟨o', ho', ok'⟩ := dx_back hd hz' pw' hh' dd'
  obtain ⟨l, rh'⟩ := rh.putD e hfr o' r'
  exact q _ _ (d_write I (by rw [e1]; exact True.intro) hs ⟨o', ho'⟩ (ok' _)) l rh'
theorem kd_clear {Q : Value → Shared → Prop} (I : L2.Inv X pins σ H s) (rh : RH X.K C m h H) (e : h.get i = some (.dic kvs)) (hfr : i ∉ h.locks) (q : ∀ s' H', L2.Inv X pins σ H' s' → Le h m H (h.set i (.dic [])) m H' → RH X.K C m (h.set i (.dic [])) H' → Q .none s') :
    wpAny (model X.prog X.w) A (call (.builtin "dict.clear") [.ref (m.a i)]) Q E s := by
  obtain ⟨o, ws, xs, es, ep, e1, r, pw, d0, d1, d2, d3, hd, z, dd, hh⟩ := dic_at I rh e
  have hl : kvs.length = xs.length := by rw [← r.length]; exact Paired.length pw
  have hes : es.size = xs.length := by rw [← Array.length_toList, d3, List.length_map]
  refine call_meetsIn PySem.F.slot_dict_clear dd.typeIs PySem.F.entry_dict_clear (PySem.F.args_dict_clear_1 _) (meets_dict_clear_raw (m.a i)) ⟨es, ep, ⟨o, d0, d1, d2⟩, by omega, fun h' hr' hs => ?_⟩
  obtain ⟨o', ho', hx', hdat'⟩ := hr'
  obtain ⟨l, rh'⟩ := rh.putD e hfr o' (ls := []) (ws := []) .nil
  exact q _ _ (d_write (t' := s.toks) I (by rw [e1]; exact True.intro) hs ⟨o', ho'⟩ (dxo_ok ho' hd ⟨Nat.zero_le _, #[], ep + 1, [], hx', hdat', rfl, .nil, List.nodup_nil⟩)) l rh'
/-- a new dict is laid -/
theorem kd_laid {h' : Heap} {tk : Nat} {ws : Wx} {xs : Xx} (I : L2.Inv X pins σ H s) (rh : RH X.K C m h H) (r : RKv m h.size H kvs ws) (pw : PWx ws xs) (hz : ws.length ≤ sizeLine) (hh : ∀ x ∈ xs, x.1.hash X.w = hk x.1)
    (dd : h'.DictOfH (nestedKind X.prog X.w) s.heap.objs.size xs) (k : ∀ b u, s.heap.get? b = some u → h'.get? b = some u) :
    ∃ H', L2.Inv X pins σ H' { s with heap := h', toks := tk } ∧ Le h m H (h.push (.dic kvs)) (m.ext h.size s.heap.objs.size s.heap.objs.size) H' ∧ RH X.K C (m.ext h.size s.heap.objs.size s.heap.objs.size) (h.push (.dic kvs)) H' := by
  have hm : (s.heap.objs.size == sysModules) = false := beq_eq_false_iff_ne.mpr (Nat.ne_of_gt I.big)
  obtain ⟨o', ho', ok'⟩ := dx_back hm hz pw hh dd
  obtain ⟨l, rh'⟩ := rh.newD (I.hok.fresh (Nat.le_refl _)) o' r
  exact ⟨_, I.laid (a := s.heap.objs.size) (t' := tk) k (Nat.le_refl _) (ok' _), l, rh'⟩
theorem kd_new {kx : List (Option Expr)} {Q : Value → Shared → Prop} {pos : Pos} {env : PySem.Env} (I : L2.Inv X pins σ H s) (rh : RH X.K C m h H)
    (q : ∀ s' H', L2.Inv X pins σ H' s' → Le h m H (h.push (.dic [])) (m.ext h.size s.heap.objs.size s.heap.objs.size) H' → RH X.K C (m.ext h.size s.heap.objs.size s.heap.objs.size) (h.push (.dic [])) H' → Q (.ref s.heap.objs.size) s') :
    wpAny (model X.prog X.w) A (eval (.Dict [] [] pos) env) Q E s := by
  refine wpAny_Dict_empty ?_
  obtain ⟨H', I', l, rh'⟩ := kd_laid (tk := s.toks) I rh (kvs := []) (ws := []) (xs := []) .nil .nil (Nat.zero_le _) (fun x hx => nomatch hx) (Heap.DictOfH.new s.heap) (fun _ _ q => Heap.get?_push_of_some _ q)
  exact q _ H' I' l rh'
theorem kd_copy {Q : Value → Shared → Prop} (hu : A.units + 10 < cLine) (I : L2.Inv X pins σ H s) (rh : RH X.K C m h H) (e : h.get i = some (.dic kvs)) (ha : apart kvs = true)
    (q : ∀ s' H', L2.Inv X pins σ H' s' → Le h m H (h.push (.dic kvs)) (m.ext h.size s.heap.objs.size s.heap.objs.size) H' → RH X.K C (m.ext h.size s.heap.objs.size s.heap.objs.size) (h.push (.dic kvs)) H' → Q (.ref s.heap.objs.size) s') :
    wpAny (model X.prog X.w) A (call (.type "dict") [.ref (m.a i)]) Q E s := by
  obtain ⟨o, ws, xs, es, ep, e1, r, pw, d0, d1, d2, d3, hd, z, dd, hh⟩ := dic_at I rh e
  have hl : kvs.length = xs.length := by rw [← r.length]; exact Paired.length pw
  have hap : (xs.map fun x => (nestedKind X.prog X.w).hash x.1).Nodup := by
    unfold apart at ha
    rw [hashes_of r pw] at ha
    have e2 : (xs.map fun x => (nestedKind X.prog X.w).hash x.1) = xs.map fun x => hk x.1 := List.map_congr_left fun x hx => hh x hx
    rw [e2]
    exact nodI_ok ha
  have hty : ∀ x ∈ xs, s.TypeIs (.ref x.2.1) "tuple" := fun x hx => by
    obtain ⟨_, _, _, _, _, _, _, his, _⟩ := id dd
    obtain ⟨y, _⟩ := his x hx
    generalize x.1 = kk at y
    cases y with
    | tup h1 h2 _ _ => exact ⟨_, h1, h2⟩
  refine callType_codes (Q₁ := fun obj s₁ => obj = .ref s.heap.objs.size ∧ s₁ = { s with heap := s.heap.push { cls := .type "dict", data := .dict #[] } }) PySem.F.kt_called_dict (PySem.F.kt_typeCall_dict_1 _) PySem.F.entry_dict_init (kt_code_dict_new _ ⟨rfl, rfl⟩) ?_
  rintro obj s₁ ⟨rfl, rfl⟩
  have hnew : (s.heap.push { cls := .type "dict", data := .dict #[] }).DictOfH (nestedKind X.prog X.w) s.heap.objs.size [] := Heap.DictOfH.new s.heap
  have hT : Shared.TypeIs { s with heap := s.heap.push { cls := .type "dict", data := .dict #[] } } (.ref s.heap.objs.size) "dict" := ⟨_, Heap.get?_push_size _ rfl, rfl⟩
  have k0 : ∀ b o, s.heap.get? b = some o → (s.heap.push { cls := .type "dict", data := .dict #[] }).get? b = some o := fun b o e => Heap.get?_push_of_some _ e
  refine ⟨hT, PySem.F.args_dict_init_2 _ _, ?_⟩
  unfold Builtin.«dict.__init__»
  refine wpAny_bind ?_
  unfold Builtin.Dict.selfAndRest
  refine wpAny_bind (wpAny_notOrdered_dict hT ?_)
  show wpAny _ _ (pure (s.heap.objs.size, [Value.ref (m.a i)])) _ _ _
  refine wpAny_pure ?_
  have hne : s.heap.objs.size ≠ m.a i := fun z => by
    have := Heap.lt_size d0
    rw [← z] at this
    exact absurd this (Nat.lt_irrefl _)
  have dd2 : (s.heap.push { cls := .type "dict", data := .dict #[] }).DictOfH (nestedKind X.prog X.w) (m.a i) xs := dd.at' (fun o q => k0 _ _ q) fun y hy => by
    obtain ⟨_, _, _, _, _, _, _, his, _⟩ := id dd
    exact ⟨NestedIs.at (fun b o vs n q _ => k0 _ _ q) _ _ (his y hy).1, (his y hy).2⟩
  refine updateFrom_dictH (A := A.in1) (.none) (show A.in1.in1.units + 8 < cLine by have : A.in1.in1.units = A.units + 1 + 1 := rfl; omega) hne hd hnew dd2 (.inr ⟨fun x hx => ?_, hap⟩) (by simp only [List.length_nil]; omega) fun h' hd' ho' hs => ?_
  · obtain ⟨o, h1, h2⟩ := hty x hx
    exact ⟨o, k0 _ _ h1, h2⟩
  · rw [storedAllH_nil_of_nodup xs dd.nodup] at hd'
    obtain ⟨H', I', l, rh'⟩ := kd_laid (tk := s.toks) I rh r pw (by rw [r.length]; exact z) hh hd' fun b u q => (hs.2 b (Nat.ne_of_lt (Heap.lt_size q))).trans (k0 _ _ q)
    exact ⟨rfl, q _ H' I' l rh'⟩
end
end Ev
end

section
set_option Elab.async false
set_option linter.all false
set_option maxRecDepth 100000
/-! Ev: None looked up in a dict with tuples as keys. -/
namespace Ev
open PySem PySem.Spec PyProof.Rows L2

abbrev hNone : Int := reduceHash 0xFCA86420
section
variable {prog : Program} {w : World} {A : Around} {E : Value → Shared → Prop} {s : Shared} {d : Addr} {o : Obj} {es : Array DictEntry} {ep : Nat}
theorem hash_none {Q : Int → Shared → Prop} (hu : A.units + 1 < cLine) (h : Q hNone { s with toks := s.toks + 1 }) : wpAny (model prog w) A (pyHash .none) Q E s :=
  pyHash_key (prog := prog) (w := w) .none .none A s Q .none (by simp only [NestedKey.depth]; omega) h
theorem places_nil (hn : ∀ i (hi : i < es.size), es[i].hash ≠ hNone) : placesWithHash es.size (fun i => es[i]?.map (·.hash)) hNone = [] := by
  unfold placesWithHash
  rw [List.filter_eq_nil_iff]
  intro i hi
  have hi' : i < es.size := by simpa using hi
  show ¬ ((Option.map (fun x => x.hash) es[i]? == some hNone) = true)
  rw [Array.getElem?_eq_getElem hi']
  simpa using hn i hi'
theorem find_none {Q : Option Nat → Shared → Prop} (ho : s.heap.get? d = some o) (hd : o.data = .dict es ep) (hn : ∀ i (hi : i < es.size), es[i].hash ≠ hNone) (h : Q none s) : wpAny (model prog w) A (dictFind d .none hNone) Q E s := by
  unfold dictFind
  try with_reducible refine wpAny_holding ?_
  refine wpAny_bind (wpAny_dictEntries ho hd ?_)
  dsimp only
  rw [places_nil hn]
  rw [if_pos (by rfl)]
  refine wpAny_bind ?_
  first
    | exact wpAny_pure (wpAny_pure h)
    | exact wpAny_pure h
    | (rw [List.forIn_nil]; exact wpAny_pure (wpAny_pure h))
theorem get_none {Q : Option Value → Shared → Prop} (hu : A.units + 1 < cLine) (ho : s.heap.get? d = some o) (hd : o.data = .dict es ep) (hn : ∀ i (hi : i < es.size), es[i].hash ≠ hNone) (h : Q none { s with toks := s.toks + 1 }) : wpAny (model prog w) A (dictGet d .none) Q E s := by
  unfold dictGet
  try with_reducible refine wpAny_holding ?_
  refine wpAny_bind (hash_none hu (wpAny_bind (find_none (s := { s with toks := s.toks + 1 }) ho hd hn (wpAny_pure h))))
theorem contains_none {Q : Bool → Shared → Prop} (hu : A.units + 2 < cLine) (hs : (d == sysModules) = false) (ho : s.heap.get? d = some o) (hx : o.ExactDict) (hd : o.data = .dict es ep) (hn : ∀ i (hi : i < es.size), es[i].hash ≠ hNone) (h : Q false { s with toks := s.toks + 1 }) :
    wpAny (model prog w) A (contains (.ref d) .none) Q E s := by
  have hT : s.TypeIs (.ref d) "dict" := ⟨o, ho, hx.1⟩
  refine wpAny_contains_slot hT F.slot_dict_contains ?_
  refine call_meetsIn F.slot_dict_contains hT F.entry_dict_contains (F.args_dict_contains_2 _ _) (S := fun A' R s' => A' = A ∧ s' = s ∧ R (.ok (.ret (.bool false))) { s with toks := s.toks + 1 }) (fun A' R s' hS => ?_) ⟨rfl, rfl, wpAny_truthy_bool h⟩
  obtain ⟨rfl, rfl, hq⟩ := hS
  show wpAny _ _ (dictGet d .none >>= _) _ _ _
  refine wpAny_bind (get_none (by have : A'.in1.units = A'.units + 1 := rfl; omega) ho hd hn ?_)
  show wpAny _ _ (Builtin.Dict.pendingKey? d .none >>= _) _ _ _
  exact wpAny_bind (wpAny_pendingKey_other hs (wpAny_pure hq))
theorem dget_none {x : Value} {Q : Value → Shared → Prop} (hu : A.units + 2 < cLine) (hs : (d == sysModules) = false) (ho : s.heap.get? d = some o) (hx : o.ExactDict) (hd : o.data = .dict es ep) (hn : ∀ i (hi : i < es.size), es[i].hash ≠ hNone) (h : Q x { s with toks := s.toks + 1 }) :
    wpAny (model prog w) A (call (.builtin "dict.get") [.ref d, .none, x]) Q E s := by
  have hT : s.TypeIs (.ref d) "dict" := ⟨o, ho, hx.1⟩
  refine call_meetsIn F.slot_dict_get hT F.entry_dict_get (F.args_dict_get_3 _ _ _) (S := fun A' R s' => A' = A ∧ s' = s ∧ R (.ok (.ret x)) { s with toks := s.toks + 1 }) (fun A' R s' hS => ?_) ⟨rfl, rfl, h⟩
  obtain ⟨rfl, rfl, hq⟩ := hS
  show wpAny _ _ (dictGet d .none >>= _) _ _ _
  refine wpAny_bind (get_none (by have : A'.in1.units = A'.units + 1 := rfl; omega) ho hd hn ?_)
  show wpAny _ _ (Builtin.Dict.missed d .none >>= _) _ _ _
  exact wpAny_bind (wpAny_missed_other hs (wpAny_pure hq))
theorem dget_none1 {Q : Value → Shared → Prop} (hu : A.units + 2 < cLine) (hs : (d == sysModules) = false) (ho : s.heap.get? d = some o) (hx : o.ExactDict) (hd : o.data = .dict es ep) (hn : ∀ i (hi : i < es.size), es[i].hash ≠ hNone) (h : Q .none { s with toks := s.toks + 1 }) :
    wpAny (model prog w) A (call (.builtin "dict.get") [.ref d, .none]) Q E s := by
  have hT : s.TypeIs (.ref d) "dict" := ⟨o, ho, hx.1⟩
  refine call_meetsIn F.slot_dict_get hT F.entry_dict_get (F.args_dict_get_2 _ _) (S := fun A' R s' => A' = A ∧ s' = s ∧ R (.ok (.ret .none)) { s with toks := s.toks + 1 }) (fun A' R s' hS => ?_) ⟨rfl, rfl, h⟩
  obtain ⟨rfl, rfl, hq⟩ := hS
  show wpAny _ _ (dictGet d .none >>= _) _ _ _
  refine wpAny_bind (get_none (by have : A'.in1.units = A'.units + 1 := rfl; omega) ho hd hn ?_)
  show wpAny _ _ (Builtin.Dict.missed d .none >>= _) _ _ _
  exact wpAny_bind (wpAny_missed_other hs (wpAny_pure hq))
end
section
variable {X : Cx} {C : Nat → Addr} {pins : List (Addr × Obj)} {σ : L2.St} {H : Hp} {s : Shared} {h : Mem} {m : Mp} {i : Nat} {kvs : List (PV × PV)} {A : Around} {E : Value → Shared → Prop}
theorem none_apart (I : L2.Inv X pins σ H s) (rh : RH X.K C m h H) (e : h.get i = some (.dic kvs)) (nf : noneFree kvs = true) : ∃ o es ep, s.heap.get? (m.a i) = some o ∧ o.ExactDict ∧ o.data = .dict es ep ∧ ((m.a i) == sysModules) = false ∧ ∀ j (hj : j < es.size), es[j].hash ≠ hNone := by
  obtain ⟨o, ws, xs, es, ep, e1, r, pw, d0, d1, d2, d3, hd, z, dd, hh⟩ := dic_at I rh e
  refine ⟨o, es, ep, d0, d1, d2, hd, fun j hj => ?_⟩
  unfold noneFree at nf
  rw [hashes_of r pw] at nf
  simp only at nf
  cases ei : inI hNone (xs.map fun x => hk x.1) with
  | true =>
    have ei' : inI (reduceHash 0xFCA86420) (xs.map fun x => hk x.1) = true := ei
    rw [ei'] at nf
    cases nf
  | false =>
    intro hz
    have hj' : j < xs.length := by
      have := congrArg List.length d3
      rw [List.length_map, Array.length_toList] at this
      omega
    have ee : es[j] = enN xs[j] := by
      have z : es.toList[j]? = (xs.map enN)[j]? := by rw [d3]
      rw [Array.getElem?_toList, Array.getElem?_eq_getElem hj, List.getElem?_map, List.getElem?_eq_getElem hj'] at z
      exact Option.some.inj z
    rw [ee] at hz
    have : inI hNone (xs.map fun x => hk x.1) = true := inI_iff.mpr (List.mem_map.mpr ⟨xs[j], List.getElem_mem hj', hz⟩)
    rw [ei] at this
    cases this
theorem kd_inNone {Q : Value → Shared → Prop} (hu : A.units + 2 < cLine) (I : L2.Inv X pins σ H s) (rh : RH X.K C m h H) (e : h.get i = some (.dic kvs)) (nf : noneFree kvs = true) (q : ∀ s', L2.Inv X pins σ H s' → Q (.bool false) s') :
    wpAny (model X.prog X.w) A (compareOp .In .none (.ref (m.a i))) Q E s := by
  obtain ⟨o, es, ep, ho, hx, hd, hs, hn⟩ := none_apart I rh e nf
  show wpAny _ _ (do return .bool (← contains (.ref (m.a i)) .none)) Q E s
  exact wpAny_bind (contains_none hu hs ho hx hd hn (wpAny_pure (q _ (I.tok _))))
theorem kd_notInNone {Q : Value → Shared → Prop} (hu : A.units + 2 < cLine) (I : L2.Inv X pins σ H s) (rh : RH X.K C m h H) (e : h.get i = some (.dic kvs)) (nf : noneFree kvs = true) (q : ∀ s', L2.Inv X pins σ H s' → Q (.bool true) s') :
    wpAny (model X.prog X.w) A (compareOp .NotIn .none (.ref (m.a i))) Q E s := by
  obtain ⟨o, es, ep, ho, hx, hd, hs, hn⟩ := none_apart I rh e nf
  show wpAny _ _ (do return .bool (!(← contains (.ref (m.a i)) .none))) Q E s
  exact wpAny_bind (contains_none hu hs ho hx hd hn (wpAny_pure (q _ (I.tok _))))
theorem kd_getNone {Q : Value → Shared → Prop} (hu : A.units + 2 < cLine) (I : L2.Inv X pins σ H s) (rh : RH X.K C m h H) (e : h.get i = some (.dic kvs)) (nf : noneFree kvs = true) (q : ∀ s', L2.Inv X pins σ H s' → Q .none s') :
    wpAny (model X.prog X.w) A (call (.builtin "dict.get") [.ref (m.a i), .none]) Q E s := by
  obtain ⟨o, es, ep, ho, hx, hd, hs, hn⟩ := none_apart I rh e nf
  exact dget_none1 hu hs ho hx hd hn (q _ (I.tok _))
theorem kd_getNone2 {du : Value} {Q : Value → Shared → Prop} (hu : A.units + 2 < cLine) (I : L2.Inv X pins σ H s) (rh : RH X.K C m h H) (e : h.get i = some (.dic kvs)) (nf : noneFree kvs = true) (q : ∀ s', L2.Inv X pins σ H s' → Q du s') :
    wpAny (model X.prog X.w) A (call (.builtin "dict.get") [.ref (m.a i), .none, du]) Q E s := by
  obtain ⟨o, es, ep, ho, hx, hd, hs, hn⟩ := none_apart I rh e nf
  exact dget_none hu hs ho hx hd hn (q _ (I.tok _))
end
end Ev
end

section
set_option Elab.async false
set_option linter.all false
set_option maxRecDepth 100000
/-! Ev: lists and tuples alike as sources: walked, counted, in pairs. -/
namespace Ev
open PySem PySem.Spec PyProof.Rows L2

/-- a list (true), a tuple (false) -/
def Sq (K : PySem.W.Frag) (b : Bool) (H : Hp) (a : Addr) (xs : List V) : Prop := match b with
  | true => SqL K H a xs
  | false => SqT K H a xs
def SqH (b : Bool) (h : Heap) (a : Addr) (its : Array Value) : Prop := match b with
  | true => h.IsList a its
  | false => h.IsTuple a its
def SqI (b : Bool) (h : Heap) (it a : Addr) (i : Nat) : Prop := match b with
  | true => h.IsListIter it a i
  | false => h.IsTupleIter it a i
def sqO (b : Bool) (a : Addr) : Obj := match b with
  | true => { cls := .type "list_iterator", data := .fields #[.ref a, .int 0 0] }
  | false => { cls := .type "tuple_iterator", data := .fields #[.ref a, .int 0 0] }
theorem sq_begins (b : Bool) (a : Addr) (its : Array Value) : Begins (.ref a) (sqO b a) fun h => SqH b h a its := by
  cases b
  · exact begins_tuple a its
  · exact begins_list a its
theorem sqO_iter {b : Bool} {h : Heap} {it a : Addr} (e : h.get? it = some (sqO b a)) : SqI b h it a 0 := by
  cases b
  · exact ⟨_, e, rfl, rfl⟩
  · exact ⟨_, e, rfl, rfl⟩
theorem SqI.at {b : Bool} {h h' : Heap} {it a : Addr} {i : Nat} (r : SqI b h it a i) (k : ∀ o, h.get? it = some o → h'.get? it = some o) : SqI b h' it a i := by
  cases b
  · exact Heap.IsTupleIter.at r k
  · exact Heap.IsListIter.at r k
theorem SqI.live {b : Bool} {h : Heap} {it a : Addr} {i : Nat} (r : SqI b h it a i) : ∃ o, h.get? it = some o ∧ ∀ v, o.data ≠ .cell v := by
  cases b
  · obtain ⟨o, e, _, d⟩ := r
    exact ⟨o, e, fun v q => by rw [d] at q; cases q⟩
  · obtain ⟨o, e, _, d⟩ := r
    exact ⟨o, e, fun v q => by rw [d] at q; cases q⟩
theorem ne_nat {a b : Nat} (h : a ≠ b) : @Ne Addr a b := h
theorem SqH.lt {b : Bool} {h : Heap} {a : Addr} {its : Array Value} (r : SqH b h a its) : @LT.lt Nat _ a h.objs.size := by
  cases b
  · obtain ⟨o, e, _⟩ := r
    exact Heap.lt_size e
  · obtain ⟨o, e, _⟩ := r
    exact Heap.lt_size e
theorem sq_draws {prog : Program} {w : World} {A : Around} (hh : A.handled = none) (b : Bool) (it a : Addr) (hne : a ≠ it) (its : Array Value) :
    Draws prog w A it [it, a] its.size (fun i v => its[i]? = some v) (fun i h => SqI b h it a i ∧ SqH b h a its) := by
  cases b
  · exact Draws.tuple hh it a hne its
  · exact Draws.list hh it a hne its
section
variable {X : Cx} {pins : List (Addr × Obj)} {σ : L2.St} {H : Hp} {s : Shared} {b : Bool} {a : Addr} {xs ys : List V}
theorem sq_inv (I : Inv X pins σ H s) (h : Sq X.K b H a xs) : ∃ its : List Value, Vals xs its ∧ SqH b s.heap a its.toArray ∧ xs.length ≤ sizeLine := by
  cases b
  · obtain ⟨its, r, p, z⟩ := I.tuple h
    exact ⟨its, r, p, z⟩
  · obtain ⟨its, r, p, z⟩ := I.list h
    exact ⟨its, r, p.isList, z⟩
theorem sq_inj (I : Inv X pins σ H s) (h : Sq X.K b H a xs) (h' : Sq X.K b H a ys) : xs = ys := by
  cases b
  · exact I.tuple_inj h h'
  · exact I.list_inj h h'
end

/-! ### for x in s -/
def Itq (K : PySem.W.Frag) (b : Bool) (a : Addr) : It :=
  ⟨fun i H => ∃ (xs : List V) (x : V), Sq K b H a xs ∧ xs[i]? = some x, fun i H v H' => H' = H ∧ ∀ xs, Sq K b H a xs → xs[i]? = some v, fun i H => ∃ xs : List V, Sq K b H a xs ∧ xs.length ≤ i⟩
def iSq (K : PySem.W.Frag) (tl : TE) : TI := fun σ H R => tl σ H fun x H1 => ∃ b a xs, x = .ref a ∧ Sq K b H1 a xs ∧ R (Itq K b a) H1
theorem pi_sq {X : Cx} {tg l : Expr} {tl : TE} (hl : PE X l tl) : PI X tg l (iSq X.K tl) := by
  refine ⟨fun pins s σ H R I h => ?_⟩
  refine thn (hl.run pins s σ H _ I h) fun v s1 ⟨x, H1, I1, r1, q1⟩ => ?_
  obtain ⟨b, a, xs, e, hq, q⟩ := q1
  subst e
  cases r1
  cases b
  · obtain ⟨its, rv, p, hz⟩ := I1.tuple hq
    refine wpAny_pyIter_tuple (show s1.heap.IsTuple a its.toArray from p) ?_
    refine ⟨s1.heap.objs.size, [s1.heap.objs.size], _, _, H1, rfl, I1.kept (t' := s1.toks) fun b o e => Heap.get?_push_of_some _ e, turn_tuple a _, ⟨_, Heap.get?_push_size _ rfl, rfl, rfl⟩, fun b hb => ?_, q⟩
    have e : b = s1.heap.objs.size := by simpa using hb
    subst e
    exact I1.fpOk (Nat.le_refl _) (I1.hok.fresh (Nat.le_refl _))
  · obtain ⟨its, rv, p, hz⟩ := I1.list hq
    refine wpAny_pyIter_list p.isList ?_
    refine ⟨s1.heap.objs.size, [s1.heap.objs.size], _, _, H1, rfl, I1.kept (t' := s1.toks) fun b o e => Heap.get?_push_of_some _ e, turn_list a _, ⟨_, Heap.get?_push_size _ rfl, rfl, rfl⟩, fun b hb => ?_, q⟩
    have e : b = s1.heap.objs.size := by simpa using hb
    subst e
    exact I1.fpOk (Nat.le_refl _) (I1.hok.fresh (Nat.le_refl _))

/-! ### enumerate(s) -/
theorem meets_enumerate_newS {v : Value} {o : Obj} {H : Heap → Prop} (B : Begins v o H) :
    Meets (Builtin.«enumerate.__new__» ⟨[.type "enumerate", v], []⟩) (fun _ R s => H s.heap ∧
      R (.ok (.ret (.ref (s.heap.push o).objs.size))) { s with heap := (s.heap.push o).push { cls := .type "enumerate", data := .fields #[.none, .bool false, .ref s.heap.objs.size, rawInt 0, .none, .none] } }) :=
  .of_wp fun prog w A R s h => by
    obtain ⟨hp, g, d, tk, os⟩ := s; obtain ⟨h1, h⟩ := h
    have hsub := sub_enumerate
    have q1 : ∀ {A' : Around} {E : Value → Shared → Prop} {Q : Value → Shared → Prop}, Q (.ref hp.objs.size) ⟨hp.push o, g, d, tk, os⟩ → wpAny (model prog w) A' (pyIter v) Q E ⟨hp, g, d, tk, os⟩ :=
      fun q => B.iter prog w _ _ ⟨hp, g, d, tk, os⟩ _ h1 q
    wp_walk
    refine wpAny_stack_any fun st => wpAny_pure ?_
    split
    · rename_i c _ _ _ _ _
      cases (c == Value.type "enumerate")
      · wp_walk using q1
        exact ⟨_, rfl, h⟩
      · wp_walk using q1
        exact ⟨_, rfl, h⟩
    · wp_walk using q1
      exact ⟨_, rfl, h⟩
theorem enum_beginsS {prog : Program} {w : World} {A : Around} {E : Value → Shared → Prop} {s : Shared} {v : Value} {o : Obj} {H : Heap → Prop} {Q : Value → Shared → Prop} (B : Begins v o H) (h1 : H s.heap)
    (h : ∀ h', IsEnum h' (s.heap.objs.size + 1) s.heap.objs.size 0 .none → h'.get? s.heap.objs.size = some o → h'.objs.size = s.heap.objs.size + 2 →
      (∀ b o, s.heap.get? b = some o → h'.get? b = some o) → Q (.ref (s.heap.objs.size + 1)) { s with heap := h' }) :
    wpAny (model prog w) A (call (.type "enumerate") [v]) Q E s := by
  refine callType_new F.called_enumerate (by decide) (F.typeCall_enumerate_1 _) (F.newCall_enumerate_1 _) (fun obj => F.args_object_init_2 obj _) F.entry_enumerate_new
    (meets_enumerate_newS B) ⟨h1, ?_⟩
  have hz : (s.heap.push o).objs.size = s.heap.objs.size + 1 := Heap.size_push ..
  show _ ∧ _
  rw [hz]
  have he : IsEnum ((s.heap.push o).push { cls := .type "enumerate", data := .fields #[.none, .bool false, .ref s.heap.objs.size, rawInt 0, .none, .none] }) (s.heap.objs.size + 1) s.heap.objs.size 0 .none := by
    have := Heap.get?_push_size (s.heap.push o) (o := { cls := .type "enumerate", data := .fields #[.none, .bool false, .ref s.heap.objs.size, rawInt 0, .none, .none] }) rfl
    rw [hz] at this; exact this
  refine ⟨⟨_, he, rfl⟩, h _ he (Heap.get?_push_of_some _ (Heap.get?_push_size _ B.free)) (by rw [Heap.size_push, hz]) fun b o x => Heap.get?_push_of_some _ (Heap.get?_push_of_some _ x)⟩
def Iteq (K : PySem.W.Frag) (b : Bool) (a : Addr) : It :=
  ⟨fun i H => ∃ (xs : List V) (x : V), Sq K b H a xs ∧ xs[i]? = some x, fun i H v H' => ∃ T x, v = .ref T ∧ H T = none ∧ H' = upd H T (.tup [.int (i : Nat), x]) ∧ ∀ xs, Sq K b H a xs → xs[i]? = some x, fun i H => ∃ xs : List V, Sq K b H a xs ∧ xs.length ≤ i⟩
theorem turn_enumS {P : Program} {w : World} {K : PySem.W.Frag} {elts : List Expr} {kk : Nat} {tpos : Pos} (b : Bool) (a e it : Addr) :
    Turn P w K (.Tuple elts kk tpos) (Iteq K b a) [e, it] e (fun i h => (∃ old, IsEnum h e it ((i : Nat) : Int) old) ∧ SqI b h it a i ∧ e ≠ it ∧ a ≠ it ∧ e ≠ a) where
  mem := by simp
  obj := fun i h st c hb => by
    obtain ⟨⟨old, he⟩, hi, _⟩ := st
    have e' : c = e ∨ c = it := by simpa using hb
    rcases e' with z | z
    · rw [z]; exact ⟨_, he, fun v q => nomatch q⟩
    · rw [z]; exact hi.live
  keep := fun i h h' st k => by
    obtain ⟨⟨old, he⟩, hi, hne⟩ := st
    exact ⟨⟨old, k e (by simp) _ he⟩, hi.at fun o q => k it (by simp) o q, hne⟩
  item := by
    intro X hP hw hK hc i pins s σ H E I hf st hg
    subst hP hw hK
    obtain ⟨⟨old, he⟩, hit, hne, hai, hea⟩ := st
    obtain ⟨xs, x, hq, hx⟩ := hg
    obtain ⟨its, rv, p, hz⟩ := sq_inv I hq
    obtain ⟨u, hu, ru⟩ := rv.get hx
    have hel : e < s.heap.objs.size := Heap.lt_size he
    have hil : it < s.heap.objs.size := by obtain ⟨_, q, _⟩ := hit.live; exact Heap.lt_size q
    have hlt : i < its.toArray.size := by
      have : i < its.length := by
        cases Nat.lt_or_ge i its.length with
        | inl l => exact l
        | inr l => rw [List.getElem?_eq_none l] at hu; cases hu
      simpa using this
    refine wpAny_pyNext_enum_itemD (sq_draws (by exact I.ok.hd hc) b it a hai its.toArray) he ⟨hit, p⟩ hlt hne (by simp [hne, hea]) fun x' h' tk hPx ho hst' hT hsz hk => ?_
    have ex : x' = u := by
      have : its.toArray[i]? = some u := by simpa using hu
      rw [this] at hPx
      exact (Option.some.inj hPx).symm
    subst ex
    refine ⟨_, rfl, wpAny_letOwnedTupleGo_enum (s := { s with heap := h', toks := tk + 1 }) ho fun h'' he' sb => ?_⟩
    have hT2 : h''.get? s.heap.objs.size = some { cls := .type "tuple", data := .seq #[.int i tk, x'] } := (sb.2 _ (Nat.ne_of_gt hel)).trans hT
    have new : ObjOk X.prog X.w (upd H s.heap.objs.size (.tup [.int (i : Nat), x])) h'' s.heap.objs.size (.tup [.int (i : Nat), x]) :=
      ⟨by show 2 ≤ sizeLine; decide, [.int i tk, x'], .cons ⟨_, rfl⟩ (.cons ru .nil), ⟨_, hT2, rfl, _, rfl⟩⟩
    have I1 : Inv X pins σ (upd H s.heap.objs.size (.tup [.int (i : Nat), x])) { s with heap := h'', toks := tk + 1 } :=
      I.turnedNew (ch := [e, it]) (fun b ob hb q => (sb.2 b (fun z => hb (by simp [z]))).trans (hk b ob (fun z => hb (by simp [z])) (fun z => hb (by simp [z])) q)) hf (Nat.le_refl _) new
    refine ⟨.ref s.heap.objs.size, _, I1, rfl, ⟨_, x, rfl, I.hok.fresh (Nat.le_refl _), rfl, fun ys hy => by rw [sq_inj I hy hq]; exact hx⟩, ⟨⟨x', ?_⟩, hst'.1.at fun o q => (sb.2 it (Ne.symm hne)).trans q, hne, hai, hea⟩, fun b hb => ?_⟩
    · have e1 : ((i + 1 : Nat) : Int) = (i : Int) + 1 := by omega
      rw [e1]; exact he'
    · have hb' : b < s.heap.objs.size := by
        have e' : b = e ∨ b = it := by simpa using hb
        rcases e' with z | z
        · rw [z]; exact hel
        · rw [z]; exact hil
      rw [upd_ne (Nat.ne_of_lt hb')]
      exact (hf b hb).1
  done := by
    intro X hP hw hK hc i pins s σ H E I hf st hg
    subst hP hw hK
    obtain ⟨⟨old, he⟩, hit, hne, hai, hea⟩ := st
    obtain ⟨xs, hq, hx⟩ := hg
    obtain ⟨its, rv, p, hz⟩ := sq_inv I hq
    obtain ⟨f0, f1, f2, f3, f4, f5⟩ := hf it (by simp)
    have hl := rv.length
    cases b with
    | true => exact wpAny_pyNext_enum_end (I.ok.hd hc) he hit p (by simp; omega) fun h' eb => ⟨rfl, I.turned (t' := s.toks) (fun b o hb q => eb b o hb q) f0 f1 f3 f4 f5⟩
    | false =>
      have hT : s.TypeIs (.ref e) "enumerate" := ⟨_, he, rfl⟩
      unfold pyNext
      refine wpAny_bind (wpAny_attempt (wpAny_callSpecial?_slot (name := Str.ofString "__next__") hT F.slot_enumerate_next
        (wpAny_call_entry F.slot_enumerate_next hT F.entry_enumerate_next ?_ (F.args_enumerate_next_1 _))))
      show wpAny _ _ (field (.ref e) 2 >>= _) _ _ _
      refine wpAny_bind (wpAny_field he rfl (x := .ref it) rfl ?_)
      refine wpAny_bind (wpAny_nextOf_tuple_end (by exact I.ok.hd hc) hit p (by simp; omega) fun h' x he' hx' => ?_)
      obtain ⟨o, ho, hcl⟩ := hx'
      refine wpAny_bind (wpAny_isInstance (T := "StopIteration") (b := true) ⟨o, ho, hcl⟩ isSubtype_stop ?_)
      exact wpAny_pure ⟨rfl, I.turned (t' := s.toks) (fun b o hb q => he' b o hb q) f0 f1 f3 f4 f5⟩
  self := fun A i s Q E st h => by
    obtain ⟨⟨_, he⟩, _⟩ := st
    exact wpAny_pyIter_enum he h
def iEnumS (K : PySem.W.Frag) (ta : TA) : TI := fun σ H R => ta σ H fun vs H1 => ∃ b a xs, vs = [.ref a] ∧ Sq K b H1 a xs ∧ R (Iteq K b a) H1
theorem pi_enumS {X : Cx} {e : Expr} {ta : TA} {p pos tpos : Pos} {elts : List Expr} {kk : Nat} (hg : Gl X "enumerate") (hm : X.mg "enumerate" = none) (ha : PA X [e] ta) (hs : starEach [e] X.env = [(false, eval e X.env)] := by rfl) :
    PI X (.Tuple elts kk tpos) (.Call (.Name "enumerate" p) [e] [] pos) (iEnumS X.K ta) := by
  refine ⟨fun pins s σ H R I h => ?_⟩
  refine Call_ (ld_blt I hg hm boot_enumerate (PyProof.Rows.callWith_type1 (thn (ha.run pos pins s σ H _ I h) fun us s1 ⟨vs, H1, I1, r1, q1⟩ => ?_) hs rfl))
  obtain ⟨b, a, xs, ex, hq, q⟩ := q1
  subst ex
  cases r1 with
  | cons r rr =>
    cases rr
    cases r
    obtain ⟨its, rv, p', hz⟩ := sq_inv I1 hq
    refine enum_beginsS (sq_begins b a its.toArray) p' fun h' he ho hsz hk => wpAny_pyIter_enum he ?_
    have I2 : Inv X pins σ H1 { s1 with heap := h' } := I1.kept (t' := s1.toks) hk
    have hal := p'.lt
    refine ⟨s1.heap.objs.size + 1, [s1.heap.objs.size + 1, s1.heap.objs.size], _, _, H1, rfl, I2, turn_enumS b a (s1.heap.objs.size + 1) s1.heap.objs.size, ⟨⟨.none, he⟩, sqO_iter ho, Nat.succ_ne_self _, Nat.ne_of_lt hal, ne_nat (by omega)⟩, fun b hb => ?_, q⟩
    have e' : b = s1.heap.objs.size + 1 ∨ b = s1.heap.objs.size := by simpa using hb
    have hle : s1.heap.objs.size ≤ b := by
      rcases e' with z | z
      · rw [z]; exact Nat.le_add_right _ _
      · rw [z]; exact Nat.le_refl _
    exact I1.fpOk hle (I1.hok.fresh hle)

/-! ### zip(s, t) -/
def ItzS (K : PySem.W.Frag) (b1 b2 : Bool) (a b : Addr) : It :=
  ⟨fun i H => ∃ (xs ys : List V) (x y : V), Sq K b1 H a xs ∧ Sq K b2 H b ys ∧ xs[i]? = some x ∧ ys[i]? = some y,
    fun i H v H' => ∃ T x y, v = .ref T ∧ H T = none ∧ H' = upd H T (.tup [x, y]) ∧ (∀ xs, Sq K b1 H a xs → xs[i]? = some x) ∧ ∀ ys, Sq K b2 H b ys → ys[i]? = some y,
    fun i H => ∃ xs ys : List V, Sq K b1 H a xs ∧ Sq K b2 H b ys ∧ i ≤ xs.length ∧ i ≤ ys.length ∧ (i = xs.length ∨ i = ys.length)⟩
theorem turn_zipS {P : Program} {w : World} {K : PySem.W.Frag} {elts : List Expr} {kk : Nat} {tpos : Pos} {b1 b2 : Bool} {a b z TI TO i1 i2 : Addr} (D : ZipSep2 z TI TO i1 i2 [i1, a] [i2, b]) :
    Turn P w K (.Tuple elts kk tpos) (ItzS K b1 b2 a b) [z, TI, TO, i1, i2] z (fun i h => IsZip h z TI TO .none ∧ IsTupOf2 h TI (.ref i1) (.ref i2) ∧ (∃ x y, IsTupOf2 h TO x y) ∧ SqI b1 h i1 a i ∧ SqI b2 h i2 b i ∧ a ≠ i1 ∧ b ≠ i2) where
  mem := by simp
  obj := fun i h st c hc => by
    obtain ⟨hz, hTI, ⟨x, y, hTO⟩, h1, h2, _⟩ := st
    have e' : c = z ∨ c = TI ∨ c = TO ∨ c = i1 ∨ c = i2 := by simpa using hc
    rcases e' with q | q | q | q | q
    · rw [q]; exact ⟨_, hz, fun v q => nomatch q⟩
    · rw [q]; exact ⟨_, hTI, fun v q => nomatch q⟩
    · rw [q]; exact ⟨_, hTO, fun v q => nomatch q⟩
    · rw [q]; exact h1.live
    · rw [q]; exact h2.live
  keep := fun i h h' st k => by
    obtain ⟨hz, hTI, ⟨x, y, hTO⟩, h1, h2, n⟩ := st
    exact ⟨k z (by simp) _ hz, k TI (by simp) _ hTI, ⟨x, y, k TO (by simp) _ hTO⟩, h1.at fun o q => k i1 (by simp) o q, h2.at fun o q => k i2 (by simp) o q, n⟩
  item := by
    intro X hP hw hK hc i pins s σ H E I hf st hg
    subst hP hw hK
    obtain ⟨hz, hTI, ⟨x0, y0, hTO⟩, h1, h2, n1, n2⟩ := st
    obtain ⟨xs, ys, x, y, hqx, hqy, hx, hy⟩ := hg
    obtain ⟨its, rv, p, _⟩ := sq_inv I hqx
    obtain ⟨its2, rv2, p2, _⟩ := sq_inv I hqy
    obtain ⟨u, hu, ru⟩ := rv.get hx
    obtain ⟨u2, hu2, ru2⟩ := rv2.get hy
    have hzl : z < s.heap.objs.size := Heap.lt_size hz
    have lt_of : ∀ (l : List Value) (v : Value), l[i]? = some v → i < l.toArray.size := fun l v e => by
      cases Nat.lt_or_ge i l.length with
      | inl q => simpa using q
      | inr q => rw [List.getElem?_eq_none q] at e; cases e
    refine wpAny_pyNext_zipD2_item D (sq_draws (by exact I.ok.hd hc) b1 i1 a n1 its.toArray) (sq_draws (by exact I.ok.hd hc) b2 i2 b n2 its2.toArray) hz hTI hTO ⟨h1, p⟩ ⟨h2, p2⟩ (lt_of _ _ hu) (lt_of _ _ hu2)
      fun x1 x2 h' tk y1 y2 z' TO' st1 st2 hT hsz hk => ?_
    have e1 : x1 = u := by
      have : its.toArray[i]? = some u := by simpa using hu
      rw [this] at y1
      exact (Option.some.inj y1).symm
    have e2 : x2 = u2 := by
      have : its2.toArray[i]? = some u2 := by simpa using hu2
      rw [this] at y2
      exact (Option.some.inj y2).symm
    subst e1 e2
    refine ⟨_, rfl, wpAny_letOwnedTupleGo_zip (s := { s with heap := h', toks := tk }) z' fun h'' z'' sb => ?_⟩
    have hT2 : h''.get? s.heap.objs.size = some { cls := .type "tuple", data := .seq #[x1, x2] } := (sb.2 _ (Nat.ne_of_gt hzl)).trans hT
    have new : ObjOk X.prog X.w (upd H s.heap.objs.size (.tup [x, y])) h'' s.heap.objs.size (.tup [x, y]) :=
      ⟨by show 2 ≤ sizeLine; decide, [x1, x2], .cons ru (.cons ru2 .nil), ⟨_, hT2, rfl, _, rfl⟩⟩
    have I1 : Inv X pins σ (upd H s.heap.objs.size (.tup [x, y])) { s with heap := h'', toks := tk } :=
      I.turnedNew (t' := tk) (ch := [z, TI, TO, i1, i2]) (fun c o hb q => (sb.2 c (fun q' => hb (by simp [q']))).trans (hk c o (fun q' => hb (by simp [q'])) (fun q' => hb (by simp [q'])) (fun q' => hb (by simp [q'])) (fun q' => hb (by simp [q'])) q)) hf (Nat.le_refl _) new
    refine ⟨.ref s.heap.objs.size, _, I1, rfl, ⟨_, x, y, rfl, I.hok.fresh (Nat.le_refl _), rfl, fun l hl => by rw [sq_inj I hl hqx]; exact hx, fun l hl => by rw [sq_inj I hl hqy]; exact hy⟩, ⟨z'', ?_, ⟨x1, x2, ?_⟩, ?_, ?_, n1, n2⟩, fun c hcm => ?_⟩
    · exact (sb.2 _ D.TIz).trans (hk _ _ D.TIz D.TITO D.TIi1 D.TIi2 hTI)
    · exact (sb.2 _ D.TOz).trans TO'
    · exact st1.1.at fun o q => (sb.2 _ D.zi1.symm).trans q
    · exact st2.1.at fun o q => (sb.2 _ D.zi2.symm).trans q
    · have hlt : c < s.heap.objs.size := by
        have e' : c = z ∨ c = TI ∨ c = TO ∨ c = i1 ∨ c = i2 := by simpa using hcm
        rcases e' with q | q | q | q | q
        · rw [q]; exact hzl
        · rw [q]; exact Heap.lt_size hTI
        · rw [q]; exact Heap.lt_size hTO
        · rw [q]; obtain ⟨_, e1, _⟩ := h1.live; exact Heap.lt_size e1
        · rw [q]; obtain ⟨_, e2, _⟩ := h2.live; exact Heap.lt_size e2
      rw [upd_ne (Nat.ne_of_lt hlt)]
      exact (hf c hcm).1
  done := by
    intro X hP hw hK hc i pins s σ H E I hf st hg
    subst hP hw hK
    obtain ⟨hz, hTI, ⟨x0, y0, hTO⟩, h1, h2, n1, n2⟩ := st
    obtain ⟨xs, ys, hqx, hqy, le1, le2, hend⟩ := hg
    obtain ⟨its, rv, p, _⟩ := sq_inv I hqx
    obtain ⟨its2, rv2, p2, _⟩ := sq_inv I hqy
    have l1 := rv.length
    have l2 := rv2.length
    have q1 : its.toArray.size = xs.length := by simp; omega
    have q2 : its2.toArray.size = ys.length := by simp; omega
    exact wpAny_pyNext_zipD2_end D (sq_draws (by exact I.ok.hd hc) b1 i1 a n1 its.toArray) (sq_draws (by exact I.ok.hd hc) b2 i2 b n2 its2.toArray) hz hTI hTO ⟨h1, p⟩ ⟨h2, p2⟩ (by omega) (by omega) (by omega) fun h' tk hk => ⟨rfl, I.turnedL (t' := tk) (ch := [z, TI, TO, i1, i2]) (fun c o hb q =>
      hk c o (fun q' => hb (by simp [q'])) (fun q' => hb (by simp [q'])) (fun q' => hb (by simp [q'])) (fun q' => hb (by simp [q'])) q) hf⟩
  self := fun A i s Q E st h => wpAny_pyIter_zip st.1 h
def iZipS (K : PySem.W.Frag) (ta : TA) : TI := fun σ H R => ta σ H fun vs H1 => ∃ b1 b2 a b xs ys, vs = [.ref a, .ref b] ∧ Sq K b1 H1 a xs ∧ Sq K b2 H1 b ys ∧ R (ItzS K b1 b2 a b) H1
theorem pi_zipS {X : Cx} {e e2 : Expr} {ta : TA} {p pos tpos : Pos} {elts : List Expr} {kk : Nat} (hg : Gl X "zip") (hm : X.mg "zip" = none) (ha : PA X [e, e2] ta)
    (hs : starEach [e, e2] X.env = (false, eval e X.env) :: starEach [e2] X.env := by rfl) (hpl : (backTo pos (starEach [e2] X.env)).any (·.1) = false := by rfl) :
    PI X (.Tuple elts kk tpos) (.Call (.Name "zip" p) [e, e2] [] pos) (iZipS X.K ta) := by
  refine ⟨fun pins s σ H R I h => ?_⟩
  refine Call_ (ld_blt I hg hm PyProof.Rows.boot_zip (PyProof.Rows.callWith_type1 (thn (ha.run pos pins s σ H _ I h) fun us s1 ⟨vs, H1, I1, r1, q1⟩ => ?_) hs hpl))
  obtain ⟨b1, b2, a, b, xs, ys, ex, hqx, hqy, q⟩ := q1
  subst ex
  cases r1 with
  | cons r rr =>
    cases rr with
    | cons r' rr =>
      cases rr
      cases r
      cases r'
      obtain ⟨its, rv, p1, _⟩ := sq_inv I1 hqx
      obtain ⟨its2, rv2, p2, _⟩ := sq_inv I1 hqy
      have la := p1.lt
      have lb := p2.lt
      refine zip_begins2 (sq_begins b1 a its.toArray) (sq_begins b2 b its2.toArray) p1 p2 fun h' hz hTI hTO h1 h2 hsz hk => wpAny_pyIter_zip hz ?_
      have I2 : Inv X pins σ H1 { s1 with heap := h' } := I1.kept (t' := s1.toks) hk
      refine ⟨s1.heap.objs.size + 4, [s1.heap.objs.size + 4, s1.heap.objs.size + 2, s1.heap.objs.size + 3, s1.heap.objs.size, s1.heap.objs.size + 1], _, _, H1, rfl, I2, turn_zipS ?_, ⟨hz, hTI, ⟨_, _, hTO⟩, sqO_iter h1, sqO_iter h2, Nat.ne_of_lt la, ne_nat (by omega)⟩, fun c hcm => ?_, q⟩
      · constructor <;> (try simp only [List.mem_cons, List.not_mem_nil, or_false, not_or]) <;> first | exact ne_nat (by omega) | exact ⟨ne_nat (by omega), ne_nat (by omega)⟩ | exact .inl rfl | simp
      · have e' : c = s1.heap.objs.size + 4 ∨ c = s1.heap.objs.size + 2 ∨ c = s1.heap.objs.size + 3 ∨ c = s1.heap.objs.size ∨ c = s1.heap.objs.size + 1 := by simpa using hcm
        have hle : s1.heap.objs.size ≤ c := by
          rcases e' with q | q | q | q | q
          · rw [q]; exact Nat.le_add_right _ _
          · rw [q]; exact Nat.le_add_right _ _
          · rw [q]; exact Nat.le_add_right _ _
          · rw [q]; exact Nat.le_refl _
          · rw [q]; exact Nat.le_add_right _ _
        exact I1.fpOk hle (I1.hok.fresh hle)
end Ev
end

section
set_option Elab.async false
set_option linter.all false
set_option maxRecDepth 100000
/-! Ev: walks over dicts. -/
namespace Ev
open PySem PySem.Spec PyProof.Rows L2

def ItkX (d : Addr) (o : Obj) : It :=
  ⟨fun i H => ∃ ws, H d = some (DxO d o ws) ∧ i < ws.length, fun i H x H' => H' = H ∧ ∀ ws, H d = some (DxO d o ws) → ∃ q, ws[i]? = some q ∧ x = .ref q.2.1, fun i H => ∃ ws, H d = some (DxO d o ws) ∧ ws.length ≤ i⟩
def ItvX (d : Addr) (o : Obj) : It :=
  ⟨fun i H => ∃ ws, H d = some (DxO d o ws) ∧ i < ws.length, fun i H x H' => H' = H ∧ ∀ ws, H d = some (DxO d o ws) → ∃ q, ws[i]? = some q ∧ x = q.2.2, fun i H => ∃ ws, H d = some (DxO d o ws) ∧ ws.length ≤ i⟩
def ItiX (d : Addr) (o : Obj) : It :=
  ⟨fun i H => ∃ ws, H d = some (DxO d o ws) ∧ i < ws.length, fun i H x H' => ∃ T k v, x = .ref T ∧ H T = none ∧ H' = upd H T (.tup [.ref k, v]) ∧ ∀ ws, H d = some (DxO d o ws) → ∃ q, ws[i]? = some q ∧ k = q.2.1 ∧ v = q.2.2,
    fun i H => ∃ ws, H d = some (DxO d o ws) ∧ ws.length ≤ i⟩
theorem pwx_get : ∀ {ws : Wx} {xs : Xx} {i : Nat} {y : NestedKey × Addr × Value}, PWx ws xs → xs[i]? = some y → ∃ q, ws[i]? = some q ∧ q.2.1 = y.2.1 ∧ RelV q.2.2 y.2.2
  | _, _, _, _, .nil, e => by simp at e
  | _, _, 0, y, .cons r _, e => by simp at e; subst e; exact ⟨_, rfl, r.2.1, r.2.2⟩
  | _, _, i + 1, y, .cons _ t, e => by
    obtain ⟨q, h1, h2⟩ := pwx_get (i := i) t (by simpa using e)
    exact ⟨q, by simpa using h1, h2⟩
section
variable {X : Cx} {pins : List (Addr × Obj)} {σ : L2.St} {H : Hp} {s : Shared} {d : Addr} {o : Obj} {ws : Wx}
/-- the raw entries of a dict that is known -/
theorem dx_raw (I : Inv X pins σ H s) (e : H d = some (DxO d o ws)) : ∃ es ep, s.heap.get? d = some o ∧ (d == sysModules) = false ∧ o.ExactDict ∧ o.data = .dict es ep ∧ es.size = ws.length ∧
    ∀ ws', H d = some (DxO d o ws') → ∀ i (hi : i < es.size), ∃ q, ws'[i]? = some q ∧ es[i].key = .ref q.2.1 ∧ RelV q.2.2 es[i].val := by
  have key : ∀ ws', H d = some (DxO d o ws') → s.heap.get? d = some o ∧ (d == sysModules) = false ∧ DxF o ws' := fun ws' e' => (show ObjOk X.prog X.w H s.heap d (DxO d o ws') from I.hok _ _ e').1
  obtain ⟨h1, h2, h3, es, ep, xs, d1, d2, d3, d4, d5⟩ := key ws e
  have hl : es.size = ws.length := by
    have := congrArg List.length d3
    rw [List.length_map, Array.length_toList] at this
    rw [this]
    exact (Paired.length d4).symm
  refine ⟨es, ep, h1, h2, d1, d2, hl, fun ws' e' i hi => ?_⟩
  obtain ⟨_, _, _, es', ep', xs', _, c2, c3, c4, _⟩ := key ws' e'
  obtain ⟨rfl, rfl⟩ := dict_ep d2 c2
  have hi' : i < xs'.length := by
    have := congrArg List.length c3
    rw [List.length_map, Array.length_toList] at this
    omega
  obtain ⟨q, q1, q2, q3⟩ := pwx_get c4 (List.getElem?_eq_getElem hi')
  have ee : es'[i] = enN xs'[i] := by
    have z : es'.toList[i]? = (xs'.map enN)[i]? := by rw [c3]
    rw [Array.getElem?_toList, Array.getElem?_eq_getElem hi, List.getElem?_map, List.getElem?_eq_getElem hi'] at z
    exact Option.some.inj z
  refine ⟨q, q1, ?_, ?_⟩
  · rw [ee]
    show Value.ref _ = _
    rw [q2]
  · rw [ee]
    exact q3
end
section
variable {P : Program} {w : World} {K : PySem.W.Frag} {tg : Expr} {d : Addr} {o : Obj} {es : Array DictEntry} {ep : Nat}
theorem turn_keysX (it : Addr) (hod : o.data = .dict es ep) : Turn P w K tg (ItkX d o) [it] it (fun i h => h.IsKeyIter it d i es.size ep) where
  mem := by simp
  obj := fun i h st b hb => by
    have e : b = it := by simpa using hb
    subst e
    obtain ⟨oi, e, c, dd⟩ := st
    exact ⟨oi, e, fun v z => by rw [dd] at z; cases z⟩
  keep := fun i h h' st k => st.at fun oi e => k it (by simp) oi e
  item := by
    intro X hP hw hK hc i pins s σ H E I hf st hg
    subst hP hw hK
    obtain ⟨ws, hd, hi⟩ := hg
    obtain ⟨f0, f1, f2, f3, f4, f5⟩ := hf it (by simp)
    obtain ⟨es', ep', hgd, hs, hx, hdt, hsz, ent⟩ := dx_raw I hd
    obtain ⟨rfl, rfl⟩ := dict_ep hod hdt
    have hi' : i < es'.size := by omega
    obtain ⟨q, hq, hk, hv⟩ := ent ws hd i hi'
    refine next_key_item st hgd hdt rfl (Array.getElem?_eq_getElem hi') fun h' st' sb => ?_
    have I1 : Inv X pins σ H { s with heap := h' } := I.turned (t' := s.toks) (fun b ob hb e => (sb.2 b hb).trans e) f0 f1 f3 f4 f5
    obtain ⟨oi, e, c, dd⟩ := id st'
    refine ⟨es'[i].key, rfl, go_of (s := { s with heap := h' }) e c dd (by decide) ⟨.ref q.2.1, H, I1, hk, ⟨rfl, fun ws' e' => ?_⟩, st', fun b hb => (hf b hb).1⟩⟩
    obtain ⟨q', hq', hk', _⟩ := ent ws' e' i hi'
    rw [hk] at hk'
    have hk' : Value.ref q.2.1 = Value.ref q'.2.1 := hk'
    injection hk' with hk'
    exact ⟨q', hq', by rw [hk']⟩
  done := by
    intro X hP hw hK hc i pins s σ H E I hf st hg
    subst hP hw hK
    obtain ⟨ws, hd, hi⟩ := hg
    obtain ⟨f0, f1, f2, f3, f4, f5⟩ := hf it (by simp)
    obtain ⟨es', ep', hgd, hs, hx, hdt, hsz, ent⟩ := dx_raw I hd
    obtain ⟨rfl, rfl⟩ := dict_ep hod hdt
    exact next_key_end (I.ok.hd hc) st hgd hdt rfl (by omega) fun h' eb => ⟨rfl, I.turned (t' := s.toks) (fun b ob hb e => eb b ob hb e) f0 f1 f3 f4 f5⟩
  self := fun A i s Q E st h => by
    refine wpAny_pyIter_slot st.typeIs F.slot_dict_keyiterator_iter (wpAny_call_entry F.slot_dict_keyiterator_iter st.typeIs F.entry_dict_keyiterator_iter ?_ (F.args_dict_keyiterator_iter_1 _))
    show wpAny _ _ (ret (.ref it)) _ _ s
    exact wpAny_pure ⟨_, rfl, "dict_keyiterator", _, st.typeIs, F.slot_dict_keyiterator_next.lookup, h⟩
theorem turn_valsX (it : Addr) (hod : o.data = .dict es ep) : Turn P w K tg (ItvX d o) [it] it (fun i h => h.IsValIter it d i es.size ep) where
  mem := by simp
  obj := fun i h st b hb => by
    have e : b = it := by simpa using hb
    subst e
    obtain ⟨oi, e, c, dd⟩ := st
    exact ⟨oi, e, fun v z => by rw [dd] at z; cases z⟩
  keep := fun i h h' st k => st.at fun oi e => k it (by simp) oi e
  item := by
    intro X hP hw hK hc i pins s σ H E I hf st hg
    subst hP hw hK
    obtain ⟨ws, hd, hi⟩ := hg
    obtain ⟨f0, f1, f2, f3, f4, f5⟩ := hf it (by simp)
    obtain ⟨es', ep', hgd, hs, hx, hdt, hsz, ent⟩ := dx_raw I hd
    obtain ⟨rfl, rfl⟩ := dict_ep hod hdt
    have hi' : i < es'.size := by omega
    obtain ⟨q, hq, hk, hv⟩ := ent ws hd i hi'
    refine wpAny_pyNext_values_item_raw st ⟨o, hgd, hx, hdt⟩ hi' fun h' st' sb => ?_
    have I1 : Inv X pins σ H { s with heap := h' } := I.turned (t' := s.toks) (fun b ob hb e => (sb.2 b hb).trans e) f0 f1 f3 f4 f5
    obtain ⟨oi, e, c, dd⟩ := id st'
    refine ⟨es'[i].val, rfl, go_of (s := { s with heap := h' }) e c dd (by decide) ⟨q.2.2, H, I1, hv, ⟨rfl, fun ws' e' => ?_⟩, st', fun b hb => (hf b hb).1⟩⟩
    obtain ⟨q', hq', _, hv'⟩ := ent ws' e' i hi'
    exact ⟨q', hq', RelV.inj hv hv'⟩
  done := by
    intro X hP hw hK hc i pins s σ H E I hf st hg
    subst hP hw hK
    obtain ⟨ws, hd, hi⟩ := hg
    obtain ⟨f0, f1, f2, f3, f4, f5⟩ := hf it (by simp)
    obtain ⟨es', ep', hgd, hs, hx, hdt, hsz, ent⟩ := dx_raw I hd
    obtain ⟨rfl, rfl⟩ := dict_ep hod hdt
    exact wpAny_pyNext_values_end_raw (I.ok.hd hc) st ⟨o, hgd, hx, hdt⟩ (by omega) fun h' eb => ⟨rfl, I.turned (t' := s.toks) (fun b ob hb e => eb b ob hb e) f0 f1 f3 f4 f5⟩
  self := fun A i s Q E st h => wpAny_pyIter_valiter st h
theorem turn_itemsX {elts : List Expr} {kk : Nat} {tpos : Pos} (it : Addr) (hod : o.data = .dict es ep) :
    Turn P w K (.Tuple elts kk tpos) (ItiX d o) [it] it (fun i h => ∃ ok ov, IsItemIter h it d i es.size ep ok ov) where
  mem := by simp
  obj := fun i h st b hb => by
    have e : b = it := by simpa using hb
    subst e
    obtain ⟨ok, ov, e⟩ := st
    exact ⟨_, e, fun v z => nomatch z⟩
  keep := fun i h h' st k => let ⟨ok, ov, e⟩ := st; ⟨ok, ov, k it (by simp) _ e⟩
  item := by
    intro X hP hw hK hc i pins s σ H E I hf st hg
    subst hP hw hK
    obtain ⟨ws, hd, hi⟩ := hg
    obtain ⟨es', ep', hgd, hs, hx, hdt, hsz, ent⟩ := dx_raw I hd
    obtain ⟨rfl, rfl⟩ := dict_ep hod hdt
    have hi' : i < es'.size := by omega
    obtain ⟨q, hq, hk, hv⟩ := ent ws hd i hi'
    obtain ⟨ok, ov, he⟩ := st
    have hlt : it < s.heap.objs.size := Heap.lt_size he
    refine wpAny_pyNext_items_item_raw he ⟨o, hgd, hx, hdt⟩ hi' fun h' ho hT hz hkk => ?_
    refine ⟨_, rfl, wpAny_letOwnedTupleGo_items (s := { s with heap := h' }) ho fun h'' he' sb => ?_⟩
    have hT2 : h''.get? s.heap.objs.size = some { cls := .type "tuple", data := .seq #[es'[i].key, es'[i].val] } := (sb.2 _ (Nat.ne_of_gt hlt)).trans hT
    have new : ObjOk X.prog X.w (upd H s.heap.objs.size (.tup [.ref q.2.1, q.2.2])) h'' s.heap.objs.size (.tup [.ref q.2.1, q.2.2]) :=
      ⟨by show 2 ≤ sizeLine; decide, [es'[i].key, es'[i].val], .cons hk (.cons hv .nil), ⟨_, hT2, rfl, _, rfl⟩⟩
    have I1 : Inv X pins σ (upd H s.heap.objs.size (.tup [.ref q.2.1, q.2.2])) { s with heap := h'' } :=
      I.turnedNew (t' := s.toks) (ch := [it]) (fun b ob hb e => (sb.2 b (by simpa using hb)).trans (hkk b ob (by simpa using hb) e)) hf (Nat.le_refl _) new
    refine ⟨.ref s.heap.objs.size, _, I1, rfl, ⟨_, q.2.1, q.2.2, rfl, I.hok.fresh (Nat.le_refl _), rfl, fun ws' e' => ?_⟩, ⟨_, _, he'⟩, fun b hb => ?_⟩
    · obtain ⟨q', hq', hk', hv'⟩ := ent ws' e' i hi'
      rw [hk] at hk'
      have hk' : Value.ref q.2.1 = Value.ref q'.2.1 := hk'
      injection hk' with hk'
      exact ⟨q', hq', hk', RelV.inj hv hv'⟩
    · have e : b = it := by simpa using hb
      rw [e, upd_ne (Nat.ne_of_lt hlt)]
      exact (hf it (by simp)).1
  done := by
    intro X hP hw hK hc i pins s σ H E I hf st hg
    subst hP hw hK
    obtain ⟨ws, hd, hi⟩ := hg
    obtain ⟨f0, f1, f2, f3, f4, f5⟩ := hf it (by simp)
    obtain ⟨es', ep', hgd, hs, hx, hdt, hsz, ent⟩ := dx_raw I hd
    obtain ⟨rfl, rfl⟩ := dict_ep hod hdt
    obtain ⟨ok, ov, he⟩ := st
    exact wpAny_pyNext_items_end_raw (I.ok.hd hc) he ⟨o, hgd, hx, hdt⟩ (by omega) fun h' eb => ⟨rfl, I.turned (t' := s.toks) (fun b ob hb e => eb b ob hb e) f0 f1 f3 f4 f5⟩
  self := fun A i s Q E st h => let ⟨_, _, e⟩ := st; PySem.W.kcp_self e h
end
/-! ### for x in e: a list, a tuple, a dict -/
def iAnyX (K : PySem.W.Frag) (tl : TE) : TI := fun σ H R => tl σ H fun x H1 => (∃ b a xs, x = .ref a ∧ Ev.Sq K b H1 a xs ∧ R (Ev.Itq K b a) H1) ∨ ∃ d o ws, x = .ref d ∧ H1 d = some (DxO d o ws) ∧ R (ItkX d o) H1
def iItemsX (td : TE) : TI := fun σ H R => td σ H fun x H1 => ∃ d o ws, x = .ref d ∧ H1 d = some (DxO d o ws) ∧ R (ItiX d o) H1
def iValsX (td : TE) : TI := fun σ H R => td σ H fun x H1 => ∃ d o ws, x = .ref d ∧ H1 d = some (DxO d o ws) ∧ R (ItvX d o) H1
section
variable {X : Cx} {tg e : Expr} {td : TE} {apos cpos : Pos}
theorem pi_anyX (he : PE X e td) : PI X tg e (iAnyX X.K td) := by
  refine ⟨fun pins s σ H R I h => ?_⟩
  refine thn (he.run pins s σ H _ I h) fun u s1 ⟨x, H1, I1, rx, q1⟩ => ?_
  rcases q1 with ⟨b, a, xs, ex, hq, q⟩ | ⟨d, o, ws, ex, hd, q⟩
  · subst ex
    cases rx
    cases b
    · obtain ⟨its, rv, p, hz⟩ := I1.tuple hq
      exact wpAny_pyIter_tuple (show s1.heap.IsTuple a its.toArray from p) (pi_one (tk := s1.toks) I1 _ (turn_tuple a _) ⟨_, Heap.get?_push_size _ rfl, rfl, rfl⟩ q)
    · obtain ⟨its, rv, p, hz⟩ := I1.list hq
      exact wpAny_pyIter_list p.isList (pi_one (tk := s1.toks) I1 _ (turn_list a _) ⟨_, Heap.get?_push_size _ rfl, rfl, rfl⟩ q)
  · subst ex
    obtain rfl : u = Value.ref d := rx
    obtain ⟨es, ep, hgd, hs, hx, hdt, hsz, ent⟩ := dx_raw I1 hd
    exact iter_keys hs hgd hx hdt (pi_one (tk := s1.toks) I1 _ (turn_keysX _ hdt) ⟨_, Heap.get?_push_size _ rfl, rfl, rfl⟩ q)
theorem pi_itemsX {elts : List Expr} {kk : Nat} {tpos : Pos} (he : PE X e td) (hbase : attributeBase e "items" X.env (eval e X.env) = eval e X.env) (hline : (apos.endLine == cpos.line) = true) :
    PI X (.Tuple elts kk tpos) (.Call (.Attribute e "items" apos) [] [] cpos) (iItemsX td) := by
  refine ⟨fun pins s σ H R I h => ?_⟩
  refine wpAny_Call_method (T := "dict") (id := "dict.items") hbase rfl hline F.plainAttrs_dict F.slot_dict_items F.type_dict_items (thn (he.run pins s σ H _ I h) fun u s1 ⟨x, H1, I1, rx, d, o, ws, ex, hd, q⟩ => ?_)
  subst ex
  obtain rfl : u = Value.ref d := rx
  obtain ⟨es, ep, hgd, hs, hx, hdt, hsz, ent⟩ := dx_raw I1 hd
  refine ⟨⟨o, hgd, hx.1⟩, fun b q => by cases q; exact ⟨o, hgd, hx.2.1⟩, ?_⟩
  have I2 : Inv X pins σ H1 { s1 with heap := s1.heap.push { cls := .type "dict_items", data := .fields #[.ref d] } } := I1.kept (t' := s1.toks) fun b ob q => Heap.get?_push_of_some _ q
  have fin : wpAny (model X.prog X.w) X.A (pyIter (.ref s1.heap.objs.size)) (PIE X pins σ (.Tuple elts kk tpos) R) X.xe { s1 with heap := s1.heap.push { cls := .type "dict_items", data := .fields #[.ref d] } } := by
    refine wpAny_pyIter_items_raw (d := d) ⟨_, Heap.get?_push_size _ rfl, rfl, rfl⟩ ⟨o, Heap.get?_push_of_some _ hgd, hx, hdt⟩ (pi_one (tk := s1.toks) I2 _ (turn_itemsX _ hdt) ⟨.none, .none, ?_⟩ q)
    exact Heap.get?_push_size _ rfl
  show wpAny _ _ (callWith cpos (.builtin "dict.items") [.ref d] [] []) _ X.xe s1
  exact method_meetsIn F.slot_dict_items F.entry_dict_items rfl (PySem.evalArgs_none ⟨rfl, ⟨o, hgd, hx.1⟩, F.args_dict_items_1 _, _, meets_dict_items_raw d hs, ⟨es, ep, o, hgd, hx, hdt⟩, fin⟩)
theorem pi_valsX (he : PE X e td) (hbase : attributeBase e "values" X.env (eval e X.env) = eval e X.env) (hline : (apos.endLine == cpos.line) = true) :
    PI X tg (.Call (.Attribute e "values" apos) [] [] cpos) (iValsX td) := by
  refine ⟨fun pins s σ H R I h => ?_⟩
  refine wpAny_Call_method (T := "dict") (id := "dict.values") hbase rfl hline F.plainAttrs_dict F.slot_dict_values F.type_dict_values (thn (he.run pins s σ H _ I h) fun u s1 ⟨x, H1, I1, rx, d, o, ws, ex, hd, q⟩ => ?_)
  subst ex
  obtain rfl : u = Value.ref d := rx
  obtain ⟨es, ep, hgd, hs, hx, hdt, hsz, ent⟩ := dx_raw I1 hd
  refine ⟨⟨o, hgd, hx.1⟩, fun b q => by cases q; exact ⟨o, hgd, hx.2.1⟩, ?_⟩
  have I2 : Inv X pins σ H1 { s1 with heap := s1.heap.push { cls := .type "dict_values", data := .fields #[.ref d] } } := I1.kept (t' := s1.toks) fun b ob q => Heap.get?_push_of_some _ q
  have fin : wpAny (model X.prog X.w) X.A (pyIter (.ref s1.heap.objs.size)) (PIE X pins σ tg R) X.xe { s1 with heap := s1.heap.push { cls := .type "dict_values", data := .fields #[.ref d] } } := by
    refine wpAny_pyIter_values_raw (d := d) ⟨_, Heap.get?_push_size _ rfl, rfl, rfl⟩ ⟨o, Heap.get?_push_of_some _ hgd, hx, hdt⟩ (pi_one (tk := s1.toks) I2 _ (turn_valsX _ hdt) ⟨_, Heap.get?_push_size _ rfl, rfl, rfl⟩ q)
  show wpAny _ _ (callWith cpos (.builtin "dict.values") [.ref d] [] []) _ X.xe s1
  exact method_meetsIn F.slot_dict_values F.entry_dict_values rfl (PySem.evalArgs_none ⟨rfl, ⟨o, hgd, hx.1⟩, F.args_dict_values_1 _, _, meets_dict_values_raw d hs, ⟨es, ep, o, hgd, hx, hdt⟩, fin⟩)
end
end Ev
end

section
set_option Elab.async false
set_option linter.all false
set_option maxRecDepth 100000
/-! Ev: what it means that a piece of the evaluator tells what a piece of the text does. -/
namespace Ev
open PySem PySem.Spec PyProof.Rows L2

/-- where the classes, the functions, the exceptions' classes stand; an exception's field -/
structure Pl where
  C : Nat → Addr
  F : Nat → Addr
  X : Nat → Value
  xf : Nat → Str
/-- how an exception lies -/
def RX (p : Pl) (m : Mp) (z : Nat) (H : Hp) (x : Exc) (cls : Value) (d : Option Addr) : Prop := cls = p.X x.cls ∧ match x.arg with
  | none => True
  | some v => ∃ a u, d = some a ∧ H a = some (.xd [(p.xf x.cls, u)]) ∧ RP m z H v u

def Post (K : PySem.W.Frag) (p : Pl) {α β : Type} (R : Mp → Nat → Hp → α → β → Prop) (E : XK) (h : Mem) (m : Mp) (H : Hp) (r : Res α) (Q : β → Hp → Prop) : Prop := match r with
  | .ok a h' => ∀ m' H' b, Le h m H h' m' H' → RH K p.C m' h' H' → R m' h'.size H' a b → Q b H'
  | .err x h' => ∀ m' H' cls d, Le h m H h' m' H' → RH K p.C m' h' H' → RX p m' h'.size H' x cls d → E cls d H'
  | .bad => False
section
variable {K : PySem.W.Frag} {p : Pl} {α β γ δ : Type} {R : Mp → Nat → Hp → α → β → Prop} {S : Mp → Nat → Hp → γ → δ → Prop} {E E' : XK} {h h1 : Mem} {m m1 : Mp} {H H1 : Hp} {r : Res α} {Q Q' : β → Hp → Prop}
theorem Post.shift (hp : Post K p R E h m H r Q) (l : Le h m H h1 m1 H1) : Post K p R E h1 m1 H1 r Q := by
  cases r with
  | ok a h' => exact fun m' H' b l' => hp m' H' b (l.trans l')
  | err x h' => exact fun m' H' cls d l' => hp m' H' cls d (l.trans l')
  | bad => exact hp
theorem Post.mono (hp : Post K p R E h m H r Q) (k : ∀ b H', Q b H' → Q' b H') : Post K p R E h m H r Q' := by
  cases r with
  | ok a h' => exact fun m' H' b l' rh rr => k _ _ (hp m' H' b l' rh rr)
  | err x h' => exact hp
  | bad => exact hp
theorem Post.bind {f : α → Mem → Res γ} {Q : δ → Hp → Prop} (hp : Post K p S E h m H (r.bind f) Q) :
    Post K p R E h m H r (fun b H1 => ∃ a h1 m1, Le h m H h1 m1 H1 ∧ RH K p.C m1 h1 H1 ∧ R m1 h1.size H1 a b ∧ Post K p S E h1 m1 H1 (f a h1) Q) := by
  cases r with
  | ok a h1 => exact fun m1 H1 b l rh rr => ⟨a, h1, m1, l, rh, rr, hp.shift l⟩
  | err x h' => exact hp
  | bad => exact hp
theorem Post.bind' {f : α → Mem → Res γ} {Q : δ → Hp → Prop} {Q2 : β → Hp → Prop} (hp : Post K p S E h m H (r.bind f) Q)
    (k : ∀ b H1 a h1 m1, Le h m H h1 m1 H1 → RH K p.C m1 h1 H1 → R m1 h1.size H1 a b → Post K p S E h1 m1 H1 (f a h1) Q → Q2 b H1) : Post K p R E h m H r Q2 :=
  hp.bind.mono fun b H1 ⟨a, h1, m1, l, rh, rr, q⟩ => k b H1 a h1 m1 l rh rr q
end
/-- a def's promise: what the evaluator says -/
def spF (K : PySem.W.Frag) (p : Pl) (c : Calls) (f : Nat) : Sp := fun vs H Q E => ∃ h m args, RH K p.C m h H ∧ RPs m h.size H args vs ∧ Post K p RP E h m H (c f args h) Q

/-! ### the text's tables -/
structure GT where
  tab : List Fd
  fns : List (Str × Nat)
  cls : List (Str × Nat)
  slots : List (Nat × Str × Nat)
  props : List (Nat × Str × Nat)
  meths : List (Nat × Str × Nat)
  /-- class, its __init__, how many slots -/
  inits : List (Nat × Nat × Nat)
  cints : List (Str × Int)
  /-- of an instance of the first class: is it of the second -/
  isis : List (Nat × Nat × Bool)
  free : List Str
/-- a scope: the names by slot, the scope as it runs, which names' cells were made at the entry -/
structure Sc where
  N : List Str
  scope : Scope
  fn : Str → Bool
structure PropAt (K : PySem.W.Frag) (C : Addr) (f : Str) (g : Addr) : Prop where
  ex : ∃ q, PySem.W.findIn K (.ref C) f = some (some (.ref q)) ∧ PySem.W.specialIn K (.ref q) "__get__" = some (some (.builtin "property.__get__")) ∧ PySem.W.takesIn K (.ref q) = some true ∧ ∃ rest, PySem.W.recIn K q "property" = some (.ref g :: rest)
structure GOk (G : GT) (p : Pl) (P : Program) (w : World) (K : PySem.W.Frag) (mg : Str → Option Value) (base : Heap) (k : Nat) : Prop where
  fn : ∀ f d, nthF G.tab f = some d → FnR P w K mg base (CX P w) (4 * k) (p.F f) (spF K p (callD G.tab k) f) ∧ PySem.W.keepIn K (.ref (p.F f)) = true
  gl : ∀ x f, (x, f) ∈ G.fns → mg x = some (.ref (p.F f))
  cl : ∀ x c, (x, c) ∈ G.cls → mg x = some (.ref (p.C c)) ∧ SlX.SCls K (p.C c)
  inj : ∀ x y b c, (x, b) ∈ G.cls → (y, c) ∈ G.cls → b ≠ c → p.C b ≠ p.C c
  sl : ∀ c f i, (c, f, i) ∈ G.slots → SlX.SCls K (p.C c) ∧ ∃ q, SlX.Slot1 K (p.C c) f q i
  pr : ∀ c f g, (c, f, g) ∈ G.props → SlX.SCls K (p.C c) ∧ PropAt K (p.C c) f (p.F g)
  me : ∀ c f g, (c, f, g) ∈ G.meths → SlX.SCls K (p.C c) ∧ Meth K (p.C c) f (p.F g)
  isi : ∀ x c, (x, c) ∈ G.cls → SlX.SIsi K (p.C c) ∧ (∀ T ∈ ["int", "bool", "str", "tuple", "list"], PySem.W.kitOne K (.ref (p.C c)) (.type T) = some false) ∧
    ∀ T ∈ ["NoneType", "bool", "int", "str", "tuple", "list", "dict"], PySem.W.kitOne K (.type T) (.ref (p.C c)) = some false
  iso : ∀ j i b, (j, i, b) ∈ G.isis → (∃ x, (x, j) ∈ G.cls) ∧ PySem.W.kitOne K (.ref (p.C j)) (.ref (p.C i)) = some b
  ini : ∀ c f n, (c, f, n) ∈ G.inits → Mk K (p.C c) (p.F f)
  cint : ∀ x i, (x, i) ∈ G.cints → ∃ t, mg x = some (.int i t)
  free : ∀ x, x ∈ G.free → mg x = none
/-- the context of a body or a comprehension's block -/
structure ECx (G : GT) (p : Pl) (k : Nat) (sc : Sc) (W : WX) (X : Cx) : Prop where
  g : GOk G p X.prog X.w X.K X.mg X.base k
  nd : X.N.Nodup
  n : X.N = sc.N
  sco : X.env.scope = sc.scope
  fn : X.fn = sc.fn
  calm : X.calm = true
  room : Room (4 * k + 3) X.A
  tk : Takes X W
  po : PassesOwn (model X.prog X.w) X.A X.env X.xe

/-! ### readings -/
def teOf (K : PySem.W.Frag) (p : Pl) (W : WX) (c : Calls) (f : XE) : TE := fun σ H Q => ∃ s h m, RH K p.C m h H ∧ RE m h.size H s σ ∧ Post K p RP (fun cls d H' => W cls d σ H') h m H (f c s h) Q
def RB (m : Mp) (z : Nat) (H : Hp) (a b : Bool) : Prop := a = b
def ttOf (K : PySem.W.Frag) (p : Pl) (W : WX) (c : Calls) (f : XT) : TT := fun σ H Q => ∃ s h m, RH K p.C m h H ∧ RE m h.size H s σ ∧ Post K p RB (fun cls d H' => W cls d σ H') h m H (f c s h) Q
def taOf (K : PySem.W.Frag) (p : Pl) (W : WX) (c : Calls) (f : XA) : TA := fun σ H Q => ∃ s h m, RH K p.C m h H ∧ RE m h.size H s σ ∧ Post K p RPs (fun cls d H' => W cls d σ H') h m H (f c s h) Q
/-- an expression whose value is a list (or tuple) of these items; what stands there is not the memory's, or is locked while it is used -/
def RL (K : PySem.W.Frag) (m : Mp) (z : Nat) (H : Hp) (xs : List PV) (v : V) : Prop := ∃ a vs, v = .ref a ∧ SqL K H a vs ∧ RPs m z H xs vs
def tlOf (K : PySem.W.Frag) (p : Pl) (W : WX) (c : Calls) (f : XA) : TE := fun σ H Q => ∃ s h m, RH K p.C m h H ∧ RE m h.size H s σ ∧ Post K p (RL K) (fun cls d H' => W cls d σ H') h m H (f c s h) Q
def PostS (K : PySem.W.Frag) (p : Pl) (W : WX) (D : Ends) (h : Mem) (m : Mp) (H : Hp) (r : SR) : Prop := match r with
  | .nx s' h' => ∀ m' H' σ', Le h m H h' m' H' → RH K p.C m' h' H' → RE m' h'.size H' s' σ' → D.nx σ' H'
  | .rt v h' => ∀ m' H' v', Le h m H h' m' H' → RH K p.C m' h' H' → RP m' h'.size H' v v' → D.rt v' H'
  | .bk s' h' => ∀ m' H' σ', Le h m H h' m' H' → RH K p.C m' h' H' → RE m' h'.size H' s' σ' → D.bk σ' H'
  | .ct s' h' => ∀ m' H' σ', Le h m H h' m' H' → RH K p.C m' h' H' → RE m' h'.size H' s' σ' → D.ct σ' H'
  | .er x s' h' => ∀ m' H' σ' cls d, Le h m H h' m' H' → RH K p.C m' h' H' → RE m' h'.size H' s' σ' → RX p m' h'.size H' x cls d → W cls d σ' H'
  | .bad => False
def tsOf (K : PySem.W.Frag) (p : Pl) (W : WX) (c : Calls) (f : XS) : TS := fun D σ H => ∃ s h m, RH K p.C m h H ∧ RE m h.size H s σ ∧ PostS K p W D h m H (f c s h)
def tgOf (K : PySem.W.Frag) (p : Pl) (W : WX) (c : Calls) (f : XG) : TG := fun v σ H Q => ∃ s h m x, RH K p.C m h H ∧ RE m h.size H s σ ∧ RP m h.size H x v ∧
  Post K p RE (fun cls d H' => W cls d σ H') h m H (f c x s h) Q

section
variable (G : GT) (p : Pl) (sc : Sc)
def SE (e : Expr) (f : XE) : Prop := ∀ k W X, ECx G p k sc W X → PE X e (teOf X.K p W (callD G.tab k) f)
def SL (e : Expr) (f : XA) : Prop := ∀ k W X, ECx G p k sc W X → PE X e (tlOf X.K p W (callD G.tab k) f)
def ST (e : Expr) (f : XT) : Prop := ∀ k W X, ECx G p k sc W X → PT X e (ttOf X.K p W (callD G.tab k) f)
def SA (es : List Expr) (f : XA) : Prop := ∀ k W X, ECx G p k sc W X → PA X es (taOf X.K p W (callD G.tab k) f)
def SG (e : Expr) (f : XG) : Prop := ∀ k W X, ECx G p k sc W X → PG X e (tgOf X.K p W (callD G.tab k) f)
def SS (e : Stmt) (f : XS) : Prop := ∀ k W X, ECx G p k sc W X → PS X e (tsOf X.K p W (callD G.tab k) f)
def SSs (e : List Stmt) (f : XS) : Prop := ∀ k W X, ECx G p k sc W X → PSs X e (tsOf X.K p W (callD G.tab k) f)
end

/-! ### weakening -/
theorem PE.imp {X : Cx} {e : Expr} {t t' : TE} (h : PE X e t) (k : ∀ σ H Q, t' σ H Q → t σ H Q) : PE X e t' := ⟨fun pins s σ H Q I hq => h.run pins s σ H Q I (k σ H Q hq)⟩
theorem PT.imp {X : Cx} {e : Expr} {t t' : TT} (h : PT X e t) (k : ∀ σ H Q, t' σ H Q → t σ H Q) : PT X e t' := ⟨fun pins s σ H Q I hq => h.run pins s σ H Q I (k σ H Q hq)⟩
theorem PA.imp {X : Cx} {e : List Expr} {t t' : TA} (h : PA X e t) (k : ∀ σ H Q, t' σ H Q → t σ H Q) : PA X e t' := ⟨fun pos pins s σ H Q I hq => h.run pos pins s σ H Q I (k σ H Q hq)⟩
theorem PS.imp {X : Cx} {e : Stmt} {t t' : TS} (h : PS X e t) (k : ∀ D σ H, t' D σ H → t D σ H) : PS X e t' := ⟨fun pins s σ H D I hq => h.run pins s σ H D I (k D σ H hq)⟩
theorem PSs.imp {X : Cx} {e : List Stmt} {t t' : TS} (h : PSs X e t) (k : ∀ D σ H, t' D σ H → t D σ H) : PSs X e t' := ⟨fun pins s σ H D I hq => h.run pins s σ H D I (k D σ H hq)⟩
theorem PG.imp {X : Cx} {e : Expr} {t t' : TG} (h : PG X e t) (k : ∀ v σ H Q, t' v σ H Q → t v σ H Q) : PG X e t' := ⟨fun pins s σ H v u Q I r hq => h.run pins s σ H v u Q I r (k v σ H Q hq)⟩

/-- a bind that begins a reading -/
theorem te_bind {K : PySem.W.Frag} {p : Pl} {W : WX} {c : Calls} {f : XE} {g : PV → Mem → Res γ} {R : Mp → Nat → Hp → γ → δ → Prop} {s : Env} {h : Mem} {m : Mp} {σ : L2.St} {H : Hp} {Q : δ → Hp → Prop} {Q2 : VK} (rh : RH K p.C m h H) (re : RE m h.size H s σ)
    (hp : Post K p R (fun cls d H' => W cls d σ H') h m H ((f c s h).bind g) Q)
    (k : ∀ v H1 a h1 m1, Le h m H h1 m1 H1 → RH K p.C m1 h1 H1 → RE m1 h1.size H1 s σ → RP m1 h1.size H1 a v → Post K p R (fun cls d H' => W cls d σ H') h1 m1 H1 (g a h1) Q → Q2 v H1) : teOf K p W c f σ H Q2 :=
  ⟨s, h, m, rh, re, hp.bind' fun b H1 a h1 m1 l rh1 rr q => k b H1 a h1 m1 l rh1 (re.mono l) rr q⟩
theorem tl_bind {K : PySem.W.Frag} {p : Pl} {W : WX} {c : Calls} {f : XA} {g : List PV → Mem → Res γ} {R : Mp → Nat → Hp → γ → δ → Prop} {s : Env} {h : Mem} {m : Mp} {σ : L2.St} {H : Hp} {Q : δ → Hp → Prop} {Q2 : VK} (rh : RH K p.C m h H) (re : RE m h.size H s σ)
    (hp : Post K p R (fun cls d H' => W cls d σ H') h m H ((f c s h).bind g) Q)
    (k : ∀ v H1 a h1 m1, Le h m H h1 m1 H1 → RH K p.C m1 h1 H1 → RE m1 h1.size H1 s σ → RL K m1 h1.size H1 a v → Post K p R (fun cls d H' => W cls d σ H') h1 m1 H1 (g a h1) Q → Q2 v H1) : tlOf K p W c f σ H Q2 :=
  ⟨s, h, m, rh, re, hp.bind' fun b H1 a h1 m1 l rh1 rr q => k b H1 a h1 m1 l rh1 (re.mono l) rr q⟩
theorem ta_bind {K : PySem.W.Frag} {p : Pl} {W : WX} {c : Calls} {f : XA} {g : List PV → Mem → Res γ} {R : Mp → Nat → Hp → γ → δ → Prop} {s : Env} {h : Mem} {m : Mp} {σ : L2.St} {H : Hp} {Q : δ → Hp → Prop} {Q2 : List V → Hp → Prop} (rh : RH K p.C m h H) (re : RE m h.size H s σ)
    (hp : Post K p R (fun cls d H' => W cls d σ H') h m H ((f c s h).bind g) Q)
    (k : ∀ v H1 a h1 m1, Le h m H h1 m1 H1 → RH K p.C m1 h1 H1 → RE m1 h1.size H1 s σ → RPs m1 h1.size H1 a v → Post K p R (fun cls d H' => W cls d σ H') h1 m1 H1 (g a h1) Q → Q2 v H1) : taOf K p W c f σ H Q2 :=
  ⟨s, h, m, rh, re, hp.bind' fun b H1 a h1 m1 l rh1 rr q => k b H1 a h1 m1 l rh1 (re.mono l) rr q⟩
theorem tt_bind {K : PySem.W.Frag} {p : Pl} {W : WX} {c : Calls} {f : XT} {g : Bool → Mem → Res γ} {R : Mp → Nat → Hp → γ → δ → Prop} {s : Env} {h : Mem} {m : Mp} {σ : L2.St} {H : Hp} {Q : δ → Hp → Prop} {Q2 : Bool → Hp → Prop} (rh : RH K p.C m h H) (re : RE m h.size H s σ)
    (hp : Post K p R (fun cls d H' => W cls d σ H') h m H ((f c s h).bind g) Q)
    (k : ∀ v H1 h1 m1, Le h m H h1 m1 H1 → RH K p.C m1 h1 H1 → RE m1 h1.size H1 s σ → Post K p R (fun cls d H' => W cls d σ H') h1 m1 H1 (g v h1) Q → Q2 v H1) : ttOf K p W c f σ H Q2 :=
  ⟨s, h, m, rh, re, hp.bind' fun b H1 a h1 m1 l rh1 rr q => by
    have e : a = b := rr
    subst e
    exact k a H1 h1 m1 l rh1 (re.mono l) q⟩
end Ev
end

section
set_option Elab.async false
set_option linter.all false
set_option maxRecDepth 100000
/-! Ev: names, constants, operators, comparisons, bools. -/
namespace Ev
open PySem PySem.Spec PyProof.Rows L2

section
variable {G : GT} {p : Pl} {sc : Sc}
theorem glob_of {k : Nat} {W : WX} {X : Cx} (cx : ECx G p k sc W X) {x : Str} (h : sc.scope.names.lookup x = some .globalImplicit) : Gl X x := by
  show X.env.scope.names.lookup x = _
  rw [cx.sco]; exact h
theorem se_var {i : Nat} {x : Str} {pos : Pos} (hN : sc.N[i]? = some x) (hv : Vis sc.scope x) (hd : (x == ("__debug__" : Str)) = false) (hcd : (x == ("__classdict__" : Str)) = false) : SE G p sc (.Name x pos) (eVar i) := by
  intro k W X cx
  refine PE.imp (pe_var (i := i) (by rw [cx.n]; exact hN) (by rw [cx.sco]; exact hv) hd hcd) ?_
  rintro σ H Q ⟨s, h, m, rh, re, hp⟩
  rcases e : s[i]? with _ | _ | v <;> simp only [eVar, e] at hp
  · exact hp.elim
  · exact hp.elim
  · obtain ⟨v', e', r⟩ := re.at_ i v e
    exact ⟨v', e', hp m H v' rh.refl rh r⟩
theorem se_int {i : Int} {j : Nat} {pos : Pos} : SE G p sc (.Constant (.int i) j pos) (eC (.int i)) := fun k W X cx =>
  PE.imp pe_int fun σ H Q ⟨s, h, m, rh, re, hp⟩ => hp m H _ rh.refl rh (.int i)
theorem se_bl {i : Bool} {j : Nat} {pos : Pos} : SE G p sc (.Constant (.bool i) j pos) (eC (.bl i)) := fun k W X cx =>
  PE.imp pe_bl fun σ H Q ⟨s, h, m, rh, re, hp⟩ => hp m H _ rh.refl rh (.bl i)
theorem se_str {i : Str} {j : Nat} {pos : Pos} : SE G p sc (.Constant (.str i) j pos) (eC (.str i)) := fun k W X cx =>
  PE.imp pe_str fun σ H Q ⟨s, h, m, rh, re, hp⟩ => hp m H _ rh.refl rh (.str i)
theorem se_non {j : Nat} {pos : Pos} : SE G p sc (.Constant .none j pos) (eC .non) := fun k W X cx =>
  PE.imp pe_non fun σ H Q ⟨s, h, m, rh, re, hp⟩ => hp m H _ rh.refl rh .non
theorem se_gint {x : Str} {i : Int} {pos : Pos} (hg : sc.scope.names.lookup x = some .globalImplicit) (hi : (x, i) ∈ G.cints) (hd : (x == ("__debug__" : Str)) = false) : SE G p sc (.Name x pos) (eC (.int i)) := fun k W X cx => by
  obtain ⟨t, e⟩ := cx.g.cint x i hi
  exact PE.imp (pe_glob (v := .int i) (glob_of cx hg) e ⟨t, rfl⟩ hd) fun σ H Q ⟨s, h, m, rh, re, hp⟩ => hp m H _ rh.refl rh (.int i)

/-! ### operators by values -/
/-- two values: what the evaluator's function says -/
def rV2 (K : PySem.W.Frag) (p : Pl) (f : PV → PV → Mem → Res PV) : R2 := fun x y H Q => ∃ (a b : PV) (h : Mem) (m : Mp), RH K p.C m h H ∧ RP m h.size H a x ∧ RP m h.size H b y ∧ Post K p RP (fun _ _ _ => False) h m H (f a b h) Q
/-- no error comes from f -/
def Pure {α : Type} (r : Res α) : Prop := ∀ x h, r ≠ .err x h
theorem Post.noerr {K : PySem.W.Frag} {α β : Type} {R : Mp → Nat → Hp → α → β → Prop} {E E' : XK} {h : Mem} {m : Mp} {H : Hp} {r : Res α} {Q : β → Hp → Prop} (pr : Pure r) (hp : Post K p R E h m H r Q) : Post K p R E' h m H r Q := by
  cases r with
  | ok a h' => exact hp
  | err x h' => exact absurd rfl (pr x h')
  | bad => exact hp
theorem se_bin2 {a b : Expr} {fa fb : XE} {op : Operator} {f : PV → PV → Mem → Res PV} {pos : Pos} (pr : ∀ x y h, Pure (f x y h)) (ho : ∀ X : Cx, OpR X (binaryOp op) (rV2 X.K p f)) (ha : SE G p sc a fa) (hb : SE G p sc b fb) :
    SE G p sc (.BinOp a op b pos) (fun c s h => (fa c s h).bind fun x h1 => (fb c s h1).bind fun y h2 => f x y h2) := by
  intro k W X cx
  refine PE.imp (pe_op (ho X) (ha k W X cx) (hb k W X cx)) ?_
  rintro σ H Q ⟨s, h, m, rh, re, hp⟩
  refine te_bind rh re hp fun v H1 a h1 m1 l1 rh1 re1 ra hp1 => ?_
  refine te_bind rh1 re1 hp1 fun u H2 b h2 m2 l2 rh2 re2 rb hp2 => ?_
  exact ⟨a, b, h2, m2, rh2, ra.mono l2, rb, hp2.noerr (pr _ _ _)⟩
end
section
variable {X : Cx} {p : Pl}
theorem sub_ok : OpR X (binaryOp .Sub) (rV2 X.K p (binop .sub)) := by
  rintro pins s σ H x y v u Q I rx ry ⟨a, b, h, m, rh, ra, rb, hp⟩
  cases a <;> first | exact hp.elim | skip
  cases b <;> first | exact hp.elim | skip
  rename_i i j
  rw [ra.int_inv] at rx
  rw [rb.int_inv] at ry
  exact op_sub pins s σ H _ _ v u Q I rx ry ⟨i, j, rfl, rfl, hp m H _ rh.refl rh (.int _)⟩
theorem cnd_post {K : PySem.W.Frag} {α β : Type} {R : Mp → Nat → Hp → α → β → Prop} {E : XK} {h : Mem} {m : Mp} {H : Hp} {r : Res α} {b : Bool} {Q : β → Hp → Prop} (hp : Post K p R E h m H (cnd b r .bad) Q) : b = true ∧ Post K p R E h m H r Q := by
  cases b with
  | true => exact ⟨rfl, hp⟩
  | false => exact hp.elim
theorem fdiv_ok : OpR X (binaryOp .FloorDiv) (rV2 X.K p (binop .fdiv)) := by
  rintro pins s σ H x y v u Q I rx ry ⟨a, b, h, m, rh, ra, rb, hp⟩
  cases a <;> first | exact hp.elim | skip
  cases b <;> first | exact hp.elim | skip
  rename_i i j
  rw [ra.int_inv] at rx
  rw [rb.int_inv] at ry
  obtain ⟨c1, hp⟩ := cnd_post hp
  obtain ⟨c2, hp⟩ := cnd_post hp
  exact op_fdivW pins s σ H _ _ v u Q I rx ry ⟨i, j, rfl, rfl, ⟨ilt_iff.mp c1, blt_iff.mp c2⟩, hp m H _ rh.refl rh (.int _)⟩
theorem mod_ok : OpR X (binaryOp .Mod) (rV2 X.K p (binop .mod)) := by
  rintro pins s σ H x y v u Q I rx ry ⟨a, b, h, m, rh, ra, rb, hp⟩
  cases a <;> first | exact hp.elim | skip
  cases b <;> first | exact hp.elim | skip
  rename_i i j
  rw [ra.int_inv] at rx
  rw [rb.int_inv] at ry
  obtain ⟨c1, hp⟩ := cnd_post hp
  exact op_mod pins s σ H _ _ v u Q I rx ry ⟨i, j, rfl, rfl, ilt_iff.mp c1, hp m H _ rh.refl rh (.int _)⟩
theorem pow_ok : OpR X (binaryOp .Pow) (rV2 X.K p (binop .pow)) := by
  rintro pins s σ H x y v u Q I rx ry ⟨a, b, h, m, rh, ra, rb, hp⟩
  cases a <;> first | exact hp.elim | skip
  cases b <;> first | exact hp.elim | skip
  rename_i i j
  rw [ra.int_inv] at rx
  rw [rb.int_inv] at ry
  obtain ⟨c1, hp⟩ := cnd_post hp
  obtain ⟨c2, hp⟩ := cnd_post hp
  obtain ⟨c3, hp⟩ := cnd_post hp
  rw [ile_eq, decide_eq_true_iff] at c1 c2
  have c3 := lt64_iff.mp c3
  exact op_pow pins s σ H _ _ v u Q I rx ry ⟨i, j, rfl, rfl, ⟨c1, by omega, by omega⟩, hp m H _ rh.refl rh (.int _)⟩
theorem listOf_ref {h : Mem} {n : Nat} {xs : List PV} (e : listOf h (.ref n) = some xs) : h.get n = some (.lst xs) := by
  have e : (match h.get n with
    | some (.lst xs) => some xs
    | _ => none) = some xs := e
  split at e
  · rename_i ys eq
    cases e
    exact eq
  · cases e
theorem listOf_is {h : Mem} {x : PV} {xs : List PV} (e : listOf h x = some xs) : ∃ n, x = .ref n := by
  cases x <;> first | exact ⟨_, rfl⟩ | cases e
/-- the answer is a new tuple -/
theorem post_newT {K : PySem.W.Frag} {E : XK} {h : Mem} {m : Mp} {H : Hp} {xs : List PV} {vs : List V} {Q : VK} {q : Addr} (rh : RH K p.C m h H) (hq : H q = none) (rs : RPs m h.size H xs vs)
    (hp : Post K p RP E h m H (.ok (.tup xs) h) Q) : Q (.ref q) (upd H q (.tup vs)) := by
  obtain ⟨l, rh'⟩ := rh.tmp (u := .tup vs) hq
  exact hp _ _ _ l rh' (.tup upd_same (rs.mono l))
/-- the answer is a new list -/
theorem post_newL {K : PySem.W.Frag} {E : XK} {h : Mem} {m : Mp} {H : Hp} {xs : List PV} {vs : List V} {Q : VK} {q : Addr} (rh : RH K p.C m h H) (hq : H q = none) (rs : RPs m h.size H xs vs)
    (hp : Post K p RP E h m H (.ok (.ref h.size) (h.push (.lst xs))) Q) : Q (.ref q) (upd H q (.lst vs)) := by
  obtain ⟨l, rh'⟩ := rh.newL hq rs
  have r : RP (m.ext h.size q q) (h.push (.lst xs)).size (upd H q (.lst vs)) (.ref h.size) (.ref ((m.ext h.size q q).a h.size)) := .ref (by simp)
  rw [Mp.ext_a] at r
  exact hp _ _ _ l rh' r
theorem mul_ok : OpR X (binaryOp .Mult) (rV2 X.K p (binop .mul)) := by
  rintro pins s σ H x y v u Q I rx ry ⟨a, b, h, m, rh, ra, rb, hp⟩
  cases b <;> first | exact hp.elim | skip
  rename_i j
  rw [rb.int_inv] at ry
  cases a <;> first | exact hp.elim | skip
  · rename_i i
    rw [ra.int_inv] at rx
    replace hp : Post X.K p RP (fun _ _ _ => False) h m H (cnd (lt64 i) (.ok (.int (i * j)) h) (cnd (lt64 j) (.ok (.int (i * j)) h) .bad)) Q := hp
    have fin : ∀ (c : CMul i j), Post X.K p RP (fun _ _ _ => False) h m H (.ok (.int (i * j)) h) Q → wpAny (model X.prog X.w) X.A (binaryOp .Mult v u) (EP X pins σ Q) X.xe s := fun c hp =>
      op_mul pins s σ H _ _ v u Q I rx ry ⟨i, j, rfl, rfl, c, hp m H _ rh.refl rh (.int _)⟩
    cases e : lt64 i with
    | true =>
      rw [e] at hp
      exact fin (.inl (lt64_iff.mp e)) hp
    | false =>
      rw [e] at hp
      obtain ⟨c, hp⟩ := cnd_post hp
      exact fin (.inr (lt64_iff.mp c)) hp
  · rename_i n
    replace hp : Post X.K p RP (fun _ _ _ => False) h m H (match listOf h (.ref n) with
      | some xs => cnd (ile 0 j) (cnd (ilt j 65536) (cnd (fitsN (xs.length * j.toNat)) (.ok (.ref h.size) (h.push (.lst (List.replicate j.toNat xs).flatten))) .bad) .bad) .bad
      | none => .bad) Q := hp
    cases e0 : listOf h (.ref n) with
    | none => rw [e0] at hp; exact hp.elim
    | some xs =>
      rw [e0] at hp
      have e := listOf_ref e0
      obtain ⟨c1, hp⟩ := cnd_post hp
      obtain ⟨c2, hp⟩ := cnd_post hp
      obtain ⟨c3, hp⟩ := cnd_post hp
      rw [ile_eq, decide_eq_true_iff] at c1
      rw [ilt_iff] at c2
      have c3 : xs.length * j.toNat ≤ 65536 := by unfold fitsN at c3; rwa [Nat.ble_eq] at c3
      obtain ⟨d, vs, ev, rs⟩ := rh.obj n _ e
      rw [ra.ref_inv.1] at rx
      have hl := rs.length
      have hsl : sizeLine = 16777216 := by decide
      have hbd : vs.length * j.toNat ≤ sizeLine := by rw [hl, hsl]; omega
      refine op_rep pins s σ H _ _ v u Q I rx ry ⟨m.a n, j, vs, rfl, rfl, ev, by omega, by omega, hbd, fun q hq => ?_⟩
      have rr : RPs m h.size H (List.replicate j.toNat xs).flatten (List.replicate j.toNat vs).flatten := by
        generalize j.toNat = jn
        induction jn with
        | zero => exact .nil
        | succ jn ih =>
          rw [List.replicate_succ, List.replicate_succ, List.flatten_cons, List.flatten_cons]
          exact rs.append ih
      exact post_newL rh hq rr hp
theorem listOf_str {h : Mem} {x : Str} : listOf h (.str x) = none := rfl
theorem add_ok : OpR X (binaryOp .Add) (rV2 X.K p (binop .add)) := by
  rintro pins s σ H x y v u Q I rx ry ⟨a, b, h, m, rh, ra, rb, hp⟩
  cases a <;> first | exact hp.elim | skip
  · rename_i i
    cases b <;> first | exact hp.elim | skip
    rename_i j
    rw [ra.int_inv] at rx
    rw [rb.int_inv] at ry
    exact op_add pins s σ H _ _ v u Q I rx ry ⟨i, j, rfl, rfl, hp m H _ rh.refl rh (.int _)⟩
  · rename_i i
    cases b <;> first | exact hp.elim | skip
    rename_i j
    rw [ra.str_inv] at rx
    rw [rb.str_inv] at ry
    obtain ⟨c1, hp⟩ := cnd_post hp
    have hsl : sizeLine = 16777216 := by decide
    have c1 : i.length + j.length ≤ 65536 := by unfold fitsN at c1; rwa [Nat.ble_eq] at c1
    exact op_add_str pins s σ H _ _ v u Q I rx ry ⟨i, j, rfl, rfl, by omega, hp m H _ rh.refl rh (.str _)⟩
  · rename_i xs
    cases b <;> first | exact hp.elim | skip
    rename_i ys
    obtain ⟨p1, vs, rfl, e1, r1⟩ := ra.tup_inv
    obtain ⟨p2, ws, rfl, e2, r2⟩ := rb.tup_inv
    obtain ⟨c1, hp⟩ := cnd_post hp
    have c1 := fits_le c1
    rw [List.length_append] at c1
    refine op_catA pins s σ H _ _ v u Q I rx ry ⟨p1, p2, vs, ws, rfl, rfl, SqT.of e1, SqT.of e2, by rw [r1.length, r2.length]; exact c1, ?_⟩
    refine ⟨fun z => ?_, fun _ z => ?_, fun _ _ q hq => post_newT rh hq (r1.append r2) hp⟩
    · subst z
      cases r1
      exact hp m H _ rh.refl rh (.tup e2 r2)
    · subst z
      cases r2
      rw [List.append_nil] at hp
      exact hp m H _ rh.refl rh (.tup e1 r1)
  · rename_i n
    replace hp : Post X.K p RP (fun _ _ _ => False) h m H (match listOf h (.ref n) with
      | some xs => match listOf h b with
        | some ys => cnd (fits (xs ++ ys)) (.ok (.ref h.size) (h.push (.lst (xs ++ ys)))) .bad
        | none => .bad
      | none => .bad) Q := hp
    cases e0 : listOf h (.ref n) with
    | none => rw [e0] at hp; exact hp.elim
    | some xs =>
      rw [e0] at hp
      cases e1 : listOf h b with
      | none =>
        simp only [e1] at hp
        exact hp.elim
      | some ys =>
        simp only [e1] at hp
        obtain ⟨n', rfl⟩ := listOf_is e1
        obtain ⟨c1, hp⟩ := cnd_post hp
        have c1 := fits_le c1
        rw [List.length_append] at c1
        obtain ⟨_, vs, ev, rs⟩ := rh.obj n _ (listOf_ref e0)
        obtain ⟨_, ws, ew, rs'⟩ := rh.obj n' _ (listOf_ref e1)
        rw [ra.ref_inv.1] at rx
        rw [rb.ref_inv.1] at ry
        refine op_cat pins s σ H _ _ v u Q I rx ry ⟨m.a n, m.a n', vs, ws, rfl, rfl, ev, ew, by rw [rs.length, rs'.length]; exact c1, fun q hq => ?_⟩
        exact post_newL rh hq (rs.append rs') hp
end
end Ev
end

section
set_option Elab.async false
set_option linter.all false
set_option maxRecDepth 100000
/-! Ev: comparisons, tests. -/
namespace Ev
open PySem PySem.Spec PyProof.Rows L2

section
variable {K : PySem.W.Frag} {p : Pl} {m : Mp} {h : Mem} {H : Hp}
theorem toD_go {f : PV → Option PyData} {z : Nat} (ih : ∀ x v d, RP m z H x v → f x = some d → Dp K H v d) : ∀ {xs : List PV} {vs : List V} {ds : List PyData}, RPs m z H xs vs → toD.go f xs = some ds → DpAll K H vs ds
  | _, _, ds, .nil, e => by
    have e : some [] = some ds := e
    cases e
    exact .nil
  | x :: xs, _, ds, .cons r rs, e => by
    unfold toD.go at e
    cases e1 : f x with
    | none => rw [e1] at e; cases e
    | some d =>
      rw [e1] at e
      cases e2 : toD.go f xs with
      | none => simp only [e2] at e; cases e
      | some es =>
        simp only [e2] at e
        cases e
        exact .cons (ih _ _ _ r e1) (toD_go ih rs e2)
theorem toD_dp (rh : RH K p.C m h H) : ∀ (n : Nat) (x : PV) (v : V) (d : PyData), RP m h.size H x v → toD h n x = some d → Dp K H v d
  | 0, _, _, _, _, e => by cases e
  | n + 1, x, v, d, r, e => by
    have ih := toD_dp rh n
    cases x with
    | non => rw [r.non_inv]; cases e; exact .non
    | bl b => rw [r.bl_inv]; cases e; exact .bl b
    | int i => rw [r.int_inv]; cases e; exact .int i
    | str s => rw [r.str_inv]; cases e; exact .str s
    | tup xs =>
      obtain ⟨a, vs, rfl, ea, rs⟩ := r.tup_inv
      have e : (toD.go (toD h n) xs).map PyData.tuple = some d := e
      cases e1 : toD.go (toD h n) xs with
      | none => rw [e1] at e; cases e
      | some ds =>
        rw [e1] at e
        cases e
        exact .tup (SqT.of ea) (toD_go ih rs e1)
    | ref i =>
      rw [r.ref_inv.1]
      have e : (match h.get i with
        | some (.lst xs) => (toD.go (toD h n) xs).map PyData.list
        | some (.scr xs) => (toD.go (toD h n) xs).map PyData.list
        | _ => none) = some d := e
      have fin : ∀ xs, h.get i = some (.lst xs) ∨ h.get i = some (.scr xs) → (toD.go (toD h n) xs).map PyData.list = some d → Dp K H (.ref (m.a i)) d := fun xs hx e => by
        obtain ⟨vs, hs, rs⟩ := rh.sqL hx
        cases e1 : toD.go (toD h n) xs with
        | none => rw [e1] at e; cases e
        | some ds =>
          rw [e1] at e
          cases e
          exact .lst hs (toD_go ih rs e1)
      split at e
      · rename_i xs hx; exact fin xs (.inl hx) e
      · rename_i xs hx; exact fin xs (.inr hx) e
      · cases e
end
section
variable {X : Cx} {p : Pl}
/-- a comparison by what the evaluator says -/
def rC (K : PySem.W.Frag) (p : Pl) (f : PV → PV → Mem → Option Bool) : R2 := fun x y H Q => ∃ (a b : PV) (h : Mem) (m : Mp) (c : Bool), RH K p.C m h H ∧ RP m h.size H a x ∧ RP m h.size H b y ∧ f a b h = some c ∧ Q (.bl c) H
theorem eqv_some {h : Mem} {x y : PV} {c : Bool} (e : eqv h x y = some c) : ∃ d d', toD h 8 x = some d ∧ toD h 8 y = some d' ∧ SeqAt.shaped d = true ∧ SeqAt.shaped d' = true ∧ c = PyData.eqv d d' := by
  unfold eqv at e
  cases e1 : toD h 8 x with
  | none => rw [e1] at e; cases e
  | some d =>
    cases e2 : toD h 8 y with
    | none => rw [e1] at e; simp only [e2] at e; cases e
    | some d' =>
      rw [e1] at e
      simp only [e2] at e
      cases s1 : SeqAt.shaped d with
      | false => rw [s1] at e; cases e
      | true =>
        cases s2 : SeqAt.shaped d' with
        | false => rw [s1, s2] at e; cases e
        | true =>
          rw [s1, s2] at e
          exact ⟨d, d', rfl, rfl, s1, s2, (Option.some.inj e).symm⟩
theorem eq_ok (hu : X.A.units + 64 < cLine) : OpR X (compareOp .Eq) (rC X.K p (cmpop .eq)) := by
  rintro pins s σ H x y v u Q I rx ry ⟨a, b, h, m, c, rh, ra, rb, e, q⟩
  obtain ⟨d, d', e1, e2, s1, s2, rfl⟩ := eqv_some e
  exact op_eqD hu pins s σ H x y v u Q I rx ry ⟨d, d', toD_dp rh _ _ _ _ ra e1, toD_dp rh _ _ _ _ rb e2, s1, s2, q⟩
theorem onot_some {o : Option Bool} {c : Bool} (e : onot o = some c) : ∃ b, o = some b ∧ c = !b := by
  cases o with
  | none => cases e
  | some b =>
    have e : some (bnot b) = some c := e
    rw [bnot_eq] at e
    exact ⟨b, rfl, (Option.some.inj e).symm⟩
theorem ne_ok (hu : X.A.units + 64 < cLine) : OpR X (compareOp .NotEq) (rC X.K p (cmpop .ne)) := by
  rintro pins s σ H x y v u Q I rx ry ⟨a, b, h, m, c, rh, ra, rb, e, q⟩
  obtain ⟨c', e', rfl⟩ := onot_some e
  obtain ⟨d, d', e1, e2, s1, s2, rfl⟩ := eqv_some e'
  exact op_neD hu pins s σ H x y v u Q I rx ry ⟨d, d', toD_dp rh _ _ _ _ ra e1, toD_dp rh _ _ _ _ rb e2, s1, s2, q⟩
theorem icmp_some {f : Int → Int → Bool} {x y : PV} {c : Bool} (e : icmp f x y = some c) : ∃ i j, x = .int i ∧ y = .int j ∧ c = f i j := by
  cases x <;> first | cases e | skip
  rename_i i
  cases y <;> first | cases e | skip
  rename_i j
  exact ⟨i, j, rfl, rfl, rfl⟩
theorem intsOf_ok {m : Mp} {z : Nat} {H : Hp} : ∀ {xs : List PV} {vs : List V} {is : List Int}, RPs m z H xs vs → intsOf xs = some is → vs = is.map V.int
  | [], _, is, .nil, e => by cases e; rfl
  | x :: xs, _, is, .cons r rs, e => by
    cases x <;> first | cases e | skip
    rename_i i
    cases e1 : intsOf xs with
    | none => simp only [intsOf, e1] at e; cases e
    | some js =>
      simp only [intsOf, e1] at e
      cases e
      rw [r.int_inv, intsOf_ok rs e1]
      rfl
theorem lt_ok (hu : X.A.units < cLine) : OpR X (compareOp .Lt) (rC X.K p (cmpop .lt)) := by
  rintro pins s σ H x y v u Q I rx ry ⟨a, b, h, m, c, rh, ra, rb, e, q⟩
  replace e : ltV a b = some c := e
  cases a <;> first | (cases e; done) | skip
  · rename_i i0
    replace e : icmp ilt (.int i0) b = some c := e
    obtain ⟨i, j, e1, rfl, rfl⟩ := icmp_some e
    cases e1
    rw [ra.int_inv] at rx
    rw [rb.int_inv] at ry
    exact op_lt pins s σ H _ _ v u Q I rx ry ⟨i0, j, rfl, rfl, by show Q (V.bl (decide (i0 < j))) H; rw [← ilt_eq]; exact q⟩
  · rename_i xs
    cases b <;> first | (cases e; done) | skip
    rename_i ys
    replace e : (match intsOf xs with
      | some is => match intsOf ys with
        | some js => some (HT.lexLt is js)
        | none => none
      | none => none) = some c := e
    cases e1 : intsOf xs with
    | none => rw [e1] at e; cases e
    | some is =>
      rw [e1] at e
      cases e2 : intsOf ys with
      | none => simp only [e2] at e; cases e
      | some js =>
        simp only [e2] at e
        cases e
        obtain ⟨a1, vs, rfl, ea, rs⟩ := ra.tup_inv
        obtain ⟨a2, ws, rfl, eb, rs'⟩ := rb.tup_inv
        rw [intsOf_ok rs e1] at ea
        rw [intsOf_ok rs' e2] at eb
        exact op_ltT hu pins s σ H _ _ v u Q I rx ry ⟨a1, a2, is, js, rfl, rfl, SqT.of ea, SqT.of eb, q⟩
theorem le_ok : OpR X (compareOp .LtE) (rC X.K p (cmpop .le)) := by
  rintro pins s σ H x y v u Q I rx ry ⟨a, b, h, m, c, rh, ra, rb, e, q⟩
  obtain ⟨i, j, rfl, rfl, rfl⟩ := icmp_some e
  rw [ra.int_inv] at rx
  rw [rb.int_inv] at ry
  exact op_le pins s σ H _ _ v u Q I rx ry ⟨i, j, rfl, rfl, by show Q (V.bl (decide (i ≤ j))) H; rw [← ile_eq]; exact q⟩
theorem gt_ok : OpR X (compareOp .Gt) (rC X.K p (cmpop .gt)) := by
  rintro pins s σ H x y v u Q I rx ry ⟨a, b, h, m, c, rh, ra, rb, e, q⟩
  obtain ⟨i, j, rfl, rfl, rfl⟩ := icmp_some e
  rw [ra.int_inv] at rx
  rw [rb.int_inv] at ry
  exact op_gt pins s σ H _ _ v u Q I rx ry ⟨i, j, rfl, rfl, by show Q (V.bl (decide (j < i))) H; rw [← ilt_eq]; exact q⟩
theorem ge_ok : OpR X (compareOp .GtE) (rC X.K p (cmpop .ge)) := by
  rintro pins s σ H x y v u Q I rx ry ⟨a, b, h, m, c, rh, ra, rb, e, q⟩
  obtain ⟨i, j, rfl, rfl, rfl⟩ := icmp_some e
  rw [ra.int_inv] at rx
  rw [rb.int_inv] at ry
  exact op_ge pins s σ H _ _ v u Q I rx ry ⟨i, j, rfl, rfl, by show Q (V.bl (decide (j ≤ i))) H; rw [← ile_eq]; exact q⟩
theorem RP.non_iff {m : Mp} {z : Nat} {H : Hp} {x : PV} {v : V} (r : RP m z H x v) : isNon x = decide (v = .non) := by
  cases r <;> simp [isNon]
theorem is_ok : OpR X (compareOp .Is) (rC X.K p (cmpop .is_)) := by
  rintro pins s σ H x y v u Q I rx ry ⟨a, b, h, m, c, rh, ra, rb, e, q⟩
  replace e : isV a b = some c := e
  cases b <;> first | (cases e; done) | skip
  · rw [rb.non_inv] at ry
    have : c = decide (x = .non) := by
      rw [← ra.non_iff]
      exact (Option.some.inj e).symm
    subst this
    exact op_isN pins s σ H _ _ v u Q I rx ry ⟨rfl, q⟩
  · rename_i b
    cases a <;> first | (cases e; done) | skip
    rename_i a
    rw [ra.bl_inv] at rx
    rw [rb.bl_inv] at ry
    have : c = decide (a = b) := by
      rw [← beqB_eq]
      exact (Option.some.inj e).symm
    subst this
    exact op_is_bl pins s σ H _ _ v u Q I rx ry ⟨a, b, rfl, rfl, q⟩
theorem isnot_ok : OpR X (compareOp .IsNot) (rC X.K p (cmpop .isnot)) := by
  rintro pins s σ H x y v u Q I rx ry ⟨a, b, h, m, c, rh, ra, rb, e, q⟩
  obtain ⟨c', e', rfl⟩ := onot_some e
  clear e
  have e : isV a b = some c' := e'
  clear e'
  cases b <;> first | (cases e; done) | skip
  · rw [rb.non_inv] at ry
    have : c' = decide (x = .non) := by
      rw [← ra.non_iff]
      exact (Option.some.inj e).symm
    subst this
    exact op_notN pins s σ H _ _ v u Q I rx ry ⟨rfl, q⟩
  · rename_i b
    cases a <;> first | (cases e; done) | skip
    rename_i a
    rw [ra.bl_inv] at rx
    rw [rb.bl_inv] at ry
    have : c' = decide (a = b) := by
      rw [← beqB_eq]
      exact (Option.some.inj e).symm
    subst this
    exact op_isnot_bl pins s σ H _ _ v u Q I rx ry ⟨a, b, rfl, rfl, q⟩
end

/-! ### dicts: what is under a key -/
section
variable {m : Mp} {z : Nat} {H : Hp}
end
section
variable {X : Cx} {p : Pl}
theorem inL_some {h : Mem} {x : PV} {xs : List PV} {c : Bool} (e : inL h x xs = some c) : ∃ d ds, toD h 8 x = some d ∧ toD.go (toD h 7) xs = some ds ∧ SeqAt.shaped d = true ∧ SeqAt.shaped (.list ds) = true ∧ c = ds.any fun z => PyData.eqv z d := by
  unfold inL at e
  cases e1 : toD h 8 x with
  | none => rw [e1] at e; cases e
  | some d =>
    cases e2 : toD.go (toD h 7) xs with
    | none => rw [e1] at e; simp only [e2] at e; cases e
    | some ds =>
      rw [e1] at e
      simp only [e2] at e
      cases s1 : SeqAt.shaped d with
      | false => rw [s1] at e; cases e
      | true =>
        cases s2 : SeqAt.shaped (.list ds) with
        | false => rw [s1, s2] at e; cases e
        | true =>
          rw [s1, s2] at e
          exact ⟨d, ds, rfl, rfl, s1, s2, (Option.some.inj e).symm⟩
theorem in_core (hu : X.A.units + 65 < cLine) {pins : List (Addr × Obj)} {s : Shared} {σ : L2.St} {H : Hp} {x y : V} {v u : Value} {a b : PV} {h : Mem} {m : Mp} {c : Bool} {neg : Bool} {Q : VK} (I : L2.Inv X pins σ H s) (rx : RelV x v) (ry : RelV y u)
    (rh : RH X.K p.C m h H) (ra : RP m h.size H a x) (rb : RP m h.size H b y) (e : inV h a b = some c) (q : Q (.bl (if neg then !c else c)) H) : wpAny (model X.prog X.w) X.A (compareOp (if neg then .NotIn else .In) v u) (EP X pins σ Q) X.xe s := by
  cases b <;> first | (cases e; done) | skip
  rename_i i
  rw [rb.ref_inv.1] at ry
  replace e : (match h.get i with
    | some (.lst xs) => inL h a xs
    | some (.dic kvs) => inD a kvs
    | _ => none) = some c := e
  split at e
  · rename_i xs hx
    obtain ⟨d, ds, e1, e2, s1, s2, rfl⟩ := inL_some e
    obtain ⟨_, vs, ev, rs⟩ := rh.obj i _ hx
    have dd : Dp X.K H (.ref (m.a i)) (.list ds) := .lst (SqL.of ev) (toD_go (toD_dp rh 7) rs e2)
    cases neg with
    | false => exact op_inD hu pins s σ H _ _ v u Q I rx ry ⟨d, ds, toD_dp rh _ _ _ _ ra e1, dd, s1, s2, q⟩
    | true => exact op_notInD hu pins s σ H _ _ v u Q I rx ry ⟨d, ds, toD_dp rh _ _ _ _ ra e1, dd, s1, s2, q⟩
  · rename_i kvs hx
    have ke : (a = .non ∧ noneFree kvs = true ∧ c = false) ∨ cnd (isTKey a) (some (match dlook a kvs with | some _ => true | none => false)) none = some c := by
      unfold inD at e
      cases a <;> first | exact .inr e | skip
      cases nf : noneFree kvs with
      | true => rw [nf] at e; cases e; exact .inl ⟨rfl, rfl, rfl⟩
      | false => rw [nf] at e; cases e
    rcases ke with ⟨ea, nf, ec⟩ | e
    · subst ea ec
      rw [ra.non_inv] at rx
      obtain rfl : v = Value.none := rx
      obtain rfl : u = Value.ref (m.a i) := ry
      cases neg with
      | false => exact kd_inNone (by omega) I rh hx nf fun s' I' => ⟨.bl false, H, I', rfl, q⟩
      | true => exact kd_notInNone (by omega) I rh hx nf fun s' I' => ⟨.bl true, H, I', rfl, q⟩
    cases et : isTKey a with
    | false => rw [et] at e; cases e
    | true =>
      rw [et] at e
      obtain ⟨ks, ek⟩ := isTKey_ok et
      obtain ⟨bb, rfl⟩ := key_ref ra ek
      have hc : c = (dlook a kvs).isSome := by
        have e : some (match dlook a kvs with | some _ => true | none => false) = some c := e
        cases e
        cases dlook a kvs <;> rfl
      subst hc
      obtain rfl : u = Value.ref (m.a i) := ry
      obtain rfl : v = Value.ref bb := rx
      cases neg with
      | false => exact kd_in (by omega) I rh hx ra ek fun s' I' => ⟨.bl (dlook a kvs).isSome, H, I', rfl, q⟩
      | true => exact kd_notIn (by omega) I rh hx ra ek fun s' I' => ⟨.bl (!(dlook a kvs).isSome), H, I', rfl, q⟩
  · cases e
theorem in_ok (hu : X.A.units + 65 < cLine) : OpR X (compareOp .In) (rC X.K p (cmpop .in_)) := by
  rintro pins s σ H x y v u Q I rx ry ⟨a, b, h, m, c, rh, ra, rb, e, q⟩
  exact in_core (p := p) (neg := false) hu I rx ry rh ra rb e q
theorem notin_ok (hu : X.A.units + 65 < cLine) : OpR X (compareOp .NotIn) (rC X.K p (cmpop .notin)) := by
  rintro pins s σ H x y v u Q I rx ry ⟨a, b, h, m, c, rh, ra, rb, e, q⟩
  obtain ⟨c', e', rfl⟩ := onot_some e
  exact in_core (p := p) (neg := true) hu I rx ry rh ra rb e' q
/-- each operator of comparisons -/
def coOf : CmpOp → Option CO
  | .Eq => some .eq
  | .NotEq => some .ne
  | .Lt => some .lt
  | .LtE => some .le
  | .Gt => some .gt
  | .GtE => some .ge
  | .Is => some .is_
  | .IsNot => some .isnot
  | .In => some .in_
  | .NotIn => some .notin
theorem cmp_ok (hu : X.A.units + 65 < cLine) {op : CmpOp} {o : CO} (e : coOf op = some o) : OpR X (compareOp op) (rC X.K p (cmpop o)) := by
  cases op <;> cases e
  · exact eq_ok (by omega)
  · exact ne_ok (by omega)
  · exact lt_ok (by omega)
  · exact le_ok
  · exact gt_ok
  · exact ge_ok
  · exact is_ok
  · exact isnot_ok
  · exact in_ok hu
  · exact notin_ok hu
end
end Ev
end

section
set_option Elab.async false
set_option linter.all false
set_option maxRecDepth 100000
/-! Ev: comparisons, bools, displays, subscripts. -/
namespace Ev
open PySem PySem.Spec PyProof.Rows L2

section
variable {G : GT} {p : Pl} {sc : Sc} {a b d : Expr} {fa fb fd : XE} {pos : Pos}
theorem hu_cx {k : Nat} {W : WX} {X : Cx} (cx : ECx G p k sc W X) : X.A.units + 200 < cLine := by
  have := cx.room.un
  omega
theorem ofO_post {K : PySem.W.Frag} {α β : Type} {R : Mp → Nat → Hp → α → β → Prop} {E : XK} {h h' : Mem} {m : Mp} {H : Hp} {o : Option α} {Q : β → Hp → Prop} (hp : Post K p R E h m H (ofO o h') Q) : ∃ c, o = some c ∧ Post K p R E h m H (.ok c h') Q := by
  cases o with
  | none => exact hp.elim
  | some c => exact ⟨c, rfl, hp⟩
theorem map_bl {o : Option Bool} {x : PV} (e : o.map PV.bl = some x) : ∃ c, o = some c ∧ x = .bl c := by
  cases o with
  | none => cases e
  | some c => cases e; exact ⟨c, rfl, rfl⟩
/-- two values compared -/
theorem cmp_read {K : PySem.W.Frag} {W : WX} {c : Calls} {o : CO} {σ : L2.St} {H : Hp} {s : Env} {h : Mem} {m : Mp} {Q : VK} (rh : RH K p.C m h H) (re : RE m h.size H s σ)
    (hp : Post K p RP (fun cls d H' => W cls d σ H') h m H (eCmp o fa fb c s h) Q) : tOp (rC K p (cmpop o)) (teOf K p W c fa) (teOf K p W c fb) σ H Q := by
  refine te_bind rh re hp fun v H1 x h1 m1 l1 rh1 re1 ra hp1 => ?_
  refine te_bind rh1 re1 hp1 fun u H2 y h2 m2 l2 rh2 re2 rb hp2 => ?_
  obtain ⟨w, e0, hp2⟩ := ofO_post hp2
  obtain ⟨c, e, rfl⟩ := map_bl e0
  exact ⟨x, y, h2, m2, c, rh2, ra.mono l2, rb, e, hp2 m2 H2 _ rh2.refl rh2 (.bl c)⟩
theorem se_cmp {op : CmpOp} {o : CO} (eo : coOf op = some o) (ha : SE G p sc a fa) (hb : SE G p sc b fb) (hm : behindInMarks op b = false) : SE G p sc (.Compare a [op] [b] pos) (eCmp o fa fb) := fun k W X cx =>
  PE.imp (pe_cmpR (cmp_ok (p := p) (by have := hu_cx cx; omega) eo) (ha k W X cx) (hb k W X cx) hm) fun σ H Q ⟨s, h, m, rh, re, hp⟩ => cmp_read rh re hp
theorem tE_post {K : PySem.W.Frag} {E : XK} {h : Mem} {m : Mp} {H : Hp} {r : Res PV} {Q : Bool → Hp → Prop} (hp : Post K p RB E h m H (r.bind fun x h1 => match x with
    | .bl b => .ok b h1
    | _ => .bad) Q) : Post K p RP E h m H r (fun v H' => ∃ c, v = .bl c ∧ Q c H') :=
  hp.bind' fun v H1 x h1 m1 l rh1 rx hp1 => by
    cases x <;> first | exact hp1.elim | skip
    rename_i c
    exact ⟨c, rx.bl_inv, hp1 m1 H1 c rh1.refl rh1 rfl⟩
theorem st_cmp {op : CmpOp} {o : CO} (eo : coOf op = some o) (ha : SE G p sc a fa) (hb : SE G p sc b fb) (hm : behindInMarks op b = false) : ST G p sc (.Compare a [op] [b] pos) (tE (eCmp o fa fb)) := fun k W X cx =>
  PT.imp (pt_cmpR (cmp_ok (p := p) (by have := hu_cx cx; omega) eo) (ha k W X cx) (hb k W X cx) hm) fun σ H Q ⟨s, h, m, rh, re, hp⟩ => cmp_read rh re (tE_post hp)
theorem st_val {e : Expr} {f : XE} (he : ∀ (X : Cx) whole, isTrue e X.env whole = (do let v ← whole; standAt e.pos; holding [v] (truthy v))) (h : SE G p sc e f) : ST G p sc e (tE f) := fun k W X cx =>
  PT.imp (pt_val (h k W X cx) (he X)) fun σ H Q ⟨s, h, m, rh, re, hp⟩ => ⟨s, h, m, rh, re, tE_post hp⟩
/-- a < b < d -/
theorem chain_read {K : PySem.W.Frag} {W : WX} {c : Calls} {o o' : CO} {σ : L2.St} {H : Hp} {s : Env} {h : Mem} {m : Mp} {Q : VK} (rh : RH K p.C m h H) (re : RE m h.size H s σ)
    (hp : Post K p RP (fun cls d H' => W cls d σ H') h m H (eChain o o' fa fb fd c s h) Q) : tChain (rC K p (cmpop o)) (rC K p (cmpop o')) (teOf K p W c fa) (teOf K p W c fb) (teOf K p W c fd) σ H Q := by
  refine te_bind rh re hp fun v H1 x h1 m1 l1 rh1 re1 ra hp1 => ?_
  refine te_bind rh1 re1 hp1 fun u H2 y h2 m2 l2 rh2 re2 rb hp2 => ?_
  cases e : cmpop o x y h2 with
  | none => simp only [e] at hp2; exact hp2.elim
  | some t =>
    simp only [e] at hp2
    refine ⟨x, y, h2, m2, t, rh2, ra.mono l2, rb, e, t, rfl, ?_⟩
    cases t with
    | false => exact hp2 m2 H2 _ rh2.refl rh2 (.bl false)
    | true =>
      refine te_bind rh2 re2 hp2 fun w H3 z h3 m3 l3 rh3 re3 rz hp3 => ?_
      obtain ⟨w', e0, hp3⟩ := ofO_post hp3
      obtain ⟨c, e', rfl⟩ := map_bl e0
      exact ⟨y, z, h3, m3, c, rh3, rb.mono l3, rz, e', hp3 m3 H3 _ rh3.refl rh3 (.bl c)⟩
theorem se_chain {op op' : CmpOp} {o o' : CO} (eo : coOf op = some o) (eo' : coOf op' = some o') (ha : SE G p sc a fa) (hb : SE G p sc b fb) (hd : SE G p sc d fd) (hm : behindInMarks op b = false) (hm' : behindInMarks op' d = false) :
    SE G p sc (.Compare a [op, op'] [b, d] pos) (eChain o o' fa fb fd) := fun k W X cx =>
  PE.imp (pe_chain (cmp_ok (p := p) (by have := hu_cx cx; omega) eo) (cmp_ok (p := p) (by have := hu_cx cx; omega) eo') (ha k W X cx) (hb k W X cx) (hd k W X cx) (by exact hm')) fun σ H Q ⟨s, h, m, rh, re, hp⟩ => chain_read rh re hp
theorem st_chain {op op' : CmpOp} {o o' : CO} (eo : coOf op = some o) (eo' : coOf op' = some o') (ha : SE G p sc a fa) (hb : SE G p sc b fb) (hd : SE G p sc d fd) (hm : behindInMarks op b = false) (hm' : behindInMarks op' d = false) :
    ST G p sc (.Compare a [op, op'] [b, d] pos) (tE (eChain o o' fa fb fd)) := fun k W X cx =>
  PT.imp (pt_chain (cmp_ok (p := p) (by have := hu_cx cx; omega) eo) (cmp_ok (p := p) (by have := hu_cx cx; omega) eo') (ha k W X cx) (hb k W X cx) (hd k W X cx) (by exact hm')) fun σ H Q ⟨s, h, m, rh, re, hp⟩ => chain_read rh re (tE_post hp)

/-! ### and, or, not, if -/
def SW (G : GT) (p : Pl) (sc : Sc) (e : Expr) (f : XT) : Prop := ∀ k W X, ECx G p k sc W X → PW X e (ttOf X.K p W (callD G.tab k) f)
theorem PW.imp {X : Cx} {e : Expr} {t t' : TT} (h : PW X e t) (k : ∀ σ H Q, t' σ H Q → t σ H Q) : PW X e t' := ⟨fun wh pins s σ H Q I hq => h.run wh pins s σ H Q I (k σ H Q hq)⟩
theorem sw_one {op : BoolOp} {t : XT} (h : ST G p sc a t) : SW G p sc (.BoolOp op [a] pos) t := fun k W X cx => by
  cases op with
  | And => exact pw_and1 (h k W X cx)
  | Or => exact pw_or1 (h k W X cx)
theorem sw_and {t u : XT} {rest : List Expr} (ha : ST G p sc a t) (hb : SW G p sc (.BoolOp .And (b :: rest) pos) u) : SW G p sc (.BoolOp .And (a :: b :: rest) pos) (tAnd t u) := fun k W X cx =>
  PW.imp (pw_and (ha k W X cx) (hb k W X cx)) fun σ H Q ⟨s, h, m, rh, re, hp⟩ => tt_bind rh re hp fun v H1 h1 m1 l1 rh1 re1 hp1 => by
    cases v with
    | true => exact ⟨s, h1, m1, rh1, re1, hp1⟩
    | false => exact hp1 m1 H1 false rh1.refl rh1 rfl
theorem sw_or {t u : XT} {rest : List Expr} (ha : ST G p sc a t) (hb : SW G p sc (.BoolOp .Or (b :: rest) pos) u) : SW G p sc (.BoolOp .Or (a :: b :: rest) pos) (tOr t u) := fun k W X cx =>
  PW.imp (pw_or (ha k W X cx) (hb k W X cx)) fun σ H Q ⟨s, h, m, rh, re, hp⟩ => tt_bind rh re hp fun v H1 h1 m1 l1 rh1 re1 hp1 => by
    cases v with
    | false => exact ⟨s, h1, m1, rh1, re1, hp1⟩
    | true => exact hp1 m1 H1 true rh1.refl rh1 rfl
theorem st_w {e : Expr} {t : XT} (h : SW G p sc e t) : ST G p sc e t := fun k W X cx => (h k W X cx).pt
theorem st_not {t : XT} (h : ST G p sc a t) : ST G p sc (.UnaryOp .Not a pos) (tNot t) := fun k W X cx =>
  PT.imp (pt_not (h k W X cx)) fun σ H Q ⟨s, h, m, rh, re, hp⟩ => tt_bind rh re hp fun v H1 h1 m1 l1 rh1 re1 hp1 => hp1 m1 H1 _ rh1.refl rh1 (by show bnot v = !v; exact bnot_eq v)
theorem se_one {op : BoolOp} (h : SE G p sc a fa) : SE G p sc (.BoolOp op [a] pos) fa := fun k W X cx => pe_one (h k W X cx)
theorem se_and {rest : List Expr} (ha : SE G p sc a fa) (hb : SE G p sc (.BoolOp .And (b :: rest) pos) fb) : SE G p sc (.BoolOp .And (a :: b :: rest) pos) (eAnd fa fb) := fun k W X cx =>
  PE.imp (pe_and (ha k W X cx) (hb k W X cx)) fun σ H Q ⟨s, h, m, rh, re, hp⟩ => te_bind rh re hp fun v H1 x h1 m1 l1 rh1 re1 ra hp1 => by
    cases x <;> first | exact hp1.elim | skip
    rename_i t
    refine ⟨t, ra.bl_inv, ?_⟩
    cases t with
    | true => exact ⟨s, h1, m1, rh1, re1, hp1⟩
    | false => exact hp1 m1 H1 _ rh1.refl rh1 (.bl false)
theorem se_or {rest : List Expr} (ha : SE G p sc a fa) (hb : SE G p sc (.BoolOp .Or (b :: rest) pos) fb) : SE G p sc (.BoolOp .Or (a :: b :: rest) pos) (eOr fa fb) := fun k W X cx =>
  PE.imp (pe_or (ha k W X cx) (hb k W X cx)) fun σ H Q ⟨s, h, m, rh, re, hp⟩ => te_bind rh re hp fun v H1 x h1 m1 l1 rh1 re1 ra hp1 => by
    cases x <;> first | exact hp1.elim | skip
    rename_i t
    refine ⟨t, ra.bl_inv, ?_⟩
    cases t with
    | true => exact hp1 m1 H1 _ rh1.refl rh1 (.bl true)
    | false => exact ⟨s, h1, m1, rh1, re1, hp1⟩
theorem se_not (ha : SE G p sc a fa) : SE G p sc (.UnaryOp .Not a pos) (eNot fa) := fun k W X cx =>
  PE.imp (pe_not (ha k W X cx)) fun σ H Q ⟨s, h, m, rh, re, hp⟩ => te_bind rh re hp fun v H1 x h1 m1 l1 rh1 re1 ra hp1 => by
    cases x <;> first | exact hp1.elim | skip
    rename_i t
    refine ⟨t, ra.bl_inv, ?_⟩
    have r := hp1 m1 H1 (.bl (!t)) rh1.refl rh1
    rw [bnot_eq] at r
    exact r (.bl _)
theorem se_neg {i : Int} {j : Nat} {pos' : Pos} : SE G p sc (.UnaryOp .USub (.Constant (.int i) j pos') pos) (eC (.int (-i))) := fun k W X cx =>
  PE.imp (pe_un un_neg pe_int) fun σ H Q ⟨s, h, m, rh, re, hp⟩ => ⟨i, rfl, hp m H _ rh.refl rh (.int _)⟩
theorem se_if {c : Expr} {t : XT} (hc : ST G p sc c t) (ha : SE G p sc a fa) (hb : SE G p sc b fb) : SE G p sc (.IfExp c a b pos) (eIf t fa fb) := fun k W X cx =>
  PE.imp (pe_ifExp (hc k W X cx) (ha k W X cx) (hb k W X cx)) fun σ H Q ⟨s, h, m, rh, re, hp⟩ => tt_bind rh re hp fun v H1 h1 m1 l1 rh1 re1 hp1 => by
    cases v with
    | true => exact ⟨s, h1, m1, rh1, re1, hp1⟩
    | false => exact ⟨s, h1, m1, rh1, re1, hp1⟩

/-! ### argument lists, displays -/
def notStar : Expr → Bool
  | .Starred _ _ => false
  | _ => true
theorem star_no {e : Expr} {es : List Expr} {env : PySem.Env} (h : notStar e = true) : starEach (e :: es) env = (false, eval e env) :: starEach es env := by
  cases e <;> first | rfl | cases h
def noStars : List Expr → Bool
  | [] => true
  | e :: es => match notStar e with | true => noStars es | false => false
theorem noStars_cons {e : Expr} {es : List Expr} (h : noStars (e :: es) = true) : notStar e = true ∧ noStars es = true := by
  unfold noStars at h
  cases q : notStar e with
  | true => rw [q] at h; exact ⟨rfl, h⟩
  | false => rw [q] at h; cases h
theorem stars_plain {pos : Pos} {env : PySem.Env} : ∀ {es : List Expr}, noStars es = true → (backTo pos (starEach es env)).any (·.1) = false
  | [], _ => rfl
  | e :: es, h => by
    obtain ⟨h1, h2⟩ := noStars_cons h
    rw [star_no h1]
    show (false || (backTo pos (starEach es env)).any (·.1)) = false
    rw [stars_plain h2]
    rfl
theorem sa_nil : SA G p sc [] aNil := fun k W X cx => PA.imp pa_nil fun σ H Q ⟨s, h, m, rh, re, hp⟩ => hp m H _ rh.refl rh .nil
theorem sa_cons {es : List Expr} {l : XA} (hs : notStar a = true) (ha : SE G p sc a fa) (hr : SA G p sc es l) : SA G p sc (a :: es) (aCons fa l) := fun k W X cx =>
  PA.imp (pa_cons (ha k W X cx) (hr k W X cx) (star_no hs)) fun σ H Q ⟨s, h, m, rh, re, hp⟩ => te_bind rh re hp fun v H1 x h1 m1 l1 rh1 re1 ra hp1 =>
    ta_bind rh1 re1 hp1 fun vs H2 xs h2 m2 l2 rh2 re2 rs hp2 => hp2 m2 H2 _ rh2.refl rh2 (.cons (ra.mono l2) rs)
theorem se_tup {es : List Expr} {l : XA} {x1} (h : SA G p sc es l) : SE G p sc (.Tuple es x1 pos) (eTup l) := fun k W X cx =>
  PE.imp (pe_tup (h k W X cx)) fun σ H Q ⟨s, h, m, rh, re, hp⟩ => ta_bind rh re hp fun vs H1 xs h1 m1 l1 rh1 re1 rs hp1 => by
    obtain ⟨c, hp1⟩ := cnd_post hp1
    exact ⟨by rw [rs.length]; exact fits_le c, fun q hq => post_newT rh1 hq rs hp1⟩
end

/-! ### new lists -/
/-- behind an expression that makes a new list: it stands at a, which no one knows -/
def PostL (K : PySem.W.Frag) (p : Pl) (E : XK) (h : Mem) (m : Mp) (H : Hp) (r : Res (List PV)) (Q : VK) : Prop := match r with
  | .ok xs h' => ∀ m' H' a vs, Le h m H h' m' H' → RH K p.C m' h' H' → H a = none → H' a = some (.lst vs) → (∀ n, n < h'.size → a ≠ m'.a n ∧ a ≠ m'.d n) → RPs m' h'.size H' xs vs → Q (.ref a) H'
  | .err x h' => ∀ m' H' cls d, Le h m H h' m' H' → RH K p.C m' h' H' → RX p m' h'.size H' x cls d → E cls d H'
  | .bad => False
def tnOf (K : PySem.W.Frag) (p : Pl) (W : WX) (c : Calls) (f : XA) : TE := fun σ H Q => ∃ s h m, RH K p.C m h H ∧ RE m h.size H s σ ∧ PostL K p (fun cls d H' => W cls d σ H') h m H (f c s h) Q
/-- an expression that makes a new list -/
def SN (G : GT) (p : Pl) (sc : Sc) (e : Expr) (f : XA) : Prop := ∀ k W X, ECx G p k sc W X → PE X e (tnOf X.K p W (callD G.tab k) f)
theorem Le.fresh {h h' : Mem} {m m' : Mp} {H H' : Hp} (l : Le h m H h' m' H') {a : Addr} (e : H' a = none) : H a = none := by
  cases q : H a with
  | none => rfl
  | some o =>
    exfalso
    by_cases k : ∀ n, n < h.size → a ≠ m.a n ∧ a ≠ m.d n
    · rw [l.frame a o q k] at e; cases e
    · apply k
      intro j hj
      exact ⟨fun w => (l.old j hj).1 (by rw [← w]; exact e), fun w => (l.old j hj).2 (by rw [← w]; exact e)⟩
section
variable {K : PySem.W.Frag} {p : Pl} {E : XK} {h h' : Mem} {m m' : Mp} {H H' : Hp} {xs : List PV} {vs : List V} {a : Addr}
/-- the memory takes a list that no one knew -/
theorem Le.adopt (l : Le h m H h' m' H') (rh : RH K p.C m' h' H') (hn : H a = none) (e : H' a = some (.lst vs)) (na : ∀ n, n < h'.size → a ≠ m'.a n ∧ a ≠ m'.d n) (rs : RPs m' h'.size H' xs vs) :
    Le h m H (h'.push (.lst xs)) (m'.ext h'.size a a) H' ∧ RH K p.C (m'.ext h'.size a a) (h'.push (.lst xs)) H' := by
  have kp : ∀ n, n < h'.size → (m'.ext h'.size a a).a n = m'.a n ∧ (m'.ext h'.size a a).d n = m'.d n := fun n hn => ⟨Mp.ext_a_ne (by omega), Mp.ext_d_ne (by omega)⟩
  -- a step that leaves the heap as it is
  have st : Lw h'.size m' H' (h'.push (.lst xs)).size (m'.ext h'.size a a) H' := ⟨by rw [Mem.size_push]; omega, kp, fun _ _ e => e⟩
  refine ⟨⟨Nat.le_trans l.le (by rw [Mem.size_push]; omega), l.lk, l.ld, fun n hn => (Mem.get_push_old _ (rh.lok n (by rw [l.lk]; exact hn))).trans (l.lkd n hn), l.lkh, fun n hn => ?_, l.frame, l.tups, fun n h1 h2 => ?_, l.old⟩, fun n hn => ?_, fun n o e' => ?_, fun i j hi hj ne => ?_, fun n hn => Nat.lt_succ_of_lt (rh.lok n hn), fun n hn => Nat.lt_succ_of_lt (rh.lod n hn)⟩
  · have q := kp n (Nat.lt_of_lt_of_le hn l.le)
    rw [q.1, q.2]
    exact l.keep n hn
  · rw [Mem.size_push] at h2
    by_cases q : n = h'.size
    · subst q
      rw [Mp.ext_a, Mp.ext_d]
      exact ⟨hn, hn⟩
    · have q' := kp n (by omega)
      rw [q'.1, q'.2]
      exact l.new n h1 (by omega)
  · rw [Mem.size_push] at hn
    by_cases q : n = h'.size
    · subst q; exact ⟨_, Mem.get_push_new _ _⟩
    · obtain ⟨o, eo⟩ := rh.all n (by omega)
      exact ⟨o, Mem.get_push eo⟩
  · by_cases q : n = h'.size
    · subst q
      rw [Mem.get_push_new] at e'
      cases e'
      exact ⟨by rw [Mp.ext_a, Mp.ext_d], vs, by rw [Mp.ext_a]; exact e, rs.weak st⟩
    · have hl : n < h'.size := by
        have := Mem.get_lt e'
        rw [Mem.size_push] at this; omega
      rw [Mem.get_push_old _ hl] at e'
      exact (rh.obj n o e').weak st hl rfl rfl
  · rw [Mem.size_push] at hi hj
    by_cases qi : i = h'.size
    · subst qi
      have q := kp j (by omega)
      rw [Mp.ext_a, Mp.ext_d, q.1, q.2]
      have := na j (by omega)
      exact ⟨this.1, this.2, this.1, this.2⟩
    · by_cases qj : j = h'.size
      · subst qj
        have q := kp i (by omega)
        rw [Mp.ext_a, Mp.ext_d, q.1, q.2]
        have := na i (by omega)
        exact ⟨this.1.symm, this.1.symm, this.2.symm, this.2.symm⟩
      · have q := kp i (by omega)
        have q' := kp j (by omega)
        rw [q.1, q.2, q'.1, q'.2]
        exact rh.inj i j (by omega) (by omega) ne
end
section
variable {G : GT} {p : Pl} {sc : Sc} {a : Expr} {f : XA} {pos : Pos}
/-- l, kept in the memory -/
theorem se_new (hn : SN G p sc a f) : SE G p sc a (eNew f) := fun k W X cx => PE.imp (hn k W X cx) fun σ H Q ⟨s, h, m, rh, re, hp⟩ => ⟨s, h, m, rh, re, by
  have hp : Post X.K p RP (fun cls d H' => W cls d σ H') h m H ((f (callD G.tab k) s h).bind fun xs h1 => cnd (fits xs) (.ok (.ref h1.size) (h1.push (.lst xs))) .bad) Q := hp
  cases e : f (callD G.tab k) s h with
  | bad => rw [e] at hp; exact hp
  | err x h1 => rw [e] at hp; exact hp
  | ok xs h1 =>
    rw [e] at hp
    obtain ⟨_, hp⟩ := cnd_post hp
    intro m1 H1 q vs l rh1 hn he na rs
    obtain ⟨l', rh'⟩ := l.adopt rh1 hn he na rs
    have r : RP (m1.ext h1.size q q) (h1.push (.lst xs)).size H1 (.ref h1.size) (.ref ((m1.ext h1.size q q).a h1.size)) := .ref (by simp)
    rw [Mp.ext_a] at r
    exact hp _ _ _ l' rh' r⟩
/-- l, used at once -/
theorem sl_new (hn : SN G p sc a f) : SL G p sc a f := fun k W X cx => PE.imp (hn k W X cx) fun σ H Q ⟨s, h, m, rh, re, hp⟩ => ⟨s, h, m, rh, re, by
  cases e : f (callD G.tab k) s h with
  | bad => rw [e] at hp; exact hp
  | err x h1 => rw [e] at hp; exact hp
  | ok xs h1 =>
    rw [e] at hp
    exact fun m1 H1 q vs l rh1 hn he na rs => hp _ _ _ l rh1 ⟨q, vs, rfl, SqL.of he, rs⟩⟩
/-- a value that is a list or a tuple -/
theorem itemsOf_ok {K : PySem.W.Frag} {C : Nat → Addr} {h : Mem} {m : Mp} {H : Hp} {x : PV} {v : V} {xs : List PV} (rh : RH K C m h H) (r : RP m h.size H x v) (e : itemsOf h x = some xs) : ∃ a vs, v = .ref a ∧ (SqL K H a vs ∨ H a = some (.tup vs)) ∧ RPs m h.size H xs vs := by
  cases x <;> first | (cases e; done) | skip
  · cases e
    obtain ⟨a, vs, rfl, ea, rs⟩ := r.tup_inv
    exact ⟨a, vs, rfl, .inr ea, rs⟩
  · rename_i n
    rw [r.ref_inv.1]
    have e : (match h.get n with
      | some (.lst xs) => some xs
      | some (.scr xs) => some xs
      | _ => none) = some xs := e
    split at e
    · rename_i ys hy
      cases e
      obtain ⟨vs, hs, rs⟩ := rh.sqL (.inl hy)
      exact ⟨_, vs, rfl, .inl hs, rs⟩
    · rename_i ys hy
      cases e
      obtain ⟨vs, hs, rs⟩ := rh.sqL (.inr hy)
      exact ⟨_, vs, rfl, .inl hs, rs⟩
    · cases e
theorem listsOf_ok {K : PySem.W.Frag} {C : Nat → Addr} {h : Mem} {m : Mp} {H : Hp} {x : PV} {v : V} {xs : List PV} (rh : RH K C m h H) (r : RP m h.size H x v) (e : listsOf h x = some xs) : RL K m h.size H xs v := by
  cases x <;> first | (cases e; done) | skip
  rename_i n
  rw [r.ref_inv.1]
  have e : (match h.get n with
    | some (.lst xs) => some xs
    | some (.scr xs) => some xs
    | _ => none) = some xs := e
  split at e
  · rename_i ys hy
    cases e
    obtain ⟨vs, hs, rs⟩ := rh.sqL (.inl hy)
    exact ⟨_, vs, rfl, hs, rs⟩
  · rename_i ys hy
    cases e
    obtain ⟨vs, hs, rs⟩ := rh.sqL (.inr hy)
    exact ⟨_, vs, rfl, hs, rs⟩
  · cases e
/-- a value that is a list, used at once -/
theorem sl_of {fa : XE} (ha : SE G p sc a fa) : SL G p sc a (lOf fa) := fun k W X cx => PE.imp (ha k W X cx) fun σ H Q ⟨s, h, m, rh, re, hp⟩ =>
  te_bind rh re hp fun v H1 x h1 m1 l1 rh1 re1 ra hp1 => by
    obtain ⟨xs, e, hp1⟩ := ofO_post hp1
    exact hp1 m1 H1 v rh1.refl rh1 (listsOf_ok rh1 ra e)
/-- [a, b, ..] -/
def lNew (l : XA) : XA := fun c s h => (l c s h).bind fun xs h1 => cnd (fits xs) (.ok xs h1) .bad
theorem sn_list {es : List Expr} {l : XA} (h : SA G p sc es l) : SN G p sc (.List es pos) (lNew l) := fun k W X cx =>
  PE.imp (pe_lst (h k W X cx)) fun σ H Q ⟨s, h, m, rh, re, hp⟩ => ⟨s, h, m, rh, re, by
    unfold lNew at hp
    cases e : l (callD G.tab k) s h with
    | bad => rw [e] at hp; exact hp
    | err x h1 => rw [e] at hp; exact hp
    | ok xs h1 =>
      rw [e] at hp
      intro m1 H1 vs l1 rh1 rs
      simp only [Res.bind_ok] at hp
      cases c : fits xs with
      | false => rw [c] at hp; exact hp.elim
      | true =>
        rw [c] at hp
        refine ⟨by rw [rs.length]; exact fits_le c, fun q hq => ?_⟩
        obtain ⟨l2, rh2⟩ := rh1.tmp (u := .lst vs) hq
        exact hp m1 _ q vs (l1.trans l2) rh2 (l1.fresh hq) upd_same (fun n hn => ⟨fun z => (rh1.fresh hq hn).1 z.symm, fun z => (rh1.fresh hq hn).2 z.symm⟩) (rs.mono l2)⟩
end
end Ev
end

section
set_option Elab.async false
set_option linter.all false
set_option maxRecDepth 100000
/-! Ev: subscripts, slices, attributes, calls. -/
namespace Ev
open PySem PySem.Spec PyProof.Rows L2

/-! ### subscripts -/
theorem ixN_eq {n : Nat} {i : Int} {k : Nat} (e : ixN n i = some k) : L2.ixN n i = some k := by
  unfold L2.ixN
  cases i with
  | ofNat j =>
    have e : cnd (Nat.blt j n) (some j) none = some k := e
    cases q : Nat.blt j n with
    | false => rw [q] at e; cases e
    | true =>
      rw [q] at e
      cases e
      have := blt_iff.mp q
      rw [if_pos (by simp), if_pos (by simp only [Int.ofNat_eq_natCast]; omega)]
      rfl
  | negSucc j =>
    have e : cnd (Nat.blt j n) (some (n - (j + 1))) none = some k := e
    cases q : Nat.blt j n with
    | false => rw [q] at e; cases e
    | true =>
      rw [q] at e
      have hk : n - (j + 1) = k := Option.some.inj e
      have := blt_iff.mp q
      rw [if_neg (by omega), if_pos (by omega)]
      congr 1
      omega
def plainIx : Expr → Bool
  | .Slice _ _ _ _ => false
  | _ => true
theorem plainIx_ok {b : Expr} (h : plainIx b = true) : PlainIx b := by
  cases b <;> first | exact fun _ _ => rfl | cases h
section
variable {X : Cx} {p : Pl}
/-- o[i] by the evaluator -/
def rSubE (K : PySem.W.Frag) (p : Pl) : R2 := fun x y H Q => ∃ (a b : PV) (h : Mem) (m : Mp) (c : PV), RH K p.C m h H ∧ RP m h.size H a x ∧ RP m h.size H b y ∧ subV a b h = some c ∧ ∀ v, RP m h.size H c v → Q v H
theorem ix_ok (hu : X.A.units + 10 < cLine) : IxR X (rSubE X.K p) := by
  rintro value slice pins s σ H x y v u Q I rx ry ⟨a, b, h, m, c, rh, ra, rb, e, q⟩ hs
  cases b <;> first | (cases e; done) | skip
  · rename_i i
    rw [rb.int_inv] at ry
    have e : (match itemsOf h a with
      | some xs => match ixN xs.length i with
        | some k => xs[k]?
        | none => none
      | none => none) = some c := e
    cases e1 : itemsOf h a with
    | none => rw [e1] at e; cases e
    | some xs =>
      rw [e1] at e
      cases e2 : ixN xs.length i with
      | none => simp only [e2] at e; cases e
      | some k =>
        simp only [e2] at e
        obtain ⟨l, vs, rfl, hl, rs⟩ := itemsOf_ok rh ra e1
        obtain ⟨w, ew, rw'⟩ := rs.get e
        have ha : atI vs i = some w := by
          unfold atI
          rw [rs.length, ixN_eq e2]
          exact ew
        rcases hl with hl | hl
        · exact ix_list value slice pins s σ H _ _ v u Q I rx ry ⟨l, vs, i, w, rfl, rfl, hl, ha, q w rw'⟩ hs
        · exact ix_tup value slice pins s σ H _ _ v u Q I rx ry ⟨l, vs, i, w, rfl, rfl, SqT.of hl, ha, q w rw'⟩ hs
  · rename_i ks
    cases a <;> first | (cases e; done) | skip
    rename_i n
    rw [ra.ref_inv.1] at rx
    have e : (match h.get n with
      | some (.dic kvs) => cnd (isTKey (.tup ks)) (dlook (.tup ks) kvs) none
      | _ => none) = some c := e
    split at e
    · rename_i kvs hk
      cases et : isTKey (.tup ks) with
      | false => rw [et] at e; cases e
      | true =>
        rw [et] at e
        obtain ⟨kk, ek⟩ := isTKey_ok et
        obtain ⟨bb, rfl⟩ := key_ref rb ek
        obtain rfl : u = Value.ref bb := ry
        obtain rfl : v = Value.ref (m.a n) := rx
        have e : dlook (.tup ks) kvs = some c := e
        obtain ⟨_, _, _, _, _, _, _, _, _, _, _, _, _, _, dd, _⟩ := dic_at I rh hk
        exact tail_any dd.typeIs PySem.F.slot_dict_getitem.lookup (kd_getItem (by omega) I rh hk rb ek e fun v' w' s3 r' I3 rw' => ⟨v', H, I3, rw', q v' r'⟩) hs
    · cases e
end
section
variable {G : GT} {p : Pl} {sc : Sc} {a b : Expr} {fa fb : XE} {pos : Pos}
theorem se_sub (ha : SE G p sc a fa) (hb : SE G p sc b fb) (hs : plainIx b = true) : SE G p sc (.Subscript a b pos) (eSub fa fb) := fun k W X cx =>
  PE.imp (pe_ix (ix_ok (p := p) (by have := hu_cx cx; omega)) (ha k W X cx) (hb k W X cx) (plainIx_ok hs)) fun σ H Q ⟨s, h, m, rh, re, hp⟩ =>
    te_bind rh re hp fun v H1 x h1 m1 l1 rh1 re1 ra hp1 => te_bind rh1 re1 hp1 fun u H2 y h2 m2 l2 rh2 re2 rb hp2 => by
      obtain ⟨c, e, hp2⟩ := ofO_post hp2
      exact ⟨x, y, h2, m2, c, rh2, ra.mono l2, rb, e, fun v r => hp2 m2 H2 v rh2.refl rh2 r⟩

/-! ### slices -/
def toOf (K : PySem.W.Frag) (p : Pl) (W : WX) (c : Calls) (f : Calls → Env → Mem → Res (Option Int)) : TO := fun σ H Q => ∃ s h m, RH K p.C m h H ∧ RE m h.size H s σ ∧
  Post K p (fun _ _ _ (a b : Option Int) => a = b) (fun cls d H' => W cls d σ H') h m H (f c s h) Q
def SO (G : GT) (p : Pl) (sc : Sc) (e : Option Expr) (f : Calls → Env → Mem → Res (Option Int)) : Prop := ∀ k W X, ECx G p k sc W X → PO X e (toOf X.K p W (callD G.tab k) f)
theorem PO.imp {X : Cx} {e : Option Expr} {t t' : TO} (h : PO X e t) (k : ∀ σ H Q, t' σ H Q → t σ H Q) : PO X e t' := ⟨fun pins s σ H Q I hq => h.run pins s σ H Q I (k σ H Q hq)⟩
theorem so_none : SO G p sc none oNone := fun k W X cx => PO.imp po_none fun σ H Q ⟨s, h, m, rh, re, hp⟩ => hp m H none rh.refl rh rfl
theorem so_some (ha : SE G p sc a fa) : SO G p sc (some a) (oSome fa) := fun k W X cx => PO.imp (po_some (ha k W X cx)) fun σ H Q ⟨s, h, m, rh, re, hp⟩ =>
  te_bind rh re hp fun v H1 x h1 m1 l1 rh1 re1 ra hp1 => by
    cases x <;> first | exact hp1.elim | skip
    rename_i i
    exact ⟨i, ra.int_inv, hp1 m1 H1 (some i) rh1.refl rh1 rfl⟩
theorem to_bind {K : PySem.W.Frag} {W : WX} {c : Calls} {f : Calls → Env → Mem → Res (Option Int)} {γ δ : Type} {g : Option Int → Mem → Res γ} {R : Mp → Nat → Hp → γ → δ → Prop} {s : Env} {h : Mem} {m : Mp} {σ : L2.St} {H : Hp} {Q : δ → Hp → Prop} {Q2 : Option Int → Hp → Prop} (rh : RH K p.C m h H) (re : RE m h.size H s σ)
    (hp : Post K p R (fun cls d H' => W cls d σ H') h m H ((f c s h).bind g) Q)
    (k : ∀ v H1 h1 m1, Le h m H h1 m1 H1 → RH K p.C m1 h1 H1 → RE m1 h1.size H1 s σ → Post K p R (fun cls d H' => W cls d σ H') h1 m1 H1 (g v h1) Q → Q2 v H1) : toOf K p W c f σ H Q2 :=
  ⟨s, h, m, rh, re, hp.bind' fun b H1 a h1 m1 l rh1 rr q => by
    have e : a = b := rr
    subst e
    exact k a H1 h1 m1 l rh1 (re.mono l) q⟩
/-- a slice by the evaluator -/
def rSlE (K : PySem.W.Frag) (p : Pl) : V → Option Int → Option Int → Hp → VK → Prop := fun x lo hi H Q => ∃ (a : PV) (h : Mem) (m : Mp), RH K p.C m h H ∧ RP m h.size H a x ∧ Post K p RP (fun _ _ _ => False) h m H (slV a lo hi h) Q
theorem RPs.cut {m : Mp} {z : Nat} {H : Hp} {xs : List PV} {vs : List V} (r : RPs m z H xs vs) (lo hi : Option Int) : RPs m z H (cut xs lo hi) (cutV vs lo hi) := by
  unfold Ev.cut L2.cutV
  rw [r.length]
  exact (r.drop _).take _
theorem sl_ok {X : Cx} : SlR X (rSlE X.K p) := by
  rintro pins s σ H x v vl vu lo hi sl Q I rx hs pl pu ⟨a, h, m, rh, ra, hp⟩
  cases a <;> first | exact hp.elim | skip
  · rename_i xs
    obtain ⟨q, vs, rfl, ea, rs⟩ := ra.tup_inv
    refine sl_tupA pins s σ H _ v vl vu lo hi sl Q I rx hs pl pu ⟨q, vs, rfl, SqT.of ea, fun hw => ?_, fun _ q hq => post_newT rh hq (rs.cut lo hi) hp⟩
    have e : cut xs lo hi = xs := by
      unfold cut
      rw [← rs.length, hw.1, hw.2, List.drop_zero, rs.length]
      simp
    have hp : Post X.K p RP (fun _ _ _ => False) h m H (.ok (.tup (cut xs lo hi)) h) Q := hp
    rw [e] at hp
    exact hp m H _ rh.refl rh (.tup ea rs)
  · rename_i n
    rw [ra.ref_inv.1] at rx
    have hp : Post X.K p RP (fun _ _ _ => False) h m H (match h.get n with
      | some (.lst xs) => .ok (.ref h.size) (h.push (.lst (cut xs lo hi)))
      | some (.scr xs) => .ok (.ref h.size) (h.push (.lst (cut xs lo hi)))
      | _ => .bad) Q := hp
    have fin : ∀ xs, h.get n = some (.lst xs) ∨ h.get n = some (.scr xs) → Post X.K p RP (fun _ _ _ => False) h m H (.ok (.ref h.size) (h.push (.lst (cut xs lo hi)))) Q →
        ∃ T id, typeLookup (.type T) "__getitem__" = pure (some (.builtin id)) ∧ s.TypeIs v T ∧ wpAny (model X.prog X.w) X.A (getItem v (.ref sl)) (EP X pins σ Q) X.xe s := fun xs hx hp => by
      obtain ⟨vs, hl, rs⟩ := rh.sqL hx
      exact sl_list pins s σ H _ v vl vu lo hi sl Q I rx hs pl pu ⟨m.a n, vs, rfl, hl, fun q hq => post_newL rh hq (rs.cut lo hi) hp⟩
    split at hp
    · rename_i xs hx; exact fin xs (.inl hx) hp
    · rename_i xs hx; exact fin xs (.inr hx) hp
    · exact hp.elim
theorem slV_pure {x : PV} {lo hi : Option Int} {h : Mem} : Pure (slV x lo hi h) := by
  intro e h' z
  cases x <;> first | cases z | skip
  rename_i n
  have z : (match h.get n with
      | some (.lst xs) => .ok (.ref h.size) (h.push (.lst (cut xs lo hi)))
      | some (.scr xs) => .ok (.ref h.size) (h.push (.lst (cut xs lo hi)))
      | _ => .bad) = (.err e h' : Res PV) := z
  split at z <;> cases z
theorem se_sl {lo hi : Option Expr} {fl fh : Calls → Env → Mem → Res (Option Int)} {p2 : Pos} (ha : SE G p sc a fa) (hl : SO G p sc lo fl) (hh : SO G p sc hi fh) : SE G p sc (.Subscript a (.Slice lo hi none p2) pos) (eSl fa fl fh) := fun k W X cx =>
  PE.imp (pe_slice (sl_ok (p := p)) (ha k W X cx) (hl k W X cx) (hh k W X cx)) fun σ H Q ⟨s, h, m, rh, re, hp⟩ =>
    te_bind rh re hp fun v H1 x h1 m1 l1 rh1 re1 ra hp1 => to_bind rh1 re1 hp1 fun lo H2 h2 m2 l2 rh2 re2 hp2 => to_bind rh2 re2 hp2 fun hi H3 h3 m3 l3 rh3 re3 hp3 =>
      ⟨x, h3, m3, rh3, ra.mono (l2.trans l3), hp3.noerr slV_pure⟩

/-! ### calls -/
theorem run_fnRS {X : Cx} {CX : CXT} {k : Nat} {f : Addr} {sp : Sp} {E : XK} {pins : List (Addr × Obj)} {σ : L2.St} {H : Hp} {s : Shared} {Q : VK} {us : List Value} {vs : List V} (F : FnR X.prog X.w X.K X.mg X.base CX k f sp) (hr : Room k X.A) (hx : PassesAt CX X σ E)
    (I : L2.Inv X pins σ H s) (r : Vals vs us) (h : sp vs H Q E) : wpAny (model X.prog X.w) X.A (call (.ref f) us) (EP X pins σ Q) X.xe s := by
  refine wpAny_call (codeAny_mono (F X.A X.stack s H us vs Q E hr I.env0 r h) fun r s' hq => ?_)
  cases r with
  | error e => exact hx pins H s e s' I hq
  | ok fl =>
    cases fl with
    | ret u => exact I.after hq
    | next => exact False.elim hq
    | brk => exact False.elim hq
    | cont => exact False.elim hq
theorem nth_some {tab : List Fd} {k f : Nat} {args : List PV} {h : Mem} (n : callD tab k f args h ≠ .bad) : ∃ d, nthF tab f = some d := by
  cases k with
  | zero => exact absurd rfl n
  | succ k =>
    cases e : nthF tab f with
    | some d => exact ⟨d, rfl⟩
    | none =>
      apply absurd _ n
      show (match nthF tab f with
        | some d => runFd d (callD tab k) args h
        | none => .bad) = _
      rw [e]
theorem Post.nbad {K : PySem.W.Frag} {α β : Type} {R : Mp → Nat → Hp → α → β → Prop} {E : XK} {h : Mem} {m : Mp} {H : Hp} {r : Res α} {Q : β → Hp → Prop} (hp : Post K p R E h m H r Q) : r ≠ .bad := by
  rintro rfl
  exact hp
/-- the evaluator's call of f is what the def at f does -/
theorem call_run {k : Nat} {W : WX} {X : Cx} (cx : ECx G p k sc W X) {f : Nat} {pins : List (Addr × Obj)} {σ : L2.St} {H : Hp} {s : Shared} {Q : VK} {us : List Value} {vs : List V} {args : List PV} {h : Mem} {m : Mp} (I : L2.Inv X pins σ H s) (r : Vals vs us)
    (rh : RH X.K p.C m h H) (ra : RPs m h.size H args vs) (hp : Post X.K p RP (fun cls d H' => W cls d σ H') h m H (callD G.tab k f args h) Q) :
    wpAny (model X.prog X.w) X.A (call (.ref (p.F f)) us) (EP X pins σ Q) X.xe s ∧ PySem.W.keepIn X.K (.ref (p.F f)) = true := by
  obtain ⟨d, ed⟩ := nth_some hp.nbad
  obtain ⟨F, kp⟩ := cx.g.fn f d ed
  exact ⟨run_fnRS F (cx.room.mono (by omega)) (passAt cx.tk σ) I r ⟨h, m, args, rh, ra, hp⟩, kp⟩
/-- the arguments of a call, then the call -/
theorem args_run {k : Nat} {W : WX} {X : Cx} (cx : ECx G p k sc W X) {es : List Expr} {l : XA} (ha : SA G p sc es l) {g : List PV → Mem → Res PV} {pins : List (Addr × Obj)} {σ : L2.St} {H : Hp} {s : Shared} {Q : VK} {sv : Env} {h : Mem} {m : Mp} {pos : Pos} {R : List Value → Shared → Prop}
    (I : L2.Inv X pins σ H s) (rh : RH X.K p.C m h H) (re : RE m h.size H sv σ) (hp : Post X.K p RP (fun cls d H' => W cls d σ H') h m H ((l (callD G.tab k) sv h).bind g) Q)
    (kk : ∀ us s1 vs H1 args h1 m1, L2.Inv X pins σ H1 s1 → Vals vs us → Le h m H h1 m1 H1 → RH X.K p.C m1 h1 H1 → RPs m1 h1.size H1 args vs → Post X.K p RP (fun cls d H' => W cls d σ H') h1 m1 H1 (g args h1) Q → R us s1) :
    wpAny (model X.prog X.w) X.A (spliced (backTo pos (starEach es X.env))) R X.xe s := by
  refine thn ((ha k W X cx).run pos pins s σ H (fun vs H1 => ∃ args h1 m1, Le h m H h1 m1 H1 ∧ RH X.K p.C m1 h1 H1 ∧ RPs m1 h1.size H1 args vs ∧ Post X.K p RP (fun cls d H' => W cls d σ H') h1 m1 H1 (g args h1) Q) I ?_) fun us s1 ⟨vs, H1, I1, r, args, h1, m1, l1, rh1, ra, hp1⟩ => kk us s1 vs H1 args h1 m1 I1 r l1 rh1 ra hp1
  exact ta_bind rh re hp fun vs H1 args h1 m1 l1 rh1 re1 ra hp1 => ⟨args, h1, m1, l1, rh1, ra, hp1⟩
theorem se_call {x : Str} {f : Nat} {e : Expr} {es : List Expr} {l : XA} {q : Pos} (hg : sc.scope.names.lookup x = some .globalImplicit) (hf : (x, f) ∈ G.fns) (hk : (nthF G.tab f).isSome = true) (hd : (x == ("__debug__" : Str)) = false) (hs : noStars (e :: es) = true) (ha : SA G p sc (e :: es) l) :
    SE G p sc (.Call (.Name x q) (e :: es) [] pos) (eCall f l) := by
  intro k W X cx
  obtain ⟨d, ed⟩ := Option.isSome_iff_exists.mp hk
  obtain ⟨F, kp⟩ := cx.g.fn f d ed
  refine ⟨fun pins s σ H Q I ⟨sv, h, m, rh, re, hp⟩ => ?_⟩
  refine wpAny_Call_Name_kw (ld_glob I (glob_of cx hg) (cx.g.gl x f hf) ?_ hd)
  obtain ⟨h1, h2⟩ := noStars_cons hs
  exact PySem.W.callWith_K (h₀ := X.base) I.ok.mod.kin kp (args_run cx ha I rh re hp fun us s1 vs H1 args h1 m1 I1 r l1 rh1 ra hp1 => ⟨I1.kIn, (call_run cx I1 r rh1 ra hp1).1⟩) (star_no h1) (stars_plain h2)
theorem se_call0 {x : Str} {f : Nat} {q : Pos} (hg : sc.scope.names.lookup x = some .globalImplicit) (hf : (x, f) ∈ G.fns) (hk : (nthF G.tab f).isSome = true) (hd : (x == ("__debug__" : Str)) = false) :
    SE G p sc (.Call (.Name x q) [] [] pos) (eCall f aNil) := by
  intro k W X cx
  obtain ⟨d, ed⟩ := Option.isSome_iff_exists.mp hk
  obtain ⟨F, kp⟩ := cx.g.fn f d ed
  refine ⟨fun pins s σ H Q I ⟨sv, h, m, rh, re, hp⟩ => ?_⟩
  refine wpAny_Call_Name_kw (ld_glob I (glob_of cx hg) (cx.g.gl x f hf) ?_ hd)
  exact PySem.W.callWith_K0 I.kIn kp (call_run cx (us := []) (vs := []) (args := []) I .nil rh .nil hp).1

/-! ### instances -/
def plainBase : Expr → Bool
  | .Call (.Name _ _) [] [] _ => false
  | _ => true
theorem base_ok {o : Expr} {m : Str} {env : PySem.Env} {t : Sem Value} (h : plainBase o = true) : attributeBase o m env t = t := by
  unfold attributeBase
  split
  · cases h
  · rfl
theorem lookC_mem {α : Type} {k : Nat} {a : α} : ∀ {l : List (Nat × α)}, lookC k l = some a → (k, a) ∈ l
  | [], e => by cases e
  | (j, b) :: r, e => by
    have e : (match Nat.beq j k with | true => some b | false => lookC k r) = some a := e
    cases q : Nat.beq j k with
    | true =>
      rw [q] at e
      cases e
      rw [Nat.eq_of_beq_eq_true q]
      exact List.mem_cons_self
    | false =>
      rw [q] at e
      exact List.mem_cons_of_mem _ (lookC_mem e)
/-- the attribute f: what each class has -/
def AttOk (G : GT) (f : Str) (tab : List (Nat × At)) : Prop := ∀ k a, (k, a) ∈ tab → match a with
  | .slot i => (k, f, i) ∈ G.slots
  | .prop g => (k, f, g) ∈ G.props
theorem cx_false {P : Program} {w : World} {outer : List PySem.Env} {H : Hp} {s : Shared} {e : Value} {s' : Shared} (z : CX P w outer H s (fun _ _ _ => False) e s') : False := by
  obtain ⟨_, _, _, _, _, _, _, _, _, _, _, _, z⟩ := z
  exact z
theorem se_fld {f : Str} {tab : List (Nat × At)} (ht : AttOk G f tab) (hb : plainBase a = true) (ha : SE G p sc a fa) : SE G p sc (.Attribute a f pos) (eFld tab fa) := by
  intro k W X cx
  refine ⟨fun pins s σ H Q I ⟨sv, h, m, rh, re, hp⟩ => ?_⟩
  refine attr_of (base_ok hb) (thn ((ha k W X cx).run pins s σ H _ I (te_bind (Q2 := fun v H1 => ∃ x h1 m1, RH X.K p.C m1 h1 H1 ∧ RP m1 h1.size H1 x v ∧ Post X.K p RP (fun cls d H' => W cls d σ H') h1 m1 H1 (fldV tab (callD G.tab k) x h1) Q) rh re hp
    fun v H1 x h1 m1 l1 rh1 re1 ra hp1 => ⟨x, h1, m1, rh1, ra, hp1⟩)) fun u s1 ⟨v, H1, I1, rv, x, h1, m1, rh1, ra, hp1⟩ => ?_)
  unfold fldV at hp1
  cases x <;> first | exact hp1.elim | skip
  rename_i n
  cases e : h1.get n with
  | none => simp only [e] at hp1; exact hp1.elim
  | some o =>
    simp only [e] at hp1
    cases o <;> first | exact hp1.elim | skip
    rename_i c fs
    simp only at hp1
    cases el : lookC c tab with
    | none => simp only [el] at hp1; exact hp1.elim
    | some at_ =>
      simp only [el] at hp1
      have hm := ht c at_ (lookC_mem el)
      obtain ⟨_, _, vs, hs, rs⟩ := rh1.obj n _ e
      obtain ⟨ev, hn⟩ := ra.ref_inv
      subst ev
      obtain rfl : u = Value.ref (m1.a n) := rv
      cases at_ with
      | slot i =>
        obtain ⟨sc', q, sl⟩ := cx.g.sl c f i hm
        simp only at hp1
        cases ef : fs[i]? with
        | none => simp only [ef] at hp1; exact hp1.elim
        | some o =>
          cases o with
          | none => simp only [ef] at hp1; exact hp1.elim
          | some y =>
            simp only [ef] at hp1
            obtain ⟨w, ew, rw'⟩ := rs i y ef
            exact SlX.getslot_ok I1 hs sc' sl ew fun u' s2 I2 ru => ⟨w, H1, I2, ru, hp1 m1 H1 w rh1.refl rh1 rw'⟩
      | prop g =>
        obtain ⟨sc', q, h1', h2', h3', h4'⟩ := cx.g.pr c f g hm
        simp only at hp1
        have nb : callD G.tab k g [.ref n] h1 ≠ .bad := by
          intro z
          rw [z] at hp1
          exact hp1.elim
        obtain ⟨d, ed⟩ := nth_some nb
        obtain ⟨F, kp⟩ := cx.g.fn g d ed
        refine SlX.getprop_sl (E := fun _ _ _ => False) I1 hs sc' h1' h2' h3' h4' F (cx.room.mono (by omega)) (fun H s e s' z => ?_) ?_
        · exact cx_false z
        · refine ⟨h1, m1, [.ref n], rh1, .cons ra .nil, ?_⟩
          cases er : callD G.tab k g [.ref n] h1 with
          | bad => exact absurd er nb
          | err x' h' => rw [er] at hp1; exact hp1.elim
          | ok v' h' => rw [er] at hp1; exact hp1
end
end Ev
end

section
set_option Elab.async false
set_option linter.all false
set_option maxRecDepth 100000
/-! Ev: methods, new instances, len, isinstance, built-ins. -/
namespace Ev
open PySem PySem.Spec PyProof.Rows L2

section
variable {G : GT} {p : Pl} {sc : Sc} {a b : Expr} {fa fb : XE} {pos apos : Pos}
theorem few_ok {es : List Expr} {env : PySem.Env} {pos : Pos} (h : noStars es = true) (hl : Nat.blt es.length 30 = true) : methodCallForm (es.length + ([] : List Keyword).length) (backTo pos (starEach es env)) (backToKw pos (keywordEach [] env)) = true := by
  have e1 : ∀ es : List Expr, noStars es = true → (backTo pos (starEach es env)).all (!·.1) = true := by
    intro es
    induction es with
    | nil => intro _; rfl
    | cons e es ih =>
      intro h
      obtain ⟨h1, h2⟩ := noStars_cons h
      rw [star_no h1]
      show (!false && (backTo pos (starEach es env)).all (!·.1)) = true
      rw [ih h2]
      rfl
  unfold methodCallForm
  rw [e1 es h]
  have hl := blt_iff.mp hl
  have : decide (es.length + ([] : List Keyword).length + (if (backToKw pos (keywordEach [] env)).isEmpty then 0 else 1) < 30) = true := by
    rw [decide_eq_true_iff]
    show es.length + 0 + 0 < 30
    omega
  rw [this]
  rfl
theorem eval_meth {o : Expr} {m : Str} {es : List Expr} {env : PySem.Env} (hb : plainBase o = true) (hs : noStars es = true) (hl : Nat.blt es.length 30 = true) (hp : (apos.endLine == pos.line) = true) :
    eval (.Call (.Attribute o m apos) es [] pos) env = (do
      let ov ← eval o env
      standAt apos.atName
      let (f, first) ← holding [ov] (getMethod ov m (plainOf o env))
      callWith pos f first (backTo pos (starEach es env)) (backToKw pos (keywordEach [] env))) := by
  have e1 : eval (.Call (.Attribute o m apos) es [] pos) env = (do
    let ov ← attributeBase o m env (eval o env)
    standAt apos.atName
    methodCall o m apos pos env ov (es.length + ([] : List Keyword).length) (backTo pos (starEach es env)) (backToKw pos (keywordEach [] env))) := by
      simp only [eval]
  rw [e1, base_ok hb]
  congr 1
  funext ov
  congr 1
  funext _
  exact mcall_line (few_ok hs hl) hp
def MethOk (G : GT) (m : Str) (tab : List (Nat × Nat)) : Prop := ∀ k f, (k, f) ∈ tab → (k, m, f) ∈ G.meths
/-- o.m as the evaluator finds it -/
theorem meth_get {k : Nat} {W : WX} {X : Cx} (cx : ECx G p k sc W X) {m : Str} {tab : List (Nat × Nat)} (ht : MethOk G m tab) {pins : List (Addr × Obj)} {σ : L2.St} {H : Hp} {s : Shared} {x : PV} {v : V} {u : Value} {h : Mem} {mp : Mp} {f : Nat} {pl : Sem Bool} {Q : Value × List Value → Shared → Prop}
    (I : L2.Inv X pins σ H s) (rv : RelV v u) (rh : RH X.K p.C mp h H) (ra : RP mp h.size H x v) (e : methF tab x h = some f) (q : ∀ n, x = .ref n → v = .ref (mp.a n) → Q (.ref (p.F f), [.ref (mp.a n)]) s) : wpAny (model X.prog X.w) X.A (getMethod u m pl) Q X.xe s := by
  cases x <;> first | (cases e; done) | skip
  rename_i n
  have e : (match h.get n with
    | some (.ins k _) => lookC k tab
    | _ => none) = some f := e
  split at e
  · rename_i c fs hg
    obtain ⟨ev, hn⟩ := ra.ref_inv
    subst ev
    obtain rfl : u = Value.ref (mp.a n) := rv
    obtain ⟨_, _, vs, hs, rs⟩ := rh.obj n _ hg
    obtain ⟨sc', mm⟩ := cx.g.me c m f (ht c f (lookC_mem e))
    exact SlX.getmethsl_ok I hs sc' mm (q n rfl rfl)
  · cases e
theorem se_meth {m : Str} {tab : List (Nat × Nat)} {e : Expr} {es : List Expr} {l : XA} (ht : MethOk G m tab) (hb : plainBase a = true) (hs : noStars (e :: es) = true) (hl : Nat.blt (e :: es).length 30 = true) (hp : (apos.endLine == pos.line) = true) (ha : SE G p sc a fa) (hr : SA G p sc (e :: es) l) :
    SE G p sc (.Call (.Attribute a m apos) (e :: es) [] pos) (eMeth tab fa l) := by
  intro k W X cx
  refine ⟨fun pins s σ H Q I ⟨sv, h, mp, rh, re, hq⟩ => ?_⟩
  refine PySem.W.methodCall_KW (pl := plainOf a X.env) (thn ((ha k W X cx).run pins s σ H _ I (te_bind (Q2 := fun v H1 => ∃ x h1 m1, RH X.K p.C m1 h1 H1 ∧ RE m1 h1.size H1 sv σ ∧ RP m1 h1.size H1 x v ∧ Post X.K p RP (fun cls d H' => W cls d σ H') h1 m1 H1 (match methF tab x h1 with
    | some f => (l (callD G.tab k) sv h1).bind fun xs h2 => callD G.tab k f (x :: xs) h2
    | none => .bad) Q) rh re hq fun v H1 x h1 m1 l1 rh1 re1 ra hp1 => ⟨x, h1, m1, rh1, re1, ra, hp1⟩)) fun u s1 ⟨v, H1, I1, rv, x, h1, m1, rh1, re1, ra, hp1⟩ => ?_) (eval_meth hb hs hl hp)
  cases ef : methF tab x h1 with
  | none => rw [ef] at hp1; exact hp1.elim
  | some f =>
    rw [ef] at hp1
    refine meth_get cx ht I1 rv rh1 ra ef fun n ex ev => ?_
    subst ex
    subst ev
    have hn := ra.ref_inv.2
    obtain ⟨h1', h2'⟩ := noStars_cons hs
    have kp : PySem.W.keepIn X.K (.ref (p.F f)) = true := by
      have hm : (∃ c, lookC c tab = some f) := by
        have ef : (match h1.get n with
          | some (.ins k _) => lookC k tab
          | _ => none) = some f := ef
        split at ef
        · exact ⟨_, ef⟩
        · cases ef
      obtain ⟨c, hm⟩ := hm
      exact (cx.g.me c m f (ht c f (lookC_mem hm))).2.kp
    refine PySem.W.callWith_K (first := [.ref (m1.a n)]) (h₀ := X.base) I.ok.mod.kin kp (args_run cx hr (g := fun xs h2 => callD G.tab k f (.ref n :: xs) h2) I1 rh1 re1 hp1 fun us s2 vs H2 args h2 m2 I2 r l2 rh2 ra2 hp2 => ⟨I2.kIn, ?_⟩) (star_no h1') (stars_plain h2')
    have rr := ra.mono l2
    rw [← (l2.keep n hn).1] at rr ⊢
    exact (call_run cx (us := .ref (m2.a n) :: us) (vs := .ref (m2.a n) :: vs) I2 (.cons rfl r) rh2 (.cons rr ra2) hp2).1
theorem se_meth0 {m : Str} {tab : List (Nat × Nat)} (ht : MethOk G m tab) (hb : plainBase a = true) (hp : (apos.endLine == pos.line) = true) (ha : SE G p sc a fa) :
    SE G p sc (.Call (.Attribute a m apos) [] [] pos) (eMeth tab fa aNil) := by
  intro k W X cx
  refine ⟨fun pins s σ H Q I ⟨sv, h, mp, rh, re, hq⟩ => ?_⟩
  refine PySem.W.methodCall_KW (pl := plainOf a X.env) (thn ((ha k W X cx).run pins s σ H _ I (te_bind (Q2 := fun v H1 => ∃ x h1 m1, RH X.K p.C m1 h1 H1 ∧ RE m1 h1.size H1 sv σ ∧ RP m1 h1.size H1 x v ∧ Post X.K p RP (fun cls d H' => W cls d σ H') h1 m1 H1 (match methF tab x h1 with
    | some f => (aNil (callD G.tab k) sv h1).bind fun xs h2 => callD G.tab k f (x :: xs) h2
    | none => .bad) Q) rh re hq fun v H1 x h1 m1 l1 rh1 re1 ra hp1 => ⟨x, h1, m1, rh1, re1, ra, hp1⟩)) fun u s1 ⟨v, H1, I1, rv, x, h1, m1, rh1, re1, ra, hp1⟩ => ?_) (eval_meth hb rfl rfl hp)
  cases ef : methF tab x h1 with
  | none => rw [ef] at hp1; exact hp1.elim
  | some f =>
    rw [ef] at hp1
    refine meth_get cx ht I1 rv rh1 ra ef fun n ex ev => ?_
    subst ex
    subst ev
    have hp2 : Post X.K p RP (fun cls d H' => W cls d σ H') h1 m1 H1 (callD G.tab k f [.ref n] h1) Q := hp1
    obtain ⟨q, kp⟩ := call_run cx (us := [.ref (m1.a n)]) (vs := [.ref (m1.a n)]) I1 (.cons rfl .nil) rh1 (.cons ra .nil) hp2
    exact PySem.W.callWith_K0 (first := [.ref (m1.a n)]) I1.kIn kp q

/-! ### a new instance -/
theorem RH.newI {K : PySem.W.Frag} {C : Nat → Addr} {m : Mp} {h : Mem} {H : Hp} (r : RH K C m h H) {x dx : Addr} (hx : H x = none) (hd : H dx = none) (ne : dx ≠ x) (c n : Nat) :
    Le h m H (h.push (.ins c (List.replicate n none))) (m.ext h.size x dx) (upd (upd H dx (.own x)) x (.ins (C c) dx [])) ∧ RH K C (m.ext h.size x dx) (h.push (.ins c (List.replicate n none))) (upd (upd H dx (.own x)) x (.ins (C c) dx [])) := by
  refine r.new hx hd _ (fun a h1 h2 => by rw [upd_ne h1, upd_ne h2]) (fun l => ?_) ⟨by rw [upd_same]; exact fun z => (nomatch z), by rw [upd_ne ne, upd_same]; exact fun z => (nomatch z)⟩
  refine ⟨by rw [Mp.ext_a, Mp.ext_d]; exact ne, by rw [Mp.ext_d, upd_ne ne, upd_same]; exact ⟨fun z => (nomatch z), fun us z => (nomatch z)⟩, [], .inl ⟨by rw [Mp.ext_a, Mp.ext_d]; exact upd_same, rfl⟩, fun i y e => ?_⟩
  rw [List.getElem?_replicate] at e
  split at e <;> cases e
theorem make_run {k : Nat} {W : WX} {X : Cx} (cx : ECx G p k sc W X) {c f n : Nat} (hi : (c, f, n) ∈ G.inits) {pins : List (Addr × Obj)} {σ : L2.St} {H : Hp} {s : Shared} {Q : VK} {us : List Value} {vs : List V} {args : List PV} {h : Mem} {m : Mp} (I : L2.Inv X pins σ H s) (r : Vals vs us)
    (rh : RH X.K p.C m h H) (ra : RPs m h.size H args vs) (hp : Post X.K p RP (fun cls d H' => W cls d σ H') h m H (makeV c f n (callD G.tab k) args h) Q) :
    wpAny (model X.prog X.w) X.A (call (.ref (p.C c)) us) (EP X pins σ Q) X.xe s := by
  have M := cx.g.ini c f n hi
  unfold makeV at hp
  have nb : callD G.tab k f (.ref h.size :: args) (h.push (.ins c (List.replicate n none))) ≠ .bad := by
    intro z
    rw [z] at hp
    exact hp.elim
  obtain ⟨d, ed⟩ := nth_some nb
  obtain ⟨F, kp⟩ := cx.g.fn f d ed
  have hx := I.hok.fresh (a := s.heap.objs.size + 1) (Nat.le_succ _)
  have hd := I.hok.fresh (a := s.heap.objs.size) (Nat.le_refl _)
  have ne : s.heap.objs.size ≠ s.heap.objs.size + 1 := Nat.ne_of_lt (Nat.lt_succ_self _)
  obtain ⟨l, rh1⟩ := rh.newI hx hd ne c n
  have I2 := Inv.made (C := p.C c) I
  have rx : RP (m.ext h.size (s.heap.objs.size + 1) s.heap.objs.size) (h.push (.ins c (List.replicate n none))).size (upd (upd H s.heap.objs.size (.own (s.heap.objs.size + 1))) (s.heap.objs.size + 1) (.ins (p.C c) s.heap.objs.size [])) (.ref h.size) (.ref (s.heap.objs.size + 1)) := by
    have := RP.ref (m := m.ext h.size (s.heap.objs.size + 1) s.heap.objs.size) (z := (h.push (.ins c (List.replicate n none))).size) (H := upd (upd H s.heap.objs.size (.own (s.heap.objs.size + 1))) (s.heap.objs.size + 1) (.ins (p.C c) s.heap.objs.size [])) (n := h.size) (by simp)
    rwa [Mp.ext_a] at this
  have hq := hp.shift l
  have hsp : spF X.K p (callD G.tab k) f (.ref (s.heap.objs.size + 1) :: vs) (upd (upd H s.heap.objs.size (.own (s.heap.objs.size + 1))) (s.heap.objs.size + 1) (.ins (p.C c) s.heap.objs.size [])) (fun v H2 => v = .non ∧ Q (.ref (s.heap.objs.size + 1)) H2) (WE W σ) := by
    refine ⟨_, _, .ref h.size :: args, rh1, .cons rx (ra.mono l), ?_⟩
    refine hq.bind' fun v H2 y h2 m2 l2 rh2 ry hq2 => ?_
    cases y <;> first | exact hq2.elim | skip
    refine ⟨ry.non_inv, ?_⟩
    exact hq2 m2 H2 _ rh2.refl rh2 (rx.mono l2)
  refine wpAny_call (make_map (f := p.F f) I.kIn M.makes M.init (beq_iff_eq.mp M.fn) (codeAny_mono (F _ X.stack _ _ (.ref (s.heap.objs.size + 1) :: us) (.ref (s.heap.objs.size + 1) :: vs) _ (WE W σ) ((cx.room.mono (j := 4 * k + 1) (by omega)).make (p.C c) us [])
    (I2.env0.make (p.C c) us []) (.cons rfl r) hsp) fun r s' hq' => ?_))
  cases r with
  | error e => exact passAt cx.tk σ pins _ _ e s' I2 hq'
  | ok fl =>
    cases fl with
    | ret u =>
      obtain ⟨v, H', I3, rv, ev, q3⟩ := I2.after hq'
      subst ev
      exact ⟨rv, ⟨V.ref (s.heap.objs.size + 1), H', I3, rfl, q3⟩⟩
    | next => exact False.elim hq'
    | brk => exact False.elim hq'
    | cont => exact False.elim hq'
theorem se_make {x : Str} {c f n : Nat} {e : Expr} {es : List Expr} {l : XA} {q : Pos} (hg : sc.scope.names.lookup x = some .globalImplicit) (hc : (x, c) ∈ G.cls) (hi : (c, f, n) ∈ G.inits) (hd : (x == ("__debug__" : Str)) = false) (hs : noStars (e :: es) = true) (ha : SA G p sc (e :: es) l) :
    SE G p sc (.Call (.Name x q) (e :: es) [] pos) (eMake c f n l) := by
  intro k W X cx
  have M := cx.g.ini c f n hi
  refine ⟨fun pins s σ H Q I ⟨sv, h, m, rh, re, hp⟩ => ?_⟩
  refine wpAny_Call_Name_kw (ld_glob I (glob_of cx hg) (cx.g.cl x c hc).1 ?_ hd)
  obtain ⟨h1, h2⟩ := noStars_cons hs
  exact PySem.W.callWith_K (h₀ := X.base) I.ok.mod.kin M.kp (args_run cx ha (g := fun xs h1 => makeV c f n (callD G.tab k) xs h1) I rh re hp fun us s1 vs H1 args h1 m1 I1 r l1 rh1 ra hp1 => ⟨I1.kIn, make_run cx hi I1 r rh1 ra hp1⟩) (star_no h1) (stars_plain h2)

/-! ### built-in calls of one value -/
/-- a call of a built-in with values, by the evaluator -/
theorem se_callB {x : Str} {id : String} {e : Expr} {es : List Expr} {q : Pos} {l : XA} {g : List PV → Mem → Res PV} (hg : sc.scope.names.lookup x = some .globalImplicit) (hf : x ∈ G.free) (hv : bootBuiltins x = some (.builtin id)) (hn : x ≠ "__name__") (hd : (x == ("__debug__" : Str)) = false) (hs : noStars (e :: es) = true)
    (ha : SA G p sc (e :: es) l) (hc : ∀ k W X, ECx G p k sc W X → ∀ (pins : List (Addr × Obj)) (s : Shared) (σ : L2.St) (H : Hp) (vs : List V) (us : List Value) (Q : VK) (args : List PV) (h : Mem) (m : Mp), L2.Inv X pins σ H s → Vals vs us → RH X.K p.C m h H → RPs m h.size H args vs →
      Post X.K p RP (fun cls d H' => W cls d σ H') h m H (g args h) Q → wpAny (model X.prog X.w) X.A (call (.builtin id) us) (EP X pins σ Q) X.xe s) :
    SE G p sc (.Call (.Name x q) (e :: es) [] pos) (fun c s h => (l c s h).bind g) := by
  intro k W X cx
  refine ⟨fun pins s σ H Q I ⟨sv, h, m, rh, re, hp⟩ => ?_⟩
  refine wpAny_Call_Name_kw (ld_blt I (glob_of cx hg) (cx.g.free x hf) hv ?_ hn hd)
  obtain ⟨h1, h2⟩ := noStars_cons hs
  exact PyProof.Rows.callWith_builtin1 (args_run cx ha (g := g) I rh re hp fun us s1 vs H1 args h1 m1 I1 r l1 rh1 ra hp1 => hc k W X cx pins s1 σ H1 vs us Q args h1 m1 I1 r rh1 ra hp1) (star_no h1) (stars_plain h2)
theorem se_callTy {x : Str} {T : String} {e : Expr} {es : List Expr} {q : Pos} {l : XA} {g : List PV → Mem → Res PV} (hg : sc.scope.names.lookup x = some .globalImplicit) (hf : x ∈ G.free) (hv : bootBuiltins x = some (.type T)) (hn : x ≠ "__name__") (hd : (x == ("__debug__" : Str)) = false) (hs : noStars (e :: es) = true)
    (ha : SA G p sc (e :: es) l) (hc : ∀ k W X, ECx G p k sc W X → ∀ (pins : List (Addr × Obj)) (s : Shared) (σ : L2.St) (H : Hp) (vs : List V) (us : List Value) (Q : VK) (args : List PV) (h : Mem) (m : Mp), L2.Inv X pins σ H s → Vals vs us → RH X.K p.C m h H → RPs m h.size H args vs →
      Post X.K p RP (fun cls d H' => W cls d σ H') h m H (g args h) Q → wpAny (model X.prog X.w) X.A (call (.type T) us) (EP X pins σ Q) X.xe s) :
    SE G p sc (.Call (.Name x q) (e :: es) [] pos) (fun c s h => (l c s h).bind g) := by
  intro k W X cx
  refine ⟨fun pins s σ H Q I ⟨sv, h, m, rh, re, hp⟩ => ?_⟩
  refine wpAny_Call_Name_kw (ld_blt I (glob_of cx hg) (cx.g.free x hf) hv ?_ hn hd)
  obtain ⟨h1, h2⟩ := noStars_cons hs
  exact PyProof.Rows.callWith_type1 (args_run cx ha (g := g) I rh re hp fun us s1 vs H1 args h1 m1 I1 r l1 rh1 ra hp1 => hc k W X cx pins s1 σ H1 vs us Q args h1 m1 I1 r rh1 ra hp1) (star_no h1) (stars_plain h2)
/-- .. of one expression that is a list, used at once -/
theorem se_lcall {x : Str} {id : String} {e : Expr} {q : Pos} {l : XA} {g : List PV → Mem → Res PV} (hg : sc.scope.names.lookup x = some .globalImplicit) (hf : x ∈ G.free) (hv : bootBuiltins x = some (.builtin id)) (hn : x ≠ "__name__") (hd : (x == ("__debug__" : Str)) = false) (hs : notStar e = true)
    (ha : SL G p sc e l) (hc : ∀ k W X, ECx G p k sc W X → ∀ (pins : List (Addr × Obj)) (s : Shared) (σ : L2.St) (H : Hp) (v : V) (u : Value) (Q : VK) (xs : List PV) (h : Mem) (m : Mp), L2.Inv X pins σ H s → RelV v u → RH X.K p.C m h H → RL X.K m h.size H xs v →
      Post X.K p RP (fun cls d H' => W cls d σ H') h m H (g xs h) Q → wpAny (model X.prog X.w) X.A (call (.builtin id) [u]) (EP X pins σ Q) X.xe s) :
    SE G p sc (.Call (.Name x q) [e] [] pos) (fun c s h => (l c s h).bind g) := by
  intro k W X cx
  refine ⟨fun pins s σ H Q I ⟨sv, h, m, rh, re, hp⟩ => ?_⟩
  refine wpAny_Call_Name_kw (ld_blt I (glob_of cx hg) (cx.g.free x hf) hv ?_ hn hd)
  refine PyProof.Rows.callWith_builtin1 ?_ (star_no hs) rfl
  rw [star_no hs]
  refine Calls.spliced_cons (thn ((ha k W X cx).run pins s σ H (fun v H1 => ∃ xs h1 m1, RH X.K p.C m1 h1 H1 ∧ RL X.K m1 h1.size H1 xs v ∧ Post X.K p RP (fun cls d H' => W cls d σ H') h1 m1 H1 (g xs h1) Q) I
    (tl_bind rh re hp fun v H1 xs h1 m1 l1 rh1 re1 ra hp1 => ⟨xs, h1, m1, rh1, ra, hp1⟩)) fun u s1 ⟨v, H1, I1, rv, xs, h1, m1, rh1, ra, hp1⟩ => ?_)
  exact Calls.spliced_nil (hc k W X cx pins s1 σ H1 v u Q xs h1 m1 I1 rv rh1 ra hp1)
end
end Ev
end

section
set_option Elab.async false
set_option linter.all false
set_option maxRecDepth 100000
/-! Ev: isinstance, len, all, any, max, min, int, tuple, append. -/
namespace Ev
open PySem PySem.Spec PyProof.Rows L2

section
variable {G : GT} {p : Pl} {sc : Sc} {a b : Expr} {fa fb : XE} {pos apos : Pos}

/-! ### isinstance -/
def tyN : IsK → Option String
  | .int => some "int"
  | .bool => some "bool"
  | .str => some "str"
  | .tuple => some "tuple"
  | .list => some "list"
  | .own _ => none
def kval (p : Pl) : IsK → Value
  | .own i => .ref (p.C i)
  | .int => .type "int"
  | .bool => .type "bool"
  | .str => .type "str"
  | .tuple => .type "tuple"
  | .list => .type "list"
def IsOk (G : GT) (k : IsK) (tab : List (Nat × Bool)) : Prop := ∀ j b, (j, b) ∈ tab → match k with
  | .own i => (j, i, b) ∈ G.isis
  | _ => b = false ∧ ∃ x, (x, j) ∈ G.cls
/-- a value's class, as isinstance's rules want it -/
theorem kit_pv {k : Nat} {W : WX} {X : Cx} (cx : ECx G p k sc W X) {pins : List (Addr × Obj)} {σ : L2.St} {H : Hp} {s : Shared} {x : PV} {v : V} {u : Value} {h : Mem} {m : Mp} (I : L2.Inv X pins σ H s) (rv : RelV v u) (rh : RH X.K p.C m h H) (ra : RP m h.size H x v)
    {kd : IsK} {tab : List (Nat × Bool)} {b : Bool} (e : isB kd tab x h = some b) (ok : IsOk G kd tab) (own : ∀ i, kd = .own i → ∃ y, (y, i) ∈ G.cls) :
    ∃ t P, PySem.W.KitX X.K u t P ∧ P s.heap ∧ u ≠ .builtin "__main__.__loader__#opaque" ∧ PySem.W.kitOne X.K t (kval p kd) = some b := by
  have ow : ∀ T ∈ ["NoneType", "bool", "int", "str", "tuple", "list", "dict"], ∀ i, kd = .own i → PySem.W.kitOne X.K (.type T) (.ref (p.C i)) = some false := fun T hT i hi => by
    obtain ⟨y, hy⟩ := own i hi
    exact (cx.g.isi y i hy).2.2 T hT
  cases x with
  | non =>
    obtain rfl : v = .non := ra.non_inv
    obtain rfl : u = Value.none := rv
    refine ⟨_, _, PySem.W.kitx_none, True.intro, (fun z => (nomatch z)), ?_⟩
    cases e
    cases kd <;> first | exact kit_ty (by decide +kernel) | exact ow _ (by simp) _ rfl
  | bl c =>
    obtain rfl : v = .bl c := ra.bl_inv
    obtain rfl : u = Value.bool c := rv
    refine ⟨_, _, PySem.W.kitx_bool, True.intro, (fun z => (nomatch z)), ?_⟩
    cases e
    cases kd <;> first | exact kit_ty (by decide +kernel) | exact ow _ (by simp) _ rfl
  | int i =>
    obtain rfl : v = .int i := ra.int_inv
    obtain ⟨t, rfl⟩ : ∃ t, u = Value.int i t := rv
    refine ⟨_, _, PySem.W.kitx_int, True.intro, (fun z => (nomatch z)), ?_⟩
    cases e
    cases kd <;> first | exact kit_ty (by decide +kernel) | exact ow _ (by simp) _ rfl
  | str z =>
    obtain rfl : v = .str z := ra.str_inv
    obtain ⟨t, rfl⟩ : ∃ t, u = Value.str z t := rv
    refine ⟨_, _, PySem.W.kitx_str, True.intro, (fun z => (nomatch z)), ?_⟩
    cases e
    cases kd <;> first | exact kit_ty (by decide +kernel) | exact ow _ (by simp) _ rfl
  | tup xs =>
    obtain ⟨q, vs, rfl, eq, rs⟩ := ra.tup_inv
    obtain rfl : u = Value.ref q := rv
    obtain ⟨_, _, _, o, h1, h2, _⟩ := (show ObjOk X.prog X.w H s.heap q (.tup vs) from I.hok q _ eq)
    refine ⟨_, _, PySem.W.kitx_tuple, ⟨o, h1, h2⟩, (fun z => (nomatch z)), ?_⟩
    cases e
    cases kd <;> first | exact kit_ty (by decide +kernel) | exact ow _ (by simp) _ rfl
  | ref n =>
    obtain ⟨ev, hn⟩ := ra.ref_inv
    subst ev
    obtain rfl : u = Value.ref (m.a n) := rv
    have e : (match h.get n with
      | some (.lst _) => some (isLst kd)
      | some (.dic _) => some false
      | some (.ins j _) => lookC j tab
      | _ => none) = some b := e
    split at e
    · rename_i xs hx
      obtain ⟨_, vs, ev, rs⟩ := rh.obj n _ hx
      obtain ⟨_, _, k', _, h1⟩ := (show ObjOk X.prog X.w H s.heap (m.a n) (.lst vs) from I.hok _ _ ev)
      refine ⟨_, _, PySem.W.kitx_list, ⟨_, h1, rfl⟩, (fun z => (nomatch z)), ?_⟩
      cases e
      cases kd <;> first | exact kit_ty (by decide +kernel) | exact ow _ (by simp) _ rfl
    · rename_i kvs hx
      obtain ⟨o, _, _, _, _, _, _, _, h1, h2, _⟩ := dic_at I rh hx
      refine ⟨_, _, PySem.W.kitx_dict, ⟨o, h1, h2.1⟩, (fun z => (nomatch z)), ?_⟩
      cases e
      cases kd <;> first | exact kit_ty (by decide +kernel) | exact ow _ (by simp) _ rfl
    · rename_i j fs hx
      obtain ⟨_, _, vs, hs, rs⟩ := rh.obj n _ hx
      have hm := ok j b (lookC_mem e)
      obtain ⟨y, hy⟩ : ∃ y, (y, j) ∈ G.cls := by
        cases kd <;> first | exact hm.2 | exact (cx.g.iso _ _ _ hm).1
      obtain ⟨hi, hT, _⟩ := cx.g.isi y j hy
      have hc := (cx.g.cl y j hy).2
      obtain ⟨sl, od, _, J, _⟩ := SlX.slt_inst I hs
      refine ⟨_, _, OwX.kitx_slt hc.ic (hc.get _) hi.ca hi.cn hi.ct hi.cm, J, (fun z => (nomatch z)), ?_⟩
      cases kd <;> first | exact (cx.g.iso _ _ _ hm).2 | (rw [hm.1]; exact hT _ (by simp))
    · cases e
theorem isi_run {k : Nat} {W : WX} {X : Cx} (cx : ECx G p k sc W X) {kd : IsK} {tab : List (Nat × Bool)} (ok : IsOk G kd tab) (own : ∀ i, kd = .own i → ∃ y, (y, i) ∈ G.cls) {cv : V} {cu : Value}
    (hcv : ∀ w, RelV cv w → w = cu) (hcu : cu = (kval p kd)) :
    CallR X (.builtin "isinstance") (fun xs H Q => ∃ x a h m b, xs = [x, cv] ∧ RH X.K p.C m h H ∧ RP m h.size H a x ∧ isB kd tab a h = some b ∧ Q (.bl b) H) := by
  rintro pins s σ H xs us Q I r ⟨x, a, h, m, b, rfl, rh, ra, e, q⟩
  obtain ⟨u1, u2, rfl, r1, r2⟩ := vals2 r
  cases hcv _ r2
  obtain ⟨t, P, Z, pp, hx, hk⟩ := kit_pv cx I r1 rh ra e ok own
  rw [hcu]
  exact PySem.W.kia_one Z I.kIn pp hk hx fun tk => ⟨.bl b, H, I.tok tk, rfl, q⟩
theorem is_read {K : PySem.W.Frag} {W : WX} {c : Calls} {kd : IsK} {tab : List (Nat × Bool)} {cv : V} {σ : L2.St} {H : Hp} {Q : VK} (h : teOf K p W c (eIs kd tab fa) σ H Q) :
    tCB (fun xs H Q => ∃ x a h m b, xs = [x, cv] ∧ RH K p.C m h H ∧ RP m h.size H a x ∧ isB kd tab a h = some b ∧ Q (.bl b) H) (tCons (teOf K p W c fa) (tCons (tC cv) tNil)) σ H Q := by
  obtain ⟨s, h, m, rh, re, hp⟩ := h
  refine te_bind rh re hp fun v H1 x h1 m1 l1 rh1 re1 ra hp1 => ?_
  obtain ⟨w, e0, hp1⟩ := ofO_post hp1
  obtain ⟨b, e, rfl⟩ := map_bl e0
  exact ⟨v, x, h1, m1, b, rfl, rh1, ra, e, hp1 m1 H1 _ rh1.refl rh1 (.bl b)⟩
theorem se_isT {T : Str} {kd : IsK} {n : String} {tab : List (Nat × Bool)} {q q2 : Pos} (hg : sc.scope.names.lookup ("isinstance" : Str) = some .globalImplicit) (hf : ("isinstance" : Str) ∈ G.free) (hT : sc.scope.names.lookup T = some .globalImplicit) (hfT : T ∈ G.free) (hv : bootBuiltins T = some (.type n)) (hn : T ≠ "__name__") (hd : (T == ("__debug__" : Str)) = false)
    (hk : tyN kd = some n) (ok : IsOk G kd tab) (hs : notStar a = true) (ha : SE G p sc a fa) : SE G p sc (.Call (.Name "isinstance" q) [a, .Name T q2] [] pos) (eIs kd tab fa) := fun k W X cx =>
  PE.imp (pe_callB (isi_run cx ok (fun i e => by subst e; cases hk) (cv := .ty n) (cu := .type n) (fun w r => r) (by cases kd <;> cases hk <;> rfl)) (glob_of cx hg) (cx.g.free _ hf) (by decide +kernel)
    (pa_cons (ha k W X cx) (pa_cons (pe_bltn (v := .ty n) (glob_of cx hT) (cx.g.free T hfT) hv rfl hn hd) pa_nil) (star_no hs)) (by decide) (by decide) (star_no hs)) fun σ H Q h => is_read h
theorem se_isC {x : Str} {i : Nat} {tab : List (Nat × Bool)} {q q2 : Pos} (hg : sc.scope.names.lookup ("isinstance" : Str) = some .globalImplicit) (hf : ("isinstance" : Str) ∈ G.free) (hx : sc.scope.names.lookup x = some .globalImplicit) (hc : (x, i) ∈ G.cls) (hd : (x == ("__debug__" : Str)) = false)
    (ok : IsOk G (.own i) tab) (hs : notStar a = true) (ha : SE G p sc a fa) : SE G p sc (.Call (.Name "isinstance" q) [a, .Name x q2] [] pos) (eIs (.own i) tab fa) := fun k W X cx =>
  PE.imp (pe_callB (isi_run cx ok (fun j e => by cases e; exact ⟨x, hc⟩) (cv := .ref (p.C i)) (cu := .ref (p.C i)) (fun w r => r) rfl) (glob_of cx hg) (cx.g.free _ hf) (by decide +kernel)
    (pa_cons (ha k W X cx) (pa_cons (pe_glob (v := .ref (p.C i)) (glob_of cx hx) (cx.g.cl x i hc).1 rfl hd) pa_nil) (star_no hs)) (by decide) (by decide) (star_no hs)) fun σ H Q h => is_read h

/-! ### all, any -/
theorem blsOf_ok {m : Mp} {z : Nat} {H : Hp} : ∀ {xs : List PV} {vs : List V} {bs : List Bool}, RPs m z H xs vs → blsOf xs = some bs → vs = bs.map V.bl
  | [], _, bs, .nil, e => by cases e; rfl
  | x :: xs, _, bs, .cons r rs, e => by
    cases x <;> first | (cases e; done) | skip
    rename_i b
    cases e1 : blsOf xs with
    | none => simp only [blsOf, e1] at e; cases e
    | some cs =>
      simp only [blsOf, e1] at e
      cases e
      rw [r.bl_inv, blsOf_ok rs e1]
      rfl
theorem allB_eq : ∀ bs : List Bool, allB bs = bs.all id
  | [] => rfl
  | true :: bs => by show allB bs = _; rw [allB_eq bs]; rfl
  | false :: bs => rfl
theorem anyB_eq : ∀ bs : List Bool, anyB bs = bs.any id
  | [] => rfl
  | true :: bs => rfl
  | false :: bs => by show anyB bs = _; rw [anyB_eq bs]; rfl
theorem se_all {q : Pos} {l : XA} (hg : sc.scope.names.lookup ("all" : Str) = some .globalImplicit) (hf : ("all" : Str) ∈ G.free) (hs : notStar a = true) (ha : SL G p sc a l) : SE G p sc (.Call (.Name "all" q) [a] [] pos) (eAll l) := by
  refine se_lcall hg hf (id := "all") (by decide +kernel) (by decide) (by decide) hs ha (g := fun xs h1 => match blsOf xs with
    | some bs => .ok (.bl (allB bs)) h1
    | none => .bad) fun k W X cx pins s σ H v u Q xs h m I rv rh rl hp => ?_
  cases e : blsOf xs with
  | none => simp only [e] at hp; exact hp.elim
  | some bs =>
    simp only [e] at hp
    obtain ⟨l, vs, rfl, hl, rs⟩ := rl
    rw [blsOf_ok rs e] at hl
    have q := hp m H _ rh.refl rh (.bl _)
    rw [allB_eq] at q
    exact cr_all cx.calm pins s σ H [.ref l] [u] Q I (.cons rv .nil) ⟨l, bs, rfl, hl, q⟩
theorem se_any {q : Pos} {l : XA} (hg : sc.scope.names.lookup ("any" : Str) = some .globalImplicit) (hf : ("any" : Str) ∈ G.free) (hs : notStar a = true) (ha : SL G p sc a l) : SE G p sc (.Call (.Name "any" q) [a] [] pos) (eAny l) := by
  refine se_lcall hg hf (id := "any") (by decide +kernel) (by decide) (by decide) hs ha (g := fun xs h1 => match blsOf xs with
    | some bs => .ok (.bl (anyB bs)) h1
    | none => .bad) fun k W X cx pins s σ H v u Q xs h m I rv rh rl hp => ?_
  cases e : blsOf xs with
  | none => simp only [e] at hp; exact hp.elim
  | some bs =>
    simp only [e] at hp
    obtain ⟨l, vs, rfl, hl, rs⟩ := rl
    rw [blsOf_ok rs e] at hl
    have q := hp m H _ rh.refl rh (.bl _)
    rw [anyB_eq] at q
    exact cr_any cx.calm pins s σ H [.ref l] [u] Q I (.cons rv .nil) ⟨l, bs, rfl, hl, q⟩
end
end Ev
end

section
set_option Elab.async false
set_option linter.all false
set_option maxRecDepth 100000
/-! Ev: len, max, min, int, abs, tuple, list, sum, append. -/
namespace Ev
open PySem PySem.Spec PyProof.Rows L2

section
variable {G : GT} {p : Pl} {sc : Sc} {a b : Expr} {fa fb : XE} {pos apos : Pos}
theorem se_max2 {q : Pos} {l : XA} {e : Expr} {es : List Expr} (hg : sc.scope.names.lookup ("max" : Str) = some .globalImplicit) (hf : ("max" : Str) ∈ G.free) (hs : noStars (e :: es) = true) (ha : SA G p sc (e :: es) l) : SE G p sc (.Call (.Name "max" q) (e :: es) [] pos) (eB gMax2 l) := by
  refine se_callB hg hf (id := "max") (by decide +kernel) (by decide) (by decide) hs ha fun k W X cx pins s σ H vs us Q args h m I rv rh ra hp => ?_
  unfold gMax2 at hp
  split at hp
  · rename_i i j
    obtain ⟨v, w, rfl, r1, r2⟩ := ra.two
    rw [r1.int_inv, r2.int_inv] at rv
    refine call_max2 cx.calm pins s σ H _ us Q I rv ⟨i, j, rfl, ?_⟩
    have q := hp m H _ rh.refl rh (.int _)
    cases c : ilt i j with
    | true => rw [c] at q; rw [if_pos (by have := ilt_iff.mp c; omega)]; exact q
    | false =>
      rw [c] at q
      rw [if_neg (fun z => by have := ilt_iff.mpr (show i < j by omega); rw [c] at this; cases this)]
      exact q
  · exact hp.elim
theorem se_min2 {q : Pos} {l : XA} {e : Expr} {es : List Expr} (hg : sc.scope.names.lookup ("min" : Str) = some .globalImplicit) (hf : ("min" : Str) ∈ G.free) (hs : noStars (e :: es) = true) (ha : SA G p sc (e :: es) l) : SE G p sc (.Call (.Name "min" q) (e :: es) [] pos) (eB gMin2 l) := by
  refine se_callB hg hf (id := "min") (by decide +kernel) (by decide) (by decide) hs ha fun k W X cx pins s σ H vs us Q args h m I rv rh ra hp => ?_
  unfold gMin2 at hp
  split at hp
  · rename_i i j
    obtain ⟨v, w, rfl, r1, r2⟩ := ra.two
    rw [r1.int_inv, r2.int_inv] at rv
    refine call_min2 cx.calm pins s σ H _ us Q I rv ⟨i, j, rfl, ?_⟩
    have q := hp m H _ rh.refl rh (.int _)
    cases c : ilt j i with
    | true => rw [c] at q; rw [if_pos (ilt_iff.mp c)]; exact q
    | false =>
      rw [c] at q
      rw [if_neg (fun z => by have := ilt_iff.mpr z; rw [c] at this; cases this)]
      exact q
  · exact hp.elim
theorem se_int1 {q : Pos} {l : XA} {e : Expr} {es : List Expr} (hg : sc.scope.names.lookup ("int" : Str) = some .globalImplicit) (hf : ("int" : Str) ∈ G.free) (hs : noStars (e :: es) = true) (ha : SA G p sc (e :: es) l) : SE G p sc (.Call (.Name "int" q) (e :: es) [] pos) (eB gInt l) := by
  refine se_callTy hg hf (T := "int") (by decide +kernel) (by decide) (by decide) hs ha fun k W X cx pins s σ H vs us Q args h m I rv rh ra hp => ?_
  unfold gInt at hp
  split at hp
  · rename_i i
    obtain ⟨v, rfl, r1⟩ := ra.one
    rw [r1.int_inv] at rv
    exact call_int1 pins s σ H _ us Q I rv (.inl ⟨i, rfl, hp m H _ rh.refl rh (.int _)⟩)
  · rename_i i
    obtain ⟨v, rfl, r1⟩ := ra.one
    rw [r1.bl_inv] at rv
    have q := hp m H _ rh.refl rh (.int _)
    refine call_int1 pins s σ H _ us Q I rv (.inr ⟨i, rfl, ?_⟩)
    cases i <;> exact q
  · exact hp.elim
theorem se_abs {q : Pos} {l : XA} {e : Expr} {es : List Expr} (hg : sc.scope.names.lookup ("abs" : Str) = some .globalImplicit) (hf : ("abs" : Str) ∈ G.free) (hs : noStars (e :: es) = true) (ha : SA G p sc (e :: es) l) : SE G p sc (.Call (.Name "abs" q) (e :: es) [] pos) (eB gAbs l) := by
  refine se_callB hg hf (id := "abs") (by decide +kernel) (by decide) (by decide) hs ha fun k W X cx pins s σ H vs us Q args h m I rv rh ra hp => ?_
  unfold gAbs at hp
  split at hp
  · rename_i i
    obtain ⟨v, rfl, r1⟩ := ra.one
    rw [r1.int_inv] at rv
    have q := hp m H _ rh.refl rh (.int _)
    refine call_abs pins s σ H _ us Q I rv ⟨i, rfl, ?_⟩
    cases i with
    | ofNat n => rw [if_neg (by simp only [Int.ofNat_eq_natCast]; omega)]; exact q
    | negSucc n => rw [if_pos (by omega)]; exact q
  · exact hp.elim
/-- a call of a type with one list, used at once -/
theorem se_lcallTy {x : Str} {T : String} {e : Expr} {q : Pos} {l : XA} {g : List PV → Mem → Res PV} (hg : sc.scope.names.lookup x = some .globalImplicit) (hf : x ∈ G.free) (hv : bootBuiltins x = some (.type T)) (hn : x ≠ "__name__") (hd : (x == ("__debug__" : Str)) = false) (hs : notStar e = true)
    (ha : SL G p sc e l) (hc : ∀ k W X, ECx G p k sc W X → ∀ (pins : List (Addr × Obj)) (s : Shared) (σ : L2.St) (H : Hp) (v : V) (u : Value) (Q : VK) (xs : List PV) (h : Mem) (m : Mp), L2.Inv X pins σ H s → RelV v u → RH X.K p.C m h H → RL X.K m h.size H xs v →
      Post X.K p RP (fun cls d H' => W cls d σ H') h m H (g xs h) Q → wpAny (model X.prog X.w) X.A (call (.type T) [u]) (EP X pins σ Q) X.xe s) :
    SE G p sc (.Call (.Name x q) [e] [] pos) (eB g l) := by
  intro k W X cx
  refine ⟨fun pins s σ H Q I ⟨sv, h, m, rh, re, hp⟩ => ?_⟩
  refine wpAny_Call_Name_kw (ld_blt I (glob_of cx hg) (cx.g.free x hf) hv ?_ hn hd)
  refine PyProof.Rows.callWith_type1 ?_ (star_no hs) rfl
  rw [star_no hs]
  refine Calls.spliced_cons (thn ((ha k W X cx).run pins s σ H (fun v H1 => ∃ xs h1 m1, RH X.K p.C m1 h1 H1 ∧ RL X.K m1 h1.size H1 xs v ∧ Post X.K p RP (fun cls d H' => W cls d σ H') h1 m1 H1 (g xs h1) Q) I
    (tl_bind rh re hp fun v H1 xs h1 m1 l1 rh1 re1 ra hp1 => ⟨xs, h1, m1, rh1, ra, hp1⟩)) fun u s1 ⟨v, H1, I1, rv, xs, h1, m1, rh1, ra, hp1⟩ => ?_)
  exact Calls.spliced_nil (hc k W X cx pins s1 σ H1 v u Q xs h1 m1 I1 rv rh1 ra hp1)
theorem se_tupL {q : Pos} {l : XA} (hg : sc.scope.names.lookup ("tuple" : Str) = some .globalImplicit) (hf : ("tuple" : Str) ∈ G.free) (hs : notStar a = true) (ha : SL G p sc a l) : SE G p sc (.Call (.Name "tuple" q) [a] [] pos) (eB gTupL l) := by
  refine se_lcallTy hg hf (T := "tuple") (by decide +kernel) (by decide) (by decide) hs ha fun k W X cx pins s σ H v u Q xs h m I rv rh rl hp => ?_
  obtain ⟨q, vs, rfl, hl, rs⟩ := rl
  exact call_tuple_of pins s σ H [.ref q] [u] Q I (.cons rv .nil) ⟨q, vs, rfl, .inl ⟨hl, fun r hr => post_newT rh hr rs hp⟩⟩
theorem se_listL {q : Pos} {l : XA} (hg : sc.scope.names.lookup ("list" : Str) = some .globalImplicit) (hf : ("list" : Str) ∈ G.free) (hs : notStar a = true) (ha : SL G p sc a l) : SE G p sc (.Call (.Name "list" q) [a] [] pos) (eB gListL l) := by
  refine se_lcallTy hg hf (T := "list") (by decide +kernel) (by decide) (by decide) hs ha fun k W X cx pins s σ H v u Q xs h m I rv rh rl hp => ?_
  obtain ⟨q, vs, rfl, hl, rs⟩ := rl
  exact call_list_of pins s σ H [.ref q] [u] Q I (.cons rv .nil) ⟨q, vs, rfl, .inl hl, fun r hr => post_newL rh hr rs hp⟩
theorem sumI_eq : ∀ is : List Int, sumI is = is.sum
  | [] => rfl
  | i :: is => by show i + sumI is = _; rw [sumI_eq is, List.sum_cons]
theorem se_sum {q : Pos} {l : XA} (hg : sc.scope.names.lookup ("sum" : Str) = some .globalImplicit) (hf : ("sum" : Str) ∈ G.free) (hs : notStar a = true) (ha : SL G p sc a l) : SE G p sc (.Call (.Name "sum" q) [a] [] pos) (eB gSum l) := by
  refine se_lcall hg hf (id := "sum") (by decide +kernel) (by decide) (by decide) hs ha (g := gSum) fun k W X cx pins s σ H v u Q xs h m I rv rh rl hp => ?_
  unfold gSum at hp
  cases e : intsOf xs with
  | none => rw [e] at hp; exact hp.elim
  | some is =>
    rw [e] at hp
    obtain ⟨q, vs, rfl, hl, rs⟩ := rl
    rw [intsOf_ok rs e] at hl
    have q := hp m H _ rh.refl rh (.int _)
    rw [sumI_eq] at q
    exact cr_sum cx.calm pins s σ H [.ref _] [u] Q I (.cons rv .nil) ⟨_, is, rfl, hl, q⟩
theorem maxI_ok : ∀ (is : List Int) (m : Int), (maxI m is = m ∨ maxI m is ∈ is) ∧ m ≤ maxI m is ∧ ∀ y ∈ is, y ≤ maxI m is
  | [], m => ⟨.inl rfl, Int.le_refl _, fun _ h => by cases h⟩
  | i :: is, m => by
    have e : maxI m (i :: is) = maxI (cnd (ilt m i) i m) is := rfl
    obtain ⟨h1, h2, h3⟩ := maxI_ok is (cnd (ilt m i) i m)
    rw [← e] at h1 h2 h3
    cases c : ilt m i with
    | true =>
      have := ilt_iff.mp c
      rw [c] at h1 h2
      simp only [cnd_true] at h1 h2
      refine ⟨.inr ?_, by omega, fun y hy => ?_⟩
      · rcases h1 with h1 | h1
        · rw [h1]; exact List.mem_cons_self
        · exact List.mem_cons_of_mem _ h1
      · rcases List.mem_cons.mp hy with rfl | hy
        · exact h2
        · exact h3 y hy
    | false =>
      have : ¬ m < i := fun z => by rw [ilt_iff.mpr z] at c; cases c
      rw [c] at h1 h2
      simp only [cnd_false] at h1 h2
      refine ⟨?_, h2, fun y hy => ?_⟩
      · rcases h1 with h1 | h1
        · exact .inl h1
        · exact .inr (List.mem_cons_of_mem _ h1)
      · rcases List.mem_cons.mp hy with rfl | hy
        · omega
        · exact h3 y hy
theorem minI_ok : ∀ (is : List Int) (m : Int), (minI m is = m ∨ minI m is ∈ is) ∧ minI m is ≤ m ∧ ∀ y ∈ is, minI m is ≤ y
  | [], m => ⟨.inl rfl, Int.le_refl _, fun _ h => by cases h⟩
  | i :: is, m => by
    have e : minI m (i :: is) = minI (cnd (ilt i m) i m) is := rfl
    obtain ⟨h1, h2, h3⟩ := minI_ok is (cnd (ilt i m) i m)
    rw [← e] at h1 h2 h3
    cases c : ilt i m with
    | true =>
      have := ilt_iff.mp c
      rw [c] at h1 h2
      simp only [cnd_true] at h1 h2
      refine ⟨.inr ?_, by omega, fun y hy => ?_⟩
      · rcases h1 with h1 | h1
        · rw [h1]; exact List.mem_cons_self
        · exact List.mem_cons_of_mem _ h1
      · rcases List.mem_cons.mp hy with rfl | hy
        · exact h2
        · exact h3 y hy
    | false =>
      have : ¬ i < m := fun z => by rw [ilt_iff.mpr z] at c; cases c
      rw [c] at h1 h2
      simp only [cnd_false] at h1 h2
      refine ⟨?_, h2, fun y hy => ?_⟩
      · rcases h1 with h1 | h1
        · exact .inl h1
        · exact .inr (List.mem_cons_of_mem _ h1)
      · rcases List.mem_cons.mp hy with rfl | hy
        · omega
        · exact h3 y hy
theorem se_maxL {q : Pos} {l : XA} (hg : sc.scope.names.lookup ("max" : Str) = some .globalImplicit) (hf : ("max" : Str) ∈ G.free) (hs : notStar a = true) (ha : SL G p sc a l) : SE G p sc (.Call (.Name "max" q) [a] [] pos) (eB gMaxL l) := by
  refine se_lcall hg hf (id := "max") (by decide +kernel) (by decide) (by decide) hs ha (g := gMaxL) fun k W X cx pins s σ H v u Q xs h m I rv rh rl hp => ?_
  unfold gMaxL at hp
  split at hp
  · rename_i i is e
    obtain ⟨q, vs, rfl, hl, rs⟩ := rl
    rw [intsOf_ok rs e] at hl
    have qq := hp m H _ rh.refl rh (.int _)
    refine cr_max cx.calm pins s σ H [.ref _] [u] Q I (.cons rv .nil) ⟨_, i :: is, rfl, hl, by simp, fun k hk hb => ?_⟩
    obtain ⟨h1, h2, h3⟩ := maxI_ok is i
    have : k = maxI i is := by
      have a1 : k ≤ maxI i is := by
        rcases List.mem_cons.mp hk with rfl | hk
        · exact h2
        · exact h3 k hk
      have a2 : maxI i is ≤ k := by
        rcases h1 with h1 | h1
        · rw [h1]; exact hb i List.mem_cons_self
        · exact hb _ (List.mem_cons_of_mem _ h1)
      omega
    rw [this]
    exact qq
  · exact hp.elim
theorem se_minL {q : Pos} {l : XA} (hg : sc.scope.names.lookup ("min" : Str) = some .globalImplicit) (hf : ("min" : Str) ∈ G.free) (hs : notStar a = true) (ha : SL G p sc a l) : SE G p sc (.Call (.Name "min" q) [a] [] pos) (eB gMinL l) := by
  refine se_lcall hg hf (id := "min") (by decide +kernel) (by decide) (by decide) hs ha (g := gMinL) fun k W X cx pins s σ H v u Q xs h m I rv rh rl hp => ?_
  unfold gMinL at hp
  split at hp
  · rename_i i is e
    obtain ⟨q, vs, rfl, hl, rs⟩ := rl
    rw [intsOf_ok rs e] at hl
    have qq := hp m H _ rh.refl rh (.int _)
    refine cr_min cx.calm pins s σ H [.ref _] [u] Q I (.cons rv .nil) ⟨_, i :: is, rfl, hl, by simp, fun k hk hb => ?_⟩
    obtain ⟨h1, h2, h3⟩ := minI_ok is i
    have : k = minI i is := by
      have a1 : minI i is ≤ k := by
        rcases List.mem_cons.mp hk with rfl | hk
        · exact h2
        · exact h3 k hk
      have a2 : k ≤ minI i is := by
        rcases h1 with h1 | h1
        · rw [h1]; exact hb i List.mem_cons_self
        · exact hb _ (List.mem_cons_of_mem _ h1)
      omega
    rw [this]
    exact qq
  · exact hp.elim

/-! ### len -/
theorem se_len {q : Pos} {tab : List (Nat × Nat)} (ht : MethOk G ("__len__" : Str) tab) (hg : sc.scope.names.lookup ("len" : Str) = some .globalImplicit) (hf : ("len" : Str) ∈ G.free) (hs : notStar a = true) (ha : SE G p sc a fa) : SE G p sc (.Call (.Name "len" q) [a] [] pos) (eLen tab fa) := by
  intro k W X cx
  refine ⟨fun pins s σ H Q I ⟨sv, h, m, rh, re, hp⟩ => ?_⟩
  refine wpAny_Call_Name_kw (ld_blt I (glob_of cx hg) (cx.g.free _ hf) PySem.boot_len ?_)
  refine PyProof.Rows.callWith_builtin1 ?_ (star_no hs) rfl
  rw [star_no hs]
  refine Calls.spliced_cons (thn ((ha k W X cx).run pins s σ H (fun v H1 => ∃ x h1 m1, RH X.K p.C m1 h1 H1 ∧ RP m1 h1.size H1 x v ∧ Post X.K p RP (fun cls d H' => W cls d σ H') h1 m1 H1 (lenV tab (callD G.tab k) x h1) Q) I
    (te_bind rh re hp fun v H1 x h1 m1 l1 rh1 re1 ra hp1 => ⟨x, h1, m1, rh1, ra, hp1⟩)) fun u s1 ⟨v, H1, I1, rv, x, h1, m1, rh1, ra, hp1⟩ => Calls.spliced_nil ?_)
  unfold lenV at hp1
  cases x <;> first | (exact hp1.elim) | skip
  · rename_i z
    rw [ra.str_inv] at rv
    obtain ⟨c, hp1⟩ := cnd_post hp1
    have hsl : sizeLine = 16777216 := by decide
    have c1 : z.length ≤ 65536 := by unfold fitsN at c; rwa [Nat.ble_eq] at c
    exact call_len_str pins s1 σ H1 [.str z] [u] Q I1 (.cons rv .nil) ⟨z, rfl, by omega, hp1 m1 H1 _ rh1.refl rh1 (.int _)⟩
  · rename_i xs
    obtain ⟨q, vs, rfl, eq, rs⟩ := ra.tup_inv
    have qq := hp1 m1 H1 _ rh1.refl rh1 (.int _)
    rw [← rs.length] at qq
    exact call_len_seq pins s1 σ H1 [.ref q] [u] Q I1 (.cons rv .nil) ⟨q, vs, rfl, .inr (SqT.of eq), qq⟩
  · rename_i n
    obtain ⟨ev, hn⟩ := ra.ref_inv
    subst ev
    simp only at hp1
    split at hp1
    · rename_i xs hx
      obtain ⟨vs, hl, rs⟩ := rh1.sqL (.inl hx)
      have qq := hp1 m1 H1 _ rh1.refl rh1 (.int _)
      rw [← rs.length] at qq
      exact call_len_seq pins s1 σ H1 [.ref _] [u] Q I1 (.cons rv .nil) ⟨_, vs, rfl, .inl hl, qq⟩
    · rename_i xs hx
      obtain ⟨vs, hl, rs⟩ := rh1.sqL (.inr hx)
      have qq := hp1 m1 H1 _ rh1.refl rh1 (.int _)
      rw [← rs.length] at qq
      exact call_len_seq pins s1 σ H1 [.ref _] [u] Q I1 (.cons rv .nil) ⟨_, vs, rfl, .inl hl, qq⟩
    · rename_i kvs hx
      obtain ⟨c, hp1⟩ := cnd_post hp1
      have qq := hp1 m1 H1 _ rh1.refl rh1 (.int _)
      obtain rfl : u = Value.ref (m1.a n) := rv
      exact kd_len I1 rh1 hx fun t s' I' => ⟨.int (kvs.length : Nat), H1, I', ⟨t, rfl⟩, qq⟩
    · rename_i c fs hx
      cases el : lookC c tab with
      | none => simp only [el] at hp1; exact hp1.elim
      | some f =>
        simp only [el] at hp1
        obtain ⟨sc', mm⟩ := cx.g.me c _ f (ht c f (lookC_mem el))
        obtain ⟨_, _, vs, hs', rs⟩ := rh1.obj n _ hx
        have nb : callD G.tab k f [.ref n] h1 ≠ .bad := by
          intro z
          rw [z] at hp1
          exact hp1.elim
        obtain ⟨d, ed⟩ := nth_some nb
        obtain ⟨F, kp⟩ := cx.g.fn f d ed
        obtain ⟨sl, od, _, J, _⟩ := SlX.slt_inst I1 hs'
        obtain ⟨mf, FR⟩ := I1.fr
        obtain rfl : u = Value.ref (m1.a n) := rv
        refine PySem.W.len_K FR I1.mod.kin J mm.at_ mm.fn ?_
        have hr : Room (4 * k) X.A.in1 := (cx.room.mono (j := 4 * k + 1) (by omega)).in1
        have hsp : spF X.K p (callD G.tab k) f [.ref (m1.a n)] H1 (fun v' H2 => ∃ i : Int, v' = .int i ∧ (0 ≤ i ∧ i < 65536) ∧ Q (.int i) H2) (fun _ _ _ => False) := by
          refine ⟨h1, m1, [.ref n], rh1, .cons ra .nil, ?_⟩
          cases er : callD G.tab k f [.ref n] h1 with
          | bad => exact absurd er nb
          | err x' h' => rw [er] at hp1; exact hp1.elim
          | ok v' h' =>
            rw [er] at hp1
            intro m2 H2 w l2 rh2 rw2
            replace hp1 : Post X.K p RP (fun cls d H' => W cls d σ H') h1 m1 H1 (lenI v' h') Q := hp1
            unfold lenI at hp1
            cases v' <;> first | exact hp1.elim | skip
            rename_i i
            obtain ⟨c1, hp1⟩ := cnd_post hp1
            obtain ⟨c2, hp1⟩ := cnd_post hp1
            rw [ile_eq, decide_eq_true_iff] at c1
            exact ⟨i, rw2.int_inv, ⟨c1, ilt_iff.mp c2⟩, hp1 m2 H2 _ l2 rh2 (.int i)⟩
        refine wpAny_mono (wpAny_call (SlX.run_at (A := X.A.in1) (E := fun _ _ _ => False) F hr I1.env0.in1 (fun _ _ _ _ _ _ _ z => (cx_false z).elim) I1 (ws := [.ref (m1.a n)]) (us := [.ref (m1.a n)]) (.cons rfl .nil) hsp)) (fun w s2 ⟨v', H2, I2, rw2, i, ei, hb, q⟩ => ?_) fun _ _ z => z
        subst ei
        obtain ⟨t, rfl⟩ := rw2
        refine ⟨⟨hb.1, by omega⟩, .int i, H2, I2.tok _, ⟨_, rfl⟩, q⟩
    · exact hp1.elim
end
end Ev
end

section
set_option Elab.async false
set_option linter.all false
set_option maxRecDepth 100000
/-! Ev: append, targets, statements. -/
namespace Ev
open PySem PySem.Spec PyProof.Rows L2

section
variable {G : GT} {p : Pl} {sc : Sc} {a b : Expr} {fa fb : XE} {pos apos : Pos}
/-- o.append(e) -/
theorem app_ok' {X : Cx} : MtR X "list.append" (fun x xs H Q => ∃ (n : Nat) (y : PV) (l : List PV) (w : V) (h : Mem) (m : Mp), x = .ref (m.a n) ∧ xs = [w] ∧ RH X.K p.C m h H ∧ h.get n = some (.lst l) ∧ RP m h.size H y w ∧ fits l = true ∧ h.free n = true ∧
    Post X.K p RP (fun _ _ _ => False) h m H (.ok .non (h.set n (.lst (l ++ [y])))) Q) := by
  rintro pins s σ H x xs v us Q I rx rxs ⟨n, y, l, w, h, m, rfl, rfl, rh, hn, ry, hf, hfr, hp⟩
  obtain ⟨_, vs, ev, rs⟩ := rh.obj n _ hn
  have hsl : sizeLine = 16777216 := by decide
  have hl : l.length ≤ 65536 := by unfold fits fitsN at hf; rwa [Nat.ble_eq] at hf
  have hvl := rs.length
  obtain ⟨l', rh'⟩ := rh.putL hn (Mem.free_iff.mp hfr) (rs.append (.cons ry .nil))
  exact mt_append pins s σ H _ _ v us Q I rx rxs ⟨m.a n, vs, w, rfl, rfl, ev, by omega, hp _ _ _ l' rh' .non⟩
theorem few_app {e : Expr} {env : PySem.Env} (hs : notStar e = true) : ((backTo pos (starEach [e] env)).all (fun x => !x.1) && (backToKw pos (keywordEach [] env)).all (fun x => x.1.isSome)
      && decide (([e] : List Expr).length + ([] : List Keyword).length + (if ([] : List Keyword).isEmpty then 0 else 1) < 30)) = true := by
  rw [star_no hs]
  rfl
theorem se_app (hb : plainBase a = true) (hs : notStar b = true) (hp : (apos.endLine == pos.line) = true) (ha : SE G p sc a fa) (hbb : SE G p sc b fb) : SE G p sc (.Call (.Attribute a ("append" : Str) apos) [b] [] pos) (eApp fa fb) := by
  intro k W X cx
  refine PE.imp (pe_bm PySem.F.plainAttrs_list PySem.F.slot_list_append PySem.F.type_list_append (app_ok' (p := p)) (ha k W X cx) (pa_cons (hbb k W X cx) pa_nil (star_no hs)) (base_ok hb) (few_app hs) hp (star_no hs) rfl) ?_
  rintro σ H Q ⟨s, h, m, rh, re, hq⟩
  refine te_bind rh re hq fun v H1 x h1 m1 l1 rh1 re1 ra hp1 => ?_
  cases x <;> first | exact hp1.elim | skip
  rename_i n
  cases e : h1.get n with
  | none => simp only [e] at hp1; exact hp1.elim
  | some o =>
    cases o <;> simp only [e] at hp1 <;> first | exact hp1.elim | skip
    rename_i xs
    obtain ⟨ev, hn⟩ := ra.ref_inv
    subst ev
    obtain ⟨_, vs, hv, rs⟩ := rh1.obj n _ e
    refine ⟨.inl ⟨rfl, vs, SqL.of hv⟩, ?_⟩
    refine te_bind rh1 re1 hp1 fun u H2 y h2 m2 l2 rh2 re2 ry hp2 => ?_
    cases e2 : h2.get n with
    | none => simp only [e2] at hp2; exact hp2.elim
    | some o =>
      cases o <;> simp only [e2] at hp2 <;> first | exact hp2.elim | skip
      rename_i ys
      obtain ⟨c1, hp2⟩ := cnd_post hp2
      obtain ⟨c2, hp2⟩ := cnd_post hp2
      refine ⟨n, y, ys, u, h2, m2, ?_, rfl, rh2, e2, ry, c1, c2, hp2⟩
      rw [(l2.keep n hn).1]

/-! ### targets -/
theorem tg_post {K : PySem.W.Frag} {W : WX} {c : Calls} {g : XG} {v : V} {x : PV} {σ : L2.St} {H : Hp} {s : Env} {h : Mem} {m : Mp} {Q : L2.St → Hp → Prop} (rh : RH K p.C m h H) (re : RE m h.size H s σ) (rx : RP m h.size H x v)
    (hp : Post K p RE (fun cls d H' => W cls d σ H') h m H (g c x s h) Q) : tgOf K p W c g v σ H Q := ⟨s, h, m, x, rh, re, rx, hp⟩
theorem sg_name {x : Str} {i : Nat} (hi : sc.N[i]? = some x) (hx : Loc sc.scope x) (hf : sc.fn x = true ∨ sc.scope.names.lookup x = some .local) : SG G p sc (.Name x pos) (gName i) := fun k W X cx =>
  PG.imp (pg_name (i := i) cx.nd (by rw [cx.n]; exact hi) (by rw [cx.sco]; exact hx) (by rw [cx.fn, cx.sco]; exact hf)) fun v σ H Q ⟨s, h, m, y, rh, re, ry, hp⟩ => hp m H _ rh.refl rh (re.set i ry)
theorem PGs.imp {X : Cx} {es : List Expr} {t t' : TGs} (h : PGs X es t) (k : ∀ v σ H Q, t' v σ H Q → t v σ H Q) : PGs X es t' := ⟨fun pins s σ H v u Q I r hq => h.run pins s σ H v u Q I r (k v σ H Q hq)⟩
/-- the names at these slots -/
def NamesAt (sc : Sc) : List Expr → List Nat → Prop
  | [], [] => True
  | .Name x _ :: es, i :: is => sc.N[i]? = some x ∧ Loc sc.scope x ∧ (sc.fn x = true ∨ sc.scope.names.lookup x = some .local) ∧ NamesAt sc es is
  | _, _ => False
def setV : List Nat → List V → L2.St → L2.St
  | i :: is, v :: vs, σ => setV is vs (σ.set i (some v))
  | _, _, σ => σ
theorem pgs_names {k : Nat} {W : WX} {X : Cx} (cx : ECx G p k sc W X) : ∀ {es : List Expr} {is : List Nat}, NamesAt sc es is → PGs X es (fun vs σ H Q => vs.length = is.length ∧ Q (setV is vs σ) H) ∧ es.length = is.length ∧ (assignEach es X.env).length = es.length ∧ (assignEach es X.env).findIdx? (·.1) = none
  | [], [], _ => by
    refine ⟨PGs.imp pgs_nil fun vs σ H Q ⟨e, q⟩ => ?_, rfl, rfl, rfl⟩
    cases vs with
    | nil => exact ⟨rfl, q⟩
    | cons _ _ => cases e
  | [], _ :: _, h => h.elim
  | .Name x pos :: es, i :: is, ⟨hi, hx, hf, hr⟩ => by
    obtain ⟨h1, h2, h3, h4⟩ := pgs_names cx hr
    refine ⟨PGs.imp (pgs_cons (pg_name (i := i) cx.nd (by rw [cx.n]; exact hi) (by rw [cx.sco]; exact hx) (by rw [cx.fn, cx.sco]; exact hf)) h1) fun vs σ H Q ⟨e, q⟩ => ?_, by simp [h2], ?_, ?_⟩
    · cases vs with
      | nil => cases e
      | cons y ys => exact ⟨_, _, rfl, by simpa using e, q⟩
    · show (assignEach es X.env).length + 1 = es.length + 1
      rw [h3]
    · show (List.findIdx? (·.1) ((false, _) :: assignEach es X.env)) = none
      rw [List.findIdx?_cons]
      simp [h4]
  | .Name _ _ :: _, [], h => h.elim
theorem setAll_len : ∀ {is : List Nat} {xs : List PV} {s s' : Env}, setAll is xs s = some s' → xs.length = is.length
  | [], [], _, _, _ => rfl
  | [], _ :: _, _, _, e => by cases e
  | _ :: _, [], _, _, e => by cases e
  | i :: is, x :: xs, s, s', e => by
    have := setAll_len (is := is) (xs := xs) e
    simp [this]
theorem setAll_re {m : Mp} {z : Nat} {H : Hp} : ∀ {is : List Nat} {xs : List PV} {vs : List V} {s s' : Env} {σ : L2.St}, setAll is xs s = some s' → RPs m z H xs vs → RE m z H s σ → RE m z H s' (setV is vs σ)
  | [], [], _, _, _, _, e, .nil, re => by cases e; exact re
  | [], _ :: _, _, _, _, _, e, _, _ => by cases e
  | _ :: _, [], _, _, _, _, e, _, _ => by cases e
  | i :: is, x :: xs, _, s, s', σ, e, .cons r rs, re => setAll_re (is := is) (xs := xs) e rs (re.set i r)
/-- the target as a rule says it -/
def ctR (K : PySem.W.Frag) : Tg → TG
  | .nm i => fun v σ H Q => Q (σ.set i (some v)) H
  | .un is => fun v σ H Q => ∃ a vs, v = .ref a ∧ (SqL K H a vs ∨ H a = some (.tup vs)) ∧ vs.length = is.length ∧ Q (setV is vs σ) H
def TgOk (sc : Sc) (e : Expr) : Tg → Prop
  | .nm i => ∃ x pos, e = .Name x pos ∧ sc.N[i]? = some x ∧ Loc sc.scope x ∧ (sc.fn x = true ∨ sc.scope.names.lookup x = some .local)
  | .un is => ∃ es j pos, e = .Tuple es j pos ∧ NamesAt sc es is
theorem ct_ok {k : Nat} {W : WX} {X : Cx} (cx : ECx G p k sc W X) {e : Expr} {g : Tg} (h : TgOk sc e g) : PG X e (ctR X.K g) := by
  cases g with
  | nm i =>
    obtain ⟨x, pos, rfl, hi, hx, hf⟩ := h
    exact pg_name (i := i) cx.nd (by rw [cx.n]; exact hi) (by rw [cx.sco]; exact hx) (by rw [cx.fn, cx.sco]; exact hf)
  | un is =>
    obtain ⟨es, j, pos, rfl, hn⟩ := h
    obtain ⟨h1, h2, h3, h4⟩ := pgs_names cx hn
    refine ⟨fun pins s σ H v u Q I r ⟨q, vs, ev, hl, hlen, hq⟩ => ?_⟩
    subst ev
    rcases hl with hl | hl
    · exact (pg_lst cx.calm h1 (n := es.length) h3 h4).run pins s σ H _ u Q I r ⟨q, vs, rfl, hl, by omega, hlen, hq⟩
    · exact (pg_tup cx.calm h1 (n := es.length) h3 h4).run pins s σ H _ u Q I r ⟨q, vs, rfl, SqT.of hl, by omega, hlen, hq⟩
/-- what the target makes of the slots -/
def ctV : Tg → V → List V → L2.St → L2.St
  | .nm i, v, _, σ => σ.set i (some v)
  | .un is, _, vs, σ => setV is vs σ
theorem ct_read {K : PySem.W.Frag} {c : Calls} {g : Tg} {x : PV} {v : V} {σ : L2.St} {s s' : Env} {h h' : Mem} {m : Mp} {H : Hp} {Q : L2.St → Hp → Prop} (rh : RH K p.C m h H) (re : RE m h.size H s σ) (rx : RP m h.size H x v) (e : tgG g c x s h = .ok s' h')
    (k : ∀ vs, RE m h.size H s' (ctV g v vs σ) → Q (ctV g v vs σ) H) : h' = h ∧ ctR K g v σ H Q := by
  cases g with
  | nm i =>
    cases e
    exact ⟨rfl, k [] (re.set i rx)⟩
  | un is =>
    have e : (match itemsOf h x with
      | some xs => ofO (setAll is xs s) h
      | none => .bad) = .ok s' h' := e
    cases e1 : itemsOf h x with
    | none => rw [e1] at e; cases e
    | some xs =>
      rw [e1] at e
      cases e2 : setAll is xs s with
      | none => simp only [e2] at e; cases e
      | some s2 =>
        simp only [e2] at e
        cases e
        obtain ⟨q, vs, rfl, hl, rs⟩ := itemsOf_ok rh rx e1
        exact ⟨rfl, q, vs, rfl, hl, by rw [rs.length, setAll_len e2], k vs (setAll_re e2 rs re)⟩
theorem ct_err {c : Calls} {g : Tg} {x : PV} {s : Env} {h : Mem} : Pure (tgG g c x s h) := by
  intro y h' z
  cases g with
  | nm i => cases z
  | un is =>
    have z : (match itemsOf h x with
      | some xs => ofO (setAll is xs s) h
      | none => .bad) = .err y h' := z
    cases e1 : itemsOf h x with
    | none => rw [e1] at z; cases z
    | some xs =>
      rw [e1] at z
      cases e2 : setAll is xs s <;> simp only [e2] at z <;> cases z
theorem sg_tg {e : Expr} {g : Tg} (h : TgOk sc e g) : SG G p sc e (tgG g) := fun k W X cx => PG.imp (ct_ok cx h) fun v σ H Q ⟨s, hm, m, x, rh, re, rx, hp⟩ => by
  cases er : tgG g (callD G.tab k) x s hm with
  | bad => rw [er] at hp; exact hp.elim
  | err y h' => exact absurd er (ct_err y h')
  | ok s' h' =>
    rw [er] at hp
    refine (ct_read rh re rx er fun vs re' => ?_).2
    have e := (ct_read (K := X.K) (Q := fun _ _ => True) rh re rx er fun _ _ => True.intro).1
    subst e
    exact hp m H _ rh.refl rh re'
/-- a target keeps the slots that are not its own -/
def tgIn (own : List Nat) : Tg → Prop
  | .nm i => i ∈ own
  | .un is => ∀ i ∈ is, i ∈ own
theorem wipe_set {i : Nat} {w : Option V} : ∀ {own : List Nat} {σ : L2.St}, i ∈ own → wipe (σ.set i w) own = wipe σ own
  | [], _, h => by cases h
  | j :: own, σ, h => by
    show (wipe (σ.set i w) own).set j none = (wipe σ own).set j none
    by_cases e : i ∈ own
    · rw [wipe_set e]
    · have ej : i = j := by
        rcases List.mem_cons.mp h with h | h
        · exact h
        · exact absurd h e
      subst ej
      have : ∀ (l : List Nat) (σ : L2.St), i ∉ l → wipe (σ.set i w) l = (wipe σ l).set i w := by
        intro l
        induction l with
        | nil => intro σ _; rfl
        | cons a l ih =>
          intro σ hn
          have h1 : i ≠ a := fun z => hn (by rw [z]; exact List.mem_cons_self)
          have h2 : i ∉ l := fun z => hn (List.mem_cons_of_mem _ z)
          show (wipe (σ.set i w) l).set a none = ((wipe σ l).set a none).set i w
          rw [ih σ h2, List.set_comm _ _ h1]
      rw [this own σ e, List.set_set]
theorem wipe_setV {own : List Nat} : ∀ {is : List Nat} {vs : List V} {σ : L2.St}, (∀ i ∈ is, i ∈ own) → wipe (setV is vs σ) own = wipe σ own
  | [], [], _, _ => rfl
  | [], _ :: _, _, _ => rfl
  | _ :: _, [], _, _ => rfl
  | i :: is, v :: vs, σ, h => by
    show wipe (setV is vs (σ.set i (some v))) own = _
    rw [wipe_setV fun j hj => h j (List.mem_cons_of_mem _ hj), wipe_set (h i List.mem_cons_self)]
theorem wipe_wipe (σ : L2.St) (own : List Nat) : wipe (wipe σ own) own = wipe σ own := by
  have : ∀ (l : List Nat), (∀ i ∈ l, i ∈ own) → wipe (wipe σ l) own = wipe σ own := by
    intro l
    induction l with
    | nil => intro _; rfl
    | cons a l ih =>
      intro h
      show wipe ((wipe σ l).set a none) own = _
      rw [wipe_set (h a List.mem_cons_self), ih fun i hi => h i (List.mem_cons_of_mem _ hi)]
  exact this own fun _ h => h
theorem wipe_ct {own : List Nat} {g : Tg} {v : V} {vs : List V} {σ : L2.St} (h : tgIn own g) : wipe (ctV g v vs σ) own = wipe σ own := by
  cases g with
  | nm i => exact wipe_set h
  | un is => exact wipe_setV h

/-! ### statements -/
theorem sOf_post {K : PySem.W.Frag} {W : WX} {D : Ends} {α β : Type} {R : Mp → Nat → Hp → α → β → Prop} {s : Env} {σ : L2.St} {h : Mem} {m : Mp} {H : Hp} {r : Res α} {f : α → Mem → SR} (re : RE m h.size H s σ) (hp : PostS K p W D h m H (sOf s r f)) :
    Post K p R (fun cls d H' => W cls d σ H') h m H r (fun b H1 => ∃ a h1 m1, Le h m H h1 m1 H1 ∧ RH K p.C m1 h1 H1 ∧ R m1 h1.size H1 a b ∧ PostS K p W D h m H (f a h1)) := by
  cases r with
  | ok a h1 => exact fun m1 H1 b l rh rr => ⟨a, h1, m1, l, rh, rr, hp⟩
  | err x h1 => exact fun m1 H1 cls d l rh rx => hp m1 H1 σ cls d l rh (re.mono l) rx
  | bad => exact hp
theorem PostS.shift {K : PySem.W.Frag} {W : WX} {D : Ends} {h h1 : Mem} {m m1 : Mp} {H H1 : Hp} {r : SR} (hp : PostS K p W D h m H r) (l : Le h m H h1 m1 H1) : PostS K p W D h1 m1 H1 r := by
  cases r with
  | nx s' h' => exact fun m' H' b l' => hp m' H' b (l.trans l')
  | rt v h' => exact fun m' H' b l' => hp m' H' b (l.trans l')
  | bk s' h' => exact fun m' H' b l' => hp m' H' b (l.trans l')
  | ct s' h' => exact fun m' H' b l' => hp m' H' b (l.trans l')
  | er x s' h' => exact fun m' H' σ' cls d l' => hp m' H' σ' cls d (l.trans l')
  | bad => exact hp
/-- an expression at a statement's start -/
theorem ts_te {K : PySem.W.Frag} {W : WX} {c : Calls} {D : Ends} {fa : XE} {s : Env} {h : Mem} {m : Mp} {σ : L2.St} {H : Hp} {f : PV → Mem → SR} {Q2 : VK} (rh : RH K p.C m h H) (re : RE m h.size H s σ) (hp : PostS K p W D h m H (sOf s (fa c s h) f))
    (k : ∀ v H1 a h1 m1, RH K p.C m1 h1 H1 → RE m1 h1.size H1 s σ → RP m1 h1.size H1 a v → PostS K p W D h1 m1 H1 (f a h1) → Q2 v H1) : teOf K p W c fa σ H Q2 :=
  ⟨s, h, m, rh, re, (sOf_post re hp).mono fun b H1 ⟨a, h1, m1, l, rh1, ra, q⟩ => k b H1 a h1 m1 rh1 (re.mono l) ra (q.shift l)⟩
theorem ts_tt {K : PySem.W.Frag} {W : WX} {c : Calls} {D : Ends} {t : XT} {s : Env} {h : Mem} {m : Mp} {σ : L2.St} {H : Hp} {f : Bool → Mem → SR} {Q2 : Bool → Hp → Prop} (rh : RH K p.C m h H) (re : RE m h.size H s σ) (hp : PostS K p W D h m H (sOf s (t c s h) f))
    (k : ∀ v H1 h1 m1, RH K p.C m1 h1 H1 → RE m1 h1.size H1 s σ → PostS K p W D h1 m1 H1 (f v h1) → Q2 v H1) : ttOf K p W c t σ H Q2 :=
  ⟨s, h, m, rh, re, (sOf_post (R := RB) re hp).mono fun b H1 ⟨a, h1, m1, l, rh1, ra, q⟩ => by
    have e : a = b := ra
    subst e
    exact k a H1 h1 m1 rh1 (re.mono l) (q.shift l)⟩
theorem PS.mk' {X : Cx} {e : Stmt} {t t' : TS} (h : PS X e t) (k : ∀ D σ H, t' D σ H → t D σ H) : PS X e t' := PS.imp h k
theorem sss_nil : SSs G p sc [] sNil := fun k W X cx => PSs.imp pss_nil fun D σ H ⟨s, h, m, rh, re, hp⟩ => hp m H σ rh.refl rh re
theorem seq_read {K : PySem.W.Frag} {W : WX} {c : Calls} {f g : XS} {D : Ends} {σ : L2.St} {H : Hp} (h : tsOf K p W c (sSeq f g) D σ H) : tSeq (tsOf K p W c f) (tsOf K p W c g) D σ H := by
  obtain ⟨s, h, m, rh, re, hp⟩ := h
  refine ⟨s, h, m, rh, re, ?_⟩
  unfold sSeq at hp
  cases e : f c s h with
  | nx s' h' =>
    rw [e] at hp
    exact fun m' H' σ' l rh' re' => ⟨s', h', m', rh', re', PostS.shift hp l⟩
  | rt v h' => rw [e] at hp; exact hp
  | bk s' h' => rw [e] at hp; exact hp
  | ct s' h' => rw [e] at hp; exact hp
  | er x s' h' => rw [e] at hp; exact hp
  | bad => rw [e] at hp; exact hp
theorem sss_cons {st : Stmt} {rest : List Stmt} {f g : XS} (h1 : SS G p sc st f) (h2 : SSs G p sc rest g) : SSs G p sc (st :: rest) (sSeq f g) := fun k W X cx =>
  PSs.imp (pss_cons (h1 k W X cx) (h2 k W X cx)) fun D σ H h => seq_read h
theorem sss_one {st : Stmt} {f : XS} (h1 : SS G p sc st f) : SSs G p sc [st] f := fun k W X cx => pss_one (h1 k W X cx)
def notComp : Expr → Bool
  | .ListComp _ _ _ _ => false
  | .SetComp _ _ _ _ => false
  | .DictComp _ _ _ _ _ => false
  | _ => true
theorem noswap {v : Expr} {t : Option Expr} {l : Nat} {env : PySem.Env} (h : notComp v = true) : swapsWith v t l env = pure false := by
  cases v <;> first | rfl | cases h
theorem ss_expr (hs : notComp a = true) (ha : SE G p sc a fa) : SS G p sc (.Expr a pos) (sExpr fa) := fun k W X cx =>
  PS.imp (ps_expr (ha k W X cx) (noswap hs)) fun D σ H ⟨s, h, m, rh, re, hp⟩ => ts_te rh re hp fun v H1 x h1 m1 rh1 re1 ra hp1 => hp1 m1 H1 σ rh1.refl rh1 re1
theorem ss_ret (ha : SE G p sc a fa) : SS G p sc (.Return (some a) pos) (sRet fa) := fun k W X cx =>
  PS.imp (ps_ret (ha k W X cx)) fun D σ H ⟨s, h, m, rh, re, hp⟩ => ts_te rh re hp fun v H1 x h1 m1 rh1 re1 ra hp1 => hp1 m1 H1 v rh1.refl rh1 ra
theorem ss_if {t : XT} {c : Expr} {x y : List Stmt} {f g : XS} (hc : ST G p sc c t) (hx : SSs G p sc x f) (hy : SSs G p sc y g) : SS G p sc (.If c x y pos) (sIf t f g) := fun k W X cx =>
  PS.imp (ps_if (hc k W X cx) (hx k W X cx) (hy k W X cx)) fun D σ H ⟨s, h, m, rh, re, hp⟩ => ts_tt rh re hp fun v H1 h1 m1 rh1 re1 hp1 => by
    cases v with
    | true => exact ⟨s, h1, m1, rh1, re1, hp1⟩
    | false => exact ⟨s, h1, m1, rh1, re1, hp1⟩
/-- name = value -/
theorem ss_set {x : Str} {i : Nat} {pos' : Pos} (hi : sc.N[i]? = some x) (hx : Loc sc.scope x) (hf : sc.fn x = true ∨ sc.scope.names.lookup x = some .local) (hs : notComp a = true) (ha : SE G p sc a fa) : SS G p sc (.Assign [.Name x pos'] a pos) (sAsg fa (gName i)) := fun k W X cx =>
  PS.imp (ps_set (i := i) cx.nd (by rw [cx.n]; exact hi) (by rw [cx.sco]; exact hx) (ha k W X cx) (noswap hs) (by rw [cx.fn, cx.sco]; exact hf)) fun D σ H ⟨s, h, m, rh, re, hp⟩ =>
    ts_te rh re hp fun v H1 y h1 m1 rh1 re1 ra hp1 => hp1 m1 H1 _ rh1.refl rh1 (re1.set i ra)
theorem ss_pass : SS G p sc (.Pass pos) sNil := fun k W X cx => PS.imp ps_pass fun D σ H ⟨s, h, m, rh, re, hp⟩ => hp m H σ rh.refl rh re
/-- what the proof never comes to -/
theorem ss_bad {st : Stmt} : SS G p sc st sBad := fun k W X cx => PS.imp ps_never fun D σ H ⟨s, h, m, rh, re, hp⟩ => hp
end
end Ev
end

section
set_option Elab.async false
set_option linter.all false
set_option maxRecDepth 100000
/-! Ev: what is walked; for; comprehensions. -/
namespace Ev
open PySem PySem.Spec PyProof.Rows L2

/-! ### locks -/
section
variable {K : PySem.W.Frag} {C : Nat → Addr} {h h1 h2 : Mem} {m m1 m2 : Mp} {H H1 H2 : Hp} {ls : List Nat}
theorem RH.lock (r : RH K C m h H) (hl : ∀ n ∈ ls, n < h.size) : RH K C m (h.lock ls) H :=
  ⟨r.all, r.obj, r.inj, fun n hn => (List.mem_append.mp hn).elim (hl n) (r.lok n), r.lod⟩
theorem RH.unlock (r : RH K C m h H) (ls : List Nat) : RH K C m (h.unlock ls) H :=
  ⟨r.all, r.obj, r.inj, fun n hn => r.lok n (List.mem_of_mem_drop hn), r.lod⟩
theorem Le.unlock (l : Le (h1.lock ls) m1 H1 h2 m2 H2) : Le h1 m1 H1 (h2.unlock ls) m2 H2 :=
  ⟨l.le, by rw [Mem.locks_unlock, l.lk, Mem.locks_lock]; simp, l.ld, fun n hn => l.lkd n (List.mem_append_right _ hn), fun n hn hl => l.lkh n (List.mem_append_right _ hn) hl, l.keep, l.frame, l.tups, l.new, l.old⟩
theorem RH.lrefl (r : RH K C m h H) (ls : List Nat) : Le (h.lock ls) m H (h.lock ls) m H :=
  ⟨Nat.le_refl _, rfl, rfl, fun _ _ => rfl, fun _ _ _ => rfl, fun _ _ => ⟨rfl, rfl⟩, fun _ _ e _ => e, fun _ _ e => e, fun n h1 h2 => absurd h2 (by omega), fun n hn => ⟨(r.live hn).1, (r.live hn).2.1⟩⟩
end

/-! ### walks -/

/-- what a walk leans on: locked objects stay -/
structure Lz (h : Mem) (m : Mp) (H : Hp) (h' : Mem) (m' : Mp) (H' : Hp) : Prop where
  le : h.size ≤ h'.size
  lkd : ∀ n, n ∈ h.locks → h'.get n = h.get n
  lk : ∀ n, n ∈ h.locks → n ∈ h'.locks
  ld : ∀ n, n ∈ h.dl → n ∈ h'.dl
  lkh : ∀ n, n ∈ h.locks → n < h.size → H' (m.a n) = H (m.a n)
  keep : ∀ n, n < h.size → m'.a n = m.a n ∧ m'.d n = m.d n
  tups : ∀ a vs, H a = some (.tup vs) → H' a = some (.tup vs)
theorem Le.lz {h h' : Mem} {m m' : Mp} {H H' : Hp} (l : Le h m H h' m' H') : Lz h m H h' m' H' := ⟨l.le, l.lkd, fun n hn => by rw [l.lk]; exact hn, fun n hn => by rw [l.ld]; exact hn, l.lkh, l.keep, l.tups⟩
theorem Lz.trans {h h1 h2 : Mem} {m m1 m2 : Mp} {H H1 H2 : Hp} (a : Lz h m H h1 m1 H1) (b : Lz h1 m1 H1 h2 m2 H2) : Lz h m H h2 m2 H2 :=
  ⟨Nat.le_trans a.le b.le, fun n hn => (b.lkd n (a.lk n hn)).trans (a.lkd n hn), fun n hn => b.lk n (a.lk n hn), fun n hn => b.ld n (a.ld n hn), fun n hn hl => by
    have h1 := b.lkh n (a.lk n hn) (Nat.lt_of_lt_of_le hl a.le)
    rw [(a.keep n hl).1] at h1
    exact h1.trans (a.lkh n hn hl), fun n hn => by
    have h1 := a.keep n hn
    have h2 := b.keep n (Nat.lt_of_lt_of_le hn a.le)
    exact ⟨h2.1.trans h1.1, h2.2.trans h1.2⟩, fun p vs e => b.tups p vs (a.tups p vs e)⟩
theorem Lz.lw {h h' : Mem} {m m' : Mp} {H H' : Hp} (l : Lz h m H h' m' H') : Lw h.size m H h'.size m' H' := ⟨l.le, l.keep, l.tups⟩
/-- J tells the items xs in their order, whatever the memory becomes behind h1 -/
structure Walks (K : PySem.W.Frag) (p : Pl) (h1 : Mem) (m1 : Mp) (H1 : Hp) (ls : List Nat) (J : It) (xs : List PV) : Prop where
  loc : ∀ n ∈ ls, n < h1.size
  item : ∀ i x h2 m2 H2, xs[i]? = some x → Lz (h1.lock ls) m1 H1 h2 m2 H2 → RH K p.C m2 h2 H2 → J.go i H2 ∧ ∀ v H3, J.yld i H2 v H3 → Le h2 m2 H2 h2 m2 H3 ∧ RH K p.C m2 h2 H3 ∧ RP m2 h2.size H3 x v
  stop : ∀ h2 m2 H2, Lz (h1.lock ls) m1 H1 h2 m2 H2 → RH K p.C m2 h2 H2 → J.stop xs.length H2
def PostI (K : PySem.W.Frag) (p : Pl) (E : XK) (h : Mem) (m : Mp) (H : Hp) (r : Res (List PV × List Nat)) (R : It → Hp → Prop) : Prop := match r with
  | .ok q h' => ∀ m' H' J, Le h m H h' m' H' → RH K p.C m' h' H' → Walks K p h' m' H' q.2 J q.1 → R J H'
  | .err x h' => ∀ m' H' cls d, Le h m H h' m' H' → RH K p.C m' h' H' → RX p m' h'.size H' x cls d → E cls d H'
  | .bad => False
def tiOf (K : PySem.W.Frag) (p : Pl) (W : WX) (c : Calls) (f : XI) : TI := fun σ H R => ∃ s h m, RH K p.C m h H ∧ RE m h.size H s σ ∧ PostI K p (fun cls d H' => W cls d σ H') h m H (f c s h) R
def SI (G : GT) (p : Pl) (sc : Sc) (tg e : Expr) (f : XI) : Prop := ∀ k W X, ECx G p k sc W X → PI X tg e (tiOf X.K p W (callD G.tab k) f)
theorem PI.imp {X : Cx} {tg e : Expr} {t t' : TI} (h : PI X tg e t) (k : ∀ σ H R, t' σ H R → t σ H R) : PI X tg e t' := ⟨fun pins s σ H R I hq => h.run pins s σ H R I (k σ H R hq)⟩

/-! ### for -/
section
variable {G : GT} {p : Pl} {sc : Sc} {pos : Pos}
theorem for_read {K : PySem.W.Frag} {W : WX} {c : Calls} {fi : XI} {g : XG} {b : XS} {D : Ends} {σ : L2.St} {H : Hp} (h : tsOf K p W c (sFor fi g b) D σ H) : tFor (tiOf K p W c fi) (tgOf K p W c g) (tsOf K p W c b) D σ H := by
  obtain ⟨s, h, m, rh, re, hp⟩ := h
  refine ⟨s, h, m, rh, re, ?_⟩
  unfold sFor at hp
  cases ei : fi c s h with
  | bad => rw [ei] at hp; exact hp
  | err x h1 => rw [ei] at hp; exact fun m1 H1 cls d l rh1 rx => hp m1 H1 σ cls d l rh1 (re.mono l) rx
  | ok q h1 =>
    rw [ei] at hp
    simp only [sOf_ok] at hp
    obtain ⟨xs, ls⟩ := q
    intro m1 H1 J l1 rh1 wk
    have hp := hp.shift l1
    simp only at hp wk
    generalize hf : (fun x s h => sOf s (g c x s h) fun s' h' => b c s' h') = f at hp
    -- the invariant
    refine ⟨fun i mz σ2 H2 => ∃ s2 h2 m2, i ≤ xs.length ∧ mz = xs.length - i ∧ Le (h1.lock ls) m1 H1 h2 m2 H2 ∧ RH K p.C m2 h2 H2 ∧ RE m2 h2.size H2 s2 σ2 ∧ PostS K p W D h1 m1 H1 (endS ls (loopS f (xs.drop i) s2 h2)),
      ⟨xs.length, s, h1.lock ls, m1, Nat.zero_le _, rfl, rh1.lrefl ls, rh1.lock wk.loc, (re.mono l1 : RE m1 h1.size H1 s σ), by simpa using hp⟩, ?_⟩
    rintro i mz σ2 H2 ⟨s2, h2, m2, hi, rfl, l2, rh2, re2, hp2⟩
    by_cases hlt : i < xs.length
    · have ex : xs[i]? = some xs[i] := List.getElem?_eq_getElem hlt
      obtain ⟨hgo, hy⟩ := wk.item i _ h2 m2 H2 ex l2.lz rh2
      rw [List.drop_eq_getElem_cons hlt] at hp2
      unfold loopS at hp2
      refine .inr ⟨hgo, fun σ5 H5 => ∃ s5 h5 m5, Le (h1.lock ls) m1 H1 h5 m5 H5 ∧ RH K p.C m5 h5 H5 ∧ RE m5 h5.size H5 s5 σ5 ∧ PostS K p W D h1 m1 H1 (endS ls (loopS f (xs.drop (i + 1)) s5 h5)),
        fun σ5 H5 ⟨s5, h5, m5, l5, rh5, re5, hp5⟩ => ⟨xs.length - (i + 1), by omega, s5, h5, m5, hlt, rfl, l5, rh5, re5, hp5⟩, fun v H3 hyv => ?_⟩
      obtain ⟨l3, rh3, rx⟩ := hy v H3 hyv
      have l03 := l2.trans l3
      refine ⟨s2, h2, m2, xs[i], rh3, re2.mono l3, rx, ?_⟩
      subst hf
      simp only at hp2
      cases eg : g c xs[i] s2 h2 with
      | bad => rw [eg] at hp2; exact hp2.elim
      | err x' h' =>
        rw [eg] at hp2
        intro m' H' cls d l' rh' rx'
        exact hp2 m' H' σ2 cls d (l03.trans l').unlock (rh'.unlock ls) ((re2.mono l3).mono l' : RE m' h'.size H' s2 σ2) rx'
      | ok s' h' =>
        rw [eg] at hp2
        simp only [sOf_ok] at hp2
        intro m4 H4 σ4 l4 rh4 re4
        have l04 := l03.trans l4
        refine ⟨s', h', m4, rh4, re4, ?_⟩
        cases eb : b c s' h' with
        | bad => rw [eb] at hp2; exact hp2.elim
        | nx s5 h5 =>
          rw [eb] at hp2
          exact fun m5 H5 σ5 l5 rh5 re5 => ⟨s5, h5, m5, l04.trans l5, rh5, re5, hp2⟩
        | ct s5 h5 =>
          rw [eb] at hp2
          exact fun m5 H5 σ5 l5 rh5 re5 => ⟨s5, h5, m5, l04.trans l5, rh5, re5, hp2⟩
        | bk s5 h5 =>
          rw [eb] at hp2
          exact fun m5 H5 σ5 l5 rh5 re5 => hp2 m5 H5 σ5 (l04.trans l5).unlock (rh5.unlock ls) re5
        | rt w h5 =>
          rw [eb] at hp2
          exact fun m5 H5 v5 l5 rh5 rv5 => hp2 m5 H5 v5 (l04.trans l5).unlock (rh5.unlock ls) rv5
        | er x5 s5 h5 =>
          rw [eb] at hp2
          exact fun m5 H5 σ5 cls d l5 rh5 re5 rx5 => hp2 m5 H5 σ5 cls d (l04.trans l5).unlock (rh5.unlock ls) re5 rx5
    · have e : i = xs.length := by omega
      subst e
      rw [List.drop_length] at hp2
      exact .inl ⟨wk.stop h2 m2 H2 l2.lz rh2, hp2 m2 H2 σ2 l2.unlock (rh2.unlock ls) re2⟩
theorem ss_for {tg iter : Expr} {body : List Stmt} {fi : XI} {g : XG} {b : XS} (hs : ∀ (env : PySem.Env) x, foldedSetIterable iter env x = pure x) (hi : SI G p sc tg iter fi) (hg : SG G p sc tg g) (hb : SSs G p sc body b) : SS G p sc (.For tg iter body [] pos) (sFor fi g b) := fun k W X cx =>
  PS.imp (ps_for cx.po cx.calm (hi k W X cx) (hg k W X cx) (hb k W X cx) (hs _)) fun D σ H h => for_read h
end

/-! ### comprehensions -/
section
variable {G : GT} {p : Pl} {sc : Sc} {pos : Pos}
/-- the scope of a comprehension's block -/
def blkSc (sc : Sc) (scope : Scope) : Sc := ⟨sc.N, relS scope sc.scope, fun x => scope.names.lookup x == some .cell⟩
theorem ecx_blk {k : Nat} {W : WX} {X : Cx} (cx : ECx G p k sc W X) (s : Shared) (H : Hp) (scope : Scope) (C : Addr) (cl : List (Str × Addr)) (fp : List Addr) :
    ECx G p k (blkSc sc scope) (fun _ _ _ _ => False) (X.blk s H scope (compEnvC scope cl C X.env) fp) where
  g := cx.g
  nd := cx.nd
  n := cx.n
  sco := by
    show relS scope X.env.scope = relS scope sc.scope
    rw [cx.sco]
  fn := rfl
  calm := cx.calm
  room := cx.room
  tk := fun _ _ ⟨_, _, _, _, _, _, _, _, _, _, _, _, _, _, _, _, w⟩ => w.elim
  po := PassesOwn.never
/-- a clause's tests -/
def STs (G : GT) (p : Pl) (sc : Sc) (ifs : List Expr) (t : XT) : Prop := ∀ k W X, ECx G p k sc W X → PTs X ifs (ttOf X.K p W (callD G.tab k) t)
theorem PTs.imp {X : Cx} {e : List Expr} {t t' : TT} (h : PTs X e t) (k : ∀ σ H Q, t' σ H Q → t σ H Q) : PTs X e t' := ⟨fun pins s σ H Q I hq => h.run pins s σ H Q I (k σ H Q hq)⟩
theorem sts_nil : STs G p sc [] tYes := fun k W X cx => PTs.imp pts_nil fun σ H Q ⟨s, h, m, rh, re, hp⟩ => hp m H true rh.refl rh rfl
theorem sts_one {c : Expr} {t : XT} (h : ST G p sc c t) : STs G p sc [c] t := fun k W X cx => pts_one (h k W X cx)
theorem wipeV_eq (s : Env) : ∀ vs : List Nat, lC1.wipeV s vs = wipeE s vs
  | [] => rfl
  | v :: vs => by
    show (lC1.wipeV s vs).set v none = (wipeE s vs).set v none
    rw [wipeV_eq s vs]
theorem noErr_ok {α : Type} {r : Res α} {a : α} {h : Mem} (e : noErr r = .ok a h) : r = .ok a h := by
  cases r <;> first | exact e | cases e
/-- a bind that ends well -/
theorem bind_ok {α β : Type} {r : Res α} {f : α → Mem → Res β} {b : β} {h : Mem} (e : r.bind f = .ok b h) : ∃ a h1, r = .ok a h1 ∧ f a h1 = .ok b h := by
  cases r with
  | ok a h1 => exact ⟨a, h1, rfl, e⟩
  | err x h1 => cases e
  | bad => cases e
theorem post_ok {K : PySem.W.Frag} {α β : Type} {R : Mp → Nat → Hp → α → β → Prop} {E : XK} {h h' : Mem} {m : Mp} {H : Hp} {r : Res α} {a : α} {Q : β → Hp → Prop} (e : r = .ok a h') (k : ∀ m' H' b, Le h m H h' m' H' → RH K p.C m' h' H' → R m' h'.size H' a b → Q b H') : Post K p R E h m H r Q := by
  rw [e]
  exact k
/-- the new list's own place -/
structure Own (h2 : Mem) (m2 : Mp) (H2 : Hp) (D : Addr) (ys : List PV) : Prop where
  ni : ∀ n, n < h2.size → D ≠ m2.a n ∧ D ≠ m2.d n
  at_ : ∃ acc, H2 D = some (.lst acc) ∧ RPs m2 h2.size H2 ys acc
theorem Own.mono {h2 h3 : Mem} {m2 m3 : Mp} {H2 H3 : Hp} {D : Addr} {ys : List PV} (o : Own h2 m2 H2 D ys) (l : Le h2 m2 H2 h3 m3 H3) : Own h3 m3 H3 D ys := by
  obtain ⟨acc, e, r⟩ := o.at_
  refine ⟨fun n hn => ?_, acc, l.frame D _ e o.ni, r.mono l⟩
  by_cases q : n < h2.size
  · rw [(l.keep n q).1, (l.keep n q).2]; exact o.ni n q
  · have nn := l.new n (by omega) hn
    refine ⟨fun w => ?_, fun w => ?_⟩
    · rw [← w, e] at nn; exact nomatch nn.1
    · rw [← w, e] at nn; exact nomatch nn.2
/-- the list at D, which no one knows, is changed -/
theorem RH.aside {K : PySem.W.Frag} {h2 : Mem} {m2 : Mp} {H2 : Hp} {D : Addr} {acc acc' : List V} (rh : RH K p.C m2 h2 H2) (ni : ∀ n, n < h2.size → D ≠ m2.a n ∧ D ≠ m2.d n) (e : H2 D = some (.lst acc)) :
    Lw h2.size m2 H2 h2.size m2 (upd H2 D (.lst acc')) ∧ RH K p.C m2 h2 (upd H2 D (.lst acc')) := by
  have st : Lw h2.size m2 H2 h2.size m2 (upd H2 D (.lst acc')) := ⟨Nat.le_refl _, fun _ _ => ⟨rfl, rfl⟩, fun a us ea => by rw [upd_ne (fun q => by rw [q, e] at ea; cases ea)]; exact ea⟩
  refine ⟨st, rh.all, fun n o eo => ?_, rh.inj, rh.lok, rh.lod⟩
  have := ni n (Mem.get_lt eo)
  exact (rh.obj n o eo).weak st (Mem.get_lt eo) (upd_ne this.1.symm) (upd_ne this.2.symm)
theorem Le.aside {h1 h2 : Mem} {m1 m2 : Mp} {H1 H2 : Hp} {D : Addr} {u : HO} {acc : List V} (l : Le h1 m1 H1 h2 m2 H2) (hn : H1 D = none) (ni : ∀ n, n < h2.size → D ≠ m2.a n ∧ D ≠ m2.d n) : Le h1 m1 H1 h2 m2 (upd H2 D u) :=
  ⟨l.le, l.lk, l.ld, l.lkd, fun n hn hl => by
    have q := ni n (Nat.lt_of_lt_of_le hl l.le)
    rw [(l.keep n hl).1] at q
    rw [upd_ne q.1.symm]
    exact l.lkh n hn hl, l.keep, fun a o ea hk => by rw [upd_ne (ne_of_none ea hn)]; exact l.frame a o ea hk, fun a vs ea => by rw [upd_ne (ne_of_none ea hn)]; exact l.tups a vs ea, l.new, fun n hn' => by
    have q := ni n (Nat.lt_of_lt_of_le hn' l.le)
    rw [← (l.keep n hn').1, ← (l.keep n hn').2, upd_ne q.1.symm, upd_ne q.2.symm, (l.keep n hn').1, (l.keep n hn').2]
    exact l.old n hn'⟩
/-- an item appended -/
theorem Own.app {K : PySem.W.Frag} {h1 h2 : Mem} {m1 m2 : Mp} {H1 H2 : Hp} {D : Addr} {ys : List PV} (o : Own h2 m2 H2 D ys) (rh : RH K p.C m2 h2 H2) (l : Le h1 m1 H1 h2 m2 H2) (hn : H1 D = none) {y : PV} {v : V} (ry : RP m2 h2.size H2 y v) :
    ∃ acc, H2 D = some (.lst acc) ∧ acc.length = ys.length ∧ Le h1 m1 H1 h2 m2 (upd H2 D (.lst (acc ++ [v]))) ∧ RH K p.C m2 h2 (upd H2 D (.lst (acc ++ [v]))) ∧ Own h2 m2 (upd H2 D (.lst (acc ++ [v]))) D (ys ++ [y]) := by
  obtain ⟨acc, e, r⟩ := o.at_
  obtain ⟨st, rh'⟩ := rh.aside (acc' := acc ++ [v]) o.ni e
  exact ⟨acc, e, r.length, l.aside (acc := acc) hn o.ni, rh', o.ni, _, upd_same, (r.append (.cons ry .nil)).weak st⟩
/-- ONE CLAUSE -/
theorem lc_read {K : PySem.W.Frag} {W : WX} {c : Calls} {fi : XI} {g : Tg} {t : XT} {fe : XE} {own : List Nat} {σ : L2.St} {H : Hp} {Q : VK} (hin : tgIn own g) (h : tnOf K p W c (lC1 own fi g t fe) σ H Q) :
    tLc (tiOf K p W c fi) (ctR K g) (ttOf K p (fun _ _ _ _ => False) c t) (teOf K p (fun _ _ _ _ => False) c fe) own σ H Q := by
  obtain ⟨s, h, m, rh, re, hp⟩ := h
  refine ⟨s, h, m, rh, re, ?_⟩
  unfold lC1 at hp
  cases ei : fi c s h with
  | bad => rw [ei] at hp; exact hp
  | err x h1 => rw [ei] at hp; exact hp
  | ok q h1 =>
    rw [ei] at hp
    simp only [Res.bind_ok] at hp
    obtain ⟨xs, ls⟩ := q
    intro m1 H1 J l1 rh1 wk D hD
    simp only at hp wk
    rw [wipeV_eq] at hp
    have hD0 : H D = none := l1.fresh hD
    -- the whole ends well
    generalize hf : turns (tgG g) t c (wipeE s own) (fun s' h' => (fe c s' h').bind fun y h' => .ok [y] h') = tr at hp
    cases er : noErr (tr xs (h1.lock ls)) with
    | bad => rw [er] at hp; exact hp.elim
    | err x h2 => rw [er] at hp; unfold noErr at er; split at er <;> cases er
    | ok ys hE =>
      rw [er] at hp
      simp only [Res.bind_ok] at hp
      have er := noErr_ok er
      cases cf : fits ys with
      | false => rw [cf] at hp; exact hp.elim
      | true =>
        rw [cf] at hp
        have fy := fits_le cf
        obtain ⟨l2, rh2⟩ := rh1.tmp (u := .lst []) hD
        -- the invariant
        refine ⟨fun i mz H2 => ∃ h2 m2 ys1 ys2, i ≤ xs.length ∧ mz = xs.length - i ∧ Le (h1.lock ls) m1 H1 h2 m2 H2 ∧ RH K p.C m2 h2 H2 ∧ Own h2 m2 H2 D ys1 ∧ ys1 ++ ys2 = ys ∧ tr (xs.drop i) h2 = .ok ys2 hE,
          ⟨xs.length, h1.lock ls, m1, [], ys, Nat.zero_le _, rfl, ?_, rh2.lock wk.loc, ⟨fun n hn => ⟨fun z => (rh1.fresh hD hn).1 z.symm, fun z => (rh1.fresh hD hn).2 z.symm⟩, [], upd_same, .nil⟩, rfl, by simpa using er⟩, ?_⟩
        · exact (rh1.lrefl ls).trans ⟨l2.le, rfl, rfl, fun _ _ => rfl, fun n hn hl => (upd_ne (rh1.fresh (by assumption) hl).1), l2.keep, l2.frame, l2.tups, l2.new, l2.old⟩
        rintro i mz H2 ⟨h2, m2, ys1, ys2, hi, rfl, l3, rh3, ow, ey, et⟩
        by_cases hlt : i < xs.length
        · have ex : xs[i]? = some xs[i] := List.getElem?_eq_getElem hlt
          obtain ⟨hgo, hy⟩ := wk.item i _ h2 m2 H2 ex l3.lz rh3
          rw [List.drop_eq_getElem_cons hlt] at et
          refine .inr ⟨hgo, fun H5 => ∃ h5 m5 ys1 ys2, Le (h1.lock ls) m1 H1 h5 m5 H5 ∧ RH K p.C m5 h5 H5 ∧ Own h5 m5 H5 D ys1 ∧ ys1 ++ ys2 = ys ∧ tr (xs.drop (i + 1)) h5 = .ok ys2 hE,
            fun H5 ⟨h5, m5, y1, y2, l5, rh5, ow5, ey5, et5⟩ => ⟨xs.length - (i + 1), by omega, h5, m5, y1, y2, hlt, rfl, l5, rh5, ow5, ey5, et5⟩, fun v H3 hyv => ?_⟩
          obtain ⟨l4, rh4, rx⟩ := hy v H3 hyv
          have l04 := l3.trans l4
          have ow4 := ow.mono l4
          have rew : RE m2 h2.size H3 (wipeE s own) (wipe σ own) := (((re.mono l1).wipe own).mono l3).mono l4
          -- the turn
          subst hf
          obtain ⟨zs, h4, ez, et⟩ := bind_ok et
          obtain ⟨ws, h5, ew, et⟩ := bind_ok et
          cases et
          obtain ⟨s1, hg1, eg, ez⟩ := bind_ok ez
          obtain ⟨b, ht1, eb, ez⟩ := bind_ok ez
          obtain ⟨eh, _⟩ := ct_read (K := K) (Q := fun _ _ => True) rh4 rew rx eg fun _ _ => True.intro
          subst eh
          refine (ct_read (K := K) rh4 rew rx eg fun vs re5 => ⟨by rw [wipe_ct hin, wipe_wipe], s1, _, m2, rh4, re5, post_ok eb fun m6 H6 b' l6 rh6 rb => ?_⟩).2
          have eb' : b = b' := rb
          subst eb'
          have l06 := l04.trans l6
          have ow6 := ow4.mono l6
          cases b with
          | true =>
            rw [if_pos rfl]
            obtain ⟨y, h7, ey7, ez⟩ := bind_ok ez
            cases ez
            refine ⟨s1, ht1, m6, rh6, re5.mono l6, post_ok ey7 fun m8 H8 v8 l8 rh8 ry8 => ?_⟩
            obtain ⟨acc, ea, hlen, la, rha, owa⟩ := (ow6.mono l8).app rh8 (l06.trans l8) hD ry8
            refine ⟨acc, ea, ?_, _, m8, _, ws, la, rha, owa, ?_, ew⟩
            · rw [hlen]
              have : (ys1 ++ ([y] ++ ws)).length = ys.length := by rw [ey]
              simp only [List.length_append, List.length_cons, List.length_nil] at this
              omega
            · rw [List.append_assoc]; exact ey
          | false =>
            rw [if_neg Bool.false_ne_true]
            cases ez
            exact ⟨_, m6, ys1, ws, l06, rh6, ow6, ey, ew⟩
        · have e : i = xs.length := by omega
          subst e
          rw [List.drop_length] at et
          subst hf
          cases et
          rw [List.append_nil] at ey
          subst ey
          refine .inl ⟨wk.stop _ m2 H2 l3.lz rh3, ?_⟩
          obtain ⟨acc, ea, ra⟩ := ow.at_
          exact hp m2 H2 D acc (l1.trans l3.unlock) (rh3.unlock ls) hD0 ea ow.ni ra
end
end Ev
end

section
set_option Elab.async false
set_option linter.all false
set_option maxRecDepth 100000
/-! Ev: sources of loops. -/
namespace Ev
open PySem PySem.Spec PyProof.Rows L2

/-- the list or tuple at a tells xs, whatever the memory becomes -/
structure WSq (K : PySem.W.Frag) (p : Pl) (h1 : Mem) (m1 : Mp) (H1 : Hp) (ls : List Nat) (b : Bool) (a : Addr) (xs : List PV) : Prop where
  loc : ∀ n ∈ ls, n < h1.size
  at_ : ∀ h2 m2 H2, Lz (h1.lock ls) m1 H1 h2 m2 H2 → RH K p.C m2 h2 H2 → ∃ vs, Sq K b H2 a vs ∧ RPs m2 h2.size H2 xs vs
def PostQ (K : PySem.W.Frag) (p : Pl) (E : XK) (h : Mem) (m : Mp) (H : Hp) (r : Res (List PV × List Nat)) (Q : VK) : Prop := match r with
  | .ok q h' => ∀ m' H' b a, Le h m H h' m' H' → RH K p.C m' h' H' → WSq K p h' m' H' q.2 b a q.1 → Q (.ref a) H'
  | .err x h' => ∀ m' H' cls d, Le h m H h' m' H' → RH K p.C m' h' H' → RX p m' h'.size H' x cls d → E cls d H'
  | .bad => False
def tqOf (K : PySem.W.Frag) (p : Pl) (W : WX) (c : Calls) (f : XI) : TE := fun σ H Q => ∃ s h m, RH K p.C m h H ∧ RE m h.size H s σ ∧ PostQ K p (fun cls d H' => W cls d σ H') h m H (f c s h) Q
/-- an expression whose value is walked -/
def SQ (G : GT) (p : Pl) (sc : Sc) (e : Expr) (f : XI) : Prop := ∀ k W X, ECx G p k sc W X → PE X e (tqOf X.K p W (callD G.tab k) f)

section
variable {K : PySem.W.Frag} {p : Pl} {h h1 h2 : Mem} {m m1 m2 : Mp} {H H1 H2 : Hp} {ls : List Nat} {b b1 b2 : Bool} {a a1 a2 : Addr} {xs ys : List PV}
theorem Lz.refl : Lz h m H h m H := ⟨Nat.le_refl _, fun _ _ => rfl, fun _ e => e, fun _ e => e, fun _ _ _ => rfl, fun _ _ => ⟨rfl, rfl⟩, fun _ _ e => e⟩
theorem Walks.sq (w : WSq K p h1 m1 H1 ls b a xs) : Walks K p h1 m1 H1 ls (Itq K b a) xs where
  loc := w.loc
  item := fun i x h2 m2 H2 ex lz rh => by
    obtain ⟨vs, hq, rs⟩ := w.at_ h2 m2 H2 lz rh
    obtain ⟨v, ev, rv⟩ := rs.get ex
    refine ⟨⟨vs, v, hq, ev⟩, fun u H3 y => ?_⟩
    obtain ⟨e, hu⟩ := y
    subst e
    have := hu vs hq
    rw [ev] at this
    cases this
    exact ⟨rh.refl, rh, rv⟩
  stop := fun h2 m2 H2 lz rh => by
    obtain ⟨vs, hq, rs⟩ := w.at_ h2 m2 H2 lz rh
    exact ⟨vs, hq, Nat.le_of_eq rs.length⟩
theorem pairsI_get : ∀ (k : Int) (xs : List PV) (i : Nat), (pairsI k xs)[i]? = (xs[i]?).map fun x => PV.tup [.int (k + (i : Nat)), x]
  | _, [], i => by simp [pairsI]
  | k, x :: xs, 0 => by simp [pairsI]
  | k, x :: xs, i + 1 => by
    have e : k + 1 + (i : Int) = k + ((i + 1 : Nat) : Int) := by omega
    simp only [pairsI, List.getElem?_cons_succ]
    rw [pairsI_get (k + 1) xs i, e]
theorem pairsI_length : ∀ (k : Int) (xs : List PV), (pairsI k xs).length = xs.length
  | _, [] => rfl
  | k, x :: xs => congrArg (· + 1) (pairsI_length (k + 1) xs)
/-- a pair is made -/
theorem pair_made {T : Addr} {x y : PV} {v w : V} (rh : RH K p.C m h H) (hT : H T = none) (r1 : RP m h.size H x v) (r2 : RP m h.size H y w) :
    Le h m H h m (upd H T (.tup [v, w])) ∧ RH K p.C m h (upd H T (.tup [v, w])) ∧ RP m h.size (upd H T (.tup [v, w])) (.tup [x, y]) (.ref T) := by
  obtain ⟨l, rh'⟩ := rh.tmp (u := .tup [v, w]) hT
  exact ⟨l, rh', .tup upd_same (.cons (r1.mono l) (.cons (r2.mono l) .nil))⟩
theorem Walks.enum (w : WSq K p h1 m1 H1 ls b a xs) : Walks K p h1 m1 H1 ls (Iteq K b a) (pairsI 0 xs) where
  loc := w.loc
  item := fun i x h2 m2 H2 ex lz rh => by
    rw [pairsI_get] at ex
    cases e : xs[i]? with
    | none => rw [e] at ex; cases ex
    | some x0 =>
      rw [e] at ex
      have ex : PV.tup [.int (0 + (i : Nat)), x0] = x := Option.some.inj ex
      subst ex
      obtain ⟨vs, hq, rs⟩ := w.at_ h2 m2 H2 lz rh
      obtain ⟨v, ev, rv⟩ := rs.get e
      refine ⟨⟨vs, v, hq, ev⟩, fun u H3 y => ?_⟩
      obtain ⟨T, v', rfl, hT, rfl, hu⟩ := y
      have := hu vs hq
      rw [ev] at this
      cases this
      have e0 : (0 + (i : Int)) = i := by omega
      rw [e0]
      exact pair_made rh hT (.int _) rv
  stop := fun h2 m2 H2 lz rh => by
    obtain ⟨vs, hq, rs⟩ := w.at_ h2 m2 H2 lz rh
    exact ⟨vs, hq, by rw [pairsI_length]; exact Nat.le_of_eq rs.length⟩
theorem pairs_get : ∀ (xs ys : List PV) (i : Nat) (z : PV), (pairs xs ys)[i]? = some z → ∃ x y, xs[i]? = some x ∧ ys[i]? = some y ∧ z = .tup [x, y]
  | [], _, i, z, e => by simp [pairs] at e
  | x :: xs, [], i, z, e => by simp [pairs] at e
  | x :: xs, y :: ys, 0, z, e => by
    simp [pairs] at e
    exact ⟨x, y, by simp, by simp, e.symm⟩
  | x :: xs, y :: ys, i + 1, z, e => by
    simp only [pairs, List.getElem?_cons_succ] at e ⊢
    exact pairs_get xs ys i z e
theorem pairs_length : ∀ xs ys : List PV, (pairs xs ys).length = min xs.length ys.length
  | [], _ => by simp [pairs]
  | x :: xs, [] => by simp [pairs]
  | x :: xs, y :: ys => by
    simp only [pairs, List.length_cons]
    rw [pairs_length xs ys]
    omega
theorem Walks.zip (hl : ∀ n ∈ ls, n < h1.size) (w1 : ∀ h2 m2 H2, Lz (h1.lock ls) m1 H1 h2 m2 H2 → RH K p.C m2 h2 H2 → ∃ vs, Sq K b1 H2 a1 vs ∧ RPs m2 h2.size H2 xs vs)
    (w2 : ∀ h2 m2 H2, Lz (h1.lock ls) m1 H1 h2 m2 H2 → RH K p.C m2 h2 H2 → ∃ vs, Sq K b2 H2 a2 vs ∧ RPs m2 h2.size H2 ys vs) : Walks K p h1 m1 H1 ls (ItzS K b1 b2 a1 a2) (pairs xs ys) where
  loc := hl
  item := fun i x h2 m2 H2 ex lz rh => by
    obtain ⟨x, y, e1, e2, rfl⟩ := pairs_get _ _ _ _ ex
    obtain ⟨vs, hq, rs⟩ := w1 h2 m2 H2 lz rh
    obtain ⟨ws, hq2, rs2⟩ := w2 h2 m2 H2 lz rh
    obtain ⟨v, ev, rv⟩ := rs.get e1
    obtain ⟨u, eu, ru⟩ := rs2.get e2
    refine ⟨⟨vs, ws, v, u, hq, hq2, ev, eu⟩, fun q H3 yl => ?_⟩
    obtain ⟨T, v', u', rfl, hT, rfl, k1, k2⟩ := yl
    have k1 := k1 vs hq
    have k2 := k2 ws hq2
    rw [ev] at k1
    rw [eu] at k2
    cases k1
    cases k2
    exact pair_made rh hT rv ru
  stop := fun h2 m2 H2 lz rh => by
    obtain ⟨vs, hq, rs⟩ := w1 h2 m2 H2 lz rh
    obtain ⟨ws, hq2, rs2⟩ := w2 h2 m2 H2 lz rh
    have := rs.length
    have := rs2.length
    rw [pairs_length]
    exact ⟨vs, ws, hq, hq2, by omega, by omega, by omega⟩
theorem upto_get : ∀ (lo st : Int) (n i : Nat), i < n → (upto lo st n)[i]? = some (.int (lo + (i : Nat) * st))
  | _, _, 0, i, h => absurd h (Nat.not_lt_zero _)
  | lo, st, n + 1, 0, _ => by simp [upto]
  | lo, st, n + 1, i + 1, h => by
    have e : lo + st + (i : Int) * st = lo + ((i + 1 : Nat) : Int) * st := by
      have : ((i + 1 : Nat) : Int) = (i : Int) + 1 := by omega
      rw [this, Int.add_mul, Int.one_mul]
      omega
    simp only [upto, List.getElem?_cons_succ]
    rw [upto_get (lo + st) st n i (by omega), e]
theorem upto_length : ∀ (lo st : Int) (n : Nat), (upto lo st n).length = n
  | _, _, 0 => rfl
  | lo, st, n + 1 => congrArg (· + 1) (upto_length (lo + st) st n)
theorem Walks.range (lo : Int) (n : Nat) : Walks K p h1 m1 H1 [] (Itr lo n) (upto lo 1 n) where
  loc := fun _ hn => by cases hn
  item := fun i x h2 m2 H2 ex lz rh => by
    have hi : i < n := by
      cases Nat.lt_or_ge i n with
      | inl l => exact l
      | inr l => rw [List.getElem?_eq_none (by rw [upto_length]; exact l)] at ex; cases ex
    rw [upto_get lo 1 n i hi] at ex
    cases ex
    refine ⟨hi, fun v H3 y => ?_⟩
    obtain ⟨e1, e2⟩ := y
    subst e1 e2
    rw [Int.mul_one]
    exact ⟨rh.refl, rh, .int _⟩
  stop := fun h2 m2 H2 lz rh => by
    rw [upto_length]
    exact Nat.le_refl n
theorem Walks.rangeC (lo c : Int) (n : Nat) : Walks K p h1 m1 H1 [] (Itc lo c n) (upto lo c n) where
  loc := fun _ hn => by cases hn
  item := fun i x h2 m2 H2 ex lz rh => by
    have hi : i < n := by
      cases Nat.lt_or_ge i n with
      | inl l => exact l
      | inr l => rw [List.getElem?_eq_none (by rw [upto_length]; exact l)] at ex; cases ex
    rw [upto_get lo c n i hi] at ex
    cases ex
    refine ⟨hi, fun v H3 y => ?_⟩
    obtain ⟨e1, e2⟩ := y
    subst e1 e2
    exact ⟨rh.refl, rh, .int _⟩
  stop := fun h2 m2 H2 lz rh => by
    rw [upto_length]
    exact Nat.le_refl n
end

section
variable {G : GT} {p : Pl} {sc : Sc} {a b d tg : Expr} {fa fb fd : XE} {pos q : Pos}
theorem sq_of (ha : SE G p sc a fa) : SQ G p sc a (iOf fa) := fun k W X cx => PE.imp (ha k W X cx) fun σ H Q ⟨s, h, m, rh, re, hp⟩ => ⟨s, h, m, rh, re, by
  unfold iOf at hp
  cases e : fa (callD G.tab k) s h with
  | bad => rw [e] at hp; exact hp
  | err x h1 => rw [e] at hp; exact hp
  | ok x h1 =>
    rw [e] at hp
    simp only [Res.bind_ok] at hp
    intro m1 H1 v l rh1 rx
    cases x <;> first | exact hp.elim | skip
    · rename_i xs
      obtain ⟨q, vs, rfl, eq, rs⟩ := rx.tup_inv
      exact hp m1 H1 false q l rh1 ⟨fun n hn => (by cases hn), fun h2 m2 H2 lz rh2 => ⟨vs, SqT.of (lz.tups _ _ eq), rs.weak lz.lw⟩⟩
    · rename_i r
      obtain ⟨rfl, hr⟩ := rx.ref_inv
      have key : ∀ xs, h1.get r = some (.lst xs) ∨ h1.get r = some (.scr xs) → WSq X.K p h1 m1 H1 [r] true (m1.a r) xs := fun xs e => by
        refine ⟨fun n hn => ?_, fun h2 m2 H2 lz rh2 => ?_⟩
        · cases hn with
          | head => exact hr
          | tail _ z => cases z
        · have e2 : h2.get r = h1.get r := lz.lkd r (by simp)
          have ka := (lz.keep r hr).1
          rw [← ka]
          rcases e with e | e
          · obtain ⟨_, vs, ev, rs⟩ := rh2.obj r _ (e2.trans e)
            exact ⟨vs, SqL.of ev, rs⟩
          · obtain ⟨_, _, vs, ev, _, rs⟩ := rh2.obj r _ (e2.trans e)
            exact ⟨vs, ev, rs⟩
      cases eo : h1.get r with
      | none => simp only [eo] at hp; exact hp.elim
      | some o =>
        simp only [eo] at hp
        cases o <;> first | exact hp.elim | skip
        · exact hp m1 H1 true _ l rh1 (key _ (.inl eo))
        · exact hp m1 H1 true _ l rh1 (key _ (.inr eo))⟩
theorem sq_new {l : XA} (ha : SN G p sc a l) : SQ G p sc a (iNew l) := fun k W X cx => PE.imp (ha k W X cx) fun σ H Q ⟨s, h, m, rh, re, hp⟩ => ⟨s, h, m, rh, re, by
  unfold iNew at hp
  cases e : l (callD G.tab k) s h with
  | bad => rw [e] at hp; exact hp
  | err x h1 => rw [e] at hp; exact hp
  | ok xs h1 =>
    rw [e] at hp
    intro m1 H1 q vs l rh1 hn he na rs
    obtain ⟨l', rh'⟩ := l.adopt rh1 hn he na rs
    refine hp _ _ true q l' rh' ⟨fun n hn => ?_, fun h2 m2 H2 lz rh2 => ?_⟩
    · cases hn with
      | head => simp
      | tail _ z => cases z
    · have e2 := lz.lkd h1.size (by simp)
      have ka := (lz.keep h1.size (by simp)).1
      rw [Mp.ext_a] at ka
      rw [Mem.get_lock, Mem.get_push_new] at e2
      obtain ⟨_, vs, ev, rs⟩ := rh2.obj _ _ e2
      rw [ka] at ev
      exact ⟨vs, SqL.of ev, rs⟩⟩
theorem PostQ.mono {K : PySem.W.Frag} {E : XK} {h : Mem} {m : Mp} {H : Hp} {r : Res (List PV × List Nat)} {Q Q' : VK} (hp : PostQ K p E h m H r Q) (k : ∀ v H', Q v H' → Q' v H') : PostQ K p E h m H r Q' := by
  cases r with
  | ok q h' => exact fun m' H' b a l rh w => k _ _ (hp m' H' b a l rh w)
  | err x h' => exact hp
  | bad => exact hp
/-- what is told of the reading of a source -/
theorem pi_read {K : PySem.W.Frag} {W : WX} {c : Calls} {f : XI} {g : List PV → List PV} {σ : L2.St} {H : Hp} {R : It → Hp → Prop} {Q : VK} (h : tiOf K p W c (fun c s h => (f c s h).bind fun q h1 => .ok (g q.1, q.2) h1) σ H R)
    (k : ∀ h1 m1 H1 ls b a xs, RH K p.C m1 h1 H1 → WSq K p h1 m1 H1 ls b a xs → (∀ J, Walks K p h1 m1 H1 ls J (g xs) → R J H1) → Q (.ref a) H1) : tqOf K p W c f σ H Q := by
  obtain ⟨s, h, m, rh, re, hp⟩ := h
  refine ⟨s, h, m, rh, re, ?_⟩
  simp only at hp
  cases e : f c s h with
  | bad => rw [e] at hp; exact hp
  | err x h1 => rw [e] at hp; exact hp
  | ok q h1 =>
    rw [e] at hp
    exact fun m1 H1 b a l rh1 w => k h1 m1 H1 q.2 b a q.1 rh1 w fun J wk => hp m1 H1 J l rh1 wk
theorem WSq.now {K : PySem.W.Frag} {h1 : Mem} {m1 : Mp} {H1 : Hp} {ls : List Nat} {b : Bool} {a : Addr} {xs : List PV} (w : WSq K p h1 m1 H1 ls b a xs) (rh : RH K p.C m1 h1 H1) : ∃ vs, Sq K b H1 a vs := by
  obtain ⟨vs, h, _⟩ := w.at_ _ m1 H1 Lz.refl (rh.lock w.loc)
  exact ⟨vs, h⟩
theorem si_q {f : XI} (ha : SQ G p sc a f) : SI G p sc tg a f := fun k W X cx => PI.imp (pi_sq (ha k W X cx)) fun σ H R ⟨s, h, m, rh, re, hp⟩ => by
  refine ⟨s, h, m, rh, re, ?_⟩
  cases e : f (callD G.tab k) s h with
  | bad => rw [e] at hp; exact hp
  | err x h1 => rw [e] at hp; exact hp
  | ok q h1 =>
    rw [e] at hp
    intro m1 H1 b a l rh1 w
    obtain ⟨vs, hq⟩ := w.now rh1
    exact ⟨b, a, vs, rfl, hq, hp m1 H1 _ l rh1 (Walks.sq w)⟩
theorem si_enum {f : XI} {elts : List Expr} {kk : Nat} {tpos : Pos} (hg : sc.scope.names.lookup ("enumerate" : Str) = some .globalImplicit) (hf : ("enumerate" : Str) ∈ G.free) (hs : notStar a = true) (ha : SQ G p sc a f) :
    SI G p sc (.Tuple elts kk tpos) (.Call (.Name "enumerate" q) [a] [] pos) (iEnum f) := fun k W X cx =>
  PI.imp (pi_enumS (glob_of cx hg) (cx.g.free _ hf) (pa_cons (ha k W X cx) pa_nil (star_no hs)) (star_no hs)) fun σ H R h => by
    show tqOf X.K p W (callD G.tab k) f σ H _
    refine pi_read (g := pairsI 0) h fun h1 m1 H1 ls b a xs rh1 w hR => ?_
    obtain ⟨vs, hq⟩ := w.now rh1
    exact ⟨b, a, vs, rfl, hq, hR _ (Walks.enum w)⟩
theorem zip_lz {h1 h2 h3 : Mem} {m1 m2 m3 : Mp} {H1 H2 H3 : Hp} {l1 l2 : List Nat} (a : Le (h1.lock l1) m1 H1 h2 m2 H2) (b : Lz ((h2.unlock l1).lock (l2 ++ l1)) m2 H2 h3 m3 H3) : Lz (h1.lock l1) m1 H1 h3 m3 H3 := by
  refine Lz.trans a.lz ⟨b.le, fun n hn => b.lkd n ?_, fun n hn => b.lk n ?_, b.ld, fun n hn hl => b.lkh n ?_ hl, b.keep, b.tups⟩ <;>
  · rw [a.lk, Mem.locks_lock] at hn
    simp only [Mem.locks_lock, Mem.locks_unlock, a.lk, List.drop_left, List.mem_append] at hn ⊢
    rcases hn with z | z
    · exact .inl (.inr z)
    · exact .inr z
theorem zip_lz2 {h2 h3 : Mem} {m2 m3 : Mp} {H2 H3 : Hp} {l1 l2 ls : List Nat} (e : h2.locks = l1 ++ ls) (b : Lz ((h2.unlock l1).lock (l2 ++ l1)) m2 H2 h3 m3 H3) : Lz (h2.lock l2) m2 H2 h3 m3 H3 := by
  refine ⟨b.le, fun n hn => b.lkd n ?_, fun n hn => b.lk n ?_, b.ld, fun n hn hl => b.lkh n ?_ hl, b.keep, b.tups⟩ <;>
  · simp only [Mem.locks_lock, Mem.locks_unlock, e, List.drop_left, List.mem_append] at hn ⊢
    rcases hn with z | z | z
    · exact .inl (.inl z)
    · exact .inl (.inr z)
    · exact .inr z
theorem si_zip {f g : XI} {elts : List Expr} {kk : Nat} {tpos : Pos} (hg : sc.scope.names.lookup ("zip" : Str) = some .globalImplicit) (hf : ("zip" : Str) ∈ G.free) (hs : noStars [a, b] = true) (ha : SQ G p sc a f) (hb : SQ G p sc b g) :
    SI G p sc (.Tuple elts kk tpos) (.Call (.Name "zip" q) [a, b] [] pos) (iZip f g) := fun k W X cx => by
  obtain ⟨s1, s2⟩ := noStars_cons hs
  obtain ⟨s2, _⟩ := noStars_cons s2
  refine PI.imp (pi_zipS (glob_of cx hg) (cx.g.free _ hf) (pa_cons (ha k W X cx) (pa_cons (hb k W X cx) pa_nil (star_no s2)) (star_no s1)) (star_no s1) (by rw [star_no s2]; rfl)) fun σ H R ⟨s, h, m, rh, re, hp⟩ => ?_
  show tqOf X.K p W (callD G.tab k) f σ H _
  refine ⟨s, h, m, rh, re, ?_⟩
  unfold iZip at hp
  cases e : f (callD G.tab k) s h with
  | bad => rw [e] at hp; exact hp
  | err x h1 => rw [e] at hp; exact hp
  | ok q1 h1 =>
    rw [e] at hp
    simp only [Res.bind_ok] at hp
    intro m1 H1 b1 a1 l1 rh1 w1
    refine ⟨s, h1.lock q1.2, m1, rh1.lock w1.loc, (re.mono l1 : RE m1 h1.size H1 s σ), ?_⟩
    cases e2 : g (callD G.tab k) s (h1.lock q1.2) with
    | bad => rw [e2] at hp; exact hp
    | err x h2 =>
      rw [e2] at hp
      exact fun m2 H2 cls d l2 rh2 rx => hp m2 H2 cls d (l1.trans l2.unlock) (rh2.unlock _) (rx : RX p m2 h2.size H2 x cls d)
    | ok q2 h2 =>
      rw [e2] at hp
      intro m2 H2 b2 a2 l2 rh2 w2
      have lb : h2.locks = q1.2 ++ h1.locks := l2.lk
      have wz : ∀ h3 m3 H3, Lz ((h2.unlock q1.2).lock (q2.2 ++ q1.2)) m2 H2 h3 m3 H3 → RH X.K p.C m3 h3 H3 → ∃ vs, Sq X.K b1 H3 a1 vs ∧ RPs m3 h3.size H3 q1.1 vs := fun h3 m3 H3 lz rh3 => w1.at_ h3 m3 H3 (zip_lz l2 lz) rh3
      have wz2 : ∀ h3 m3 H3, Lz ((h2.unlock q1.2).lock (q2.2 ++ q1.2)) m2 H2 h3 m3 H3 → RH X.K p.C m3 h3 H3 → ∃ vs, Sq X.K b2 H3 a2 vs ∧ RPs m3 h3.size H3 q2.1 vs := fun h3 m3 H3 lz rh3 => w2.at_ h3 m3 H3 (zip_lz2 lb lz) rh3
      have hl : ∀ n ∈ q2.2 ++ q1.2, n < (h2.unlock q1.2).size := fun n hn => by
        rcases List.mem_append.mp hn with z | z
        · exact w2.loc n z
        · exact Nat.lt_of_lt_of_le (w1.loc n z) l2.le
      have rhz := (rh2.unlock q1.2).lock hl
      obtain ⟨vs, hq1, _⟩ := wz _ m2 H2 Lz.refl rhz
      obtain ⟨ws, hq2, _⟩ := wz2 _ m2 H2 Lz.refl rhz
      exact ⟨b1, b2, a1, a2, vs, ws, rfl, hq1, hq2, hp m2 H2 _ (l1.trans l2.unlock) (rh2.unlock _) (Walks.zip hl wz wz2)⟩
/-! ### ranges -/
theorem lt62_iff {i : Int} (h : lt62 i = true) : -(2 ^ 62) ≤ i ∧ i < 2 ^ 62 := by
  unfold lt62 at h
  cases e : ilt (-4611686018427387904) i with
  | false => rw [e] at h; cases h
  | true =>
    rw [e] at h
    have h : ilt i 4611686018427387904 = true := h
    rw [ilt_iff] at e h
    omega
theorem cndI_post {K : PySem.W.Frag} {E : XK} {h : Mem} {m : Mp} {H : Hp} {b : Bool} {r : Res (List PV × List Nat)} {R : It → Hp → Prop} (hp : PostI K p E h m H (cnd b r .bad) R) : b = true ∧ PostI K p E h m H r R := by
  cases b with
  | true => exact ⟨rfl, hp⟩
  | false => exact hp.elim
/-- the reading of the arguments of a range -/
theorem ta_pi {K : PySem.W.Frag} {W : WX} {c : Calls} {f : XE} {s : Env} {h : Mem} {m : Mp} {σ : L2.St} {H : Hp} {R : It → Hp → Prop} {g : PV → Mem → Res (List PV × List Nat)} {Q : VK} (rh : RH K p.C m h H) (re : RE m h.size H s σ)
    (hp : PostI K p (fun cls d H' => W cls d σ H') h m H ((f c s h).bind g) R) (k : ∀ v H1 x h1 m1, RH K p.C m1 h1 H1 → RE m1 h1.size H1 s σ → RP m1 h1.size H1 x v → PostI K p (fun cls d H' => W cls d σ H') h1 m1 H1 (g x h1) R → Q v H1) : teOf K p W c f σ H Q := by
  refine ⟨s, h, m, rh, re, ?_⟩
  cases e : f c s h with
  | bad => rw [e] at hp; exact hp
  | err x h1 => rw [e] at hp; exact hp
  | ok x h1 =>
    rw [e] at hp
    intro m1 H1 v l rh1 rx
    refine k v H1 x h1 m1 rh1 (re.mono l) rx ?_
    have hp : PostI K p (fun cls d H' => W cls d σ H') h m H (g x h1) R := hp
    cases eg : g x h1 with
    | bad => rw [eg] at hp; exact hp
    | err x2 h2 => rw [eg] at hp; exact fun m2 H2 cls d l2 => hp m2 H2 cls d (l.trans l2)
    | ok x2 h2 => rw [eg] at hp; exact fun m2 H2 J l2 => hp m2 H2 J (l.trans l2)
theorem si_r1 (hg : sc.scope.names.lookup ("range" : Str) = some .globalImplicit) (hf : ("range" : Str) ∈ G.free) (hs : notStar a = true) (ha : SE G p sc a fa) : SI G p sc tg (.Call (.Name "range" q) [a] [] pos) (iR1 fa) := fun k W X cx =>
  PI.imp (pi_range1 (glob_of cx hg) (cx.g.free _ hf) (pa_cons (ha k W X cx) pa_nil (star_no hs)) (star_no hs)) fun σ H R ⟨s, h, m, rh, re, hp⟩ => ta_pi rh re hp fun v H1 x h1 m1 rh1 re1 rx hp1 => by
    cases x <;> first | exact hp1.elim | skip
    rename_i j
    obtain ⟨c1, hp1⟩ := cndI_post hp1
    obtain ⟨b1, b2⟩ := lt62_iff c1
    rw [rx.int_inv]
    exact ⟨j, rfl, b1, b2, hp1 m1 H1 _ rh1.refl rh1 (Walks.range 0 _)⟩
theorem si_r2 (hg : sc.scope.names.lookup ("range" : Str) = some .globalImplicit) (hf : ("range" : Str) ∈ G.free) (hs : noStars [a, b] = true) (ha : SE G p sc a fa) (hb : SE G p sc b fb) : SI G p sc tg (.Call (.Name "range" q) [a, b] [] pos) (iR2 fa fb) := fun k W X cx => by
  obtain ⟨s1, s2⟩ := noStars_cons hs
  obtain ⟨s2, _⟩ := noStars_cons s2
  refine PI.imp (pi_range2 (glob_of cx hg) (cx.g.free _ hf) (pa_cons (ha k W X cx) (pa_cons (hb k W X cx) pa_nil (star_no s2)) (star_no s1)) (by rw [star_no s1, star_no s2]; rfl) (star_no s2)) fun σ H R ⟨s, h, m, rh, re, hp⟩ => ta_pi rh re hp fun v H1 x h1 m1 rh1 re1 rx hp1 => ?_
  refine ta_pi rh1 re1 hp1 fun u H2 y h2 m2 rh2 re2 ry hp2 => ?_
  cases x <;> first | exact hp2.elim | skip
  cases y <;> first | exact hp2.elim | skip
  rename_i i j
  obtain ⟨c1, hp2⟩ := cndI_post hp2
  obtain ⟨c2, hp2⟩ := cndI_post hp2
  obtain ⟨b1, b2⟩ := lt62_iff c1
  obtain ⟨b3, b4⟩ := lt62_iff c2
  rw [rx.int_inv, ry.int_inv]
  exact ⟨i, j, rfl, ⟨b1, b2, b3, b4⟩, hp2 m2 H2 _ rh2.refl rh2 (Walks.range i _)⟩
theorem si_r3 (hg : sc.scope.names.lookup ("range" : Str) = some .globalImplicit) (hf : ("range" : Str) ∈ G.free) (hs : noStars [a, b, d] = true) (ha : SE G p sc a fa) (hb : SE G p sc b fb) (hd : SE G p sc d fd) : SI G p sc tg (.Call (.Name "range" q) [a, b, d] [] pos) (iR3 fa fb fd) := fun k W X cx => by
  obtain ⟨s1, s2⟩ := noStars_cons hs
  obtain ⟨s2, s3⟩ := noStars_cons s2
  obtain ⟨s3, _⟩ := noStars_cons s3
  refine PI.imp (pi_range3 (glob_of cx hg) (cx.g.free _ hf) (pa_cons (ha k W X cx) (pa_cons (hb k W X cx) (pa_cons (hd k W X cx) pa_nil (star_no s3)) (star_no s2)) (star_no s1)) (star_no s1) (by rw [star_no s2, star_no s3]; rfl)) fun σ H R ⟨s, h, m, rh, re, hp⟩ => ta_pi rh re hp fun v H1 x h1 m1 rh1 re1 rx hp1 => ?_
  refine ta_pi rh1 re1 hp1 fun u H2 y h2 m2 rh2 re2 ry hp2 => ?_
  refine ta_pi rh2 re2 hp2 fun w H3 z h3 m3 rh3 re3 rz hp3 => ?_
  cases x <;> first | exact hp3.elim | skip
  cases y <;> first | exact hp3.elim | skip
  cases z <;> first | exact hp3.elim | skip
  rename_i i j k'
  unfold rng3 at hp3
  simp only at hp3
  cases ek : ieq k' 0 with
  | true => rw [ek] at hp3; exact hp3.elim
  | false =>
    rw [ek] at hp3
    obtain ⟨c1, hp3⟩ := cndI_post hp3
    obtain ⟨c2, hp3⟩ := cndI_post hp3
    obtain ⟨c3, hp3⟩ := cndI_post hp3
    rw [rx.int_inv, ry.int_inv, rz.int_inv]
    rw [ile_eq] at c3
    have c3 := of_decide_eq_true c3
    refine ⟨i, j, k', _, rfl, ⟨fun e => ?_, blt_iff.mp c1, c2, (Int.toNat_of_nonneg c3).symm⟩, hp3 m3 H3 _ rh3.refl rh3 (Walks.rangeC i k' _)⟩
    rw [ieq_eq] at ek
    exact of_decide_eq_false ek e
end
end Ev
end

section
set_option Elab.async false
set_option linter.all false
set_option maxRecDepth 100000
/-! Ev: comprehensions. -/
namespace Ev
open PySem PySem.Spec PyProof.Rows L2
section
variable {G : GT} {p : Pl} {sc : Sc} {pos : Pos}
theorem Le.both {h h' : Mem} {m m' : Mp} {H H' : Hp} (l : Le h m H h' m' H') (ls : List Nat) : Le (h.unlock ls) m H (h'.unlock ls) m' H' :=
  ⟨l.le, by rw [Mem.locks_unlock, Mem.locks_unlock, l.lk], l.ld, fun n hn => l.lkd n (List.mem_of_mem_drop hn), fun n hn hl => l.lkh n (List.mem_of_mem_drop hn) hl, l.keep, l.frame, l.tups, l.new, l.old⟩
/-- the locks are those that were put on -/
theorem unlock_lock {h h2 : Mem} {m m2 : Mp} {H H2 : Hp} {ls : List Nat} (l : Lz (h.lock ls) m H h2 m2 H2) : True := trivial
/-- the second source's turns, the list at D -/
theorem in_read {K : PySem.W.Frag} {c : Calls} {i1 : XI} {g1 : Tg} {t1 : XT} {fe : XE} {own1 : List Nat} {D : Addr} {h0 h2 : Mem} {m0 m2 : Mp} {H0 H2 : Hp} {s : Env} {σ : L2.St} {ys1 ws : List PV} {hF : Mem} {Nx : Hp → Prop}
    (hin : tgIn own1 g1) (hD : H0 D = none) (l : Le h0 m0 H0 h2 m2 H2) (rh : RH K p.C m2 h2 H2) (re : RE m2 h2.size H2 s σ) (ow : Own h2 m2 H2 D ys1)
    (et : ((i1 c s h2).bind fun q h3 => (turns (tgG g1) t1 c (lC1.wipeV s own1) (fun s'' h => (fe c s'' h).bind fun y h' => .ok [y] h') q.1 (h3.lock q.2)).bind fun ys h4 => .ok ys (h4.unlock q.2)) = .ok ws hF)
    (hlen : (ys1 ++ ws).length ≤ sizeLine) (k : ∀ mF HF, Le h0 m0 H0 hF mF HF → RH K p.C mF hF HF → Own hF mF HF D (ys1 ++ ws) → Nx HF) :
    tiOf K p (fun _ _ _ _ => False) c i1 σ H2 (fun J1 H4 => ∃ W1 : Nat → Nat → Hp → Prop, (∃ m, W1 0 m H4) ∧ ∀ j k H, W1 j k H →
      (J1.stop j H ∧ Nx H) ∨ (J1.go j H ∧ ∃ Nx1 : Hp → Prop, (∀ H', Nx1 H' → ∃ k', k' < k ∧ W1 (j + 1) k' H') ∧ ∀ x H', J1.yld j H x H' → ctR K g1 x (wipe σ own1) H' fun σ3 H5 => wipe σ3 own1 = wipe σ own1 ∧ ttOf K p (fun _ _ _ _ => False) c t1 σ3 H5 fun b H6 =>
        if b = true then teOf K p (fun _ _ _ _ => False) c fe σ3 H6 fun y H7 => ∃ acc, H7 D = some (.lst acc) ∧ acc.length < sizeLine ∧ Nx1 (upd H7 D (.lst (acc ++ [y]))) else Nx1 H6)) := by
  refine ⟨s, h2, m2, rh, re, ?_⟩
  obtain ⟨⟨xs, ls⟩, h3, e3, et⟩ := bind_ok et
  obtain ⟨ys', h4, e4, et⟩ := bind_ok et
  cases et
  rw [e3]
  rw [wipeV_eq] at e4
  intro m3 H3 J l3 rh3 wk
  simp only at e4 wk
  have ow3 := ow.mono l3
  have l03 := l.trans l3
  generalize hf : turns (tgG g1) t1 c (wipeE s own1) (fun s' h' => (fe c s' h').bind fun y h' => .ok [y] h') = tr at e4
  refine ⟨fun i mz H5 => ∃ h5 m5 zs1 zs2, i ≤ xs.length ∧ mz = xs.length - i ∧ Lz (h3.lock ls) m3 H3 h5 m5 H5 ∧ Le h0 m0 H0 (h5.unlock ls) m5 H5 ∧ RH K p.C m5 h5 H5 ∧ Own h5 m5 H5 D (ys1 ++ zs1) ∧ zs1 ++ zs2 = ws ∧ tr (xs.drop i) h5 = .ok zs2 h4,
    ⟨xs.length, h3.lock ls, m3, [], ws, Nat.zero_le _, rfl, Lz.refl, ?_, rh3.lock wk.loc, by rw [List.append_nil]; exact ⟨ow3.ni, ow3.at_⟩, rfl, by simpa using e4⟩, ?_⟩
  · exact ⟨l03.le, by rw [Mem.locks_unlock, Mem.locks_lock]; simp [l03.lk], l03.ld, l03.lkd, l03.lkh, l03.keep, l03.frame, l03.tups, l03.new, l03.old⟩
  rintro i mz H5 ⟨h5, m5, zs1, zs2, hi, rfl, lz5, l5, rh5, ow5, ey, et⟩
  by_cases hlt : i < xs.length
  · have ex : xs[i]? = some xs[i] := List.getElem?_eq_getElem hlt
    obtain ⟨hgo, hy⟩ := wk.item i _ h5 m5 H5 ex lz5 rh5
    rw [List.drop_eq_getElem_cons hlt] at et
    refine .inr ⟨hgo, fun H9 => ∃ h9 m9 zs1 zs2, Lz (h3.lock ls) m3 H3 h9 m9 H9 ∧ Le h0 m0 H0 (h9.unlock ls) m9 H9 ∧ RH K p.C m9 h9 H9 ∧ Own h9 m9 H9 D (ys1 ++ zs1) ∧ zs1 ++ zs2 = ws ∧ tr (xs.drop (i + 1)) h9 = .ok zs2 h4,
      fun H9 ⟨h9, m9, y1, y2, lz9, l9, rh9, ow9, ey9, et9⟩ => ⟨xs.length - (i + 1), by omega, h9, m9, y1, y2, hlt, rfl, lz9, l9, rh9, ow9, ey9, et9⟩, fun v H6 hyv => ?_⟩
    obtain ⟨l6, rh6, rx⟩ := hy v H6 hyv
    have ow6 := ow5.mono l6
    have rew : RE m5 h5.size H6 (wipeE s own1) (wipe σ own1) := by
      have r := ((re.mono l3).wipe own1)
      refine ⟨r.len, fun i x e => ?_⟩
      obtain ⟨v, ev, rv⟩ := r.at_ i x e
      exact ⟨v, ev, (RP.weak lz5.lw rv).mono l6⟩
    subst hf
    obtain ⟨zs, h7, ez, et⟩ := bind_ok et
    obtain ⟨vs, h8, ew, et⟩ := bind_ok et
    cases et
    obtain ⟨s1, hg1, eg, ez⟩ := bind_ok ez
    obtain ⟨b, ht1, eb, ez⟩ := bind_ok ez
    obtain ⟨eh, _⟩ := ct_read (K := K) (Q := fun _ _ => True) rh6 rew rx eg fun _ _ => True.intro
    subst eh
    refine (ct_read (K := K) rh6 rew rx eg fun us re7 => ⟨by rw [wipe_ct hin, wipe_wipe], s1, _, m5, rh6, re7, post_ok eb fun m8 H8 b' l8 rh8 rb => ?_⟩).2
    have eb' : b = b' := rb
    subst eb'
    have l68 := l6.trans l8
    have lz8 := lz5.trans l68.lz
    have le8 := l5.trans (l68.both ls)
    have ow8 := ow6.mono l8
    cases b with
    | true =>
      rw [if_pos rfl]
      obtain ⟨y, h9, ey9, ez⟩ := bind_ok ez
      cases ez
      refine ⟨s1, ht1, m8, rh8, re7.mono l8, post_ok ey9 fun m9 H9 v9 l9 rh9 ry9 => ?_⟩
      have ow9 := ow8.mono l9
      obtain ⟨acc, ea, hl2, la, rha, owa⟩ := Own.app (h1 := h0) (h2 := h7.unlock ls) (m1 := m0) (H1 := H0) ⟨ow9.ni, ow9.at_⟩ (rh9.unlock ls) (le8.trans (l9.both ls)) hD (ry9 : RP m9 (h7.unlock ls).size H9 y v9)
      refine ⟨acc, ea, ?_, _, m9, zs1 ++ [y], vs, ?_, la, ?_, ?_, ?_, ew⟩
      · rw [hl2]
        have : (ys1 ++ (zs1 ++ ([y] ++ vs))).length ≤ sizeLine := by rw [ey]; exact hlen
        simp only [List.length_append, List.length_cons, List.length_nil] at this ⊢
        omega
      · refine lz8.trans (l9.lz.trans ⟨Nat.le_refl _, fun _ _ => rfl, fun _ e => e, fun _ e => e, fun n _ hl => upd_ne (ow9.ni n hl).1.symm, fun _ _ => ⟨rfl, rfl⟩, fun a us e => ?_⟩)
        rw [upd_ne (fun q => by rw [q, ea] at e; cases e)]
        exact e
      · exact ⟨rha.all, rha.obj, rha.inj, rh9.lok, rh9.lod⟩
      · rw [← List.append_assoc]; exact ⟨owa.ni, owa.at_⟩
      · rw [List.append_assoc]; exact ey
    | false =>
      rw [if_neg Bool.false_ne_true]
      cases ez
      exact ⟨_, m8, zs1, vs, lz8, le8, rh8, ow8, ey, ew⟩
  · have e : i = xs.length := by omega
    subst e
    rw [List.drop_length] at et
    subst hf
    cases et
    rw [List.append_nil] at ey
    subst ey
    exact .inl ⟨wk.stop _ m5 H5 lz5 rh5, k m5 H5 l5 (rh5.unlock ls) ⟨ow5.ni, ow5.at_⟩⟩
/-- TWO CLAUSES -/
theorem lc2_read {K : PySem.W.Frag} {W : WX} {c : Calls} {fi i1 : XI} {g g1 : Tg} {t t1 : XT} {fe : XE} {own own1 : List Nat} {σ : L2.St} {H : Hp} {Q : VK} (hin : tgIn own g) (hin1 : tgIn own1 g1) (h : tnOf K p W c (lC2 own own1 fi g t i1 g1 t1 fe) σ H Q) :
    tLc2 (tiOf K p W c fi) (ctR K g) (ttOf K p (fun _ _ _ _ => False) c t) (tiOf K p (fun _ _ _ _ => False) c i1) (ctR K g1) (ttOf K p (fun _ _ _ _ => False) c t1) (teOf K p (fun _ _ _ _ => False) c fe) own own1 σ H Q := by
  obtain ⟨s, h, m, rh, re, hp⟩ := h
  refine ⟨s, h, m, rh, re, ?_⟩
  unfold lC2 at hp
  cases ei : fi c s h with
  | bad => rw [ei] at hp; exact hp
  | err x h1 => rw [ei] at hp; exact hp
  | ok q h1 =>
    rw [ei] at hp
    simp only [Res.bind_ok] at hp
    obtain ⟨xs, ls⟩ := q
    intro m1 H1 J l1 rh1 wk D hD
    simp only at hp wk
    rw [wipeV_eq] at hp
    have hD0 : H D = none := l1.fresh hD
    generalize hb : (fun (s' : Env) (h : Mem) => (i1 c s' h).bind fun q h3 => (turns (tgG g1) t1 c (lC1.wipeV s' own1) (fun s'' h => (fe c s'' h).bind fun y h' => .ok [y] h') q.1 (h3.lock q.2)).bind fun ys h4 => .ok ys (h4.unlock q.2)) = bo at hp
    generalize hf : turns (tgG g) t c (wipeE s own) bo = tr at hp
    cases er : noErr (tr xs (h1.lock ls)) with
    | bad => rw [er] at hp; exact hp.elim
    | err x h2 => rw [er] at hp; unfold noErr at er; split at er <;> cases er
    | ok ys hE =>
      rw [er] at hp
      simp only [Res.bind_ok] at hp
      have er := noErr_ok er
      cases cf : fits ys with
      | false => rw [cf] at hp; exact hp.elim
      | true =>
        rw [cf] at hp
        have fy := fits_le cf
        obtain ⟨l2, rh2⟩ := rh1.tmp (u := .lst []) hD
        refine ⟨fun i mz H2 => ∃ h2 m2 ys1 ys2, i ≤ xs.length ∧ mz = xs.length - i ∧ Le (h1.lock ls) m1 H1 h2 m2 H2 ∧ RH K p.C m2 h2 H2 ∧ Own h2 m2 H2 D ys1 ∧ ys1 ++ ys2 = ys ∧ tr (xs.drop i) h2 = .ok ys2 hE,
          ⟨xs.length, h1.lock ls, m1, [], ys, Nat.zero_le _, rfl, ?_, rh2.lock wk.loc, ⟨fun n hn => ⟨fun z => (rh1.fresh hD hn).1 z.symm, fun z => (rh1.fresh hD hn).2 z.symm⟩, [], upd_same, .nil⟩, rfl, by simpa using er⟩, ?_⟩
        · exact (rh1.lrefl ls).trans ⟨l2.le, rfl, rfl, fun _ _ => rfl, fun n hn hl => (upd_ne (rh1.fresh (by assumption) hl).1), l2.keep, l2.frame, l2.tups, l2.new, l2.old⟩
        rintro i mz H2 ⟨h2, m2, ys1, ys2, hi, rfl, l3, rh3, ow, ey, et⟩
        by_cases hlt : i < xs.length
        · have ex : xs[i]? = some xs[i] := List.getElem?_eq_getElem hlt
          obtain ⟨hgo, hy⟩ := wk.item i _ h2 m2 H2 ex l3.lz rh3
          rw [List.drop_eq_getElem_cons hlt] at et
          refine .inr ⟨hgo, fun H5 => ∃ h5 m5 ys1 ys2, Le (h1.lock ls) m1 H1 h5 m5 H5 ∧ RH K p.C m5 h5 H5 ∧ Own h5 m5 H5 D ys1 ∧ ys1 ++ ys2 = ys ∧ tr (xs.drop (i + 1)) h5 = .ok ys2 hE,
            fun H5 ⟨h5, m5, y1, y2, l5, rh5, ow5, ey5, et5⟩ => ⟨xs.length - (i + 1), by omega, h5, m5, y1, y2, hlt, rfl, l5, rh5, ow5, ey5, et5⟩, fun v H3 hyv => ?_⟩
          obtain ⟨l4, rh4, rx⟩ := hy v H3 hyv
          have l04 := l3.trans l4
          have ow4 := ow.mono l4
          have rew : RE m2 h2.size H3 (wipeE s own) (wipe σ own) := (((re.mono l1).wipe own).mono l3).mono l4
          subst hf
          obtain ⟨zs, h4, ez, et⟩ := bind_ok et
          obtain ⟨ws, h5, ew, et⟩ := bind_ok et
          cases et
          obtain ⟨s1, hg1, eg, ez⟩ := bind_ok ez
          obtain ⟨b, ht1, eb, ez⟩ := bind_ok ez
          obtain ⟨eh, _⟩ := ct_read (K := K) (Q := fun _ _ => True) rh4 rew rx eg fun _ _ => True.intro
          subst eh
          refine (ct_read (K := K) rh4 rew rx eg fun vs re5 => ⟨by rw [wipe_ct hin, wipe_wipe], s1, _, m2, rh4, re5, post_ok eb fun m6 H6 b' l6 rh6 rb => ?_⟩).2
          have eb' : b = b' := rb
          subst eb'
          have l06 := l04.trans l6
          have ow6 := ow4.mono l6
          cases b with
          | true =>
            rw [if_pos rfl]
            subst hb
            have hlen : (ys1 ++ zs).length ≤ sizeLine := by
              have : (ys1 ++ (zs ++ ws)).length = ys.length := by rw [ey]
              simp only [List.length_append] at this ⊢
              omega
            exact in_read (h0 := h1.lock ls) hin1 hD l06 rh6 (re5.mono l6) ow6 ez hlen fun mF HF lF rhF owF => ⟨_, mF, ys1 ++ zs, ws, lF, rhF, owF, by rw [List.append_assoc]; exact ey, ew⟩
          | false =>
            rw [if_neg Bool.false_ne_true]
            cases ez
            exact ⟨_, m6, ys1, ws, l06, rh6, ow6, ey, ew⟩
        · have e : i = xs.length := by omega
          subst e
          rw [List.drop_length] at et
          subst hf
          cases et
          rw [List.append_nil] at ey
          subst ey
          refine .inl ⟨wk.stop _ m2 H2 l3.lz rh3, ?_⟩
          obtain ⟨acc, ea, ra⟩ := ow.at_
          exact hp m2 H2 D acc (l1.trans l3.unlock) (rh3.unlock ls) hD0 ea ow.ni ra
/-- not a display of a set -/
def notSet : Expr → Bool
  | .Set _ _ _ => false
  | _ => true
theorem folded {e : Expr} (h : notSet e = true) (env : PySem.Env) (x : Value) : foldedSetIterable e env x = pure x := by
  cases e <;> first | rfl | cases h
variable {elt tg iter tg1 iter1 : Expr} {ifs ifs1 : List Expr} {scope : Scope} {own : List (Str × Nat)} {fi i1 : XI} {g g1 : Tg} {t t1 : XT} {fe : XE} {vs1 : List Nat}
theorem sn_lc1 (hb : blkC sc.N sc.scope scope own = true) (hs : notSet iter = true) (hin : tgIn (own.map (·.2)) g) (hi : SI G p sc tg iter fi) (hg : TgOk (blkSc sc scope) tg g) (ht : STs G p (blkSc sc scope) ifs t) (he : SE G p (blkSc sc scope) elt fe) :
    SN G p sc (.ListComp elt [⟨tg, iter, ifs, 0⟩] scope pos) (lC1 (own.map (·.2)) fi g t fe) := fun k W X cx =>
  PE.imp (pe_lc cx.calm cx.nd (hi k W X cx) (by rw [cx.n, cx.sco]; exact blkOk_by hb) (fun s H C cl fp => ct_ok (ecx_blk cx s H scope C cl fp) hg) (fun s H C cl fp => ht k _ _ (ecx_blk cx s H scope C cl fp)) (fun s H C cl fp => he k _ _ (ecx_blk cx s H scope C cl fp)) (folded hs _))
    fun σ H Q h => lc_read hin h
theorem sn_lc2 (hb : blkC sc.N sc.scope scope own = true) (hv : ∀ i ∈ vs1, i ∈ own.map (·.2)) (hs : notSet iter = true) (hs1 : notSet iter1 = true) (hin : tgIn (own.map (·.2)) g) (hin1 : tgIn vs1 g1) (hi : SI G p sc tg iter fi) (hg : TgOk (blkSc sc scope) tg g) (ht : STs G p (blkSc sc scope) ifs t)
    (hi1 : SI G p (blkSc sc scope) tg1 iter1 i1) (hg1 : TgOk (blkSc sc scope) tg1 g1) (ht1 : STs G p (blkSc sc scope) ifs1 t1) (he : SE G p (blkSc sc scope) elt fe) :
    SN G p sc (.ListComp elt [⟨tg, iter, ifs, 0⟩, ⟨tg1, iter1, ifs1, 0⟩] scope pos) (lC2 (own.map (·.2)) vs1 fi g t i1 g1 t1 fe) := fun k W X cx =>
  PE.imp (pe_lc2 cx.calm cx.nd (hi k W X cx) (by rw [cx.n, cx.sco]; exact blkOk_by hb) hv (fun s H C cl fp => ct_ok (ecx_blk cx s H scope C cl fp) hg) (fun s H C cl fp => ht k _ _ (ecx_blk cx s H scope C cl fp)) (fun s H C cl fp => hi1 k _ _ (ecx_blk cx s H scope C cl fp))
    (fun s H C cl fp => ct_ok (ecx_blk cx s H scope C cl fp) hg1) (fun s H C cl fp => ht1 k _ _ (ecx_blk cx s H scope C cl fp)) (fun s H C cl fp => he k _ _ (ecx_blk cx s H scope C cl fp)) (folded hs _) (folded hs1)) fun σ H Q h => lc2_read hin hin1 h
/-- name = a new list -/
theorem tn_asg {K : PySem.W.Frag} {W : WX} {c : Calls} {l : XA} {i : Nat} {D : Ends} {σ : L2.St} {H : Hp} (h : tsOf K p W c (sAsg (eNew l) (gName i)) D σ H) : tnOf K p W c l σ H (fun x H1 => L2.gName i x σ H1 D.nx) := by
  obtain ⟨s, h, m, rh, re, hp⟩ := h
  refine ⟨s, h, m, rh, re, ?_⟩
  unfold sAsg eNew at hp
  cases e : l c s h with
  | bad => rw [e] at hp; exact hp
  | err x h1 => rw [e] at hp; exact fun m1 H1 cls d l1 rh1 rx => hp m1 H1 σ cls d l1 rh1 (re.mono l1) rx
  | ok xs h1 =>
    rw [e] at hp
    simp only [Res.bind_ok] at hp
    cases cf : fits xs with
    | false => rw [cf] at hp; exact hp.elim
    | true =>
      rw [cf] at hp
      intro m1 H1 q vs l1 rh1 hn he na rs
      obtain ⟨l', rh'⟩ := l1.adopt rh1 hn he na rs
      have r : RP (m1.ext h1.size q q) (h1.push (.lst xs)).size H1 (.ref h1.size) (.ref ((m1.ext h1.size q q).a h1.size)) := .ref (by simp)
      rw [Mp.ext_a] at r
      exact hp _ _ _ l' rh' ((re.mono l').set i r)
variable {y : Str} {i : Nat} {py spos : Pos}
theorem ss_setLc1 (hk : sc.scope.kind = .function) (hy : sc.N[i]? = some y) (hyl : sc.scope.names.lookup y = some .local) (hl : (py.line == pos.line) = true) (ha : (scope.names.any fun (n, k) => n == y && (k == .local || k == .cell)) = false)
    (hb : blkC sc.N sc.scope scope own = true) (hs : notSet iter = true) (hin : tgIn (own.map (·.2)) g) (hi : SI G p sc tg iter fi) (hg : TgOk (blkSc sc scope) tg g) (ht : STs G p (blkSc sc scope) ifs t) (he : SE G p (blkSc sc scope) elt fe) :
    SS G p sc (.Assign [.Name y py] (.ListComp elt [⟨tg, iter, ifs, 0⟩] scope pos) spos) (sAsg (eNew (lC1 (own.map (·.2)) fi g t fe)) (gName i)) := fun k W X cx =>
  PS.imp (ps_setLc (i := i) cx.calm cx.nd (by rw [cx.n]; exact hy) (by rw [cx.sco]; exact hyl) (sw_true (by rw [cx.sco]; exact hk) (by rw [cx.sco]; exact hyl) hl ha) (hi k W X cx) (by rw [cx.n, cx.sco]; exact blkOk_by hb) (fun s H C cl fp => ct_ok (ecx_blk cx s H scope C cl fp) hg) (fun s H C cl fp => ht k _ _ (ecx_blk cx s H scope C cl fp)) (fun s H C cl fp => he k _ _ (ecx_blk cx s H scope C cl fp)) (folded hs _))
    fun D σ H h => lc_read hin (tn_asg h)
theorem ss_setLc2 (hk : sc.scope.kind = .function) (hy : sc.N[i]? = some y) (hyl : sc.scope.names.lookup y = some .local) (hl : (py.line == pos.line) = true) (ha : (scope.names.any fun (n, k) => n == y && (k == .local || k == .cell)) = false)
    (hb : blkC sc.N sc.scope scope own = true) (hv : ∀ i ∈ vs1, i ∈ own.map (·.2)) (hs : notSet iter = true) (hs1 : notSet iter1 = true) (hin : tgIn (own.map (·.2)) g) (hin1 : tgIn vs1 g1) (hi : SI G p sc tg iter fi) (hg : TgOk (blkSc sc scope) tg g) (ht : STs G p (blkSc sc scope) ifs t)
    (hi1 : SI G p (blkSc sc scope) tg1 iter1 i1) (hg1 : TgOk (blkSc sc scope) tg1 g1) (ht1 : STs G p (blkSc sc scope) ifs1 t1) (he : SE G p (blkSc sc scope) elt fe) :
    SS G p sc (.Assign [.Name y py] (.ListComp elt [⟨tg, iter, ifs, 0⟩, ⟨tg1, iter1, ifs1, 0⟩] scope pos) spos) (sAsg (eNew (lC2 (own.map (·.2)) vs1 fi g t i1 g1 t1 fe)) (gName i)) := fun k W X cx =>
  PS.imp (ps_setLc2 (i := i) cx.calm cx.nd (by rw [cx.n]; exact hy) (by rw [cx.sco]; exact hyl) (sw_true (by rw [cx.sco]; exact hk) (by rw [cx.sco]; exact hyl) hl ha) (hi k W X cx) (by rw [cx.n, cx.sco]; exact blkOk_by hb) hv (fun s H C cl fp => ct_ok (ecx_blk cx s H scope C cl fp) hg) (fun s H C cl fp => ht k _ _ (ecx_blk cx s H scope C cl fp)) (fun s H C cl fp => hi1 k _ _ (ecx_blk cx s H scope C cl fp))
    (fun s H C cl fp => ct_ok (ecx_blk cx s H scope C cl fp) hg1) (fun s H C cl fp => ht1 k _ _ (ecx_blk cx s H scope C cl fp)) (fun s H C cl fp => he k _ _ (ecx_blk cx s H scope C cl fp)) (folded hs _) (folded hs1)) fun D σ H h => lc2_read hin hin1 (tn_asg h)
end
end Ev
end

section
set_option Elab.async false
set_option linter.all false
set_option maxRecDepth 100000
/-! Ev: stores. -/
namespace Ev
open PySem PySem.Spec PyProof.Rows L2
section
variable {G : GT} {p : Pl} {sc : Sc} {a b d : Expr} {fa fb fd : XE} {pos : Pos}
/-! ### name op= e -/
def augF (o : BO) : Option (Int → Int → Int) := match o with
  | .add => some fun x y => x + y
  | .sub => some fun x y => x - y
  | .mul => some fun x y => x * y
  | _ => none
def augOp (o : BO) : Operator := match o with
  | .add => .Add
  | .sub => .Sub
  | .mul => .Mult
  | _ => .Div
theorem ss_aug {x : Str} {i : Nat} {o : BO} {pos' : Pos} (ho : (augF o).isSome = true) (hi : sc.N[i]? = some x) (hx : Loc sc.scope x) (hf : sc.fn x = true ∨ sc.scope.names.lookup x = some .local) (ha : SE G p sc a fa) : SS G p sc (.AugAssign (.Name x pos') (augOp o) a pos) (sAug i o fa) := fun k W X cx => by
  have key : ∀ D σ H, tsOf X.K p W (callD G.tab k) (sAug i o fa) D σ H → ∃ x : Int, σ[i]? = some (some (.int x)) ∧ teOf X.K p W (callD G.tab k) fa σ H fun v H1 => ∃ y : Int, v = .int y ∧ ∃ f, augF o = some f ∧ (o = .mul → CMul x y) ∧ D.nx (σ.set i (some (.int (f x y)))) H1 := by
    rintro D σ H ⟨s, h, m, rh, re, hp⟩
    unfold sAug at hp
    cases e : s[i]? with
    | none => rw [e] at hp; exact hp.elim
    | some w =>
      rw [e] at hp
      cases w with
      | none => exact hp.elim
      | some w =>
        cases w <;> first | exact hp.elim | skip
        rename_i x
        obtain ⟨v, ev, rv⟩ := re.at_ i _ e
        rw [rv.int_inv] at ev
        refine ⟨x, ev, ts_te rh re hp fun v H1 z h1 m1 rh1 re1 rz hp1 => ?_⟩
        cases z <;> first | exact hp1.elim | skip
        rename_i y
        refine ⟨y, rz.int_inv, ?_⟩
        cases o <;> first | exact hp1.elim | skip
        · exact ⟨_, rfl, fun z => (nomatch z), hp1 m1 H1 _ rh1.refl rh1 (re1.set i (.int _))⟩
        · exact ⟨_, rfl, fun z => (nomatch z), hp1 m1 H1 _ rh1.refl rh1 (re1.set i (.int _))⟩
        · simp only at hp1
          cases c1 : lt64 x with
          | true =>
            rw [c1] at hp1
            exact ⟨_, rfl, fun _ => .inl (lt64_iff.mp c1), hp1 m1 H1 _ rh1.refl rh1 (re1.set i (.int _))⟩
          | false =>
            rw [c1] at hp1
            cases c2 : lt64 y with
            | true =>
              rw [c2] at hp1
              exact ⟨_, rfl, fun _ => .inr (lt64_iff.mp c2), hp1 m1 H1 _ rh1.refl rh1 (re1.set i (.int _))⟩
            | false => rw [c2] at hp1; exact hp1.elim
  have hi' : X.N[i]? = some x := by rw [cx.n]; exact hi
  have hx' : Loc X.env.scope x := by rw [cx.sco]; exact hx
  have hf' : X.fn x = true ∨ X.env.scope.names.lookup x = some .local := by rw [cx.fn, cx.sco]; exact hf
  have mono : ∀ {σ : L2.St} {H : Hp} {Q Q' : VK}, teOf X.K p W (callD G.tab k) fa σ H Q → (∀ v H, Q v H → Q' v H) → teOf X.K p W (callD G.tab k) fa σ H Q' := fun ⟨s, h, m, rh, re, hp⟩ k => ⟨s, h, m, rh, re, hp.mono k⟩
  cases o with
  | add => exact PS.imp (ps_aug cx.nd hi' hx' (ha k W X cx) iop_add hf') fun D σ H hh => by
             obtain ⟨x, e, t⟩ := key D σ H hh
             exact ⟨_, e, mono t fun v H1 ⟨y, ev, f, ef, _, q⟩ => by cases ef; exact ⟨x, y, rfl, ev, q⟩⟩
  | sub => exact PS.imp (ps_aug cx.nd hi' hx' (ha k W X cx) iop_sub hf') fun D σ H hh => by
             obtain ⟨x, e, t⟩ := key D σ H hh
             exact ⟨_, e, mono t fun v H1 ⟨y, ev, f, ef, _, q⟩ => by cases ef; exact ⟨x, y, rfl, ev, q⟩⟩
  | mul => exact PS.imp (ps_aug cx.nd hi' hx' (ha k W X cx) iop_mul hf') fun D σ H hh => by
             obtain ⟨x, e, t⟩ := key D σ H hh
             exact ⟨_, e, mono t fun v H1 ⟨y, ev, f, ef, hc, q⟩ => by cases ef; exact ⟨x, y, rfl, ev, hc rfl, q⟩⟩
  | fdiv => cases ho
  | mod => cases ho
  | pow => cases ho

theorem ts_le {K : PySem.W.Frag} {W : WX} {c : Calls} {D : Ends} {fa : XE} {s : Env} {h : Mem} {m : Mp} {σ : L2.St} {H : Hp} {f : PV → Mem → SR} {Q2 : VK} (rh : RH K p.C m h H) (re : RE m h.size H s σ) (hp : PostS K p W D h m H (sOf s (fa c s h) f))
    (k : ∀ v H1 a h1 m1, Le h m H h1 m1 H1 → RH K p.C m1 h1 H1 → RE m1 h1.size H1 s σ → RP m1 h1.size H1 a v → PostS K p W D h1 m1 H1 (f a h1) → Q2 v H1) : teOf K p W c fa σ H Q2 :=
  ⟨s, h, m, rh, re, (sOf_post re hp).mono fun b H1 ⟨a, h1, m1, l, rh1, ra, q⟩ => k b H1 a h1 m1 l rh1 (re.mono l) ra (q.shift l)⟩
/-! ### o[i] = v -/
theorem noswapT {v tg : Expr} {l : Nat} {env : PySem.Env} (h : ∀ x q, tg ≠ .Name x q) : swapsWith v (some tg) l env = pure false := by
  cases v <;> first | rfl | skip
  all_goals (cases tg <;> first | rfl | exact absurd rfl (h _ _))
theorem setI_ok {X : Cx} (hu : X.A.units + 9 < cLine) : PSet X (fun x y v H Q => ∃ (r : Nat) (w : PV) (h : Mem) (m : Mp), x = .ref (m.a r) ∧ RH X.K p.C m h H ∧ h.free r = true ∧ RP m h.size H w v ∧
    ((∃ (k : Int) (xs : List PV) (j : Nat), y = .int k ∧ h.get r = some (.lst xs) ∧ ixN xs.length k = some j ∧ ∀ H', Le h m H (h.set r (.lst (xs.set j w))) m H' → RH X.K p.C m (h.set r (.lst (xs.set j w))) H' → Q H') ∨
     ∃ (k : PV) (NK : NestedKey) (b : Addr) (kvs : List (PV × PV)), y = .ref b ∧ h.get r = some (.dic kvs) ∧ keyN k = some NK ∧ RP m h.size H k (.ref b) ∧ fits kvs = true ∧ ∀ H', Le h m H (h.set r (.dic (dput k w kvs))) m H' → RH X.K p.C m (h.set r (.dic (dput k w kvs))) H' → Q H')) := by
  rintro pins s σ H o i v ov iv u Q I ro ri rv ⟨r, w, h, m, rfl, rh, hfr, rw', hh⟩
  rcases hh with ⟨k, xs, j, rfl, e, ej, kk⟩ | ⟨k, NK, b, kvs, rfl, e, eK, rk, hf, kk⟩
  · obtain ⟨_, vs, ev, rs⟩ := rh.obj r _ e
    obtain ⟨l, rh'⟩ := rh.putL e (Mem.free_iff.mp hfr) (rs.set rw' j)
    exact set_list pins s σ H _ _ v ov iv u Q I ro ri rv ⟨_, vs, k, j, rfl, rfl, ev, by rw [rs.length]; exact ixN_eq ej, kk _ l rh'⟩
  · obtain rfl : ov = Value.ref (m.a r) := ro
    obtain rfl : iv = Value.ref b := ri
    have hz : kvs.length < sizeLine := by
      have h1 : kvs.length ≤ 65536 := by unfold fits fitsN at hf; rwa [Nat.ble_eq] at hf
      have : sizeLine = 16777216 := by decide
      omega
    exact kd_setItem hu I rh e (Mem.free_iff.mp hfr) hz rk eK rw' rv fun s' H' I' l rh' => ⟨H', I', kk H' l rh'⟩
theorem assign_each {tg : Expr} {env : PySem.Env} (h : match tg with | .Name .. => True | .Tuple .. => True | .Subscript .. => True | _ => False) : (assignEach [tg] env).map (·.2) = [assign tg env] := by
  cases tg <;> first | rfl | exact h.elim
theorem ss_setI {c e : Expr} {fc fe : XE} {pos' : Pos} (ha : SE G p sc a fa) (hc : SE G p sc c fc) (he : SE G p sc e fe) (hb : ∀ (X : Cx) v, assign (.Subscript c e pos') X.env v = (do
      let ov ← holding [v] (eval c X.env)
      let iv ← holding [v, ov] (eval e X.env)
      standAt pos'
      holding [v, ov, iv] (setItem ov iv v)
      release [v, ov, iv] [])) : SS G p sc (.Assign [.Subscript c e pos'] a pos) (sSetI fc fe fa) := fun k W X cx =>
  PS.imp (ps_asg (ha k W X cx) (pg_sub (hc k W X cx) (he k W X cx) (setI_ok (p := p) (by have := hu_cx cx; omega)) (hb X)) (show swapsWith a (some (.Subscript c e pos')) pos.line X.env = pure false from noswapT (fun _ _ z => (nomatch z)))) fun D σ H ⟨s, h, m, rh, re, hp⟩ => by
    refine ts_le rh re hp fun v H1 w h1 m1 l1 rh1 re1 rw1 hp1 => ?_
    refine ts_le rh1 re1 hp1 fun o H2 x h2 m2 l2 rh2 re2 rx hp2 => ?_
    refine ts_le rh2 re2 hp2 fun i H3 y h3 m3 l3 rh3 re3 ry hp3 => ?_
    cases x <;> first | exact hp3.elim | skip
    rename_i r
    cases y <;> first | exact hp3.elim | skip
    · rename_i k
      cases e : h3.get r with
      | none => simp only [e] at hp3; exact hp3.elim
      | some ob =>
        simp only [e] at hp3
        cases ob <;> first | exact hp3.elim | skip
        rename_i xs
        simp only at hp3
        cases ej : ixN xs.length k with
        | none => simp only [ej] at hp3; exact hp3.elim
        | some j =>
          simp only [ej] at hp3
          cases ef : h3.free r with
          | false => rw [ef] at hp3; exact hp3.elim
          | true =>
            rw [ef] at hp3
            exact ⟨r, w, h3, m3, (rx.mono l3).ref_inv.1, rh3, ef, (rw1.mono l2).mono l3, .inl ⟨k, xs, j, ry.int_inv, e, ej, fun H' l' rh' => hp3 m3 H' _ l' rh' (re3.mono l')⟩⟩
    · rename_i ks
      cases e : h3.get r with
      | none => simp only [e] at hp3; exact hp3.elim
      | some ob =>
        simp only [e] at hp3
        cases ob <;> first | exact hp3.elim | skip
        rename_i kvs
        simp only at hp3
        cases et : isTKey (.tup ks) with
        | false => rw [et] at hp3; exact hp3.elim
        | true =>
          rw [et] at hp3
          cases ez : fits kvs with
          | false => rw [ez] at hp3; exact hp3.elim
          | true =>
            rw [ez] at hp3
            cases ef : h3.free r with
            | false => rw [ef] at hp3; exact hp3.elim
            | true =>
              rw [ef] at hp3
              obtain ⟨NK, eK⟩ := isTKey_ok et
              obtain ⟨b, eb⟩ := key_ref ry eK
              exact ⟨r, w, h3, m3, (rx.mono l3).ref_inv.1, rh3, ef, (rw1.mono l2).mono l3, .inr ⟨.tup ks, NK, b, kvs, eb, e, eK, by rw [← eb]; exact ry, ez, fun H' l' rh' => hp3 m3 H' _ l' rh' (re3.mono l')⟩⟩
/-! ### o.f = v -/
def SlotOk (G : GT) (f : Str) (tab : List (Nat × Nat)) : Prop := ∀ k i, (k, i) ∈ tab → (k, f, i) ∈ G.slots
theorem RSl.put {m : Mp} {z : Nat} {H : Hp} {fs : List (Option PV)} {vs : List (Option V)} {i : Nat} {w : PV} {v : V} (r : RSl m z H fs vs) (hi : i < fs.length) (rw' : RP m z H w v) : RSl m z H (fs.set i (some w)) (SlX.putS i v vs) := fun j x e => by
  by_cases h : i = j
  · subst h
    rw [List.getElem?_set_self hi] at e
    cases e
    exact ⟨v, SlX.putS_get _ _ _, rw'⟩
  · rw [List.getElem?_set_ne h] at e
    obtain ⟨u, eu, ru⟩ := r j x e
    exact ⟨u, (SlX.putS_ne (Ne.symm h)).mpr eu, ru⟩
theorem ss_slot {f : Str} {o : Expr} {fo : XE} {tab : List (Nat × Nat)} {pos' : Pos} (ht : SlotOk G f tab) (ho : SE G p sc o fo) (ha : SE G p sc a fa) : SS G p sc (.Assign [.Attribute o f pos'] a pos) (sSlot tab fo fa) := fun k W X cx =>
  PS.imp (SlX.ps_sl (ho k W X cx) (ha k W X cx) (noswapT (fun _ _ z => (nomatch z)))) fun D σ H ⟨s, h, m, rh, re, hp⟩ => by
    refine ts_le rh re hp fun v H1 w h1 m1 l1 rh1 re1 rw1 hp1 => ?_
    refine ts_le rh1 re1 hp1 fun o H2 x h2 m2 l2 rh2 re2 rx hp2 => ?_
    cases x <;> first | exact hp2.elim | skip
    rename_i r
    cases e : h2.get r with
    | none => simp only [e] at hp2; exact hp2.elim
    | some ob =>
      simp only [e] at hp2
      cases ob <;> first | exact hp2.elim | skip
      rename_i c fs
      simp only at hp2
      cases el : lookC c tab with
      | none => simp only [el] at hp2; exact hp2.elim
      | some i =>
        simp only [el] at hp2
        cases e1 : Nat.blt i fs.length with
        | false => rw [e1] at hp2; exact hp2.elim
        | true =>
          rw [e1] at hp2
          cases e2 : h2.free r with
          | false => rw [e2] at hp2; exact hp2.elim
          | true =>
            rw [e2] at hp2
            obtain ⟨sc1, q, sl⟩ := cx.g.sl c f i (ht c i (lookC_mem el))
            obtain ⟨dne, dn, vs, hsl, rs⟩ := rh2.obj r _ e
            have hr := Mem.get_lt e
            refine ⟨m2.a r, p.C c, m2.d r, q, vs, i, rx.ref_inv.1, hsl, sc1, sl, ?_⟩
            have na : ∃ u, H2 (m2.a r) = some u ∧ ∀ us, u ≠ .tup us := by
              cases eu : H2 (m2.a r) with
              | none => exact absurd eu (rh2.live hr).1
              | some u => exact ⟨u, rfl, fun us z => (rh2.live hr).2.2 us (by rw [eu, z])⟩
            have nd := dn.2
            obtain ⟨l3, rh3⟩ := rh2.put (u := .ins c (fs.set i (some w))) hr (Mem.free_iff.mp e2) (SlX.slH H2 (m2.a r) (p.C c) (m2.d r) (SlX.putS i v vs)) (fun b h1 h2 => SlX.slH_ne h1 h2)
              (fun b us eb => by
                obtain ⟨u, eu, nu⟩ := na
                rw [SlX.slH_ne (fun z => by rw [z, eu] at eb; exact nu us (Option.some.inj eb)) (fun z => by rw [z] at eb; exact nd us eb)]
                exact eb)
              ⟨by unfold SlX.slH; rw [upd_same]; exact fun z => (nomatch z), by unfold SlX.slH; rw [upd_ne dne, upd_same]; exact fun z => (nomatch z)⟩
              (fun l => ⟨dne, by unfold SlX.slH; rw [upd_ne dne, upd_same]; exact ⟨fun z => (nomatch z), fun us z => (nomatch z)⟩, _, SlX.slH_slt dne, (rs.weak l.lw).put (blt_iff.mp e1) ((rw1.mono l2).weak l.lw)⟩)
            exact hp2 m2 _ _ l3 rh3 (re2.mono l3)

/-! ### a, b = .. -/
def bkOf (scope : Scope) : ScopeKind := if scope.kind.isAnnotationScope then .function else scope.kind
def swC1 (scope : Scope) (ts vs : List Expr) : Bool := !(ts.length == 2 || ts.length == 3) || vs.length != ts.length || bkOf scope != .function
def swC2 (vs : List Expr) : Bool := vs.any fun | .Starred .. => true | _ => false
/-- the names of the targets that can be swapped -/
def swNames (scope : Scope) (ts : List Expr) : List Str := ts.filterMap fun
  | .Name id pos => if (scope.names.lookup id == some .local && pos.line == (ts.head?.map (·.pos.line)).getD 0) = true then some id else none
  | _ => none
def swC3 (scope : Scope) (ts : List Expr) : Bool := (swNames scope ts).length != ts.length || (swNames scope ts).eraseDups.length != (swNames scope ts).length
def swO (scope : Scope) (tg e : Expr) : Option (Option (List Str)) := match tg with
  | .Tuple ts _ _ => match e with
    | .Tuple vs _ _ => cnd (swC1 scope ts vs) (some none) (cnd (swC2 vs) (some none) (cnd (swC3 scope ts) (some none) (cnd (vs.all (foldedForSure 8)) (some none) (cnd (vs.all (constantsAlone 8)) none (some (some (swNames scope ts)))))))
    | _ => some none
  | .List _ _ => none
  | _ => some none
theorem swO_ok {scope : Scope} {tg e : Expr} {env : PySem.Env} {r : Option (List Str)} (he : env.scope = scope) (h : swO scope tg e = some r) : swappedStores [tg] e env = pure r := by
  subst he
  cases tg <;> first | (cases h; rfl) | (cases h; done) | skip
  cases e <;> first | (cases h; rfl) | skip
  rename_i ts _ _ vs _ _
  have h : cnd (swC1 env.scope ts vs) (some none) (cnd (swC2 vs) (some none) (cnd (swC3 env.scope ts) (some none) (cnd (vs.all (foldedForSure 8)) (some none) (cnd (vs.all (constantsAlone 8)) none (some (some (swNames env.scope ts))))))) = some r := h
  unfold swappedStores
  simp only
  show (if swC1 env.scope ts vs = true then pure none else if swC2 vs = true then pure none else if swC3 env.scope ts = true then pure none else if vs.all (foldedForSure 8) = true then pure none else
    if vs.all (constantsAlone 8) = true then _ else pure (some (swNames env.scope ts))) = _
  cases c1 : swC1 env.scope ts vs with
  | true => rw [c1] at h; cases h; rfl
  | false =>
    rw [c1] at h
    cases c2 : swC2 vs with
    | true => rw [c2] at h; cases h; rfl
    | false =>
      rw [c2] at h
      cases c3 : swC3 env.scope ts with
      | true => rw [c3] at h; cases h; rfl
      | false =>
        rw [c3] at h
        cases c4 : vs.all (foldedForSure 8) with
        | true => rw [c4] at h; cases h; rfl
        | false =>
          rw [c4] at h
          cases c5 : vs.all (constantsAlone 8) with
          | true => rw [c5] at h; cases h
          | false => rw [c5] at h; cases h; rfl
def tgKind : Expr → Bool
  | .Name _ _ => true
  | .Tuple _ _ _ => true
  | _ => false
theorem ss_tg {tg e : Expr} {fe : XE} {g : Tg} (hk : tgKind tg = true) (hs : ∀ x q, tg ≠ .Name x q) (hw : swO sc.scope tg e = some none) (hg : TgOk sc tg g) (he : SE G p sc e fe) : SS G p sc (.Assign [tg] e pos) (sAsg fe (tgG g)) := fun k W X cx =>
  PS.imp (ps_asg (he k W X cx) (sg_tg hg k W X cx) (show swapsWith e (some tg) pos.line X.env = pure false from noswapT hs) (swO_ok cx.sco hw) (by cases tg <;> first | rfl | cases hk)) fun D σ H ⟨s, h, m, rh, re, hp⟩ => by
    refine ts_le rh re hp fun v H1 x h1 m1 l1 rh1 re1 rx hp1 => ?_
    refine ⟨s, h1, m1, x, rh1, re1, rx, ?_⟩
    have q := sOf_post (R := RE) (σ := σ) re1 hp1
    exact q.mono fun σ' H2 ⟨s', h2, m2, l2, rh2, re2, q2⟩ => q2 m2 H2 σ' l2 rh2 re2
theorem par_read {K : PySem.W.Frag} {W : WX} {c : Calls} {l : XA} {is : List Nat} {D : Ends} {σ : L2.St} {H : Hp} (h : tsOf K p W c (sAsg (eTup l) (gUnp is)) D σ H) : taOf K p W c l σ H fun vs H1 => vs.length = is.length ∧ D.nx (setV is vs σ) H1 := by
  obtain ⟨s, h, m, rh, re, hp⟩ := h
  refine ⟨s, h, m, rh, re, ?_⟩
  unfold sAsg eTup at hp
  cases e : l c s h with
  | bad => rw [e] at hp; exact hp
  | err x h1 => rw [e] at hp; exact fun m1 H1 cls d l1 rh1 rx => hp m1 H1 σ cls d l1 rh1 (re.mono l1) rx
  | ok xs h1 =>
    rw [e] at hp
    simp only [Res.bind_ok] at hp
    cases cf : fits xs with
    | false => rw [cf] at hp; exact hp.elim
    | true =>
      rw [cf] at hp
      intro m1 H1 vs l1 rh1 rs
      have hp : PostS K p W D h m H (sOf s (ofO (setAll is xs s) h1) fun s' h2 => .nx s' h2) := hp
      cases es : setAll is xs s with
      | none => rw [es] at hp; exact hp.elim
      | some s' =>
        rw [es] at hp
        exact ⟨by rw [rs.length, setAll_len es], hp m1 H1 _ l1 rh1 (setAll_re es rs (re.mono l1))⟩
variable {x y z : Str} {i j l : Nat} {px py pz pt : Pos} {kt k2 : Nat} {pt2 : Pos} {la : XA}
theorem ss_par {e1 e2 : Expr} (hi : sc.N[i]? = some x) (hj : sc.N[j]? = some y) (hij : i ≠ j) (hx : sc.scope.names.lookup x = some .local) (hy : sc.scope.names.lookup y = some .local) (ha : SA G p sc [e1, e2] la)
    (hw : swO sc.scope (.Tuple [.Name x px, .Name y py] kt pt) (.Tuple [e1, e2] k2 pt2) = some (some [x, y])) : SS G p sc (.Assign [.Tuple [.Name x px, .Name y py] kt pt] (.Tuple [e1, e2] k2 pt2) pos) (sAsg (eTup la) (gUnp [i, j])) := fun k W X cx =>
  PS.imp (ps_par cx.calm cx.nd (by rw [cx.n]; exact hi) (by rw [cx.n]; exact hj) hij (by rw [cx.sco]; exact hx) (by rw [cx.sco]; exact hy) (ha k W X cx) (swO_ok cx.sco hw)) fun D σ H h => by
    obtain ⟨s, h, m, rh, re, hp⟩ := par_read h
    refine ⟨s, h, m, rh, re, hp.mono fun vs H1 ⟨hl, q⟩ => ?_⟩
    match vs, hl, q with
    | [v, w], _, q => exact ⟨v, w, rfl, q⟩
theorem ss_par3 {e1 e2 e3 : Expr} (hi : sc.N[i]? = some x) (hj : sc.N[j]? = some y) (hl : sc.N[l]? = some z) (hij : i ≠ j) (hil : i ≠ l) (hjl : j ≠ l) (hx : sc.scope.names.lookup x = some .local) (hy : sc.scope.names.lookup y = some .local) (hz : sc.scope.names.lookup z = some .local) (ha : SA G p sc [e1, e2, e3] la)
    (hw : swO sc.scope (.Tuple [.Name x px, .Name y py, .Name z pz] kt pt) (.Tuple [e1, e2, e3] k2 pt2) = some (some [x, y, z])) : SS G p sc (.Assign [.Tuple [.Name x px, .Name y py, .Name z pz] kt pt] (.Tuple [e1, e2, e3] k2 pt2) pos) (sAsg (eTup la) (gUnp [i, j, l])) := fun k W X cx =>
  PS.imp (ps_par3 cx.calm cx.nd (by rw [cx.n]; exact hi) (by rw [cx.n]; exact hj) (by rw [cx.n]; exact hl) hij hil hjl (by rw [cx.sco]; exact hx) (by rw [cx.sco]; exact hy) (by rw [cx.sco]; exact hz) (ha k W X cx) (swO_ok cx.sco hw)) fun D σ H h => by
    obtain ⟨s, h, m, rh, re, hp⟩ := par_read h
    refine ⟨s, h, m, rh, re, hp.mono fun vs H1 ⟨hl, q⟩ => ?_⟩
    match vs, hl, q with
    | [u, v, w], _, q => exact ⟨u, v, w, rfl, q⟩
end
end Ev
end

section
set_option Elab.async false
set_option linter.all false
set_option maxRecDepth 100000
/-! Ev: sorted(set(l)). -/
namespace Ev
open PySem PySem.Spec PyProof.Rows L2
theorem code_cons (B d : Int) (r : List Int) : TS.code B (d :: r) = d * B ^ r.length + TS.code B r := rfl
theorem lex_code {B : Int} : ∀ {q r : List Int}, q.length = r.length → TS.Bd B q → TS.Bd B r → (HT.lexLt q r = true ↔ TS.code B q < TS.code B r)
  | [], [], _, _, _ => ⟨fun h => (by cases h), fun h => (by exact absurd h (Int.lt_irrefl _))⟩
  | [], _ :: _, h, _, _ => (by cases h)
  | _ :: _, [], h, _, _ => (by cases h)
  | x :: q, y :: r, h, h1, h2 => by
    have hl : q.length = r.length := Nat.succ.inj h
    rw [HT.lexLt_cons]
    by_cases e : x = y
    · subst e
      rw [if_pos rfl, lex_code hl h1.tail h2.tail, code_cons, code_cons, hl]
      generalize TS.code B q = u
      generalize TS.code B r = v
      generalize x * B ^ r.length = w
      omega
    · rw [if_neg e, decide_eq_true_iff]
      refine ⟨fun z => TS.code_lt hl h1.tail h2.tail z, fun z => ?_⟩
      rcases Int.lt_or_gt_of_ne e with g | g
      · exact g
      · have := TS.code_lt (B := B) hl.symm h2.tail h1.tail g
        omega
theorem lex_eq : ∀ {q r : List Int}, q.length = r.length → HT.lexLt q r = false → HT.lexLt r q = false → q = r
  | [], [], _, _, _ => rfl
  | [], _ :: _, h, _, _ => (by cases h)
  | _ :: _, [], h, _, _ => (by cases h)
  | x :: q, y :: r, h, h1, h2 => by
    have hl : q.length = r.length := Nat.succ.inj h
    rw [HT.lexLt_cons] at h1 h2
    by_cases e : x = y
    · subst e
      rw [if_pos rfl] at h1 h2
      rw [lex_eq hl h1 h2]
    · rw [if_neg e] at h1
      rw [if_neg (Ne.symm e)] at h2
      have := of_decide_eq_false h1
      have := of_decide_eq_false h2
      exact absurd (by omega) e
/-- the tuples that are served -/
def Okt (d : Nat) (ks : List (List Int)) : Prop := ∀ k ∈ ks, k.length = d ∧ TS.Bd 64 k
theorem small64_ok : ∀ {k : List Int}, small64 k = true → TS.Bd 64 k
  | [], _ => fun m h => (by cases h)
  | i :: r, h => by
    unfold small64 at h
    cases e1 : ile 0 i with
    | false => rw [e1] at h; cases h
    | true =>
      rw [e1] at h
      simp only [cnd_true] at h
      cases e2 : ilt i 64 with
      | false => rw [e2] at h; cases h
      | true =>
        rw [e2] at h
        have ih := small64_ok (k := r) h
        rw [ile_eq] at e1
        rw [ilt_eq] at e2
        intro m hm
        rcases List.mem_cons.mp hm with z | z
        · rw [z]; exact ⟨of_decide_eq_true e1, of_decide_eq_true e2⟩
        · exact ih m z
theorem allT_ok {d : Nat} : ∀ {ks : List (List Int)}, allT d ks = true → Okt d ks
  | [], _ => fun m h => (by cases h)
  | k :: r, h => by
    unfold allT at h
    cases e1 : Nat.beq k.length d with
    | false => rw [e1] at h; cases h
    | true =>
      rw [e1] at h
      simp only [cnd_true] at h
      cases e2 : small64 k with
      | false => rw [e2] at h; cases h
      | true =>
        rw [e2] at h
        have ih := allT_ok (ks := r) h
        intro m hm
        rcases List.mem_cons.mp hm with z | z
        · rw [z]; exact ⟨Nat.eq_of_beq_eq_true e1, small64_ok e2⟩
        · exact ih m z
theorem insT_mem {d : Nat} {k : List Int} (hk : k.length = d) : ∀ {l : List (List Int)}, (∀ j ∈ l, j.length = d) → ∀ x, x ∈ insT k l ↔ x = k ∨ x ∈ l
  | [], _, x => by simp [insT]
  | j :: r, h, x => by
    unfold insT
    cases e1 : HT.lexLt k j with
    | true => simp
    | false =>
      simp only [cnd_false]
      cases e2 : HT.lexLt j k with
      | true =>
        simp only [cnd_true, List.mem_cons]
        rw [insT_mem hk (fun j hj => h j (List.mem_cons_of_mem _ hj)) x]
        constructor
        · rintro (z | z | z) <;> simp [z]
        · rintro (z | z | z) <;> simp [z]
      | false =>
        have := lex_eq (hk.trans (h j List.mem_cons_self).symm) e1 e2
        subst this
        simp
abbrev LtC (q r : List Int) : Prop := TS.code 64 q < TS.code 64 r
theorem insT_sorted {d : Nat} {k : List Int} (hk : k.length = d ∧ TS.Bd 64 k) : ∀ {l : List (List Int)}, Okt d l → l.Pairwise LtC → (insT k l).Pairwise LtC
  | [], _, _ => by simp [insT]
  | j :: r, h, hp => by
    have hj := h j List.mem_cons_self
    have hr : Okt d r := fun m hm => h m (List.mem_cons_of_mem _ hm)
    obtain ⟨h1, h2⟩ := List.pairwise_cons.mp hp
    unfold insT
    cases e1 : HT.lexLt k j with
    | true =>
      have c := (lex_code (hk.1.trans hj.1.symm) hk.2 hj.2).mp e1
      refine List.pairwise_cons.mpr ⟨fun m hm => ?_, hp⟩
      rcases List.mem_cons.mp hm with z | z
      · rw [z]; exact c
      · exact Int.lt_trans c (h1 m z)
    | false =>
      simp only [cnd_false]
      cases e2 : HT.lexLt j k with
      | true =>
        have c := (lex_code (hj.1.trans hk.1.symm) hj.2 hk.2).mp e2
        refine List.pairwise_cons.mpr ⟨fun m hm => ?_, insT_sorted hk hr h2⟩
        rcases (insT_mem hk.1 (fun j hj => (hr j hj).1) m).mp hm with z | z
        · rw [z]; exact c
        · exact h1 m z
      | false => exact hp
theorem ssort_mem {d : Nat} : ∀ {l : List (List Int)}, Okt d l → ∀ x, x ∈ ssort l ↔ x ∈ l
  | [], _, x => Iff.rfl
  | k :: r, h, x => by
    have hr : Okt d r := fun m hm => h m (List.mem_cons_of_mem _ hm)
    have ih := ssort_mem hr
    unfold ssort
    rw [insT_mem (h k List.mem_cons_self).1 (fun j hj => (hr j ((ih j).mp hj)).1) x, ih x, List.mem_cons]
theorem ssort_sorted {d : Nat} : ∀ {l : List (List Int)}, Okt d l → (ssort l).Pairwise LtC
  | [], _ => .nil
  | k :: r, h => by
    have hr : Okt d r := fun m hm => h m (List.mem_cons_of_mem _ hm)
    unfold ssort
    exact insT_sorted (h k List.mem_cons_self) (fun m hm => hr m ((ssort_mem hr m).mp hm)) (ssort_sorted hr)
theorem uniq : ∀ {l1 l2 : List (List Int)}, l1.Pairwise LtC → l2.Pairwise LtC → (∀ x, x ∈ l1 ↔ x ∈ l2) → l1 = l2
  | [], [], _, _, _ => rfl
  | [], y :: l2, _, _, h => absurd ((h y).mpr List.mem_cons_self) (by simp)
  | x :: l1, [], _, _, h => absurd ((h x).mp List.mem_cons_self) (by simp)
  | x :: l1, y :: l2, h1, h2, h => by
    obtain ⟨a1, b1⟩ := List.pairwise_cons.mp h1
    obtain ⟨a2, b2⟩ := List.pairwise_cons.mp h2
    have e : x = y := by
      rcases List.mem_cons.mp ((h x).mp List.mem_cons_self) with z | z
      · exact z
      · rcases List.mem_cons.mp ((h y).mpr List.mem_cons_self) with w | w
        · exact w.symm
        · have q1 : LtC y x := a2 x z
          have q2 : LtC x y := a1 y w
          unfold LtC at q1 q2
          omega
    subst e
    rw [uniq b1 b2 fun z => ⟨fun hz => ?_, fun hz => ?_⟩]
    · rcases List.mem_cons.mp ((h z).mp (List.mem_cons_of_mem _ hz)) with w | w
      · have q := a1 z hz
        rw [w] at q
        exact absurd q (Int.lt_irrefl _)
      · exact w
    · rcases List.mem_cons.mp ((h z).mpr (List.mem_cons_of_mem _ hz)) with w | w
      · have q := a2 z hz
        rw [w] at q
        exact absurd q (Int.lt_irrefl _)
      · exact w
section
variable {K : PySem.W.Frag} {C : Nat → Addr} {m : Mp} {h : Mem} {H : Hp}
theorem ints_back {z : Nat} : ∀ {xs : List PV} {k : List Int} {vs : List V}, intsOf xs = some k → RPs m z H xs vs → vs = k.map V.int
  | [], k, _, e, .nil => by cases e; rfl
  | x :: xs, k, _, e, .cons r t => by
    cases x <;> first | (cases e; done) | skip
    rename_i i
    unfold intsOf at e
    cases e2 : intsOf xs with
    | none => rw [e2] at e; cases e
    | some k2 =>
      rw [e2] at e
      cases e
      rw [r.int_inv, ints_back e2 t] <;> rfl
theorem tints_back {z : Nat} : ∀ {xs : List PV} {ks : List (List Int)} {vs : List V}, tInts xs = some ks → RPs m z H xs vs → ∃ ps : List (Addr × List Int), vs = ps.map (fun p => V.ref p.1) ∧ ps.map (·.2) = ks ∧ ∀ p ∈ ps, H p.1 = some (.tup (p.2.map V.int))
  | [], ks, _, e, .nil => by cases e; exact ⟨[], rfl, rfl, fun p hp => (by cases hp)⟩
  | x :: xs, ks, _, e, .cons r t => by
    cases x <;> first | (cases e; done) | skip
    rename_i ys
    unfold tInts at e
    cases e1 : intsOf ys with
    | none => rw [e1] at e; cases e
    | some k =>
      rw [e1] at e
      cases e2 : tInts xs with
      | none => simp only [e2] at e; cases e
      | some k2 =>
        simp only [e2] at e
        cases e
        obtain ⟨ps, e3, e4, e5⟩ := tints_back e2 t
        obtain ⟨a, us, rfl, ea, rs⟩ := r.tup_inv
        rw [ints_back e1 rs] at ea
        refine ⟨(a, k) :: ps, by rw [e3]; rfl, by rw [List.map_cons, e4], fun p hp => ?_⟩
        rcases List.mem_cons.mp hp with w | w
        · rw [w]; exact ea
        · exact e5 p w
theorem ints_rps {z : Nat} : ∀ k : List Int, RPs m z H (k.map PV.int) (k.map V.int)
  | [] => .nil
  | i :: k => .cons (.int i) (ints_rps k)
theorem tups_rps {z : Nat} : ∀ L : List (Addr × List Int), (∀ p ∈ L, H p.1 = some (.tup (p.2.map V.int))) → RPs m z H (L.map fun p => tupI p.2) (L.map fun p => V.ref p.1)
  | [], _ => .nil
  | p :: L, h => .cons (.tup (h p List.mem_cons_self) (ints_rps p.2)) (tups_rps L fun q hq => h q (List.mem_cons_of_mem _ hq))
end
section
variable {G : GT} {p : Pl} {sc : Sc} {a : Expr} {fa : XE} {pos q1 q2 pos2 : Pos}
theorem se_ss (hg : sc.scope.names.lookup ("sorted" : Str) = some .globalImplicit) (hf : ("sorted" : Str) ∈ G.free) (hg2 : sc.scope.names.lookup ("set" : Str) = some .globalImplicit) (hf2 : ("set" : Str) ∈ G.free) (hs : notStar a = true) (ha : SE G p sc a fa) :
    SE G p sc (.Call (.Name "sorted" q1) [.Call (.Name "set" q2) [a] [] pos2] [] pos) (eSS fa) := fun k W X cx =>
  PE.imp (pe_callB (cr_sortedT cx.calm) (glob_of cx hg) (cx.g.free _ hf) (by decide +kernel) (pa_cons (pe_callTy (cr_setOfT cx.calm (by have := hu_cx cx; omega)) (glob_of cx hg2) (cx.g.free _ hf2) (by decide +kernel) (pa_cons (ha k W X cx) pa_nil (star_no hs)) (by decide) (by decide) (star_no hs)) pa_nil (star_no rfl)) (by decide) (by decide) (star_no rfl))
    fun σ H Q ⟨s, h, m, rh, re, hp⟩ => by
      show teOf X.K p W (callD G.tab k) fa σ H _
      refine te_bind rh re hp fun v H1 x h1 m1 l1 rh1 re1 rx hp1 => ?_
      unfold gSS at hp1
      cases e1 : listsOf h1 x with
      | none => rw [e1] at hp1; exact hp1.elim
      | some xs =>
        rw [e1] at hp1
        simp only at hp1
        cases e2 : tInts xs with
        | none => rw [e2] at hp1; exact hp1.elim
        | some ks =>
          rw [e2] at hp1
          simp only at hp1
          obtain ⟨c1, hp1⟩ := cnd_post hp1
          obtain ⟨c2, hp1⟩ := cnd_post hp1
          obtain ⟨c3, hp1⟩ := cnd_post hp1
          have okt := allT_ok c3
          cases x <;> first | (cases e1; done) | skip
          rename_i r
          have el : h1.get r = some (.lst xs) ∨ h1.get r = some (.scr xs) := by
            have e1 : (match h1.get r with
              | some (.lst xs) => some xs
              | some (.scr xs) => some xs
              | _ => none) = some xs := e1
            split at e1 <;> cases e1
            · exact .inl (by assumption)
            · exact .inr (by assumption)
          obtain ⟨vs, hl, rs⟩ := rh1.sqL el
          obtain ⟨ps, e3, e4, e5⟩ := tints_back e2 rs
          rw [rx.ref_inv.1]
          refine ⟨m1.a r, ps, rfl, by rw [← e3]; exact hl, fun p hp => SqT.of (e5 p hp), ?_, fun b L hb hsub hall => ?_⟩
          · have := blt_iff.mp c1
            rw [← e4, List.length_map] at this
            exact this
          · obtain ⟨l2, rh2⟩ := rh1.tmp (u := SetTO X.prog X.w b L) hb
            have hL : ∀ q ∈ L, q.2.length = headLen ks ∧ TS.Bd 64 q.2 := fun q hq => okt q.2 (by rw [← e4]; exact List.mem_map_of_mem (hsub q hq))
            refine ⟨b, L, headLen ks, 64, rfl, upd_same, fun q hq => SqT.of (l2.tups _ _ (e5 q (hsub q hq))), blt_iff.mp c2, hL, fun L' c pm nd few pw hc => ?_⟩
            have eL : L'.map (·.2) = ssort ks := by
              refine uniq ?_ (ssort_sorted okt) fun z => ?_
              · refine List.pairwise_map.mpr ?_
                have nd' : L'.Pairwise (fun q r => q.2 ≠ r.2) := List.pairwise_map.mp nd
                refine (pw.and nd').imp_of_mem fun {q r} hq hr hh => ?_
                have h1 := hL q (pm.mem_iff.mp hq)
                have h2 := hL r (pm.mem_iff.mp hr)
                have hle : TS.code 64 q.2 ≤ TS.code 64 r.2 := hh.1
                have hne := hh.2
                show TS.code 64 q.2 < TS.code 64 r.2
                rcases Int.lt_or_eq_of_le hle with z | z
                · exact z
                · exfalso
                  refine hne (lex_eq (h1.1.trans h2.1.symm) ?_ ?_)
                  · cases e : HT.lexLt q.2 r.2 with
                    | false => rfl
                    | true => have := (lex_code (h1.1.trans h2.1.symm) h1.2 h2.2).mp e; omega
                  · cases e : HT.lexLt r.2 q.2 with
                    | false => rfl
                    | true => have := (lex_code (h2.1.trans h1.1.symm) h2.2 h1.2).mp e; omega
              · rw [ssort_mem okt z]
                constructor
                · intro hz
                  obtain ⟨q, hq, rfl⟩ := List.mem_map.mp hz
                  rw [← e4]
                  exact List.mem_map_of_mem (hsub q (pm.mem_iff.mp hq))
                · intro hz
                  rw [← e4] at hz
                  obtain ⟨q, hq, rfl⟩ := List.mem_map.mp hz
                  obtain ⟨r, hr, er⟩ := List.mem_map.mp (hall q hq)
                  rw [← er]
                  exact List.mem_map_of_mem (pm.mem_iff.mpr hr)
            have rs' : RPs m1 h1.size (upd H1 b (SetTO X.prog X.w b L)) ((ssort ks).map tupI) (L'.map fun q => V.ref q.1) := by
              rw [← eL, List.map_map]
              exact tups_rps L' fun q hq => l2.tups _ _ (e5 q (hsub q (pm.mem_iff.mp hq)))
            exact post_newL rh2 hc rs' (hp1.shift l2)
end
end Ev
end

section
set_option Elab.async false
set_option linter.all false
set_option maxRecDepth 100000
/-! Ev: dicts made, read, copied; lists extended; starred items. -/
namespace Ev
open PySem PySem.Spec PyProof.Rows L2

section
variable {X : Cx} {C : Nat → Addr} {pins : List (Addr × Obj)} {σ : L2.St} {H : Hp} {s : Shared} {h : Mem} {m : Mp} {A : Around} {E : Value → Shared → Prop}
theorem isTKey_N {k : PV} (h : isTKey k = true) : ∃ K, keyN k = some K := isTKey_ok h
/-- the pairs of a list, in the heap -/
theorem pairs_at (I : L2.Inv X pins σ H s) : ∀ {xs : List PV} {vs : List V} {its : List Value} {ps : List (PV × PV)}, pairsOf xs = some ps → RPs m h.size H xs vs → Vals vs its →
    ∃ (Tl : List Addr) (ws : Wx) (xx : Xx), its = Tl.map Value.ref ∧ Tl.length = xx.length ∧ RKv m h.size H ps ws ∧ PWx ws xx ∧ ∀ (j : Nat) (T : Addr) (q : NestedKey × Addr × Value), Tl[j]? = some T → xx[j]? = some q → s.heap.IsTuple T #[.ref q.2.1, q.2.2]
  | [], _, _, ps, e, .nil, r => by
    cases e
    cases r
    exact ⟨[], [], [], rfl, rfl, .nil, .nil, fun j T q e => by simp at e⟩
  | .tup [k, x] :: xs, v :: vs, u :: its, ps, e, .cons rx rt, .cons rv rvt => by
    have e : (match isTKey k with
      | true => match pairsOf xs with
        | some ps => some ((k, x) :: ps)
        | none => none
      | false => none) = some ps := e
    cases ek : isTKey k with
    | false => rw [ek] at e; cases e
    | true =>
      rw [ek] at e
      cases ep : pairsOf xs with
      | none => rw [ep] at e; cases e
      | some ps' =>
        rw [ep] at e
        cases e
        obtain ⟨T, vv, rfl, eT, rr⟩ := rx.tup_inv
        obtain rfl : u = Value.ref T := rv
        obtain ⟨vk, vx, rfl, rk, rxx⟩ := rr.two
        obtain ⟨K, eK⟩ := isTKey_ok ek
        obtain ⟨b, rfl⟩ := key_ref rk eK
        obtain ⟨_, its2, rv2, it2⟩ := (show ObjOk X.prog X.w H s.heap T (.tup [.ref b, vx]) from I.hok _ _ eT)
        obtain ⟨uk, ux, rfl, ruk, rux⟩ : ∃ uk ux, its2 = [uk, ux] ∧ RelV (.ref b) uk ∧ RelV vx ux := by
          cases rv2 with
          | cons a t => cases t with
            | cons c t => cases t; exact ⟨_, _, rfl, a, c⟩
        obtain rfl : uk = Value.ref b := ruk
        obtain ⟨Tl, ws, xx, e1, e2, e3, e4, e5⟩ := pairs_at I ep rt rvt
        refine ⟨T :: Tl, (K, b, vx) :: ws, (K, b, ux) :: xx, by rw [e1]; rfl, by rw [List.length_cons, List.length_cons, e2], .cons eK rk rxx e3, .cons ⟨rfl, rfl, rux⟩ e4, fun j T' q ej eq => ?_⟩
        cases j with
        | zero =>
          simp at ej eq
          subst ej
          subst eq
          exact it2
        | succ j => exact e5 j T' q (by simpa using ej) (by simpa using eq)
  | .non :: _, _, _, _, e, _, _ => by cases e
  | .bl _ :: _, _, _, _, e, _, _ => by cases e
  | .int _ :: _, _, _, _, e, _, _ => by cases e
  | .str _ :: _, _, _, _, e, _, _ => by cases e
  | .ref _ :: _, _, _, _, e, _, _ => by cases e
  | .tup [] :: _, _, _, _, e, _, _ => by cases e
  | .tup [_] :: _, _, _, _, e, _, _ => by cases e
  | .tup (_ :: _ :: _ :: _) :: _, _, _, _, e, _, _ => by cases e
theorem refsV : ∀ {ps : List Addr}, (ps.map Value.ref).toArray.size = ps.length := by intro ps; simp
theorem kd_pairs {i : Nat} {xs : List PV} {ps : List (PV × PV)} {Q : Value → Shared → Prop} (hc : A.handled = none) (hu : A.units + 10 < cLine) (I : L2.Inv X pins σ H s) (rh : RH X.K C m h H) (e : h.get i = some (.lst xs)) (ep : pairsOf xs = some ps)
    (q : ∀ s' H', L2.Inv X pins σ H' s' → Le h m H (h.push (.dic (dputs [] ps))) (m.ext h.size s.heap.objs.size s.heap.objs.size) H' → RH X.K C (m.ext h.size s.heap.objs.size s.heap.objs.size) (h.push (.dic (dputs [] ps))) H' → Q (.ref s.heap.objs.size) s') :
    wpAny (model X.prog X.w) A (call (.type "dict") [.ref (m.a i)]) Q E s := by
  obtain ⟨_, vs, ev, rs⟩ := rh.obj i _ e
  obtain ⟨its, rv, pl, hz⟩ := I.list (SqL.of ev)
  obtain ⟨Tl, ws, xx, e1, e2, e3, e4, e5⟩ := pairs_at (h := h) I ep rs rv
  subst e1
  obtain ⟨o, n, ho, hcl, hd, hdat⟩ := pl
  have hl : xx.length ≤ sizeLine := by
    have := rv.length
    rw [List.length_map] at this
    omega
  have hh := rkv_is (P := X.prog) (w := X.w) I.hok e3 e4
  let pv : List (Value × Value) := xx.map fun q => (.ref q.2.1, q.2.2)
  have hpv : pv.length = xx.length := by simp [pv]
  have hok : PlainSeq "list" s.heap (m.a i) (Tl.map Value.ref).toArray ∧ PairItems s.heap (Tl.map Value.ref).toArray (fun j => Tl.getD j 0) pv := by
    refine ⟨⟨o, n, ho, hcl, hd, hdat⟩, by rw [refsV, hpv, e2], fun j k v hj => ?_⟩
    rw [List.getElem?_map] at hj
    obtain ⟨q, hq, ee⟩ := Option.map_eq_some_iff.mp hj
    cases ee
    have hjl : j < Tl.length := by
      have := (List.getElem?_eq_some_iff.mp hq).1
      omega
    have hT : Tl[j]? = some (Tl.getD j 0) := by
      rw [List.getD_eq_getElem?_getD, List.getElem?_eq_getElem hjl]
      rfl
    refine ⟨by rw [List.getElem?_toArray, List.getElem?_map, hT]; rfl, .inl (e5 j _ q hT hq)⟩
  refine call_dict_pairsH (knd := nestedKind X.prog X.w) (ps := xx) (PairArg.list (m.a i) (Tl.map Value.ref).toArray (fun j => Tl.getD j 0) pv) hc (show A.in1.in1.units + 8 < cLine by have : A.in1.in1.units = A.units + 1 + 1 := rfl; omega) hok ⟨hpv.symm, fun j k v hj => ?_⟩ (fun h' kp x hx => ?_) (by rw [hpv]; exact hl) fun h' tk hd' kp => ?_
  · have hj : pv[j]? = some (k, v) := hj
    rw [List.getElem?_map] at hj
    obtain ⟨q, hq, ee⟩ := Option.map_eq_some_iff.mp hj
    cases ee
    exact ⟨q.1, q.2.1, hq, rfl⟩
  · have hi := (hh x hx).1
    refine ⟨NestedIs.at (fun b ob vs n eb _ => kp b ob (Nat.ne_of_lt (Heap.lt_size eb)) (fun z => nomatch z) eb) _ _ hi.1, hi.2⟩
  · obtain ⟨ws', r1, r2, r3⟩ := puts_rel e3 e4 (acc := []) (aw := []) (ax := []) .nil .nil List.nodup_nil
    have hws : ws.length = xx.length := Paired.length e4
    have hh' : ∀ x ∈ storedAllH [] xx, x.1.hash X.w = hk x.1 := by
      exact storedAllH_keys (P := fun (k : NestedKey) (_ : Addr) => k.hash X.w = hk k) (fun x hx => nomatch hx) fun x hx => (hh x hx).2
    obtain ⟨H', I', l, rh'⟩ := kd_laid (tk := tk) I rh r1 r2 (by simp only [List.length_nil] at r3; omega) hh' hd' fun b u eb => kp b u (fun z => nomatch z) eb
    exact q _ H' I' l rh'
end
section
variable {G : GT} {p : Pl} {sc : Sc} {a b d : Expr} {fa fb fd : XE} {pos apos q : Pos}
theorem post_new {K : PySem.W.Frag} {E : XK} {h : Mem} {m : Mp} {H H' : Hp} {o : Ob} {a : Addr} {Q : VK} (hp : Post K p RP E h m H (.ok (.ref h.size) (h.push o)) Q) (l : Le h m H (h.push o) (m.ext h.size a a) H') (rh : RH K p.C (m.ext h.size a a) (h.push o) H') : Q (.ref a) H' := by
  refine hp _ H' _ l rh ?_
  have r : RP (m.ext h.size a a) (h.push o).size H' (.ref h.size) (.ref ((m.ext h.size a a).a h.size)) := .ref (by rw [Mem.size_push]; omega)
  rwa [Mp.ext_a] at r
theorem se_dic0 : SE G p sc (.Dict [] [] pos) eDic0 := fun k W X cx => ⟨fun pins s σ H Q I ⟨sv, h, m, rh, re, hp⟩ =>
  kd_new (kx := []) I rh fun s' H' I' l rh' => ⟨.ref s.heap.objs.size, H', I', rfl, post_new hp l rh'⟩⟩
theorem se_dict {l : XA} (hg : sc.scope.names.lookup ("dict" : Str) = some .globalImplicit) (hf : ("dict" : Str) ∈ G.free) (hs : noStars [a] = true) (ha : SA G p sc [a] l) : SE G p sc (.Call (.Name "dict" q) [a] [] pos) (eB gDict l) := by
  refine se_callTy hg hf (T := "dict") (by decide +kernel) (by decide) (by decide) hs ha fun k W X cx pins s σ H vs us Q args h m I rv rh ra hp => ?_
  have hu := hu_cx cx
  cases args with
  | nil => exact hp.elim
  | cons x xs =>
    cases xs with
    | cons _ _ => exact hp.elim
    | nil =>
      have hp : Post X.K p RP (fun cls d H' => W cls d σ H') h m H (dictV x h) Q := hp
      obtain ⟨v, rfl, rx⟩ := ra.one
      obtain ⟨u, rfl, ru⟩ := vals1 rv
      cases x <;> first | exact hp.elim | skip
      rename_i i hp0
      obtain ⟨rfl, hi⟩ := rx.ref_inv
      obtain rfl : u = Value.ref (m.a i) := ru
      unfold dictV at hp
      simp only at hp
      cases eo : h.get i with
      | none => rw [eo] at hp; exact hp.elim
      | some o =>
        rw [eo] at hp
        cases o <;> first | exact hp.elim | skip
        · rename_i xs
          simp only at hp
          cases ep : pairsOf xs with
          | none => rw [ep] at hp; exact hp.elim
          | some ps =>
            rw [ep] at hp
            exact kd_pairs (I.ok.hd cx.calm) (by omega) I rh eo ep fun s' H' I' l rh' => ⟨.ref s.heap.objs.size, H', I', rfl, post_new hp l rh'⟩
        · rename_i kvs
          obtain ⟨c, hp⟩ := cnd_post hp
          exact kd_copy (by omega) I rh eo c fun s' H' I' l rh' => ⟨.ref s.heap.objs.size, H', I', rfl, post_new hp l rh'⟩
theorem isDic_ok {x : PV} {h : Mem} (e : isDic x h = true) : ∃ r kvs, x = .ref r ∧ h.get r = some (.dic kvs) := by
  cases x <;> first | (cases e; done) | skip
  rename_i r
  unfold isDic at e
  simp only at e
  cases eo : h.get r with
  | none => rw [eo] at e; cases e
  | some o =>
    rw [eo] at e
    cases o <;> first | (cases e; done) | skip
    exact ⟨r, _, rfl, eo⟩
theorem dget_inv {x k d c : PV} {h : Mem} (e : dgetV x k d h = some c) : ∃ r kvs, x = .ref r ∧ h.get r = some (.dic kvs) ∧ ((k = .non ∧ noneFree kvs = true ∧ c = d) ∨ ∃ K, keyN k = some K ∧ c = (dlook k kvs).getD d) := by
  cases x <;> first | (cases e; done) | skip
  rename_i r
  unfold dgetV at e
  simp only at e
  cases eo : h.get r with
  | none => rw [eo] at e; cases e
  | some o =>
    rw [eo] at e
    cases o <;> first | (cases e; done) | skip
    rename_i kvs
    refine ⟨r, kvs, rfl, eo, ?_⟩
    have key : cnd (isTKey k) (some ((dlook k kvs).getD d)) none = some c → ∃ K, keyN k = some K ∧ c = (dlook k kvs).getD d := fun e => by
      cases et : isTKey k with
      | false => rw [et] at e; cases e
      | true =>
        rw [et] at e
        obtain ⟨K, eK⟩ := isTKey_ok et
        exact ⟨K, eK, (Option.some.inj e).symm⟩
    cases k <;> first | exact .inr (key e) | skip
    simp only at e
    cases en : noneFree kvs with
    | false => rw [en] at e; cases e
    | true => rw [en] at e; cases e; exact .inl ⟨rfl, rfl, rfl⟩
theorem dic_call {X : Cx} {pins : List (Addr × Obj)} {σ : L2.St} {H : Hp} {s : Shared} {h : Mem} {m : Mp} {i : Nat} {kvs : List (PV × PV)} (I : L2.Inv X pins σ H s) (rh : RH X.K p.C m h H) (e : h.get i = some (.dic kvs)) :
    s.TypeIs (.ref (m.a i)) "dict" ∧ ∀ b, Value.ref (m.a i) = .ref b → ∃ ob, s.heap.get? b = some ob ∧ ob.dict = none := by
  obtain ⟨o, ws, xs, es, ep, e1, r, pw, d0, d1, d2, d3, hd, z, dd, hh⟩ := dic_at I rh e
  exact ⟨⟨o, d0, d1.1⟩, fun b q => by cases q; exact ⟨o, d0, d1.2.1⟩⟩
theorem se_get1 (hb : plainBase a = true) (hs : notStar b = true) (hl : (apos.endLine == pos.line) = true) (ha : SE G p sc a fa) (hbb : SE G p sc b fb) : SE G p sc (.Call (.Attribute a ("get" : Str) apos) [b] [] pos) (eGet1 fa fb) := fun k W X cx => by
  have hu := hu_cx cx
  refine ⟨fun pins s σ H Q I ⟨sv, h, m, rh, re, hp⟩ => ?_⟩
  refine wpAny_Call_method (base_ok hb) (few_app hs) hl PySem.F.plainAttrs_dict PySem.F.slot_dict_get PySem.F.type_dict_get (thn ((ha k W X cx).run pins s σ H _ I
    (te_bind (Q2 := fun v H1 => ∃ x h1 m1, RH X.K p.C m1 h1 H1 ∧ RE m1 h1.size H1 sv σ ∧ RP m1 h1.size H1 x v ∧ Post X.K p RP (fun cls d H' => W cls d σ H') h1 m1 H1 (cnd (isDic x h1) ((fb (callD G.tab k) sv h1).bind fun y h2 => ofO (dgetV x y .non h2) h2) .bad) Q)
      rh re hp fun v H1 x h1 m1 l1 rh1 re1 ra hp1 => ⟨x, h1, m1, rh1, re1, ra, hp1⟩)) fun u s1 ⟨v, H1, I1, rv, x, h1, m1, rh1, re1, ra, hp1⟩ => ?_)
  obtain ⟨c, hp1⟩ := cnd_post hp1
  obtain ⟨r, kvs, rfl, er⟩ := isDic_ok c
  obtain ⟨rfl, hr⟩ := ra.ref_inv
  obtain rfl : u = Value.ref (m1.a r) := rv
  obtain ⟨t1, t2⟩ := dic_call I1 rh1 er
  refine ⟨t1, t2, ?_⟩
  rw [star_no hs]
  refine Calls.callWith_builtin rfl (Calls.evalArgs_plain (Calls.spliced_cons (thn ((hbb k W X cx).run pins s1 σ H1 _ I1
    (te_bind (Q2 := fun v H2 => ∃ y h2 m2, Le h1 m1 H1 h2 m2 H2 ∧ RH X.K p.C m2 h2 H2 ∧ RP m2 h2.size H2 y v ∧ Post X.K p RP (fun cls d H' => W cls d σ H') h2 m2 H2 (ofO (dgetV (.ref r) y .non h2) h2) Q)
      rh1 re1 hp1 fun v H2 y h2 m2 l2 rh2 re2 rb hp2 => ⟨y, h2, m2, l2, rh2, rb, hp2⟩)) fun iv s2 ⟨w, H2, I2, rw2, y, h2, m2, l2, rh2, rb, hp2⟩ => Calls.spliced_nil ?_)))
  obtain ⟨cc, ec, hp2⟩ := ofO_post hp2
  obtain ⟨r', kvs', e1, e2, e3⟩ := dget_inv ec
  cases e1
  rw [← (l2.keep r hr).1]
  rcases e3 with ⟨rfl, nf, rfl⟩ | ⟨K, eK, rfl⟩
  · rw [rb.non_inv] at rw2
    obtain rfl : iv = Value.none := rw2
    exact kd_getNone (by omega) I2 rh2 e2 nf fun s' I' => ⟨.non, H2, I', rfl, hp2 m2 H2 _ rh2.refl rh2 .non⟩
  · obtain ⟨bb, rfl⟩ := key_ref rb eK
    obtain rfl : iv = Value.ref bb := rw2
    exact kd_get (by omega) I2 rh2 e2 rb eK fun v w' s' rr I' rw' => ⟨v, H2, I', rw', hp2 m2 H2 _ rh2.refl rh2 rr⟩
theorem star_two (h1 : notStar a = true) (h2 : notStar b = true) {env : PySem.Env} : starEach [a, b] env = [(false, eval a env), (false, eval b env)] := by
  rw [star_no h1, star_no h2]
  rfl
theorem few_two {env : PySem.Env} (h1 : notStar a = true) (h2 : notStar b = true) : ((backTo pos (starEach [a, b] env)).all (fun x => !x.1) && (backToKw pos (keywordEach [] env)).all (fun x => x.1.isSome)
      && decide (([a, b] : List Expr).length + ([] : List Keyword).length + (if ([] : List Keyword).isEmpty then 0 else 1) < 30)) = true := by
  rw [star_two h1 h2]
  rfl
theorem se_get2 (hb : plainBase a = true) (hs : notStar b = true) (hs2 : notStar d = true) (hl : (apos.endLine == pos.line) = true) (ha : SE G p sc a fa) (hbb : SE G p sc b fb) (hdd : SE G p sc d fd) : SE G p sc (.Call (.Attribute a ("get" : Str) apos) [b, d] [] pos) (eGet2 fa fb fd) := fun k W X cx => by
  have hu := hu_cx cx
  refine ⟨fun pins s σ H Q I ⟨sv, h, m, rh, re, hp⟩ => ?_⟩
  refine wpAny_Call_method (base_ok hb) (few_two hs hs2) hl PySem.F.plainAttrs_dict PySem.F.slot_dict_get PySem.F.type_dict_get (thn ((ha k W X cx).run pins s σ H _ I
    (te_bind (Q2 := fun v H1 => ∃ x h1 m1, RH X.K p.C m1 h1 H1 ∧ RE m1 h1.size H1 sv σ ∧ RP m1 h1.size H1 x v ∧ Post X.K p RP (fun cls d H' => W cls d σ H') h1 m1 H1 (cnd (isDic x h1) ((fb (callD G.tab k) sv h1).bind fun y h2 => (fd (callD G.tab k) sv h2).bind fun z h3 => ofO (dgetV x y z h3) h3) .bad) Q)
      rh re hp fun v H1 x h1 m1 l1 rh1 re1 ra hp1 => ⟨x, h1, m1, rh1, re1, ra, hp1⟩)) fun u s1 ⟨v, H1, I1, rv, x, h1, m1, rh1, re1, ra, hp1⟩ => ?_)
  obtain ⟨c, hp1⟩ := cnd_post hp1
  obtain ⟨r, kvs, rfl, er⟩ := isDic_ok c
  obtain ⟨rfl, hr⟩ := ra.ref_inv
  obtain rfl : u = Value.ref (m1.a r) := rv
  obtain ⟨t1, t2⟩ := dic_call I1 rh1 er
  refine ⟨t1, t2, ?_⟩
  rw [star_two hs hs2]
  refine Calls.callWith_builtin rfl (Calls.evalArgs_plain (Calls.spliced_cons (thn ((hbb k W X cx).run pins s1 σ H1 _ I1
    (te_bind (Q2 := fun v H2 => ∃ y h2 m2, Le h1 m1 H1 h2 m2 H2 ∧ RH X.K p.C m2 h2 H2 ∧ RE m2 h2.size H2 sv σ ∧ RP m2 h2.size H2 y v ∧ Post X.K p RP (fun cls d H' => W cls d σ H') h2 m2 H2 ((fd (callD G.tab k) sv h2).bind fun z h3 => ofO (dgetV (.ref r) y z h3) h3) Q)
      rh1 re1 hp1 fun v H2 y h2 m2 l2 rh2 re2 rb hp2 => ⟨y, h2, m2, l2, rh2, re2, rb, hp2⟩)) fun iv s2 ⟨w, H2, I2, rw2, y, h2, m2, l2, rh2, re2, rb, hp2⟩ =>
    Calls.spliced_cons (thn ((hdd k W X cx).run pins s2 σ H2 _ I2
    (te_bind (Q2 := fun v H3 => ∃ z h3 m3, Le h2 m2 H2 h3 m3 H3 ∧ RH X.K p.C m3 h3 H3 ∧ RP m3 h3.size H3 z v ∧ Post X.K p RP (fun cls d H' => W cls d σ H') h3 m3 H3 (ofO (dgetV (.ref r) y z h3) h3) Q)
      rh2 re2 hp2 fun v H3 z h3 m3 l3 rh3 re3 rz hp3 => ⟨z, h3, m3, l3, rh3, rz, hp3⟩)) fun dv s3 ⟨w3, H3, I3, rw3, z, h3, m3, l3, rh3, rz, hp3⟩ => Calls.spliced_nil ?_))))
  obtain ⟨cc, ec, hp4⟩ := ofO_post hp3
  obtain ⟨r', kvs', e1, e2, e3⟩ := dget_inv ec
  cases e1
  rw [← (l2.keep r hr).1, ← (l3.keep r (Nat.lt_of_lt_of_le hr l2.le)).1]
  have rb := rb.mono l3
  rcases e3 with ⟨rfl, nf, ec'⟩ | ⟨K, eK, ec'⟩
  · subst ec'
    rw [rb.non_inv] at rw2
    obtain rfl : iv = Value.none := rw2
    exact kd_getNone2 (by omega) I3 rh3 e2 nf fun s' I' => ⟨w3, H3, I', rw3, hp4 m3 H3 _ rh3.refl rh3 rz⟩
  · subst ec'
    obtain ⟨bb, rfl⟩ := key_ref rb eK
    obtain rfl : iv = Value.ref bb := rw2
    exact kd_get2 (by omega) I3 rh3 e2 rb eK rz rw3 fun v w' s' rr I' rw' => ⟨v, H3, I', rw', hp4 m3 H3 _ rh3.refl rh3 rr⟩
theorem se_clrD (hb : plainBase a = true) (hl : (apos.endLine == pos.line) = true) (ha : SE G p sc a fa) : SE G p sc (.Call (.Attribute a ("clear" : Str) apos) [] [] pos) (eClrD fa) := fun k W X cx => by
  refine ⟨fun pins s σ H Q I ⟨sv, h, m, rh, re, hp⟩ => ?_⟩
  refine wpAny_Call_method (base_ok hb) rfl hl PySem.F.plainAttrs_dict PySem.F.slot_dict_clear PySem.F.type_dict_clear (thn ((ha k W X cx).run pins s σ H _ I
    (te_bind (Q2 := fun v H1 => ∃ x h1 m1, RH X.K p.C m1 h1 H1 ∧ RP m1 h1.size H1 x v ∧ Post X.K p RP (fun cls d H' => W cls d σ H') h1 m1 H1 (match x with
      | .ref r => match h1.get r with
        | some (.dic _) => cnd (h1.free r) (.ok .non (h1.set r (.dic []))) .bad
        | _ => .bad
      | _ => .bad) Q)
      rh re hp fun v H1 x h1 m1 l1 rh1 re1 ra hp1 => ⟨x, h1, m1, rh1, ra, hp1⟩)) fun u s1 ⟨v, H1, I1, rv, x, h1, m1, rh1, ra, hp1⟩ => ?_)
  cases x <;> first | exact hp1.elim | skip
  rename_i r
  simp only at hp1
  cases eo : h1.get r with
  | none => rw [eo] at hp1; exact hp1.elim
  | some o =>
    rw [eo] at hp1
    cases o <;> first | exact hp1.elim | skip
    obtain ⟨c, hp1⟩ := cnd_post hp1
    obtain ⟨rfl, hr⟩ := ra.ref_inv
    obtain rfl : u = Value.ref (m1.a r) := rv
    obtain ⟨t1, t2⟩ := dic_call I1 rh1 eo
    refine ⟨t1, t2, ?_⟩
    show wpAny _ _ (callWith pos (.builtin "dict.clear") [.ref (m1.a r)] [] []) _ X.xe s1
    refine Calls.callWith_builtin rfl (PySem.evalArgs_none ?_)
    exact kd_clear I1 rh1 eo (Mem.free_iff.mp c) fun s' H' I' l rh' => ⟨.non, H', I', rfl, hp1 m1 H' _ l rh' .non⟩
/-! ### l.extend -/
theorem ext_ok {X : Cx} : MtR X "list.extend" (fun x xs H Q => ∃ (n i : Nat) (l ys : List PV) (h : Mem) (m : Mp), x = .ref (m.a n) ∧ xs = [.ref (m.a i)] ∧ RH X.K p.C m h H ∧ h.get n = some (.lst l) ∧ h.get i = some (.lst ys) ∧ fits (l ++ ys) = true ∧ h.free n = true ∧
    Post X.K p RP (fun _ _ _ => False) h m H (.ok .non (h.set n (.lst (l ++ ys)))) Q) := by
  rintro pins s σ H x xs v us Q I rx rxs ⟨n, i, l, ys, h, m, rfl, rfl, rh, hn, hi, hf, hfr, hp⟩
  obtain ⟨u, rfl, ru⟩ := vals1 rxs
  obtain rfl : v = Value.ref (m.a n) := rx
  obtain rfl : u = Value.ref (m.a i) := ru
  obtain ⟨_, vs, ev, rs⟩ := rh.obj n _ hn
  obtain ⟨_, ws, ew, rt⟩ := rh.obj i _ hi
  have hfl := fits_le hf
  rw [List.length_append] at hfl
  have hvl := rs.length
  have hwl := rt.length
  obtain ⟨l', rh'⟩ := rh.putL hn (Mem.free_iff.mp hfr) (rs.append rt)
  obtain ⟨z, its, n1, r, hl, e⟩ := I.lstM ev
  obtain ⟨z2, its2, n2, r2, hl2, e2⟩ := I.lstM ew
  have hsz : its.toArray.size + its2.toArray.size ≤ sizeLine := by rw [List.size_toArray, List.size_toArray]; omega
  have hlong : ¬ (!its.toArray.isEmpty && Builtin.List.listTooLong (its.toArray.size + its2.toArray.size)) = true := by
    rw [notLongL hsz, Bool.and_false]
    exact Bool.false_ne_true
  refine call_meets F.slot_list_extend ⟨_, e, rfl⟩ F.entry_list_extend (F.args_list_extend_2 _ _) (AutoSeq1.list_extend_list_list_0 _ its.toArray n1 (m.a i) its2.toArray n2 hlong (by rw [List.size_toArray]; omega) (by omega)) ⟨e, e2, ?_⟩
  refine ⟨.non, _, I.lset (its' := its ++ its2) ev e (by simp) (r.append r2) ?_, rfl, hp _ _ _ l' rh' .non⟩
  rw [List.length_append]
  omega
theorem listOf_inv {x : PV} {h : Mem} {ys : List PV} (e : listOf h x = some ys) : ∃ i, x = .ref i ∧ h.get i = some (.lst ys) := by
  cases x <;> first | (cases e; done) | skip
  rename_i r
  unfold listOf at e
  simp only at e
  cases eo : h.get r with
  | none => rw [eo] at e; cases e
  | some o =>
    rw [eo] at e
    cases o <;> first | (cases e; done) | skip
    cases e
    exact ⟨r, rfl, eo⟩
theorem se_ext (hb : plainBase a = true) (hs : notStar b = true) (hp : (apos.endLine == pos.line) = true) (ha : SE G p sc a fa) (hbb : SE G p sc b fb) : SE G p sc (.Call (.Attribute a ("extend" : Str) apos) [b] [] pos) (eExt fa fb) := by
  intro k W X cx
  refine PE.imp (pe_bm PySem.F.plainAttrs_list PySem.F.slot_list_extend PySem.F.type_list_extend (ext_ok (p := p)) (ha k W X cx) (pa_cons (hbb k W X cx) pa_nil (star_no hs)) (base_ok hb) (few_app hs) hp (star_no hs) rfl) ?_
  rintro σ H Q ⟨s, h, m, rh, re, hq⟩
  refine te_bind rh re hq fun v H1 x h1 m1 l1 rh1 re1 ra hp1 => ?_
  cases x <;> first | exact hp1.elim | skip
  rename_i n
  cases e : h1.get n with
  | none => simp only [e] at hp1; exact hp1.elim
  | some o =>
    cases o <;> simp only [e] at hp1 <;> first | exact hp1.elim | skip
    rename_i xs
    obtain ⟨ev, hn⟩ := ra.ref_inv
    subst ev
    obtain ⟨_, vs, hv, rs⟩ := rh1.obj n _ e
    refine ⟨.inl ⟨rfl, vs, SqL.of hv⟩, ?_⟩
    refine te_bind rh1 re1 hp1 fun u H2 y h2 m2 l2 rh2 re2 ry hp2 => ?_
    cases e3 : listOf h2 y with
    | none => simp only [e3] at hp2; exact hp2.elim
    | some ys =>
      simp only [e3] at hp2
      obtain ⟨i, rfl, ei⟩ := listOf_inv e3
      cases e2 : h2.get n with
      | none => simp only [e2] at hp2; exact hp2.elim
      | some o =>
        cases o <;> simp only [e2] at hp2 <;> first | exact hp2.elim | skip
        rename_i zs
        obtain ⟨c1, hp2⟩ := cnd_post hp2
        obtain ⟨c2, hp2⟩ := cnd_post hp2
        refine ⟨n, i, zs, ys, h2, m2, ?_, ?_, rh2, e2, ei, c1, c2, hp2⟩
        · rw [(l2.keep n hn).1]
        · rw [ry.ref_inv.1]
/-! ### starred items -/
theorem sa_star {es : List Expr} {l : XA} {q : Pos} (ha : SE G p sc a fa) (hr : SA G p sc es l) : SA G p sc (.Starred a q :: es) (aStar fa l) := fun k W X cx =>
  PA.imp (StX.pa_star (ha k W X cx) (hr k W X cx)) fun σ H Q ⟨s, h, m, rh, re, hp⟩ => by
    refine te_bind rh re hp fun v H1 x h1 m1 l1 rh1 re1 ra hp1 => ?_
    cases e : itemsOf h1 x with
    | none => simp only [e] at hp1; exact hp1.elim
    | some xs =>
      simp only [e] at hp1
      obtain ⟨r, vs, rfl, hl, rs⟩ := itemsOf_ok rh1 ra e
      refine ⟨r, vs, rfl, ?_, ?_⟩
      · rcases hl with hl | hl
        · exact .inr hl
        · exact .inl (SqT.of hl)
      · exact ta_bind rh1 re1 hp1 fun ws H2 ys h2 m2 l2 rh2 re2 rw2 hp2 => hp2 m2 H2 _ rh2.refl rh2 ((rs.mono l2).append rw2)
end
end Ev
end

section
set_option Elab.async false
set_option linter.all false
set_option maxRecDepth 100000
/-! Ev: dict comprehensions whose keys are tuples. -/
namespace Ev
open PySem PySem.Spec PyProof.Rows L2

abbrev oD0 : Obj := { cls := .type "dict", data := .dict #[] }
theorem dx_empty {P : Program} {w : World} {H : Hp} (h : Heap) (hb : sysModules < h.objs.size) : ObjOk P w H (h.push oD0) h.objs.size (DxO h.objs.size oD0 []) :=
  dxo_ok (Heap.get?_push_size _ rfl) (beq_eq_false_iff_ne.mpr (Ne.symm (Nat.ne_of_lt hb))) ⟨Nat.zero_le _, #[], 0, [], ⟨rfl, rfl, rfl⟩, rfl, rfl, .nil, List.nodup_nil⟩
theorem dx_set {X : Cx} {pins : List (Addr × Obj)} {σ : L2.St} {H : Hp} {s : Shared} {E : Value → Shared → Prop} {D : Addr} {o : Obj} {ws : Wx} {m : Mp} {z : Nat} {kvs : List (PV × PV)} {k x : PV} {K : NestedKey} {b : Addr} {v : V} {r : Value} {Q : Unit → Shared → Prop} (hu : X.A.units + 9 < cLine) (I : L2.Inv X pins σ H s)
    (hD : H D = some (DxO D o ws)) (rk : RKv m z H kvs ws) (hz : kvs.length < sizeLine) (ek : keyN k = some K) (rb : RP m z H k (.ref b)) (rx : RP m z H x v) (rv : RelV v r)
    (h : ∀ s' o' ws', L2.Inv X pins σ (upd H D (DxO D o' ws')) s' → RKv m z H (dput k x kvs) ws' → Q () s') : wpAny (model X.prog X.w) X.A (dictSet D (.ref b) r) Q E s := by
  obtain ⟨h1, hd, h3, es, ep, xs, d1, d2, d3, pw, dd⟩ := dx_ok I.hok hD rk
  have hh := fun x hx => (rkv_is (P := X.prog) (w := X.w) I.hok rk pw x hx).2
  have hl : kvs.length = xs.length := by rw [← rk.length]; exact Paired.length pw
  refine wpAny_dictSet_heap (hsz := by omega) (show X.A.units + 8 < cLine by omega) (key_is I.hok ek rb) dd fun h' dd' hs => ?_
  rw [stored_eq dd.nodup] at dd'
  obtain ⟨r', pw'⟩ := put_rel ek rb rx rv rk pw
  have hz' : (putW K b v ws).length ≤ sizeLine := by
    have := putW_len K b v ws
    have := rk.length
    omega
  obtain ⟨o', ho', ok'⟩ := dx_back hd hz' pw' (hash_putX (w := X.w) (hash_key ek) hh) dd'
  exact h _ o' _ (d_write I (by rw [hD]; exact True.intro) hs ⟨o', ho'⟩ (ok' _)) r'
section
variable {X : Cx}
def tDcX (wi : TI) (g : TG) (tt : TT) (tk tv : TE) (vs : List Nat) : TE := fun σ H Q => wi σ H fun J H1 => ∀ D, H1 D = none → ∃ W : Nat → Nat → Hp → Prop, (∃ m, W 0 m (upd H1 D (DxO D oD0 []))) ∧ ∀ i m H, W i m H →
  (J.stop i H ∧ Q (.ref D) H) ∨ (J.go i H ∧ ∃ Nx : Hp → Prop, (∀ H', Nx H' → ∃ m', m' < m ∧ W (i + 1) m' H') ∧ ∀ x H', J.yld i H x H' → g x (wipe σ vs) H' fun σ2 H2 => wipe σ2 vs = wipe σ vs ∧ tt σ2 H2 fun b H3 =>
    if b = true then tk σ2 H3 fun y H4 => tv σ2 H4 fun z H5 => ∃ (m : Mp) (n : Nat) (o : Obj) (ws : Wx) (kvs : List (PV × PV)) (k x : PV) (K : NestedKey) (b : Addr), y = .ref b ∧ H5 D = some (DxO D o ws) ∧ RKv m n H5 kvs ws ∧ kvs.length < sizeLine ∧ keyN k = some K ∧ RP m n H5 k (.ref b) ∧ RP m n H5 x z ∧ ∀ o' ws', RKv m n H5 (dput k x kvs) ws' → Nx (upd H5 D (DxO D o' ws')) else Nx H3)
theorem dc_coreX {pins : List (Addr × Obj)} {s : Shared} {σ : L2.St} {H : Hp} {Q : VK} {kx vx tg iter : Expr} {ifs : List Expr} {scope : Scope} {own : List (Str × Nat)} {pos pos' : Pos} {wi : TI} {g : TG} {tt : TT} {tk tv : TE} {use : Option (Value → Sem Unit)} {Qf : Value → Shared → Prop}
    (hu : X.A.units + 9 < cLine) (hc : X.calm = true) (hN : X.N.Nodup) (I : Inv X pins σ H s) (hi : PI X tg iter wi) (ok : BlkOk X.N X.env.scope scope own)
    (hg : ∀ (s : Shared) (H : Hp) (C : Addr) (cl : List (Str × Addr)) (fp : List Addr), PG (X.blk s H scope (compEnvC scope cl C X.env) fp) tg g) (ht : ∀ (s : Shared) (H : Hp) (C : Addr) (cl : List (Str × Addr)) (fp : List Addr), PTs (X.blk s H scope (compEnvC scope cl C X.env) fp) ifs tt)
    (hk : ∀ (s : Shared) (H : Hp) (C : Addr) (cl : List (Str × Addr)) (fp : List Addr), PE (X.blk s H scope (compEnvC scope cl C X.env) fp) kx tk)
    (he : ∀ (s : Shared) (H : Hp) (C : Addr) (cl : List (Str × Addr)) (fp : List Addr), PE (X.blk s H scope (compEnvC scope cl C X.env) fp) vx tv) (hs : ∀ x, foldedSetIterable iter X.env x = pure x)
    (h : tDcX wi g tt tk tv (own.map (·.2)) σ H Q)
    (hRR : ∀ D C s' m H', Inv X pins σ H' s' → Q (.ref D) H' → s'.heap.Ns C m → FpOk X pins H' C → compPost (model X.prog X.w) X.A X.xe use Qf (.ref D) C (.ok .next) s') :
    wpAny (model X.prog X.w) X.A (comprehension (.DictComp kx vx [⟨tg, iter, ifs, 0⟩] scope pos) scope X.env pos' newDict false (eval iter X.env) use) Qf X.xe s := by
  have hfree : ∀ y ∈ scope.names, y.2 = .free → ∃ c, X.env.cells.lookup y.1 = some c := fun y hy e => by
    rcases ok.free y hy e with k | k
    · exact I.ok.has _ (.inl k)
    · exact I.ok.has _ (.inr k)
  refine wpAny_comprehension_free (use := use) rfl hs (closure_ok hfree) ok.kind (fun y hy e => by rw [ok.uniq y hy, e])
    (thn (hi.run pins s σ H _ I h) fun xv s1 hx => thn hx fun itv s2 h2 => ?_)
  obtain ⟨it, fp, tn, J, H2, e, I2, T, st2, f2, q⟩ := h2
  subst e
  refine wpAny_newObj_type (newEnv_comp ?_)
  generalize hD : s2.heap.objs.size = D
  have hDn : H2 D = none := I2.hok.fresh (Nat.le_of_eq hD)
  obtain ⟨W, ⟨m0, w0⟩, turn⟩ := q D hDn
  -- the new list
  generalize hs3 : ({ s2 with heap := s2.heap.push { cls := .type "dict", data := .dict #[] } } : Shared) = s3
  have I3 : Inv X pins σ (upd H2 D (DxO D oD0 [])) s3 := by
    rw [← hs3]
    refine I2.laid (t' := s2.toks) (fun b o e => Heap.get?_push_of_some _ e) (Nat.le_of_eq hD) ?_
    rw [← hD]
    exact dx_empty s2.heap I2.big
  have h3 : s3.heap = s2.heap.push { cls := .type "dict", data := .dict #[] } := by rw [← hs3]
  have sz : ∀ b ∈ fp, b < s2.heap.objs.size := fun b hb => by
    obtain ⟨o, e, _⟩ := T.obj _ _ st2 b hb
    exact Heap.lt_size e
  have f3 : ∀ b ∈ fp, FpOk X pins (upd H2 D (DxO D oD0 [])) b ∧ b < s3.heap.objs.size := fun b hb => by
    have hlt := sz b hb
    refine ⟨⟨?_, (f2 b hb).2⟩, by rw [h3, Heap.size_push]; exact Nat.lt_succ_of_lt hlt⟩
    rw [upd_ne (by rw [← hD]; exact Nat.ne_of_lt hlt)]
    exact (f2 b hb).1
  have st3 : tn 0 s3.heap := T.keep _ _ _ st2 fun b _ o e => by rw [h3]; exact Heap.get?_push_of_some _ e
  have I4 := block_start I3 ok hN f3
  have pg := hg s3 (upd H2 D (DxO D oD0 [])) s3.heap.objs.size (cellsFrom (s3.heap.objs.size + 1) scope.names (cloFrom X.env.cells scope.names [])) fp
  have pt := ht s3 (upd H2 D (DxO D oD0 [])) s3.heap.objs.size (cellsFrom (s3.heap.objs.size + 1) scope.names (cloFrom X.env.cells scope.names [])) fp
  have pk := hk s3 (upd H2 D (DxO D oD0 [])) s3.heap.objs.size (cellsFrom (s3.heap.objs.size + 1) scope.names (cloFrom X.env.cells scope.names [])) fp
  have pe := he s3 (upd H2 D (DxO D oD0 [])) s3.heap.objs.size (cellsFrom (s3.heap.objs.size + 1) scope.names (cloFrom X.env.cells scope.names [])) fp
  show codeAny _ _ (.compStart (.DictComp kx vx [⟨tg, iter, ifs, 0⟩] scope pos) 0 (.ref it) (.ref D) (compEnvC scope (cellsFrom (s3.heap.objs.size + 1) scope.names (cloFrom X.env.cells scope.names [])) s3.heap.objs.size X.env)) (compPost (model X.prog X.w) X.A X.xe use Qf (.ref D) s3.heap.objs.size) { s3 with heap := pushCells (s3.heap.push { cls := .type "dict", data := .dict #[] }) scope.names }
  have nfp : ∀ b ∈ fp, (upd H2 D (DxO D oD0 [])) b = none := fun b hb => (f3 b hb).1.1
  generalize hce : compEnvC scope (cellsFrom (s3.heap.objs.size + 1) scope.names (cloFrom X.env.cells scope.names [])) s3.heap.objs.size X.env = ce at I4 pg pt pk pe ⊢
  have cL : ce.locals = s3.heap.objs.size := by subst hce; rfl
  generalize hH3 : upd H2 D (DxO D oD0 []) = H3 at I3 I4 pg pt pk pe w0 nfp f3
  generalize hs4 : ({ s3 with heap := pushCells (s3.heap.push { cls := .type "dict", data := .dict #[] }) scope.names } : Shared) = s4 at I4 ⊢
  have st4 : tn 0 s4.heap := T.keep _ _ _ st3 fun b _ o e => by rw [← hs4]; exact pushCells_keeps _ _ _ _ (Heap.get?_push_of_some _ e)
  have stat : ∀ {σ' : L2.St} {H' : Hp} {s' : Shared}, Inv (X.blk s3 H3 scope ce fp) [] σ' H' s' → (∀ b ∈ fp, H' b = none) → ∀ b ∈ fp, FpOk (X.blk s3 H3 scope ce fp) [] H' b := fun {σ' H' s'} I' hn b hb =>
    ⟨hn b hb, (I'.ok.exf b hb).1, I'.ok.exfs b hb, .inl hb, fun x c e => (I'.ok.exf b hb).2 x c e, fun p hp => absurd (show p ∈ ([] : List (Addr × Obj)) ++ [] from hp) (by simp)⟩
  have loop : codeAny (model X.prog X.w) X.A (.compLoop (.DictComp kx vx [⟨tg, iter, ifs, 0⟩] scope pos) 0 (.ref it) (.ref D) ce) (compPost (model X.prog X.w) X.A X.xe use Qf (.ref D) s3.heap.objs.size) s4 := by
    refine compLoop_anyD (fun n s' => ∃ i H', Inv (X.blk s3 H3 scope ce fp) [] (wipe σ (own.map (·.2))) H' s' ∧ tn i s'.heap ∧ (∀ b ∈ fp, H' b = none) ∧ W i n H') ?_ m0 ⟨0, H3, I4, st4, nfp, w0⟩
    rintro n s5 ⟨i, H5, I5, st5, n5, w5⟩
    rcases turn i n H5 w5 with ⟨stop, qq⟩ | ⟨go, Nx, hNx, step⟩
    · have td := T.done (X.blk s3 H3 scope ce fp) rfl rfl rfl hc i [] s5 _ H5 (fun _ _ => False) I5 (stat I5 n5) st5 stop
      refine thnF td fun r s6 ⟨hr, I6⟩ => ?_
      subst hr
      -- back in the def's context
      have I7 : Inv X pins σ H5 s6 := I3.call' (ch := fp) I6.os I6.base I6.hok I6.bare fun b hb => ⟨(f3 b hb).1.2.2.2.1, (f3 b hb).1.2.1, (f3 b hb).1.2.2.2.2.1, (f3 b hb).1.2.2.2.2.2⟩
      have nC : H5 s3.heap.objs.size = none := by
        have z : H5 ce.locals = none := I6.free
        rw [cL] at z
        exact z
      obtain ⟨m, hn, _⟩ := I6.loc
      have hn : s6.heap.Ns ce.locals m := hn
      rw [cL] at hn
      exact hRR D s3.heap.objs.size s6 m H5 I7 qq hn (I3.fpOk (Nat.le_refl _) nC)
    · have ti := T.item (X.blk s3 H3 scope ce fp) rfl rfl rfl hc i [] s5 _ H5 (fun _ _ => False) I5 (stat I5 n5) st5 go
      refine thnF ti fun r s6 ⟨u, hr, h6⟩ => ?_
      subst hr
      refine thnF h6 fun _ s7 ⟨x, H7, I7, r7, y7, st7, n7⟩ => ?_
      have I7' := I7.pinned (stat I7 n7) (T.obj _ _ st7)
      refine thnF (pg.run _ s7 _ H7 x u _ I7' r7 (step x H7 y7)) fun _ s8 ⟨σ8, H8, I8, hw8, q8⟩ => ?_
      refine thnF (pt.run _ s8 σ8 H8 _ I8 q8) fun b s9 ⟨H9, I9, q9⟩ => ?_
      -- the turn's end
      have fin : ∀ {s' : Shared} {H' : Hp}, Inv (X.blk s3 H3 scope ce fp) ([] ++ pinsAt fp s7.heap) σ8 H' s' → Nx H' → ∃ m, m < n ∧ ∃ i H', Inv (X.blk s3 H3 scope ce fp) [] (wipe σ (own.map (·.2))) H' s' ∧ tn i s'.heap ∧ (∀ b ∈ fp, H' b = none) ∧ W i m H' := fun {s' H'} I' nx => by
        obtain ⟨m', hm, w'⟩ := hNx H' nx
        have pin' : ∀ b ∈ fp, ∀ o, s7.heap.get? b = some o → s'.heap.get? b = some o ∧ H' b = none := fun b hb o e =>
          let z := I'.pin (b, o) (List.mem_append_right _ (List.mem_append_right _ (mem_pinsAt hb e)))
          ⟨z.1, z.2.1⟩
        have hl : (wipe σ (own.map (·.2))).length = σ8.length := by rw [← hw8, wipe_length]
        refine ⟨m', hm, i + 1, H', (I'.unpinned (pins := [])).weak hl (fun j v e => ?_), T.keep _ _ _ st7 fun b hb o e => (pin' b hb o e).1, fun b hb => ?_, w'⟩
        · rw [← hw8] at e
          exact (wipe_some e).1
        · obtain ⟨o, e, _⟩ := T.obj _ _ st7 b hb
          exact (pin' b hb o e).2
      cases b with
      | false =>
        simp only [Bool.false_eq_true, if_false] at q9 ⊢
        exact fin I9 q9
      | true =>
        simp only [if_true] at q9 ⊢
        refine thnF (pk.run _ s9 σ8 H9 _ I9 q9) fun z s10 ⟨yk, H10, I10, r10, q10⟩ => ?_
        refine thnF (pe.run _ s10 σ8 H10 _ I10 q10) fun z2 s11 ⟨yv, H11, I11, r11, mm, nn, oo, ws, kvs, kk, xx, KK, bb, ek, hD11, rk11, hz11, eK, rb11, rx11, nx⟩ => ?_
        subst ek
        obtain rfl : z = Value.ref bb := r10
        exact dx_set (X := X.blk s3 H3 scope ce fp) hu I11 hD11 rk11 hz11 eK rb11 rx11 r11 fun s12 o12 ws12 I12 r12 => fin I12 (nx o12 ws12 r12)
  exact codeAny_compStart_dict loop (T.self X.A 0 _ _ _ st4 loop)
/-- as a value -/
theorem pe_dcX {kx vx tg iter : Expr} {ifs : List Expr} {scope : Scope} {own : List (Str × Nat)} {pos : Pos} {wi : TI} {g : TG} {tt : TT} {tk tv : TE} (hu : X.A.units + 9 < cLine) (hc : X.calm = true) (hN : X.N.Nodup) (hi : PI X tg iter wi) (ok : BlkOk X.N X.env.scope scope own)
    (hg : ∀ (s : Shared) (H : Hp) (C : Addr) (cl : List (Str × Addr)) (fp : List Addr), PG (X.blk s H scope (compEnvC scope cl C X.env) fp) tg g) (ht : ∀ (s : Shared) (H : Hp) (C : Addr) (cl : List (Str × Addr)) (fp : List Addr), PTs (X.blk s H scope (compEnvC scope cl C X.env) fp) ifs tt)
    (hk : ∀ (s : Shared) (H : Hp) (C : Addr) (cl : List (Str × Addr)) (fp : List Addr), PE (X.blk s H scope (compEnvC scope cl C X.env) fp) kx tk)
    (he : ∀ (s : Shared) (H : Hp) (C : Addr) (cl : List (Str × Addr)) (fp : List Addr), PE (X.blk s H scope (compEnvC scope cl C X.env) fp) vx tv) (hs : ∀ x, foldedSetIterable iter X.env x = pure x := by intro _; rfl) :
    PE X (.DictComp kx vx [⟨tg, iter, ifs, 0⟩] scope pos) (tDcX wi g tt tk tv (own.map (·.2))) := by
  refine ⟨fun pins s σ H Q I h => ?_⟩
  rw [arm_eval_DictComp]
  refine dc_coreX hu hc hN I hi ok hg ht hk he hs h fun D C s' m H' I' q hn f => ⟨m, hn, fun h'' sb => ?_⟩
  obtain ⟨f0, f1, f2, f3, f4, f5⟩ := f
  exact ⟨.ref D, H', I'.turned (t' := s'.toks) (fun b o hb e => (sb.2 b hb).trans e) f0 f1 f3 f4 f5, rfl, q⟩
end
end Ev
end

section
set_option Elab.async false
set_option linter.all false
set_option maxRecDepth 100000
/-! Ev: dict comprehensions; walks over dicts. -/
namespace Ev
open PySem PySem.Spec PyProof.Rows L2

section
variable {K : PySem.W.Frag} {p : Pl} {E : XK} {h h' : Mem} {m m' : Mp} {H H' : Hp} {a : Addr}
/-- the memory takes a dict that no one knew -/
theorem Le.adoptD {o : Obj} {ws : Wx} {kvs : List (PV × PV)} (l : Le h m H h' m' H') (rh : RH K p.C m' h' H') (hn : H a = none) (e : H' a = some (DxO a o ws)) (na : ∀ n, n < h'.size → a ≠ m'.a n ∧ a ≠ m'.d n) (rs : RKv m' h'.size H' kvs ws) :
    Le h m H (h'.push (.dic kvs)) (m'.ext h'.size a a) H' ∧ RH K p.C (m'.ext h'.size a a) (h'.push (.dic kvs)) H' := by
  have kp : ∀ n, n < h'.size → (m'.ext h'.size a a).a n = m'.a n ∧ (m'.ext h'.size a a).d n = m'.d n := fun n hn => ⟨Mp.ext_a_ne (by omega), Mp.ext_d_ne (by omega)⟩
  -- a step that leaves the heap as it is
  have st : Lw h'.size m' H' (h'.push (.dic kvs)).size (m'.ext h'.size a a) H' := ⟨by rw [Mem.size_push]; omega, kp, fun _ _ e => e⟩
  refine ⟨⟨Nat.le_trans l.le (by rw [Mem.size_push]; omega), l.lk, l.ld, fun n hn => (Mem.get_push_old _ (rh.lok n (by rw [l.lk]; exact hn))).trans (l.lkd n hn), l.lkh, fun n hn => ?_, l.frame, l.tups, fun n h1 h2 => ?_, l.old⟩, fun n hn => ?_, fun n o e' => ?_, fun i j hi hj ne => ?_, fun n hn => Nat.lt_succ_of_lt (rh.lok n hn), fun n hn => Nat.lt_succ_of_lt (rh.lod n hn)⟩
  · have q := kp n (Nat.lt_of_lt_of_le hn l.le)
    rw [q.1, q.2]
    exact l.keep n hn
  · rw [Mem.size_push] at h2
    by_cases q : n = h'.size
    · subst q
      rw [Mp.ext_a, Mp.ext_d]
      exact ⟨hn, hn⟩
    · have q' := kp n (by omega)
      rw [q'.1, q'.2]
      exact l.new n h1 (by omega)
  · rw [Mem.size_push] at hn
    by_cases q : n = h'.size
    · subst q; exact ⟨_, Mem.get_push_new _ _⟩
    · obtain ⟨o, eo⟩ := rh.all n (by omega)
      exact ⟨o, Mem.get_push eo⟩
  · by_cases q : n = h'.size
    · subst q
      rw [Mem.get_push_new] at e'
      cases e'
      exact ⟨by rw [Mp.ext_a, Mp.ext_d], o, ws, by rw [Mp.ext_a]; exact e, rs.weak st⟩
    · have hl : n < h'.size := by
        have := Mem.get_lt e'
        rw [Mem.size_push] at this; omega
      rw [Mem.get_push_old _ hl] at e'
      exact (rh.obj n o e').weak st hl rfl rfl
  · rw [Mem.size_push] at hi hj
    by_cases qi : i = h'.size
    · subst qi
      have q := kp j (by omega)
      rw [Mp.ext_a, Mp.ext_d, q.1, q.2]
      have := na j (by omega)
      exact ⟨this.1, this.2, this.1, this.2⟩
    · by_cases qj : j = h'.size
      · subst qj
        have q := kp i (by omega)
        rw [Mp.ext_a, Mp.ext_d, q.1, q.2]
        have := na i (by omega)
        exact ⟨this.1.symm, this.1.symm, this.2.symm, this.2.symm⟩
      · have q := kp i (by omega)
        have q' := kp j (by omega)
        rw [q.1, q.2, q'.1, q'.2]
        exact rh.inj i j (by omega) (by omega) ne
end
theorem pairsOf_cons {x : PV} {xs : List PV} {ps : List (PV × PV)} (e : pairsOf (x :: xs) = some ps) : ∃ k y r, x = .tup [k, y] ∧ isTKey k = true ∧ pairsOf xs = some r ∧ ps = (k, y) :: r := by
  unfold pairsOf at e
  split at e
  · rename_i h; cases h
  · rename_i k y r h
    cases h
    cases ek : isTKey k with
    | false => rw [ek] at e; cases e
    | true =>
      rw [ek] at e
      cases er : pairsOf xs with
      | none => rw [er] at e; cases e
      | some q => rw [er] at e; cases e; exact ⟨k, y, q, rfl, ek, rfl, rfl⟩
  · cases e
theorem pairsOf_mk {k y : PV} {xs : List PV} {r : List (PV × PV)} (ek : isTKey k = true) (er : pairsOf xs = some r) : pairsOf (.tup [k, y] :: xs) = some ((k, y) :: r) := by
  unfold pairsOf
  rw [ek, er]
theorem pairsOf_append : ∀ {a b : List PV} {ps : List (PV × PV)}, pairsOf (a ++ b) = some ps → ∃ p1 p2, pairsOf a = some p1 ∧ pairsOf b = some p2 ∧ ps = p1 ++ p2
  | [], b, ps, e => ⟨[], ps, rfl, e, rfl⟩
  | x :: a, b, ps, e => by
    obtain ⟨k, y, r, rfl, ek, er, rfl⟩ := pairsOf_cons e
    obtain ⟨p1, p2, q1, q2, rfl⟩ := pairsOf_append er
    exact ⟨(k, y) :: p1, p2, pairsOf_mk ek q1, q2, rfl⟩
theorem pairsOf_one {k y : PV} {ps : List (PV × PV)} (e : pairsOf [.tup [k, y]] = some ps) : isTKey k = true := by
  obtain ⟨k', y', r, h, ek, _, _⟩ := pairsOf_cons e
  cases h
  exact ek
theorem pairsOf_join : ∀ {a b : List PV} {p1 p2 : List (PV × PV)}, pairsOf a = some p1 → pairsOf b = some p2 → pairsOf (a ++ b) = some (p1 ++ p2)
  | [], b, p1, p2, e1, e2 => by cases e1; exact e2
  | x :: a, b, p1, p2, e1, e2 => by
    obtain ⟨k, y, r, rfl, ek, er, rfl⟩ := pairsOf_cons e1
    exact pairsOf_mk ek (pairsOf_join er e2)
theorem dputs_append : ∀ (a b acc : List (PV × PV)), dputs acc (a ++ b) = dputs (dputs acc a) b
  | [], b, acc => rfl
  | (k, v) :: a, b, acc => dputs_append a b (dput k v acc)
theorem pairsOf_snoc {ys : List PV} {ps : List (PV × PV)} {k y : PV} (e : pairsOf ys = some ps) (ek : isTKey k = true) : (pairsOf (ys ++ [.tup [k, y]])).map (dputs []) = some (dput k y (dputs [] ps)) := by
  rw [pairsOf_join e (pairsOf_mk ek rfl), Option.map_some, dputs_append]
  rfl
theorem dputs_len : ∀ (a acc : List (PV × PV)), (dputs acc a).length ≤ acc.length + a.length
  | [], acc => Nat.le_refl _
  | (k, v) :: a, acc => by
    have h1 := dputs_len a (dput k v acc)
    have h2 := dput_len k v acc
    simp only [List.length_cons]
    unfold dputs
    omega
theorem pairsOf_len : ∀ {ys : List PV} {ps : List (PV × PV)}, pairsOf ys = some ps → ps.length = ys.length
  | [], _, e => by cases e; rfl
  | x :: ys, ps, e => by
    obtain ⟨k, y, r, rfl, ek, er, rfl⟩ := pairsOf_cons e
    simp only [List.length_cons]
    rw [pairsOf_len er]
/-- the new dict's own place -/
structure OwnD (h2 : Mem) (m2 : Mp) (H2 : Hp) (D : Addr) (ys : List PV) : Prop where
  ni : ∀ n, n < h2.size → D ≠ m2.a n ∧ D ≠ m2.d n
  at_ : ∃ o kvs ws, (pairsOf ys).map (dputs []) = some kvs ∧ H2 D = some (DxO D o ws) ∧ RKv m2 h2.size H2 kvs ws
theorem OwnD.mono {h2 h3 : Mem} {m2 m3 : Mp} {H2 H3 : Hp} {D : Addr} {ys : List PV} (o : OwnD h2 m2 H2 D ys) (l : Le h2 m2 H2 h3 m3 H3) : OwnD h3 m3 H3 D ys := by
  obtain ⟨oo, kvs, ws, ek, e, r⟩ := o.at_
  refine ⟨fun n hn => ?_, oo, kvs, ws, ek, l.frame D _ e o.ni, r.mono l⟩
  by_cases q : n < h2.size
  · rw [(l.keep n q).1, (l.keep n q).2]; exact o.ni n q
  · have nn := l.new n (by omega) hn
    refine ⟨fun w => ?_, fun w => ?_⟩
    · rw [← w, e] at nn; exact nomatch nn.1
    · rw [← w, e] at nn; exact nomatch nn.2
section
variable {G : GT} {p : Pl} {sc : Sc} {pos : Pos}
/-- the thing at D, which no one knows, is changed -/
theorem RH.asideU {K : PySem.W.Frag} {h2 : Mem} {m2 : Mp} {H2 : Hp} {D : Addr} {u : HO} (rh : RH K p.C m2 h2 H2) (ni : ∀ n, n < h2.size → D ≠ m2.a n ∧ D ≠ m2.d n) (nt : ∀ us, H2 D ≠ some (.tup us)) :
    Lw h2.size m2 H2 h2.size m2 (upd H2 D u) ∧ RH K p.C m2 h2 (upd H2 D u) := by
  have st : Lw h2.size m2 H2 h2.size m2 (upd H2 D u) := ⟨Nat.le_refl _, fun _ _ => ⟨rfl, rfl⟩, fun a us ea => by rw [upd_ne (fun q => by rw [q] at ea; exact nt us ea)]; exact ea⟩
  refine ⟨st, rh.all, fun n o eo => ?_, rh.inj, rh.lok, rh.lod⟩
  have := ni n (Mem.get_lt eo)
  exact (rh.obj n o eo).weak st (Mem.get_lt eo) (upd_ne this.1.symm) (upd_ne this.2.symm)
theorem Le.asideU {h1 h2 : Mem} {m1 m2 : Mp} {H1 H2 : Hp} {D : Addr} {u : HO} (l : Le h1 m1 H1 h2 m2 H2) (hn : H1 D = none) (ni : ∀ n, n < h2.size → D ≠ m2.a n ∧ D ≠ m2.d n) : Le h1 m1 H1 h2 m2 (upd H2 D u) :=
  ⟨l.le, l.lk, l.ld, l.lkd, fun n hn hl => by
    have q := ni n (Nat.lt_of_lt_of_le hl l.le)
    rw [(l.keep n hl).1] at q
    rw [upd_ne q.1.symm]
    exact l.lkh n hn hl, l.keep, fun a o ea hk => by rw [upd_ne (ne_of_none ea hn)]; exact l.frame a o ea hk, fun a vs ea => by rw [upd_ne (ne_of_none ea hn)]; exact l.tups a vs ea, l.new, fun n hn' => by
    have q := ni n (Nat.lt_of_lt_of_le hn' l.le)
    rw [← (l.keep n hn').1, ← (l.keep n hn').2, upd_ne q.1.symm, upd_ne q.2.symm, (l.keep n hn').1, (l.keep n hn').2]
    exact l.old n hn'⟩
/-- ONE CLAUSE -/
theorem dc_read {K : PySem.W.Frag} {W : WX} {c : Calls} {fi : XI} {g : Tg} {t : XT} {fk fe : XE} {own : List Nat} {σ : L2.St} {H : Hp} {Q : VK} (hin : tgIn own g) (h : teOf K p W c (dC1 own fi g t fk fe) σ H Q) :
    tDcX (tiOf K p W c fi) (ctR K g) (ttOf K p (fun _ _ _ _ => False) c t) (teOf K p (fun _ _ _ _ => False) c fk) (teOf K p (fun _ _ _ _ => False) c fe) own σ H Q := by
  obtain ⟨s, h, m, rh, re, hp⟩ := h
  refine ⟨s, h, m, rh, re, ?_⟩
  unfold dC1 at hp
  cases ei : fi c s h with
  | bad => rw [ei] at hp; exact hp
  | err x h1 => rw [ei] at hp; exact hp
  | ok q h1 =>
    rw [ei] at hp
    simp only [Res.bind_ok] at hp
    obtain ⟨xs, ls⟩ := q
    intro m1 H1 J l1 rh1 wk D hD
    simp only at hp wk
    rw [wipeV_eq] at hp
    have hD0 : H D = none := l1.fresh hD
    -- the whole ends well
    generalize hf : turns (tgG g) t c (wipeE s own) (fun s' h' => (fk c s' h').bind fun k h' => (fe c s' h').bind fun y h'' => .ok [.tup [k, y]] h'') = tr at hp
    cases er : noErr (tr xs (h1.lock ls)) with
    | bad => rw [er] at hp; exact hp.elim
    | err x h2 => rw [er] at hp; unfold noErr at er; split at er <;> cases er
    | ok ys hE =>
      rw [er] at hp
      simp only [Res.bind_ok] at hp
      have er := noErr_ok er
      cases cf : fits ys with
      | false => rw [cf] at hp; exact hp.elim
      | true =>
        rw [cf] at hp
        have fy := fits_le cf
        obtain ⟨l2, rh2⟩ := rh1.tmp (u := DxO D oD0 []) hD
        cases ep : pairsOf ys with
        | none => rw [ep] at hp; exact hp.elim
        | some ps =>
        rw [ep] at hp
        simp only [cnd_true] at hp
        -- the invariant
        refine ⟨fun i mz H2 => ∃ h2 m2 ys1 ys2, i ≤ xs.length ∧ mz = xs.length - i ∧ Le (h1.lock ls) m1 H1 h2 m2 H2 ∧ RH K p.C m2 h2 H2 ∧ OwnD h2 m2 H2 D ys1 ∧ ys1 ++ ys2 = ys ∧ tr (xs.drop i) h2 = .ok ys2 hE,
          ⟨xs.length, h1.lock ls, m1, [], ys, Nat.zero_le _, rfl, ?_, rh2.lock wk.loc, ⟨fun n hn => ⟨fun z => (rh1.fresh hD hn).1 z.symm, fun z => (rh1.fresh hD hn).2 z.symm⟩, oD0, [], [], rfl, upd_same, .nil⟩, rfl, by simpa using er⟩, ?_⟩
        · exact (rh1.lrefl ls).trans ⟨l2.le, rfl, rfl, fun _ _ => rfl, fun n hn hl => (upd_ne (rh1.fresh (by assumption) hl).1), l2.keep, l2.frame, l2.tups, l2.new, l2.old⟩
        rintro i mz H2 ⟨h2, m2, ys1, ys2, hi, rfl, l3, rh3, ow, ey, et⟩
        by_cases hlt : i < xs.length
        · have ex : xs[i]? = some xs[i] := List.getElem?_eq_getElem hlt
          obtain ⟨hgo, hy⟩ := wk.item i _ h2 m2 H2 ex l3.lz rh3
          rw [List.drop_eq_getElem_cons hlt] at et
          refine .inr ⟨hgo, fun H5 => ∃ h5 m5 ys1 ys2, Le (h1.lock ls) m1 H1 h5 m5 H5 ∧ RH K p.C m5 h5 H5 ∧ OwnD h5 m5 H5 D ys1 ∧ ys1 ++ ys2 = ys ∧ tr (xs.drop (i + 1)) h5 = .ok ys2 hE,
            fun H5 ⟨h5, m5, y1, y2, l5, rh5, ow5, ey5, et5⟩ => ⟨xs.length - (i + 1), by omega, h5, m5, y1, y2, hlt, rfl, l5, rh5, ow5, ey5, et5⟩, fun v H3 hyv => ?_⟩
          obtain ⟨l4, rh4, rx⟩ := hy v H3 hyv
          have l04 := l3.trans l4
          have ow4 := ow.mono l4
          have rew : RE m2 h2.size H3 (wipeE s own) (wipe σ own) := (((re.mono l1).wipe own).mono l3).mono l4
          -- the turn
          subst hf
          obtain ⟨zs, h4, ez, et⟩ := bind_ok et
          obtain ⟨ws, h5, ew, et⟩ := bind_ok et
          cases et
          obtain ⟨s1, hg1, eg, ez⟩ := bind_ok ez
          obtain ⟨b, ht1, eb, ez⟩ := bind_ok ez
          obtain ⟨eh, _⟩ := ct_read (K := K) (Q := fun _ _ => True) rh4 rew rx eg fun _ _ => True.intro
          subst eh
          refine (ct_read (K := K) rh4 rew rx eg fun vs re5 => ⟨by rw [wipe_ct hin, wipe_wipe], s1, _, m2, rh4, re5, post_ok eb fun m6 H6 b' l6 rh6 rb => ?_⟩).2
          have eb' : b = b' := rb
          subst eb'
          have l06 := l04.trans l6
          have ow6 := ow4.mono l6
          cases b with
          | true =>
            rw [if_pos rfl]
            obtain ⟨kv, h7, ey7, ez⟩ := bind_ok ez
            obtain ⟨y, h9, ey9, ez⟩ := bind_ok ez
            cases ez
            refine ⟨s1, ht1, m6, rh6, re5.mono l6, post_ok ey7 fun m8 H8 v8 l8 rh8 ry8 => ⟨s1, h7, m8, rh8, (re5.mono l6).mono l8, post_ok ey9 fun m9 H9 v9 l9 rh9 ry9 => ?_⟩⟩
            obtain ⟨o9, kvs9, ws9, ek9, ea9, ra9⟩ := ((ow6.mono l8).mono l9).at_
            have ekv : ∃ ps1, pairsOf ys1 = some ps1 ∧ isTKey kv = true := by
              rw [← ey, ← List.append_assoc] at ep
              obtain ⟨p1, p2, q1, q2, _⟩ := pairsOf_append ep
              obtain ⟨p3, p4, q3, q4, _⟩ := pairsOf_append q1
              exact ⟨p3, q3, pairsOf_one q4⟩
            obtain ⟨ps1, eps, etk⟩ := ekv
            obtain ⟨KK, eK⟩ := isTKey_ok etk
            obtain ⟨bb, rfl⟩ := key_ref ry8 eK
            have hk9 : kvs9 = dputs [] ps1 := by rw [eps] at ek9; exact (Option.some.inj ek9).symm
            have hlen : kvs9.length < sizeLine := by
              rw [hk9]
              have := dputs_len ps1 []
              have h2 := pairsOf_len eps
              have h3 : (ys1 ++ ([PV.tup [kv, y]] ++ ws)).length = ys.length := by rw [ey]
              simp only [List.length_append, List.length_cons, List.length_nil] at this h3
              omega
            refine ⟨m9, _, o9, ws9, kvs9, kv, y, KK, bb, rfl, ea9, ra9, hlen, eK, ry8.mono l9, ry9, fun o' ws' r' => ?_⟩
            have ow9 := ((ow6.mono l8).mono l9)
            obtain ⟨st, rha⟩ := rh9.asideU (u := DxO D o' ws') ow9.ni (fun us => by rw [ea9]; unfold DxO; exact fun z => nomatch z)
            refine ⟨_, m9, ys1 ++ [.tup [kv, y]], ws, Le.asideU ((l06.trans l8).trans l9) hD ow9.ni, rha, ⟨ow9.ni, o', dput kv y kvs9, ws', ?_, upd_same, r'.weak st⟩, ?_, ew⟩
            · rw [hk9]
              exact pairsOf_snoc eps etk
            · rw [List.append_assoc]; exact ey
          | false =>
            rw [if_neg Bool.false_ne_true]
            cases ez
            exact ⟨_, m6, ys1, ws, l06, rh6, ow6, ey, ew⟩
        · have e : i = xs.length := by omega
          subst e
          rw [List.drop_length] at et
          subst hf
          cases et
          rw [List.append_nil] at ey
          subst ey
          refine .inl ⟨wk.stop _ m2 H2 l3.lz rh3, ?_⟩
          obtain ⟨oo, kvs, wss, ek, ea, ra⟩ := ow.at_
          have hk : kvs = dputs [] ps := by rw [ep] at ek; exact (Option.some.inj ek).symm
          subst hk
          obtain ⟨la, rha⟩ := Le.adoptD (l1.trans l3.unlock) (rh3.unlock ls) hD0 ea ow.ni ra
          refine hp _ H2 _ la rha ?_
          have r : RP (m2.ext (hE.unlock ls).size D D) ((hE.unlock ls).push (.dic (dputs [] ps))).size H2 (.ref (hE.unlock ls).size) (.ref ((m2.ext (hE.unlock ls).size D D).a (hE.unlock ls).size)) := .ref (by rw [Mem.size_push]; omega)
          rwa [Mp.ext_a] at r

variable {a b d tg iter elt : Expr} {fa fb fd : XE}
theorem se_dc1 {kx vx : Expr} {ifs : List Expr} {scope : Scope} {own : List (Str × Nat)} {fi : XI} {g : Tg} {t : XT} {fk fe : XE} (hb : blkC sc.N sc.scope scope own = true) (hs : notSet iter = true) (hin : tgIn (own.map (·.2)) g) (hi : SI G p sc tg iter fi) (hg : TgOk (blkSc sc scope) tg g) (ht : STs G p (blkSc sc scope) ifs t)
    (hk : SE G p (blkSc sc scope) kx fk) (he : SE G p (blkSc sc scope) vx fe) : SE G p sc (.DictComp kx vx [⟨tg, iter, ifs, 0⟩] scope pos) (dC1 (own.map (·.2)) fi g t fk fe) := fun k W X cx =>
  PE.imp (pe_dcX (by have := hu_cx cx; omega) cx.calm cx.nd (hi k W X cx) (by rw [cx.n, cx.sco]; exact blkOk_by hb) (fun s H C cl fp => ct_ok (ecx_blk cx s H scope C cl fp) hg) (fun s H C cl fp => ht k _ _ (ecx_blk cx s H scope C cl fp))
    (fun s H C cl fp => hk k _ _ (ecx_blk cx s H scope C cl fp)) (fun s H C cl fp => he k _ _ (ecx_blk cx s H scope C cl fp)) (folded hs _)) fun σ H Q h => dc_read hin h
/-! ### walks -/
theorem rkv_get {m : Mp} {z : Nat} {H : Hp} : ∀ {kvs : List (PV × PV)} {ws : Wx} {i : Nat} {q : PV × PV}, RKv m z H kvs ws → kvs[i]? = some q → ∃ w, ws[i]? = some w ∧ RP m z H q.1 (.ref w.2.1) ∧ RP m z H q.2 w.2.2
  | _, _, _, _, .nil, e => by simp at e
  | _, _, 0, q, .cons _ r1 r2 _, e => by simp at e; subst e; exact ⟨_, rfl, r1, r2⟩
  | _, _, i + 1, q, .cons _ _ _ t, e => by
    obtain ⟨w, h1, h2⟩ := rkv_get (i := i) t (by simpa using e)
    exact ⟨w, by simpa using h1, h2⟩
section
variable {K : PySem.W.Frag} {h1 : Mem} {m1 : Mp} {H1 : Hp} {r : Nat} {kvs : List (PV × PV)} {o : Obj} {ws : Wx}
theorem dic_same (hr : r < h1.size) (eH : H1 (m1.a r) = some (DxO (m1.a r) o ws)) {h2 : Mem} {m2 : Mp} {H2 : Hp} (lz : Lz (h1.lock [r]) m1 H1 h2 m2 H2) : H2 (m1.a r) = some (DxO (m1.a r) o ws) :=
  (lz.lkh r (by simp) hr).trans eH
theorem Walks.keysD (hr : r < h1.size) (eH : H1 (m1.a r) = some (DxO (m1.a r) o ws)) (rk : RKv m1 h1.size H1 kvs ws) : Walks K p h1 m1 H1 [r] (ItkX (m1.a r) o) (kvs.map fun q => q.1) where
  loc := fun n hn => by
    cases hn with
    | head => exact hr
    | tail _ z => cases z
  item := fun i x h2 m2 H2 ex lz rh => by
    have e2 := dic_same hr eH lz
    rw [List.getElem?_map] at ex
    obtain ⟨q, hq, rfl⟩ := Option.map_eq_some_iff.mp ex
    obtain ⟨w, hw, r1, r2⟩ := rkv_get rk hq
    refine ⟨⟨ws, e2, (List.getElem?_eq_some_iff.mp hw).1⟩, fun v H3 y => ?_⟩
    obtain ⟨e, hu⟩ := y
    subst e
    obtain ⟨w', hw', rfl⟩ := hu ws e2
    rw [hw] at hw'
    cases hw'
    exact ⟨rh.refl, rh, r1.weak lz.lw⟩
  stop := fun h2 m2 H2 lz rh => ⟨ws, dic_same hr eH lz, by rw [List.length_map, rk.length]; exact Nat.le_refl _⟩
theorem Walks.valsD (hr : r < h1.size) (eH : H1 (m1.a r) = some (DxO (m1.a r) o ws)) (rk : RKv m1 h1.size H1 kvs ws) : Walks K p h1 m1 H1 [r] (ItvX (m1.a r) o) (kvs.map fun q => q.2) where
  loc := fun n hn => by
    cases hn with
    | head => exact hr
    | tail _ z => cases z
  item := fun i x h2 m2 H2 ex lz rh => by
    have e2 := dic_same hr eH lz
    rw [List.getElem?_map] at ex
    obtain ⟨q, hq, rfl⟩ := Option.map_eq_some_iff.mp ex
    obtain ⟨w, hw, r1, r2⟩ := rkv_get rk hq
    refine ⟨⟨ws, e2, (List.getElem?_eq_some_iff.mp hw).1⟩, fun v H3 y => ?_⟩
    obtain ⟨e, hu⟩ := y
    subst e
    obtain ⟨w', hw', rfl⟩ := hu ws e2
    rw [hw] at hw'
    cases hw'
    exact ⟨rh.refl, rh, r2.weak lz.lw⟩
  stop := fun h2 m2 H2 lz rh => ⟨ws, dic_same hr eH lz, by rw [List.length_map, rk.length]; exact Nat.le_refl _⟩
theorem Walks.itemsD (hr : r < h1.size) (eH : H1 (m1.a r) = some (DxO (m1.a r) o ws)) (rk : RKv m1 h1.size H1 kvs ws) : Walks K p h1 m1 H1 [r] (ItiX (m1.a r) o) (kvs.map fun q => .tup [q.1, q.2]) where
  loc := fun n hn => by
    cases hn with
    | head => exact hr
    | tail _ z => cases z
  item := fun i x h2 m2 H2 ex lz rh => by
    have e2 := dic_same hr eH lz
    rw [List.getElem?_map] at ex
    obtain ⟨q, hq, rfl⟩ := Option.map_eq_some_iff.mp ex
    obtain ⟨w, hw, r1, r2⟩ := rkv_get rk hq
    refine ⟨⟨ws, e2, (List.getElem?_eq_some_iff.mp hw).1⟩, fun v H3 y => ?_⟩
    obtain ⟨T, k, v', rfl, hT, rfl, hu⟩ := y
    obtain ⟨w', hw', rfl, rfl⟩ := hu ws e2
    rw [hw] at hw'
    cases hw'
    exact pair_made rh hT (r1.weak lz.lw) (r2.weak lz.lw)
  stop := fun h2 m2 H2 lz rh => ⟨ws, dic_same hr eH lz, by rw [List.length_map, rk.length]; exact Nat.le_refl _⟩
end
theorem si_any (ha : SE G p sc a fa) : SI G p sc tg a (iAny fa) := fun k W X cx => PI.imp (pi_anyX (ha k W X cx)) fun σ H R ⟨s, h, m, rh, re, hp⟩ => by
  refine ⟨s, h, m, rh, re, ?_⟩
  unfold iAny at hp
  cases e : fa (callD G.tab k) s h with
  | bad => rw [e] at hp; exact hp
  | err x h1 => rw [e] at hp; exact hp
  | ok x h1 =>
    rw [e] at hp
    simp only [Res.bind_ok] at hp
    intro m1 H1 v l rh1 rx
    cases x <;> first | exact hp.elim | skip
    · rename_i xs
      obtain ⟨q, vs, rfl, eq, rs⟩ := rx.tup_inv
      have w : WSq X.K p h1 m1 H1 [] false q xs := ⟨fun n hn => (by cases hn), fun h2 m2 H2 lz rh2 => ⟨vs, SqT.of (lz.tups _ _ eq), rs.weak lz.lw⟩⟩
      exact .inl ⟨false, q, vs, rfl, SqT.of eq, hp m1 H1 _ l rh1 (Walks.sq w)⟩
    · rename_i r
      obtain ⟨rfl, hr⟩ := rx.ref_inv
      have key : ∀ xs, h1.get r = some (.lst xs) ∨ h1.get r = some (.scr xs) → WSq X.K p h1 m1 H1 [r] true (m1.a r) xs := fun xs e => by
        refine ⟨fun n hn => ?_, fun h2 m2 H2 lz rh2 => ?_⟩
        · cases hn with
          | head => exact hr
          | tail _ z => cases z
        · have e2 : h2.get r = h1.get r := lz.lkd r (by simp)
          have ka := (lz.keep r hr).1
          rw [← ka]
          rcases e with e | e
          · obtain ⟨_, vs, ev, rs⟩ := rh2.obj r _ (e2.trans e)
            exact ⟨vs, SqL.of ev, rs⟩
          · obtain ⟨_, _, vs, ev, _, rs⟩ := rh2.obj r _ (e2.trans e)
            exact ⟨vs, ev, rs⟩
      cases eo : h1.get r with
      | none => simp only [eo] at hp; exact hp.elim
      | some o =>
        simp only [eo] at hp
        cases o <;> first | exact hp.elim | skip
        · obtain ⟨vs, hq⟩ := (key _ (.inl eo)).now rh1
          exact .inl ⟨true, _, vs, rfl, hq, hp m1 H1 _ l rh1 (Walks.sq (key _ (.inl eo)))⟩
        · rename_i kvs
          obtain ⟨_, o, ws, eH, rk⟩ := rh1.obj r _ eo
          exact .inr ⟨_, o, ws, rfl, eH, hp m1 H1 _ l rh1 (Walks.keysD hr eH rk)⟩
        · obtain ⟨vs, hq⟩ := (key _ (.inr eo)).now rh1
          exact .inl ⟨true, _, vs, rfl, hq, hp m1 H1 _ l rh1 (Walks.sq (key _ (.inr eo)))⟩
theorem si_items {elts : List Expr} {kk : Nat} {tpos apos : Pos} (hb : plainBase a = true) (hl : (apos.endLine == pos.line) = true) (ha : SE G p sc a fa) : SI G p sc (.Tuple elts kk tpos) (.Call (.Attribute a ("items" : Str) apos) [] [] pos) (iItems fa) := fun k W X cx =>
  PI.imp (pi_itemsX (ha k W X cx) (base_ok hb) hl) fun σ H R ⟨s, h, m, rh, re, hp⟩ => by
  refine ⟨s, h, m, rh, re, ?_⟩
  unfold iItems at hp
  cases e : fa (callD G.tab k) s h with
  | bad => rw [e] at hp; exact hp
  | err x h1 => rw [e] at hp; exact hp
  | ok x h1 =>
    rw [e] at hp
    simp only [Res.bind_ok] at hp
    intro m1 H1 v l rh1 rx
    cases x <;> first | exact hp.elim | skip
    rename_i r
    obtain ⟨rfl, hr⟩ := rx.ref_inv
    unfold itemsD at hp
    simp only at hp
    cases eo : h1.get r with
    | none => rw [eo] at hp; exact hp.elim
    | some o =>
      rw [eo] at hp
      cases o <;> first | exact hp.elim | skip
      rename_i kvs
      obtain ⟨_, o, ws, eH, rk⟩ := rh1.obj r _ eo
      exact ⟨_, o, ws, rfl, eH, hp m1 H1 _ l rh1 (Walks.itemsD hr eH rk)⟩
theorem si_vals {apos : Pos} (hb : plainBase a = true) (hl : (apos.endLine == pos.line) = true) (ha : SE G p sc a fa) : SI G p sc tg (.Call (.Attribute a ("values" : Str) apos) [] [] pos) (iVals fa) := fun k W X cx =>
  PI.imp (pi_valsX (ha k W X cx) (base_ok hb) hl) fun σ H R ⟨s, h, m, rh, re, hp⟩ => by
  refine ⟨s, h, m, rh, re, ?_⟩
  unfold iVals at hp
  cases e : fa (callD G.tab k) s h with
  | bad => rw [e] at hp; exact hp
  | err x h1 => rw [e] at hp; exact hp
  | ok x h1 =>
    rw [e] at hp
    simp only [Res.bind_ok] at hp
    intro m1 H1 v l rh1 rx
    cases x <;> first | exact hp.elim | skip
    rename_i r
    obtain ⟨rfl, hr⟩ := rx.ref_inv
    unfold itemsD at hp
    simp only at hp
    cases eo : h1.get r with
    | none => rw [eo] at hp; exact hp.elim
    | some o =>
      rw [eo] at hp
      cases o <;> first | exact hp.elim | skip
      rename_i kvs
      obtain ⟨_, o, ws, eH, rk⟩ := rh1.obj r _ eo
      exact ⟨_, o, ws, rfl, eH, hp m1 H1 _ l rh1 (Walks.valsD hr eH rk)⟩
end
end Ev
end

section
set_option Elab.async false
set_option linter.all false
set_option maxRecDepth 100000
/-! Ev: a dict comprehension stored within. -/
namespace Ev
open PySem PySem.Spec PyProof.Rows L2

theorem ps_setDcX {X : Cx} {i : Nat} {y : Str} {py : Pos} {kx vx tg iter : Expr} {ifs : List Expr} {scope : Scope} {own : List (Str × Nat)} {pos spos : Pos} {wi : TI} {g : TG} {tt : TT} {tk tv : TE} (hu : X.A.units + 9 < cLine) (hc : X.calm = true) (hN : X.N.Nodup) (hy : X.N[i]? = some y) (hyl : X.env.scope.names.lookup y = some .local)
    (hsw : swapsWith (.DictComp kx vx [⟨tg, iter, ifs, 0⟩] scope pos) (some (.Name y py)) spos.line X.env = pure true) (hi : PI X tg iter wi) (ok : BlkOk X.N X.env.scope scope own)
    (hg : ∀ (s : Shared) (H : Hp) (C : Addr) (cl : List (Str × Addr)) (fp : List Addr), PG (X.blk s H scope (compEnvC scope cl C X.env) fp) tg g) (ht : ∀ (s : Shared) (H : Hp) (C : Addr) (cl : List (Str × Addr)) (fp : List Addr), PTs (X.blk s H scope (compEnvC scope cl C X.env) fp) ifs tt)
    (hk : ∀ (s : Shared) (H : Hp) (C : Addr) (cl : List (Str × Addr)) (fp : List Addr), PE (X.blk s H scope (compEnvC scope cl C X.env) fp) kx tk)
    (he : ∀ (s : Shared) (H : Hp) (C : Addr) (cl : List (Str × Addr)) (fp : List Addr), PE (X.blk s H scope (compEnvC scope cl C X.env) fp) vx tv) (hs : ∀ x, foldedSetIterable iter X.env x = pure x) :
    PS X (.Assign [.Name y py] (.DictComp kx vx [⟨tg, iter, ifs, 0⟩] scope pos) spos) (tAsg (tDcX wi g tt tk tv (own.map (·.2))) (L2.gName i)) := by
  refine ⟨fun pins s σ H D I h => ?_⟩
  rw [exec_Assign_Name_used _ _ _ _ hsw]
  refine wpAny_bind (wpAny_standAt (wpAny_bind ?_))
  show wpAny _ X.A (do let _ ← comprehension (.DictComp kx vx [⟨tg, iter, ifs, 0⟩] scope pos) scope X.env (firstIterPos [⟨tg, iter, ifs, 0⟩] pos) newDict false (eval iter X.env) (some (assign (.Name y py) X.env))) _ _ s
  have h : tDcX wi g tt tk tv (own.map (·.2)) σ H (fun x H1 => L2.gName i x σ H1 D.nx) := h
  refine wpAny_bind (thn (dc_coreX (Qf := fun _ s' => SP X pins D .next s') hu hc hN I hi ok hg ht hk he hs h fun L C s' m H' I' q hn f => ?_) fun _ s' hq => wpAny_pure (wpAny_pure hq))
  show wpAny _ _ (assign (.Name y py) X.env (.ref L)) _ _ _
  refine wpAny_assign_Name (store_ok2 (v := V.ref L) I' hN hy (.inl hyl) rfl (fun s2 I2 ⟨a, sb, ha⟩ => ?_) (.inr hyl))
  obtain ⟨f0, f1, f2, f3, f4, f5⟩ := f
  have haC : C ≠ a := by
    rcases ha with z | z
    · rw [z]; exact f1
    · exact fun e => f4 y a z e.symm
  refine ⟨m, hn.sameBut sb haC, fun h3 sb3 => ?_⟩
  exact ⟨_, H', I2.turned (t' := s2.toks) (fun b o hb e => (sb3.2 b hb).trans e) f0 f1 f3 f4 f5, q⟩
theorem sw_trueD {kx vx : Expr} {gs : List Comprehension} {scope : Scope} {pos py : Pos} {y : Str} {l : Nat} {env : PySem.Env} (hk : env.scope.kind = .function) (hy : env.scope.names.lookup y = some .local) (hl : (py.line == pos.line) = true)
    (ha : (scope.names.any fun (n, k) => n == y && (k == .local || k == .cell)) = false) : swapsWith (.DictComp kx vx gs scope pos) (some (.Name y py)) l env = pure true := by
  have ky : env.kindOf y = some .local := hy
  have hb : env.blockKind = .function := by unfold Env.blockKind; rw [hk]; rfl
  unfold swapsWith
  simp only [hb, ky, ha, Expr.pos, hl]
  rfl
section
variable {G : GT} {p : Pl} {sc : Sc} {pos spos : Pos}
theorem te_asg {K : PySem.W.Frag} {W : WX} {c : Calls} {fe : XE} {i : Nat} {D : Ends} {σ : L2.St} {H : Hp} (h : tsOf K p W c (sAsg fe (gName i)) D σ H) : teOf K p W c fe σ H (fun x H1 => L2.gName i x σ H1 D.nx) := by
  obtain ⟨s, hm, m, rh, re, hp⟩ := h
  exact ts_te rh re hp fun v H1 y h1 m1 rh1 re1 ra hp1 => hp1 m1 H1 _ rh1.refl rh1 (re1.set i ra)
theorem ss_setDc1 {y : Str} {py : Pos} {i : Nat} {kx vx tg iter : Expr} {ifs : List Expr} {scope : Scope} {own : List (Str × Nat)} {fi : XI} {g : Tg} {t : XT} {fk fe : XE} (hk : sc.scope.kind = .function) (hy : sc.N[i]? = some y) (hyl : sc.scope.names.lookup y = some .local) (hl : (py.line == pos.line) = true) (ha : (scope.names.any fun (n, k) => n == y && (k == .local || k == .cell)) = false)
    (hb : blkC sc.N sc.scope scope own = true) (hs : notSet iter = true) (hin : tgIn (own.map (·.2)) g) (hi : SI G p sc tg iter fi) (hg : TgOk (blkSc sc scope) tg g) (ht : STs G p (blkSc sc scope) ifs t) (hkk : SE G p (blkSc sc scope) kx fk) (he : SE G p (blkSc sc scope) vx fe) :
    SS G p sc (.Assign [.Name y py] (.DictComp kx vx [⟨tg, iter, ifs, 0⟩] scope pos) spos) (sAsg (dC1 (own.map (·.2)) fi g t fk fe) (gName i)) := fun k W X cx =>
  PS.imp (ps_setDcX (i := i) (by have := hu_cx cx; omega) cx.calm cx.nd (by rw [cx.n]; exact hy) (by rw [cx.sco]; exact hyl) (sw_trueD (by rw [cx.sco]; exact hk) (by rw [cx.sco]; exact hyl) hl ha) (hi k W X cx) (by rw [cx.n, cx.sco]; exact blkOk_by hb) (fun s H C cl fp => ct_ok (ecx_blk cx s H scope C cl fp) hg) (fun s H C cl fp => ht k _ _ (ecx_blk cx s H scope C cl fp))
    (fun s H C cl fp => hkk k _ _ (ecx_blk cx s H scope C cl fp)) (fun s H C cl fp => he k _ _ (ecx_blk cx s H scope C cl fp)) (folded hs _))
    fun D σ H h => dc_read hin (te_asg h)
end
end Ev
end

section
set_option Elab.async false
set_option linter.all false
set_option maxRecDepth 100000
/-! Ev: the compiler, from the text to the evaluator's pieces. -/
namespace Ev
open PySem

/-- what the compiler makes: the pieces, or their print -/
structure Alg where
  E : Type
  A : Type
  T : Type
  S : Type
  I : Type
  O : Type
  G : Type
  eBad : E
  eVar : Nat → E
  eC : PV → E
  eBin : BO → E → E → E
  eCmp : CO → E → E → E
  eChain : CO → CO → E → E → E → E
  eAnd : E → E → E
  eOr : E → E → E
  eNot : E → E
  eIf : T → E → E → E
  eTup : A → E
  eNew : A → E
  eSub : E → E → E
  eSl : E → O → O → E
  oNone : O
  oSome : E → O
  eFld : List (Nat × At) → E → E
  eCall : Nat → A → E
  eMeth : List (Nat × Nat) → E → A → E
  eMake : Nat → Nat → Nat → A → E
  eLen : List (Nat × Nat) → E → E
  eIs : IsK → List (Nat × Bool) → E → E
  eAll : A → E
  eAny : A → E
  eMax2 : A → E
  eMin2 : A → E
  eMaxL : A → E
  eMinL : A → E
  eSum : A → E
  eInt : A → E
  eAbs : A → E
  eTupL : A → E
  eListL : A → E
  eSS : E → E
  eApp : E → E → E
  eDic0 : E
  eDict : A → E
  eGet1 : E → E → E
  eGet2 : E → E → E → E
  eClrD : E → E
  eExt : E → E → E
  dC1 : List Nat → I → Tg → T → E → E → E
  aStar : E → A → A
  iAny : E → I
  iItems : E → I
  iVals : E → I
  aBad : A
  aNil : A
  aCons : E → A → A
  lNew : A → A
  lOf : E → A
  lC1 : List Nat → I → Tg → T → E → A
  lC2 : List Nat → List Nat → I → Tg → T → I → Tg → T → E → A
  tBad : T
  tE : E → T
  tAnd : T → T → T
  tOr : T → T → T
  tNot : T → T
  tYes : T
  iOf : E → I
  iNew : A → I
  iR1 : E → I
  iR2 : E → E → I
  iR3 : E → E → E → I
  iEnum : I → I
  iZip : I → I → I
  sBad : S
  sNil : S
  sSeq : S → S → S
  sExpr : E → S
  sRet : E → S
  sIf : T → S → S → S
  sAsg : E → Tg → S
  sAug : Nat → BO → E → S
  sSetI : E → E → E → S
  sSlot : List (Nat × Nat) → E → E → S
  sFor : I → Tg → S → S

/-! ### tables -/
inductive Bt where | max | min | abs | len | int | bool | str | tuple | list | dict | set | isinstance | all | any | sum | sorted | range | enumerate | zip
inductive Rl where
  | fn (f : Nat)
  | cl (c : Nat)
  | ci (i : Int)
  | bt (b : Bt)
structure GS where
  roles : List (Str × Rl)
  atts : List (Str × List (Nat × At))
  meths : List (Str × List (Nat × Nat))
  inits : List (Nat × Nat × Nat)
  /-- for each class: what isinstance says of instances of each class -/
  iss : List (Nat × List (Nat × Bool))
def eqL : List Nat → List Nat → Bool
  | [], [] => true
  | x :: xs, y :: ys => match Nat.beq x y with | true => eqL xs ys | false => false
  | _, _ => false
def eqS (x y : Str) : Bool := eqL x.cps.toList y.cps.toList
def look {α : Type} (x : Str) : List (Str × α) → Option α
  | [] => none
  | (y, a) :: r => match eqS y x with | true => some a | false => look x r
def idx (x : Str) : List Str → Option Nat
  | [] => none
  | y :: r => match eqS y x with | true => some 0 | false => (idx x r).map (· + 1)
def btName : Bt → Str
  | .max => "max"
  | .min => "min"
  | .abs => "abs"
  | .len => "len"
  | .int => "int"
  | .bool => "bool"
  | .str => "str"
  | .tuple => "tuple"
  | .list => "list"
  | .dict => "dict"
  | .set => "set"
  | .isinstance => "isinstance"
  | .all => "all"
  | .any => "any"
  | .sum => "sum"
  | .sorted => "sorted"
  | .range => "range"
  | .enumerate => "enumerate"
  | .zip => "zip"
def btIs : Bt → Option IsK
  | .int => some .int
  | .bool => some .bool
  | .str => some .str
  | .tuple => some .tuple
  | .list => some .list
  | _ => none
def lensOf (gs : GS) : List (Nat × Nat) := (look "__len__" gs.meths).getD []
def isTab (gs : GS) : List (Nat × Bool) := gs.roles.filterMap fun r => match r.2 with
  | .cl c => some (c, false)
  | _ => none

/-! ### names -/
def isGlob (sc : Sc) (x : Str) : Bool := match look x sc.scope.names with
  | some .globalImplicit => bnot (eqS x "__debug__")
  | _ => false
def isVis (sc : Sc) (x : Str) : Bool := match look x sc.scope.names with
  | some .local => true
  | some .cell => true
  | some .free => true
  | _ => false
/-- the slot of a name that is stored -/
def slotOf (sc : Sc) (x : Str) : Option Nat := match idx x sc.N with
  | some i => match look x sc.scope.names with
    | some .local => some i
    | some .cell => cnd (sc.fn x) (some i) none
    | _ => none
  | none => none
def slotsOf (sc : Sc) : List Expr → Option (List Nat)
  | [] => some []
  | .Name x _ :: r => match slotOf sc x with
    | some i => match slotsOf sc r with
      | some is => some (i :: is)
      | none => none
    | none => none
  | _ :: _ => none
def tgC (sc : Sc) (e : Expr) : Option Tg := match e with
  | .Name x _ => (slotOf sc x).map Tg.nm
  | .Tuple es _ _ => (slotsOf sc es).map Tg.un
  | _ => none
def tgIdx : Tg → List Nat
  | .nm i => [i]
  | .un is => is
def subsetB (is js : List Nat) : Bool := match is with
  | [] => true
  | i :: r => match memb i js with | true => subsetB r js | false => false

structure CS (A : Alg) where
  e : Sc → Expr → A.E
  t : Sc → Expr → A.T
  a : Sc → List Expr → A.A
  n : Sc → Expr → A.A
  l : Sc → Expr → A.A
  q : Sc → Expr → A.I
  i : Sc → Expr → Expr → A.I
  s : Sc → Stmt → A.S
  ss : Sc → List Stmt → A.S

section
variable {A : Alg} (gs : GS) (r : CS A) (sc : Sc)
def isNew : Expr → Bool
  | .List _ _ => true
  | .ListComp _ _ _ _ => true
  | _ => false
def boOf : Operator → Option BO
  | .Add => some .add
  | .Sub => some .sub
  | .Mult => some .mul
  | .Mod => some .mod
  | .Pow => some .pow
  | .FloorDiv => some .fdiv
  | _ => none
def cName (A : Alg) (x : Str) : A.E := match idx x sc.N with
  | some i => cnd (isVis sc x) (cnd (eqS x "__debug__") A.eBad (cnd (eqS x "__classdict__") A.eBad (A.eVar i))) (cGlob x)
  | none => cGlob x
where cGlob (x : Str) : A.E := cnd (isGlob sc x) (match look x gs.roles with
    | some (.ci i) => A.eC (.int i)
    | _ => A.eBad) A.eBad
def cConst (A : Alg) : Const → A.E
  | .none => A.eC .non
  | .bool b => A.eC (.bl b)
  | .int i => A.eC (.int i)
  | .str x => A.eC (.str x)
  | _ => A.eBad
def cCmp (a : Expr) (ops : List CmpOp) (bs : List Expr) : A.E := match ops with
  | [op] => match bs with
    | [b] => match coOf op with
      | some o => cnd (behindInMarks op b) A.eBad (A.eCmp o (r.e sc a) (r.e sc b))
      | none => A.eBad
    | _ => A.eBad
  | [op, op'] => match bs with
    | [b, d] => match coOf op with
      | some o => match coOf op' with
        | some o' => cnd (behindInMarks op b) A.eBad (cnd (behindInMarks op' d) A.eBad (A.eChain o o' (r.e sc a) (r.e sc b) (r.e sc d)))
        | none => A.eBad
      | none => A.eBad
    | _ => A.eBad
  | _ => A.eBad
def isCmp1 (ops : List CmpOp) (bs : List Expr) : Bool := match ops with
  | [op] => match bs with
    | [b] => match coOf op with
      | some _ => bnot (behindInMarks op b)
      | none => false
    | _ => false
  | [op, op'] => match bs with
    | [b, d] => match coOf op with
      | some _ => match coOf op' with
        | some _ => cnd (behindInMarks op b) false (bnot (behindInMarks op' d))
        | none => false
      | none => false
    | _ => false
  | _ => false
def cOpt (o : Option Expr) : A.O := match o with
  | none => A.oNone
  | some e => A.oSome (r.e sc e)
def cIs (a b : Expr) : A.E := match b with
  | .Name y _ => cnd (isGlob sc y) (match look y gs.roles with
    | some (.cl c) => match lookC c gs.iss with
      | some tab => A.eIs (.own c) tab (r.e sc a)
      | none => A.eBad
    | some (.bt b) => match btIs b with
      | some kd => A.eIs kd (isTab gs) (r.e sc a)
      | none => A.eBad
    | _ => A.eBad) A.eBad
  | _ => A.eBad
/-- the inner of sorted(set(a)) -/
def setArg (e : Expr) : Option Expr := match e with
  | .Call f args kws _ => match f with
    | .Name y _ => match args with
      | [a] => match kws with
        | [] => cnd (isGlob sc y) (match look y gs.roles with
          | some (.bt .set) => some a
          | _ => none) none
        | _ => none
      | _ => none
    | _ => none
  | _ => none
def cBt1 (b : Bt) (a : Expr) : A.E := match b with
  | .max => A.eMaxL (r.l sc a)
  | .min => A.eMinL (r.l sc a)
  | .abs => A.eAbs (r.a sc [a])
  | .len => A.eLen (lensOf gs) (r.e sc a)
  | .int => A.eInt (r.a sc [a])
  | .all => A.eAll (r.l sc a)
  | .any => A.eAny (r.l sc a)
  | .sum => A.eSum (r.l sc a)
  | .tuple => A.eTupL (r.l sc a)
  | .list => A.eListL (r.l sc a)
  | .dict => A.eDict (r.a sc [a])
  | .sorted => match setArg gs sc a with
    | some x => cnd (notStar x) (A.eSS (r.e sc x)) A.eBad
    | none => A.eBad
  | _ => A.eBad
def cBt2 (b : Bt) (a d : Expr) : A.E := match b with
  | .max => A.eMax2 (r.a sc [a, d])
  | .min => A.eMin2 (r.a sc [a, d])
  | .isinstance => cIs gs r sc a d
  | _ => A.eBad
def cFn (x : Str) (args : List Expr) : A.E := cnd (isGlob sc x) (match look x gs.roles with
  | some (.fn f) => match args with
    | [] => A.eCall f A.aNil
    | e :: es => cnd (noStars (e :: es)) (A.eCall f (r.a sc (e :: es))) A.eBad
  | some (.cl c) => match args with
    | [] => A.eBad
    | e :: es => match lookC c gs.inits with
      | some (f, n) => cnd (noStars (e :: es)) (A.eMake c f n (r.a sc (e :: es))) A.eBad
      | none => A.eBad
  | some (.bt b) => match args with
    | [a] => cnd (notStar a) (cBt1 gs r sc b a) A.eBad
    | [a, d] => cnd (noStars [a, d]) (cBt2 gs r sc b a d) A.eBad
    | _ => A.eBad
  | _ => A.eBad) A.eBad
/-- methods of built-in types -/
def cBm (a : Expr) (m : Str) (args : List Expr) : A.E := match args with
  | [] => cnd (eqS m "clear") (A.eClrD (r.e sc a)) A.eBad
  | [b] => cnd (notStar b) (cnd (eqS m "append") (A.eApp (r.e sc a) (r.e sc b)) (cnd (eqS m "extend") (A.eExt (r.e sc a) (r.e sc b)) (cnd (eqS m "get") (A.eGet1 (r.e sc a) (r.e sc b)) A.eBad))) A.eBad
  | [b, d] => cnd (notStar b) (cnd (notStar d) (cnd (eqS m "get") (A.eGet2 (r.e sc a) (r.e sc b) (r.e sc d)) A.eBad) A.eBad) A.eBad
  | _ => A.eBad
def cMeth (a : Expr) (m : Str) (args : List Expr) (apos pos : Pos) : A.E := cnd (plainBase a) (cnd (apos.endLine == pos.line) (match look m gs.meths with
  | some tab => match args with
    | [] => A.eMeth tab (r.e sc a) A.aNil
    | e :: es => cnd (noStars (e :: es)) (cnd (Nat.blt (e :: es).length 30) (A.eMeth tab (r.e sc a) (r.a sc (e :: es))) A.eBad) A.eBad
  | none => cBm r sc a m args) A.eBad) A.eBad
def cTs (ifs : List Expr) : A.T := match ifs with
  | [] => A.tYes
  | [c] => r.t sc c
  | _ => A.tBad
/-- the names that are a comprehension's own, with their slots -/
def isOwnK : NameKind → Bool
  | .local => true
  | .cell => true
  | _ => false
def ownOf (N : List Str) : List (Str × NameKind) → List (Str × Nat)
  | [] => []
  | (x, k) :: rest => match isOwnK k with
    | true => match idx x N with
      | some i => (x, i) :: ownOf N rest
      | none => ownOf N rest
    | false => ownOf N rest
def lcOk (scope : Scope) (iter : Expr) (g : Tg) : Bool := cnd (L2.blkC sc.N sc.scope scope (ownOf sc.N scope.names)) (cnd (notSet iter) (subsetB (tgIdx g) ((ownOf sc.N scope.names).map (·.2))) false) false
def cDc (kx vx : Expr) (gens : List Comprehension) (scope : Scope) : A.E := match gens with
  | [g] => match tgC (blkSc sc scope) g.target with
    | some tg => cnd (ieq g.is_async 0) (cnd (lcOk sc scope g.iter tg) (A.dC1 ((ownOf sc.N scope.names).map (·.2)) (r.i sc g.target g.iter) tg (cTs r (blkSc sc scope) g.ifs) (r.e (blkSc sc scope) kx) (r.e (blkSc sc scope) vx)) A.eBad) A.eBad
    | none => A.eBad
  | _ => A.eBad
def cE (e : Expr) : A.E := match e with
  | .Name x _ => cName gs sc A x
  | .Constant c _ _ => cConst A c
  | .BinOp a op b _ => match boOf op with
    | some o => A.eBin o (r.e sc a) (r.e sc b)
    | none => A.eBad
  | .UnaryOp op a _ => match op with
    | .Not => A.eNot (r.e sc a)
    | .USub => match a with
      | .Constant c _ _ => match c with
        | .int i => A.eC (.int (-i))
        | _ => A.eBad
      | _ => A.eBad
    | _ => A.eBad
  | .BoolOp op es pos => match es with
    | [] => A.eBad
    | [a] => r.e sc a
    | a :: b :: rest => match op with
      | .And => A.eAnd (r.e sc a) (r.e sc (.BoolOp .And (b :: rest) pos))
      | .Or => A.eOr (r.e sc a) (r.e sc (.BoolOp .Or (b :: rest) pos))
  | .Compare a ops bs _ => cCmp r sc a ops bs
  | .IfExp c a b _ => A.eIf (r.t sc c) (r.e sc a) (r.e sc b)
  | .Tuple es _ _ => A.eTup (r.a sc es)
  | .List es pos => A.eNew (r.n sc (.List es pos))
  | .ListComp x g s pos => A.eNew (r.n sc (.ListComp x g s pos))
  | .Dict ks _ _ => match ks with
    | [] => match e with
      | .Dict [] [] _ => A.eDic0
      | _ => A.eBad
    | _ => A.eBad
  | .DictComp kx vx g s _ => cDc r sc kx vx g s
  | .Subscript a b _ => match b with
    | .Slice lo hi st _ => match st with
      | none => A.eSl (r.e sc a) (cOpt r sc lo) (cOpt r sc hi)
      | some _ => A.eBad
    | b => A.eSub (r.e sc a) (r.e sc b)
  | .Attribute a f _ => match look f gs.atts with
    | some tab => cnd (plainBase a) (A.eFld tab (r.e sc a)) A.eBad
    | none => A.eBad
  | .Call f args kws pos => match kws with
    | [] => match f with
      | .Name x _ => cFn gs r sc x args
      | .Attribute a m apos => cMeth gs r sc a m args apos pos
      | _ => A.eBad
    | _ => A.eBad
  | _ => A.eBad
/-- a test that is a value's truth -/
def plainT : Expr → Bool
  | .Name _ _ => true
  | .Call _ _ _ _ => true
  | .Attribute _ _ _ => true
  | .Subscript _ _ _ => true
  | _ => false
def cW (op : BoolOp) : List Expr → A.T
  | [] => A.tBad
  | [a] => r.t sc a
  | a :: b :: rest => match op with
    | .And => A.tAnd (r.t sc a) (cW op (b :: rest))
    | .Or => A.tOr (r.t sc a) (cW op (b :: rest))
def cT (e : Expr) : A.T := match e with
  | .Compare a ops bs _ => cnd (isCmp1 ops bs) (A.tE (cCmp r sc a ops bs)) A.tBad
  | .UnaryOp op a _ => match op with
    | .Not => A.tNot (r.t sc a)
    | _ => A.tBad
  | .BoolOp op es _ => cW r sc op es
  | e => cnd (plainT e) (A.tE (r.e sc e)) A.tBad
def cA (es : List Expr) : A.A := match es with
  | [] => A.aNil
  | e :: es => match e with
    | .Starred x _ => A.aStar (r.e sc x) (r.a sc es)
    | e => cnd (notStar e) (A.aCons (r.e sc e) (r.a sc es)) A.aBad
def cLc (elt : Expr) (gens : List Comprehension) (scope : Scope) : A.A := match gens with
  | [g] => match tgC (blkSc sc scope) g.target with
    | some tg => cnd (ieq g.is_async 0) (cnd (lcOk sc scope g.iter tg) (A.lC1 ((ownOf sc.N scope.names).map (·.2)) (r.i sc g.target g.iter) tg (cTs r (blkSc sc scope) g.ifs) (r.e (blkSc sc scope) elt)) A.aBad) A.aBad
    | none => A.aBad
  | [g, g1] => match tgC (blkSc sc scope) g.target with
    | some tg => match tgC (blkSc sc scope) g1.target with
      | some tg1 => cnd (ieq g.is_async 0) (cnd (ieq g1.is_async 0) (cnd (lcOk sc scope g.iter tg) (cnd (lcOk sc scope g1.iter tg1) (A.lC2 ((ownOf sc.N scope.names).map (·.2)) (tgIdx tg1) (r.i sc g.target g.iter) tg (cTs r (blkSc sc scope) g.ifs)
          (r.i (blkSc sc scope) g1.target g1.iter) tg1 (cTs r (blkSc sc scope) g1.ifs) (r.e (blkSc sc scope) elt)) A.aBad) A.aBad) A.aBad) A.aBad
      | none => A.aBad
    | none => A.aBad
  | _ => A.aBad
def cN (e : Expr) : A.A := match e with
  | .List es _ => A.lNew (r.a sc es)
  | .ListComp elt gens scope _ => cLc r sc elt gens scope
  | _ => A.aBad
def cL (e : Expr) : A.A := cnd (isNew e) (r.n sc e) (A.lOf (r.e sc e))
def cQ (e : Expr) : A.I := cnd (isNew e) (A.iNew (r.n sc e)) (A.iOf (r.e sc e))
def isTupT : Expr → Bool
  | .Tuple _ _ _ => true
  | _ => false
/-- the built-in that is called by name -/
def btCall (e : Expr) : Option (Bt × List Expr) := match e with
  | .Call f args kws _ => match f with
    | .Name x _ => match kws with
      | [] => cnd (isGlob sc x) (match look x gs.roles with
        | some (.bt b) => some (b, args)
        | _ => none) none
      | _ => none
    | _ => none
  | _ => none
/-- what is walked, not by a built-in -/
def cI0 (tg e : Expr) : A.I := match e with
  | .Call f args kws pos => match f with
    | .Attribute a m apos => match args with
      | [] => match kws with
        | [] => cnd (plainBase a) (cnd (apos.endLine == pos.line) (cnd (eqS m "items") (cnd (isTupT tg) (A.iItems (r.e sc a)) (r.q sc e)) (cnd (eqS m "values") (A.iVals (r.e sc a)) (A.iAny (r.e sc e)))) (r.q sc e)) (r.q sc e)
        | _ => r.q sc e
      | _ => A.iAny (r.e sc e)
    | _ => A.iAny (r.e sc e)
  | e => cnd (isNew e) (r.q sc e) (A.iAny (r.e sc e))
def cI (tg e : Expr) : A.I := match btCall gs sc e with
  | some (b, args) => match b with
    | .range => match args with
      | [a] => cnd (notStar a) (A.iR1 (r.e sc a)) (r.q sc e)
      | [a, b] => cnd (noStars [a, b]) (A.iR2 (r.e sc a) (r.e sc b)) (r.q sc e)
      | [a, b, d] => cnd (noStars [a, b, d]) (A.iR3 (r.e sc a) (r.e sc b) (r.e sc d)) (r.q sc e)
      | _ => r.q sc e
    | .enumerate => match args with
      | [a] => cnd (isTupT tg) (cnd (notStar a) (A.iEnum (r.q sc a)) (r.q sc e)) (r.q sc e)
      | _ => r.q sc e
    | .zip => match args with
      | [a, b] => cnd (isTupT tg) (cnd (noStars [a, b]) (A.iZip (r.q sc a) (r.q sc b)) (r.q sc e)) (r.q sc e)
      | _ => r.q sc e
    | _ => r.q sc e
  | none => cI0 r sc tg e
/-! statements -/
def lcScope : Expr → Option Scope
  | .ListComp _ _ s _ => some s
  | .SetComp _ _ s _ => some s
  | .DictComp _ _ _ s _ => some s
  | _ => none
/-- is the comprehension's value stored within -/
def swB (v : Expr) (y : Str) (py : Pos) : Bool := match lcScope v with
  | none => false
  | some s => (bkOf sc.scope == .function) && (sc.scope.names.lookup y == some .local) && (py.line == v.pos.line) && !(s.names.any fun (n, k) => n == y && (k == .local || k == .cell))
def isFn (s : Scope) : Bool := match s.kind with
  | .function => true
  | _ => false
def cAsgN (y : Str) (py : Pos) (v : Expr) : A.S := match slotOf sc y with
  | none => A.sBad
  | some i => match v with
    | .ListComp elt gens scope _ => cnd (swB sc v y py) (cnd (isFn sc.scope) (A.sAsg (A.eNew (cLc r sc elt gens scope)) (.nm i)) A.sBad) (A.sAsg (r.e sc v) (.nm i))
    | .DictComp kx vx gens scope _ => cnd (swB sc v y py) (cnd (isFn sc.scope) (A.sAsg (cDc r sc kx vx gens scope) (.nm i)) A.sBad) (A.sAsg (r.e sc v) (.nm i))
    | v => cnd (notComp v) (A.sAsg (r.e sc v) (.nm i)) A.sBad
def nodupB : List Nat → Bool
  | [] => true
  | x :: xs => match memb x xs with | true => false | false => nodupB xs
def cAsgT (tg v : Expr) : A.S := match tgC sc tg with
  | none => A.sBad
  | some g => match swO sc.scope tg v with
    | none => A.sBad
    | some none => A.sAsg (r.e sc v) g
    | some (some _) => match v with
      | .Tuple vs _ _ => match g with
        | .un is => cnd (nodupB is) (A.sAsg (A.eTup (r.a sc vs)) g) A.sBad
        | _ => A.sBad
      | _ => A.sBad
def slotTab (tab : List (Nat × At)) : List (Nat × Nat) := tab.filterMap fun q => match q.2 with
  | .slot i => some (q.1, i)
  | _ => none
def cS (st : Stmt) : A.S := match st with
  | .Expr e _ => cnd (notComp e) (A.sExpr (r.e sc e)) A.sBad
  | .Return (some e) _ => A.sRet (r.e sc e)
  | .If t x y _ => A.sIf (r.t sc t) (r.ss sc x) (r.ss sc y)
  | .Assign tgs v _ => match tgs with
    | [tg] => match tg with
      | .Name y py => cAsgN r sc y py v
      | .Tuple es k pos => cAsgT r sc (.Tuple es k pos) v
      | .Subscript c e _ => cnd (plainIx e) (A.sSetI (r.e sc c) (r.e sc e) (r.e sc v)) A.sBad
      | .Attribute o f _ => match look f gs.atts with
        | some tab => A.sSlot (slotTab tab) (r.e sc o) (r.e sc v)
        | none => A.sBad
      | _ => A.sBad
    | _ => A.sBad
  | .AugAssign tg op v _ => match tg with
    | .Name y _ => match slotOf sc y with
      | some i => match boOf op with
        | some o => cnd (augF o).isSome (A.sAug i o (r.e sc v)) A.sBad
        | none => A.sBad
      | none => A.sBad
    | _ => A.sBad
  | .For tg it body oe _ => match oe with
    | [] => match tgC sc tg with
      | some g => cnd (notSet it) (A.sFor (r.i sc tg it) g (r.ss sc body)) A.sBad
      | none => A.sBad
    | _ => A.sBad
  | .Pass _ => A.sNil
  | _ => A.sBad
def cSs (sts : List Stmt) : A.S := match sts with
  | [] => A.sNil
  | [s] => r.s sc s
  | s :: rest => A.sSeq (r.s sc s) (r.ss sc rest)
end
def step {A : Alg} (gs : GS) (r : CS A) : CS A where
  e := cE gs r
  t := cT r
  a := cA r
  n := cN r
  l := cL r
  q := cQ r
  i := cI gs r
  s := cS gs r
  ss := cSs r
def badCS (A : Alg) : CS A where
  e := fun _ _ => A.eBad
  t := fun _ _ => A.tBad
  a := fun _ _ => A.aBad
  n := fun _ _ => A.aBad
  l := fun _ _ => A.aBad
  q := fun _ _ => A.iOf A.eBad
  i := fun _ _ _ => A.iOf A.eBad
  s := fun _ _ => A.sBad
  ss := fun _ _ => A.sBad
def lev (A : Alg) (gs : GS) : Nat → CS A
  | 0 => badCS A
  | n + 1 => step gs (lev A gs n)

/-! ### the pieces -/
def eBad : XE := fun _ _ _ => .bad
def aBad : XA := fun _ _ _ => .bad
def tBad : XT := fun _ _ _ => .bad
@[reducible] def evA : Alg where
  E := XE
  A := XA
  T := XT
  S := XS
  I := XI
  O := Calls → Env → Mem → Res (Option Int)
  G := XG
  eBad := eBad
  eVar := eVar
  eC := eC
  eBin := eBin
  eCmp := eCmp
  eChain := eChain
  eAnd := eAnd
  eOr := eOr
  eNot := eNot
  eIf := eIf
  eTup := eTup
  eNew := eNew
  eSub := eSub
  eSl := eSl
  oNone := oNone
  oSome := oSome
  eFld := eFld
  eCall := eCall
  eMeth := eMeth
  eMake := eMake
  eLen := eLen
  eIs := eIs
  eAll := eAll
  eAny := eAny
  eMax2 := eB gMax2
  eMin2 := eB gMin2
  eMaxL := eB gMaxL
  eMinL := eB gMinL
  eSum := eB gSum
  eInt := eB gInt
  eAbs := eB gAbs
  eTupL := eB gTupL
  eListL := eB gListL
  eSS := eSS
  eApp := eApp
  eDic0 := eDic0
  eDict := eB gDict
  eGet1 := eGet1
  eGet2 := eGet2
  eClrD := eClrD
  eExt := eExt
  dC1 := dC1
  aStar := aStar
  iAny := iAny
  iItems := iItems
  iVals := iVals
  aBad := aBad
  aNil := aNil
  aCons := aCons
  lNew := lNew
  lOf := lOf
  lC1 := lC1
  lC2 := lC2
  tBad := tBad
  tE := tE
  tAnd := tAnd
  tOr := tOr
  tNot := tNot
  tYes := tYes
  iOf := iOf
  iNew := iNew
  iR1 := iR1
  iR2 := iR2
  iR3 := iR3
  iEnum := iEnum
  iZip := iZip
  sBad := sBad
  sNil := sNil
  sSeq := sSeq
  sExpr := sExpr
  sRet := sRet
  sIf := sIf
  sAsg := fun e g => sAsg e (tgG g)
  sAug := sAug
  sSetI := sSetI
  sSlot := sSlot
  sFor := fun i g b => sFor i (tgG g) b
end Ev
end

section
set_option Elab.async false
set_option linter.all false
set_option maxRecDepth 100000
/-! Ev: the compiler is right. -/
namespace Ev
open PySem PySem.Spec PyProof.Rows L2

theorem eqL_iff : ∀ {x y : List Nat}, eqL x y = true ↔ x = y
  | [], [] => by simp [eqL]
  | [], _ :: _ => by simp [eqL]
  | _ :: _, [] => by simp [eqL]
  | a :: x, b :: y => by
    unfold eqL
    cases e : Nat.beq a b with
    | true =>
      have := Nat.eq_of_beq_eq_true e
      subst this
      simp [eqL_iff (x := x) (y := y)]
    | false =>
      have := Nat.ne_of_beq_eq_false e
      simp [this]
theorem eqS_iff {x y : Str} : eqS x y = true ↔ x = y := by
  unfold eqS
  rw [eqL_iff]
  constructor
  · intro h
    cases x
    cases y
    have h := Array.ext' h
    simp only at h
    rw [h]
  · intro h; rw [h]
theorem eqS_ff {x y : Str} (h : eqS x y = false) : x ≠ y := fun e => by
  rw [eqS_iff.mpr e] at h; cases h
theorem look_mem {α : Type} {x : Str} {a : α} : ∀ {l : List (Str × α)}, look x l = some a → (x, a) ∈ l
  | [], h => by cases h
  | (y, b) :: r, h => by
    unfold look at h
    cases e : eqS y x with
    | true =>
      rw [e] at h
      cases h
      rw [eqS_iff.mp e]
      exact List.mem_cons_self
    | false =>
      rw [e] at h
      exact List.mem_cons_of_mem _ (look_mem h)
theorem look_lookup {x : Str} {k : NameKind} : ∀ {l : List (Str × NameKind)}, look x l = some k → l.lookup x = some k
  | [], h => by cases h
  | (y, b) :: r, h => by
    unfold look at h
    rw [List.lookup_cons]
    cases e : eqS y x with
    | true =>
      rw [e] at h
      have := eqS_iff.mp e
      subst this
      simpa using h
    | false =>
      rw [e] at h
      have : (x == y) = false := by
        have := eqS_ff e
        simpa using Ne.symm this
      rw [this]
      exact look_lookup h
theorem idx_get {x : Str} : ∀ {N : List Str} {i : Nat}, idx x N = some i → N[i]? = some x
  | [], _, h => by cases h
  | y :: r, i, h => by
    unfold idx at h
    cases e : eqS y x with
    | true =>
      rw [e] at h
      cases h
      rw [eqS_iff.mp e]
      rfl
    | false =>
      rw [e] at h
      cases q : idx x r with
      | none => rw [q] at h; cases h
      | some j =>
        rw [q] at h
        cases h
        simpa using idx_get q
theorem dbg_of {x : Str} (h : bnot (eqS x "__debug__") = true) : (x == ("__debug__" : Str)) = false := by
  cases e : eqS x "__debug__" with
  | true => rw [e] at h; cases h
  | false => simpa using eqS_ff e
theorem isGlob_ok {sc : Sc} {x : Str} (h : isGlob sc x = true) : sc.scope.names.lookup x = some .globalImplicit ∧ (x == ("__debug__" : Str)) = false := by
  unfold isGlob at h
  split at h
  · rename_i e
    exact ⟨look_lookup e, dbg_of h⟩
  · cases h
theorem isVis_ok {sc : Sc} {x : Str} (h : isVis sc x = true) : Vis sc.scope x := by
  unfold isVis at h
  split at h
  · rename_i e; exact .inl (look_lookup e)
  · rename_i e; exact .inr (.inl (look_lookup e))
  · rename_i e; exact .inr (.inr (look_lookup e))
  · cases h
theorem slotOf_ok {sc : Sc} {x : Str} {i : Nat} (h : slotOf sc x = some i) : sc.N[i]? = some x ∧ Loc sc.scope x ∧ (sc.fn x = true ∨ sc.scope.names.lookup x = some .local) := by
  unfold slotOf at h
  cases e : idx x sc.N with
  | none => rw [e] at h; cases h
  | some j =>
    rw [e] at h
    simp only at h
    split at h
    · rename_i q
      cases h
      exact ⟨idx_get e, .inl (look_lookup q), .inr (look_lookup q)⟩
    · rename_i q
      cases ef : sc.fn x with
      | false => rw [ef] at h; cases h
      | true =>
        rw [ef] at h
        cases h
        exact ⟨idx_get e, .inr (look_lookup q), .inl rfl⟩
    · cases h
theorem slotsOf_ok {sc : Sc} : ∀ {es : List Expr} {is : List Nat}, slotsOf sc es = some is → NamesAt sc es is
  | [], is, h => by cases h; trivial
  | e :: es, is, h => by
    cases e <;> first | (cases h; done) | skip
    rename_i x pos
    unfold slotsOf at h
    cases e1 : slotOf sc x with
    | none => rw [e1] at h; cases h
    | some i =>
      rw [e1] at h
      cases e2 : slotsOf sc es with
      | none => simp only [e2] at h; cases h
      | some js =>
        simp only [e2] at h
        cases h
        obtain ⟨h1, h2, h3⟩ := slotOf_ok e1
        exact ⟨h1, h2, h3, slotsOf_ok e2⟩
theorem tgC_ok {sc : Sc} {e : Expr} {g : Tg} (h : tgC sc e = some g) : TgOk sc e g := by
  cases e <;> first | (cases h; done) | skip
  · rename_i x pos
    have h : (slotOf sc x).map Tg.nm = some g := h
    cases e1 : slotOf sc x with
    | none => rw [e1] at h; cases h
    | some i =>
      rw [e1] at h
      cases h
      obtain ⟨h1, h2, h3⟩ := slotOf_ok e1
      exact ⟨x, pos, rfl, h1, h2, h3⟩
  · rename_i es k pos
    have h : (slotsOf sc es).map Tg.un = some g := h
    cases e1 : slotsOf sc es with
    | none => rw [e1] at h; cases h
    | some is =>
      rw [e1] at h
      cases h
      exact ⟨es, k, pos, rfl, slotsOf_ok e1⟩
theorem subsetB_ok : ∀ {is js : List Nat}, subsetB is js = true → ∀ i ∈ is, i ∈ js
  | [], _, _ => fun i h => by cases h
  | i :: r, js, h => by
    unfold subsetB at h
    cases e : memb i js with
    | false => rw [e] at h; cases h
    | true =>
      rw [e] at h
      intro j hj
      rcases List.mem_cons.mp hj with z | z
      · rw [z]; exact memb_iff.mp e
      · exact subsetB_ok h j z
theorem tgIn_of {own : List Nat} {g : Tg} (h : ∀ i ∈ tgIdx g, i ∈ own) : tgIn own g := by
  cases g with
  | nm i => exact h i List.mem_cons_self
  | un is => exact h
theorem nodupB_ok : ∀ {is : List Nat}, nodupB is = true → is.Nodup
  | [], _ => .nil
  | x :: xs, h => by
    unfold nodupB at h
    cases e : memb x xs with
    | true => rw [e] at h; cases h
    | false =>
      rw [e] at h
      exact List.nodup_cons.mpr ⟨fun z => (by rw [memb_iff.mpr z] at e; cases e), nodupB_ok h⟩
theorem cnd_rec {α : Sort u} {P : α → Prop} {b : Bool} {x y : α} (h1 : b = true → P x) (h2 : P y) : P (cnd b x y) := by
  cases b with
  | true => exact h1 rfl
  | false => exact h2

/-! ### the tables as a GT -/
def gtOf (gs : GS) (tab : List Fd) : GT where
  tab := tab
  fns := gs.roles.filterMap fun r => match r.2 with | .fn f => some (r.1, f) | _ => none
  cls := gs.roles.filterMap fun r => match r.2 with | .cl c => some (r.1, c) | _ => none
  slots := gs.atts.flatMap fun a => a.2.filterMap fun q => match q.2 with | .slot i => some (q.1, a.1, i) | _ => none
  props := gs.atts.flatMap fun a => a.2.filterMap fun q => match q.2 with | .prop f => some (q.1, a.1, f) | _ => none
  meths := gs.meths.flatMap fun a => a.2.map fun q => (q.1, a.1, q.2)
  inits := gs.inits
  cints := gs.roles.filterMap fun r => match r.2 with | .ci i => some (r.1, i) | _ => none
  isis := gs.iss.flatMap fun a => a.2.map fun q => (q.1, a.1, q.2)
  free := gs.roles.filterMap fun r => match r.2 with | .bt _ => some r.1 | _ => none
structure GsOk (gs : GS) (tab : List Fd) : Prop where
  fn : ∀ x f, (x, Rl.fn f) ∈ gs.roles → (nthF tab f).isSome = true
  bt : ∀ x b, (x, Rl.bt b) ∈ gs.roles → x = btName b
section
variable {gs : GS} {tab : List Fd} {p : Pl} {sc : Sc} {pos : Pos}
theorem att_ok {f : Str} {t : List (Nat × At)} (h : look f gs.atts = some t) : AttOk (gtOf gs tab) f t := fun k a ha => by
  have hm := look_mem h
  cases a with
  | slot i => exact List.mem_flatMap.mpr ⟨_, hm, List.mem_filterMap.mpr ⟨_, ha, rfl⟩⟩
  | prop g => exact List.mem_flatMap.mpr ⟨_, hm, List.mem_filterMap.mpr ⟨_, ha, rfl⟩⟩
theorem slot_ok {f : Str} {t : List (Nat × At)} (h : look f gs.atts = some t) : SlotOk (gtOf gs tab) f (slotTab t) := fun k i ha => by
  have hm := look_mem h
  obtain ⟨q, hq, e⟩ := List.mem_filterMap.mp ha
  obtain ⟨c, a⟩ := q
  cases a with
  | slot j =>
    cases e
    exact List.mem_flatMap.mpr ⟨_, hm, List.mem_filterMap.mpr ⟨_, hq, rfl⟩⟩
  | prop g => cases e
theorem meth_ok {m : Str} {t : List (Nat × Nat)} (h : look m gs.meths = some t) : MethOk (gtOf gs tab) m t := fun k f ha =>
  List.mem_flatMap.mpr ⟨_, look_mem h, List.mem_map.mpr ⟨_, ha, rfl⟩⟩
theorem lens_ok : MethOk (gtOf gs tab) ("__len__" : Str) (lensOf gs) := fun k f ha => by
  unfold lensOf at ha
  cases e : look "__len__" gs.meths with
  | none => rw [e] at ha; cases ha
  | some t =>
    rw [e] at ha
    exact meth_ok (tab := tab) e k f ha
theorem is_own {c : Nat} {t : List (Nat × Bool)} (h : lookC c gs.iss = some t) : IsOk (gtOf gs tab) (.own c) t := fun j b ha =>
  List.mem_flatMap.mpr ⟨_, lookC_mem h, List.mem_map.mpr ⟨_, ha, rfl⟩⟩
theorem is_bt {kd : IsK} (hk : ∀ i, kd ≠ .own i) : IsOk (gtOf gs tab) kd (isTab gs) := fun j b ha => by
  have key : b = false ∧ ∃ x, (x, j) ∈ (gtOf gs tab).cls := by
    obtain ⟨q, hq, e⟩ := List.mem_filterMap.mp ha
    obtain ⟨x, r⟩ := q
    cases r <;> first | (cases e; done) | skip
    cases e
    exact ⟨rfl, x, List.mem_filterMap.mpr ⟨_, hq, rfl⟩⟩
  cases kd <;> first | exact key | exact absurd rfl (hk _)
theorem fn_mem {x : Str} {f : Nat} (h : look x gs.roles = some (.fn f)) : (x, f) ∈ (gtOf gs tab).fns := List.mem_filterMap.mpr ⟨_, look_mem h, rfl⟩
theorem cl_mem {x : Str} {f : Nat} (h : look x gs.roles = some (.cl f)) : (x, f) ∈ (gtOf gs tab).cls := List.mem_filterMap.mpr ⟨_, look_mem h, rfl⟩
theorem ci_mem {x : Str} {f : Int} (h : look x gs.roles = some (.ci f)) : (x, f) ∈ (gtOf gs tab).cints := List.mem_filterMap.mpr ⟨_, look_mem h, rfl⟩
theorem bt_mem {x : Str} {b : Bt} (h : look x gs.roles = some (.bt b)) : x ∈ (gtOf gs tab).free := List.mem_filterMap.mpr ⟨_, look_mem h, rfl⟩

/-! ### what is not served -/
variable {G : GT}
theorem se_bad {e : Expr} : SE G p sc e eBad := fun k W X cx => ⟨fun pins s σ H Q I ⟨_, _, _, _, _, hp⟩ => hp.elim⟩
theorem st_bad {e : Expr} : ST G p sc e tBad := fun k W X cx => ⟨fun pins s σ H Q I ⟨_, _, _, _, _, hp⟩ => hp.elim⟩
theorem sa_bad {e : List Expr} : SA G p sc e aBad := fun k W X cx => ⟨fun pos pins s σ H Q I ⟨_, _, _, _, _, hp⟩ => hp.elim⟩
theorem sn_bad {e : Expr} : SN G p sc e aBad := fun k W X cx => ⟨fun pins s σ H Q I ⟨_, _, _, _, _, hp⟩ => hp.elim⟩
theorem sl_bad {e : Expr} : SL G p sc e aBad := fun k W X cx => ⟨fun pins s σ H Q I ⟨_, _, _, _, _, hp⟩ => hp.elim⟩
theorem si_bad {tg e : Expr} : SI G p sc tg e (iOf eBad) := fun k W X cx => ⟨fun pins s σ H Q I ⟨_, _, _, _, _, hp⟩ => hp.elim⟩
theorem sss_bad {e : List Stmt} : SSs G p sc e sBad := fun k W X cx => ⟨fun pins s σ H Q I ⟨_, _, _, _, _, hp⟩ => hp.elim⟩
theorem sts_bad {e : List Expr} : STs G p sc e tBad := fun k W X cx => ⟨fun pins s σ H Q I ⟨_, _, _, _, _, hp⟩ => hp.elim⟩

structure Good (G : GT) (p : Pl) (r : CS evA) : Prop where
  e : ∀ sc x, SE G p sc x (r.e sc x)
  t : ∀ sc x, ST G p sc x (r.t sc x)
  a : ∀ sc x, SA G p sc x (r.a sc x)
  n : ∀ sc x, SN G p sc x (r.n sc x)
  l : ∀ sc x, SL G p sc x (r.l sc x)
  q : ∀ sc x, SQ G p sc x (r.q sc x)
  i : ∀ sc tg x, SI G p sc tg x (r.i sc tg x)
  s : ∀ sc x, SS G p sc x (r.s sc x)
  ss : ∀ sc x, SSs G p sc x (r.ss sc x)
theorem good_bad : Good G p (badCS evA) where
  e := fun _ _ => se_bad
  t := fun _ _ => st_bad
  a := fun _ _ => sa_bad
  n := fun _ _ => sn_bad
  l := fun _ _ => sl_bad
  q := fun _ _ => sq_of se_bad
  i := fun _ _ _ => si_bad
  s := fun _ _ => ss_bad
  ss := fun _ _ => sss_bad

/-! ### expressions -/
theorem glob_ok {x : Str} {b : Bool} (h : isGlob sc x = true) : SE (gtOf gs tab) p sc (.Name x pos) (match look x gs.roles with
    | some (.ci i) => eC (.int i)
    | _ => eBad) := by
  obtain ⟨h1, h2⟩ := isGlob_ok h
  cases e : look x gs.roles with
  | none => exact se_bad
  | some r => cases r <;> first | exact se_bad | exact se_gint h1 (ci_mem e) h2
theorem name_ok {x : Str} : SE (gtOf gs tab) p sc (.Name x pos) (cName gs sc evA x) := by
  have gl : SE (gtOf gs tab) p sc (.Name x pos) (cName.cGlob gs sc evA x) := cnd_rec (fun h => glob_ok (b := true) h) se_bad
  unfold cName
  cases e : idx x sc.N with
  | none => exact gl
  | some i =>
    refine cnd_rec (fun h => ?_) gl
    cases e1 : eqS x "__debug__" with
    | true => exact se_bad
    | false =>
      cases e2 : eqS x "__classdict__" with
      | true => exact se_bad
      | false => exact se_var (idx_get e) (isVis_ok h) (by simpa using eqS_ff e1) (by simpa using eqS_ff e2)
theorem const_ok {c : Const} {j : Nat} : SE G p sc (.Constant c j pos) (cConst evA c) := by
  cases c <;> first | exact se_non | exact se_bl | exact se_int | exact se_str | exact se_bad
theorem pr_ok {v : PV} {h : Mem} : Pure (Res.ok v h) := fun e h' z => by cases z
theorem pr_bad : Pure (Res.bad : Res PV) := fun e h' z => by cases z
theorem pr_cnd {b : Bool} {x y : Res PV} (h1 : Pure x) (h2 : Pure y) : Pure (cnd b x y) := cnd_rec (fun _ => h1) h2
theorem pr_bin (o : BO) (x y : PV) (h : Mem) : Pure (binop o x y h) := by
  cases o with
  | add =>
    unfold binop addV
    cases x <;> cases y <;> first | exact pr_bad | exact pr_ok | exact pr_cnd pr_ok pr_bad | skip
    all_goals (simp only [listOf]; repeat' split)
    all_goals first | exact pr_bad | exact pr_ok | exact pr_cnd pr_ok pr_bad
  | mul =>
    unfold binop mulV
    cases x <;> cases y <;> first | exact pr_bad | exact pr_ok | exact pr_cnd pr_ok (pr_cnd pr_ok pr_bad) | skip
    all_goals (simp only [listOf]; repeat' split)
    all_goals first | exact pr_bad | exact pr_ok | exact pr_cnd (pr_cnd (pr_cnd pr_ok pr_bad) pr_bad) pr_bad
  | sub => cases x <;> cases y <;> first | exact pr_bad | exact pr_ok
  | fdiv => cases x <;> cases y <;> first | exact pr_bad | exact pr_cnd (pr_cnd pr_ok pr_bad) pr_bad
  | mod => cases x <;> cases y <;> first | exact pr_bad | exact pr_cnd pr_ok pr_bad
  | pow => cases x <;> cases y <;> first | exact pr_bad | exact pr_cnd (pr_cnd (pr_cnd pr_ok pr_bad) pr_bad) pr_bad
theorem bin_ok {op : Operator} {o : BO} (e : boOf op = some o) (X : Cx) : OpR X (binaryOp op) (rV2 X.K p (binop o)) := by
  cases op <;> cases e
  · exact add_ok
  · exact sub_ok
  · exact mul_ok
  · exact mod_ok
  · exact pow_ok
  · exact fdiv_ok
variable {r : CS evA}
theorem se_bin {a b : Expr} {op : Operator} {o : BO} {fa fb : XE} (e : boOf op = some o) (ha : SE G p sc a fa) (hb : SE G p sc b fb) : SE G p sc (.BinOp a op b pos) (eBin o fa fb) :=
  se_bin2 (pr_bin o) (bin_ok e) ha hb
theorem cmp_c (g : Good G p r) {a : Expr} {ops : List CmpOp} {bs : List Expr} : SE G p sc (.Compare a ops bs pos) (cCmp r sc a ops bs) := by
  unfold cCmp
  split
  · split
    · split
      · rename_i e
        cases hm : behindInMarks _ _ with
        | true => exact se_bad
        | false => exact se_cmp e (g.e _ _) (g.e _ _) hm
      · exact se_bad
    · exact se_bad
  · split
    · split
      · split
        · rename_i e _ _ e'
          cases hm : behindInMarks _ _ with
          | true => exact se_bad
          | false =>
            cases hm' : behindInMarks _ _ with
            | true => exact se_bad
            | false => exact se_chain e e' (g.e _ _) (g.e _ _) (g.e _ _) hm hm'
        · exact se_bad
      · exact se_bad
    · exact se_bad
  · exact se_bad
theorem cmp_t (g : Good G p r) {a : Expr} {ops : List CmpOp} {bs : List Expr} (h : isCmp1 ops bs = true) : ST G p sc (.Compare a ops bs pos) (tE (cCmp r sc a ops bs)) := by
  unfold isCmp1 at h
  split at h
  · split at h
    · split at h
      · rename_i op _ b _ o e
        rw [bnot_eq] at h
        have hm : behindInMarks op b = false := by simpa using h
        unfold cCmp
        simp only [e, hm, cnd_false]
        exact st_cmp e (g.e _ _) (g.e _ _) hm
      · cases h
    · cases h
  · split at h
    · split at h
      · split at h
        · rename_i op op' _ b d _ o e _ o' e'
          cases hm : behindInMarks op b with
          | true => rw [hm] at h; cases h
          | false =>
            rw [hm] at h
            have h : bnot (behindInMarks op' d) = true := h
            rw [bnot_eq] at h
            have hm' : behindInMarks op' d = false := by simpa using h
            unfold cCmp
            simp only [e, e', hm, hm', cnd_false]
            exact st_chain e e' (g.e _ _) (g.e _ _) (g.e _ _) hm hm'
        · cases h
      · cases h
    · cases h
  · cases h
theorem opt_ok (g : Good G p r) {o : Option Expr} : SO G p sc o (cOpt r sc o) := by
  cases o with
  | none => exact so_none
  | some e => exact so_some (g.e _ _)
theorem boot_is {b : Bt} {kd : IsK} (h : btIs b = some kd) : ∃ n, bootBuiltins (btName b) = some (.type n) ∧ tyN kd = some n ∧ btName b ≠ "__name__" ∧ (∀ i, kd ≠ .own i) := by
  cases b <;> cases h
  · exact ⟨"int", by decide +kernel, rfl, by decide, fun i z => (nomatch z)⟩
  · exact ⟨"bool", by decide +kernel, rfl, by decide, fun i z => (nomatch z)⟩
  · exact ⟨"str", by decide +kernel, rfl, by decide, fun i z => (nomatch z)⟩
  · exact ⟨"tuple", by decide +kernel, rfl, by decide, fun i z => (nomatch z)⟩
  · exact ⟨"list", by decide +kernel, rfl, by decide, fun i z => (nomatch z)⟩
theorem is_c (g : Good (gtOf gs tab) p r) (ok : GsOk gs tab) {a b : Expr} {q : Pos} (hg : sc.scope.names.lookup ("isinstance" : Str) = some .globalImplicit) (hf : ("isinstance" : Str) ∈ (gtOf gs tab).free) (hs : notStar a = true) :
    SE (gtOf gs tab) p sc (.Call (.Name "isinstance" q) [a, b] [] pos) (cIs gs r sc a b) := by
  cases b <;> first | exact se_bad | skip
  rename_i y q2
  refine cnd_rec (fun h => ?_) se_bad
  obtain ⟨h1, h2⟩ := isGlob_ok h
  split
  · rename_i e
    split
    · rename_i e2
      exact se_isC hg hf h1 (cl_mem e) h2 (is_own e2) hs (g.e _ _)
    · exact se_bad
  · rename_i b e
    split
    · rename_i kd e2
      obtain ⟨n, k1, k2, k3, k4⟩ := boot_is e2
      have en := ok.bt _ _ (look_mem e)
      subst en
      exact se_isT hg hf h1 (bt_mem e) k1 k3 h2 k2 (is_bt k4) hs (g.e _ _)
    · exact se_bad
  · exact se_bad
theorem setArg_ok (ok : GsOk gs tab) {e x : Expr} (h : setArg gs sc e = some x) : ∃ q pos2, e = .Call (.Name "set" q) [x] [] pos2 ∧ sc.scope.names.lookup ("set" : Str) = some .globalImplicit ∧ ("set" : Str) ∈ (gtOf gs tab).free := by
  unfold setArg at h
  split at h
  · split at h
    · split at h
      · split at h
        · rename_i y q a _ _
          cases hg : isGlob sc y with
          | false => rw [hg] at h; cases h
          | true =>
            rw [hg] at h
            simp only [cnd_true] at h
            split at h
            · rename_i e
              cases h
              have en := ok.bt _ _ (look_mem e)
              subst en
              exact ⟨_, _, rfl, (isGlob_ok hg).1, bt_mem e⟩
            · cases h
        · cases h
      · cases h
    · cases h
  · cases h
theorem bt1_ok (g : Good (gtOf gs tab) p r) (ok : GsOk gs tab) {b : Bt} {a : Expr} {q : Pos} (hg : sc.scope.names.lookup (btName b) = some .globalImplicit) (hf : btName b ∈ (gtOf gs tab).free) (hs : notStar a = true) :
    SE (gtOf gs tab) p sc (.Call (.Name (btName b) q) [a] [] pos) (cBt1 gs r sc b a) := by
  have hs1 : noStars [a] = true := by unfold noStars; rw [hs]; rfl
  cases b <;> first | exact se_bad | skip
  · exact se_maxL hg hf hs (g.l _ _)
  · exact se_minL hg hf hs (g.l _ _)
  · exact se_abs hg hf hs1 (g.a _ _)
  · exact se_len lens_ok hg hf hs (g.e _ _)
  · exact se_int1 hg hf hs1 (g.a _ _)
  · exact se_tupL hg hf hs (g.l _ _)
  · exact se_listL hg hf hs (g.l _ _)
  · exact se_dict hg hf hs1 (g.a _ _)
  · exact se_all hg hf hs (g.l _ _)
  · exact se_any hg hf hs (g.l _ _)
  · exact se_sum hg hf hs (g.l _ _)
  · unfold cBt1
    simp only
    split
    · rename_i x e
      obtain ⟨q2, pos2, rfl, h1, h2⟩ := setArg_ok ok e
      exact cnd_rec (fun h => se_ss hg hf h1 h2 h (g.e _ _)) se_bad
    · exact se_bad
theorem bt2_ok (g : Good (gtOf gs tab) p r) (ok : GsOk gs tab) {b : Bt} {a d : Expr} {q : Pos} (hg : sc.scope.names.lookup (btName b) = some .globalImplicit) (hf : btName b ∈ (gtOf gs tab).free) (hs : noStars [a, d] = true) :
    SE (gtOf gs tab) p sc (.Call (.Name (btName b) q) [a, d] [] pos) (cBt2 gs r sc b a d) := by
  cases b <;> first | exact se_bad | skip
  · exact se_max2 hg hf hs (g.a _ _)
  · exact se_min2 hg hf hs (g.a _ _)
  · exact is_c g ok hg hf (noStars_cons hs).1
theorem fn_ok (g : Good (gtOf gs tab) p r) (ok : GsOk gs tab) {x : Str} {args : List Expr} {q : Pos} : SE (gtOf gs tab) p sc (.Call (.Name x q) args [] pos) (cFn gs r sc x args) := by
  unfold cFn
  refine cnd_rec (fun h => ?_) se_bad
  obtain ⟨h1, h2⟩ := isGlob_ok h
  split
  · rename_i f e
    have hk := ok.fn _ _ (look_mem e)
    split
    · exact se_call0 h1 (fn_mem e) hk h2
    · exact cnd_rec (fun hs => se_call h1 (fn_mem e) hk h2 hs (g.a _ _)) se_bad
  · rename_i c e
    split
    · exact se_bad
    · split
      · rename_i f n e2
        exact cnd_rec (fun hs => se_make h1 (cl_mem e) (lookC_mem e2) h2 hs (g.a _ _)) se_bad
      · exact se_bad
  · rename_i b e
    have en := ok.bt _ _ (look_mem e)
    subst en
    split
    · exact cnd_rec (fun hs => bt1_ok g ok h1 (bt_mem e) hs) se_bad
    · exact cnd_rec (fun hs => bt2_ok g ok h1 (bt_mem e) hs) se_bad
    · exact se_bad
  · exact se_bad
theorem bm_ok (g : Good (gtOf gs tab) p r) {a : Expr} {m : Str} {args : List Expr} {apos : Pos} (hb : plainBase a = true) (hl : (apos.endLine == pos.line) = true) : SE (gtOf gs tab) p sc (.Call (.Attribute a m apos) args [] pos) (cBm r sc a m args) := by
  unfold cBm
  split
  · refine cnd_rec (fun h => ?_) se_bad
    have := eqS_iff.mp h
    subst this
    exact se_clrD hb hl (g.e _ _)
  · refine cnd_rec (fun hs => cnd_rec (fun h => ?_) (cnd_rec (fun h => ?_) (cnd_rec (fun h => ?_) se_bad))) se_bad
    · have := eqS_iff.mp h
      subst this
      exact se_app hb hs hl (g.e _ _) (g.e _ _)
    · have := eqS_iff.mp h
      subst this
      exact se_ext hb hs hl (g.e _ _) (g.e _ _)
    · have := eqS_iff.mp h
      subst this
      exact se_get1 hb hs hl (g.e _ _) (g.e _ _)
  · refine cnd_rec (fun hs => cnd_rec (fun hs2 => cnd_rec (fun h => ?_) se_bad) se_bad) se_bad
    have := eqS_iff.mp h
    subst this
    exact se_get2 hb hs hs2 hl (g.e _ _) (g.e _ _) (g.e _ _)
  · exact se_bad
theorem mth_ok (g : Good (gtOf gs tab) p r) {a : Expr} {m : Str} {args : List Expr} {apos : Pos} : SE (gtOf gs tab) p sc (.Call (.Attribute a m apos) args [] pos) (cMeth gs r sc a m args apos pos) := by
  unfold cMeth
  refine cnd_rec (fun hb => cnd_rec (fun hl => ?_) se_bad) se_bad
  split
  · rename_i t e
    split
    · exact se_meth0 (meth_ok e) hb hl (g.e _ _)
    · exact cnd_rec (fun hs => cnd_rec (fun hn => se_meth (meth_ok e) hb hs hn hl (g.e _ _) (g.a _ _)) se_bad) se_bad
  · exact bm_ok g hb hl
theorem ts_ok (g : Good G p r) (ifs : List Expr) : STs G p sc ifs (cTs r sc ifs) := by
  match ifs with
  | [] => exact sts_nil
  | [c] => exact sts_one (g.t _ _)
  | _ :: _ :: _ => exact sts_bad
theorem lcOk_ok {scope : Scope} {it : Expr} {g : Tg} (h : lcOk sc scope it g = true) : blkC sc.N sc.scope scope (ownOf sc.N scope.names) = true ∧ notSet it = true ∧ ∀ i ∈ tgIdx g, i ∈ (ownOf sc.N scope.names).map (·.2) := by
  unfold lcOk at h
  cases e1 : blkC sc.N sc.scope scope (ownOf sc.N scope.names) with
  | false => rw [e1] at h; cases h
  | true =>
    rw [e1] at h
    cases e2 : notSet it with
    | false => rw [e2] at h; cases h
    | true =>
      rw [e2] at h
      exact ⟨rfl, rfl, subsetB_ok h⟩
theorem async0 {i : Int} (h : ieq i 0 = true) : i = 0 := ieq_iff.mp h
theorem dc_ok (g : Good G p r) {kx vx : Expr} {gens : List Comprehension} {scope : Scope} : SE G p sc (.DictComp kx vx gens scope pos) (cDc r sc kx vx gens scope) := by
  match gens with
  | [] => exact se_bad
  | [⟨tg, it, ifs, as⟩] =>
    unfold cDc
    simp only
    split
    · rename_i t e
      refine cnd_rec (fun h0 => cnd_rec (fun h => ?_) se_bad) se_bad
      have := async0 h0
      subst this
      obtain ⟨h1, h2, h3⟩ := lcOk_ok h
      exact se_dc1 h1 h2 (tgIn_of h3) (g.i _ _ _) (tgC_ok e) (ts_ok g ifs) (g.e _ _) (g.e _ _)
    · exact se_bad
  | _ :: _ :: _ => exact se_bad
theorem e_ok (g : Good (gtOf gs tab) p r) (ok : GsOk gs tab) (e : Expr) : SE (gtOf gs tab) p sc e (cE gs r sc e) := by
  cases e <;> first | exact se_bad | skip
  case Name x pos => exact name_ok
  case Constant c j pos => exact const_ok
  case BinOp a op b pos =>
    unfold cE
    simp only
    split
    · rename_i o e; exact se_bin e (g.e _ _) (g.e _ _)
    · exact se_bad
  case UnaryOp op a pos =>
    cases op <;> first | exact se_bad | skip
    · exact se_not (g.e _ _)
    · cases a <;> first | exact se_bad | skip
      rename_i c _ _
      cases c <;> first | exact se_bad | exact se_neg
  case BoolOp op es pos =>
    match es with
    | [] => exact se_bad
    | [a] => exact se_one (g.e _ _)
    | a :: b :: rest =>
      cases op with
      | And => exact se_and (g.e _ _) (g.e _ _)
      | Or => exact se_or (g.e _ _) (g.e _ _)
  case Compare a ops bs pos => exact cmp_c g
  case IfExp c a b pos => exact se_if (g.t _ _) (g.e _ _) (g.e _ _)
  case Tuple es k pos => exact se_tup (g.a _ _)
  case List es pos => exact se_new (g.n _ _)
  case ListComp x gs s pos => exact se_new (g.n _ _)
  case Dict ks vs pos =>
    cases ks with
    | nil => cases vs with
      | nil => exact se_dic0
      | cons _ _ => exact se_bad
    | cons _ _ => exact se_bad
  case DictComp kx vx gs s pos => exact dc_ok g
  case Subscript a b pos =>
    cases b <;> first | exact se_sub (g.e _ _) (g.e _ _) rfl | skip
    rename_i lo hi st _
    cases st with
    | none => exact se_sl (g.e _ _) (opt_ok g) (opt_ok g)
    | some _ => exact se_bad
  case Attribute a f pos =>
    unfold cE
    simp only
    split
    · rename_i t e; exact cnd_rec (fun h => se_fld (att_ok e) h (g.e _ _)) se_bad
    · exact se_bad
  case Call f args kws pos =>
    cases kws with
    | nil =>
      cases f <;> first | exact se_bad | skip
      · exact mth_ok g
      · exact fn_ok g ok
    | cons _ _ => cases f <;> exact se_bad
/-! ### tests -/
theorem sw_bad {op : BoolOp} {es : List Expr} : SW G p sc (.BoolOp op es pos) tBad := fun k W X cx => ⟨fun wh pins s σ H Q I ⟨_, _, _, _, _, hp⟩ => hp.elim⟩
theorem w_ok (g : Good G p r) (op : BoolOp) : ∀ es : List Expr, SW G p sc (.BoolOp op es pos) (cW r sc op es)
  | [] => sw_bad
  | [a] => sw_one (g.t _ _)
  | a :: b :: rest => by
    have ih := w_ok g op (b :: rest)
    cases op with
    | And => exact sw_and (g.t _ _) ih
    | Or => exact sw_or (g.t _ _) ih
theorem t_ok (g : Good G p r) (e : Expr) : ST G p sc e (cT r sc e) := by
  cases e <;> first | exact st_bad | skip
  case Compare a ops bs pos => exact cnd_rec (fun h => cmp_t g h) st_bad
  case UnaryOp op a pos =>
    cases op <;> first | exact st_bad | exact st_not (g.t _ _)
  case BoolOp op es pos => exact st_w (w_ok g op es)
  case Name x pos => exact st_val (fun X whole => rfl) (g.e _ _)
  case Call f args kws pos => exact st_val (fun X whole => rfl) (g.e _ _)
  case Attribute a f pos => exact st_val (fun X whole => rfl) (g.e _ _)
  case Subscript a b pos => exact st_val (fun X whole => rfl) (g.e _ _)
theorem a_ok (g : Good G p r) (es : List Expr) : SA G p sc es (cA r sc es) := by
  cases es with
  | nil => exact sa_nil
  | cons e es =>
    cases e <;> first | exact cnd_rec (fun h => sa_cons h (g.e _ _) (g.a _ _)) sa_bad | skip
    exact sa_star (g.e _ _) (g.a _ _)
theorem lc_ok (g : Good G p r) {elt : Expr} {gens : List Comprehension} {scope : Scope} : SN G p sc (.ListComp elt gens scope pos) (cLc r sc elt gens scope) := by
  match gens with
  | [] => exact sn_bad
  | [⟨tg, it, ifs, as⟩] =>
    unfold cLc
    simp only
    split
    · rename_i t e
      refine cnd_rec (fun h0 => cnd_rec (fun h => ?_) sn_bad) sn_bad
      have := async0 h0
      subst this
      obtain ⟨h1, h2, h3⟩ := lcOk_ok h
      exact sn_lc1 h1 h2 (tgIn_of h3) (g.i _ _ _) (tgC_ok e) (ts_ok g ifs) (g.e _ _)
    · exact sn_bad
  | [⟨tg, it, ifs, as⟩, ⟨tg1, it1, ifs1, as1⟩] =>
    unfold cLc
    simp only
    split
    · rename_i t e
      split
      · rename_i t1 e1
        refine cnd_rec (fun h0 => cnd_rec (fun h00 => cnd_rec (fun h => cnd_rec (fun h' => ?_) sn_bad) sn_bad) sn_bad) sn_bad
        have := async0 h0
        subst this
        have := async0 h00
        subst this
        obtain ⟨h1, h2, h3⟩ := lcOk_ok h
        obtain ⟨_, h5, h6⟩ := lcOk_ok h'
        exact sn_lc2 h1 h6 h2 h5 (tgIn_of h3) (tgIn_of fun i hi => hi) (g.i _ _ _) (tgC_ok e) (ts_ok g ifs) (g.i _ _ _) (tgC_ok e1) (ts_ok g ifs1) (g.e _ _)
      · exact sn_bad
    · exact sn_bad
  | _ :: _ :: _ :: _ => exact sn_bad
theorem n_ok (g : Good G p r) (e : Expr) : SN G p sc e (cN r sc e) := by
  cases e <;> first | exact sn_bad | skip
  case List es pos => exact sn_list (g.a _ _)
  case ListComp x gs s pos => exact lc_ok g
theorem l_ok (g : Good G p r) (e : Expr) : SL G p sc e (cL r sc e) := cnd_rec (fun _ => sl_new (g.n _ _)) (sl_of (g.e _ _))
theorem q_ok (g : Good G p r) (e : Expr) : SQ G p sc e (cQ r sc e) := cnd_rec (fun _ => sq_new (g.n _ _)) (sq_of (g.e _ _))
theorem btCall_ok (ok : GsOk gs tab) {e : Expr} {b : Bt} {args : List Expr} (h : btCall gs sc e = some (b, args)) : ∃ q pos, e = .Call (.Name (btName b) q) args [] pos ∧ sc.scope.names.lookup (btName b) = some .globalImplicit ∧ btName b ∈ (gtOf gs tab).free := by
  unfold btCall at h
  split at h
  · split at h
    · split at h
      · rename_i x q _
        cases hg : isGlob sc x with
        | false => rw [hg] at h; cases h
        | true =>
          rw [hg] at h
          simp only [cnd_true] at h
          split at h
          · rename_i e
            cases h
            have en := ok.bt _ _ (look_mem e)
            subst en
            exact ⟨_, _, rfl, (isGlob_ok hg).1, bt_mem e⟩
          · cases h
      · cases h
    · cases h
  · cases h
theorem tup_ex {tg : Expr} (h : isTupT tg = true) : ∃ es k pos, tg = .Tuple es k pos := by
  cases tg <;> first | exact ⟨_, _, _, rfl⟩ | cases h
theorem i0_ok (g : Good (gtOf gs tab) p r) (tg e : Expr) : SI (gtOf gs tab) p sc tg e (cI0 r sc tg e) := by
  have d : SI (gtOf gs tab) p sc tg e (r.q sc e) := si_q (g.q _ _)
  have d2 : SI (gtOf gs tab) p sc tg e (iAny (r.e sc e)) := si_any (g.e _ _)
  unfold cI0
  split
  · split
    · split
      · split
        · refine cnd_rec (fun hb => cnd_rec (fun hl => cnd_rec (fun h => cnd_rec (fun ht => ?_) d) (cnd_rec (fun h => ?_) d2)) d) d
          · have := eqS_iff.mp h
            subst this
            obtain ⟨es, k, tp, rfl⟩ := tup_ex ht
            exact si_items hb hl (g.e _ _)
          · have := eqS_iff.mp h
            subst this
            exact si_vals hb hl (g.e _ _)
        · exact d
      · exact d2
    · exact d2
  · exact cnd_rec (fun _ => d) d2
theorem i_ok (g : Good (gtOf gs tab) p r) (ok : GsOk gs tab) (tg e : Expr) : SI (gtOf gs tab) p sc tg e (cI gs r sc tg e) := by
  have d : SI (gtOf gs tab) p sc tg e (r.q sc e) := si_q (g.q _ _)
  unfold cI
  split
  · rename_i b args h
    obtain ⟨q, pos, rfl, h1, h2⟩ := btCall_ok ok h
    split
    · split
      · exact cnd_rec (fun hs => si_r1 h1 h2 hs (g.e _ _)) d
      · exact cnd_rec (fun hs => si_r2 h1 h2 hs (g.e _ _) (g.e _ _)) d
      · exact cnd_rec (fun hs => si_r3 h1 h2 hs (g.e _ _) (g.e _ _) (g.e _ _)) d
      · exact d
    · split
      · refine cnd_rec (fun ht => cnd_rec (fun hs => ?_) d) d
        obtain ⟨es, k, tp, rfl⟩ := tup_ex ht
        exact si_enum h1 h2 hs (g.q _ _)
      · exact d
    · split
      · refine cnd_rec (fun ht => cnd_rec (fun hs => ?_) d) d
        obtain ⟨es, k, tp, rfl⟩ := tup_ex ht
        exact si_zip h1 h2 hs (g.q _ _) (g.q _ _)
      · exact d
    · exact d
  · exact i0_ok g tg e

/-! ### statements -/
theorem swB_ok {v : Expr} {y : Str} {py : Pos} {l : Nat} {env : PySem.Env} (he : env.scope = sc.scope) : swapsWith v (some (.Name y py)) l env = pure (swB sc v y py) := by
  cases v <;> first | rfl | skip
  all_goals
    unfold swapsWith swB lcScope
    rw [← he]
    rfl
theorem ss_setB {x : Str} {i : Nat} {pos' : Pos} {a : Expr} {fa : XE} (hi : sc.N[i]? = some x) (hx : Loc sc.scope x) (hf : sc.fn x = true ∨ sc.scope.names.lookup x = some .local) (hs : swB sc a x pos' = false) (ha : SE G p sc a fa) : SS G p sc (.Assign [.Name x pos'] a pos) (sAsg fa (gName i)) := fun k W X cx =>
  PS.imp (ps_set (i := i) cx.nd (by rw [cx.n]; exact hi) (by rw [cx.sco]; exact hx) (ha k W X cx) (by rw [swB_ok cx.sco, hs]) (by rw [cx.fn, cx.sco]; exact hf)) fun D σ H ⟨s, h, m, rh, re, hp⟩ =>
    ts_te rh re hp fun v H1 y h1 m1 rh1 re1 ra hp1 => hp1 m1 H1 _ rh1.refl rh1 (re1.set i ra)
theorem isFn_ok {s : Scope} (h : isFn s = true) : s.kind = .function := by
  unfold isFn at h
  split at h
  · assumption
  · cases h
theorem swB_parts {elt : Expr} {gens : List Comprehension} {scope : Scope} {y : Str} {py : Pos} (h : swB sc (.ListComp elt gens scope pos) y py = true) : sc.scope.names.lookup y = some .local ∧ (py.line == pos.line) = true ∧ (scope.names.any fun (n, k) => n == y && (k == .local || k == .cell)) = false := by
  have h : ((bkOf sc.scope == .function) && (sc.scope.names.lookup y == some .local) && (py.line == pos.line) && !(scope.names.any fun (n, k) => n == y && (k == .local || k == .cell))) = true := h
  simp only [Bool.and_eq_true] at h
  obtain ⟨⟨⟨_, h2⟩, h3⟩, h4⟩ := h
  refine ⟨by simpa using h2, h3, by simpa using h4⟩
theorem swB_partsD {kx vx : Expr} {gens : List Comprehension} {scope : Scope} {y : Str} {py : Pos} (h : swB sc (.DictComp kx vx gens scope pos) y py = true) : sc.scope.names.lookup y = some .local ∧ (py.line == pos.line) = true ∧ (scope.names.any fun (n, k) => n == y && (k == .local || k == .cell)) = false := by
  have h : ((bkOf sc.scope == .function) && (sc.scope.names.lookup y == some .local) && (py.line == pos.line) && !(scope.names.any fun (n, k) => n == y && (k == .local || k == .cell))) = true := h
  simp only [Bool.and_eq_true] at h
  obtain ⟨⟨⟨_, h2⟩, h3⟩, h4⟩ := h
  refine ⟨by simpa using h2, h3, by simpa using h4⟩
theorem asgN_ok (g : Good G p r) {y : Str} {py : Pos} {v : Expr} : SS G p sc (.Assign [.Name y py] v pos) (cAsgN r sc y py v) := by
  unfold cAsgN
  split
  · exact ss_bad
  · rename_i i e
    obtain ⟨h1, h2, h3⟩ := slotOf_ok e
    split
    · rename_i elt gens scope vp
      cases hsw : swB sc (.ListComp elt gens scope vp) y py with
      | false => exact ss_setB h1 h2 h3 hsw (g.e _ _)
      | true =>
        simp only [cnd_true]
        refine cnd_rec (fun hk => ?_) ss_bad
        have hk := isFn_ok hk
        obtain ⟨w1, w2, w3⟩ := swB_parts hsw
        match gens with
        | [] => exact fun k W X cx => PS.imp ps_never fun D σ H ⟨s, h, m, rh, re, hp⟩ => hp
        | [⟨tg, it, ifs, as⟩] =>
          unfold cLc
          simp only
          split
          · rename_i t e
            cases h0 : ieq as 0 with
            | false => exact fun k W X cx => PS.imp ps_never fun D σ H ⟨s, h, m, rh, re, hp⟩ => hp
            | true =>
              cases hl : lcOk sc scope it t with
              | false => exact fun k W X cx => PS.imp ps_never fun D σ H ⟨s, h, m, rh, re, hp⟩ => hp
              | true =>
                have := async0 h0
                subst this
                obtain ⟨k1, k2, k3⟩ := lcOk_ok hl
                exact ss_setLc1 hk h1 w1 w2 w3 k1 k2 (tgIn_of k3) (g.i _ _ _) (tgC_ok e) (ts_ok g ifs) (g.e _ _)
          · exact fun k W X cx => PS.imp ps_never fun D σ H ⟨s, h, m, rh, re, hp⟩ => hp
        | [⟨tg, it, ifs, as⟩, ⟨tg1, it1, ifs1, as1⟩] =>
          unfold cLc
          simp only
          split
          · rename_i t e
            split
            · rename_i t1 e1
              cases h0 : ieq as 0 with
              | false => exact fun k W X cx => PS.imp ps_never fun D σ H ⟨s, h, m, rh, re, hp⟩ => hp
              | true =>
                cases h00 : ieq as1 0 with
                | false => exact fun k W X cx => PS.imp ps_never fun D σ H ⟨s, h, m, rh, re, hp⟩ => hp
                | true =>
                  cases hl : lcOk sc scope it t with
                  | false => exact fun k W X cx => PS.imp ps_never fun D σ H ⟨s, h, m, rh, re, hp⟩ => hp
                  | true =>
                    cases hl1 : lcOk sc scope it1 t1 with
                    | false => exact fun k W X cx => PS.imp ps_never fun D σ H ⟨s, h, m, rh, re, hp⟩ => hp
                    | true =>
                      have := async0 h0
                      subst this
                      have := async0 h00
                      subst this
                      obtain ⟨k1, k2, k3⟩ := lcOk_ok hl
                      obtain ⟨_, k5, k6⟩ := lcOk_ok hl1
                      exact ss_setLc2 hk h1 w1 w2 w3 k1 k6 k2 k5 (tgIn_of k3) (tgIn_of fun i hi => hi) (g.i _ _ _) (tgC_ok e) (ts_ok g ifs) (g.i _ _ _) (tgC_ok e1) (ts_ok g ifs1) (g.e _ _)
            · exact fun k W X cx => PS.imp ps_never fun D σ H ⟨s, h, m, rh, re, hp⟩ => hp
          · exact fun k W X cx => PS.imp ps_never fun D σ H ⟨s, h, m, rh, re, hp⟩ => hp
        | _ :: _ :: _ :: _ => exact fun k W X cx => PS.imp ps_never fun D σ H ⟨s, h, m, rh, re, hp⟩ => hp
    · rename_i kx vx gens scope vp
      cases hsw : swB sc (.DictComp kx vx gens scope vp) y py with
      | false => exact ss_setB h1 h2 h3 hsw (g.e _ _)
      | true =>
        simp only [cnd_true]
        refine cnd_rec (fun hk => ?_) ss_bad
        have hk := isFn_ok hk
        obtain ⟨w1, w2, w3⟩ := swB_partsD hsw
        have nv : ∀ {st : Stmt}, SS G p sc st (sAsg eBad (tgG (.nm i))) := fun k W X cx => PS.imp ps_never fun D σ H ⟨s, h, m, rh, re, hp⟩ => hp
        match gens with
        | [] => exact nv
        | [⟨tg, it, ifs, as⟩] =>
          unfold cDc
          simp only
          split
          · rename_i t e
            cases h0 : ieq as 0 with
            | false => exact nv
            | true =>
              cases hl : lcOk sc scope it t with
              | false => exact nv
              | true =>
                have := async0 h0
                subst this
                obtain ⟨k1, k2, k3⟩ := lcOk_ok hl
                exact ss_setDc1 hk h1 w1 w2 w3 k1 k2 (tgIn_of k3) (g.i _ _ _) (tgC_ok e) (ts_ok g ifs) (g.e _ _) (g.e _ _)
          · exact nv
        | _ :: _ :: _ => exact nv
    · exact cnd_rec (fun hn => ss_set h1 h2 h3 hn (g.e _ _)) ss_bad
theorem swNames_named {ts : List Expr} {is : List Nat} (h : slotsOf sc ts = some is) : True := trivial
theorem ps_nv {st : Stmt} {f : XS} (h : ∀ c s h, f c s h = .bad) : SS G p sc st f := fun k W X cx => PS.imp ps_never fun D σ H ⟨s, hm, m, rh, re, hp⟩ => by rw [h] at hp; exact hp
/-- the swapped names are those of the targets -/
theorem slots2 {t1 t2 : Expr} {is : List Nat} (h : slotsOf sc [t1, t2] = some is) : ∃ x y px py i j, t1 = .Name x px ∧ t2 = .Name y py ∧ is = [i, j] ∧ slotOf sc x = some i ∧ slotOf sc y = some j := by
  cases t1 <;> first | (cases h; done) | skip
  rename_i x px
  unfold slotsOf at h
  cases e1 : slotOf sc x with
  | none => rw [e1] at h; cases h
  | some i =>
    rw [e1] at h
    cases t2 <;> first | (cases h; done) | skip
    rename_i y py
    unfold slotsOf at h
    cases e2 : slotOf sc y with
    | none => simp only [e2] at h; cases h
    | some j =>
      simp only [e2, slotsOf] at h
      cases h
      exact ⟨x, y, px, py, i, j, rfl, rfl, rfl, e1, e2⟩
theorem slots3 {t1 t2 t3 : Expr} {is : List Nat} (h : slotsOf sc [t1, t2, t3] = some is) : ∃ x y z px py pz i j l, t1 = .Name x px ∧ t2 = .Name y py ∧ t3 = .Name z pz ∧ is = [i, j, l] ∧ slotOf sc x = some i ∧ slotOf sc y = some j ∧ slotOf sc z = some l := by
  cases t1 <;> first | (cases h; done) | skip
  rename_i x px
  unfold slotsOf at h
  cases e1 : slotOf sc x with
  | none => rw [e1] at h; cases h
  | some i =>
    rw [e1] at h
    cases e2 : slotsOf sc [t2, t3] with
    | none => simp only [e2] at h; cases h
    | some js =>
      simp only [e2] at h
      cases h
      obtain ⟨y, z, py, pz, j, l, rfl, rfl, rfl, e3, e4⟩ := slots2 e2
      exact ⟨x, y, z, px, py, pz, i, j, l, rfl, rfl, rfl, rfl, e1, e3, e4⟩
/-- what swO says of swapped names -/
theorem swO_some {ts vs : List Expr} {k k2 : Nat} {pt pv : Pos} {ns : List Str} (h : swO sc.scope (.Tuple ts k pt) (.Tuple vs k2 pv) = some (some ns)) : (ts.length = 2 ∨ ts.length = 3) ∧ vs.length = ts.length ∧ ns = swNames sc.scope ts ∧ (swNames sc.scope ts).length = ts.length := by
  have h : cnd (swC1 sc.scope ts vs) (some none) (cnd (swC2 vs) (some none) (cnd (swC3 sc.scope ts) (some none) (cnd (vs.all (foldedForSure 8)) (some none) (cnd (vs.all (constantsAlone 8)) none (some (some (swNames sc.scope ts))))))) = some (some ns) := h
  cases c1 : swC1 sc.scope ts vs with
  | true => rw [c1] at h; cases h
  | false =>
    rw [c1] at h
    cases c2 : swC2 vs with
    | true => rw [c2] at h; cases h
    | false =>
      rw [c2] at h
      cases c3 : swC3 sc.scope ts with
      | true => rw [c3] at h; cases h
      | false =>
        rw [c3] at h
        have h : cnd (vs.all (foldedForSure 8)) (some none) (cnd (vs.all (constantsAlone 8)) none (some (some (swNames sc.scope ts)))) = some (some ns) := h
        have hn : ns = swNames sc.scope ts := by
          cases c4 : vs.all (foldedForSure 8) with
          | true => rw [c4] at h; cases h
          | false =>
            rw [c4] at h
            cases c5 : vs.all (constantsAlone 8) with
            | true => rw [c5] at h; cases h
            | false => rw [c5] at h; cases h; rfl
        unfold swC1 at c1
        unfold swC3 at c3
        simp only [Bool.or_eq_false_iff, Bool.not_eq_false', Bool.or_eq_true, beq_iff_eq, bne_eq_false_iff_eq] at c1 c3
        exact ⟨c1.1.1, c1.1.2, hn, c3.1⟩
theorem swNames_le (scope : Scope) (l : Nat) : ∀ us : List Expr, (us.filterMap fun
  | .Name id pos => if (scope.names.lookup id == some .local && pos.line == l) = true then some id else none
  | _ => none).length ≤ us.length := fun us => List.length_filterMap_le _ _
theorem swNames_all (scope : Scope) (l : Nat) : ∀ us : List Expr, (us.filterMap fun
  | .Name id pos => if (scope.names.lookup id == some .local && pos.line == l) = true then some id else none
  | _ => none).length = us.length → ∀ x q, .Name x q ∈ us → scope.names.lookup x = some .local
  | [], _, x, q, h => by cases h
  | u :: us, hl, x, q, hm => by
    have le := swNames_le scope l us
    rw [List.filterMap_cons] at hl
    split at hl
    · rw [List.length_cons] at hl; omega
    · rename_i b hb
      rw [List.length_cons, List.length_cons] at hl
      rcases List.mem_cons.mp hm with e | e
      · subst e
        have hb : (if (scope.names.lookup x == some .local && q.line == l) = true then some x else none) = some b := hb
        split at hb
        · rename_i c
          simp only [Bool.and_eq_true, beq_iff_eq] at c
          exact c.1
        · cases hb
      · exact swNames_all scope l us (by omega) x q e
theorem swNames_eq (scope : Scope) (l : Nat) : ∀ us : List Expr, (us.filterMap fun
  | .Name id pos => if (scope.names.lookup id == some .local && pos.line == l) = true then some id else none
  | _ => none).length = us.length → (us.filterMap fun
  | .Name id pos => if (scope.names.lookup id == some .local && pos.line == l) = true then some id else none
  | _ => none) = us.map fun | .Name x _ => x | _ => ""
  | [], _ => rfl
  | u :: us, hl => by
    have le := swNames_le scope l us
    rw [List.filterMap_cons] at hl ⊢
    split at hl
    · rw [List.length_cons] at hl; omega
    · rename_i b hb
      rw [List.length_cons, List.length_cons] at hl
      rw [List.map_cons, swNames_eq scope l us (by omega)]
      cases u <;> first | (cases hb; done) | skip
      rename_i x q
      have hb : (if (scope.names.lookup x == some .local && q.line == l) = true then some x else none) = some b := hb
      split at hb
      · cases hb; rfl
      · cases hb
theorem asgT_ok (g : Good G p r) {ts : List Expr} {k : Nat} {pt : Pos} {v : Expr} : SS G p sc (.Assign [.Tuple ts k pt] v pos) (cAsgT r sc (.Tuple ts k pt) v) := by
  unfold cAsgT
  split
  · exact ss_bad
  · rename_i tg e
    have hok := tgC_ok e
    split
    · exact ss_bad
    · rename_i hw
      exact ss_tg rfl (fun _ _ z => (nomatch z)) hw hok (g.e _ _)
    · rename_i ns hw
      split
      · rename_i vs k2 pv
        split
        · rename_i is
          refine cnd_rec (fun hn => ?_) ss_bad
          have hn := nodupB_ok hn
          have e : (slotsOf sc ts).map Tg.un = some (.un is) := e
          cases es : slotsOf sc ts with
          | none => rw [es] at e; cases e
          | some js =>
            rw [es] at e
            cases e
            obtain ⟨h1, h2, h3, h4⟩ := swO_some hw
            have hloc := swNames_all sc.scope _ ts h4
            have hnm := swNames_eq sc.scope _ ts h4
            rcases h1 with h1 | h1
            · match ts, h1, vs, h2, es, hw, h3, hloc, hnm with
              | [t1, t2], _, [v1, v2], _, es, hw, h3, hloc, hnm =>
                obtain ⟨x, y, px, py, i, j, rfl, rfl, rfl, e1, e2⟩ := slots2 es
                have hns : ns = [x, y] := h3.trans hnm
                subst hns
                exact ss_par (slotOf_ok e1).1 (slotOf_ok e2).1 (by simp at hn; exact hn) (hloc x px (by simp)) (hloc y py (by simp)) (g.a _ _) hw
            · match ts, h1, vs, h2, es, hw, h3, hloc, hnm with
              | [t1, t2, t3], _, [v1, v2, v3], _, es, hw, h3, hloc, hnm =>
                obtain ⟨x, y, z, px, py, pz, i, j, l, rfl, rfl, rfl, rfl, e1, e2, e3⟩ := slots3 es
                have hns : ns = [x, y, z] := h3.trans hnm
                subst hns
                simp only [List.nodup_cons, List.mem_cons, List.not_mem_nil, or_false, not_or] at hn
                exact ss_par3 (slotOf_ok e1).1 (slotOf_ok e2).1 (slotOf_ok e3).1 hn.1.1 hn.1.2 hn.2.1 (hloc x px (by simp)) (hloc y py (by simp)) (hloc z pz (by simp)) (g.a _ _) hw
        · exact ss_bad
      · exact ss_bad
theorem aug_of {op : Operator} {o : BO} (h : boOf op = some o) (h2 : (augF o).isSome = true) : op = augOp o := by
  cases op <;> cases h <;> first | rfl | cases h2
theorem s_ok (g : Good (gtOf gs tab) p r) (st : Stmt) : SS (gtOf gs tab) p sc st (cS gs r sc st) := by
  cases st <;> first | exact ss_bad | skip
  case Return v pos =>
    cases v with
    | none => exact ss_bad
    | some e => exact ss_ret (g.e _ _)
  case Assign tgs v pos =>
    match tgs with
    | [] => exact ss_bad
    | _ :: _ :: _ => exact ss_bad
    | [tg] =>
      cases tg <;> first | exact ss_bad | skip
      case Attribute o f pos' =>
        unfold cS
        simp only
        split
        · rename_i t e; exact ss_slot (slot_ok e) (g.e _ _) (g.e _ _)
        · exact ss_bad
      case Subscript c e pos' =>
        refine cnd_rec (fun h => ss_setI (g.e _ _) (g.e _ _) (g.e _ _) fun X v => ?_) ss_bad
        cases e <;> first | rfl | cases h
      case Name y py => exact asgN_ok g
      case Tuple ts k pt => exact asgT_ok g
  case AugAssign tg op v pos =>
    cases tg <;> first | exact ss_bad | skip
    rename_i y py
    unfold cS
    simp only
    split
    · rename_i i e
      split
      · rename_i o e2
        refine cnd_rec (fun h => ?_) ss_bad
        obtain ⟨h1, h2, h3⟩ := slotOf_ok e
        have := aug_of e2 h
        subst this
        exact ss_aug h h1 h2 h3 (g.e _ _)
      · exact ss_bad
    · exact ss_bad
  case For tg it body oe pos =>
    cases oe with
    | cons _ _ => exact ss_bad
    | nil =>
      unfold cS
      simp only
      split
      · rename_i t e
        exact cnd_rec (fun h => ss_for (folded h) (g.i _ _ _) (sg_tg (tgC_ok e)) (g.ss _ _)) ss_bad
      · exact ss_bad
  case If t x y pos => exact ss_if (g.t _ _) (g.ss _ _) (g.ss _ _)
  case Expr e pos => exact cnd_rec (fun h => ss_expr h (g.e _ _)) ss_bad
  case Pass pos => exact ss_pass
theorem ss_ok (g : Good G p r) (sts : List Stmt) : SSs G p sc sts (cSs r sc sts) := by
  match sts with
  | [] => exact sss_nil
  | [s] => exact sss_one (g.s _ _)
  | s :: s2 :: rest => exact sss_cons (g.s _ _) (g.ss _ _)
theorem good_step (ok : GsOk gs tab) (g : Good (gtOf gs tab) p r) : Good (gtOf gs tab) p (step gs r) where
  e := fun _ e => e_ok g ok e
  t := fun _ e => t_ok g e
  a := fun _ e => a_ok g e
  n := fun _ e => n_ok g e
  l := fun _ e => l_ok g e
  q := fun _ e => q_ok g e
  i := fun _ tg e => i_ok g ok tg e
  s := fun _ e => s_ok g e
  ss := fun _ e => ss_ok g e
theorem good_lev (ok : GsOk gs tab) : ∀ n, Good (gtOf gs tab) p (lev evA gs n)
  | 0 => good_bad
  | n + 1 => good_step ok (good_lev ok n)
end
end Ev
end

section
set_option Elab.async false
set_option linter.all false
set_option maxRecDepth 100000
/-! Ev: all defs keep what the evaluator says. -/
namespace Ev
open PySem PySem.Spec PyProof.Rows L2

/-- the facts of the head, but those of the defs -/
structure GSt (G : GT) (p : Pl) (K : PySem.W.Frag) (mg : Str → Option Value) : Prop where
  gl : ∀ x f, (x, f) ∈ G.fns → mg x = some (.ref (p.F f))
  cl : ∀ x c, (x, c) ∈ G.cls → mg x = some (.ref (p.C c)) ∧ SlX.SCls K (p.C c)
  inj : ∀ x y b c, (x, b) ∈ G.cls → (y, c) ∈ G.cls → b ≠ c → p.C b ≠ p.C c
  sl : ∀ c f i, (c, f, i) ∈ G.slots → SlX.SCls K (p.C c) ∧ ∃ q, SlX.Slot1 K (p.C c) f q i
  pr : ∀ c f g, (c, f, g) ∈ G.props → SlX.SCls K (p.C c) ∧ PropAt K (p.C c) f (p.F g)
  me : ∀ c f g, (c, f, g) ∈ G.meths → SlX.SCls K (p.C c) ∧ Meth K (p.C c) f (p.F g)
  isi : ∀ x c, (x, c) ∈ G.cls → SlX.SIsi K (p.C c) ∧ (∀ T ∈ ["int", "bool", "str", "tuple", "list"], PySem.W.kitOne K (.ref (p.C c)) (.type T) = some false) ∧
    ∀ T ∈ ["NoneType", "bool", "int", "str", "tuple", "list", "dict"], PySem.W.kitOne K (.type T) (.ref (p.C c)) = some false
  iso : ∀ j i b, (j, i, b) ∈ G.isis → (∃ x, (x, j) ∈ G.cls) ∧ PySem.W.kitOne K (.ref (p.C j)) (.ref (p.C i)) = some b
  ini : ∀ c f n, (c, f, n) ∈ G.inits → Mk K (p.C c) (p.F f)
  cint : ∀ x i, (x, i) ∈ G.cints → ∃ t, mg x = some (.int i t)
  free : ∀ x, x ∈ G.free → mg x = none
/-- a def stands at p.F f, and its text was compiled to the f-th of the table -/
structure FnAt (K : PySem.W.Frag) (p : Pl) (gs : GS) (L f : Nat) (d : Fd) : Prop where
  ex : ∃ (x qual : Str) (params : Arguments) (body : List Stmt) (scope : Scope) (fd : FuncData) (N ps : List Str), FunD K x qual params body scope [] [] (p.F f) fd ∧ FnScope N ps scope ∧
    (∀ (kV doc pm : Value) (an : Option Addr) (cdv ct : Value) (us : List Value), us.length = ps.length → bindArgs (PySem.W.fnOf x qual params body scope .none kV doc pm an cdv ct) ⟨us, []⟩ = pure (ps.zip us)) ∧
    d = ⟨ps.length, N.length, (lev evA gs L).ss ⟨N, scope, fun _ => true⟩ body⟩
theorem re_start {m : Mp} {z : Nat} {H : Hp} {args : List PV} {vs : List V} {N : List Str} (r : RPs m z H args vs) : RE m z H (args.map some ++ List.replicate (N.length - args.length) none) (L2.start N vs) := by
  have hl := r.length
  refine ⟨?_, fun i x e => ?_⟩
  · unfold L2.start
    simp only [List.length_append, List.length_map, List.length_replicate]
    omega
  · unfold L2.start
    by_cases h : i < args.length
    · rw [List.getElem?_append_left (by simpa using h)] at e
      obtain ⟨v, ev, rv⟩ := r.map_some e
      exact ⟨v, by rw [List.getElem?_append_left (by simpa [hl] using h)]; exact ev, rv⟩
    · rw [List.getElem?_append_right (by simpa using h), List.getElem?_replicate] at e
      split at e <;> cases e
section
variable {P : Program} {w : World} {K : PySem.W.Frag} {mg : Str → Option Value} {base : Heap} {gs : GS} {tab : List Fd} {p : Pl} {L : Nat}
theorem sp_len {tab : List Fd} {k f : Nat} {d : Fd} (e : nthF tab f = some d) {vs : List V} {H : Hp} {Q : VK} {E : XK} (h : spF K p (callD tab (k + 1)) f vs H Q E) : vs.length = d.np := by
  obtain ⟨h, m, args, rh, ra, hp⟩ := h
  have hp : Post K p RP E h m H (match nthF tab f with
    | some d => runFd d (callD tab k) args h
    | none => .bad) Q := hp
  rw [e] at hp
  simp only at hp
  unfold runFd at hp
  cases c : Nat.beq args.length d.np with
  | false => rw [c] at hp; exact hp.elim
  | true => rw [ra.length]; exact Nat.eq_of_beq_eq_true c
/-- one def, one level up -/
theorem fn_lvl {k f : Nat} {d : Fd} (ok : GsOk gs tab) (ih : GOk (gtOf gs tab) p P w K mg base k) (e : nthF tab f = some d) {x qual : Str} {params : Arguments} {body : List Stmt} {scope : Scope} {fd : FuncData} {N ps : List Str} (FD : FunD K x qual params body scope [] [] (p.F f) fd) (S : FnScope N ps scope)
    (ed : d = ⟨ps.length, N.length, (lev evA gs L).ss ⟨N, scope, fun _ => true⟩ body⟩) : FnOk P w K mg base (CX P w) (4 * k + 3 + 1) (p.F f) fd ps (spF K p (callD tab (k + 1)) f) := by
  refine FD.ok (N := N) S (fun vs H Q E h => by rw [sp_len e h, ed]) fun cdv A outer s H vs Q E hr hs => ?_
  obtain ⟨h, m, args, rh, ra, hp⟩ := hs
  have hp : Post K p RP E h m H (match nthF tab f with
    | some d => runFd d (callD tab k) args h
    | none => .bad) Q := hp
  rw [e] at hp
  simp only at hp
  have cx : ECx (gtOf gs tab) p k ⟨N, scope, fun _ => true⟩ (fun cls d _ H => E cls d H) (cxOf (CX P w) P w K mg base N qual scope (p.F f) cdv A outer s H E) :=
    { g := ih, nd := S.nd, n := rfl, sco := rfl, fn := rfl, calm := rfl, room := hr, tk := takes_of rfl rfl rfl rfl, po := passes_of rfl }
  refine ⟨_, (good_lev ok L).ss _ body k _ _ cx, ?_⟩
  refine ⟨_, h, m, rh, re_start ra, ?_⟩
  unfold runFd at hp
  rw [ed] at hp
  simp only at hp
  cases c : Nat.beq args.length ps.length with
  | false => rw [c] at hp; exact hp.elim
  | true =>
    rw [c] at hp
    simp only [cnd_true] at hp
    refine (fun (r : SR) (hp : Post K p RP E h m H (match r with
      | .nx _ h' => .ok .non h'
      | .rt v h' => .ok v h'
      | .er x _ h' => .err x h'
      | _ => .bad) Q) => (?_ : PostS K p (fun cls d _ H => E cls d H) { nx := fun _ H' => Q .non H', rt := Q } h m H r)) _ hp
    cases r with
    | nx s' h' => exact fun m' H' σ' l rh' re' => hp m' H' .non l rh' .non
    | rt v h' => exact fun m' H' v' l rh' rv => hp m' H' v' l rh' rv
    | bk s' h' => exact hp.elim
    | ct s' h' => exact hp.elim
    | er y s' h' => exact fun m' H' σ' cls d l rh' re' rx => hp m' H' cls d l rh' rx
    | bad => exact hp
theorem fns_ok (ok : GsOk gs tab) (st : GSt (gtOf gs tab) p K mg) (hF : ∀ f d, nthF tab f = some d → FnAt K p gs L f d) : ∀ k, GOk (gtOf gs tab) p P w K mg base k
  | 0 => ⟨fun f d e => by
      obtain ⟨x, qual, params, body, scope, fd, N, ps, FD, S, hb, ed⟩ := (hF f d e).ex
      refine ⟨fun A outer s H us vs Q E hr e0 r hs => ?_, FD.kp⟩
      obtain ⟨h, m, args, rh, ra, hp⟩ := hs
      exact hp.elim, st.gl, st.cl, st.inj, st.sl, st.pr, st.me, st.isi, st.iso, st.ini, st.cint, st.free⟩
  | k + 1 => by
    have ih := fns_ok ok st hF k
    refine ⟨fun f d e => ?_, st.gl, st.cl, st.inj, st.sl, st.pr, st.me, st.isi, st.iso, st.ini, st.cint, st.free⟩
    have e : nthF tab f = some d := e
    obtain ⟨x, qual, params, body, scope, fd, N, ps, FD, S, hb, ed⟩ := (hF f d e).ex
    refine ⟨?_, FD.kp⟩
    have R := (fn_lvl (L := L) ok ih e FD S ed).raw (FD.bindsN hb) .nil
    exact (R.imp fun vs H Q E h => by simpa using h : FnR P w K mg base (CX P w) (4 * k + 3 + 1) (p.F f) (spF K p (callD tab (k + 1)) f))
end
end Ev
end

section
set_option Elab.async false
set_option linter.all false
set_option maxRecDepth 100000
/-! Ev: the head: what is looked at behind the top, and what follows. -/
namespace Ev
open PySem PySem.Spec PyProof.Rows L2

/-- where a def stands -/
inductive Pth where
  | glo (x : Str)
  | meth (x m : Str)
  | prop (x m : Str)
def Pth.ad (K : PySem.W.Frag) : Pth → Addr
  | .glo x => He.ga K x
  | .meth x m => He.ma K (He.ga K x) m
  | .prop x m => match PySem.W.recIn K (He.ma K (He.ga K x) m) "property" with
    | some (.ref g :: _) => g
    | _ => 0
structure Df where
  at_ : Pth
  name : Str
  qual : Str
  params : Arguments
  body : List Stmt
  scope : Scope
  /-- the names by slot -/
  N : List Str
def fnAtK (K : PySem.W.Frag) (a : Addr) : He.FnW := match K.lookup a with
  | some ⟨_, _, .func fd, _⟩ => some (fd.name, fd.qualname, fd.params, fd.body, fd.scope, fd.globals, fd.closure, fd.builtins)
  | _ => none
def Df.val (d : Df) : He.FnW := some (d.name, d.qual, d.params, .stmts d.body, d.scope, mainGlobals, [], builtinsNs)
def Df.ok (K : PySem.W.Frag) (d : Df) : Bool := PySem.W.keepIn K (.ref (d.at_.ad K)) && (match K.lookup (d.at_.ad K) with
  | some ⟨_, _, .func fd, _⟩ => PySem.W.codeIn K fd.code d.qual && He.dflB K fd.defaults []
  | _ => false)
theorem Df.funD {K : PySem.W.Frag} {d : Df} (e : fnAtK K (d.at_.ad K) = d.val) (c : d.ok K = true) : ∃ fd, FunD K d.name d.qual d.params d.body d.scope [] [] (d.at_.ad K) fd := by
  obtain ⟨kp, c2⟩ := He.ba c
  unfold fnAtK at e
  cases q : K.lookup (d.at_.ad K) with
  | none =>
    rw [q] at c2
    cases c2
  | some o =>
    obtain ⟨oc, od, dt, osl⟩ := o
    rw [q] at c2 e
    cases dt with
    | func fd =>
      obtain ⟨n1, n2, n3, n4, n5, n6, n7, n8, n9, n10, n11, n12, n13, n14, n15⟩ := fd
      have e2 : (some (n1, n2, n3, n4, n5, n6, n7, n15) : He.FnW) = some (d.name, d.qual, d.params, .stmts d.body, d.scope, mainGlobals, [], builtinsNs) := e
      simp only [Option.some.injEq, Prod.mk.injEq] at e2
      obtain ⟨h1, h2, h3, h4, h5, h6, h7, h8⟩ := e2
      subst h1 h2 h3 h4 h5 h6 h7 h8
      have c3 : (PySem.W.codeIn K n13 d.qual && He.dflB K n8 []) = true := c2
      obtain ⟨k1, k2⟩ := He.ba c3
      exact ⟨_, ⟨oc, od, n8, n9, n10, n11, n12, n13, n14, osl, rfl, q, k1, He.dflB_ok k2, .inl rfl⟩, kp⟩
    | _ => cases c2

/-! ### the facts -/
def dfAd (K : PySem.W.Frag) (ds : List Df) (f : Nat) : Addr := match ds[f]? with
  | some d => d.at_.ad K
  | none => 0
def clAd (K : PySem.W.Frag) (cn : List Str) (c : Nat) : Addr := match cn[c]? with
  | some x => He.ga K x
  | none => 0
def plOf (K : PySem.W.Frag) (cn : List Str) (ds : List Df) : Pl := ⟨clAd K cn, dfAd K ds, fun _ => .none, fun _ => Str.empty⟩
def sclsB (K : PySem.W.Frag) (C : Addr) : Bool := PySem.W.plainGet K C Str.empty && (PySem.W.isClsIn K C && (PySem.W.plainOver K C && He.eqO (PySem.W.findIn K (.ref C) "__setattr__") (some (some (.builtin "object.__setattr__")))))
theorem sclsB_ok {K : PySem.W.Frag} {C : Addr} (h : sclsB K C = true) : SlX.SCls K C := by
  obtain ⟨h1, h⟩ := He.ba h
  obtain ⟨h2, h⟩ := He.ba h
  obtain ⟨h3, h4⟩ := He.ba h
  exact ⟨h1, h2, h3, He.eqO_ok h4⟩
def isiB (K : PySem.W.Frag) (C : Addr) : Bool := He.eqO (PySem.W.findIn K (.ref C) "__class__") (some (some (.builtin "object.__class__"))) && (decide (PySem.W.specialIn K (.builtin "object.__class__") "__get__" = some (some (.builtin "getset_descriptor.__get__"))) &&
  (decide (PySem.W.takesIn K (.builtin "object.__class__") = some true) && decide (PySem.W.mroIn K C (.type "object") = some true)))
theorem isiB_ok {K : PySem.W.Frag} {C : Addr} (h : isiB K C = true) : SlX.SIsi K C := by
  obtain ⟨h1, h⟩ := He.ba h
  obtain ⟨h2, h⟩ := He.ba h
  obtain ⟨h3, h4⟩ := He.ba h
  exact ⟨He.eqO_ok h1, of_decide_eq_true h2, of_decide_eq_true h3, of_decide_eq_true h4⟩
def kitTB (K : PySem.W.Frag) (C : Addr) : Bool := (["int", "bool", "str", "tuple", "list"].all fun T => decide (PySem.W.kitOne K (.ref C) (.type T) = some false)) &&
  ["NoneType", "bool", "int", "str", "tuple", "list", "dict"].all fun T => decide (PySem.W.kitOne K (.type T) (.ref C) = some false)
def slot1B (K : PySem.W.Frag) (C : Addr) (f : Str) (i : Nat) : Bool := match PySem.W.findIn K (.ref C) f with
  | some (some (.ref p)) => decide (PySem.W.specialIn K (.ref p) "__get__" = some (some (.builtin "member_descriptor.__get__"))) && (decide (PySem.W.takesIn K (.ref p) = some true) && (decide (PySem.W.typeIn K (.ref p) = some (.type "member_descriptor")) &&
      (decide (PySem.W.slotIn K p C = some i) && decide (i < 1000))))
  | _ => false
theorem slot1B_ok {K : PySem.W.Frag} {C : Addr} {f : Str} {i : Nat} (h : slot1B K C f i = true) : ∃ q, SlX.Slot1 K C f q i := by
  unfold slot1B at h
  split at h
  · rename_i p e
    obtain ⟨h1, h⟩ := He.ba h
    obtain ⟨h2, h⟩ := He.ba h
    obtain ⟨h3, h⟩ := He.ba h
    obtain ⟨h4, h5⟩ := He.ba h
    exact ⟨p, e, of_decide_eq_true h1, of_decide_eq_true h2, of_decide_eq_true h3, of_decide_eq_true h4, of_decide_eq_true h5⟩
  · cases h
def propB (K : PySem.W.Frag) (C : Addr) (f : Str) (g : Addr) : Bool := match PySem.W.findIn K (.ref C) f with
  | some (some (.ref q)) => decide (PySem.W.specialIn K (.ref q) "__get__" = some (some (.builtin "property.__get__"))) && (decide (PySem.W.takesIn K (.ref q) = some true) && (match PySem.W.recIn K q "property" with
    | some (.ref k :: _) => decide (k = g)
    | _ => false))
  | _ => false
theorem propB_ok {K : PySem.W.Frag} {C : Addr} {f : Str} {g : Addr} (h : propB K C f g = true) : PropAt K C f g := by
  unfold propB at h
  split at h
  · rename_i q e
    obtain ⟨h1, h⟩ := He.ba h
    obtain ⟨h2, h3⟩ := He.ba h
    split at h3
    · rename_i k rest e2
      have := of_decide_eq_true h3
      subst this
      exact ⟨q, e, of_decide_eq_true h1, of_decide_eq_true h2, rest, e2⟩
    · cases h3
  · cases h
def methB (K : PySem.W.Frag) (C : Addr) (m : Str) (f : Addr) : Bool := He.eqO (PySem.W.findIn K (.ref C) m) (some (some (.ref f))) && (PySem.W.isFn K (.ref f) && PySem.W.keepIn K (.ref f))
theorem methB_ok {K : PySem.W.Frag} {C : Addr} {m : Str} {f : Addr} (h : methB K C m f = true) : Meth K C m f := by
  obtain ⟨h1, h⟩ := He.ba h
  obtain ⟨h2, h3⟩ := He.ba h
  exact ⟨He.eqO_ok h1, h2, h3⟩
def mkB (K : PySem.W.Frag) (C f : Addr) : Bool := PySem.W.makesIn K C && (He.eqO (PySem.W.findIn K (.ref C) "__init__") (some (some (.ref f))) && (PySem.W.isFn K (.ref f) && PySem.W.keepIn K (.ref C)))
theorem mkB_ok {K : PySem.W.Frag} {C f : Addr} (h : mkB K C f = true) : Mk K C f := by
  obtain ⟨h1, h⟩ := He.ba h
  obtain ⟨h2, h⟩ := He.ba h
  obtain ⟨h3, h4⟩ := He.ba h
  exact ⟨h1, He.eqO_ok h2, h3, h4⟩
def roleB (K : PySem.W.Frag) (cn : List Str) (ds : List Df) (q : Str × Rl) : Bool := match q.2 with
  | .fn f => (He.Fa.glo q.1).ok K && decide (He.ga K q.1 = dfAd K ds f)
  | .cl c => ((He.Fa.glo q.1).ok K && decide (He.ga K q.1 = clAd K cn c)) && (sclsB K (clAd K cn c) && (isiB K (clAd K cn c) && kitTB K (clAd K cn c)))
  | .ci i => (He.Fa.int q.1 i).ok K
  | .bt _ => (He.Fa.free q.1).ok K
def attB (K : PySem.W.Frag) (cn : List Str) (ds : List Df) (f : Str) (q : Nat × At) : Bool := sclsB K (clAd K cn q.1) && match q.2 with
  | .slot i => slot1B K (clAd K cn q.1) f i
  | .prop g => propB K (clAd K cn q.1) f (dfAd K ds g)
def injB (K : PySem.W.Frag) (cn : List Str) (r1 r2 : Str × Rl) : Bool := match r1.2 with
  | .cl b => match r2.2 with
    | .cl c => Nat.beq b c || !(decide (clAd K cn b = clAd K cn c))
    | _ => true
  | _ => true
def hasCl (gs : GS) (c : Nat) : Bool := gs.roles.any fun r => match r.2 with
  | .cl b => Nat.beq b c
  | _ => false
def exB (cn : List Str) (ds : List Df) (gs : GS) (K : PySem.W.Frag) : Bool :=
  gs.roles.all (roleB K cn ds) && ((gs.atts.all fun a => a.2.all (attB K cn ds a.1)) && ((gs.meths.all fun a => a.2.all fun q => sclsB K (clAd K cn q.1) && methB K (clAd K cn q.1) a.1 (dfAd K ds q.2)) && ((gs.inits.all fun a => mkB K (clAd K cn a.1) (dfAd K ds a.2.1)) &&
    ((gs.iss.all fun a => a.2.all fun q => hasCl gs q.1 && decide (PySem.W.kitOne K (.ref (clAd K cn q.1)) (.ref (clAd K cn a.1)) = some q.2)) && gs.roles.all fun r1 => gs.roles.all fun r2 => injB K cn r1 r2))))
theorem gst_of {K : PySem.W.Frag} {h : Heap} {mg : Str → Option Value} {cn : List Str} {ds : List Df} {gs : GS} {tab : List Fd} (X : K.In h) (G : h.Ns mainGlobals mg) (e : exB cn ds gs K = true) : GSt (gtOf gs tab) (plOf K cn ds) K mg := by
  obtain ⟨e1, e⟩ := He.ba e
  obtain ⟨e2, e⟩ := He.ba e
  obtain ⟨e3, e⟩ := He.ba e
  obtain ⟨e4, e⟩ := He.ba e
  obtain ⟨e5, e6⟩ := He.ba e
  have e1 := List.all_eq_true.mp e1
  have e2 := List.all_eq_true.mp e2
  have e3 := List.all_eq_true.mp e3
  have e4 := List.all_eq_true.mp e4
  have e5 := List.all_eq_true.mp e5
  have e6 := List.all_eq_true.mp e6
  have clm : ∀ x c, (x, c) ∈ (gtOf gs tab).cls → (x, Rl.cl c) ∈ gs.roles := fun x c hm => by
    obtain ⟨q, hq, eq⟩ := List.mem_filterMap.mp hm
    obtain ⟨y, r⟩ := q
    cases r <;> cases eq
    exact hq
  have clF : ∀ x c, (x, c) ∈ (gtOf gs tab).cls → mg x = some (.ref (clAd K cn c)) ∧ SlX.SCls K (clAd K cn c) ∧ SlX.SIsi K (clAd K cn c) ∧ kitTB K (clAd K cn c) = true := fun x c hm => by
    have q := e1 _ (clm x c hm)
    obtain ⟨q1, q2⟩ := He.ba (show (((He.Fa.glo x).ok K && decide (He.ga K x = clAd K cn c)) && (sclsB K (clAd K cn c) && (isiB K (clAd K cn c) && kitTB K (clAd K cn c)))) = true from q)
    obtain ⟨q3, q4⟩ := He.ba q1
    obtain ⟨q5, q6⟩ := He.ba q2
    obtain ⟨q7, q8⟩ := He.ba q6
    have g := He.glo_ok X G q3
    rw [of_decide_eq_true q4] at g
    exact ⟨g, sclsB_ok q5, isiB_ok q7, q8⟩
  exact {
    gl := fun x f hm => by
      obtain ⟨q, hq, eq⟩ := List.mem_filterMap.mp hm
      obtain ⟨y, r⟩ := q
      cases r <;> cases eq
      obtain ⟨q1, q2⟩ := He.ba (show ((He.Fa.glo y).ok K && decide (He.ga K y = dfAd K ds f)) = true from e1 _ hq)
      have g := He.glo_ok X G q1
      rw [of_decide_eq_true q2] at g
      exact g
    cl := fun x c hm => ⟨(clF x c hm).1, (clF x c hm).2.1⟩
    inj := fun x y b c hb hc ne => by
      have q := List.all_eq_true.mp (e6 _ (clm x b hb)) _ (clm y c hc)
      have q : (Nat.beq b c || !(decide (clAd K cn b = clAd K cn c))) = true := q
      rcases Bool.or_eq_true_iff.mp q with z | z
      · exact absurd (Nat.eq_of_beq_eq_true z) ne
      · intro w
        have w : clAd K cn b = clAd K cn c := w
        rw [decide_eq_true w] at z
        cases z
    sl := fun c f i hm => by
      obtain ⟨a, ha, hq0⟩ := List.mem_flatMap.mp hm
      obtain ⟨q, hq, eq⟩ := List.mem_filterMap.mp hq0
      obtain ⟨k, t⟩ := q
      cases t <;> cases eq
      obtain ⟨q1, q2⟩ := He.ba (show (sclsB K (clAd K cn k) && slot1B K (clAd K cn k) a.1 i) = true from List.all_eq_true.mp (e2 _ ha) _ hq)
      exact ⟨sclsB_ok q1, slot1B_ok q2⟩
    pr := fun c f g hm => by
      obtain ⟨a, ha, hq0⟩ := List.mem_flatMap.mp hm
      obtain ⟨q, hq, eq⟩ := List.mem_filterMap.mp hq0
      obtain ⟨k, t⟩ := q
      cases t <;> cases eq
      obtain ⟨q1, q2⟩ := He.ba (show (sclsB K (clAd K cn k) && propB K (clAd K cn k) a.1 (dfAd K ds g)) = true from List.all_eq_true.mp (e2 _ ha) _ hq)
      exact ⟨sclsB_ok q1, propB_ok q2⟩
    me := fun c f g hm => by
      obtain ⟨a, ha, hq0⟩ := List.mem_flatMap.mp hm
      obtain ⟨q, hq, eq⟩ := List.mem_map.mp hq0
      cases eq
      obtain ⟨q1, q2⟩ := He.ba (List.all_eq_true.mp (e3 _ ha) _ hq)
      exact ⟨sclsB_ok q1, methB_ok q2⟩
    isi := fun x c hm => by
      obtain ⟨h1, h2⟩ := He.ba (clF x c hm).2.2.2
      exact ⟨(clF x c hm).2.2.1, fun T hT => of_decide_eq_true (List.all_eq_true.mp h1 T hT), fun T hT => of_decide_eq_true (List.all_eq_true.mp h2 T hT)⟩
    iso := fun j i b hm => by
      obtain ⟨a, ha, hq0⟩ := List.mem_flatMap.mp hm
      obtain ⟨q, hq, eq⟩ := List.mem_map.mp hq0
      cases eq
      obtain ⟨q1, q2⟩ := He.ba (List.all_eq_true.mp (e5 _ ha) _ hq)
      refine ⟨?_, of_decide_eq_true q2⟩
      obtain ⟨r, hr, er⟩ := List.any_eq_true.mp q1
      obtain ⟨y, rl⟩ := r
      cases rl <;> first | (cases er; done) | skip
      rename_i c
      have : c = q.1 := Nat.eq_of_beq_eq_true er
      subst this
      exact ⟨y, List.mem_filterMap.mpr ⟨_, hr, rfl⟩⟩
    ini := fun c f n hm => mkB_ok (e4 _ hm)
    cint := fun x i hm => by
      obtain ⟨q, hq, eq⟩ := List.mem_filterMap.mp hm
      obtain ⟨y, r⟩ := q
      cases r <;> cases eq
      exact He.int_ok X G (e1 _ hq)
    free := fun x hm => by
      obtain ⟨q, hq, eq⟩ := List.mem_filterMap.mp hm
      obtain ⟨y, r⟩ := q
      cases r <;> cases eq
      exact He.free_ok X G (e1 _ hq) }

/-! ### the Hook -/
def notList (o : Obj) : Bool := match o.cls with
  | .type c => !(decide (c = "list"))
  | _ => true
def frV (g : Addr → Option Obj) (as : List Addr) : PySem.W.Frag := (He.frG g as).filter fun p => notList p.2
theorem lookup_mem {α β : Type} [BEq α] [LawfulBEq α] {a : α} {b : β} : ∀ {l : List (α × β)}, l.lookup a = some b → (a, b) ∈ l
  | [], h => by cases h
  | (x, y) :: r, h => by
    rw [List.lookup_cons] at h
    cases e : (a == x) with
    | true =>
      rw [e] at h
      have := eq_of_beq e
      subst this
      cases h
      exact List.mem_cons_self
    | false =>
      rw [e] at h
      exact List.mem_cons_of_mem _ (lookup_mem h)
theorem frG_mem {g : Addr → Option Obj} {a : Addr} {o : Obj} : ∀ {as : List Addr}, (a, o) ∈ He.frG g as → g a = some o
  | as, h => by
    unfold He.frG at h
    obtain ⟨b, _, e⟩ := List.mem_filterMap.mp h
    cases q : g b with
    | none => rw [q] at e; cases e
    | some u => rw [q] at e; cases e; exact q
theorem frV_in {as : List Addr} {h : Heap} : (frV h.get? as).In h := fun a o e => frG_mem (List.mem_filter.mp (lookup_mem e)).1
theorem frV_nl {as : List Addr} {g : Addr → Option Obj} {a : Addr} {o : Obj} (e : (frV g as).lookup a = some o) : o.cls ≠ .type "list" := fun z => by
  have q := (List.mem_filter.mp (lookup_mem e)).2
  unfold notList at q
  rw [z] at q
  cases q
abbrev AlV : Type := Bool × List He.FnW
def obsV (cn : List Str) (ds : List Df) (gs : GS) (K : PySem.W.Frag) : AlV := (exB cn ds gs K && ds.all (Df.ok K), ds.map fun d => fnAtK K (d.at_.ad K))
def valV (ds : List Df) : AlV := (true, ds.map Df.val)
def obsVG (n : Nat) (cn : List Str) (ds : List Df) (gs : GS) (g : Addr → Option Obj) : AlV := obsV cn ds gs (frV g (He.asD g n))
def hookV (n : Nat) (cn : List Str) (ds : List Df) (gs : GS) : PySem.W.Hook where
  α := AlV
  obs := fun s => obsVG n cn ds gs s.heap.get?
  val := fun _ => valV ds
  says := fun _ h => ∃ K : PySem.W.Frag, K.In h ∧ (∀ a o, K.lookup a = some o → o.cls ≠ .type "list") ∧ obsV cn ds gs K = valV ds
  of := fun _ _ e => ⟨_, frV_in, fun _ _ => frV_nl, e⟩
  keeps := fun _ _ _ ⟨K, hK, nl, c⟩ k => ⟨K, PySem.W.Frag.In.keeps hK k, nl, c⟩
theorem obsVG_eq {n : Nat} {cn : List Str} {ds : List Df} {gs : GS} {g : Addr → Option Obj} {s : Shared} (h : ∀ a, g a = s.heap.get? a) : obsVG n cn ds gs g = (hookV n cn ds gs).obs s := by
  have e : g = s.heap.get? := funext h
  rw [e] <;> rfl
theorem obsV_at {cn : List Str} {ds : List Df} {gs : GS} {K : PySem.W.Frag} (c : obsV cn ds gs K = valV ds) : exB cn ds gs K = true ∧ ∀ (f : Nat) (d : Df), ds[f]? = some d → ∃ fd, FunD K d.name d.qual d.params d.body d.scope [] [] (dfAd K ds f) fd := by
  obtain ⟨c1, c2⟩ := He.ba (show (exB cn ds gs K && ds.all (Df.ok K)) = true from congrArg (fun z : AlV => z.1) c)
  have e : ds.map (fun d => fnAtK K (d.at_.ad K)) = ds.map Df.val := congrArg (fun z : AlV => z.2) c
  refine ⟨c1, fun f d h => ?_⟩
  have e2 : (ds.map fun d => fnAtK K (d.at_.ad K))[f]? = (ds.map Df.val)[f]? := by rw [e]
  rw [List.getElem?_map, List.getElem?_map, h] at e2
  have r := Df.funD (Option.some.inj e2) (List.all_eq_true.mp c2 d (List.mem_of_getElem? h))
  have ea : dfAd K ds f = d.at_.ad K := by unfold dfAd; rw [h]
  rw [ea]
  exact r
end Ev
end

section
set_option Elab.async false
set_option linter.all false
set_option maxRecDepth 100000
/-! Ev: a law from the evaluator. -/
namespace Ev
open PySem PySem.Spec PyProof.Rows L2

/-- the memory at the law's call: the script -/
def mem0 (ns : List Int) : Mem := (⟨0, .lf, [], []⟩ : Mem).push (.scr (ns.map PV.int))
/-- what a table of defs has to keep -/
structure TabOk' (gs : GS) (ds : List Df) (tab : List Fd) (L : Nat) : Prop where
  tabs : GsOk gs tab
  fd : ∀ f d, nthF tab f = some d → ∃ (df : Df) (ps : List Str), ds[f]? = some df ∧ FnScope df.N ps df.scope ∧
    (∀ (kV doc pm : Value) (an : Option Addr) (cdv ct : Value) (us : List Value), us.length = ps.length → bindArgs (PySem.W.fnOf df.name df.qual df.params df.body df.scope .none kV doc pm an cdv ct) ⟨us, []⟩ = pure (ps.zip us)) ∧
    d = ⟨ps.length, df.N.length, (lev evA gs L).ss ⟨df.N, df.scope, fun _ => true⟩ df.body⟩
theorem rh_script {K : PySem.W.Frag} {C : Nat → Addr} {H : Hp} {a : Addr} {ns : List Int} (nl : ∀ a o, K.lookup a = some o → o.cls ≠ .type "list") (ho : Only H) (hs : SqL K H a (ns.map V.int)) :
    RH K C ⟨fun _ => a, fun _ => a⟩ (mem0 ns) H where
  all := fun n hn => by
    have : n = 0 := by
      have : n < 1 := hn
      omega
    subst this
    exact ⟨_, Mem.get_push_new _ _⟩
  obj := fun n o e => by
    have hn : n < 1 := Mem.get_lt e
    have : n = 0 := by omega
    subst this
    have e2 : (mem0 ns).get 0 = some (.scr (ns.map PV.int)) := Mem.get_push_new _ _
    rw [e2] at e
    cases e
    have hr : Rd H a (.lst (ns.map V.int)) := by
      rcases hs with h | ⟨o, its, n, h1, h2, _⟩
      · exact h
      · exact absurd h2 (nl _ _ h1)
    have nn : H a ≠ none ∧ ∀ us, H a ≠ some (.tup us) := by
      rcases hr with h | ⟨o, h⟩
      · rw [h]; exact ⟨fun z => (nomatch z), fun us z => (nomatch z)⟩
      · rw [h]; exact ⟨fun z => (nomatch z), fun us z => (nomatch z)⟩
    exact ⟨rfl, nn.1, _, hs, nn.2, ints_rps ns⟩
  inj := fun i j hi hj ne => by
    have h1 : i < 1 := hi
    have h2 : j < 1 := hj
    exact absurd (by omega) ne
  lok := fun n hn => by cases hn
  lod := fun n hn => by cases hn
theorem ev_law {P : Program} {w : World} {mg : Str → Option Value} {h : Heap} {fa : Addr} {cn : List Str} {ds : List Df} {gs : GS} {tab : List Fd} {L k li : Nat} {name x : Str} (T : TabOk' gs ds tab L)
    (Y : ∃ K : PySem.W.Frag, K.In h ∧ (∀ a o, K.lookup a = some o → o.cls ≠ .type "list") ∧ obsV cn ds gs K = valV ds) (G : h.Ns mainGlobals mg) (hmg : mg name = some (.ref fa))
    (hl : (name, Rl.fn li) ∈ gs.roles) (hx : ∃ (df : Df), ds[li]? = some df ∧ FnScope df.N [x] df.scope ∧ (∀ (kV doc pm : Value) (an : Option Addr) (cdv ct : Value) (us : List Value), us.length = [x].length → bindArgs (PySem.W.fnOf df.name df.qual df.params df.body df.scope .none kV doc pm an cdv ct) ⟨us, []⟩ = pure ([x].zip us)) ∧
      nthF tab li = some ⟨1, df.N.length, (lev evA gs L).ss ⟨df.N, df.scope, fun _ => true⟩ df.body⟩)
    (ev : ∀ ns : List Int, ns.length ≤ 63 → ∃ h', callD tab (k + 1) li [.ref 0] (mem0 ns) = .ok (.bl true) h') :
    ∃ (K : PySem.W.Frag) (fd : FuncData) (sp : Sp), K.In h ∧ (∀ (s : Shared) (u : Value), BindsTo s fd ⟨[u], []⟩ [(x, u)]) ∧
      (∀ (H : Hp) (a : Addr) (ns : List Int), ns.length ≤ 63 → Only H → SqL K H a (ns.map V.int) → sp [.ref a] H (fun v _ => v = .bl true) fun _ _ _ => False) ∧
      ∀ base : Heap, K.In base → base.Ns mainGlobals mg → FnOk P w K mg base (fun _ _ _ _ _ _ => False) (4 * k + 3 + 1) fa fd [x] sp := by
  obtain ⟨K, KX, nl, c⟩ := Y
  obtain ⟨ce, cd⟩ := obsV_at c
  have st := gst_of (tab := tab) KX G ce
  have efa : fa = (plOf K cn ds).F li := by
    have q := st.gl name li (List.mem_filterMap.mpr ⟨_, hl, rfl⟩)
    rw [hmg] at q
    have q := Option.some.inj q
    injection q
  subst efa
  obtain ⟨df, h1, h2, h3, h4⟩ := hx
  obtain ⟨fd, FD⟩ := cd li df h1
  have hF : ∀ f d, nthF tab f = some d → FnAt K (plOf K cn ds) gs L f d := fun f d e => by
    obtain ⟨df', ps, k1, k2, k3, k4⟩ := T.fd f d e
    obtain ⟨fd', FD'⟩ := cd f df' k1
    exact ⟨_, _, _, _, _, fd', df'.N, ps, FD', k2, k3, k4⟩
  refine ⟨K, fd, fun vs H Q E => spF K (plOf K cn ds) (callD tab (k + 1)) li vs H Q (fun _ _ _ => False), KX, fun s u => FD.bindsA h3 s [u] rfl, fun H a ns hns ho hs => ?_, fun base hb hn => ?_⟩
  · refine ⟨mem0 ns, ⟨fun _ => a, fun _ => a⟩, [.ref 0], rh_script nl ho hs, .cons (.ref (by show 0 < 1; omega)) .nil, ?_⟩
    obtain ⟨h', e⟩ := ev ns hns
    rw [e]
    exact fun m' H' b l rh rb => rb.bl_inv
  · have F := fn_lvl (base := base) (L := L) T.tabs (fns_ok (P := P) (w := w) (base := base) T.tabs st hF k) h4 FD h2 rfl
    refine ⟨fun vs H Q E q => F.len vs H Q _ q, fun A outer s H args us vs Q E hr e0 hb hv hs => ?_⟩
    refine codeAny_mono (F.run A outer s H args us vs Q _ hr e0 hb hv hs) fun r s' hq => ?_
    cases r with
    | ok u => cases u <;> exact hq
    | error e => exact (cx_false hq).elim
end Ev
end

section
set_option Elab.async false
set_option linter.all false
set_option maxRecDepth 100000
/-! Ev: the draws of the laws, in plain Lean. -/
namespace Ev
open PySem
theorem call_eq {tab : List Fd} {f : Nat} {d : Fd} (e : nthF tab f = some d) (k : Nat) (args : List PV) (h : Mem) : callD tab (k + 1) f args h = runFd d (callD tab k) args h := by
  show (match nthF tab f with
    | some d => runFd d (callD tab k) args h
    | none => .bad) = _
  rw [e]
theorem ofO_map {α β : Type} (f : α → β) (o : Option α) (h : Mem) : ofO (o.map f) h = (ofO o h).bind fun a h => .ok (f a) h := by cases o <;> rfl
def bCell (lt : List (Nat × Nat)) : XS := (sSeq (sIf (tE (eCmp .lt (eVar 1) (eLen lt (eVar 0)))) (sRet (eSub (eVar 0) (eVar 1))) sNil) (sRet (eC (.int 0))))
def bDraw : XS := (sSeq (sAsg (eTup (aCons (eC (.int 1000003)) (aCons (eC (.int 1000033)) (aCons (eC (.int 1000037)) (aCons (eC (.int 1000039)) (aCons (eC (.int 1000081)) (aCons (eC (.int 1000099)) (aCons (eC (.int 1000117)) (aCons (eC (.int 1000121)) (aCons (eC (.int 1000133)) (aCons (eC (.int 1000151)) (aCons (eC (.int 1000159)) (aCons (eC (.int 1000171)) (aCons (eC (.int 1000183)) (aCons (eC (.int 1000187)) (aCons (eC (.int 1000193)) (aCons (eC (.int 1000199)) aNil))))))))))))))))) (tgG (.nm 3))) (sRet (eBin .mod (eBin .mod (eB gInt (aCons (eBin .add (eBin .mul (eVar 0) (eC (.int 48271))) (eBin .mul (eVar 1) (eC (.int 69621)))) aNil)) (eSub (eVar 3) (eBin .mod (eB gInt (aCons (eVar 1) aNil)) (eC (.int 16))))) (eVar 2))))
def numFor : XS := (sFor (iR1 (eBin .mod (eB gInt (aCons (eVar 1) aNil)) (eC (.int 24)))) (tgG (.nm 4)) (sAsg (eBin .mul (eVar 3) (eC (.int 1009))) (tgG (.nm 3))))
def bNumber (fD : Nat) : XS := (sSeq (sAsg (eC (.int 1)) (tgG (.nm 3))) (sSeq numFor (sSeq (sAsg (eBin .fdiv (eBin .sub (eVar 0) (eBin .pow (eC (.int 10)) (eC (.int 18)))) (eVar 3)) (tgG (.nm 5))) (sSeq (sIf (tE (eCmp .gt (eVar 5) (eC (.int 0)))) (sRet (eBin .mod (eBin .mod (eB gInt (aCons (eVar 5) aNil)) (eC (.int 1009))) (eVar 2))) sNil) (sSeq (sAsg (eBin .mod (eB gInt (aCons (eVar 0) aNil)) (eC (.int 1000003))) (tgG (.nm 6))) (sRet (eBin .mod (eCall fD (aCons (eBin .mul (eBin .add (eVar 6) (eBin .mul (eC (.int 977)) (eVar 1))) (eBin .add (eBin .add (eVar 6) (eBin .mul (eC (.int 31)) (eVar 1))) (eC (.int 5)))) (aCons (eBin .add (eBin .mod (eB gInt (aCons (eVar 1) aNil)) (eC (.int 9))) (eC (.int 1))) (aCons (eC (.int 999983)) aNil)))) (eVar 2))))))))
def bNext (fC fN : Nat) : XS := (sSeq (sSetI (eVar 0) (eC (.int 2)) (eBin .add (eSub (eVar 0) (eC (.int 2))) (eC (.int 1)))) (sSeq (sAsg (eBin .fdiv (eSub (eVar 0) (eC (.int 2))) (eC (.int 12))) (tgG (.nm 2))) (sSeq (sAsg (eBin .add (eCall fC (aCons (eSub (eVar 0) (eC (.int 0))) (aCons (eBin .add (eSub (eVar 0) (eC (.int 1))) (eVar 2)) aNil))) (eBin .mul (eC (.int 31)) (eVar 2))) (tgG (.nm 3))) (sRet (eCall fN (aCons (eVar 3) (aCons (eBin .add (eBin .mod (eB gInt (aCons (eSub (eVar 0) (eC (.int 2))) aNil)) (eC (.int 12))) (eC (.int 1))) (aCons (eVar 1) aNil))))))))
def bPick (lt : List (Nat × Nat)) (fX : Nat) : XS := (sRet (eSub (eVar 1) (eCall fX (aCons (eVar 0) (aCons (eLen lt (eVar 1)) aNil)))))

section
variable {tab : List Fd} {lt : List (Nat × Nat)} {fC fD fN fX fP k : Nat} {h : Mem}
theorem ixN_ok {n : Nat} {i : Int} (h0 : 0 ≤ i) (h1 : i < n) : ixN n i = some i.toNat := by
  match i, h0 with
  | .ofNat j, _ =>
    have : j < n := by
      have : (j : Int) < n := h1
      omega
    show cnd (Nat.blt j n) (some j) none = some j
    rw [blt_iff.mpr this]
    rfl
theorem cell_ok (hC : nthF tab fC = some ⟨2, 2, bCell lt⟩) {r : Nat} {ns : List Int} {i : Int} (hs : h.get r = some (.scr (ns.map PV.int))) (hi : 0 ≤ i) : ∃ c : Int, callD tab (k + 1) fC [.ref r, .int i] h = .ok (.int c) h := by
  rw [call_eq hC]
  by_cases hl : i < ns.length
  · have hl' : i < ((ns.map PV.int).length : Nat) := by simpa using hl
    have hix := ixN_ok hi hl'
    have hn : i.toNat < ns.length := by omega
    have hg : (ns.map PV.int)[i.toNat]? = some (.int ns[i.toNat]) := by simp [hn]
    have e1 : ilt i (ns.length : Nat) = true := ilt_iff.mpr hl
    refine ⟨ns[i.toNat], ?_⟩
    rw [List.length_map] at hix
    simp [bCell, runFd, sSeq, sIf, sRet, sExpr, sAsg, sOf, endS, tE, tAnd, tOr, tNot, tYes, eCmp, eVar, eC, eBin, eLen, lenV, cmpop, ltV, icmp, eSub, subV, itemsOf, binop, addV, mulV, mapInt2, eB, gInt, gMax2, gMin2, aCons, aNil, eCall, tgG, gName, gUnp, setAll, eTup, eIf, eAnd, eOr, eNot, Res.bind, ofO, Option.map, sNil, cnd, hs, hix, e1, hn]
  · have e1 : ilt i (ns.length : Nat) = false := by
      rw [ilt_eq]
      exact decide_eq_false hl
    exact ⟨0, by simp [bCell, runFd, sSeq, sIf, sRet, sExpr, sAsg, sOf, endS, tE, tAnd, tOr, tNot, tYes, eCmp, eVar, eC, eBin, eLen, lenV, cmpop, ltV, icmp, eSub, subV, itemsOf, binop, addV, mulV, mapInt2, eB, gInt, gMax2, gMin2, aCons, aNil, eCall, tgG, gName, gUnp, setAll, eTup, eIf, eAnd, eOr, eNot, Res.bind, ofO, Option.map, sNil, cnd, hs, e1]⟩
theorem emod_b {i j : Int} (h : 0 < j) : 0 ≤ i % j ∧ i % j < j := ⟨Int.emod_nonneg _ (by omega), Int.emod_lt_of_pos _ h⟩
theorem ilt_t {i j : Int} (h : i < j) : ilt i j = true := ilt_iff.mpr h
theorem ilt_f {i j : Int} (h : ¬ i < j) : ilt i j = false := by rw [ilt_eq]; exact decide_eq_false h
theorem lt64_t {i : Int} (h : -(2 ^ 64) < i ∧ i < 2 ^ 64) : lt64 i = true := lt64_iff.mpr h
def primes : List Int := [1000003, 1000033, 1000037, 1000039, 1000081, 1000099, 1000117, 1000121, 1000133, 1000151, 1000159, 1000171, 1000183, 1000187, 1000193, 1000199]
theorem draw_ok (hD : nthF tab fD = some ⟨3, 4, bDraw⟩) {c i b : Int} (hb : 0 < b) : ∃ v : Int, callD tab (k + 1) fD [.int c, .int i, .int b] h = .ok (.int v) h ∧ 0 ≤ v ∧ v < b := by
  rw [call_eq hD]
  obtain ⟨m0, m1⟩ := emod_b (i := i) (j := 16) (by decide)
  have hix := ixN_ok (n := 16) m0 (by exact_mod_cast m1)
  have hn : (i % 16).toNat < 16 := by omega
  have hp : ∃ q : Int, 0 < q ∧ (primes.map PV.int)[(i % 16).toNat]? = some (.int q) := by
    generalize (i % 16).toNat = n at hn
    match n, hn with
    | 0, _ => exact ⟨_, by decide, rfl⟩
    | 1, _ => exact ⟨_, by decide, rfl⟩
    | 2, _ => exact ⟨_, by decide, rfl⟩
    | 3, _ => exact ⟨_, by decide, rfl⟩
    | 4, _ => exact ⟨_, by decide, rfl⟩
    | 5, _ => exact ⟨_, by decide, rfl⟩
    | 6, _ => exact ⟨_, by decide, rfl⟩
    | 7, _ => exact ⟨_, by decide, rfl⟩
    | 8, _ => exact ⟨_, by decide, rfl⟩
    | 9, _ => exact ⟨_, by decide, rfl⟩
    | 10, _ => exact ⟨_, by decide, rfl⟩
    | 11, _ => exact ⟨_, by decide, rfl⟩
    | 12, _ => exact ⟨_, by decide, rfl⟩
    | 13, _ => exact ⟨_, by decide, rfl⟩
    | 14, _ => exact ⟨_, by decide, rfl⟩
    | 15, _ => exact ⟨_, by decide, rfl⟩
    | n + 16, hn => exact absurd hn (by omega)
  obtain ⟨q, hq, eq⟩ := hp
  have f1 : fits (primes.map PV.int) = true := by decide
  have l1 : lt64 48271 = true := by decide
  have l2 : lt64 69621 = true := by decide
  have l3 : ilt 0 16 = true := by decide
  have hq' := ilt_t hq
  have hb' := ilt_t hb
  obtain ⟨v0, v1⟩ := emod_b (i := (c * 48271 + i * 69621) % q) hb
  refine ⟨_, ?_, v0, v1⟩
  have f1 : fits [PV.int 1000003, .int 1000033, .int 1000037, .int 1000039, .int 1000081, .int 1000099, .int 1000117, .int 1000121, .int 1000133, .int 1000151, .int 1000159, .int 1000171, .int 1000183, .int 1000187, .int 1000193, .int 1000199] = true := by decide
  have eq : [PV.int 1000003, .int 1000033, .int 1000037, .int 1000039, .int 1000081, .int 1000099, .int 1000117, .int 1000121, .int 1000133, .int 1000151, .int 1000159, .int 1000171, .int 1000183, .int 1000187, .int 1000193, .int 1000199][(i % 16).toNat]? = some (.int q) := eq
  by_cases lc : lt64 c = true <;> by_cases li : lt64 i = true <;> simp [bDraw, runFd, sSeq, sIf, sRet, sExpr, sAsg, sOf, endS, tE, tAnd, tOr, tNot, tYes, eCmp, eVar, eC, eBin, eLen, lenV, cmpop, ltV, icmp, eSub, subV, itemsOf, binop, addV, mulV, mapInt2, eB, gInt, gMax2, gMin2, aCons, aNil, eCall, tgG, gName, gUnp, setAll, eTup, eIf, eAnd, eOr, eNot, Res.bind, ofO, Option.map, sNil, cnd, f1, l1, l2, l3, hix, eq, hq', hb', lc, li]
theorem pow_loop {C : Calls} {a b d e g : Option PV} : ∀ (xs : List PV) (p : Int) (o : Option PV), ∃ o', loopS (fun x s h => sOf s (tgG (.nm 4) C x s h) fun s' h' => (sAsg (eBin .mul (eVar 3) (eC (.int 1009))) (tgG (.nm 3))) C s' h') xs [a, b, d, some (.int p), o, e, g] h =
    .nx [a, b, d, some (.int (p * 1009 ^ xs.length)), o', e, g] h
  | [], p, o => ⟨o, by simp [loopS]⟩
  | x :: xs, p, o => by
    obtain ⟨o', ih⟩ := pow_loop (C := C) xs (p * 1009) (some x)
    refine ⟨o', ?_⟩
    have l1 : lt64 1009 = true := by decide
    have e1 : p * 1009 ^ (xs.length + 1) = p * 1009 * 1009 ^ xs.length := by rw [Int.pow_succ, Int.mul_comm (1009 ^ xs.length) 1009, Int.mul_assoc]
    rw [List.length_cons, e1, ← ih]
    by_cases lp : lt64 p = true <;> simp [loopS, runFd, sSeq, sIf, sRet, sExpr, sAsg, sOf, endS, tE, tAnd, tOr, tNot, tYes, eCmp, eVar, eC, eBin, eLen, lenV, cmpop, ltV, icmp, eSub, subV, itemsOf, binop, addV, mulV, mapInt2, eB, gInt, gMax2, gMin2, aCons, aNil, eCall, tgG, gName, gUnp, setAll, eTup, eIf, eAnd, eOr, eNot, Res.bind, ofO, Option.map, sNil, cnd, l1, lp]
theorem upto_len (lo st : Int) : ∀ n : Nat, (upto lo st n).length = n := by
  intro n
  induction n generalizing lo with
  | zero => rfl
  | succ n ih => simp [upto, ih]
theorem pow_small {n : Nat} (hn : n < 24) : Nat.blt ((1009 : Int) ^ n).natAbs.log2 9000 = true := by
  rw [blt_iff]
  have h1 : ((1009 : Int) ^ n).natAbs = 1009 ^ n := by rw [Int.natAbs_pow]; rfl
  have h2 : (1009 : Nat) ^ n < 2 ^ 9000 := Nat.lt_of_le_of_lt (Nat.pow_le_pow_right (by decide) (Nat.le_of_lt hn)) (by decide)
  rw [h1, Nat.log2_lt (Nat.ne_of_gt (Nat.pow_pos (by decide)))]
  exact h2
theorem num_for {C : Calls} {c i b : Int} (hi : 1 ≤ i ∧ i ≤ 12) : ∃ o', numFor C [some (.int c), some (.int i), some (.int b), some (.int 1), none, none, none] h = .nx [some (.int c), some (.int i), some (.int b), some (.int (1009 ^ (i % 24).toNat)), o', none, none] h := by
  obtain ⟨m0, m1⟩ := emod_b (i := i) (j := 24) (by decide)
  obtain ⟨o', hpl⟩ := pow_loop (h := h) (C := C) (a := some (.int c)) (b := some (.int i)) (d := some (.int b)) (e := none) (g := none) (upto 0 1 (i % 24).toNat) 1 none
  rw [upto_len, Int.one_mul] at hpl
  have h62 : lt62 (i % 24) = true := by
    unfold lt62
    rw [ilt_t (by omega), ilt_t (by omega)]
    rfl
  have l24 : ilt 0 24 = true := by decide
  have hi : iR1 (eBin .mod (eB gInt (aCons (eVar 1) aNil)) (eC (.int 24))) C [some (.int c), some (.int i), some (.int b), some (.int 1), none, none, none] h = .ok (upto 0 1 (i % 24).toNat, []) h := by
    simp [iR1, runFd, sSeq, sIf, sRet, sExpr, sAsg, sOf, endS, tE, tAnd, tOr, tNot, tYes, eCmp, eVar, eC, eBin, eLen, lenV, cmpop, ltV, icmp, eSub, subV, itemsOf, binop, addV, mulV, mapInt2, eB, gInt, gMax2, gMin2, aCons, aNil, eCall, tgG, gName, gUnp, setAll, eTup, eIf, eAnd, eOr, eNot, Res.bind, ofO, Option.map, sNil, cnd, l24, h62]
  refine ⟨o', ?_⟩
  unfold numFor sFor
  rw [hi]
  simp only [sOf_ok]
  have hlk : h.lock [] = h := rfl
  rw [hlk, hpl]
  rfl
theorem number_ok (hD : nthF tab fD = some ⟨3, 4, bDraw⟩) (hN : nthF tab fN = some ⟨3, 7, bNumber fD⟩) {c i b : Int} (hi : 1 ≤ i ∧ i ≤ 12) (hb : 0 < b) : ∃ v : Int, callD tab (k + 2) fN [.int c, .int i, .int b] h = .ok (.int v) h ∧ 0 ≤ v ∧ v < b := by
  rw [call_eq hN]
  obtain ⟨m0, m1⟩ := emod_b (i := i) (j := 24) (by decide)
  obtain ⟨o', hpl⟩ := num_for (h := h) (C := callD tab (k + 1)) (c := c) (b := b) hi
  have hpw : ilt 0 ((1009 : Int) ^ (i % 24).toNat) = true := ilt_t (Int.pow_pos (by decide))
  have hps := pow_small (n := (i % 24).toNat) (by omega)
  generalize hP : (1009 : Int) ^ (i % 24).toNat = P at *
  have hb' := ilt_t hb
  have l3 : ilt 0 1009 = true := by decide
  have l4 : ilt 0 1000003 = true := by decide
  have l5 : ilt 0 9 = true := by decide
  have i1 : ile 0 18 = true := by decide
  have i2 : ile 18 1000 = true := by decide
  have i3 : lt64 10 = true := by decide
  have i4 : lt64 977 = true := by decide
  have i5 : lt64 31 = true := by decide
  have i18 : (18 : Int).toNat = 18 := rfl
  by_cases hr : ilt 0 ((c - 1000000000000000000) / P) = true
  · obtain ⟨v0, v1⟩ := emod_b (i := (c - 1000000000000000000) / P % 1009) hb
    refine ⟨_, ?_, v0, v1⟩
    simp [bNumber, runFd, sSeq, sIf, sRet, sExpr, sAsg, sOf, endS, tE, tAnd, tOr, tNot, tYes, eCmp, eVar, eC, eBin, eLen, lenV, cmpop, ltV, icmp, eSub, subV, itemsOf, binop, addV, mulV, mapInt2, eB, gInt, gMax2, gMin2, aCons, aNil, eCall, tgG, gName, gUnp, setAll, eTup, eIf, eAnd, eOr, eNot, Res.bind, ofO, Option.map, sNil, cnd, hpl, hpw, hps, i1, i2, i3, i18, hr, l3, hb']
  · have hr' : ilt 0 ((c - 1000000000000000000) / P) = false := by simpa using hr
    obtain ⟨w0, w1⟩ := emod_b (i := c) (j := 1000003) (by decide)
    have i6 : lt64 (c % 1000003 + 977 * i) = true := lt64_t (by omega)
    obtain ⟨u, eu, u0, u1⟩ := draw_ok (k := k) (h := h) hD (c := (c % 1000003 + 977 * i) * (c % 1000003 + 31 * i + 5)) (i := i % 9 + 1) (b := 999983) (by decide)
    obtain ⟨v0, v1⟩ := emod_b (i := u) hb
    refine ⟨_, ?_, v0, v1⟩
    simp [bNumber, runFd, sSeq, sIf, sRet, sExpr, sAsg, sOf, endS, tE, tAnd, tOr, tNot, tYes, eCmp, eVar, eC, eBin, eLen, lenV, cmpop, ltV, icmp, eSub, subV, itemsOf, binop, addV, mulV, mapInt2, eB, gInt, gMax2, gMin2, aCons, aNil, eCall, tgG, gName, gUnp, setAll, eTup, eIf, eAnd, eOr, eNot, Res.bind, ofO, Option.map, sNil, cnd, hpl, hpw, hps, i1, i2, i3, i18, hr', l3, hb', l4, l5, i4, i5, i6, eu]
/-- the draws' list stands at D: the script, where one begins, how many were drawn -/
structure DR (ns : List Int) (h : Mem) (D : Nat) (b n : Int) : Prop where
  sc : h.get 0 = some (.scr (ns.map PV.int))
  at_ : h.get D = some (.lst [.ref 0, .int b, .int n])
  fr : h.free D = true
  b0 : 0 ≤ b
  n0 : 0 ≤ n
def dNext (h : Mem) (D : Nat) (b n : Int) : Mem := h.set D (.lst [.ref 0, .int b, .int n])
theorem DR.ne {ns : List Int} {D : Nat} {b n : Int} (d : DR ns h D b n) : 0 ≠ D := fun e => by
  have := d.at_
  rw [← e, d.sc] at this
  cases this
theorem DR.next {ns : List Int} {D : Nat} {b n m : Int} (d : DR ns h D b n) (hm : 0 ≤ m) : DR ns (dNext h D b m) D b m where
  sc := by unfold dNext; rw [Mem.get_set_ne _ d.ne]; exact d.sc
  at_ := Mem.get_set_same _ (Mem.get_lt d.at_)
  fr := d.fr
  b0 := d.b0
  n0 := hm
theorem next_ok (hC : nthF tab fC = some ⟨2, 2, bCell lt⟩) (hD : nthF tab fD = some ⟨3, 4, bDraw⟩) (hN : nthF tab fN = some ⟨3, 7, bNumber fD⟩) (hX : nthF tab fX = some ⟨2, 4, bNext fC fN⟩) {ns : List Int} {D : Nat} {b n m : Int} (d : DR ns h D b n) (hm : 0 < m) :
    ∃ v : Int, callD tab (k + 3) fX [.ref D, .int m] h = .ok (.int v) (dNext h D b (n + 1)) ∧ 0 ≤ v ∧ v < m := by
  rw [call_eq hX]
  have d2 := d.next (m := n + 1) (by have := d.n0; omega)
  have n0 := d.n0
  have b0 := d.b0
  have l12 : ilt 0 12 = true := by decide
  have lg : Nat.blt (Nat.log2 12) 9000 = true := by decide +kernel
  have l31 : lt64 31 = true := by decide
  have hat : 0 ≤ (n + 1) / 12 := Int.ediv_nonneg (by omega) (by decide)
  obtain ⟨c, hc⟩ := cell_ok (k := k + 1) hC d2.sc (i := b + (n + 1) / 12) (by omega)
  obtain ⟨q0, q1⟩ := emod_b (i := n + 1) (j := 12) (by decide)
  obtain ⟨v, hv, v0, v1⟩ := number_ok (k := k) (h := dNext h D b (n + 1)) hD hN (c := c + 31 * ((n + 1) / 12)) (i := (n + 1) % 12 + 1) (b := m) (by omega) hm
  refine ⟨v, ?_, v0, v1⟩
  have hset : h.set D (.lst [.ref 0, .int b, .int (n + 1)]) = dNext h D b (n + 1) := rfl
  have x0 : ixN 3 0 = some 0 := rfl
  have x1 : ixN 3 1 = some 1 := rfl
  have x2 : ixN 3 2 = some 2 := rfl
  simp [bNext, runFd, sSeq, sIf, sRet, sExpr, sAsg, sOf, endS, tE, tAnd, tOr, tNot, tYes, eCmp, eVar, eC, eBin, eLen, lenV, cmpop, ltV, icmp, eSub, subV, itemsOf, binop, addV, mulV, mapInt2, eB, gInt, gMax2, gMin2, aCons, aNil, eCall, tgG, gName, gUnp, setAll, eTup, eIf, eAnd, eOr, eNot, Res.bind, ofO, Option.map, sNil, cnd, sSetI, d.at_, d.fr, x0, x1, x2, hset, d2.at_, l12, lg, l31, hc, hv]
theorem pick_ok (hC : nthF tab fC = some ⟨2, 2, bCell lt⟩) (hD : nthF tab fD = some ⟨3, 4, bDraw⟩) (hN : nthF tab fN = some ⟨3, 7, bNumber fD⟩) (hX : nthF tab fX = some ⟨2, 4, bNext fC fN⟩) (hP : nthF tab fP = some ⟨2, 2, bPick lt fX⟩) {ns : List Int} {D t : Nat} {b n : Int} {xs : List PV} (d : DR ns h D b n) (ht : h.get t = some (.lst xs)) (hne : t ≠ D) (hx : xs ≠ []) :
    ∃ x ∈ xs, callD tab (k + 4) fP [.ref D, .ref t] h = .ok x (dNext h D b (n + 1)) := by
  rw [call_eq hP]
  have hl : 0 < xs.length := List.length_pos_iff.mpr hx
  obtain ⟨v, hv, v0, v1⟩ := next_ok (k := k) hC hD hN hX d (m := xs.length) (by omega)
  have ht2 : (dNext h D b (n + 1)).get t = some (.lst xs) := by unfold dNext; rw [Mem.get_set_ne _ hne]; exact ht
  have hix := ixN_ok v0 v1
  have hn : v.toNat < xs.length := by omega
  refine ⟨xs[v.toNat], List.getElem_mem hn, ?_⟩
  simp [bPick, runFd, sSeq, sIf, sRet, sExpr, sAsg, sOf, endS, tE, tAnd, tOr, tNot, tYes, eCmp, eVar, eC, eBin, eLen, lenV, cmpop, ltV, icmp, eSub, subV, itemsOf, binop, addV, mulV, mapInt2, eB, gInt, gMax2, gMin2, aCons, aNil, eCall, tgG, gName, gUnp, setAll, eTup, eIf, eAnd, eOr, eNot, Res.bind, ofO, Option.map, sNil, cnd, ht, hv, ht2, hix, hn]
end
end Ev
end

section
set_option Elab.async false
set_option linter.all false
set_option maxRecDepth 100000
/-! Ev: drawn maps, in plain Lean. -/
namespace Ev
open PySem
/-- all but D stays -/
structure Kp (D : Nat) (h h' : Mem) : Prop where
  sz : h.size ≤ h'.size
  lk : h'.locks = h.locks
  ld : h'.dl = h.dl
  get : ∀ n o, n ≠ D → h.get n = some o → h'.get n = some o
theorem Kp.refl {D : Nat} {h : Mem} : Kp D h h := ⟨Nat.le_refl _, rfl, rfl, fun _ _ _ e => e⟩
theorem Kp.trans {D : Nat} {h h1 h2 : Mem} (a : Kp D h h1) (b : Kp D h1 h2) : Kp D h h2 := ⟨Nat.le_trans a.sz b.sz, b.lk.trans a.lk, b.ld.trans a.ld, fun n o ne e => b.get n o ne (a.get n o ne e)⟩
theorem Kp.push {D : Nat} {h : Mem} {o : Ob} : Kp D h (h.push o) := ⟨by simp, rfl, rfl, fun n u _ e => Mem.get_push e⟩
theorem Kp.free {D : Nat} {h h' : Mem} (a : Kp D h h') (n : Nat) : h'.free n = h.free n := by unfold Mem.free; rw [a.lk]
def DRx (ns : List Int) (h : Mem) (D : Nat) : Prop := ∃ b n, DR ns h D b n
theorem DRx.push {ns : List Int} {h : Mem} {D : Nat} {o : Ob} (d : DRx ns h D) : DRx ns (h.push o) D := by
  obtain ⟨b, n, d⟩ := d
  exact ⟨b, n, Mem.get_push d.sc, Mem.get_push d.at_, d.fr, d.b0, d.n0⟩
/-- another list is changed -/
theorem DRx.set {ns : List Int} {h : Mem} {D R : Nat} {o : Ob} (d : DRx ns h D) (h1 : R ≠ D) (h2 : R ≠ 0) : DRx ns (h.set R o) D := by
  obtain ⟨b, n, d⟩ := d
  exact ⟨b, n, by rw [Mem.get_set_ne _ h2.symm]; exact d.sc, by rw [Mem.get_set_ne _ h1.symm]; exact d.at_, d.fr, d.b0, d.n0⟩
theorem DRx.lt {ns : List Int} {h : Mem} {D : Nat} (d : DRx ns h D) : D < h.size ∧ 0 < h.size := by
  obtain ⟨b, n, d⟩ := d
  exact ⟨Mem.get_lt d.at_, Mem.get_lt d.sc⟩
theorem loopS_inv {f : PV → Env → Mem → SR} {P : Nat → Env → Mem → Prop} : ∀ (xs : List PV) (j : Nat) (s : Env) (h : Mem), P j s h → (∀ i x s h, xs[i]? = some x → P (j + i) s h → ∃ s' h', f x s h = .nx s' h' ∧ P (j + i + 1) s' h') → ∃ s' h', loopS f xs s h = .nx s' h' ∧ P (j + xs.length) s' h'
  | [], j, s, h, p, _ => ⟨s, h, rfl, p⟩
  | x :: xs, j, s, h, p, st => by
    obtain ⟨s1, h1, e, p1⟩ := st 0 x s h rfl p
    obtain ⟨s2, h2, e2, p2⟩ := loopS_inv (f := f) (P := P) xs (j + 1) s1 h1 p1 fun i y s h hy q => by
      have := st (i + 1) y s h (by simpa using hy) (by rw [show j + (i + 1) = j + 1 + i by omega]; exact q)
      rw [show j + (i + 1) + 1 = j + 1 + i + 1 by omega] at this
      exact this
    refine ⟨s2, h2, ?_, by rw [List.length_cons, show j + (xs.length + 1) = j + 1 + xs.length by omega]; exact p2⟩
    unfold loopS
    rw [e]
    exact e2
/-- for i in range(n) -/
theorem sFor_inv {C : Calls} {g : XG} {b : XS} {i : XI} {xs : List PV} {P : Nat → Env → Mem → Prop} {s : Env} {h h0 : Mem} (hi : i C s h0 = .ok (xs, []) h) (p0 : P 0 s h) (st : ∀ i x s h, xs[i]? = some x → P i s h → ∃ s' h', sOf s (g C x s h) (fun s' h' => b C s' h') = .nx s' h' ∧ P (i + 1) s' h') :
    ∃ s' h', sFor i g b C s h0 = .nx s' h' ∧ P xs.length s' h' := by
  obtain ⟨s', h', e, p⟩ := loopS_inv (f := fun x s h => sOf s (g C x s h) fun s' h' => b C s' h') (P := P) xs 0 s h p0 fun i x s h hx p => by
    obtain ⟨s', h', e, p'⟩ := st i x s h hx (by simpa using p)
    exact ⟨s', h', e, by simpa using p'⟩
  refine ⟨s', h', ?_, by simpa using p⟩
  unfold sFor
  rw [hi]
  have hl : h.lock [] = h := rfl
  simp only [sOf_ok, hl, e]
  rfl
theorem upto_item {n i : Nat} {x : PV} : ∀ {lo : Int}, (upto lo 1 n)[i]? = some x → i < n ∧ x = .int (lo + i) := by
  induction n generalizing i with
  | zero => intro lo h; simp [upto] at h
  | succ n ih =>
    intro lo h
    cases i with
    | zero => simp [upto] at h; exact ⟨by omega, by rw [← h]; simp⟩
    | succ i =>
      simp only [upto, List.getElem?_cons_succ] at h
      obtain ⟨h1, h2⟩ := ih h
      exact ⟨by omega, by rw [h2]; congr 1; omega⟩
theorem lt62_t {i : Int} (h0 : 0 ≤ i) (h1 : i < 1000) : lt62 i = true := by
  unfold lt62
  rw [ilt_t (by omega), ilt_t (by omega)]
  rfl
def LW (tab : List Fd) (lt : List (Nat × Nat)) (fC fD fN fX fP : Nat) : Prop := nthF tab fC = some ⟨2, 2, bCell lt⟩ ∧ nthF tab fD = some ⟨3, 4, bDraw⟩ ∧ nthF tab fN = some ⟨3, 7, bNumber fD⟩ ∧ nthF tab fX = some ⟨2, 4, bNext fC fN⟩ ∧ nthF tab fP = some ⟨2, 2, bPick lt fX⟩
section
variable {tab : List Fd} {lt : List (Nat × Nat)} {fC fD fN fX fP K : Nat} {h : Mem} {ns : List Int} {D : Nat}
theorem kp_next {b n m : Int} (d : DR ns h D b n) : Kp D h (dNext h D b m) := ⟨Nat.le_refl _, rfl, rfl, fun i o ne e => by unfold dNext; rw [Mem.get_set_ne _ ne]; exact e⟩
theorem nx (L : LW tab lt fC fD fN fX fP) (hK : 3 ≤ K) (d : DRx ns h D) {m : Int} (hm : 0 < m) : ∃ v h', callD tab K fX [.ref D, .int m] h = .ok (.int v) h' ∧ 0 ≤ v ∧ v < m ∧ DRx ns h' D ∧ Kp D h h' := by
  obtain ⟨h1, h2, h3, h4, h5⟩ := L
  obtain ⟨b, n, d⟩ := d
  obtain ⟨k, rfl⟩ : ∃ k, K = k + 3 := ⟨K - 3, by omega⟩
  obtain ⟨v, e, v0, v1⟩ := next_ok (k := k) h1 h2 h3 h4 d hm
  exact ⟨v, _, e, v0, v1, ⟨b, n + 1, d.next (by have := d.n0; omega)⟩, kp_next d⟩
theorem pk (L : LW tab lt fC fD fN fX fP) (hK : 4 ≤ K) (d : DRx ns h D) {t : Nat} {xs : List PV} (ht : h.get t = some (.lst xs)) (hne : t ≠ D) (hx : xs ≠ []) : ∃ x h', x ∈ xs ∧ callD tab K fP [.ref D, .ref t] h = .ok x h' ∧ DRx ns h' D ∧ Kp D h h' := by
  obtain ⟨h1, h2, h3, h4, h5⟩ := L
  obtain ⟨b, n, d⟩ := d
  obtain ⟨k, rfl⟩ : ∃ k, K = k + 4 := ⟨K - 4, by omega⟩
  obtain ⟨x, hx, e⟩ := pick_ok (k := k) h1 h2 h3 h4 h5 d ht hne hx
  exact ⟨x, _, hx, e, ⟨b, n + 1, d.next (by have := d.n0; omega)⟩, kp_next d⟩
/-- a road of a map of so many places -/
def RoadOk (many : Int) (r : List Int) : Prop := ∃ f l t m, r = [f, l, t, m] ∧ 0 ≤ f ∧ f < l ∧ l < many ∧ 1 ≤ t ∧ t ≤ 4 ∧ 0 ≤ m ∧ m ≤ 3
def mapB1 (fX fP : Nat) : XS := (sSeq (sAsg (eCall fX (aCons (eVar 0) (aCons (eBin .sub (eVar 2) (eC (.int 1))) aNil))) (tgG (.nm 8))) (sSeq (sAsg (eBin .add (eBin .add (eVar 8) (eC (.int 1))) (eCall fX (aCons (eVar 0) (aCons (eBin .sub (eBin .sub (eVar 2) (eC (.int 1))) (eVar 8)) aNil)))) (tgG (.nm 9))) (sExpr (eApp (eVar 3) (eTup (aCons (eVar 8) (aCons (eVar 9) (aCons (eBin .add (eC (.int 1)) (eCall fX (aCons (eVar 0) (aCons (eC (.int 3)) aNil)))) (aCons (eCall fP (aCons (eVar 0) (aCons (eNew (lNew (aCons (eC (.int 0)) (aCons (eC (.int 1)) (aCons (eC (.int 1)) (aCons (eC (.int 1)) (aCons (eC (.int 2)) (aCons (eC (.int 3)) aNil)))))))) aNil))) aNil)))))))))
def mapB2 (fX : Nat) : XS := (sExpr (eApp (eVar 3) (eTup (aCons (eVar 6) (aCons (eBin .add (eVar 6) (eC (.int 1))) (aCons (eBin .add (eC (.int 1)) (eCall fX (aCons (eVar 0) (aCons (eC (.int 2)) aNil)))) (aCons (eC (.int 1)) aNil)))))))
def mapB3 (fX fP : Nat) : XS := (sExpr (eApp (eVar 5) (eCall fP (aCons (eVar 0) (aCons (eNew (lNew (aCons (eC .non) (aCons (eBin .add (eC (.int 1)) (eCall fX (aCons (eVar 0) (aCons (eC (.int 9)) aNil)))) (aCons (eC (.int 2)) (aCons (eC (.int 3)) aNil)))))) aNil)))))
/-- while a list is made: at R, behind h0 -/
structure LS (ns : List Int) (h0 h : Mem) (D R : Nat) (xs : List PV) : Prop where
  d : DRx ns h D
  at_ : h.get R = some (.lst xs)
  fr : h.free R = true
  ne : R ≠ D ∧ R ≠ 0
  kp : ∀ n o, n < h0.size → n ≠ D → h0.get n = some o → h.get n = some o
  sz : h0.size ≤ h.size
  nw : h0.size ≤ R
  lk : h.locks = h0.locks
  ld : h.dl = h0.dl
theorem LS.step {h0 h' : Mem} {R : Nat} {xs : List PV} (r : LS ns h0 h D R xs) (d : DRx ns h' D) (kp : Kp D h h') : LS ns h0 h' D R xs :=
  ⟨d, kp.get _ _ r.ne.1 r.at_, by rw [kp.free]; exact r.fr, r.ne, fun n o hn ne e => kp.get n o ne (r.kp n o hn ne e), Nat.le_trans r.sz kp.sz, r.nw, kp.lk.trans r.lk, kp.ld.trans r.ld⟩
theorem LS.app {h0 : Mem} {R : Nat} {xs : List PV} {x : PV} (r : LS ns h0 h D R xs) : LS ns h0 (h.set R (.lst (xs ++ [x]))) D R (xs ++ [x]) :=
  ⟨r.d.set r.ne.1 r.ne.2, Mem.get_set_same _ (Mem.get_lt r.at_), r.fr, r.ne, fun n o hn ne e => by rw [Mem.get_set_ne _ (by have := r.nw; omega)]; exact r.kp n o hn ne e, r.sz, r.nw, r.lk, r.ld⟩
/-- a new list -/
theorem LS.new (d : DRx ns h D) (hl : h.locks = []) : LS ns h (h.push (.lst [])) D h.size [] := by
  have hlt := d.lt
  exact ⟨d.push, Mem.get_push_new _ _, by unfold Mem.free; rw [Mem.locks_push, hl]; rfl, ⟨by omega, by omega⟩, fun n o hn ne e => Mem.get_push e, by simp, Nat.le_refl _, rfl, rfl⟩
theorem LS.kp' {h0 : Mem} {R : Nat} {xs : List PV} (r : LS ns h0 h D R xs) : Kp D h0 h := ⟨r.sz, r.lk, r.ld, fun n o ne e => r.kp n o (Mem.get_lt e) ne e⟩
theorem fits_small {α : Type} {xs : List α} (h : xs.length ≤ 60000) : fits xs = true := by
  unfold fits fitsN
  rw [Nat.ble_eq]
  omega
theorem mapB1_ok (L : LW tab lt fC fD fN fX fP) (hK : 4 ≤ K) {h0 : Mem} {R : Nat} {many : Int} {xs : List PV} (r : LS ns h0 h D R xs) (hm : 2 ≤ many) (hl : xs.length ≤ 1000) {o1 o4 o5 o6 o7 o8 o9 : Option PV} :
    ∃ o8' o9' h' x, mapB1 fX fP (callD tab K) [some (.ref D), o1, some (.int many), some (.ref R), o4, o5, o6, o7, o8, o9] h = .nx [some (.ref D), o1, some (.int many), some (.ref R), o4, o5, o6, o7, o8', o9'] h' ∧ LS ns h0 h' D R (xs ++ [tupI x]) ∧ RoadOk many x := by
  obtain ⟨f, h1, e1, f0, f1, d1, k1⟩ := nx (K := K) L (by omega) r.d (m := many - 1) (by omega)
  have r1 := r.step d1 k1
  obtain ⟨l, h2, e2, l0, l1, d2, k2⟩ := nx (K := K) L (by omega) r1.d (m := many - 1 - f) (by omega)
  have r2 := r1.step d2 k2
  obtain ⟨t, h3, e3, t0, t1, d3, k3⟩ := nx (K := K) L (by omega) r2.d (m := 3) (by decide)
  have r3 := r2.step d3 k3
  have r4 := r3.step (d3.push (o := .lst [.int 0, .int 1, .int 1, .int 1, .int 2, .int 3])) Kp.push
  have hlt := d3.lt
  obtain ⟨x, h5, hx, e5, d5, k5⟩ := pk (K := K) L (by omega) r4.d (t := h3.size) (Mem.get_push_new _ _) (by omega) (by simp)
  have r5 := r4.step d5 k5
  have hmel : ∃ m : Int, x = .int m ∧ 0 ≤ m ∧ m ≤ 3 := by
    simp only [List.mem_cons, List.not_mem_nil, or_false] at hx
    rcases hx with z | z | z | z | z | z <;> exact ⟨_, z, by decide, by decide⟩
  obtain ⟨m, rfl, m0, m1⟩ := hmel
  have ro : RoadOk many [f, f + 1 + l, 1 + t, m] := ⟨f, f + 1 + l, 1 + t, m, rfl, f0, by omega, by omega, by omega, by omega, m0, m1⟩
  refine ⟨some (.int f), some (.int (f + 1 + l)), _, [f, f + 1 + l, 1 + t, m], ?_, r5.app, ro⟩
  have ff : fits xs = true := fits_small (by omega)
  have f4 : ∀ a b c d : PV, fits [a, b, c, d] = true := fun _ _ _ _ => rfl
  have f6 : ∀ a b c d e f : PV, fits [a, b, c, d, e, f] = true := fun _ _ _ _ _ _ => rfl
  have tu : tupI [f, f + 1 + l, 1 + t, m] = .tup [.int f, .int (f + 1 + l), .int (1 + t), .int m] := rfl
  simp [mapB1, runFd, sSeq, sIf, sRet, sExpr, sAsg, sOf, endS, tE, tAnd, tOr, tNot, tYes, eCmp, eVar, eC, eBin, eLen, lenV, cmpop, ltV, icmp, eSub, subV, itemsOf, binop, addV, mulV, mapInt2, eB, gInt, gMax2, gMin2, aCons, aNil, eCall, tgG, gName, gUnp, setAll, eTup, eIf, eAnd, eOr, eNot, Res.bind, ofO, Option.map, sNil, cnd, eApp, eNew, lNew, e1, e2, e3, e5, r2.at_, r5.at_, r5.fr, ff, f4, f6, tu]
theorem mapB2_ok (L : LW tab lt fC fD fN fX fP) (hK : 4 ≤ K) {h0 : Mem} {R : Nat} {many pl : Int} {xs : List PV} (r : LS ns h0 h D R xs) (hp : 0 ≤ pl ∧ pl < many - 1) (hl : xs.length ≤ 1000) {o1 o4 o5 o7 o8 o9 : Option PV} :
    ∃ h' x, mapB2 fX (callD tab K) [some (.ref D), o1, some (.int many), some (.ref R), o4, o5, some (.int pl), o7, o8, o9] h = .nx [some (.ref D), o1, some (.int many), some (.ref R), o4, o5, some (.int pl), o7, o8, o9] h' ∧ LS ns h0 h' D R (xs ++ [tupI x]) ∧ RoadOk many x := by
  obtain ⟨t, h3, e3, t0, t1, d3, k3⟩ := nx (K := K) L (by omega) r.d (m := 2) (by decide)
  have r3 := r.step d3 k3
  have ro : RoadOk many [pl, pl + 1, 1 + t, 1] := ⟨pl, pl + 1, 1 + t, 1, rfl, hp.1, by omega, by omega, by omega, by omega, by decide, by decide⟩
  refine ⟨_, [pl, pl + 1, 1 + t, 1], ?_, r3.app, ro⟩
  have ff : fits xs = true := fits_small (by omega)
  have f4 : ∀ a b c d : PV, fits [a, b, c, d] = true := fun _ _ _ _ => rfl
  have tu : tupI [pl, pl + 1, 1 + t, 1] = .tup [.int pl, .int (pl + 1), .int (1 + t), .int 1] := rfl
  simp [mapB2, runFd, sSeq, sIf, sRet, sExpr, sAsg, sOf, endS, tE, tAnd, tOr, tNot, tYes, eCmp, eVar, eC, eBin, eLen, lenV, cmpop, ltV, icmp, eSub, subV, itemsOf, binop, addV, mulV, mapInt2, eB, gInt, gMax2, gMin2, aCons, aNil, eCall, tgG, gName, gUnp, setAll, eTup, eIf, eAnd, eOr, eNot, Res.bind, ofO, Option.map, sNil, cnd, eApp, e3, r.at_, r3.at_, r3.fr, ff, f4, tu]
def PriceOk (x : PV) : Prop := x = .non ∨ ∃ i : Int, x = .int i ∧ 1 ≤ i ∧ i ≤ 9
theorem mapB3_ok (L : LW tab lt fC fD fN fX fP) (hK : 4 ≤ K) {h0 : Mem} {R : Nat} {xs : List PV} (r : LS ns h0 h D R xs) (hl : xs.length ≤ 1000) {o1 o2 o3 o4 o6 o7 o8 o9 : Option PV} :
    ∃ h' x, mapB3 fX fP (callD tab K) [some (.ref D), o1, o2, o3, o4, some (.ref R), o6, o7, o8, o9] h = .nx [some (.ref D), o1, o2, o3, o4, some (.ref R), o6, o7, o8, o9] h' ∧ LS ns h0 h' D R (xs ++ [x]) ∧ PriceOk x := by
  obtain ⟨t, h3, e3, t0, t1, d3, k3⟩ := nx (K := K) L (by omega) r.d (m := 9) (by decide)
  have r3 := r.step d3 k3
  have r4 := r3.step (d3.push (o := .lst [.non, .int (1 + t), .int 2, .int 3])) Kp.push
  have hlt := d3.lt
  obtain ⟨x, h5, hx, e5, d5, k5⟩ := pk (K := K) L (by omega) r4.d (t := h3.size) (Mem.get_push_new _ _) (by omega) (by simp)
  have r5 := r4.step d5 k5
  have po : PriceOk x := by
    simp only [List.mem_cons, List.not_mem_nil, or_false] at hx
    rcases hx with z | z | z | z
    · exact .inl z
    · exact .inr ⟨_, z, by omega, by omega⟩
    · exact .inr ⟨_, z, by decide, by decide⟩
    · exact .inr ⟨_, z, by decide, by decide⟩
  refine ⟨_, x, ?_, r5.app, po⟩
  have ff : fits xs = true := fits_small (by omega)
  have f4 : ∀ a b c d : PV, fits [a, b, c, d] = true := fun _ _ _ _ => rfl
  simp [mapB3, runFd, sSeq, sIf, sRet, sExpr, sAsg, sOf, endS, tE, tAnd, tOr, tNot, tYes, eCmp, eVar, eC, eBin, eLen, lenV, cmpop, ltV, icmp, eSub, subV, itemsOf, binop, addV, mulV, mapInt2, eB, gInt, gMax2, gMin2, aCons, aNil, eCall, tgG, gName, gUnp, setAll, eTup, eIf, eAnd, eOr, eNot, Res.bind, ofO, Option.map, sNil, cnd, eApp, eNew, lNew, e3, e5, r.at_, r5.at_, r5.fr, ff, f4]
/-! the loops -/
def mapF1 (fX fP : Nat) : XS := (sFor (iR1 (eBin .add (eC (.int 1)) (eCall fX (aCons (eVar 0) (aCons (eC (.int 5)) aNil))))) (tgG (.nm 4)) (mapB1 fX fP))
def mapF2 (fX : Nat) : XS := (sFor (iR1 (eBin .sub (eVar 2) (eC (.int 1)))) (tgG (.nm 6)) (mapB2 fX))
def mapF3 (fX fP : Nat) : XS := (sFor (iR1 (eVar 2)) (tgG (.nm 6)) (mapB3 fX fP))
theorem map_app {rs : List (List Int)} {x : List Int} : rs.map tupI ++ [tupI x] = (rs ++ [x]).map tupI := by simp
theorem mapF1_ok (L : LW tab lt fC fD fN fX fP) (hK : 4 ≤ K) {h0 : Mem} {R : Nat} {many : Int} (r : LS ns h0 h D R []) (hm : 2 ≤ many) {o1 o4 o5 o6 o7 o8 o9 : Option PV} :
    ∃ (o4' o8' o9' : Option PV) (h' : Mem) (rs : List (List Int)), mapF1 fX fP (callD tab K) [some (.ref D), o1, some (.int many), some (.ref R), o4, o5, o6, o7, o8, o9] h = .nx [some (.ref D), o1, some (.int many), some (.ref R), o4', o5, o6, o7, o8', o9'] h' ∧ LS ns h0 h' D R (rs.map tupI) ∧ (∀ x ∈ rs, RoadOk many x) ∧ 1 ≤ rs.length ∧ rs.length ≤ 5 := by
  obtain ⟨n, h1, e1, n0, n1, d1, k1⟩ := nx (K := K) L (by omega) r.d (m := 5) (by decide)
  have r1 := r.step d1 k1
  have h62 := lt62_t (i := 1 + n) (by omega) (by omega)
  have hi : iR1 (eBin .add (eC (.int 1)) (eCall fX (aCons (eVar 0) (aCons (eC (.int 5)) aNil)))) (callD tab K) [some (.ref D), o1, some (.int many), some (.ref R), o4, o5, o6, o7, o8, o9] h = .ok (upto 0 1 (1 + n).toNat, []) h1 := by
    simp [iR1, runFd, sSeq, sIf, sRet, sExpr, sAsg, sOf, endS, tE, tAnd, tOr, tNot, tYes, eCmp, eVar, eC, eBin, eLen, lenV, cmpop, ltV, icmp, eSub, subV, itemsOf, binop, addV, mulV, mapInt2, eB, gInt, gMax2, gMin2, aCons, aNil, eCall, tgG, gName, gUnp, setAll, eTup, eIf, eAnd, eOr, eNot, Res.bind, ofO, Option.map, sNil, cnd, e1, h62]
  obtain ⟨s', h', e, p⟩ := sFor_inv (g := tgG (.nm 4)) (b := mapB1 fX fP) (P := fun i s h => ∃ (o4' o8' o9' : Option PV) (rs : List (List Int)), s = [some (.ref D), o1, some (.int many), some (.ref R), o4', o5, o6, o7, o8', o9'] ∧ LS ns h0 h D R (rs.map tupI) ∧ (∀ x ∈ rs, RoadOk many x) ∧ rs.length = i ∧ i ≤ 5) hi
    ⟨o4, o8, o9, [], rfl, r1, fun x hx => (by cases hx), rfl, by omega⟩ fun i x s h hx ⟨o4', o8', o9', rs, es, rr, hr, hlen, hi5⟩ => by
      subst es
      have hi2 := (upto_item hx).1
      obtain ⟨a8, a9, h2, y, e2, r2, ry⟩ := mapB1_ok (o4 := some x) (o5 := o5) (o6 := o6) (o7 := o7) (o8 := o8') (o9 := o9') (o1 := o1) L hK rr hm (by rw [List.length_map]; omega)
      refine ⟨_, h2, ?_, some x, a8, a9, rs ++ [y], rfl, by rw [← map_app]; exact r2, fun z hz => ?_, by simp [hlen], by omega⟩
      · simpa [sOf, tgG, gName] using e2
      · rcases List.mem_append.mp hz with q | q
        · exact hr z q
        · rw [List.mem_singleton.mp q]; exact ry
  obtain ⟨o4', o8', o9', rs, es, rr, hr, hlen, hi5⟩ := p
  rw [upto_len] at hlen hi5
  subst es
  exact ⟨o4', o8', o9', h', rs, e, rr, hr, by omega, by omega⟩
theorem mapF2_ok (L : LW tab lt fC fD fN fX fP) (hK : 4 ≤ K) {h0 : Mem} {R : Nat} {many : Int} {rs : List (List Int)} (r : LS ns h0 h D R (rs.map tupI)) (hr : ∀ x ∈ rs, RoadOk many x) (hl : rs.length ≤ 5) (hm : 2 ≤ many ∧ many ≤ 9) {o1 o4 o5 o6 o7 o8 o9 : Option PV} :
    ∃ (o6' : Option PV) (h' : Mem) (rs' : List (List Int)), mapF2 fX (callD tab K) [some (.ref D), o1, some (.int many), some (.ref R), o4, o5, o6, o7, o8, o9] h = .nx [some (.ref D), o1, some (.int many), some (.ref R), o4, o5, o6', o7, o8, o9] h' ∧ LS ns h0 h' D R (rs'.map tupI) ∧ (∀ x ∈ rs', RoadOk many x) ∧ rs.length ≤ rs'.length ∧ rs'.length ≤ 14 := by
  have h62 := lt62_t (i := many - 1) (by omega) (by omega)
  have hi : iR1 (eBin .sub (eVar 2) (eC (.int 1))) (callD tab K) [some (.ref D), o1, some (.int many), some (.ref R), o4, o5, o6, o7, o8, o9] h = .ok (upto 0 1 (many - 1).toNat, []) h := by
    simp [iR1, runFd, sSeq, sIf, sRet, sExpr, sAsg, sOf, endS, tE, tAnd, tOr, tNot, tYes, eCmp, eVar, eC, eBin, eLen, lenV, cmpop, ltV, icmp, eSub, subV, itemsOf, binop, addV, mulV, mapInt2, eB, gInt, gMax2, gMin2, aCons, aNil, eCall, tgG, gName, gUnp, setAll, eTup, eIf, eAnd, eOr, eNot, Res.bind, ofO, Option.map, sNil, cnd, h62]
  obtain ⟨s', h', e, p⟩ := sFor_inv (g := tgG (.nm 6)) (b := mapB2 fX) (P := fun i s h => ∃ (o6' : Option PV) (rs' : List (List Int)), s = [some (.ref D), o1, some (.int many), some (.ref R), o4, o5, o6', o7, o8, o9] ∧ LS ns h0 h D R (rs'.map tupI) ∧ (∀ x ∈ rs', RoadOk many x) ∧ rs'.length = rs.length + i ∧ i ≤ 8) hi
    ⟨o6, rs, rfl, r, hr, rfl, by omega⟩ fun i x s h hx ⟨o6', rs', es, rr, hr', hlen, hi5⟩ => by
      subst es
      obtain ⟨hi2, ex⟩ := upto_item hx
      subst ex
      obtain ⟨h2, y, e2, r2, ry⟩ := mapB2_ok (pl := 0 + (i : Int)) (o4 := o4) (o5 := o5) (o7 := o7) (o8 := o8) (o9 := o9) (o1 := o1) (many := many) L hK rr (by omega) (by rw [List.length_map]; omega)
      refine ⟨_, h2, ?_, some (.int (0 + i)), rs' ++ [y], rfl, by rw [← map_app]; exact r2, fun z hz => ?_, by simp [hlen]; omega, by omega⟩
      · simpa [sOf, tgG, gName] using e2
      · rcases List.mem_append.mp hz with q | q
        · exact hr' z q
        · rw [List.mem_singleton.mp q]; exact ry
  obtain ⟨o6', rs', es, rr, hr', hlen, hi5⟩ := p
  rw [upto_len] at hlen hi5
  subst es
  exact ⟨o6', h', rs', e, rr, hr', by omega, by omega⟩
theorem mapF3_ok (L : LW tab lt fC fD fN fX fP) (hK : 4 ≤ K) {h0 : Mem} {R : Nat} {many : Int} (r : LS ns h0 h D R []) (hm : 0 ≤ many ∧ many ≤ 9) {o1 o3 o4 o6 o7 o8 o9 : Option PV} :
    ∃ (o6' : Option PV) (h' : Mem) (ps : List PV), mapF3 fX fP (callD tab K) [some (.ref D), o1, some (.int many), o3, o4, some (.ref R), o6, o7, o8, o9] h = .nx [some (.ref D), o1, some (.int many), o3, o4, some (.ref R), o6', o7, o8, o9] h' ∧ LS ns h0 h' D R ps ∧ (∀ x ∈ ps, PriceOk x) ∧ (ps.length : Int) = many := by
  have h62 := lt62_t (i := many) (by omega) (by omega)
  have hi : iR1 (eVar 2) (callD tab K) [some (.ref D), o1, some (.int many), o3, o4, some (.ref R), o6, o7, o8, o9] h = .ok (upto 0 1 many.toNat, []) h := by
    simp [iR1, runFd, sSeq, sIf, sRet, sExpr, sAsg, sOf, endS, tE, tAnd, tOr, tNot, tYes, eCmp, eVar, eC, eBin, eLen, lenV, cmpop, ltV, icmp, eSub, subV, itemsOf, binop, addV, mulV, mapInt2, eB, gInt, gMax2, gMin2, aCons, aNil, eCall, tgG, gName, gUnp, setAll, eTup, eIf, eAnd, eOr, eNot, Res.bind, ofO, Option.map, sNil, cnd, h62]
  obtain ⟨s', h', e, p⟩ := sFor_inv (g := tgG (.nm 6)) (b := mapB3 fX fP) (P := fun i s h => ∃ (o6' : Option PV) (ps : List PV), s = [some (.ref D), o1, some (.int many), o3, o4, some (.ref R), o6', o7, o8, o9] ∧ LS ns h0 h D R ps ∧ (∀ x ∈ ps, PriceOk x) ∧ ps.length = i ∧ i ≤ 9) hi
    ⟨o6, [], rfl, r, fun x hx => (by cases hx), rfl, by omega⟩ fun i x s h hx ⟨o6', ps, es, rr, hr', hlen, hi5⟩ => by
      subst es
      have hi2 := (upto_item hx).1
      obtain ⟨h2, y, e2, r2, ry⟩ := mapB3_ok (o1 := o1) (o2 := some (.int many)) (o3 := o3) (o4 := o4) (o6 := some x) (o7 := o7) (o8 := o8) (o9 := o9) L hK rr (by omega)
      refine ⟨_, h2, ?_, some x, ps ++ [y], rfl, r2, fun z hz => ?_, by simp [hlen], by omega⟩
      · simpa [sOf, tgG, gName] using e2
      · rcases List.mem_append.mp hz with q | q
        · exact hr' z q
        · rw [List.mem_singleton.mp q]; exact ry
  obtain ⟨o6', ps, es, rr, hr', hlen, hi5⟩ := p
  rw [upto_len] at hlen hi5
  subst es
  exact ⟨o6', h', ps, e, rr, hr', by omega⟩
end
end Ev
end

section
set_option Elab.async false
set_option linter.all false
set_option maxRecDepth 100000
/-! Ev: comparisons, comprehensions, the checks of a map, in plain Lean. -/
namespace Ev
open PySem PySem.Spec PyProof.Rows L2
/-! ### == -/
theorem eqv_int {h : Mem} {i j : Int} : eqv h (.int i) (.int j) = some (ieq i j) := by
  show cnd (SeqAt.shaped (PyData.int i)) (cnd (SeqAt.shaped (PyData.int j)) (some (PyData.eqv (.int i) (.int j))) none) none = _
  have s1 : SeqAt.shaped (PyData.int i) = true := rfl
  have s2 : SeqAt.shaped (PyData.int j) = true := rfl
  rw [s1, s2, ieq_eq]
  by_cases e : i = j <;> simp [PyData.eqv, e]
theorem ieq_t (i : Int) : ieq i i = true := ieq_iff.mpr rfl
theorem ieq_f {i j : Int} (h : i ≠ j) : ieq i j = false := by rw [ieq_eq]; exact decide_eq_false h
/-- items of a list of moves, of results -/
def Flat (x : PV) : Prop := x = .non ∨ (∃ i : Int, x = .int i) ∨ ∃ k : List Int, x = tupI k
def dOf : PV → PyData
  | .int i => .int i
  | .tup xs => .tuple (xs.map fun x => match x with | .int i => .int i | _ => .none)
  | _ => .none
theorem ints_go {h : Mem} (n : Nat) : ∀ k : List Int, toD.go (toD h (n + 1)) (k.map PV.int) = some (k.map PyData.int)
  | [] => rfl
  | i :: k => by
    simp only [List.map_cons, toD.go]
    rw [show toD h (n + 1) (.int i) = some (.int i) from rfl, ints_go n k]
theorem flat_d {h : Mem} {n : Nat} {x : PV} (f : Flat x) : toD h (n + 2) x = some (dOf x) := by
  rcases f with rfl | ⟨i, rfl⟩ | ⟨k, rfl⟩
  · rfl
  · rfl
  · show (toD.go (toD h (n + 1)) (k.map PV.int)).map PyData.tuple = _
    rw [ints_go]
    simp [dOf, tupI]
theorem flat_go {h : Mem} {n : Nat} : ∀ {xs : List PV}, (∀ x ∈ xs, Flat x) → toD.go (toD h (n + 2)) xs = some (xs.map dOf)
  | [], _ => rfl
  | x :: xs, f => by
    simp only [List.map_cons, toD.go]
    rw [flat_d (f x List.mem_cons_self), flat_go fun y hy => f y (List.mem_cons_of_mem _ hy)]
theorem lay_ints : ∀ k : List Int, PyData.canLayAll0 (k.map PyData.int) = true ∧ PyData.depthAll (k.map PyData.int) = 0
  | [] => ⟨rfl, rfl⟩
  | i :: k => by
    obtain ⟨h1, h2⟩ := lay_ints k
    simp [PyData.canLayAll0, PyData.canLay0, PyData.depthAll, PyData.depth, h1, h2]
theorem flat_lay {x : PV} (f : Flat x) : (dOf x).canLay0 = true ∧ (dOf x).depth ≤ 1 := by
  rcases f with rfl | ⟨i, rfl⟩ | ⟨k, rfl⟩
  · exact ⟨rfl, by decide⟩
  · exact ⟨rfl, by show 0 ≤ 1; omega⟩
  · have e : dOf (tupI k) = .tuple (k.map PyData.int) := by
      simp [dOf, tupI]
    rw [e]
    obtain ⟨h1, h2⟩ := lay_ints k
    exact ⟨by simpa [PyData.canLay0] using h1, by simp [PyData.depth, h2]⟩
theorem flats_lay : ∀ {xs : List PV}, (∀ x ∈ xs, Flat x) → PyData.canLayAll0 (xs.map dOf) = true ∧ PyData.depthAll (xs.map dOf) ≤ 1
  | [], _ => ⟨rfl, by decide⟩
  | x :: xs, f => by
    obtain ⟨h1, h2⟩ := flat_lay (f x List.mem_cons_self)
    obtain ⟨h3, h4⟩ := flats_lay (xs := xs) fun y hy => f y (List.mem_cons_of_mem _ hy)
    refine ⟨by simp [PyData.canLayAll0, h1, h3], ?_⟩
    simp only [List.map_cons, PyData.depthAll]
    omega
theorem list_shaped {xs : List PV} (f : ∀ x ∈ xs, Flat x) : SeqAt.shaped (.list (xs.map dOf)) = true := by
  obtain ⟨h1, h2⟩ := flats_lay f
  have hd : (PyData.list (xs.map dOf)).depth ≤ 64 := by
    show PyData.depthAll _ + 1 ≤ 64
    omega
  have hc : (PyData.list (xs.map dOf)).canLay0 = true := h1
  unfold SeqAt.shaped
  rw [hc, decide_eq_true hd]
  rfl
/-- two lists of the same items are equal -/
theorem eqv_same {h : Mem} {a b : Nat} {xs : List PV} (ha : h.get a = some (.lst xs)) (hb : h.get b = some (.lst xs)) (f : ∀ x ∈ xs, Flat x) : eqv h (.ref a) (.ref b) = some true := by
  have d : ∀ c, h.get c = some (.lst xs) → toD h 8 (.ref c) = some (.list (xs.map dOf)) := fun c hc => by
    show (match h.get c with
      | some (.lst xs) => (toD.go (toD h 7) xs).map PyData.list
      | some (.scr xs) => (toD.go (toD h 7) xs).map PyData.list
      | _ => none) = _
    rw [hc]
    simp only
    rw [flat_go (n := 5) f]
    rfl
  unfold eqv
  rw [d a ha, d b hb]
  simp only
  rw [list_shaped f]
  have q := list_shaped f
  unfold SeqAt.shaped at q
  rw [SeqAt.eqv_refl _ (Bool.and_eq_true_iff.mp q).1]
  rfl

/-! ### comprehensions that leave the memory -/
theorem loopL_pure {f : PV → Mem → Res (List PV)} {F : PV → List PV} {h : Mem} : ∀ {xs : List PV}, (∀ x ∈ xs, f x h = .ok (F x) h) → loopL f xs h = .ok (xs.flatMap F) h
  | [], _ => rfl
  | x :: xs, H => by
    unfold loopL
    rw [H x List.mem_cons_self]
    simp only [Res.bind_ok]
    rw [loopL_pure (F := F) fun y hy => H y (List.mem_cons_of_mem _ hy)]
    rfl
theorem lock_unlock (h : Mem) (ls : List Nat) : (h.lock ls).unlock ls = h := by
  unfold Mem.lock Mem.unlock
  simp
/-- one clause's turn -/
def turn1 (C : Calls) (s : Env) (g : Tg) (t : XT) (e : XE) (x : PV) (h : Mem) : Res (List PV) := (tgG g C x s h).bind fun s' h1 => (t C s' h1).bind fun b h2 => match b with
  | true => (e C s' h2).bind fun y h' => .ok [y] h'
  | false => .ok [] h2
theorem lC1_pure {C : Calls} {s : Env} {h : Mem} {own : List Nat} {i : XI} {g : Tg} {t : XT} {e : XE} {xs : List PV} {ls : List Nat} {F : PV → List PV} (hi : i C s h = .ok (xs, ls) h) (hf : ∀ x ∈ xs, turn1 C (lC1.wipeV s own) g t e x (h.lock ls) = .ok (F x) (h.lock ls)) (hz : fits (xs.flatMap F) = true) :
    lC1 own i g t e C s h = .ok (xs.flatMap F) h := by
  unfold lC1
  rw [hi]
  simp only [Res.bind_ok]
  have : turns (tgG g) t C (lC1.wipeV s own) (fun s' h => (e C s' h).bind fun y h' => .ok [y] h') xs (h.lock ls) = .ok (xs.flatMap F) (h.lock ls) := loopL_pure hf
  rw [this]
  simp only [noErr, Res.bind_ok, hz, cnd_true, lock_unlock]
theorem all_trues : ∀ {xs : List PV} {F : PV → List PV}, (∀ x ∈ xs, F x = [.bl true]) → ∃ bs, blsOf (xs.flatMap F) = some bs ∧ allB bs = true ∧ (xs.flatMap F).length = xs.length
  | [], F, _ => ⟨[], rfl, rfl, rfl⟩
  | x :: xs, F, H => by
    obtain ⟨bs, h1, h2, h3⟩ := all_trues (xs := xs) (F := F) fun y hy => H y (List.mem_cons_of_mem _ hy)
    refine ⟨true :: bs, ?_, h2, ?_⟩
    · rw [List.flatMap_cons, H x List.mem_cons_self]
      simp [blsOf, h1]
    · rw [List.flatMap_cons, H x List.mem_cons_self]
      simp [h3]
/-- all([..]) where each item is true -/
theorem all_ok {C : Calls} {s : Env} {h : Mem} {own : List Nat} {i : XI} {g : Tg} {e : XE} {xs : List PV} {ls : List Nat} (hi : i C s h = .ok (xs, ls) h) (hz : xs.length ≤ 1000) (hf : ∀ x ∈ xs, turn1 C (lC1.wipeV s own) g tYes e x (h.lock ls) = .ok [.bl true] (h.lock ls)) :
    eAll (lC1 own i g tYes e) C s h = .ok (.bl true) h := by
  obtain ⟨bs, h1, h2, h3⟩ := all_trues (xs := xs) (F := fun _ => [.bl true]) fun _ _ => rfl
  unfold eAll
  rw [lC1_pure (F := fun _ => [.bl true]) hi hf (fits_small (by omega))]
  simp only [Res.bind_ok, h1, h2]

/-! ### the checks of a map -/
def bInt (it : List (Nat × Bool)) : XS := (sRet (eAnd (eIs .int it (eVar 0)) (eAnd (eNot (eIs .bool it (eVar 0))) (eChain .le .le (eVar 1) (eVar 0) (eVar 2)))))
def bRoad (it : List (Nat × Bool)) (lt : List (Nat × Nat)) (fI : Nat) : XS := (sSeq (sIf (tOr (tNot (tE (eIs .tuple it (eVar 0)))) (tE (eCmp .ne (eLen lt (eVar 0)) (eC (.int 4))))) (sRet (eC (.bl false))) sNil) (sSeq (sAsg (eVar 0) (tgG (.un [2, 3, 4, 5]))) (sSeq (sIf (tOr (tNot (tE (eCall fI (aCons (eVar 2) (aCons (eC (.int 0)) (aCons (eBin .sub (eVar 1) (eC (.int 1))) aNil)))))) (tOr (tNot (tE (eCall fI (aCons (eVar 3) (aCons (eC (.int 0)) (aCons (eBin .sub (eVar 1) (eC (.int 1))) aNil)))))) (tE (eCmp .ge (eVar 2) (eVar 3))))) (sRet (eC (.bl false))) sNil) (sRet (eAnd (eCall fI (aCons (eVar 4) (aCons (eC (.int 1)) (aCons (eC (.int 4)) aNil)))) (eCall fI (aCons (eVar 5) (aCons (eC (.int 0)) (aCons (eC (.int 3)) aNil)))))))))
def rdAll (fR : Nat) : XE := (eAll (lC1 [2] (iAny (eVar 0)) (.nm 2) tYes (eCall fR (aCons (eVar 2) (aCons (eVar 1) aNil)))))
def ascAll : XE := (eAll (lC1 [3, 4] (iZip (iOf (eVar 0)) (iOf (eSl (eVar 0) (oSome (eC (.int 1))) oNone))) (.un [3, 4]) tYes (eCmp .lt (eVar 3) (eVar 4))))
def bRoads (it : List (Nat × Bool)) (lt : List (Nat × Nat)) (fR : Nat) : XS := (sSeq (sIf (tOr (tNot (tE (eIs .tuple it (eVar 0)))) (tNot (tE (eChain .le .le (eC (.int 1)) (eLen lt (eVar 0)) (eC (.int 7)))))) (sRet (eC (.bl false))) sNil) (sSeq (sIf (tNot (tE (rdAll fR))) (sRet (eC (.bl false))) sNil) (sRet ascAll)))
def prAll (fI : Nat) : XE := (eAll (lC1 [2] (iAny (eVar 0)) (.nm 2) tYes (eOr (eCmp .is_ (eVar 2) (eC .non)) (eCall fI (aCons (eVar 2) (aCons (eC (.int 1)) (aCons (eC (.int 9)) aNil)))))))
def bPrices (it : List (Nat × Bool)) (lt : List (Nat × Nat)) (fI : Nat) : XS := (sSeq (sIf (tOr (tNot (tE (eIs .tuple it (eVar 0)))) (tE (eCmp .ne (eLen lt (eVar 0)) (eVar 1)))) (sRet (eC (.bl false))) sNil) (sRet (prAll fI)))
def bBox (it : List (Nat × Bool)) (lt : List (Nat × Nat)) (fI : Nat) : XS := (sSeq (sIf (tOr (tNot (tE (eIs .tuple it (eVar 0)))) (tE (eCmp .ne (eLen lt (eVar 0)) (eC (.int 2))))) (sRet (eC (.bl false))) sNil) (sRet (eAnd (eCall fI (aCons (eSub (eVar 0) (eC (.int 0))) (aCons (eC (.int 1)) (aCons (eC (.int 6)) aNil)))) (eCall fI (aCons (eSub (eVar 0) (eC (.int 1))) (aCons (eC (.int 0)) (aCons (eC (.int 2)) aNil)))))))
def bInit (x1 x2 x3 x4 : XS) (fI fRs fPs fB : Nat) : XS := (sSeq (sIf (tNot (tE (eCall fI (aCons (eVar 1) (aCons (eC (.int 2)) (aCons (eC (.int 5)) aNil)))))) x1 sNil) (sSeq (sIf (tNot (tE (eCall fRs (aCons (eVar 2) (aCons (eVar 1) aNil))))) x2 sNil) (sSeq (sIf (tNot (tE (eCall fPs (aCons (eVar 3) (aCons (eVar 1) aNil))))) x3 sNil) (sSeq (sIf (tNot (tE (eCall fB (aCons (eVar 4) aNil)))) x4 sNil) (sSeq (sSlot [(0, 2)] (eVar 0) (eVar 1)) (sSeq (sSlot [(0, 1)] (eVar 0) (eVar 2)) (sSeq (sSlot [(0, 3)] (eVar 0) (eVar 3)) (sSlot [(0, 0)] (eVar 0) (eVar 4)))))))))
theorem ile_t {i j : Int} (h : i ≤ j) : ile i j = true := by rw [ile_eq]; exact decide_eq_true h
section
variable {tab : List Fd} {it : List (Nat × Bool)} {lt : List (Nat × Nat)} {fI fR fRs fPs fB K : Nat} {h : Mem}
theorem isint_ok (hI : nthF tab fI = some ⟨3, 3, bInt it⟩) (hK : 1 ≤ K) {i lo hi : Int} (h1 : lo ≤ i) (h2 : i ≤ hi) : callD tab K fI [.int i, .int lo, .int hi] h = .ok (.bl true) h := by
  obtain ⟨k, rfl⟩ : ∃ k, K = k + 1 := ⟨K - 1, by omega⟩
  rw [call_eq hI]
  simp [bInt, runFd, sSeq, sIf, sRet, sExpr, sAsg, sOf, endS, tE, tAnd, tOr, tNot, tYes, eCmp, eVar, eC, eBin, eLen, lenV, cmpop, ltV, icmp, eSub, subV, itemsOf, binop, addV, mulV, mapInt2, eB, gInt, gMax2, gMin2, aCons, aNil, eCall, tgG, gName, gUnp, setAll, eTup, eIf, eAnd, eOr, eNot, Res.bind, ofO, Option.map, sNil, cnd, eIs, isB, isInt, isBool, bnot, eChain, ile_t h1, ile_t h2]
theorem len_tup {C : Calls} {s : Env} {a : XE} {xs : List PV} (e : a C s h = .ok (.tup xs) h) : eLen lt a C s h = .ok (.int (xs.length : Nat)) h := by
  unfold eLen
  rw [e]
  rfl
theorem road_ok (hI : nthF tab fI = some ⟨3, 3, bInt it⟩) (hR : nthF tab fR = some ⟨2, 6, bRoad it lt fI⟩) (hK : 2 ≤ K) {many : Int} {r : List Int} (ho : RoadOk many r) : callD tab K fR [tupI r, .int many] h = .ok (.bl true) h := by
  obtain ⟨k, rfl⟩ : ∃ k, K = k + 1 := ⟨K - 1, by omega⟩
  obtain ⟨f, l, t, m, rfl, f0, f1, l1, t0, t1, m0, m1⟩ := ho
  rw [call_eq hR]
  have e1 := isint_ok (K := k) (h := h) hI (by omega) (i := f) (lo := 0) (hi := many - 1) (by omega) (by omega)
  have e2 := isint_ok (K := k) (h := h) hI (by omega) (i := l) (lo := 0) (hi := many - 1) (by omega) (by omega)
  have e3 := isint_ok (K := k) (h := h) hI (by omega) (i := t) (lo := 1) (hi := 4) (by omega) (by omega)
  have e4 := isint_ok (K := k) (h := h) hI (by omega) (i := m) (lo := 0) (hi := 3) (by omega) (by omega)
  have g1 : ile l f = false := by rw [ile_eq]; exact decide_eq_false (by omega)
  have q : eqv h (.int 4) (.int 4) = some true := by rw [eqv_int, ieq_t]
  simp [bRoad, runFd, sSeq, sIf, sRet, sExpr, sAsg, sOf, endS, tE, tAnd, tOr, tNot, tYes, eCmp, eVar, eC, eBin, eLen, lenV, cmpop, ltV, icmp, eSub, subV, itemsOf, binop, addV, mulV, mapInt2, eB, gInt, gMax2, gMin2, aCons, aNil, eCall, tgG, gName, gUnp, setAll, eTup, eIf, eAnd, eOr, eNot, Res.bind, ofO, Option.map, sNil, cnd, tupI, eIs, isB, isTup, e1, e2, e3, e4, g1, q, onot, bnot]
theorem wipe_two {a b : Option PV} {c : Option PV} : True := trivial
theorem rdAll_ok (hI : nthF tab fI = some ⟨3, 3, bInt it⟩) (hR : nthF tab fR = some ⟨2, 6, bRoad it lt fI⟩) (hK : 2 ≤ K) {many : Int} {rs : List (List Int)} (ho : ∀ r ∈ rs, RoadOk many r) (hl : rs.length ≤ 1000) {o2 o3 o4 : Option PV} :
    rdAll fR (callD tab K) [some (.tup (rs.map tupI)), some (.int many), o2, o3, o4] h = .ok (.bl true) h := by
  unfold rdAll
  refine all_ok (xs := rs.map tupI) (ls := []) (by simp [iOf, iAny, runFd, sSeq, sIf, sRet, sExpr, sAsg, sOf, endS, tE, tAnd, tOr, tNot, tYes, eCmp, eVar, eC, eBin, eLen, lenV, cmpop, ltV, icmp, eSub, subV, itemsOf, binop, addV, mulV, mapInt2, eB, gInt, gMax2, gMin2, aCons, aNil, eCall, tgG, gName, gUnp, setAll, eTup, eIf, eAnd, eOr, eNot, Res.bind, ofO, Option.map, sNil, cnd]) (by simpa using hl) fun x hx => ?_
  obtain ⟨r, hr, rfl⟩ := List.mem_map.mp hx
  have e := road_ok (K := K) (h := h.lock []) hI hR hK (ho r hr)
  simp [turn1, runFd, sSeq, sIf, sRet, sExpr, sAsg, sOf, endS, tE, tAnd, tOr, tNot, tYes, eCmp, eVar, eC, eBin, eLen, lenV, cmpop, ltV, icmp, eSub, subV, itemsOf, binop, addV, mulV, mapInt2, eB, gInt, gMax2, gMin2, aCons, aNil, eCall, tgG, gName, gUnp, setAll, eTup, eIf, eAnd, eOr, eNot, Res.bind, ofO, Option.map, sNil, cnd, lC1.wipeV, e]
theorem chain_pairs : ∀ {qs : List (List Int)}, qs.Pairwise LtC → (∀ q ∈ qs, q.length = 4 ∧ TS.Bd 64 q) → ∀ x ∈ pairs (qs.map tupI) ((qs.map tupI).drop 1), ∃ a b, x = .tup [tupI a, tupI b] ∧ HT.lexLt a b = true
  | [], _, _, x, hx => by simp [pairs] at hx
  | [a], _, _, x, hx => by simp [pairs] at hx
  | a :: b :: qs, hp, ho, x, hx => by
    have hx : x ∈ PV.tup [tupI a, tupI b] :: pairs ((b :: qs).map tupI) (((b :: qs).map tupI).drop 1) := hx
    obtain ⟨h1, h2⟩ := List.pairwise_cons.mp hp
    rcases List.mem_cons.mp hx with z | z
    · have ha := ho a List.mem_cons_self
      have hb := ho b (by simp)
      exact ⟨a, b, z, (lex_code (ha.1.trans hb.1.symm) ha.2 hb.2).mpr (h1 b List.mem_cons_self)⟩
    · exact chain_pairs h2 (fun q hq => ho q (List.mem_cons_of_mem _ hq)) x z
theorem ints_of_map : ∀ k : List Int, intsOf (k.map PV.int) = some k
  | [] => rfl
  | i :: k => by simp [intsOf, ints_of_map k]
theorem ascAll_ok {C : Calls} {qs : List (List Int)} (hp : qs.Pairwise LtC) (ho : ∀ q ∈ qs, q.length = 4 ∧ TS.Bd 64 q) (hl : qs.length ≤ 1000) {o1 o2 o3 o4 : Option PV} :
    ascAll C [some (.tup (qs.map tupI)), o1, o2, o3, o4] h = .ok (.bl true) h := by
  unfold ascAll
  have hcut : cut (qs.map tupI) (some 1) none = (qs.map tupI).drop 1 := by
    unfold cut
    rw [HT.sIx_none]
    by_cases e : qs.length = 0
    · have : qs = [] := List.eq_nil_of_length_eq_zero e
      subst this
      rfl
    · have h1 : HT.sIx (qs.map tupI).length 0 (some 1) = 1 := by
        rw [show (some 1 : Option Int) = some ((1 : Nat) : Int) from rfl, HT.sIx_nat, List.length_map]
        omega
      rw [h1, List.take_of_length_le (by simp)]
  have hpl : (pairs (qs.map tupI) ((qs.map tupI).drop 1)).length ≤ 1000 := by
    have : ∀ (xs ys : List PV), (pairs xs ys).length ≤ xs.length := by
      intro xs
      induction xs with
      | nil => intro ys; simp [pairs]
      | cons x xs ih =>
        intro ys
        cases ys with
        | nil => simp [pairs]
        | cons y ys => simp only [pairs, List.length_cons]; have := ih ys; omega
    have := this (qs.map tupI) ((qs.map tupI).drop 1)
    rw [List.length_map] at this
    omega
  refine all_ok (xs := pairs (qs.map tupI) ((qs.map tupI).drop 1)) (ls := []) ?_ hpl fun x hx => ?_
  · have hl0 : h.lock [] = h := rfl
    have hu0 : h.unlock [] = h := rfl
    simp [iZip, iOf, iAny, runFd, sSeq, sIf, sRet, sExpr, sAsg, sOf, endS, tE, tAnd, tOr, tNot, tYes, eCmp, eVar, eC, eBin, eLen, lenV, cmpop, ltV, icmp, eSub, subV, itemsOf, binop, addV, mulV, mapInt2, eB, gInt, gMax2, gMin2, aCons, aNil, eCall, tgG, gName, gUnp, setAll, eTup, eIf, eAnd, eOr, eNot, Res.bind, ofO, Option.map, sNil, cnd, eSl, oSome, oNone, slV, hcut, unlockR, hl0, hu0]
  · obtain ⟨a, b, rfl, hlt⟩ := chain_pairs hp ho x hx
    have i1 := ints_of_map a
    have i2 := ints_of_map b
    simp [turn1, runFd, sSeq, sIf, sRet, sExpr, sAsg, sOf, endS, tE, tAnd, tOr, tNot, tYes, eCmp, eVar, eC, eBin, eLen, lenV, cmpop, ltV, icmp, eSub, subV, itemsOf, binop, addV, mulV, mapInt2, eB, gInt, gMax2, gMin2, aCons, aNil, eCall, tgG, gName, gUnp, setAll, eTup, eIf, eAnd, eOr, eNot, Res.bind, ofO, Option.map, sNil, cnd, lC1.wipeV, tupI, i1, i2, hlt]
/-- the roads of a map -/
structure RoadsOk (many : Int) (qs : List (List Int)) : Prop where
  ok : ∀ q ∈ qs, RoadOk many q
  asc : qs.Pairwise LtC
  one : 1 ≤ qs.length
  seven : qs.length ≤ 7
theorem road_bd {many : Int} {q : List Int} (h : RoadOk many q) (hm : many ≤ 60) : q.length = 4 ∧ TS.Bd 64 q := by
  obtain ⟨f, l, t, m, rfl, f0, f1, l1, t0, t1, m0, m1⟩ := h
  refine ⟨rfl, fun x hx => ?_⟩
  simp only [List.mem_cons, List.not_mem_nil, or_false] at hx
  rcases hx with z | z | z | z <;> subst z <;> constructor <;> omega
theorem roads_ok (hI : nthF tab fI = some ⟨3, 3, bInt it⟩) (hR : nthF tab fR = some ⟨2, 6, bRoad it lt fI⟩) (hRs : nthF tab fRs = some ⟨2, 5, bRoads it lt fR⟩) (hK : 3 ≤ K) {many : Int} {qs : List (List Int)} (ho : RoadsOk many qs) (hm : many ≤ 60) :
    callD tab K fRs [.tup (qs.map tupI), .int many] h = .ok (.bl true) h := by
  obtain ⟨k, rfl⟩ : ∃ k, K = k + 1 := ⟨K - 1, by omega⟩
  rw [call_eq hRs]
  have e1 := rdAll_ok (K := k) (h := h) hI hR (by omega) ho.ok (by have := ho.seven; omega) (o2 := none) (o3 := none) (o4 := none)
  have e2 := ascAll_ok (h := h) (C := callD tab k) ho.asc (fun q hq => road_bd (ho.ok q hq) hm) (by have := ho.seven; omega) (o1 := some (.int many)) (o2 := none) (o3 := none) (o4 := none)
  have c1 : ile 1 (qs.length : Nat) = true := ile_t (by have := ho.one; omega)
  have c2 : ile (qs.length : Nat) 7 = true := ile_t (by have := ho.seven; omega)
  simp [bRoads, runFd, sSeq, sIf, sRet, sExpr, sAsg, sOf, endS, tE, tAnd, tOr, tNot, tYes, eCmp, eVar, eC, eBin, eLen, lenV, cmpop, ltV, icmp, eSub, subV, itemsOf, binop, addV, mulV, mapInt2, eB, gInt, gMax2, gMin2, aCons, aNil, eCall, tgG, gName, gUnp, setAll, eTup, eIf, eAnd, eOr, eNot, Res.bind, ofO, Option.map, sNil, cnd, eIs, isB, isTup, e1, e2, eChain, c1, c2, bnot]
theorem prices_ok (hI : nthF tab fI = some ⟨3, 3, bInt it⟩) (hPs : nthF tab fPs = some ⟨2, 3, bPrices it lt fI⟩) (hK : 2 ≤ K) {many : Int} {ps : List PV} (ho : ∀ x ∈ ps, PriceOk x) (hl : (ps.length : Int) = many) (hm : many ≤ 60) :
    callD tab K fPs [.tup ps, .int many] h = .ok (.bl true) h := by
  obtain ⟨k, rfl⟩ : ∃ k, K = k + 1 := ⟨K - 1, by omega⟩
  rw [call_eq hPs]
  have e1 : prAll fI (callD tab k) [some (.tup ps), some (.int many), none] h = .ok (.bl true) h := by
    unfold prAll
    refine all_ok (xs := ps) (ls := []) (by simp [iOf, iAny, runFd, sSeq, sIf, sRet, sExpr, sAsg, sOf, endS, tE, tAnd, tOr, tNot, tYes, eCmp, eVar, eC, eBin, eLen, lenV, cmpop, ltV, icmp, eSub, subV, itemsOf, binop, addV, mulV, mapInt2, eB, gInt, gMax2, gMin2, aCons, aNil, eCall, tgG, gName, gUnp, setAll, eTup, eIf, eAnd, eOr, eNot, Res.bind, ofO, Option.map, sNil, cnd]) (by omega) fun x hx => ?_
    rcases ho x hx with rfl | ⟨i, rfl, i0, i1⟩
    · simp [turn1, runFd, sSeq, sIf, sRet, sExpr, sAsg, sOf, endS, tE, tAnd, tOr, tNot, tYes, eCmp, eVar, eC, eBin, eLen, lenV, cmpop, ltV, icmp, eSub, subV, itemsOf, binop, addV, mulV, mapInt2, eB, gInt, gMax2, gMin2, aCons, aNil, eCall, tgG, gName, gUnp, setAll, eTup, eIf, eAnd, eOr, eNot, Res.bind, ofO, Option.map, sNil, cnd, lC1.wipeV, isV, isNon]
    · have e := isint_ok (K := k) (h := h.lock []) hI (by omega) i0 i1
      simp [turn1, runFd, sSeq, sIf, sRet, sExpr, sAsg, sOf, endS, tE, tAnd, tOr, tNot, tYes, eCmp, eVar, eC, eBin, eLen, lenV, cmpop, ltV, icmp, eSub, subV, itemsOf, binop, addV, mulV, mapInt2, eB, gInt, gMax2, gMin2, aCons, aNil, eCall, tgG, gName, gUnp, setAll, eTup, eIf, eAnd, eOr, eNot, Res.bind, ofO, Option.map, sNil, cnd, lC1.wipeV, isV, isNon, e]
  have q : eqv h (.int (ps.length : Nat)) (.int many) = some true := by rw [eqv_int, hl, ieq_t]
  simp [bPrices, runFd, sSeq, sIf, sRet, sExpr, sAsg, sOf, endS, tE, tAnd, tOr, tNot, tYes, eCmp, eVar, eC, eBin, eLen, lenV, cmpop, ltV, icmp, eSub, subV, itemsOf, binop, addV, mulV, mapInt2, eB, gInt, gMax2, gMin2, aCons, aNil, eCall, tgG, gName, gUnp, setAll, eTup, eIf, eAnd, eOr, eNot, Res.bind, ofO, Option.map, sNil, cnd, eIs, isB, isTup, e1, q, onot, bnot]
theorem box_ok (hI : nthF tab fI = some ⟨3, 3, bInt it⟩) (hB : nthF tab fB = some ⟨1, 1, bBox it lt fI⟩) (hK : 2 ≤ K) {room bear : Int} (h1 : 1 ≤ room ∧ room ≤ 6) (h2 : 0 ≤ bear ∧ bear ≤ 2) :
    callD tab K fB [.tup [.int room, .int bear]] h = .ok (.bl true) h := by
  obtain ⟨k, rfl⟩ : ∃ k, K = k + 1 := ⟨K - 1, by omega⟩
  rw [call_eq hB]
  have e1 := isint_ok (K := k) (h := h) hI (by omega) h1.1 h1.2
  have e2 := isint_ok (K := k) (h := h) hI (by omega) h2.1 h2.2
  have q : eqv h (.int 2) (.int 2) = some true := by rw [eqv_int, ieq_t]
  have x0 : ixN 2 0 = some 0 := rfl
  have x1 : ixN 2 1 = some 1 := rfl
  simp [bBox, runFd, sSeq, sIf, sRet, sExpr, sAsg, sOf, endS, tE, tAnd, tOr, tNot, tYes, eCmp, eVar, eC, eBin, eLen, lenV, cmpop, ltV, icmp, eSub, subV, itemsOf, binop, addV, mulV, mapInt2, eB, gInt, gMax2, gMin2, aCons, aNil, eCall, tgG, gName, gUnp, setAll, eTup, eIf, eAnd, eOr, eNot, Res.bind, ofO, Option.map, sNil, cnd, eIs, isB, isTup, e1, e2, q, onot, bnot, x0, x1]
/-- a map in the memory -/
def mapOb (many room bear : Int) (qs : List (List Int)) (ps : List PV) : Ob := .ins 0 [some (.tup [.int room, .int bear]), some (.tup (qs.map tupI)), some (.int many), some (.tup ps)]
end
end Ev
end

section
set_option Elab.async false
set_option linter.all false
set_option maxRecDepth 100000
/-! Ev: a map made; a map drawn; a state drawn. -/
namespace Ev
open PySem PySem.Spec PyProof.Rows L2
/-- the defs of maps -/
structure MW (tab : List Fd) (it : List (Nat × Bool)) (lt : List (Nat × Nat)) (fI fR fRs fPs fB fM : Nat) (x1 x2 x3 x4 : XS) : Prop where
  I : nthF tab fI = some ⟨3, 3, bInt it⟩
  R : nthF tab fR = some ⟨2, 6, bRoad it lt fI⟩
  Rs : nthF tab fRs = some ⟨2, 5, bRoads it lt fR⟩
  Ps : nthF tab fPs = some ⟨2, 3, bPrices it lt fI⟩
  B : nthF tab fB = some ⟨1, 1, bBox it lt fI⟩
  M : nthF tab fM = some ⟨5, 5, bInit x1 x2 x3 x4 fI fRs fPs fB⟩
structure MapOk (many room bear : Int) (qs : List (List Int)) (ps : List PV) : Prop where
  m2 : 2 ≤ many
  m5 : many ≤ 5
  rd : RoadsOk many qs
  pr : ∀ x ∈ ps, PriceOk x
  pl : (ps.length : Int) = many
  r1 : 1 ≤ room
  r6 : room ≤ 6
  b0 : 0 ≤ bear
  b2 : bear ≤ 2
section
variable {tab : List Fd} {it : List (Nat × Bool)} {lt : List (Nat × Nat)} {fI fR fRs fPs fB fM fC fD fN fX fP K : Nat} {x1 x2 x3 x4 : XS} {h : Mem} {ns : List Int} {D : Nat}
theorem init_ok (W : MW tab it lt fI fR fRs fPs fB fM x1 x2 x3 x4) (hK : 4 ≤ K) (hl : h.locks = []) {many room bear : Int} {qs : List (List Int)} {ps : List PV} (o : MapOk many room bear qs ps) :
    ∃ h', makeV 0 fM 4 (callD tab K) [.int many, .tup (qs.map tupI), .tup ps, .tup [.int room, .int bear]] h = .ok (.ref h.size) h' ∧ h'.get h.size = some (mapOb many room bear qs ps) ∧ h'.size = h.size + 1 ∧ h'.locks = h.locks ∧ h'.dl = h.dl ∧ ∀ n, n < h.size → h'.get n = h.get n := by
  obtain ⟨k, rfl⟩ : ∃ k, K = k + 1 := ⟨K - 1, by omega⟩
  have q1 := isint_ok (K := k) (h := h.push (.ins 0 [none, none, none, none])) W.I (by omega) o.m2 o.m5
  have q2 := roads_ok (K := k) (h := h.push (.ins 0 [none, none, none, none])) W.I W.R W.Rs (by omega) o.rd (by have := o.m5; omega)
  have q3 := prices_ok (K := k) (h := h.push (.ins 0 [none, none, none, none])) W.I W.Ps (by omega) o.pr o.pl (by have := o.m5; omega)
  have q4 := box_ok (K := k) (h := h.push (.ins 0 [none, none, none, none])) W.I W.B (by omega) ⟨o.r1, o.r6⟩ ⟨o.b0, o.b2⟩
  have g0 : (h.push (.ins 0 [none, none, none, none])).get h.size = some (.ins 0 [none, none, none, none]) := Mem.get_push_new _ _
  have gs : ∀ (m : Mem) (u : Ob), h.size < m.size → (m.set h.size u).get h.size = some u := fun m u hm => Mem.get_set_same u hm
  have fr : ∀ m : Mem, m.locks = [] → m.free h.size = true := fun m e => by unfold Mem.free; rw [e]; rfl
  have sz : h.size < (h.push (.ins 0 [none, none, none, none])).size := by simp
  have f0 : (h.push (.ins 0 [none, none, none, none])).free h.size = true := fr _ hl
  generalize hm0 : h.push (.ins 0 [none, none, none, none]) = m0 at *
  have g1 := gs m0 (.ins 0 [none, none, some (.int many), none]) sz
  have f1 : (m0.set h.size (.ins 0 [none, none, some (.int many), none])).free h.size = true := f0
  generalize hm1 : m0.set h.size (.ins 0 [none, none, some (.int many), none]) = m1 at *
  have s1 : m1.size = m0.size := by rw [← hm1]; rfl
  have g2 := gs m1 (.ins 0 [none, some (.tup (qs.map tupI)), some (.int many), none]) (by omega)
  have f2 : (m1.set h.size (.ins 0 [none, some (.tup (qs.map tupI)), some (.int many), none])).free h.size = true := f1
  generalize hm2 : m1.set h.size (.ins 0 [none, some (.tup (qs.map tupI)), some (.int many), none]) = m2 at *
  have s2 : m2.size = m1.size := by rw [← hm2]; rfl
  have g3 := gs m2 (.ins 0 [none, some (.tup (qs.map tupI)), some (.int many), some (.tup ps)]) (by omega)
  have f3 : (m2.set h.size (.ins 0 [none, some (.tup (qs.map tupI)), some (.int many), some (.tup ps)])).free h.size = true := f2
  generalize hm3 : m2.set h.size (.ins 0 [none, some (.tup (qs.map tupI)), some (.int many), some (.tup ps)]) = m3 at *
  have s3 : m3.size = m2.size := by rw [← hm3]; rfl
  have g4 := gs m3 (mapOb many room bear qs ps) (by omega)
  refine ⟨m3.set h.size (mapOb many room bear qs ps), ?_, g4, ?_, ?_, ?_, fun n hn => ?_⟩
  · have rep : List.replicate 4 (none : Option PV) = [none, none, none, none] := rfl
    have b2 : Nat.blt 2 4 = true := rfl
    have b1 : Nat.blt 1 4 = true := rfl
    have b3 : Nat.blt 3 4 = true := rfl
    have b0 : Nat.blt 0 4 = true := rfl
    unfold makeV
    rw [rep, hm0, call_eq W.M]
    simp [bInit, runFd, sSeq, sIf, sRet, sExpr, sAsg, sOf, endS, tE, tAnd, tOr, tNot, tYes, eCmp, eVar, eC, eBin, eLen, lenV, cmpop, ltV, icmp, eSub, subV, itemsOf, binop, addV, mulV, mapInt2, eB, gInt, gMax2, gMin2, aCons, aNil, eCall, tgG, gName, gUnp, setAll, eTup, eIf, eAnd, eOr, eNot, Res.bind, ofO, Option.map, sNil, cnd, q1, q2, q3, q4, sSlot, lookC, g0, f0, b2, hm1, g1, f1, b1, hm2, g2, f2, b3, hm3, g3, f3, b0, mapOb, bnot]
  · rw [Mem.size_set, s3, s2, s1, ← hm0, Mem.size_push]
  · rw [Mem.locks_set, ← hm3, Mem.locks_set, ← hm2, Mem.locks_set, ← hm1, Mem.locks_set, ← hm0, Mem.locks_push]
  · rw [Mem.dl_set, ← hm3, Mem.dl_set, ← hm2, Mem.dl_set, ← hm1, Mem.dl_set, ← hm0, Mem.dl_push]
  · have ne : n ≠ h.size := by omega
    rw [Mem.get_set_ne _ ne, ← hm3, Mem.get_set_ne _ ne, ← hm2, Mem.get_set_ne _ ne, ← hm1, Mem.get_set_ne _ ne, ← hm0, Mem.get_push_old _ hn]
/-! ### a map drawn -/
def mapIf (fX : Nat) : XS := (sIf (tE (eCmp .gt (eCall fX (aCons (eVar 0) (aCons (eC (.int 4)) aNil))) (eC (.int 0)))) (mapF2 fX) sNil)
def mapSort : XS := (sAsg (eSl (eSS (eVar 3)) oNone (oSome (eC (.int 7)))) (tgG (.nm 3)))
def mapBox (fX fP : Nat) : XS := (sAsg (eTup (aCons (eBin .add (eC (.int 1)) (eCall fX (aCons (eVar 0) (aCons (eC (.int 5)) aNil)))) (aCons (eCall fP (aCons (eVar 0) (aCons (eNew (lNew (aCons (eC (.int 0)) (aCons (eC (.int 0)) (aCons (eC (.int 1)) (aCons (eC (.int 2)) aNil)))))) aNil))) aNil))) (tgG (.nm 7)))
def mapRet (fM : Nat) : XS := (sRet (eMake 0 fM 4 (aCons (eVar 2) (aCons (eB gTupL (lOf (eVar 3))) (aCons (eB gTupL (lOf (eVar 5))) (aCons (eVar 7) aNil))))))
def bMap (fX fP fM : Nat) : XS := (sSeq (sAsg (eBin .add (eC (.int 2)) (eCall fX (aCons (eVar 0) (aCons (eBin .sub (eVar 1) (eC (.int 1))) aNil)))) (tgG (.nm 2))) (sSeq (sAsg (eNew (lNew aNil)) (tgG (.nm 3))) (sSeq (mapF1 fX fP) (sSeq (mapIf fX) (sSeq mapSort (sSeq (sAsg (eNew (lNew aNil)) (tgG (.nm 5))) (sSeq (mapF3 fX fP) (sSeq (mapBox fX fP) (mapRet fM)))))))))
theorem mapIf_ok (L : LW tab lt fC fD fN fX fP) (hK : 4 ≤ K) {h0 : Mem} {R : Nat} {many : Int} {rs : List (List Int)} (r : LS ns h0 h D R (rs.map tupI)) (hr : ∀ x ∈ rs, RoadOk many x) (hl : rs.length ≤ 5) (hm : 2 ≤ many ∧ many ≤ 9) {o1 o4 o5 o6 o7 o8 o9 : Option PV} :
    ∃ (o6' : Option PV) (h' : Mem) (rs' : List (List Int)), mapIf fX (callD tab K) [some (.ref D), o1, some (.int many), some (.ref R), o4, o5, o6, o7, o8, o9] h = .nx [some (.ref D), o1, some (.int many), some (.ref R), o4, o5, o6', o7, o8, o9] h' ∧ LS ns h0 h' D R (rs'.map tupI) ∧ (∀ x ∈ rs', RoadOk many x) ∧ rs.length ≤ rs'.length ∧ rs'.length ≤ 14 := by
  obtain ⟨n, h1, e1, n0, n1, d1, k1⟩ := nx (K := K) L (by omega) r.d (m := 4) (by decide)
  have r1 := r.step d1 k1
  cases hc : ilt 0 n with
  | true =>
    obtain ⟨o6', h', rs', e, a1, a2, a3, a4⟩ := mapF2_ok (o1 := o1) (o4 := o4) (o5 := o5) (o6 := o6) (o7 := o7) (o8 := o8) (o9 := o9) L hK r1 hr hl hm
    exact ⟨o6', h', rs', by simp [mapIf, runFd, sSeq, sIf, sRet, sExpr, sAsg, sOf, endS, tE, tAnd, tOr, tNot, tYes, eCmp, eVar, eC, eBin, eLen, lenV, cmpop, ltV, icmp, eSub, subV, itemsOf, binop, addV, mulV, mapInt2, eB, gInt, gMax2, gMin2, aCons, aNil, eCall, tgG, gName, gUnp, setAll, eTup, eIf, eAnd, eOr, eNot, Res.bind, ofO, Option.map, sNil, cnd, e1, hc, e], a1, a2, a3, a4⟩
  | false => exact ⟨o6, h1, rs, by simp [mapIf, runFd, sSeq, sIf, sRet, sExpr, sAsg, sOf, endS, tE, tAnd, tOr, tNot, tYes, eCmp, eVar, eC, eBin, eLen, lenV, cmpop, ltV, icmp, eSub, subV, itemsOf, binop, addV, mulV, mapInt2, eB, gInt, gMax2, gMin2, aCons, aNil, eCall, tgG, gName, gUnp, setAll, eTup, eIf, eAnd, eOr, eNot, Res.bind, ofO, Option.map, sNil, cnd, e1, hc], r1, hr, Nat.le_refl _, by omega⟩
theorem tInts_map : ∀ rs : List (List Int), tInts (rs.map tupI) = some rs
  | [] => rfl
  | k :: rs => by
    show (match intsOf (k.map PV.int) with
      | some k => match tInts (rs.map tupI) with
        | some ks => some (k :: ks)
        | none => none
      | none => none) = _
    rw [ints_of_map, tInts_map rs]
theorem small64_of : ∀ {k : List Int}, TS.Bd 64 k → small64 k = true
  | [], _ => rfl
  | i :: k, h => by
    have h1 := h i List.mem_cons_self
    unfold small64
    rw [ile_t h1.1, ilt_t h1.2]
    exact small64_of fun m hm => h m (List.mem_cons_of_mem _ hm)
theorem allT_of {d : Nat} : ∀ {ks : List (List Int)}, (∀ k ∈ ks, k.length = d ∧ TS.Bd 64 k) → allT d ks = true
  | [], _ => rfl
  | k :: r, h => by
    obtain ⟨h1, h2⟩ := h k List.mem_cons_self
    unfold allT
    rw [h1, Nat.beq_refl, small64_of h2]
    exact allT_of fun q hq => h q (List.mem_cons_of_mem _ hq)
theorem mapSort_ok {C : Calls} {R : Nat} {many : Int} {rs : List (List Int)} (hR : h.get R = some (.lst (rs.map tupI))) (hr : ∀ x ∈ rs, RoadOk many x) (hm : many ≤ 60) (h1 : 1 ≤ rs.length) (hl : rs.length ≤ 14) {o0 o1 o2 o4 o5 o6 o7 o8 o9 : Option PV} :
    ∃ qs, mapSort C [o0, o1, o2, some (.ref R), o4, o5, o6, o7, o8, o9] h = .nx [o0, o1, o2, some (.ref (h.size + 1)), o4, o5, o6, o7, o8, o9] ((h.push (.lst ((ssort rs).map tupI))).push (.lst (qs.map tupI))) ∧ RoadsOk many qs := by
  have okt : Okt 4 rs := fun k hk => road_bd (hr k hk) hm
  have hh : headLen rs = 4 := by
    match rs, h1, okt with
    | k :: _, _, okt => exact (okt k List.mem_cons_self).1
  have ha : allT (headLen rs) rs = true := by rw [hh]; exact allT_of okt
  have hb : Nat.blt rs.length 64 = true := blt_iff.mpr (by omega)
  have hb2 : Nat.blt 0 (headLen rs) = true := by rw [hh]; rfl
  have hcut : cut ((ssort rs).map tupI) none (some 7) = ((ssort rs).take 7).map tupI := by
    unfold cut
    rw [HT.sIx_none, show (some 7 : Option Int) = some ((7 : Nat) : Int) from rfl, HT.sIx_nat, List.length_map, List.drop_zero, Nat.sub_zero, List.map_take]
    by_cases q : 7 ≤ (ssort rs).length
    · rw [Nat.min_eq_left q]
    · rw [Nat.min_eq_right (by omega), List.take_of_length_le (by simp), List.take_of_length_le (by simp; omega)]
  have hg : (h.push (.lst ((ssort rs).map tupI))).get h.size = some (.lst ((ssort rs).map tupI)) := Mem.get_push_new _ _
  have ne : ssort rs ≠ [] := fun z => by
    match rs, h1, okt with
    | k :: rs, _, okt =>
      have := (ssort_mem okt k).mpr List.mem_cons_self
      rw [z] at this
      cases this
  refine ⟨(ssort rs).take 7, ?_, fun q hq => hr q ((ssort_mem okt q).mp (List.mem_of_mem_take hq)), (ssort_sorted okt).sublist (List.take_sublist _ _), ?_, ?_⟩
  · have sz : (h.push (.lst ((ssort rs).map tupI))).size = h.size + 1 := rfl
    simp [mapSort, runFd, sSeq, sIf, sRet, sExpr, sAsg, sOf, endS, tE, tAnd, tOr, tNot, tYes, eCmp, eVar, eC, eBin, eLen, lenV, cmpop, ltV, icmp, eSub, subV, itemsOf, binop, addV, mulV, mapInt2, eB, gInt, gMax2, gMin2, aCons, aNil, eCall, tgG, gName, gUnp, setAll, eTup, eIf, eAnd, eOr, eNot, Res.bind, ofO, Option.map, sNil, cnd, eSl, eSS, gSS, listsOf, hR, tInts_map, hb, hb2, ha, oNone, oSome, slV, hg, hcut]
  · rw [List.length_take]
    have := List.length_pos_iff.mpr ne
    omega
  · rw [List.length_take]
    omega
theorem mapBox_ok (L : LW tab lt fC fD fN fX fP) (hK : 4 ≤ K) (d : DRx ns h D) {o1 o2 o3 o4 o5 o6 o7 o8 o9 : Option PV} :
    ∃ h' room bear, mapBox fX fP (callD tab K) [some (.ref D), o1, o2, o3, o4, o5, o6, o7, o8, o9] h = .nx [some (.ref D), o1, o2, o3, o4, o5, o6, some (.tup [.int room, .int bear]), o8, o9] h' ∧ DRx ns h' D ∧ Kp D h h' ∧ 1 ≤ room ∧ room ≤ 6 ∧ 0 ≤ bear ∧ bear ≤ 2 := by
  obtain ⟨t, h3, e3, t0, t1, d3, k3⟩ := nx (K := K) L (by omega) d (m := 5) (by decide)
  have hlt := d3.lt
  obtain ⟨x, h5, hx, e5, d5, k5⟩ := pk (K := K) L (by omega) (d3.push (o := .lst [.int 0, .int 0, .int 1, .int 2])) (t := h3.size) (Mem.get_push_new _ _) (by omega) (by simp)
  have hmel : ∃ m : Int, x = .int m ∧ 0 ≤ m ∧ m ≤ 2 := by
    simp only [List.mem_cons, List.not_mem_nil, or_false] at hx
    rcases hx with z | z | z | z <;> exact ⟨_, z, by decide, by decide⟩
  obtain ⟨m, rfl, m0, m1⟩ := hmel
  have f2 : ∀ a b : PV, fits [a, b] = true := fun _ _ => rfl
  have f4 : ∀ a b c d : PV, fits [a, b, c, d] = true := fun _ _ _ _ => rfl
  exact ⟨h5, 1 + t, m, by simp [mapBox, runFd, sSeq, sIf, sRet, sExpr, sAsg, sOf, endS, tE, tAnd, tOr, tNot, tYes, eCmp, eVar, eC, eBin, eLen, lenV, cmpop, ltV, icmp, eSub, subV, itemsOf, binop, addV, mulV, mapInt2, eB, gInt, gMax2, gMin2, aCons, aNil, eCall, tgG, gName, gUnp, setAll, eTup, eIf, eAnd, eOr, eNot, Res.bind, ofO, Option.map, sNil, cnd, eNew, lNew, e3, e5, f2, f4], d5, k3.trans (Kp.push.trans k5), by omega, by omega, m0, m1⟩
theorem map_ok (L : LW tab lt fC fD fN fX fP) (W : MW tab it lt fI fR fRs fPs fB fM x1 x2 x3 x4) {fMp : Nat} (hMp : nthF tab fMp = some ⟨2, 10, bMap fX fP fM⟩) (hK : 5 ≤ K) (hl : h.locks = []) (d : DRx ns h D) {places : Int} (hp : 2 ≤ places ∧ places ≤ 4) :
    ∃ h' M many room bear qs ps, callD tab K fMp [.ref D, .int places] h = .ok (.ref M) h' ∧ h'.get M = some (mapOb many room bear qs ps) ∧ MapOk many room bear qs ps ∧ DRx ns h' D ∧ Kp D h h' ∧ h.size ≤ M := by
  obtain ⟨k, rfl⟩ : ∃ k, K = k + 1 := ⟨K - 1, by omega⟩
  rw [call_eq hMp]
  obtain ⟨m, h1, e1, m0, m1, d1, k1⟩ := nx (K := k) L (by omega) d (m := places - 1) (by omega)
  have l1 : h1.locks = [] := k1.lk.trans hl
  have r1 := LS.new d1 l1
  obtain ⟨a4, a8, a9, h2, rs, e2, r2, hr2, n1, n5⟩ := mapF1_ok (K := k) (o1 := some (.int places)) (o4 := none) (o5 := none) (o6 := none) (o7 := none) (o8 := none) (o9 := none) L (by omega) r1 (many := 2 + m) (by omega)
  obtain ⟨a6, h3, rs', e3, r3, hr3, n6, n14⟩ := mapIf_ok (K := k) (o1 := some (.int places)) (o4 := a4) (o5 := none) (o6 := none) (o7 := none) (o8 := a8) (o9 := a9) L (by omega) r2 hr2 n5 (by omega)
  obtain ⟨qs, e4, rok⟩ := mapSort_ok (C := callD tab k) r3.at_ hr3 (by omega) (by omega) n14 (o0 := some (.ref D)) (o1 := some (.int places)) (o2 := some (.int (2 + m))) (o4 := a4) (o5 := none) (o6 := a6) (o7 := none) (o8 := a8) (o9 := a9)
  have k3 := k1.trans r3.kp'
  have d4 := (r3.d.push (o := .lst ((ssort rs').map tupI))).push (o := .lst (qs.map tupI))
  have k4 := k3.trans ((Kp.push (o := .lst ((ssort rs').map tupI))).trans (Kp.push (o := .lst (qs.map tupI))))
  have g4 : ((h3.push (.lst ((ssort rs').map tupI))).push (.lst (qs.map tupI))).get (h3.size + 1) = some (.lst (qs.map tupI)) := Mem.get_push_new (h3.push (.lst ((ssort rs').map tupI))) _
  have z4 : ((h3.push (.lst ((ssort rs').map tupI))).push (.lst (qs.map tupI))).size = h3.size + 2 := rfl
  generalize (h3.push (.lst ((ssort rs').map tupI))).push (.lst (qs.map tupI)) = h4 at *
  have l4 : h4.locks = [] := k4.lk.trans hl
  have r5 := LS.new d4 l4
  obtain ⟨b6, h6, ps, e6, r6, hp6, hlen⟩ := mapF3_ok (K := k) (o1 := some (.int places)) (o3 := some (.ref (h3.size + 1))) (o4 := a4) (o6 := a6) (o7 := none) (o8 := a8) (o9 := a9) L (by omega) r5 (many := 2 + m) (by omega)
  have hlt := r3.d.lt
  have g6 : h6.get (h3.size + 1) = some (.lst (qs.map tupI)) := r6.kp _ _ (by omega) (by omega) g4
  have k6 := k4.trans r6.kp'
  obtain ⟨h7, room, bear, e7, d7, k7, q1, q2, q3, q4⟩ := mapBox_ok (K := k) L (by omega) r6.d (o1 := some (.int places)) (o2 := some (.int (2 + m))) (o3 := some (.ref (h3.size + 1))) (o4 := a4) (o5 := some (.ref h4.size)) (o6 := b6) (o7 := none) (o8 := a8) (o9 := a9)
  have g7 : h7.get (h3.size + 1) = some (.lst (qs.map tupI)) := k7.get _ _ (by omega) g6
  have p7 : h7.get h4.size = some (.lst ps) := k7.get _ _ r6.ne.1 r6.at_
  have k8 := k6.trans k7
  have l7 : h7.locks = [] := k8.lk.trans hl
  have mo : MapOk (2 + m) room bear qs ps := ⟨by omega, by omega, rok, hp6, hlen, q1, q2, q3, q4⟩
  obtain ⟨h9, e9, g9, z9, lk9, ld9, o9⟩ := init_ok (K := k) W (by omega) l7 mo
  have k9 : Kp D h7 h9 := ⟨by omega, lk9, ld9, fun n o ne e => by rw [o9 n (Mem.get_lt e)]; exact e⟩
  have d9 : DRx ns h9 D := by
    obtain ⟨b, n, dd⟩ := d7
    exact ⟨b, n, by rw [o9 0 (Mem.get_lt dd.sc)]; exact dd.sc, by rw [o9 D (Mem.get_lt dd.at_)]; exact dd.at_, by rw [k9.free]; exact dd.fr, dd.b0, dd.n0⟩
  refine ⟨h9, h7.size, 2 + m, room, bear, qs, ps, ?_, g9, mo, d9, k8.trans k9, k8.sz⟩
  have f0 : fits ([] : List PV) = true := rfl
  simp [bMap, runFd, sSeq, sIf, sRet, sExpr, sAsg, sOf, endS, tE, tAnd, tOr, tNot, tYes, eCmp, eVar, eC, eBin, eLen, lenV, cmpop, ltV, icmp, eSub, subV, itemsOf, binop, addV, mulV, mapInt2, eB, gInt, gMax2, gMin2, aCons, aNil, eCall, tgG, gName, gUnp, setAll, eTup, eIf, eAnd, eOr, eNot, Res.bind, ofO, Option.map, sNil, cnd, eNew, lNew, f0, e1, e2, e3, e4, e6, e7, mapRet, eMake, lOf, listsOf, g7, p7, gTupL, e9]
end
end Ev
end

section
set_option Elab.async false
set_option linter.all false
set_option maxRecDepth 100000
/-! Ev: states drawn; moves. -/
namespace Ev
open PySem PySem.Spec PyProof.Rows L2
/-- the properties of maps -/
structure QW (tab : List Fd) (fPl fRo fPr fBx : Nat) : Prop where
  Pl : nthF tab fPl = some ⟨1, 1, sRet (eFld [(0, .slot 2)] (eVar 0))⟩
  Ro : nthF tab fRo = some ⟨1, 1, sRet (eFld [(0, .slot 1)] (eVar 0))⟩
  Pr : nthF tab fPr = some ⟨1, 1, sRet (eFld [(0, .slot 3)] (eVar 0))⟩
  Bx : nthF tab fBx = some ⟨1, 1, sRet (eFld [(0, .slot 0)] (eVar 0))⟩
section
variable {tab : List Fd} {it : List (Nat × Bool)} {lt : List (Nat × Nat)} {fI fR fRs fPs fB fM fC fD fN fX fP fPl fRo fPr fBx K : Nat} {x1 x2 x3 x4 : XS} {h : Mem} {ns : List Int} {D M : Nat} {many room bear : Int} {qs : List (List Int)} {ps : List PV}
theorem pl_ok (Q : QW tab fPl fRo fPr fBx) (hK : 1 ≤ K) (hm : h.get M = some (mapOb many room bear qs ps)) : callD tab K fPl [.ref M] h = .ok (.int many) h := by
  obtain ⟨k, rfl⟩ : ∃ k, K = k + 1 := ⟨K - 1, by omega⟩
  rw [call_eq Q.Pl]
  simp [runFd, sSeq, sIf, sRet, sExpr, sAsg, sOf, endS, tE, tAnd, tOr, tNot, tYes, eCmp, eVar, eC, eBin, eLen, lenV, cmpop, ltV, icmp, eSub, subV, itemsOf, binop, addV, mulV, mapInt2, eB, gInt, gMax2, gMin2, aCons, aNil, eCall, tgG, gName, gUnp, setAll, eTup, eIf, eAnd, eOr, eNot, Res.bind, ofO, Option.map, sNil, cnd, eFld, fldV, lookC, hm, mapOb]
theorem ro_ok (Q : QW tab fPl fRo fPr fBx) (hK : 1 ≤ K) (hm : h.get M = some (mapOb many room bear qs ps)) : callD tab K fRo [.ref M] h = .ok (.tup (qs.map tupI)) h := by
  obtain ⟨k, rfl⟩ : ∃ k, K = k + 1 := ⟨K - 1, by omega⟩
  rw [call_eq Q.Ro]
  simp [runFd, sSeq, sIf, sRet, sExpr, sAsg, sOf, endS, tE, tAnd, tOr, tNot, tYes, eCmp, eVar, eC, eBin, eLen, lenV, cmpop, ltV, icmp, eSub, subV, itemsOf, binop, addV, mulV, mapInt2, eB, gInt, gMax2, gMin2, aCons, aNil, eCall, tgG, gName, gUnp, setAll, eTup, eIf, eAnd, eOr, eNot, Res.bind, ofO, Option.map, sNil, cnd, eFld, fldV, lookC, hm, mapOb]
theorem pr_ok' (Q : QW tab fPl fRo fPr fBx) (hK : 1 ≤ K) (hm : h.get M = some (mapOb many room bear qs ps)) : callD tab K fPr [.ref M] h = .ok (.tup ps) h := by
  obtain ⟨k, rfl⟩ : ∃ k, K = k + 1 := ⟨K - 1, by omega⟩
  rw [call_eq Q.Pr]
  simp [runFd, sSeq, sIf, sRet, sExpr, sAsg, sOf, endS, tE, tAnd, tOr, tNot, tYes, eCmp, eVar, eC, eBin, eLen, lenV, cmpop, ltV, icmp, eSub, subV, itemsOf, binop, addV, mulV, mapInt2, eB, gInt, gMax2, gMin2, aCons, aNil, eCall, tgG, gName, gUnp, setAll, eTup, eIf, eAnd, eOr, eNot, Res.bind, ofO, Option.map, sNil, cnd, eFld, fldV, lookC, hm, mapOb]
theorem bx_ok (Q : QW tab fPl fRo fPr fBx) (hK : 1 ≤ K) (hm : h.get M = some (mapOb many room bear qs ps)) : callD tab K fBx [.ref M] h = .ok (.tup [.int room, .int bear]) h := by
  obtain ⟨k, rfl⟩ : ∃ k, K = k + 1 := ⟨K - 1, by omega⟩
  rw [call_eq Q.Bx]
  simp [runFd, sSeq, sIf, sRet, sExpr, sAsg, sOf, endS, tE, tAnd, tOr, tNot, tYes, eCmp, eVar, eC, eBin, eLen, lenV, cmpop, ltV, icmp, eSub, subV, itemsOf, binop, addV, mulV, mapInt2, eB, gInt, gMax2, gMin2, aCons, aNil, eCall, tgG, gName, gUnp, setAll, eTup, eIf, eAnd, eOr, eNot, Res.bind, ofO, Option.map, sNil, cnd, eFld, fldV, lookC, hm, mapOb]
def bState (fX fPl fBx : Nat) : XS := (sSeq (sAsg (eCall fX (aCons (eVar 0) (aCons (eFld [(0, .prop fPl)] (eVar 1)) aNil))) (tgG (.nm 2))) (sSeq (sIf (tE (eCmp .eq (eCall fX (aCons (eVar 0) (aCons (eC (.int 2)) aNil))) (eC (.int 0)))) (sRet (eTup (aCons (eC (.int 0)) (aCons (eC (.int 0)) (aCons (eC (.int 0)) (aCons (eCall fX (aCons (eVar 0) (aCons (eC (.int 4)) aNil))) aNil)))))) sNil) (sSeq (sAsg (eTup (aCons (eCall fX (aCons (eVar 0) (aCons (eBin .add (eSub (eFld [(0, .prop fBx)] (eVar 1)) (eC (.int 0))) (eC (.int 1))) aNil))) (aCons (eCall fX (aCons (eVar 0) (aCons (eBin .add (eSub (eFld [(0, .prop fBx)] (eVar 1)) (eC (.int 1))) (eC (.int 1))) aNil))) aNil))) (tgG (.un [3, 4]))) (sRet (eTup (aCons (eVar 2) (aCons (eVar 3) (aCons (eVar 4) (aCons (eCall fX (aCons (eVar 0) (aCons (eC (.int 5)) aNil))) aNil)))))))))
/-- a state of a map -/
structure StOk (many room bear p i w l : Int) : Prop where
  p0 : 0 ≤ p
  p1 : p < many
  i0 : 0 ≤ i
  i1 : i ≤ room
  w0 : 0 ≤ w
  w1 : w ≤ bear
  l0 : 0 ≤ l
  l1 : l ≤ 4
theorem state_ok (L : LW tab lt fC fD fN fX fP) (Q : QW tab fPl fRo fPr fBx) {fS : Nat} (hS : nthF tab fS = some ⟨2, 5, bState fX fPl fBx⟩) (hK : 4 ≤ K) (d : DRx ns h D) (hm : h.get M = some (mapOb many room bear qs ps)) (mo : MapOk many room bear qs ps) (hne : M ≠ D) :
    ∃ h' p i w l, callD tab K fS [.ref D, .ref M] h = .ok (.tup [.int p, .int i, .int w, .int l]) h' ∧ StOk many room bear p i w l ∧ DRx ns h' D ∧ Kp D h h' := by
  obtain ⟨k, rfl⟩ : ∃ k, K = k + 1 := ⟨K - 1, by omega⟩
  rw [call_eq hS]
  have m2 := mo.m2
  have r1 := mo.r1
  have b0 := mo.b0
  have e0 := pl_ok (K := k) Q (by omega) hm
  obtain ⟨p, h1, e1, p0, p1, d1, k1⟩ := nx (K := k) L (by omega) d (m := many) (by omega)
  obtain ⟨z, h2, e2, z0, z1, d2, k2⟩ := nx (K := k) L (by omega) d1 (m := 2) (by decide)
  have f2 : ∀ a b : PV, fits [a, b] = true := fun _ _ => rfl
  have f4 : ∀ a b c d : PV, fits [a, b, c, d] = true := fun _ _ _ _ => rfl
  have hmr : h.get M = some (.ins 0 [some (.tup [.int room, .int bear]), some (.tup (qs.map tupI)), some (.int many), some (.tup ps)]) := hm
  by_cases hz : z = 0
  · obtain ⟨l, h3, e3, l0, l1, d3, k3⟩ := nx (K := k) L (by omega) d2 (m := 4) (by decide)
    have q : eqv h2 (.int z) (.int 0) = some true := by rw [eqv_int, hz, ieq_t]
    refine ⟨h3, 0, 0, 0, l, ?_, ⟨by omega, by omega, by omega, by omega, by omega, by omega, l0, by omega⟩, d3, k1.trans (k2.trans k3)⟩
    simp [bState, runFd, sSeq, sIf, sRet, sExpr, sAsg, sOf, endS, tE, tAnd, tOr, tNot, tYes, eCmp, eVar, eC, eBin, eLen, lenV, cmpop, ltV, icmp, eSub, subV, itemsOf, binop, addV, mulV, mapInt2, eB, gInt, gMax2, gMin2, aCons, aNil, eCall, tgG, gName, gUnp, setAll, eTup, eIf, eAnd, eOr, eNot, Res.bind, ofO, Option.map, sNil, cnd, eFld, fldV, lookC, noErr, hmr, e0, e1, e2, q, e3, f4]
  · have hm2 : h2.get M = some (mapOb many room bear qs ps) := k2.get _ _ hne (k1.get _ _ hne hm)
    obtain ⟨i, h3, e3, i0, i1, d3, k3⟩ := nx (K := k) L (by omega) d2 (m := room + 1) (by omega)
    have hm3 : h3.get M = some (mapOb many room bear qs ps) := k3.get _ _ hne hm2
    obtain ⟨w, h4, e4, w0, w1, d4, k4⟩ := nx (K := k) L (by omega) d3 (m := bear + 1) (by omega)
    obtain ⟨l, h5, e5, l0, l1, d5, k5⟩ := nx (K := k) L (by omega) d4 (m := 5) (by decide)
    have g2 := bx_ok (K := k) Q (by omega) hm2
    have g3 := bx_ok (K := k) Q (by omega) hm3
    have hmr2 : h2.get M = some (.ins 0 [some (.tup [.int room, .int bear]), some (.tup (qs.map tupI)), some (.int many), some (.tup ps)]) := hm2
    have hmr3 : h3.get M = some (.ins 0 [some (.tup [.int room, .int bear]), some (.tup (qs.map tupI)), some (.int many), some (.tup ps)]) := hm3
    have q : eqv h2 (.int z) (.int 0) = some false := by rw [eqv_int, ieq_f hz]
    have x0 : ixN 2 0 = some 0 := rfl
    have x1 : ixN 2 1 = some 1 := rfl
    refine ⟨h5, p, i, w, l, ?_, ⟨p0, p1, i0, by omega, w0, by omega, l0, by omega⟩, d5, k1.trans (k2.trans (k3.trans (k4.trans k5)))⟩
    simp [bState, runFd, sSeq, sIf, sRet, sExpr, sAsg, sOf, endS, tE, tAnd, tOr, tNot, tYes, eCmp, eVar, eC, eBin, eLen, lenV, cmpop, ltV, icmp, eSub, subV, itemsOf, binop, addV, mulV, mapInt2, eB, gInt, gMax2, gMin2, aCons, aNil, eCall, tgG, gName, gUnp, setAll, eTup, eIf, eAnd, eOr, eNot, Res.bind, ofO, Option.map, sNil, cnd, eFld, fldV, lookC, noErr, hmr, hmr2, hmr3, e0, e1, e2, q, g2, g3, x0, x1, e3, e4, e5, f2, f4]
/-! ### roads from a place -/
def fst4 : PV → Option Int
  | .tup (.int f :: _) => some f
  | _ => none
def FR (place : Int) (x : PV) : List PV := match x with
  | .tup [j, q] => match fst4 q with
    | some f => cnd (ieq f place) [j] []
    | none => []
  | _ => []
def RF (qs : List (List Int)) (place : Int) : List PV := (pairsI 0 (qs.map tupI)).flatMap (FR place)
theorem pairsI_mem : ∀ {qs : List (List Int)} {k : Int} {x : PV}, x ∈ pairsI k (qs.map tupI) → ∃ j q, q ∈ qs ∧ x = .tup [.int j, tupI q] ∧ k ≤ j ∧ j < k + qs.length
  | [], k, x, h => by simp [pairsI] at h
  | q :: qs, k, x, h => by
    have h : x ∈ PV.tup [.int k, tupI q] :: pairsI (k + 1) (qs.map tupI) := h
    rcases List.mem_cons.mp h with z | z
    · exact ⟨k, q, List.mem_cons_self, z, by omega, by simp; omega⟩
    · obtain ⟨j, q', h1, h2, h3, h4⟩ := pairsI_mem z
      exact ⟨j, q', List.mem_cons_of_mem _ h1, h2, by omega, by simp; omega⟩
theorem FR_le (place : Int) : ∀ xs : List PV, (xs.flatMap (FR place)).length ≤ xs.length
  | [] => by simp
  | x :: xs => by
    have ih := FR_le place xs
    have h1 : (FR place x).length ≤ 1 := by
      unfold FR
      split
      · split
        · rename_i f _
          cases ieq f place <;> simp
        · simp
      · simp
    rw [List.flatMap_cons, List.length_append, List.length_cons]
    omega
theorem pairsI_len' (k : Int) (xs : List PV) : (pairsI k xs).length = xs.length := by
  induction xs generalizing k with
  | nil => rfl
  | cons x xs ih => simp [pairsI, ih]
theorem RF_len (qs : List (List Int)) (place : Int) : (RF qs place).length ≤ qs.length := by
  have := FR_le place (pairsI 0 (qs.map tupI))
  rw [pairsI_len', List.length_map] at this
  exact this
theorem RF_mem {place : Int} {x : PV} (hx : x ∈ RF qs place) : ∃ j : Int, x = .int j ∧ 0 ≤ j ∧ j < qs.length := by
  obtain ⟨y, hy, hx⟩ := List.mem_flatMap.mp hx
  obtain ⟨j, q, hq, rfl, h1, h2⟩ := pairsI_mem hy
  unfold FR at hx
  simp only at hx
  split at hx
  · rename_i f _
    cases e : ieq f place with
    | true =>
      rw [e] at hx
      exact ⟨j, List.mem_singleton.mp hx, h1, by omega⟩
    | false => rw [e] at hx; cases hx
  · cases hx
/-- [i for i, line in enumerate(lines) if line[0] == place], at any slots -/
theorem rf_lc {C : Calls} {s : Env} {src : XE} {a b : Nat} {pe : XE} {place : Int} (hsrc : src C s h = .ok (.tup (qs.map tupI)) h) (hok : ∀ q ∈ qs, RoadOk many q) (hl : qs.length ≤ 1000)
    (ht : ∀ (j : Int) (q : PV), (setAll [a, b] [.int j, q] (lC1.wipeV s [a, b])).isSome = true) (hb : ∀ (j : Int) (q : PV) s', setAll [a, b] [.int j, q] (lC1.wipeV s [a, b]) = some s' → s'[a]? = some (some (.int j)) ∧ s'[b]? = some (some q) ∧ pe C s' h = .ok (.int place) h) :
    lC1 [a, b] (iEnum (iOf src)) (.un [a, b]) (tE (eCmp .eq (eSub (eVar b) (eC (.int 0))) pe)) (eVar a) C s h = .ok (RF qs place) h := by
  have hh : h.lock [] = h := rfl
  refine lC1_pure (xs := pairsI 0 (qs.map tupI)) (ls := []) (F := FR place) ?_ (fun x hx => ?_) (fits_small (by have := RF_len qs place; unfold RF at this; omega))
  · simp [iEnum, iOf, iAny, hsrc, Res.bind]
  · obtain ⟨j, q, hq, rfl, _, _⟩ := pairsI_mem hx
    obtain ⟨f, l, t, m, rfl, _⟩ := hok q hq
    rw [hh]
    cases es : setAll [a, b] [.int j, tupI [f, l, t, m]] (lC1.wipeV s [a, b]) with
    | none => have := ht j (tupI [f, l, t, m]); rw [es] at this; cases this
    | some s' =>
      obtain ⟨v1, v2, v3⟩ := hb j _ s' es
      have x0 : ixN 4 0 = some 0 := rfl
      have eg : tgG (.un [a, b]) C (.tup [.int j, tupI [f, l, t, m]]) (lC1.wipeV s [a, b]) h = .ok s' h := by
        show ofO (setAll [a, b] [.int j, tupI [f, l, t, m]] (lC1.wipeV s [a, b])) h = _
        rw [es]
        rfl
      unfold turn1
      rw [eg]
      have v2' : s'[b]? = some (some (.tup [.int f, .int l, .int t, .int m])) := v2
      have et : tE (eCmp .eq (eSub (eVar b) (eC (.int 0))) pe) C s' h = .ok (ieq f place) h := by
        simp [runFd, sSeq, sIf, sRet, sExpr, sAsg, sOf, endS, tE, tAnd, tOr, tNot, tYes, eCmp, eVar, eC, eBin, eLen, lenV, cmpop, ltV, icmp, eSub, subV, itemsOf, binop, addV, mulV, mapInt2, eB, gInt, gMax2, gMin2, aCons, aNil, eCall, tgG, gName, gUnp, setAll, eTup, eIf, eAnd, eOr, eNot, Res.bind, ofO, Option.map, sNil, cnd, v2', v3, x0, eqv_int]
      simp only [Res.bind_ok, et]
      cases e : ieq f place with
      | true => simp [runFd, sSeq, sIf, sRet, sExpr, sAsg, sOf, endS, tE, tAnd, tOr, tNot, tYes, eCmp, eVar, eC, eBin, eLen, lenV, cmpop, ltV, icmp, eSub, subV, itemsOf, binop, addV, mulV, mapInt2, eB, gInt, gMax2, gMin2, aCons, aNil, eCall, tgG, gName, gUnp, setAll, eTup, eIf, eAnd, eOr, eNot, Res.bind, ofO, Option.map, sNil, cnd, v1, FR, fst4, tupI, e]
      | false => simp [FR, fst4, tupI, e]
end
end Ev
end

section
set_option Elab.async false
set_option linter.all false
set_option maxRecDepth 100000
/-! Ev: moves. -/
namespace Ev
open PySem PySem.Spec PyProof.Rows L2
/-- all stays -/
structure Kq (h h' : Mem) : Prop where
  sz : h.size ≤ h'.size
  lk : h'.locks = h.locks
  ld : h'.dl = h.dl
  get : ∀ n o, h.get n = some o → h'.get n = some o
theorem Kq.refl {h : Mem} : Kq h h := ⟨Nat.le_refl _, rfl, rfl, fun _ _ e => e⟩
theorem Kq.trans {h h1 h2 : Mem} (a : Kq h h1) (b : Kq h1 h2) : Kq h h2 := ⟨Nat.le_trans a.sz b.sz, b.lk.trans a.lk, b.ld.trans a.ld, fun n o e => b.get n o (a.get n o e)⟩
theorem Kq.push {h : Mem} {o : Ob} : Kq h (h.push o) := ⟨by simp, rfl, rfl, fun n u e => Mem.get_push e⟩
theorem Kq.kp {D : Nat} {h h' : Mem} (a : Kq h h') : Kp D h h' := ⟨a.sz, a.lk, a.ld, fun n o _ e => a.get n o e⟩
theorem Kq.dr {ns : List Int} {D : Nat} {h h' : Mem} (a : Kq h h') (d : DRx ns h D) : DRx ns h' D := by
  obtain ⟨b, n, dd⟩ := d
  exact ⟨b, n, a.get _ _ dd.sc, a.get _ _ dd.at_, by unfold Mem.free; rw [a.lk]; exact dd.fr, dd.b0, dd.n0⟩
theorem loopL_kp {f : PV → Mem → Res (List PV)} {F : PV → List PV} {Q : Mem → Prop} : ∀ {xs : List PV} {h : Mem}, (∀ x ∈ xs, ∀ m, Q m → ∃ m', f x m = .ok (F x) m' ∧ Q m') → Q h → ∃ h', loopL f xs h = .ok (xs.flatMap F) h' ∧ Q h'
  | [], h, _, q => ⟨h, rfl, q⟩
  | x :: xs, h, H, q => by
    obtain ⟨m, e, q1⟩ := H x List.mem_cons_self h q
    obtain ⟨h', e2, q2⟩ := loopL_kp (xs := xs) (h := m) (fun y hy => H y (List.mem_cons_of_mem _ hy)) q1
    refine ⟨h', ?_, q2⟩
    unfold loopL
    rw [e]
    simp only [Res.bind_ok]
    rw [e2]
    rfl
def inner2 (C : Calls) (own1 : List Nat) (i1 : XI) (g1 : Tg) (t1 : XT) (e : XE) (s' : Env) (h : Mem) : Res (List PV) := (i1 C s' h).bind fun q h3 => (turns (tgG g1) t1 C (lC1.wipeV s' own1) (fun s'' h => (e C s'' h).bind fun y h' => .ok [y] h') q.1 (h3.lock q.2)).bind fun ys h4 => .ok ys (h4.unlock q.2)
theorem lC2_ok {C : Calls} {s : Env} {h h1 : Mem} {own own1 : List Nat} {i i1 : XI} {g g1 : Tg} {t1 : XT} {e : XE} {xs : List PV} {F : PV → List PV} {Q : Mem → Prop} (hi : i C s h = .ok (xs, []) h1) (q : Q h1)
    (hf : ∀ x ∈ xs, ∀ m, Q m → ∃ m', (tgG g C x (lC1.wipeV s own) m).bind (fun s' h1 => inner2 C own1 i1 g1 t1 e s' h1) = .ok (F x) m' ∧ Q m') (hz : fits (xs.flatMap F) = true) :
    ∃ h', lC2 own own1 i g tYes i1 g1 t1 e C s h = .ok (xs.flatMap F) h' ∧ Q h' := by
  obtain ⟨h', e1, q1⟩ := loopL_kp (f := fun x m => (tgG g C x (lC1.wipeV s own) m).bind fun s' h1 => inner2 C own1 i1 g1 t1 e s' h1) (F := F) (Q := Q) (xs := xs) (h := h1) hf q
  refine ⟨h', ?_, q1⟩
  unfold lC2
  rw [hi]
  simp only [Res.bind_ok]
  have hl : h1.lock [] = h1 := rfl
  have hu : h'.unlock [] = h' := rfl
  have e2 : turns (tgG g) tYes C (lC1.wipeV s own) (inner2 C own1 i1 g1 t1 e) xs h1 = .ok (xs.flatMap F) h' := e1
  rw [hl]
  show ((noErr (turns (tgG g) tYes C (lC1.wipeV s own) (inner2 C own1 i1 g1 t1 e) xs h1)).bind fun ys h2 => cnd (fits ys) (.ok ys (h2.unlock [])) .bad) = _
  rw [e2]
  simp only [noErr, Res.bind_ok, hz, cnd_true, hu]
/-- the moves: so many pieces, by the roads -/
def MV (rf : List PV) (n : Nat) : List PV := (upto 0 1 n).flatMap fun p => rf.map fun r => .tup [p, r]
theorem flatMap_len {F : PV → List PV} {c : Nat} : ∀ {xs : List PV}, (∀ x ∈ xs, (F x).length ≤ c) → (xs.flatMap F).length ≤ xs.length * c
  | [], _ => by simp
  | x :: xs, H => by
    have h1 := H x List.mem_cons_self
    have h2 := flatMap_len (F := F) (c := c) (xs := xs) fun y hy => H y (List.mem_cons_of_mem _ hy)
    rw [List.flatMap_cons, List.length_append, List.length_cons, Nat.add_mul]
    omega
theorem MV_len {rf : List PV} {n : Nat} (h1 : rf.length ≤ 7) (h2 : n ≤ 10) : (MV rf n).length ≤ 70 := by
  have := flatMap_len (F := fun p => rf.map fun r => .tup [p, r]) (c := 7) (xs := upto 0 1 n) fun x _ => by simpa using h1
  rw [upto_len] at this
  unfold MV
  have : n * 7 ≤ 70 := by omega
  omega
section
variable {tab : List Fd} {it : List (Nat × Bool)} {lt : List (Nat × Nat)} {fRf fMv fRo fPl fPr fBx K : Nat} {h : Mem} {M : Nat} {many room bear place ice warm late : Int} {qs : List (List Int)} {ps : List PV}
def bRf : XS := (sRet (eNew (lC1 [2, 3] (iEnum (iOf (eFld [(0, .slot 1)] (eVar 0)))) (.un [2, 3]) (tE (eCmp .eq (eSub (eVar 3) (eC (.int 0))) (eVar 1))) (eVar 2))))
theorem rfrom_ok (hR : nthF tab fRf = some ⟨2, 4, bRf⟩) (hK : 1 ≤ K) (hm : h.get M = some (mapOb many room bear qs ps)) (mo : RoadsOk many qs) : callD tab K fRf [.ref M, .int place] h = .ok (.ref h.size) (h.push (.lst (RF qs place))) := by
  obtain ⟨k, rfl⟩ : ∃ k, K = k + 1 := ⟨K - 1, by omega⟩
  rw [call_eq hR]
  have hmr : h.get M = some (.ins 0 [some (.tup [.int room, .int bear]), some (.tup (qs.map tupI)), some (.int many), some (.tup ps)]) := hm
  have e := rf_lc (h := h) (C := callD tab k) (s := [some (.ref M), some (.int place), none, none]) (src := eFld [(0, .slot 1)] (eVar 0)) (a := 2) (b := 3) (pe := eVar 1) (place := place) (qs := qs) (many := many)
    (by simp [runFd, sSeq, sIf, sRet, sExpr, sAsg, sOf, endS, tE, tAnd, tOr, tNot, tYes, eCmp, eVar, eC, eBin, eLen, lenV, cmpop, ltV, icmp, eSub, subV, itemsOf, binop, addV, mulV, mapInt2, eB, gInt, gMax2, gMin2, aCons, aNil, eCall, tgG, gName, gUnp, setAll, eTup, eIf, eAnd, eOr, eNot, Res.bind, ofO, Option.map, sNil, cnd, eFld, fldV, lookC, hmr]) mo.ok (by have := mo.seven; omega) (fun j q => by simp [lC1.wipeV, setAll]) fun j q s' es => by
      simp [lC1.wipeV, setAll] at es
      subst es
      simp [eVar]
  have ff : fits (RF qs place) = true := fits_small (by have := RF_len qs place; have := mo.seven; omega)
  unfold runFd bRf sRet eNew
  simp only [List.length_cons, List.length_nil, List.map_cons, List.map_nil]
  have z : (Nat.beq (0 + 1 + 1) 2) = true := rfl
  simp only [z, cnd_true]
  have er : ([some (PV.ref M), some (.int place)] ++ List.replicate (4 - (0 + 1 + 1)) (none : Option PV)) = [some (.ref M), some (.int place), none, none] := rfl
  rw [er, e]
  simp [sOf, ff]
def mvMost : XS := (sAsg (eIf (tE (eCmp .is_ (eSub (eFld [(0, .slot 3)] (eVar 0)) (eSub (eVar 1) (eC (.int 0)))) (eC .non))) (eC (.int 0)) (eBin .sub (eSub (eFld [(0, .slot 0)] (eVar 0)) (eC (.int 0))) (eSub (eVar 1) (eC (.int 1))))) (tgG (.nm 2)))
def mvComp (fRf : Nat) : XA := (lC2 [3, 4] [4] (iR1 (eBin .add (eVar 2) (eC (.int 1)))) (.nm 3) tYes (iAny (eCall fRf (aCons (eVar 0) (aCons (eSub (eVar 1) (eC (.int 0))) aNil)))) (.nm 4) tYes (eTup (aCons (eVar 3) (aCons (eVar 4) aNil))))
def bMv (fRf : Nat) : XS := (sSeq mvMost (sRet (eNew (mvComp fRf))))
/-- how many numbers of pieces -/
def nPc (ps : List PV) (room place ice : Int) : Nat := match ps[place.toNat]? with
  | some .non => 1
  | _ => (room - ice + 1).toNat
theorem nPc_le (h1 : room ≤ 6) (h2 : 0 ≤ ice) : nPc ps room place ice ≤ 10 := by
  unfold nPc
  split <;> omega
theorem mvComp_ok {n : Int} (hR : nthF tab fRf = some ⟨2, 4, bRf⟩) (hK : 1 ≤ K) (hm : h.get M = some (mapOb many room bear qs ps)) (mo : RoadsOk many qs) (hn : 0 ≤ n ∧ n ≤ 9) :
    ∃ h', mvComp fRf (callD tab K) [some (.ref M), some (.tup [.int place, .int ice, .int warm, .int late]), some (.int n), none, none] h = .ok (MV (RF qs place) (n + 1).toNat) h' ∧ Kq h h' := by
  have h62 := lt62_t (i := n + 1) (by omega) (by omega)
  have hrl : (RF qs place).length ≤ 7 := by have := RF_len qs place; have := mo.seven; omega
  unfold mvComp
  refine lC2_ok (xs := upto 0 1 (n + 1).toNat) (h1 := h) (Q := fun m => Kq h m) (F := fun p => (RF qs place).map fun r => .tup [p, r]) ?_ Kq.refl (fun x hx m q => ?_) (fits_small (by have := MV_len (rf := RF qs place) (n := (n + 1).toNat) hrl (by omega); unfold MV at this; omega))
  · simp [iR1, runFd, sSeq, sIf, sRet, sExpr, sAsg, sOf, endS, tE, tAnd, tOr, tNot, tYes, eCmp, eVar, eC, eBin, eLen, lenV, cmpop, ltV, icmp, eSub, subV, itemsOf, binop, addV, mulV, mapInt2, eB, gInt, gMax2, gMin2, aCons, aNil, eCall, tgG, gName, gUnp, setAll, eTup, eIf, eAnd, eOr, eNot, Res.bind, ofO, Option.map, sNil, cnd, h62]
  · have hmm := q.get _ _ hm
    have e1 := rfrom_ok (K := K) (h := m) (place := place) hR hK hmm mo
    have g1 : (m.push (.lst (RF qs place))).get m.size = some (.lst (RF qs place)) := Mem.get_push_new _ _
    refine ⟨m.push (.lst (RF qs place)), ?_, q.trans Kq.push⟩
    have x0 : ixN 4 0 = some 0 := rfl
    have f2 : ∀ a b : PV, fits [a, b] = true := fun _ _ => rfl
    have ei : iAny (eCall fRf (aCons (eVar 0) (aCons (eSub (eVar 1) (eC (.int 0))) aNil))) (callD tab K) [some (.ref M), some (.tup [.int place, .int ice, .int warm, .int late]), some (.int n), some x, none] m = .ok (RF qs place, [m.size]) (m.push (.lst (RF qs place))) := by
      simp [iOf, iAny, runFd, sSeq, sIf, sRet, sExpr, sAsg, sOf, endS, tE, tAnd, tOr, tNot, tYes, eCmp, eVar, eC, eBin, eLen, lenV, cmpop, ltV, icmp, eSub, subV, itemsOf, binop, addV, mulV, mapInt2, eB, gInt, gMax2, gMin2, aCons, aNil, eCall, tgG, gName, gUnp, setAll, eTup, eIf, eAnd, eOr, eNot, Res.bind, ofO, Option.map, sNil, cnd, x0, e1, g1]
    show inner2 (callD tab K) [4] _ _ _ _ [some (.ref M), some (.tup [.int place, .int ice, .int warm, .int late]), some (.int n), some x, none] m = _
    unfold inner2
    rw [ei]
    simp only [Res.bind_ok]
    have et : turns (tgG (.nm 4)) tYes (callD tab K) (lC1.wipeV [some (.ref M), some (.tup [.int place, .int ice, .int warm, .int late]), some (.int n), some x, none] [4]) (fun s'' h => (eTup (aCons (eVar 3) (aCons (eVar 4) aNil)) (callD tab K) s'' h).bind fun y h' => .ok [y] h') (RF qs place) ((m.push (.lst (RF qs place))).lock [m.size]) =
      .ok ((RF qs place).flatMap fun r => [.tup [x, r]]) ((m.push (.lst (RF qs place))).lock [m.size]) := by
      refine loopL_pure (F := fun r => [.tup [x, r]]) fun r hr => ?_
      simp [runFd, sSeq, sIf, sRet, sExpr, sAsg, sOf, endS, tE, tAnd, tOr, tNot, tYes, eCmp, eVar, eC, eBin, eLen, lenV, cmpop, ltV, icmp, eSub, subV, itemsOf, binop, addV, mulV, mapInt2, eB, gInt, gMax2, gMin2, aCons, aNil, eCall, tgG, gName, gUnp, setAll, eTup, eIf, eAnd, eOr, eNot, Res.bind, ofO, Option.map, sNil, cnd, lC1.wipeV, f2]
    rw [et]
    simp only [Res.bind_ok, lock_unlock]
    congr 1
    induction RF qs place with
    | nil => rfl
    | cons r rs ih => simp [ih]
theorem price_at (mp : (ps.length : Int) = many) (hp : 0 ≤ place ∧ place < many) : ∃ x, ps[place.toNat]? = some x ∧ ixN ps.length place = some place.toNat := by
  have h1 := ixN_ok (n := ps.length) hp.1 (by omega)
  have h2 : place.toNat < ps.length := by omega
  exact ⟨ps[place.toNat], by simp [h2], h1⟩
theorem mv_ok (hR : nthF tab fRf = some ⟨2, 4, bRf⟩) (hM : nthF tab fMv = some ⟨2, 5, bMv fRf⟩) (hK : 2 ≤ K) (hm : h.get M = some (mapOb many room bear qs ps)) (mo : MapOk many room bear qs ps) (so : StOk many room bear place ice warm late) :
    ∃ h' r, callD tab K fMv [.ref M, .tup [.int place, .int ice, .int warm, .int late]] h = .ok (.ref r) h' ∧ h'.get r = some (.lst (MV (RF qs place) (nPc ps room place ice))) ∧ Kq h h' ∧ h.size ≤ r := by
  obtain ⟨k, rfl⟩ : ∃ k, K = k + 1 := ⟨K - 1, by omega⟩
  rw [call_eq hM]
  have hmr : h.get M = some (.ins 0 [some (.tup [.int room, .int bear]), some (.tup (qs.map tupI)), some (.int many), some (.tup ps)]) := hm
  obtain ⟨x, hx, hix⟩ := price_at mo.pl ⟨so.p0, so.p1⟩
  have x0 : ixN 4 0 = some 0 := rfl
  have x1 : ixN 4 1 = some 1 := rfl
  have y0 : ixN 2 0 = some 0 := rfl
  have r6 := mo.r6
  have i0 := so.i0
  have i1 := so.i1
  have key : ∃ n : Int, mvMost (callD tab k) [some (.ref M), some (.tup [.int place, .int ice, .int warm, .int late]), none, none, none] h = .nx [some (.ref M), some (.tup [.int place, .int ice, .int warm, .int late]), some (.int n), none, none] h ∧ 0 ≤ n ∧ n ≤ 9 ∧ (n + 1).toNat = nPc ps room place ice := by
    rcases mo.pr x (List.mem_of_getElem? hx) with rfl | ⟨i, rfl, _, _⟩
    · refine ⟨0, ?_, by omega, by omega, by unfold nPc; rw [hx]; rfl⟩
      simp [mvMost, runFd, sSeq, sIf, sRet, sExpr, sAsg, sOf, endS, tE, tAnd, tOr, tNot, tYes, eCmp, eVar, eC, eBin, eLen, lenV, cmpop, ltV, icmp, eSub, subV, itemsOf, binop, addV, mulV, mapInt2, eB, gInt, gMax2, gMin2, aCons, aNil, eCall, tgG, gName, gUnp, setAll, eTup, eIf, eAnd, eOr, eNot, Res.bind, ofO, Option.map, sNil, cnd, eFld, fldV, lookC, hmr, hix, hx, x0, isV, isNon]
    · refine ⟨room - ice, ?_, by omega, by omega, by unfold nPc; rw [hx]⟩
      simp [mvMost, runFd, sSeq, sIf, sRet, sExpr, sAsg, sOf, endS, tE, tAnd, tOr, tNot, tYes, eCmp, eVar, eC, eBin, eLen, lenV, cmpop, ltV, icmp, eSub, subV, itemsOf, binop, addV, mulV, mapInt2, eB, gInt, gMax2, gMin2, aCons, aNil, eCall, tgG, gName, gUnp, setAll, eTup, eIf, eAnd, eOr, eNot, Res.bind, ofO, Option.map, sNil, cnd, eFld, fldV, lookC, hmr, hix, hx, x0, x1, y0, isV, isNon]
  obtain ⟨n, en, n0, n9, hn⟩ := key
  obtain ⟨h', ec, kq⟩ := mvComp_ok (K := k) (place := place) (ice := ice) (warm := warm) (late := late) hR (by omega) hm mo.rd (n := n) ⟨n0, n9⟩
  rw [hn] at ec
  have ff : fits (MV (RF qs place) (nPc ps room place ice)) = true := fits_small (by have := MV_len (rf := RF qs place) (n := nPc ps room place ice) (by have := RF_len qs place; have := mo.rd.seven; omega) (nPc_le r6 i0); omega)
  refine ⟨h'.push (.lst (MV (RF qs place) (nPc ps room place ice))), h'.size, ?_, Mem.get_push_new _ _, kq.trans Kq.push, kq.sz⟩
  simp [bMv, runFd, sSeq, sIf, sRet, sExpr, sAsg, sOf, endS, tE, tAnd, tOr, tNot, tYes, eCmp, eVar, eC, eBin, eLen, lenV, cmpop, ltV, icmp, eSub, subV, itemsOf, binop, addV, mulV, mapInt2, eB, gInt, gMax2, gMin2, aCons, aNil, eCall, tgG, gName, gUnp, setAll, eTup, eIf, eAnd, eOr, eNot, Res.bind, ofO, Option.map, sNil, cnd, en, eNew, ec, ff]
end
end Ev
end

section
set_option Elab.async false
set_option linter.all false
set_option maxRecDepth 100000
/-! Ev: checks of a state; moves by the law. -/
namespace Ev
open PySem PySem.Spec PyProof.Rows L2
section
variable {tab : List Fd} {it : List (Nat × Bool)} {lt : List (Nat × Nat)} {fI fCm fIs fCk fRf fMv fMs fLm fRo fPl fPr fBx K : Nat} {x1 x2 : XS} {h : Mem} {M : Nat} {many room bear place ice warm late : Int} {qs : List (List Int)} {ps : List PV}
def bCm (x : XS) : XS := (sIf (tNot (tE (eIs (.own 0) [(0, true)] (eVar 0)))) x sNil)
def stAll (fI : Nat) : XE := (eAll (lC1 [5, 6] (iZip (iOf (eVar 1)) (iOf (eVar 2))) (.un [5, 6]) tYes (eCall fI (aCons (eVar 5) (aCons (eC (.int 0)) (aCons (eVar 6) aNil))))))
def bIs (it : List (Nat × Bool)) (lt : List (Nat × Nat)) (fI : Nat) : XS := (sSeq (sIf (tOr (tNot (tE (eIs .tuple it (eVar 1)))) (tE (eCmp .ne (eLen lt (eVar 1)) (eC (.int 4))))) (sRet (eC (.bl false))) sNil) (sSeq (sAsg (eFld [(0, .slot 0)] (eVar 0)) (tgG (.un [3, 4]))) (sSeq (sAsg (eNew (lNew (aCons (eBin .sub (eFld [(0, .slot 2)] (eVar 0)) (eC (.int 1))) (aCons (eVar 3) (aCons (eVar 4) (aCons (eC (.int 4)) aNil)))))) (tgG (.nm 2))) (sRet (stAll fI)))))
def bCk (x : XS) (fCm fIs : Nat) : XS := (sSeq (sExpr (eCall fCm (aCons (eVar 0) aNil))) (sIf (tNot (tE (eCall fIs (aCons (eVar 0) (aCons (eVar 1) aNil))))) x sNil))
def bMs (fCk fMv : Nat) : XS := (sSeq (sExpr (eCall fCk (aCons (eVar 0) (aCons (eVar 1) aNil)))) (sRet (eCall fMv (aCons (eVar 0) (aCons (eVar 1) aNil)))))
def bnds (many room bear : Int) : Ob := .lst [.int (many - 1), .int room, .int bear, .int 4]
theorem cm_ok (hC : nthF tab fCm = some ⟨1, 1, bCm x1⟩) (hK : 1 ≤ K) (hm : h.get M = some (mapOb many room bear qs ps)) : callD tab K fCm [.ref M] h = .ok .non h := by
  obtain ⟨k, rfl⟩ : ∃ k, K = k + 1 := ⟨K - 1, by omega⟩
  rw [call_eq hC]
  simp [bCm, runFd, sSeq, sIf, sRet, sExpr, sAsg, sOf, endS, tE, tAnd, tOr, tNot, tYes, eCmp, eVar, eC, eBin, eLen, lenV, cmpop, ltV, icmp, eSub, subV, itemsOf, binop, addV, mulV, mapInt2, eB, gInt, gMax2, gMin2, aCons, aNil, eCall, tgG, gName, gUnp, setAll, eTup, eIf, eAnd, eOr, eNot, Res.bind, ofO, Option.map, sNil, cnd, eIs, isB, hm, mapOb, lookC, bnot]
theorem is_ok' (hI : nthF tab fI = some ⟨3, 3, bInt it⟩) (hS : nthF tab fIs = some ⟨2, 7, bIs it lt fI⟩) (hK : 2 ≤ K) (hm : h.get M = some (mapOb many room bear qs ps)) (so : StOk many room bear place ice warm late) :
    callD tab K fIs [.ref M, .tup [.int place, .int ice, .int warm, .int late]] h = .ok (.bl true) (h.push (bnds many room bear)) := by
  obtain ⟨k, rfl⟩ : ∃ k, K = k + 1 := ⟨K - 1, by omega⟩
  rw [call_eq hS]
  have hmr : h.get M = some (.ins 0 [some (.tup [.int room, .int bear]), some (.tup (qs.map tupI)), some (.int many), some (.tup ps)]) := hm
  have g1 : (h.push (bnds many room bear)).get h.size = some (bnds many room bear) := Mem.get_push_new _ _
  have ea : stAll fI (callD tab k) [some (.ref M), some (.tup [.int place, .int ice, .int warm, .int late]), some (.ref h.size), some (.int room), some (.int bear), none, none] (h.push (bnds many room bear)) = .ok (.bl true) (h.push (bnds many room bear)) := by
    unfold stAll
    refine all_ok (xs := pairs [.int place, .int ice, .int warm, .int late] [.int (many - 1), .int room, .int bear, .int 4]) (ls := [h.size]) ?_ (by simp [pairs]) fun x hx => ?_
    · have hl0 : ∀ m : Mem, m.lock [] = m := fun m => rfl
      have hu0 : ∀ m : Mem, m.unlock [] = m := fun m => rfl
      have g2 : (h.push (bnds many room bear)).get h.size = some (.lst [.int (many - 1), .int room, .int bear, .int 4]) := g1
      simp [iZip, iOf, iAny, runFd, sSeq, sIf, sRet, sExpr, sAsg, sOf, endS, tE, tAnd, tOr, tNot, tYes, eCmp, eVar, eC, eBin, eLen, lenV, cmpop, ltV, icmp, eSub, subV, itemsOf, binop, addV, mulV, mapInt2, eB, gInt, gMax2, gMin2, aCons, aNil, eCall, tgG, gName, gUnp, setAll, eTup, eIf, eAnd, eOr, eNot, Res.bind, ofO, Option.map, sNil, cnd, unlockR, hl0, hu0, g2]
    · have hx : x ∈ [PV.tup [.int place, .int (many - 1)], .tup [.int ice, .int room], .tup [.int warm, .int bear], .tup [.int late, .int 4]] := hx
      have p0 := so.p0; have p1 := so.p1; have i0 := so.i0; have i1 := so.i1; have w0 := so.w0; have w1 := so.w1; have l0 := so.l0; have l1 := so.l1
      simp only [List.mem_cons, List.not_mem_nil, or_false] at hx
      have go : ∀ a b : Int, 0 ≤ a → a ≤ b → turn1 (callD tab k) (lC1.wipeV [some (.ref M), some (.tup [.int place, .int ice, .int warm, .int late]), some (.ref h.size), some (.int room), some (.int bear), none, none] [5, 6]) (.un [5, 6]) tYes (eCall fI (aCons (eVar 5) (aCons (eC (.int 0)) (aCons (eVar 6) aNil)))) (.tup [.int a, .int b]) ((h.push (bnds many room bear)).lock [h.size]) = .ok [.bl true] ((h.push (bnds many room bear)).lock [h.size]) := fun a b ha hb => by
        have e := isint_ok (K := k) (h := (h.push (bnds many room bear)).lock [h.size]) hI (by omega) ha hb
        simp [turn1, runFd, sSeq, sIf, sRet, sExpr, sAsg, sOf, endS, tE, tAnd, tOr, tNot, tYes, eCmp, eVar, eC, eBin, eLen, lenV, cmpop, ltV, icmp, eSub, subV, itemsOf, binop, addV, mulV, mapInt2, eB, gInt, gMax2, gMin2, aCons, aNil, eCall, tgG, gName, gUnp, setAll, eTup, eIf, eAnd, eOr, eNot, Res.bind, ofO, Option.map, sNil, cnd, lC1.wipeV, e]
      rcases hx with z | z | z | z <;> subst z
      · exact go _ _ p0 (by omega)
      · exact go _ _ i0 i1
      · exact go _ _ w0 w1
      · exact go _ _ l0 l1
  have q : eqv h (.int 4) (.int 4) = some true := by rw [eqv_int, ieq_t]
  have f4 : ∀ a b c d : PV, fits [a, b, c, d] = true := fun _ _ _ _ => rfl
  have hb : h.push (.lst [.int (many - 1), .int room, .int bear, .int 4]) = h.push (bnds many room bear) := rfl
  simp [bIs, runFd, sSeq, sIf, sRet, sExpr, sAsg, sOf, endS, tE, tAnd, tOr, tNot, tYes, eCmp, eVar, eC, eBin, eLen, lenV, cmpop, ltV, icmp, eSub, subV, itemsOf, binop, addV, mulV, mapInt2, eB, gInt, gMax2, gMin2, aCons, aNil, eCall, tgG, gName, gUnp, setAll, eTup, eIf, eAnd, eOr, eNot, Res.bind, ofO, Option.map, sNil, cnd, eIs, isB, isTup, q, onot, bnot, eFld, fldV, lookC, hmr, eNew, lNew, f4, hb, ea]
theorem ck_ok (hI : nthF tab fI = some ⟨3, 3, bInt it⟩) (hC : nthF tab fCm = some ⟨1, 1, bCm x1⟩) (hS : nthF tab fIs = some ⟨2, 7, bIs it lt fI⟩) (hK' : nthF tab fCk = some ⟨2, 2, bCk x2 fCm fIs⟩) (hK : 3 ≤ K) (hm : h.get M = some (mapOb many room bear qs ps)) (so : StOk many room bear place ice warm late) :
    callD tab K fCk [.ref M, .tup [.int place, .int ice, .int warm, .int late]] h = .ok .non (h.push (bnds many room bear)) := by
  obtain ⟨k, rfl⟩ : ∃ k, K = k + 1 := ⟨K - 1, by omega⟩
  rw [call_eq hK']
  have e1 := cm_ok (K := k) hC (by omega) hm
  have e2 := is_ok' (K := k) hI hS (by omega) hm so
  simp [bCk, runFd, sSeq, sIf, sRet, sExpr, sAsg, sOf, endS, tE, tAnd, tOr, tNot, tYes, eCmp, eVar, eC, eBin, eLen, lenV, cmpop, ltV, icmp, eSub, subV, itemsOf, binop, addV, mulV, mapInt2, eB, gInt, gMax2, gMin2, aCons, aNil, eCall, tgG, gName, gUnp, setAll, eTup, eIf, eAnd, eOr, eNot, Res.bind, ofO, Option.map, sNil, cnd, e1, e2, bnot]
/-- moves(chart, state) -/
theorem ms_ok (hI : nthF tab fI = some ⟨3, 3, bInt it⟩) (hC : nthF tab fCm = some ⟨1, 1, bCm x1⟩) (hS : nthF tab fIs = some ⟨2, 7, bIs it lt fI⟩) (hK' : nthF tab fCk = some ⟨2, 2, bCk x2 fCm fIs⟩) (hR : nthF tab fRf = some ⟨2, 4, bRf⟩) (hM : nthF tab fMv = some ⟨2, 5, bMv fRf⟩) (hMs : nthF tab fMs = some ⟨2, 2, bMs fCk fMv⟩)
    (hK : 4 ≤ K) (hm : h.get M = some (mapOb many room bear qs ps)) (mo : MapOk many room bear qs ps) (so : StOk many room bear place ice warm late) :
    ∃ h' r, callD tab K fMs [.ref M, .tup [.int place, .int ice, .int warm, .int late]] h = .ok (.ref r) h' ∧ h'.get r = some (.lst (MV (RF qs place) (nPc ps room place ice))) ∧ Kq h h' ∧ h.size ≤ r := by
  obtain ⟨k, rfl⟩ : ∃ k, K = k + 1 := ⟨K - 1, by omega⟩
  rw [call_eq hMs]
  have e1 := ck_ok (K := k) hI hC hS hK' (by omega) hm so
  obtain ⟨h', r, e2, g, kq, hr⟩ := mv_ok (K := k) (h := h.push (bnds many room bear)) hR hM (by omega) (Mem.get_push hm) mo so
  have hr' : h.size + 1 ≤ r := hr
  exact ⟨h', r, by simp [bMs, runFd, sSeq, sIf, sRet, sExpr, sAsg, sOf, endS, tE, tAnd, tOr, tNot, tYes, eCmp, eVar, eC, eBin, eLen, lenV, cmpop, ltV, icmp, eSub, subV, itemsOf, binop, addV, mulV, mapInt2, eB, gInt, gMax2, gMin2, aCons, aNil, eCall, tgG, gName, gUnp, setAll, eTup, eIf, eAnd, eOr, eNot, Res.bind, ofO, Option.map, sNil, cnd, e1, e2], g, Kq.push.trans kq, by omega⟩
/-! ### moves by the law -/
def lmBody (fPr : Nat) : XS := (sIf (tOr (tE (eCmp .eq (eVar 4) (eC (.int 0)))) (tE (eCmp .isnot (eSub (eFld [(0, .prop fPr)] (eVar 0)) (eVar 5)) (eC .non)))) (sAsg (eBin .add (eVar 3) (eNew (lC1 [8] (iAny (eVar 2)) (.nm 8) tYes (eTup (aCons (eVar 4) (aCons (eVar 8) aNil)))))) (tgG (.nm 3))) sNil)
def lmFor (fBx fPr : Nat) : XS := (sFor (iR1 (eBin .add (eBin .sub (eSub (eFld [(0, .prop fBx)] (eVar 0)) (eC (.int 0))) (eVar 6)) (eC (.int 1)))) (tgG (.nm 4)) (lmBody fPr))
def lmRoads (fRo : Nat) : XA := (lC1 [7, 8] (iEnum (iOf (eFld [(0, .prop fRo)] (eVar 0)))) (.un [7, 8]) (tE (eCmp .eq (eSub (eVar 8) (eC (.int 0))) (eVar 5))) (eVar 7))
def bLm (fRo fBx fPr : Nat) : XS := (sSeq (sAsg (eTup (aCons (eSub (eVar 1) (eC (.int 0))) (aCons (eSub (eVar 1) (eC (.int 1))) aNil))) (tgG (.un [5, 6]))) (sSeq (sAsg (eNew (lmRoads fRo)) (tgG (.nm 2))) (sSeq (sAsg (eNew (lNew aNil)) (tgG (.nm 3))) (sSeq (lmFor fBx fPr) (sRet (eVar 3))))))
theorem upto_succ : ∀ (n : Nat) (lo : Int), upto lo 1 (n + 1) = upto lo 1 n ++ [.int (lo + n)]
  | 0, lo => by simp [upto]
  | n + 1, lo => by
    rw [upto, upto_succ n (lo + 1), upto]
    simp only [List.cons_append]
    congr 3
    congr 1
    omega
theorem MV_succ (rf : List PV) (n : Nat) : MV rf (n + 1) = MV rf n ++ rf.map fun r => .tup [.int n, r] := by
  unfold MV
  rw [upto_succ, List.flatMap_append]
  simp
theorem pair_lc {C : Calls} {s : Env} {a b c : Nat} {x : PV} {rr : Nat} {rf : List PV} (hrf : h.get rr = some (.lst rf)) (hl : rf.length ≤ 1000) (ha : s[a]? = some (some (.ref rr))) (hb : ∀ r, ((lC1.wipeV s [c]).set c (some r))[b]? = some (some x) ∧ ((lC1.wipeV s [c]).set c (some r))[c]? = some (some r)) :
    lC1 [c] (iAny (eVar a)) (.nm c) tYes (eTup (aCons (eVar b) (aCons (eVar c) aNil))) C s h = .ok (rf.map fun r => .tup [x, r]) h := by
  have f2 : ∀ a b : PV, fits [a, b] = true := fun _ _ => rfl
  have hfm : ∀ l : List PV, (l.flatMap fun r => [PV.tup [x, r]]) = l.map fun r => .tup [x, r] := by
    intro l
    induction l with
    | nil => rfl
    | cons r l ih => simp [ih]
  have := lC1_pure (C := C) (s := s) (h := h) (own := [c]) (i := iAny (eVar a)) (g := .nm c) (t := tYes) (e := eTup (aCons (eVar b) (aCons (eVar c) aNil))) (xs := rf) (ls := [rr]) (F := fun r => [.tup [x, r]]) (by simp [iOf, iAny, runFd, sSeq, sIf, sRet, sExpr, sAsg, sOf, endS, tE, tAnd, tOr, tNot, tYes, eCmp, eVar, eC, eBin, eLen, lenV, cmpop, ltV, icmp, eSub, subV, itemsOf, binop, addV, mulV, mapInt2, eB, gInt, gMax2, gMin2, aCons, aNil, eCall, tgG, gName, gUnp, setAll, eTup, eIf, eAnd, eOr, eNot, Res.bind, ofO, Option.map, sNil, cnd, ha, hrf]) (fun r hr => by
    obtain ⟨q1, q2⟩ := hb r
    unfold turn1
    show ((tYes C ((lC1.wipeV s [c]).set c (some r)) (h.lock [rr])).bind fun bb h2 => match bb with
      | true => (eTup (aCons (eVar b) (aCons (eVar c) aNil)) C ((lC1.wipeV s [c]).set c (some r)) h2).bind fun y h' => .ok [y] h'
      | false => .ok [] h2) = _
    simp [runFd, sSeq, sIf, sRet, sExpr, sAsg, sOf, endS, tE, tAnd, tOr, tNot, tYes, eCmp, eVar, eC, eBin, eLen, lenV, cmpop, ltV, icmp, eSub, subV, itemsOf, binop, addV, mulV, mapInt2, eB, gInt, gMax2, gMin2, aCons, aNil, eCall, tgG, gName, gUnp, setAll, eTup, eIf, eAnd, eOr, eNot, Res.bind, ofO, Option.map, sNil, cnd, q1, q2, f2]) (by rw [hfm]; exact fits_small (by rw [List.length_map]; omega))
  rw [hfm] at this
  exact this
theorem sAsg_add {C : Calls} {s : Env} {h1 h2 : Mem} {a b : XE} {x y z : PV} {i : Nat} (ea : a C s h = .ok x h) (eb : b C s h = .ok y h1) (ec : binop .add x y h1 = .ok z h2) : sAsg (eBin .add a b) (tgG (.nm i)) C s h = .nx (s.set i (some z)) h2 := by
  show sOf s ((a C s h).bind fun x h1 => (b C s h1).bind fun y h2 => binop .add x y h2) (fun v h1 => sOf s (gName i C v s h1) fun s' h2 => .nx s' h2) = _
  rw [ea]
  show sOf s ((b C s h).bind fun y h2 => binop .add x y h2) _ = _
  rw [eb]
  show sOf s (binop .add x y h1) _ = _
  rw [ec]
  rfl
theorem lm_body (Q : QW tab fPl fRo fPr fBx) (hK : 1 ≤ K) {h0 : Mem} (hm : h.get M = some (mapOb many room bear qs ps)) (mo : MapOk many room bear qs ps) (hp : 0 ≤ place ∧ place < many) {rr r i j : Nat} {rf : List PV} (hrr : h.get rr = some (.lst rf)) (hrl : rf.length ≤ 7) (hr : h.get r = some (.lst (MV rf j))) (hi : i ≤ 8) (hj : ps[place.toNat]? = some .non ∧ j = min i 1 ∨ ps[place.toNat]? ≠ some .non ∧ j = i) {o1 o7 o8 : Option PV} :
    ∃ h' r' j', lmBody fPr (callD tab K) [some (.ref M), o1, some (.ref rr), some (.ref r), some (.int i), some (.int place), some (.int ice), o7, o8] h = .nx [some (.ref M), o1, some (.ref rr), some (.ref r'), some (.int i), some (.int place), some (.int ice), o7, o8] h' ∧ Kq h h' ∧ h'.get r' = some (.lst (MV rf j')) ∧
      (ps[place.toNat]? = some .non ∧ j' = min (i + 1) 1 ∨ ps[place.toNat]? ≠ some .non ∧ j' = i + 1) := by
  obtain ⟨x, hx, hix⟩ := price_at mo.pl hp
  have hmr : h.get M = some (.ins 0 [some (.tup [.int room, .int bear]), some (.tup (qs.map tupI)), some (.int many), some (.tup ps)]) := hm
  have e0 := pr_ok' (K := K) Q hK hm
  have ec := pair_lc (h := h) (C := callD tab K) (s := [some (.ref M), o1, some (.ref rr), some (.ref r), some (.int i), some (.int place), some (.int ice), o7, o8]) (a := 2) (b := 4) (c := 8) (x := .int i) hrr (by omega) rfl fun r => ⟨rfl, rfl⟩
  have hml : (MV rf j).length ≤ 70 := MV_len hrl (by omega)
  have ff : fits (rf.map fun r => PV.tup [.int i, r]) = true := fits_small (by rw [List.length_map]; omega)
  have fa : fits (MV rf j ++ rf.map fun r => PV.tup [.int i, r]) = true := fits_small (by rw [List.length_append, List.length_map]; omega)
  have g1 : (h.push (.lst (rf.map fun r => PV.tup [.int i, r]))).get h.size = some (.lst (rf.map fun r => PV.tup [.int i, r])) := Mem.get_push_new _ _
  have g2 : (h.push (.lst (rf.map fun r => PV.tup [.int i, r]))).get r = some (.lst (MV rf j)) := Mem.get_push hr
  have add : (sAsg (eBin .add (eVar 3) (eNew (lC1 [8] (iAny (eVar 2)) (.nm 8) tYes (eTup (aCons (eVar 4) (aCons (eVar 8) aNil)))))) (tgG (.nm 3))) (callD tab K) [some (.ref M), o1, some (.ref rr), some (.ref r), some (.int i), some (.int place), some (.int ice), o7, o8] h =
      .nx [some (.ref M), o1, some (.ref rr), some (.ref (h.size + 1)), some (.int i), some (.int place), some (.int ice), o7, o8] ((h.push (.lst (rf.map fun r => PV.tup [.int i, r]))).push (.lst (MV rf j ++ rf.map fun r => PV.tup [.int i, r]))) := by
    have e1 : eNew (lC1 [8] (iAny (eVar 2)) (.nm 8) tYes (eTup (aCons (eVar 4) (aCons (eVar 8) aNil)))) (callD tab K) [some (.ref M), o1, some (.ref rr), some (.ref r), some (.int i), some (.int place), some (.int ice), o7, o8] h = .ok (.ref h.size) (h.push (.lst (rf.map fun r => PV.tup [.int i, r]))) := by
      unfold eNew
      rw [ec]
      simp [ff]
    have e2 : binop .add (.ref r) (.ref h.size) (h.push (.lst (rf.map fun r => PV.tup [.int i, r]))) = .ok (.ref (h.size + 1)) ((h.push (.lst (rf.map fun r => PV.tup [.int i, r]))).push (.lst (MV rf j ++ rf.map fun r => PV.tup [.int i, r]))) := by
      simp [binop, addV, listOf, g1, g2, fa]
    exact sAsg_add (i := 3) (s := [some (.ref M), o1, some (.ref rr), some (.ref r), some (.int i), some (.int place), some (.int ice), o7, o8]) rfl e1 e2
  have hres : ((h.push (.lst (rf.map fun r => PV.tup [.int i, r]))).push (.lst (MV rf j ++ rf.map fun r => PV.tup [.int i, r]))).get (h.size + 1) = some (.lst (MV rf j ++ rf.map fun r => PV.tup [.int i, r])) := Mem.get_push_new (h.push (.lst (rf.map fun r => PV.tup [.int i, r]))) _
  have ht : (tOr (tE (eCmp .eq (eVar 4) (eC (.int 0)))) (tE (eCmp .isnot (eSub (eFld [(0, .prop fPr)] (eVar 0)) (eVar 5)) (eC .non)))) (callD tab K) [some (.ref M), o1, some (.ref rr), some (.ref r), some (.int i), some (.int place), some (.int ice), o7, o8] h = .ok (cnd (ieq i 0) true (bnot (isNon x))) h := by
    cases hi0 : ieq (i : Int) 0 <;> simp [runFd, sSeq, sIf, sRet, sExpr, sAsg, sOf, endS, tE, tAnd, tOr, tNot, tYes, eCmp, eVar, eC, eBin, eLen, lenV, cmpop, ltV, icmp, eSub, subV, itemsOf, binop, addV, mulV, mapInt2, eB, gInt, gMax2, gMin2, aCons, aNil, eCall, tgG, gName, gUnp, setAll, eTup, eIf, eAnd, eOr, eNot, Res.bind, ofO, Option.map, sNil, cnd, eqv_int, hi0, eFld, fldV, lookC, noErr, hmr, e0, hix, hx, isV, onot]
  unfold lmBody sIf
  rw [ht]
  simp only [sOf_ok]
  rcases hj with ⟨hn, hj⟩ | ⟨hn, hj⟩
  · have xn : x = .non := by rw [hx] at hn; exact Option.some.inj hn
    subst xn
    by_cases h00 : i = 0
    · subst h00
      have hj0 : j = 0 := by omega
      subst hj0
      refine ⟨_, h.size + 1, 1, add, Kq.push.trans Kq.push, ?_, .inl ⟨hn, by omega⟩⟩
      rw [hres, MV_succ]
    · have hi0 : ieq (i : Int) 0 = false := ieq_f (by omega)
      rw [hi0]
      exact ⟨h, r, j, rfl, Kq.refl, hr, .inl ⟨hn, by omega⟩⟩
  · have xn : isNon x = false := by
      cases x <;> first | rfl | exact absurd hx hn
    have hc : cnd (ieq (i : Int) 0) true (bnot (isNon x)) = true := by
      rw [xn]
      cases ieq (i : Int) 0 <;> rfl
    rw [hc]
    subst hj
    refine ⟨_, h.size + 1, j + 1, add, Kq.push.trans Kq.push, ?_, .inr ⟨hn, rfl⟩⟩
    rw [hres, MV_succ]
end
end Ev
end

section
set_option Elab.async false
set_option linter.all false
set_option maxRecDepth 100000
/-! Ev: moves by the law; hours. -/
namespace Ev
open PySem PySem.Spec PyProof.Rows L2
section
variable {tab : List Fd} {it : List (Nat × Bool)} {lt : List (Nat × Nat)} {fI fCm fIs fCk fRf fMv fMs fLm fRo fPl fPr fBx K : Nat} {x1 x2 : XS} {h : Mem} {M : Nat} {many room bear place ice warm late : Int} {qs : List (List Int)} {ps : List PV}
theorem lmFor_ok (Q : QW tab fPl fRo fPr fBx) (hK : 1 ≤ K) (hm : h.get M = some (mapOb many room bear qs ps)) (mo : MapOk many room bear qs ps) (hp : 0 ≤ place ∧ place < many) (hice : 0 ≤ ice ∧ ice ≤ room) {rr r : Nat} {rf : List PV} (hrr : h.get rr = some (.lst rf)) (hrl : rf.length ≤ 7) (hr : h.get r = some (.lst [])) {o1 o4 o7 o8 : Option PV} :
    ∃ (h' : Mem) (r' : Nat) (o4' : Option PV), lmFor fBx fPr (callD tab K) [some (.ref M), o1, some (.ref rr), some (.ref r), o4, some (.int place), some (.int ice), o7, o8] h = .nx [some (.ref M), o1, some (.ref rr), some (.ref r'), o4', some (.int place), some (.int ice), o7, o8] h' ∧ Kq h h' ∧ h'.get r' = some (.lst (MV rf (nPc ps room place ice))) := by
  have hmr : h.get M = some (.ins 0 [some (.tup [.int room, .int bear]), some (.tup (qs.map tupI)), some (.int many), some (.tup ps)]) := hm
  have r6 := mo.r6
  have h62 := lt62_t (i := room - ice + 1) (by omega) (by omega)
  have e0 := bx_ok (K := K) Q hK hm
  have y0 : ixN 2 0 = some 0 := rfl
  have hi : iR1 (eBin .add (eBin .sub (eSub (eFld [(0, .prop fBx)] (eVar 0)) (eC (.int 0))) (eVar 6)) (eC (.int 1))) (callD tab K) [some (.ref M), o1, some (.ref rr), some (.ref r), o4, some (.int place), some (.int ice), o7, o8] h = .ok (upto 0 1 (room - ice + 1).toNat, []) h := by
    simp [iR1, runFd, sSeq, sIf, sRet, sExpr, sAsg, sOf, endS, tE, tAnd, tOr, tNot, tYes, eCmp, eVar, eC, eBin, eLen, lenV, cmpop, ltV, icmp, eSub, subV, itemsOf, binop, addV, mulV, mapInt2, eB, gInt, gMax2, gMin2, aCons, aNil, eCall, tgG, gName, gUnp, setAll, eTup, eIf, eAnd, eOr, eNot, Res.bind, ofO, Option.map, sNil, cnd, eFld, fldV, lookC, noErr, hmr, e0, y0, h62]
  obtain ⟨s', h', e, p⟩ := sFor_inv (g := tgG (.nm 4)) (b := lmBody fPr) (P := fun i s m => ∃ (r' j : Nat) (o4' : Option PV), s = [some (.ref M), o1, some (.ref rr), some (.ref r'), o4', some (.int place), some (.int ice), o7, o8] ∧ Kq h m ∧ m.get r' = some (.lst (MV rf j)) ∧ i ≤ 8 ∧
      (ps[place.toNat]? = some .non ∧ j = min i 1 ∨ ps[place.toNat]? ≠ some .non ∧ j = i)) hi
    ⟨r, 0, o4, rfl, Kq.refl, hr, by omega, by
      by_cases q : ps[place.toNat]? = some .non
      · exact .inl ⟨q, rfl⟩
      · exact .inr ⟨q, rfl⟩⟩ fun i x s m hx ⟨r', j, o4', es, kq, hr', hi8, hj⟩ => by
      subst es
      obtain ⟨hi2, ex⟩ := upto_item hx
      have ex : x = .int (i : Int) := by rw [ex]; congr 1; omega
      subst ex
      obtain ⟨h2, r2, j2, e2, k2, g2, hj2⟩ := lm_body (K := K) (ice := ice) (o1 := o1) (o7 := o7) (o8 := o8) Q hK (h0 := h) (kq.get _ _ hm) mo hp (kq.get _ _ hrr) hrl hr' hi8 hj
      refine ⟨_, h2, ?_, r2, j2, some (.int i), rfl, kq.trans k2, g2, by omega, hj2⟩
      simpa [sOf, tgG, gName] using e2
  obtain ⟨r', j, o4', es, kq, hr', hi8, hj⟩ := p
  rw [upto_len] at hj
  subst es
  refine ⟨h', r', o4', e, kq, ?_⟩
  rw [hr']
  have : j = nPc ps room place ice := by
    rcases hj with ⟨q, hj⟩ | ⟨q, hj⟩
    · unfold nPc; rw [q]; simp only; omega
    · rw [hj]
      unfold nPc
      split
      · rename_i q2; exact absurd q2 q
      · rfl
  rw [this]
theorem lm_ok (Q : QW tab fPl fRo fPr fBx) (hL : nthF tab fLm = some ⟨2, 9, bLm fRo fBx fPr⟩) (hK : 2 ≤ K) (hm : h.get M = some (mapOb many room bear qs ps)) (mo : MapOk many room bear qs ps) (so : StOk many room bear place ice warm late) :
    ∃ h' r, callD tab K fLm [.ref M, .tup [.int place, .int ice, .int warm, .int late]] h = .ok (.ref r) h' ∧ h'.get r = some (.lst (MV (RF qs place) (nPc ps room place ice))) ∧ Kq h h' := by
  obtain ⟨k, rfl⟩ : ∃ k, K = k + 1 := ⟨K - 1, by omega⟩
  rw [call_eq hL]
  have hmr : h.get M = some (.ins 0 [some (.tup [.int room, .int bear]), some (.tup (qs.map tupI)), some (.int many), some (.tup ps)]) := hm
  have e0 := ro_ok (K := k) Q (by omega) hm
  have er : lmRoads fRo (callD tab k) [some (.ref M), some (.tup [.int place, .int ice, .int warm, .int late]), none, none, none, some (.int place), some (.int ice), none, none] h = .ok (RF qs place) h := by
    unfold lmRoads
    refine rf_lc (many := many) (place := place) (by simp [runFd, sSeq, sIf, sRet, sExpr, sAsg, sOf, endS, tE, tAnd, tOr, tNot, tYes, eCmp, eVar, eC, eBin, eLen, lenV, cmpop, ltV, icmp, eSub, subV, itemsOf, binop, addV, mulV, mapInt2, eB, gInt, gMax2, gMin2, aCons, aNil, eCall, tgG, gName, gUnp, setAll, eTup, eIf, eAnd, eOr, eNot, Res.bind, ofO, Option.map, sNil, cnd, eFld, fldV, lookC, noErr, hmr, e0]) mo.rd.ok (by have := mo.rd.seven; omega) (fun j q => by simp [lC1.wipeV, setAll]) fun j q s' es => by
      simp [lC1.wipeV, setAll] at es
      subst es
      simp [eVar]
  have hrl : (RF qs place).length ≤ 7 := by have := RF_len qs place; have := mo.rd.seven; omega
  have ff : fits (RF qs place) = true := fits_small (by omega)
  have f0 : fits ([] : List PV) = true := rfl
  have f2 : ∀ a b : PV, fits [a, b] = true := fun _ _ => rfl
  have x0 : ixN 4 0 = some 0 := rfl
  have x1 : ixN 4 1 = some 1 := rfl
  have g1 : (h.push (.lst (RF qs place))).get h.size = some (.lst (RF qs place)) := Mem.get_push_new _ _
  obtain ⟨h', r', o4', ef, kq, gr⟩ := lmFor_ok (K := k) (h := (h.push (.lst (RF qs place))).push (.lst [])) (place := place) (ice := ice) (rr := h.size) (r := h.size + 1) (rf := RF qs place) (o1 := some (.tup [.int place, .int ice, .int warm, .int late])) (o4 := none) (o7 := none) (o8 := none) Q (by omega) (Mem.get_push (Mem.get_push hm)) mo ⟨so.p0, so.p1⟩ ⟨so.i0, so.i1⟩ (Mem.get_push g1) hrl (Mem.get_push_new (h.push (.lst (RF qs place))) _)
  refine ⟨h', r', ?_, gr, Kq.push.trans (Kq.push.trans kq)⟩
  simp [bLm, runFd, sSeq, sIf, sRet, sExpr, sAsg, sOf, endS, tE, tAnd, tOr, tNot, tYes, eCmp, eVar, eC, eBin, eLen, lenV, cmpop, ltV, icmp, eSub, subV, itemsOf, binop, addV, mulV, mapInt2, eB, gInt, gMax2, gMin2, aCons, aNil, eCall, tgG, gName, gUnp, setAll, eTup, eIf, eAnd, eOr, eNot, Res.bind, ofO, Option.map, sNil, cnd, f0, f2, x0, x1, eNew, lNew, er, ff, ef]
end
end Ev
end

section
set_option Elab.async false
set_option linter.all false
set_option maxRecDepth 100000
/-! Ev: hours, ends. -/
namespace Ev
open PySem PySem.Spec PyProof.Rows L2
def hstep (melt : Int) (p : Int × Int) : Int × Int := cnd (ile melt p.1) (p.1 - melt, p.2) (0, p.2 + 1)
def hrs (melt : Int) : Nat → Int × Int → Int × Int
  | 0, p => p
  | n + 1, p => hstep melt (hrs melt n p)
def hres (bear : Int) (p : Int × Int) : PV := cnd (ile p.2 bear) (.tup [.int p.1, .int p.2]) .non
section
variable {tab : List Fd} {it : List (Nat × Bool)} {lt : List (Nat × Nat)} {fI fCa fEo fEs fHo fLe fRo fPl fPr fBx K : Nat} {h : Mem} {M : Nat} {many room bear place ice warm late melt n i w : Int} {qs : List (List Int)} {ps : List PV}
def caBody : XS := (sSeq (sAug 6 .add (eIf (tE (eCmp .ge (eVar 5) (eVar 2))) (eC (.int 0)) (eC (.int 1)))) (sAsg (eB gMax2 (aCons (eC (.int 0)) (aCons (eBin .sub (eVar 5) (eVar 2)) aNil))) (tgG (.nm 5))))
def caFor : XS := (sFor (iR1 (eVar 3)) (tgG (.nm 4)) caBody)
def bCa : XS := (sSeq (sAsg (eVar 1) (tgG (.un [5, 6]))) (sSeq caFor (sRet (eIf (tE (eCmp .le (eVar 6) (eSub (eFld [(0, .slot 0)] (eVar 0)) (eC (.int 1))))) (eTup (aCons (eVar 5) (aCons (eVar 6) aNil))) (eC .non)))))
theorem caFor_ok {C : Calls} (hn : 0 ≤ n ∧ n < 1000) {o0 o1 o4 : Option PV} : ∃ o4', caFor C [o0, o1, some (.int melt), some (.int n), o4, some (.int i), some (.int w)] h = .nx [o0, o1, some (.int melt), some (.int n), o4', some (.int (hrs melt n.toNat (i, w)).1), some (.int (hrs melt n.toNat (i, w)).2)] h := by
  have h62 := lt62_t hn.1 hn.2
  have hi : iR1 (eVar 3) C [o0, o1, some (.int melt), some (.int n), o4, some (.int i), some (.int w)] h = .ok (upto 0 1 n.toNat, []) h := by simp [iR1, runFd, sSeq, sIf, sRet, sExpr, sAsg, sOf, endS, tE, tAnd, tOr, tNot, tYes, eCmp, eVar, eC, eBin, eLen, lenV, cmpop, ltV, icmp, eSub, subV, itemsOf, binop, addV, mulV, mapInt2, eB, gInt, gMax2, gMin2, aCons, aNil, eCall, tgG, gName, gUnp, setAll, eTup, eIf, eAnd, eOr, eNot, Res.bind, ofO, Option.map, sNil, cnd, h62]
  obtain ⟨s', h', e, p⟩ := sFor_inv (g := tgG (.nm 4)) (b := caBody) (P := fun j s m => ∃ o4' : Option PV, m = h ∧ s = [o0, o1, some (.int melt), some (.int n), o4', some (.int (hrs melt j (i, w)).1), some (.int (hrs melt j (i, w)).2)]) hi ⟨o4, rfl, rfl⟩ fun j x s m hx ⟨o4', em, es⟩ => by
    subst em es
    refine ⟨_, _, ?_, some x, rfl, rfl⟩
    show sOf _ _ _ = SR.nx [o0, o1, some (.int melt), some (.int n), some x, some (.int (hstep melt (hrs melt j (i, w))).1), some (.int (hstep melt (hrs melt j (i, w))).2)] m
    generalize hrs melt j (i, w) = p
    unfold hstep
    cases hc : ile melt p.1 with
    | true =>
      have hle : melt ≤ p.1 := by rw [ile_eq] at hc; exact of_decide_eq_true hc
      by_cases h0 : 0 < p.1 - melt
      · simp [caBody, runFd, sSeq, sIf, sRet, sExpr, sAsg, sOf, endS, tE, tAnd, tOr, tNot, tYes, eCmp, eVar, eC, eBin, eLen, lenV, cmpop, ltV, icmp, eSub, subV, itemsOf, binop, addV, mulV, mapInt2, eB, gInt, gMax2, gMin2, aCons, aNil, eCall, tgG, gName, gUnp, setAll, eTup, eIf, eAnd, eOr, eNot, Res.bind, ofO, Option.map, sNil, cnd, sAug, hc, ilt_t h0]
      · have hz : p.1 - melt = 0 := by omega
        simp [caBody, runFd, sSeq, sIf, sRet, sExpr, sAsg, sOf, endS, tE, tAnd, tOr, tNot, tYes, eCmp, eVar, eC, eBin, eLen, lenV, cmpop, ltV, icmp, eSub, subV, itemsOf, binop, addV, mulV, mapInt2, eB, gInt, gMax2, gMin2, aCons, aNil, eCall, tgG, gName, gUnp, setAll, eTup, eIf, eAnd, eOr, eNot, Res.bind, ofO, Option.map, sNil, cnd, sAug, hc, ilt_f h0, hz, show ilt 0 0 = false from rfl]
    | false =>
      have hle : ¬ melt ≤ p.1 := by rw [ile_eq] at hc; exact of_decide_eq_false hc
      have h0 : ¬ 0 < p.1 - melt := by omega
      simp [caBody, runFd, sSeq, sIf, sRet, sExpr, sAsg, sOf, endS, tE, tAnd, tOr, tNot, tYes, eCmp, eVar, eC, eBin, eLen, lenV, cmpop, ltV, icmp, eSub, subV, itemsOf, binop, addV, mulV, mapInt2, eB, gInt, gMax2, gMin2, aCons, aNil, eCall, tgG, gName, gUnp, setAll, eTup, eIf, eAnd, eOr, eNot, Res.bind, ofO, Option.map, sNil, cnd, sAug, hc, ilt_f h0]
  obtain ⟨o4', em, es⟩ := p
  rw [upto_len] at es
  subst em es
  exact ⟨o4', e⟩
theorem ca_ok (hC : nthF tab fCa = some ⟨4, 7, bCa⟩) (hK : 1 ≤ K) (hm : h.get M = some (mapOb many room bear qs ps)) (hn : 0 ≤ n ∧ n < 1000) : callD tab K fCa [.ref M, .tup [.int i, .int w], .int melt, .int n] h = .ok (hres bear (hrs melt n.toNat (i, w))) h := by
  obtain ⟨k, rfl⟩ : ∃ k, K = k + 1 := ⟨K - 1, by omega⟩
  rw [call_eq hC]
  have hmr : h.get M = some (.ins 0 [some (.tup [.int room, .int bear]), some (.tup (qs.map tupI)), some (.int many), some (.tup ps)]) := hm
  obtain ⟨o4', e⟩ := caFor_ok (C := callD tab k) (h := h) (melt := melt) (i := i) (w := w) hn (o0 := some (.ref M)) (o1 := some (.tup [.int i, .int w])) (o4 := none)
  have y1 : ixN 2 1 = some 1 := rfl
  have f2 : ∀ a b : PV, fits [a, b] = true := fun _ _ => rfl
  generalize hrs melt n.toNat (i, w) = p at *
  cases hc : ile p.2 bear <;> simp [bCa, runFd, sSeq, sIf, sRet, sExpr, sAsg, sOf, endS, tE, tAnd, tOr, tNot, tYes, eCmp, eVar, eC, eBin, eLen, lenV, cmpop, ltV, icmp, eSub, subV, itemsOf, binop, addV, mulV, mapInt2, eB, gInt, gMax2, gMin2, aCons, aNil, eCall, tgG, gName, gUnp, setAll, eTup, eIf, eAnd, eOr, eNot, Res.bind, ofO, Option.map, sNil, cnd, e, eFld, fldV, lookC, hmr, y1, f2, hc, hres]
/-! the law's hours -/
def hoBody : XS := (sIf (tE (eCmp .lt (eVar 1) (eVar 5))) (sAsg (eTup (aCons (eC (.int 0)) (aCons (eBin .add (eVar 2) (eC (.int 1))) aNil))) (tgG (.un [1, 2]))) (sAsg (eBin .sub (eVar 1) (eVar 5)) (tgG (.nm 1))))
def hoFor (fRo : Nat) : XS := (sFor (iR1 (eBin .add (eSub (eSub (eFld [(0, .prop fRo)] (eVar 0)) (eVar 3)) (eC (.int 2))) (eVar 4))) (tgG (.nm 6)) hoBody)
def bHo (fRo fBx : Nat) : XS := (sSeq (sAsg (eSub (eSub (eFld [(0, .prop fRo)] (eVar 0)) (eVar 3)) (eC (.int 3))) (tgG (.nm 5))) (sSeq (hoFor fRo) (sRet (eIf (tE (eCmp .gt (eVar 2) (eSub (eFld [(0, .prop fBx)] (eVar 0)) (eC (.int 1))))) (eC .non) (eTup (aCons (eVar 1) (aCons (eVar 2) aNil)))))))
theorem road_at {j : Int} (hj : 0 ≤ j ∧ j < qs.length) (hok : ∀ q ∈ qs, RoadOk many q) : ∃ f l t m, ixN qs.length j = some j.toNat ∧ 1 ≤ t ∧ t ≤ 4 ∧ qs[j.toNat]? = some [f, l, t, m] := by
  have hl : j.toNat < qs.length := by omega
  obtain ⟨f, l, t, m, e, _, _, _, t0, t1, _⟩ := hok qs[j.toNat] (List.getElem_mem hl)
  have e2 : qs[j.toNat]? = some [f, l, t, m] := by rw [List.getElem?_eq_getElem hl, e]
  exact ⟨f, l, t, m, ixN_ok hj.1 hj.2, t0, t1, e2⟩
theorem ho_ok (Q : QW tab fPl fRo fPr fBx) (hH : nthF tab fHo = some ⟨5, 7, bHo fRo fBx⟩) (hK : 2 ≤ K) (hm : h.get M = some (mapOb many room bear qs ps)) {j more f l t m : Int} (hq : qs[j.toNat]? = some [f, l, t, m]) (hix : ixN qs.length j = some j.toNat) (hn : 0 ≤ t + more ∧ t + more < 1000) :
    callD tab K fHo [.ref M, .int i, .int w, .int j, .int more] h = .ok (hres bear (hrs m (t + more).toNat (i, w))) h := by
  obtain ⟨k, rfl⟩ : ∃ k, K = k + 1 := ⟨K - 1, by omega⟩
  rw [call_eq hH]
  have hmr : h.get M = some (.ins 0 [some (.tup [.int room, .int bear]), some (.tup (qs.map tupI)), some (.int many), some (.tup ps)]) := hm
  have e0 := ro_ok (K := k) Q (by omega) hm
  have e1 := bx_ok (K := k) Q (by omega) hm
  have h62 := lt62_t hn.1 hn.2
  have x2 : ixN 4 2 = some 2 := rfl
  have x3 : ixN 4 3 = some 3 := rfl
  have y1 : ixN 2 1 = some 1 := rfl
  have f2 : ∀ a b : PV, fits [a, b] = true := fun _ _ => rfl
  have hi : iR1 (eBin .add (eSub (eSub (eFld [(0, .prop fRo)] (eVar 0)) (eVar 3)) (eC (.int 2))) (eVar 4)) (callD tab k) [some (.ref M), some (.int i), some (.int w), some (.int j), some (.int more), some (.int m), none] h = .ok (upto 0 1 (t + more).toNat, []) h := by
    simp [iR1, runFd, sSeq, sIf, sRet, sExpr, sAsg, sOf, endS, tE, tAnd, tOr, tNot, tYes, eCmp, eVar, eC, eBin, eLen, lenV, cmpop, ltV, icmp, eSub, subV, itemsOf, binop, addV, mulV, mapInt2, eB, gInt, gMax2, gMin2, aCons, aNil, eCall, tgG, gName, gUnp, setAll, eTup, eIf, eAnd, eOr, eNot, Res.bind, ofO, Option.map, sNil, cnd, eFld, fldV, lookC, noErr, hmr, e0, hix, hq, tupI, x2, h62]
  obtain ⟨s', h', e, p⟩ := sFor_inv (g := tgG (.nm 6)) (b := hoBody) (P := fun q s mm => ∃ o6 : Option PV, mm = h ∧ s = [some (.ref M), some (.int (hrs m q (i, w)).1), some (.int (hrs m q (i, w)).2), some (.int j), some (.int more), some (.int m), o6]) hi ⟨none, rfl, rfl⟩ fun q x s mm hx ⟨o6, em, es⟩ => by
    subst em es
    refine ⟨_, _, ?_, some x, rfl, rfl⟩
    show sOf _ _ _ = SR.nx [some (.ref M), some (.int (hstep m (hrs m q (i, w))).1), some (.int (hstep m (hrs m q (i, w))).2), some (.int j), some (.int more), some (.int m), some x] mm
    generalize hrs m q (i, w) = p
    unfold hstep
    cases hc : ile m p.1 with
    | true =>
      have hle : m ≤ p.1 := by rw [ile_eq] at hc; exact of_decide_eq_true hc
      simp [hoBody, runFd, sSeq, sIf, sRet, sExpr, sAsg, sOf, endS, tE, tAnd, tOr, tNot, tYes, eCmp, eVar, eC, eBin, eLen, lenV, cmpop, ltV, icmp, eSub, subV, itemsOf, binop, addV, mulV, mapInt2, eB, gInt, gMax2, gMin2, aCons, aNil, eCall, tgG, gName, gUnp, setAll, eTup, eIf, eAnd, eOr, eNot, Res.bind, ofO, Option.map, sNil, cnd, ilt_f (show ¬ p.1 < m by omega)]
    | false =>
      have hle : ¬ m ≤ p.1 := by rw [ile_eq] at hc; exact of_decide_eq_false hc
      simp [hoBody, runFd, sSeq, sIf, sRet, sExpr, sAsg, sOf, endS, tE, tAnd, tOr, tNot, tYes, eCmp, eVar, eC, eBin, eLen, lenV, cmpop, ltV, icmp, eSub, subV, itemsOf, binop, addV, mulV, mapInt2, eB, gInt, gMax2, gMin2, aCons, aNil, eCall, tgG, gName, gUnp, setAll, eTup, eIf, eAnd, eOr, eNot, Res.bind, ofO, Option.map, sNil, cnd, ilt_t (show p.1 < m by omega), f2]
  obtain ⟨o6, em, es⟩ := p
  rw [upto_len] at es
  subst em es
  have ef : hoFor fRo (callD tab k) [some (.ref M), some (.int i), some (.int w), some (.int j), some (.int more), some (.int m), none] h' = _ := e
  generalize hrs m (t + more).toNat (i, w) = p at *
  have e3 : (sAsg (eSub (eSub (eFld [(0, .prop fRo)] (eVar 0)) (eVar 3)) (eC (.int 3))) (tgG (.nm 5))) (callD tab k) [some (.ref M), some (.int i), some (.int w), some (.int j), some (.int more), none, none] h' = .nx [some (.ref M), some (.int i), some (.int w), some (.int j), some (.int more), some (.int m), none] h' := by
    simp [runFd, sSeq, sIf, sRet, sExpr, sAsg, sOf, endS, tE, tAnd, tOr, tNot, tYes, eCmp, eVar, eC, eBin, eLen, lenV, cmpop, ltV, icmp, eSub, subV, itemsOf, binop, addV, mulV, mapInt2, eB, gInt, gMax2, gMin2, aCons, aNil, eCall, tgG, gName, gUnp, setAll, eTup, eIf, eAnd, eOr, eNot, Res.bind, ofO, Option.map, sNil, cnd, eFld, fldV, lookC, noErr, hmr, e0, hix, hq, tupI, x3]
  unfold runFd bHo
  simp only [List.length_cons, List.length_nil, List.map_cons, List.map_nil]
  have z : (Nat.beq (0 + 1 + 1 + 1 + 1 + 1) 5) = true := rfl
  have er : ([some (PV.ref M), some (.int i), some (.int w), some (.int j), some (.int more)] ++ List.replicate (7 - (0 + 1 + 1 + 1 + 1 + 1)) (none : Option PV)) = [some (.ref M), some (.int i), some (.int w), some (.int j), some (.int more), none, none] := rfl
  simp only [z, cnd_true, er]
  have sq : ∀ (a b : XS) (s s1 : Env) (m1 : Mem), a (callD tab k) s h' = .nx s1 m1 → sSeq a b (callD tab k) s h' = b (callD tab k) s1 m1 := fun a b s s1 m1 e => by unfold sSeq; rw [e]
  rw [sq _ _ _ _ _ e3, sq _ _ _ _ _ ef]
  cases hc : ile p.2 bear with
  | true =>
    have hle : p.2 ≤ bear := by rw [ile_eq] at hc; exact of_decide_eq_true hc
    simp [runFd, sSeq, sIf, sRet, sExpr, sAsg, sOf, endS, tE, tAnd, tOr, tNot, tYes, eCmp, eVar, eC, eBin, eLen, lenV, cmpop, ltV, icmp, eSub, subV, itemsOf, binop, addV, mulV, mapInt2, eB, gInt, gMax2, gMin2, aCons, aNil, eCall, tgG, gName, gUnp, setAll, eTup, eIf, eAnd, eOr, eNot, Res.bind, ofO, Option.map, sNil, cnd, eFld, fldV, lookC, noErr, hmr, e1, y1, f2, hc, hres, ilt_f (show ¬ bear < p.2 by omega)]
  | false =>
    have hle : ¬ p.2 ≤ bear := by rw [ile_eq] at hc; exact of_decide_eq_false hc
    simp [runFd, sSeq, sIf, sRet, sExpr, sAsg, sOf, endS, tE, tAnd, tOr, tNot, tYes, eCmp, eVar, eC, eBin, eLen, lenV, cmpop, ltV, icmp, eSub, subV, itemsOf, binop, addV, mulV, mapInt2, eB, gInt, gMax2, gMin2, aCons, aNil, eCall, tgG, gName, gUnp, setAll, eTup, eIf, eAnd, eOr, eNot, Res.bind, ofO, Option.map, sNil, cnd, eFld, fldV, lookC, noErr, hmr, e1, y1, f2, hc, hres, ilt_t (show bear < p.2 by omega)]
end
end Ev
end

section
set_option Elab.async false
set_option linter.all false
set_option maxRecDepth 100000
/-! Ev: ends of moves, results. -/
namespace Ev
open PySem PySem.Spec PyProof.Rows L2
def endv (l late more bear : Int) (p : Int × Int) : PV := cnd (ile p.2 bear) (.tup [.int l, .int p.1, .int p.2, .int (late - more)]) .non
/-- the ends of a move -/
def endF (l late bear t m ice warm : Int) (x : PV) : PV := match x with
  | .int more => endv l late more bear (hrs m (t + more).toNat (ice, warm))
  | _ => .non
theorem endF_flat {l late bear t m ice warm : Int} (x : PV) : Flat (endF l late bear t m ice warm x) := by
  unfold endF endv
  split
  · rename_i more
    cases ile (hrs m (t + more).toNat (ice, warm)).2 bear with
    | true => exact .inr (.inr ⟨[_, _, _, _], rfl⟩)
    | false => exact .inl rfl
  · exact .inl rfl
section
variable {tab : List Fd} {it : List (Nat × Bool)} {lt : List (Nat × Nat)} {fI fCm fIs fCk fRf fMv fCa fEo fEs fHo fLe fRs fRo fPl fPr fBx K : Nat} {x1 x2 y1 y2 : XS} {h : Mem} {M : Nat} {many room bear place ice warm late pc j more f l t m : Int} {qs : List (List Int)} {ps : List PV}
def bEo (fCa : Nat) : XS := (sSeq (sAsg (eVar 1) (tgG (.un [5, 6, 7, 8]))) (sSeq (sAsg (eSub (eFld [(0, .slot 1)] (eVar 0)) (eSub (eVar 2) (eC (.int 1)))) (tgG (.un [9, 10, 11, 12]))) (sSeq (sAsg (eCall fCa (aCons (eVar 0) (aCons (eTup (aCons (eB gMin2 (aCons (eSub (eFld [(0, .slot 0)] (eVar 0)) (eC (.int 0))) (aCons (eBin .add (eVar 6) (eSub (eVar 2) (eC (.int 0)))) aNil))) (aCons (eVar 7) aNil))) (aCons (eVar 12) (aCons (eBin .add (eVar 11) (eVar 3)) aNil))))) (tgG (.nm 4))) (sRet (eIf (tE (eCmp .is_ (eVar 4) (eC .non))) (eC .non) (eTup (aCons (eVar 10) (aCons (eSub (eVar 4) (eC (.int 0))) (aCons (eSub (eVar 4) (eC (.int 1))) (aCons (eBin .sub (eVar 8) (eVar 3)) aNil))))))))))
def bEs (fEo : Nat) : XS := (sRet (eNew (lC1 [3] (iR1 (eBin .add (eSub (eVar 1) (eC (.int 3))) (eC (.int 1)))) (.nm 3) tYes (eCall fEo (aCons (eVar 0) (aCons (eVar 1) (aCons (eVar 2) (aCons (eVar 3) aNil))))))))
theorem eo_ok (hC : nthF tab fCa = some ⟨4, 7, bCa⟩) (hE : nthF tab fEo = some ⟨4, 13, bEo fCa⟩) (hK : 2 ≤ K) (hm : h.get M = some (mapOb many room bear qs ps)) (hq : qs[j.toNat]? = some [f, l, t, m]) (hix : ixN qs.length j = some j.toNat) (hn : 0 ≤ t + more ∧ t + more < 1000) (hr : ice + pc ≤ room) :
    callD tab K fEo [.ref M, .tup [.int place, .int ice, .int warm, .int late], .tup [.int pc, .int j], .int more] h = .ok (endF l late bear t m (ice + pc) warm (.int more)) h := by
  obtain ⟨k, rfl⟩ : ∃ k, K = k + 1 := ⟨K - 1, by omega⟩
  rw [call_eq hE]
  have hmr : h.get M = some (.ins 0 [some (.tup [.int room, .int bear]), some (.tup (qs.map tupI)), some (.int many), some (.tup ps)]) := hm
  have e1 := ca_ok (K := k) (h := h) (i := ice + pc) (w := warm) (melt := m) (n := t + more) hC (by omega) hm hn
  have y0 : ixN 2 0 = some 0 := rfl
  have y1 : ixN 2 1 = some 1 := rfl
  have f2 : ∀ a b : PV, fits [a, b] = true := fun _ _ => rfl
  have f4 : ∀ a b c d : PV, fits [a, b, c, d] = true := fun _ _ _ _ => rfl
  generalize hp : hrs m (t + more).toNat (ice + pc, warm) = p at e1
  unfold endF
  simp only [hp]
  by_cases q : ice + pc < room
  · have q' := ilt_t q
    cases hc : ile p.2 bear <;> simp [bEo, runFd, sSeq, sIf, sRet, sExpr, sAsg, sOf, endS, tE, tAnd, tOr, tNot, tYes, eCmp, eVar, eC, eBin, eLen, lenV, cmpop, ltV, icmp, eSub, subV, itemsOf, binop, addV, mulV, mapInt2, eB, gInt, gMax2, gMin2, aCons, aNil, eCall, tgG, gName, gUnp, setAll, eTup, eIf, eAnd, eOr, eNot, Res.bind, ofO, Option.map, sNil, cnd, eFld, fldV, lookC, hmr, hix, hq, tupI, y0, y1, f2, f4, q', e1, hres, endv, hc, isV, isNon]
  · have q' := ilt_f q
    have e : ice + pc = room := by omega
    rw [e] at e1 q'
    cases hc : ile p.2 bear <;> simp [bEo, runFd, sSeq, sIf, sRet, sExpr, sAsg, sOf, endS, tE, tAnd, tOr, tNot, tYes, eCmp, eVar, eC, eBin, eLen, lenV, cmpop, ltV, icmp, eSub, subV, itemsOf, binop, addV, mulV, mapInt2, eB, gInt, gMax2, gMin2, aCons, aNil, eCall, tgG, gName, gUnp, setAll, eTup, eIf, eAnd, eOr, eNot, Res.bind, ofO, Option.map, sNil, cnd, eFld, fldV, lookC, hmr, hix, hq, tupI, y0, y1, f2, f4, e, q', e1, hres, endv, hc, isV, isNon]
theorem es_ok (hC : nthF tab fCa = some ⟨4, 7, bCa⟩) (hE : nthF tab fEo = some ⟨4, 13, bEo fCa⟩) (hS : nthF tab fEs = some ⟨3, 4, bEs fEo⟩) (hK : 3 ≤ K) (hm : h.get M = some (mapOb many room bear qs ps)) (hq : qs[j.toNat]? = some [f, l, t, m]) (hix : ixN qs.length j = some j.toNat) (ht : 1 ≤ t ∧ t ≤ 4) (hl : 0 ≤ late ∧ late ≤ 4) (hr : ice + pc ≤ room) :
    callD tab K fEs [.ref M, .tup [.int place, .int ice, .int warm, .int late], .tup [.int pc, .int j]] h = .ok (.ref h.size) (h.push (.lst ((upto 0 1 (late + 1).toNat).map (endF l late bear t m (ice + pc) warm)))) := by
  obtain ⟨k, rfl⟩ : ∃ k, K = k + 1 := ⟨K - 1, by omega⟩
  rw [call_eq hS]
  have h62 := lt62_t (i := late + 1) (by omega) (by omega)
  have x3 : ixN 4 3 = some 3 := rfl
  have hfm : ∀ xs : List PV, (xs.flatMap fun x => [endF l late bear t m (ice + pc) warm x]) = xs.map (endF l late bear t m (ice + pc) warm) := by
    intro xs
    induction xs with
    | nil => rfl
    | cons x xs ih => simp [ih]
  have hz : fits ((upto 0 1 (late + 1).toNat).map (endF l late bear t m (ice + pc) warm)) = true := fits_small (by rw [List.length_map, upto_len]; omega)
  have ec := lC1_pure (C := callD tab k) (h := h) (s := [some (.ref M), some (.tup [.int place, .int ice, .int warm, .int late]), some (.tup [.int pc, .int j]), none]) (own := [3]) (i := iR1 (eBin .add (eSub (eVar 1) (eC (.int 3))) (eC (.int 1)))) (g := .nm 3) (t := tYes) (e := eCall fEo (aCons (eVar 0) (aCons (eVar 1) (aCons (eVar 2) (aCons (eVar 3) aNil))))) (xs := upto 0 1 (late + 1).toNat) (ls := []) (F := fun x => [endF l late bear t m (ice + pc) warm x])
    (by simp [iR1, runFd, sSeq, sIf, sRet, sExpr, sAsg, sOf, endS, tE, tAnd, tOr, tNot, tYes, eCmp, eVar, eC, eBin, eLen, lenV, cmpop, ltV, icmp, eSub, subV, itemsOf, binop, addV, mulV, mapInt2, eB, gInt, gMax2, gMin2, aCons, aNil, eCall, tgG, gName, gUnp, setAll, eTup, eIf, eAnd, eOr, eNot, Res.bind, ofO, Option.map, sNil, cnd, x3, h62]) (fun x hx => by
      obtain ⟨i, hi⟩ := List.getElem?_of_mem hx
      obtain ⟨hi2, ex⟩ := upto_item hi
      subst ex
      have e := eo_ok (K := k) (h := h.lock []) (place := place) (warm := warm) (late := late) (more := 0 + (i : Int)) hC hE (by omega) hm hq hix (by omega) hr
      simp [turn1, runFd, sSeq, sIf, sRet, sExpr, sAsg, sOf, endS, tE, tAnd, tOr, tNot, tYes, eCmp, eVar, eC, eBin, eLen, lenV, cmpop, ltV, icmp, eSub, subV, itemsOf, binop, addV, mulV, mapInt2, eB, gInt, gMax2, gMin2, aCons, aNil, eCall, tgG, gName, gUnp, setAll, eTup, eIf, eAnd, eOr, eNot, Res.bind, ofO, Option.map, sNil, cnd, lC1.wipeV] at e ⊢
      rw [e]) (by rw [hfm]; exact hz)
  rw [hfm] at ec
  simp [bEs, runFd, sSeq, sIf, sRet, sExpr, sAsg, sOf, endS, tE, tAnd, tOr, tNot, tYes, eCmp, eVar, eC, eBin, eLen, lenV, cmpop, ltV, icmp, eSub, subV, itemsOf, binop, addV, mulV, mapInt2, eB, gInt, gMax2, gMin2, aCons, aNil, eCall, tgG, gName, gUnp, setAll, eTup, eIf, eAnd, eOr, eNot, Res.bind, ofO, Option.map, sNil, cnd, eNew, ec, hz]
/-! results -/
def rsAll (fI : Nat) : XE := (eAll (lC1 [3] (iAny (eVar 2)) (.nm 3) tYes (eCall fI (aCons (eVar 3) (aCons (eC (.int 0)) (aCons (eC (.int 7)) aNil))))))
def bRs (y1 y2 : XS) (it : List (Nat × Bool)) (lt : List (Nat × Nat)) (fCk fI fMv fEs : Nat) : XS := (sSeq (sExpr (eCall fCk (aCons (eVar 0) (aCons (eVar 1) aNil)))) (sSeq (sIf (tOr (tNot (tE (eIs .tuple it (eVar 2)))) (tOr (tE (eCmp .ne (eLen lt (eVar 2)) (eC (.int 2)))) (tNot (tE (rsAll fI))))) y1 sNil) (sSeq (sIf (tE (eCmp .notin (eVar 2) (eCall fMv (aCons (eVar 0) (aCons (eVar 1) aNil))))) y2 sNil) (sRet (eCall fEs (aCons (eVar 0) (aCons (eVar 1) (aCons (eVar 2) aNil))))))))
theorem in_flat {x : PV} {xs : List PV} {r : Nat} (hg : h.get r = some (.lst xs)) (hx : x ∈ xs) (f : ∀ x ∈ xs, Flat x) : inV h x (.ref r) = some true := by
  show (match h.get r with
    | some (.lst xs) => inL h x xs
    | some (.dic kvs) => inD x kvs
    | _ => none) = _
  rw [hg]
  simp only
  unfold inL
  rw [flat_d (n := 6) (f x hx)]
  simp only
  rw [flat_go (n := 5) f]
  simp only
  obtain ⟨h1, h2⟩ := flat_lay (f x hx)
  have s1 : SeqAt.shaped (dOf x) = true := by
    unfold SeqAt.shaped
    rw [h1, decide_eq_true (by omega)]
    rfl
  rw [s1, list_shaped f]
  have ha : ((xs.map dOf).any fun z => PyData.eqv z (dOf x)) = true := List.any_eq_true.mpr ⟨dOf x, List.mem_map_of_mem hx, SeqAt.eqv_refl _ h1⟩
  simp only [cnd_true, ha]
theorem MV_mem {rf : List PV} {n : Nat} {x : PV} (hx : x ∈ MV rf n) : ∃ (p : Nat) (r : PV), x = .tup [.int p, r] ∧ p < n ∧ r ∈ rf := by
  obtain ⟨y, hy, hx⟩ := List.mem_flatMap.mp hx
  obtain ⟨r, hr, rfl⟩ := List.mem_map.mp hx
  obtain ⟨i, hi⟩ := List.getElem?_of_mem hy
  obtain ⟨hi2, ex⟩ := upto_item hi
  exact ⟨i, r, by rw [ex]; congr 3; omega, hi2, hr⟩
/-- a move that is possible -/
theorem MV_move (mo : MapOk many room bear qs ps) (so : StOk many room bear place ice warm late) {x : PV} (hx : x ∈ MV (RF qs place) (nPc ps room place ice)) : ∃ pc j : Int, x = .tup [.int pc, .int j] ∧ 0 ≤ pc ∧ ice + pc ≤ room ∧ 0 ≤ j ∧ j < qs.length := by
  obtain ⟨p, r, rfl, hp, hr⟩ := MV_mem hx
  obtain ⟨j, rfl, j0, j1⟩ := RF_mem hr
  have i1 := so.i1
  refine ⟨p, j, rfl, by omega, ?_, j0, j1⟩
  unfold nPc at hp
  split at hp <;> omega
theorem MV_flat {rf : List PV} {n : Nat} (hr : ∀ r ∈ rf, ∃ j : Int, r = .int j) : ∀ x ∈ MV rf n, Flat x := fun x hx => by
  obtain ⟨p, r, rfl, _, h2⟩ := MV_mem hx
  obtain ⟨j, rfl⟩ := hr r h2
  exact .inr (.inr ⟨[(p : Int), j], rfl⟩)
theorem RF_int : ∀ r ∈ RF qs place, ∃ j : Int, r = .int j := fun r hr => by
  obtain ⟨j, e, _⟩ := RF_mem hr
  exact ⟨j, e⟩
theorem rs_ok (hI : nthF tab fI = some ⟨3, 3, bInt it⟩) (hCm : nthF tab fCm = some ⟨1, 1, bCm x1⟩) (hIs : nthF tab fIs = some ⟨2, 7, bIs it lt fI⟩) (hCk : nthF tab fCk = some ⟨2, 2, bCk x2 fCm fIs⟩) (hRf : nthF tab fRf = some ⟨2, 4, bRf⟩) (hMv : nthF tab fMv = some ⟨2, 5, bMv fRf⟩)
    (hC : nthF tab fCa = some ⟨4, 7, bCa⟩) (hE : nthF tab fEo = some ⟨4, 13, bEo fCa⟩) (hS : nthF tab fEs = some ⟨3, 4, bEs fEo⟩) (hR : nthF tab fRs = some ⟨3, 4, bRs y1 y2 it lt fCk fI fMv fEs⟩) (hK : 5 ≤ K) (hm : h.get M = some (mapOb many room bear qs ps)) (mo : MapOk many room bear qs ps) (so : StOk many room bear place ice warm late)
    (hx : PV.tup [.int pc, .int j] ∈ MV (RF qs place) (nPc ps room place ice)) (hq : qs[j.toNat]? = some [f, l, t, m]) (hix : ixN qs.length j = some j.toNat) (ht : 1 ≤ t ∧ t ≤ 4) :
    ∃ h' r, callD tab K fRs [.ref M, .tup [.int place, .int ice, .int warm, .int late], .tup [.int pc, .int j]] h = .ok (.ref r) h' ∧ h'.get r = some (.lst ((upto 0 1 (late + 1).toNat).map (endF l late bear t m (ice + pc) warm))) ∧ Kq h h' := by
  obtain ⟨k, rfl⟩ : ∃ k, K = k + 1 := ⟨K - 1, by omega⟩
  rw [call_eq hR]
  obtain ⟨pc', j', ex, p0, pr, j0, j1⟩ := MV_move mo so hx
  cases ex
  have r6 := mo.r6
  have i0 := so.i0
  have s7 := mo.rd.seven
  have e1 := ck_ok (K := k) hI hCm hIs hCk (by omega) hm so
  have e2 : rsAll fI (callD tab k) [some (.ref M), some (.tup [.int place, .int ice, .int warm, .int late]), some (.tup [.int pc, .int j]), none] (h.push (bnds many room bear)) = .ok (.bl true) (h.push (bnds many room bear)) := by
    unfold rsAll
    refine all_ok (xs := [.int pc, .int j]) (ls := []) (by simp [iOf, iAny, runFd, sSeq, sIf, sRet, sExpr, sAsg, sOf, endS, tE, tAnd, tOr, tNot, tYes, eCmp, eVar, eC, eBin, eLen, lenV, cmpop, ltV, icmp, eSub, subV, itemsOf, binop, addV, mulV, mapInt2, eB, gInt, gMax2, gMin2, aCons, aNil, eCall, tgG, gName, gUnp, setAll, eTup, eIf, eAnd, eOr, eNot, Res.bind, ofO, Option.map, sNil, cnd]) (by simp) fun x hx => ?_
    have go : ∀ a : Int, 0 ≤ a → a ≤ 7 → turn1 (callD tab k) (lC1.wipeV [some (.ref M), some (.tup [.int place, .int ice, .int warm, .int late]), some (.tup [.int pc, .int j]), none] [3]) (.nm 3) tYes (eCall fI (aCons (eVar 3) (aCons (eC (.int 0)) (aCons (eC (.int 7)) aNil)))) (.int a) ((h.push (bnds many room bear)).lock []) = .ok [.bl true] ((h.push (bnds many room bear)).lock []) := fun a h0 h7 => by
      have e := isint_ok (K := k) (h := (h.push (bnds many room bear)).lock []) hI (by omega) h0 h7
      simp [turn1, runFd, sSeq, sIf, sRet, sExpr, sAsg, sOf, endS, tE, tAnd, tOr, tNot, tYes, eCmp, eVar, eC, eBin, eLen, lenV, cmpop, ltV, icmp, eSub, subV, itemsOf, binop, addV, mulV, mapInt2, eB, gInt, gMax2, gMin2, aCons, aNil, eCall, tgG, gName, gUnp, setAll, eTup, eIf, eAnd, eOr, eNot, Res.bind, ofO, Option.map, sNil, cnd, lC1.wipeV, e]
    simp only [List.mem_cons, List.not_mem_nil, or_false] at hx
    rcases hx with z | z <;> subst z
    · exact go _ p0 (by omega)
    · exact go _ j0 (by omega)
  obtain ⟨h2, r, e3, g3, kq, hr⟩ := mv_ok (K := k) (h := h.push (bnds many room bear)) hRf hMv (by omega) (Mem.get_push hm) mo so
  have e4 := in_flat g3 hx (MV_flat RF_int)
  have hm2 := kq.get _ _ (Mem.get_push (o := bnds many room bear) hm)
  have e5 := es_ok (K := k) (h := h2) (place := place) (warm := warm) hC hE hS (by omega) hm2 hq hix ht ⟨so.l0, so.l1⟩ pr
  have q : eqv (h.push (bnds many room bear)) (.int 2) (.int 2) = some true := by rw [eqv_int, ieq_t]
  refine ⟨_, h2.size, ?_, Mem.get_push_new _ _, Kq.push.trans (kq.trans Kq.push)⟩
  simp [bRs, runFd, sSeq, sIf, sRet, sExpr, sAsg, sOf, endS, tE, tAnd, tOr, tNot, tYes, eCmp, eVar, eC, eBin, eLen, lenV, cmpop, ltV, icmp, eSub, subV, itemsOf, binop, addV, mulV, mapInt2, eB, gInt, gMax2, gMin2, aCons, aNil, eCall, tgG, gName, gUnp, setAll, eTup, eIf, eAnd, eOr, eNot, Res.bind, ofO, Option.map, sNil, cnd, e1, eIs, isB, isTup, q, onot, bnot, e2, e3, e4, e5]
end
end Ev
end

section
set_option Elab.async false
set_option linter.all false
set_option maxRecDepth 100000
/-! Ev: ends by the law. -/
namespace Ev
open PySem PySem.Spec PyProof.Rows L2
section
variable {tab : List Fd} {fHo fLe fRo fPl fPr fBx K : Nat} {h : Mem} {M : Nat} {many room bear place ice warm late pc j f l t m : Int} {qs : List (List Int)} {ps : List PV}
def leBody (fHo fRo : Nat) : XS := (sSeq (sAsg (eCall fHo (aCons (eVar 0) (aCons (eBin .add (eSub (eVar 1) (eC (.int 1))) (eSub (eVar 2) (eC (.int 0)))) (aCons (eSub (eVar 1) (eC (.int 2))) (aCons (eSub (eVar 2) (eC (.int 1))) (aCons (eVar 4) aNil)))))) (tgG (.nm 5))) (sIf (tE (eCmp .is_ (eVar 5) (eC .non))) (sExpr (eApp (eVar 3) (eC .non))) (sExpr (eApp (eVar 3) (eTup (aCons (eSub (eSub (eFld [(0, .prop fRo)] (eVar 0)) (eSub (eVar 2) (eC (.int 1)))) (eC (.int 1))) (aCons (eSub (eVar 5) (eC (.int 0))) (aCons (eSub (eVar 5) (eC (.int 1))) (aCons (eBin .sub (eSub (eVar 1) (eC (.int 3))) (eVar 4)) aNil)))))))))
def leFor (fHo fRo : Nat) : XS := (sFor (iR1 (eBin .add (eSub (eVar 1) (eC (.int 3))) (eC (.int 1)))) (tgG (.nm 4)) (leBody fHo fRo))
def bLe (fHo fRo : Nat) : XS := (sSeq (sAsg (eNew (lNew aNil)) (tgG (.nm 3))) (sSeq (leFor fHo fRo) (sRet (eVar 3))))
/-- behind a list at R that grows -/
structure Gr (h0 h : Mem) (R : Nat) (xs : List PV) : Prop where
  at_ : h.get R = some (.lst xs)
  fr : h.free R = true
  nw : h0.size ≤ R
  lk : h.locks = h0.locks
  ld : h.dl = h0.dl
  sz : h0.size ≤ h.size
  get : ∀ n o, h0.get n = some o → h.get n = some o
theorem Gr.kq {h0 : Mem} {R : Nat} {xs : List PV} (g : Gr h0 h R xs) : Kq h0 h := ⟨g.sz, g.lk, g.ld, g.get⟩
theorem Gr.app {h0 : Mem} {R : Nat} {xs : List PV} {x : PV} (g : Gr h0 h R xs) : Gr h0 (h.set R (.lst (xs ++ [x]))) R (xs ++ [x]) :=
  ⟨Mem.get_set_same _ (Mem.get_lt g.at_), g.fr, g.nw, g.lk, g.ld, g.sz, fun n o e => by
    rw [Mem.get_set_ne _ (by have := g.nw; have := Mem.get_lt e; omega)]
    exact g.get n o e⟩
theorem leBody_ok (Q : QW tab fPl fRo fPr fBx) (hH : nthF tab fHo = some ⟨5, 7, bHo fRo fBx⟩) (hK : 2 ≤ K) {h0 : Mem} {R i : Nat} {xs : List PV} (g : Gr h0 h R xs) (hm : h0.get M = some (mapOb many room bear qs ps)) (hq : qs[j.toNat]? = some [f, l, t, m]) (hix : ixN qs.length j = some j.toNat) (ht : 1 ≤ t ∧ t ≤ 4) (hi : i ≤ 10) (hl : xs.length ≤ 1000) {o5 : Option PV} :
    ∃ o5' h', leBody fHo fRo (callD tab K) [some (.ref M), some (.tup [.int place, .int ice, .int warm, .int late]), some (.tup [.int pc, .int j]), some (.ref R), some (.int i), o5] h = .nx [some (.ref M), some (.tup [.int place, .int ice, .int warm, .int late]), some (.tup [.int pc, .int j]), some (.ref R), some (.int i), o5'] h' ∧ Gr h0 h' R (xs ++ [endF l late bear t m (ice + pc) warm (.int i)]) := by
  have hm1 := g.get _ _ hm
  have hmr : h.get M = some (.ins 0 [some (.tup [.int room, .int bear]), some (.tup (qs.map tupI)), some (.int many), some (.tup ps)]) := hm1
  have e0 := ro_ok (K := K) Q (by omega) hm1
  have e1 := ho_ok (K := K) (h := h) (i := ice + pc) (w := warm) (j := j) (more := (i : Int)) Q hH hK hm1 hq hix (by omega)
  have x0 : ixN 4 0 = some 0 := rfl
  have x1 : ixN 4 1 = some 1 := rfl
  have x2 : ixN 4 2 = some 2 := rfl
  have x3 : ixN 4 3 = some 3 := rfl
  have y0 : ixN 2 0 = some 0 := rfl
  have y1 : ixN 2 1 = some 1 := rfl
  have f4 : ∀ a b c d : PV, fits [a, b, c, d] = true := fun _ _ _ _ => rfl
  have ff : fits xs = true := fits_small (by omega)
  have ga := g.app (x := endF l late bear t m (ice + pc) warm (.int i))
  refine ⟨some (hres bear (hrs m (t + i).toNat (ice + pc, warm))), _, ?_, ga⟩
  unfold endF
  simp only
  generalize hrs m (t + (i : Int)).toNat (ice + pc, warm) = p at *
  cases hc : ile p.2 bear <;> simp [leBody, runFd, sSeq, sIf, sRet, sExpr, sAsg, sOf, endS, tE, tAnd, tOr, tNot, tYes, eCmp, eVar, eC, eBin, eLen, lenV, cmpop, ltV, icmp, eSub, subV, itemsOf, binop, addV, mulV, mapInt2, eB, gInt, gMax2, gMin2, aCons, aNil, eCall, tgG, gName, gUnp, setAll, eTup, eIf, eAnd, eOr, eNot, Res.bind, ofO, Option.map, sNil, cnd, x0, x1, x2, x3, y0, y1, e1, hres, hc, isV, isNon, eApp, g.at_, g.fr, ff, f4, eFld, fldV, lookC, noErr, hmr, e0, hix, hq, tupI, endv]
theorem lEnds_ok (Q : QW tab fPl fRo fPr fBx) (hH : nthF tab fHo = some ⟨5, 7, bHo fRo fBx⟩) (hL : nthF tab fLe = some ⟨3, 6, bLe fHo fRo⟩) (hK : 3 ≤ K) (hlk : ∀ n ∈ h.locks, n < h.size) (hm : h.get M = some (mapOb many room bear qs ps)) (hq : qs[j.toNat]? = some [f, l, t, m]) (hix : ixN qs.length j = some j.toNat) (ht : 1 ≤ t ∧ t ≤ 4) (hl : 0 ≤ late ∧ late ≤ 4) :
    ∃ h' r, callD tab K fLe [.ref M, .tup [.int place, .int ice, .int warm, .int late], .tup [.int pc, .int j]] h = .ok (.ref r) h' ∧ h'.get r = some (.lst ((upto 0 1 (late + 1).toNat).map (endF l late bear t m (ice + pc) warm))) ∧ Kq h h' := by
  obtain ⟨k, rfl⟩ : ∃ k, K = k + 1 := ⟨K - 1, by omega⟩
  rw [call_eq hL]
  have h62 := lt62_t (i := late + 1) (by omega) (by omega)
  have x3 : ixN 4 3 = some 3 := rfl
  have f0 : fits ([] : List PV) = true := rfl
  have g0 : Gr h (h.push (.lst [])) h.size [] := ⟨Mem.get_push_new _ _, Mem.free_iff.mpr fun z => by have := hlk _ z; omega, Nat.le_refl _, rfl, rfl, by simp, fun n o e => Mem.get_push e⟩
  have hi : iR1 (eBin .add (eSub (eVar 1) (eC (.int 3))) (eC (.int 1))) (callD tab k) [some (.ref M), some (.tup [.int place, .int ice, .int warm, .int late]), some (.tup [.int pc, .int j]), some (.ref h.size), none, none] (h.push (.lst [])) = .ok (upto 0 1 (late + 1).toNat, []) (h.push (.lst [])) := by
    simp [iR1, runFd, sSeq, sIf, sRet, sExpr, sAsg, sOf, endS, tE, tAnd, tOr, tNot, tYes, eCmp, eVar, eC, eBin, eLen, lenV, cmpop, ltV, icmp, eSub, subV, itemsOf, binop, addV, mulV, mapInt2, eB, gInt, gMax2, gMin2, aCons, aNil, eCall, tgG, gName, gUnp, setAll, eTup, eIf, eAnd, eOr, eNot, Res.bind, ofO, Option.map, sNil, cnd, x3, h62]
  obtain ⟨s', h', e, p⟩ := sFor_inv (g := tgG (.nm 4)) (b := leBody fHo fRo) (P := fun i s mm => ∃ (o4 o5 : Option PV), s = [some (.ref M), some (.tup [.int place, .int ice, .int warm, .int late]), some (.tup [.int pc, .int j]), some (.ref h.size), o4, o5] ∧ Gr h mm h.size ((upto 0 1 i).map (endF l late bear t m (ice + pc) warm)) ∧ i ≤ 9) hi ⟨none, none, rfl, g0, by omega⟩ fun i x s mm hx ⟨o4, o5, es, g, hi9⟩ => by
    subst es
    obtain ⟨hi2, ex⟩ := upto_item hx
    have ex : x = .int (i : Int) := by rw [ex]; congr 1; omega
    subst ex
    obtain ⟨o5', h2, e2, g2⟩ := leBody_ok (K := k) (place := place) (late := late) (ice := ice) (warm := warm) (pc := pc) (o5 := o5) (i := i) Q hH (by omega) g hm hq hix ht (by omega) (by rw [List.length_map, upto_len]; omega)
    refine ⟨_, h2, ?_, some (.int i), o5', rfl, ?_, by omega⟩
    · simpa [sOf, tgG, gName] using e2
    · rw [upto_succ, List.map_append]
      have : (0 : Int) + (i : Int) = i := by omega
      rw [this]
      exact g2
  obtain ⟨o4, o5, es, g, _⟩ := p
  rw [upto_len] at g
  subst es
  refine ⟨h', h.size, ?_, g.at_, g.kq⟩
  have ef : leFor fHo fRo (callD tab k) [some (.ref M), some (.tup [.int place, .int ice, .int warm, .int late]), some (.tup [.int pc, .int j]), some (.ref h.size), none, none] (h.push (.lst [])) = _ := e
  simp [bLe, runFd, sSeq, sIf, sRet, sExpr, sAsg, sOf, endS, tE, tAnd, tOr, tNot, tYes, eCmp, eVar, eC, eBin, eLen, lenV, cmpop, ltV, icmp, eSub, subV, itemsOf, binop, addV, mulV, mapInt2, eB, gInt, gMax2, gMin2, aCons, aNil, eCall, tgG, gName, gUnp, setAll, eTup, eIf, eAnd, eOr, eNot, Res.bind, ofO, Option.map, sNil, cnd, eNew, lNew, f0, ef]
end
end Ev
end

section
set_option Elab.async false
set_option linter.all false
set_option maxRecDepth 100000
/-! Ev: law k01. -/
namespace Ev
open PySem PySem.Spec PyProof.Rows L2
/-- the defs that k01 calls -/
structure K1 (tab : List Fd) (it : List (Nat × Bool)) (lt : List (Nat × Nat)) (fI fR fRs fPs fB fM fLn fPl fRo fPr fBx fCm fIs fCk fRf fMv fCa fEo fEs fMs fRes fC fD fN fX fP fMp fS fLm fHo fLe : Nat) (x1 x2 x3 x4 x5 x6 y1 y2 : XS) : Prop where
  L : LW tab lt fC fD fN fX fP
  W : MW tab it lt fI fR fRs fPs fB fM x1 x2 x3 x4
  Q : QW tab fPl fRo fPr fBx
  Ln : nthF tab fLn = some ⟨1, 1, sRet (eLen lt (eFld [(0, .slot 1)] (eVar 0)))⟩
  Lt : lookC 0 lt = some fLn
  Cm : nthF tab fCm = some ⟨1, 1, bCm x5⟩
  Is : nthF tab fIs = some ⟨2, 7, bIs it lt fI⟩
  Ck : nthF tab fCk = some ⟨2, 2, bCk x6 fCm fIs⟩
  Rf : nthF tab fRf = some ⟨2, 4, bRf⟩
  Mv : nthF tab fMv = some ⟨2, 5, bMv fRf⟩
  Ca : nthF tab fCa = some ⟨4, 7, bCa⟩
  Eo : nthF tab fEo = some ⟨4, 13, bEo fCa⟩
  Es : nthF tab fEs = some ⟨3, 4, bEs fEo⟩
  Ms : nthF tab fMs = some ⟨2, 2, bMs fCk fMv⟩
  Res : nthF tab fRes = some ⟨3, 4, bRs y1 y2 it lt fCk fI fMv fEs⟩
  Mp : nthF tab fMp = some ⟨2, 10, bMap fX fP fM⟩
  S : nthF tab fS = some ⟨2, 5, bState fX fPl fBx⟩
  Lm : nthF tab fLm = some ⟨2, 9, bLm fRo fBx fPr⟩
  Ho : nthF tab fHo = some ⟨5, 7, bHo fRo fBx⟩
  Le : nthF tab fLe = some ⟨3, 6, bLe fHo fRo⟩
section
variable {tab : List Fd} {it : List (Nat × Bool)} {lt : List (Nat × Nat)} {fI fR fRs fPs fB fM fLn fPl fRo fPr fBx fCm fIs fCk fRf fMv fCa fEo fEs fMs fRes fC fD fN fX fP fMp fS fLm fHo fLe K : Nat} {x1 x2 x3 x4 x5 x6 y1 y2 : XS} {h : Mem} {ns : List Int} {D M : Nat} {many room bear place ice warm late : Int} {qs : List (List Int)} {ps : List PV}
/-- one move looked at -/
def k1Mv (fRes fLe : Nat) : XS := (sIf (tE (eCmp .ne (eCall fRes (aCons (eVar 3) (aCons (eVar 5) (aCons (eVar 7) aNil)))) (eCall fLe (aCons (eVar 3) (aCons (eVar 5) (aCons (eVar 7) aNil)))))) (sRet (eC (.bl false))) sNil)
def k1Src (fP : Nat) : XI := (iAny (eIf (tE (eCmp .ne (eVar 6) (eNew (lNew aNil)))) (eNew (lNew (aCons (eCall fP (aCons (eVar 2) (aCons (eVar 6) aNil))) aNil))) (eNew (lNew aNil))))
def k1For (fP fRes fLe : Nat) : XS := (sFor (k1Src fP) (tgG (.nm 7)) (k1Mv fRes fLe))
def k1Turn (fS fLm fMs fP fRes fLe : Nat) : XS := (sSeq (sAsg (eCall fS (aCons (eVar 2) (aCons (eVar 3) aNil))) (tgG (.nm 5))) (sSeq (sAsg (eCall fLm (aCons (eVar 3) (aCons (eVar 5) aNil))) (tgG (.nm 6))) (sSeq (sIf (tE (eCmp .ne (eCall fMs (aCons (eVar 3) (aCons (eVar 5) aNil))) (eVar 6))) (sRet (eC (.bl false))) sNil) (k1For fP fRes fLe))))
theorem eqv_nil {a b : Nat} {xs : List PV} (ha : h.get a = some (.lst xs)) (hb : h.get b = some (.lst [])) (f : ∀ x ∈ xs, Flat x) : ∃ c, eqv h (.ref a) (.ref b) = some c := by
  have d : ∀ c ys, h.get c = some (.lst ys) → (∀ x ∈ ys, Flat x) → toD h 8 (.ref c) = some (.list (ys.map dOf)) := fun c ys hc f => by
    show (match h.get c with
      | some (.lst xs) => (toD.go (toD h 7) xs).map PyData.list
      | some (.scr xs) => (toD.go (toD h 7) xs).map PyData.list
      | _ => none) = _
    rw [hc]
    simp only
    rw [flat_go (n := 5) f]
    rfl
  have fn : ∀ x ∈ ([] : List PV), Flat x := fun x hx => by cases hx
  unfold eqv
  rw [d a xs ha f, d b [] hb fn]
  simp only
  rw [list_shaped f, list_shaped fn]
  exact ⟨_, rfl⟩
theorem eqv_nil_f {a b : Nat} {xs : List PV} (ha : h.get a = some (.lst xs)) (hb : h.get b = some (.lst [])) (f : ∀ x ∈ xs, Flat x) (e : eqv h (.ref a) (.ref b) = some false) : xs ≠ [] := fun z => by
  subst z
  rw [eqv_same ha hb f] at e
  cases e
theorem k1Mv_ok (k1 : K1 tab it lt fI fR fRs fPs fB fM fLn fPl fRo fPr fBx fCm fIs fCk fRf fMv fCa fEo fEs fMs fRes fC fD fN fX fP fMp fS fLm fHo fLe x1 x2 x3 x4 x5 x6 y1 y2) (hK : 5 ≤ K) (hlk : ∀ n ∈ h.locks, n < h.size) (hm : h.get M = some (mapOb many room bear qs ps)) (mo : MapOk many room bear qs ps) (so : StOk many room bear place ice warm late) {x : PV} (hx : x ∈ MV (RF qs place) (nPc ps room place ice)) {o0 o1 o2 o4 o6 : Option PV} :
    ∃ h', k1Mv fRes fLe (callD tab K) [o0, o1, o2, some (.ref M), o4, some (.tup [.int place, .int ice, .int warm, .int late]), o6, some x] h = .nx [o0, o1, o2, some (.ref M), o4, some (.tup [.int place, .int ice, .int warm, .int late]), o6, some x] h' ∧ Kq h h' := by
  obtain ⟨pc, j, rfl, p0, pr, j0, j1⟩ := MV_move mo so hx
  obtain ⟨f, l, t, m, hix, t0, t1, hq⟩ := road_at ⟨j0, j1⟩ mo.rd.ok
  obtain ⟨h1, r, e1, g1, q1⟩ := rs_ok (K := K) (h := h) k1.W.I k1.Cm k1.Is k1.Ck k1.Rf k1.Mv k1.Ca k1.Eo k1.Es k1.Res (by omega) hm mo so hx hq hix ⟨t0, t1⟩
  obtain ⟨h2, r2, e2, g2, q2⟩ := lEnds_ok (K := K) (h := h1) (place := place) (ice := ice) (warm := warm) (pc := pc) k1.Q k1.Ho k1.Le (by omega) (fun n hn => by have := q1.sz; rw [q1.lk] at hn; have := hlk n hn; omega) (q1.get _ _ hm) hq hix ⟨t0, t1⟩ ⟨so.l0, so.l1⟩
  have e3 := eqv_same (q2.get _ _ g1) g2 fun x hx => by
    obtain ⟨y, _, rfl⟩ := List.mem_map.mp hx
    exact endF_flat y
  refine ⟨h2, ?_, q1.trans q2⟩
  simp [k1Mv, runFd, sSeq, sIf, sRet, sExpr, sAsg, sOf, endS, tE, tAnd, tOr, tNot, tYes, eCmp, eVar, eC, eBin, eLen, lenV, cmpop, ltV, icmp, eSub, subV, itemsOf, binop, addV, mulV, mapInt2, eB, gInt, gMax2, gMin2, aCons, aNil, eCall, tgG, gName, gUnp, setAll, eTup, eIf, eAnd, eOr, eNot, Res.bind, ofO, Option.map, sNil, cnd, e1, e2, e3, onot, bnot]
theorem k1For_ok (k1 : K1 tab it lt fI fR fRs fPs fB fM fLn fPl fRo fPr fBx fCm fIs fCk fRf fMv fCa fEo fEs fMs fRes fC fD fN fX fP fMp fS fLm fHo fLe x1 x2 x3 x4 x5 x6 y1 y2) (hK : 5 ≤ K) (hl : h.locks = []) (d : DRx ns h D) (hm : h.get M = some (mapOb many room bear qs ps)) (hne : M ≠ D) (mo : MapOk many room bear qs ps) (so : StOk many room bear place ice warm late) {r : Nat} (hr : h.get r = some (.lst (MV (RF qs place) (nPc ps room place ice)))) (hrd : r ≠ D) {o0 o1 o4 o7 : Option PV} :
    ∃ h' o7', k1For fP fRes fLe (callD tab K) [o0, o1, some (.ref D), some (.ref M), o4, some (.tup [.int place, .int ice, .int warm, .int late]), some (.ref r), o7] h = .nx [o0, o1, some (.ref D), some (.ref M), o4, some (.tup [.int place, .int ice, .int warm, .int late]), some (.ref r), o7'] h' ∧ DRx ns h' D ∧ Kp D h h' := by
  have hfl := MV_flat (rf := RF qs place) (n := nPc ps room place ice) RF_int
  have f0 : fits ([] : List PV) = true := rfl
  have f1 : ∀ a : PV, fits [a] = true := fun _ => rfl
  have g0 : (h.push (.lst [])).get h.size = some (.lst []) := Mem.get_push_new _ _
  have gr : (h.push (.lst [])).get r = some (.lst (MV (RF qs place) (nPc ps room place ice))) := Mem.get_push hr
  obtain ⟨c, ec⟩ := eqv_nil gr g0 hfl
  cases c with
  | true =>
    have g1 : ((h.push (.lst [])).push (.lst [])).get (h.size + 1) = some (.lst []) := Mem.get_push_new (h.push (.lst [])) _
    have es : k1Src fP (callD tab K) [o0, o1, some (.ref D), some (.ref M), o4, some (.tup [.int place, .int ice, .int warm, .int late]), some (.ref r), o7] h = .ok ([], [h.size + 1]) ((h.push (.lst [])).push (.lst [])) := by
      simp [k1Src, iOf, iAny, runFd, sSeq, sIf, sRet, sExpr, sAsg, sOf, endS, tE, tAnd, tOr, tNot, tYes, eCmp, eVar, eC, eBin, eLen, lenV, cmpop, ltV, icmp, eSub, subV, itemsOf, binop, addV, mulV, mapInt2, eB, gInt, gMax2, gMin2, aCons, aNil, eCall, tgG, gName, gUnp, setAll, eTup, eIf, eAnd, eOr, eNot, Res.bind, ofO, Option.map, sNil, cnd, eNew, lNew, f0, ec, onot, bnot, g1]
    refine ⟨(h.push (.lst [])).push (.lst []), o7, ?_, (d.push).push, Kp.push.trans Kp.push⟩
    unfold k1For sFor
    rw [es]
    simp only [sOf_ok, loopS, endS, lock_unlock]
  | false =>
    have nn := eqv_nil_f gr g0 hfl ec
    obtain ⟨x, h2, hx, e2, d2, k2⟩ := pk (K := K) k1.L (by omega) (d.push (o := .lst [])) gr hrd nn
    have g3 : (h2.push (.lst [x])).get h2.size = some (.lst [x]) := Mem.get_push_new _ _
    have es : k1Src fP (callD tab K) [o0, o1, some (.ref D), some (.ref M), o4, some (.tup [.int place, .int ice, .int warm, .int late]), some (.ref r), o7] h = .ok ([x], [h2.size]) (h2.push (.lst [x])) := by
      simp [k1Src, iOf, iAny, runFd, sSeq, sIf, sRet, sExpr, sAsg, sOf, endS, tE, tAnd, tOr, tNot, tYes, eCmp, eVar, eC, eBin, eLen, lenV, cmpop, ltV, icmp, eSub, subV, itemsOf, binop, addV, mulV, mapInt2, eB, gInt, gMax2, gMin2, aCons, aNil, eCall, tgG, gName, gUnp, setAll, eTup, eIf, eAnd, eOr, eNot, Res.bind, ofO, Option.map, sNil, cnd, eNew, lNew, f0, f1, ec, onot, bnot, e2, g3]
    have l2 : h2.locks = [] := k2.lk.trans hl
    have hm2 : (h2.push (.lst [x])).get M = some (mapOb many room bear qs ps) := Mem.get_push (k2.get _ _ hne (Mem.get_push hm))
    obtain ⟨h4, e4, q4⟩ := k1Mv_ok (K := K) (h := (h2.push (.lst [x])).lock [h2.size]) k1 hK (fun n hn => by
      rw [Mem.locks_lock, Mem.locks_push, l2] at hn
      have : n = h2.size := by simpa using hn
      rw [this]
      simp) hm2 mo so hx (o0 := o0) (o1 := o1) (o2 := some (.ref D)) (o4 := o4) (o6 := some (.ref r))
    have k4 : Kp D (h2.push (.lst [x])) (h4.unlock [h2.size]) := ⟨q4.sz, by rw [Mem.locks_unlock, q4.lk, Mem.locks_lock]; simp, q4.ld, fun n o _ e => q4.get n o e⟩
    have d4 : DRx ns (h4.unlock [h2.size]) D := by
      obtain ⟨b, n, dd⟩ := d2.push (o := .lst [x])
      refine ⟨b, n, k4.get _ _ (by have := dd.ne; omega) dd.sc, q4.get _ _ dd.at_, ?_, dd.b0, dd.n0⟩
      rw [k4.free]
      exact dd.fr
    refine ⟨h4.unlock [h2.size], some x, ?_, d4, Kp.push.trans (k2.trans (Kp.push.trans k4))⟩
    unfold k1For sFor
    rw [es]
    simp only [sOf_ok, loopS]
    have eg : tgG (.nm 7) (callD tab K) x [o0, o1, some (.ref D), some (.ref M), o4, some (.tup [.int place, .int ice, .int warm, .int late]), some (.ref r), o7] ((h2.push (.lst [x])).lock [h2.size]) = .ok [o0, o1, some (.ref D), some (.ref M), o4, some (.tup [.int place, .int ice, .int warm, .int late]), some (.ref r), some x] ((h2.push (.lst [x])).lock [h2.size]) := rfl
    rw [eg]
    simp only [sOf_ok, e4, endS]
theorem k1Turn_ok (k1 : K1 tab it lt fI fR fRs fPs fB fM fLn fPl fRo fPr fBx fCm fIs fCk fRf fMv fCa fEo fEs fMs fRes fC fD fN fX fP fMp fS fLm fHo fLe x1 x2 x3 x4 x5 x6 y1 y2) (hK : 5 ≤ K) (hl : h.locks = []) (d : DRx ns h D) (hm : h.get M = some (mapOb many room bear qs ps)) (hne : M ≠ D) (mo : MapOk many room bear qs ps) {o0 o1 o4 o5 o6 o7 : Option PV} :
    ∃ h' o5' o6' o7', k1Turn fS fLm fMs fP fRes fLe (callD tab K) [o0, o1, some (.ref D), some (.ref M), o4, o5, o6, o7] h = .nx [o0, o1, some (.ref D), some (.ref M), o4, o5', o6', o7'] h' ∧ DRx ns h' D ∧ Kp D h h' := by
  obtain ⟨h1, p, i, w, l, e1, so, d1, kk1⟩ := state_ok (K := K) k1.L k1.Q k1.S (by omega) d hm mo hne
  have hm1 := kk1.get _ _ hne hm
  obtain ⟨h2, r2, e2, g2, q2⟩ := lm_ok (K := K) k1.Q k1.Lm (by omega) hm1 mo so
  have hm2 := q2.get _ _ hm1
  obtain ⟨h3, r3, e3, g3, q3, hr3⟩ := ms_ok (K := K) k1.W.I k1.Cm k1.Is k1.Ck k1.Rf k1.Mv k1.Ms (by omega) hm2 mo so
  have hfl := MV_flat (rf := RF qs p) (n := nPc ps room p i) RF_int
  have e4 := eqv_same g3 (q3.get _ _ g2) hfl
  have d3 := q3.dr (q2.dr d1)
  have hrd : r2 ≠ D := fun z => by
    obtain ⟨b, n, dd⟩ := q2.dr d1
    have := dd.at_
    rw [← z, g2] at this
    have this := Option.some.inj this
    injection this with this
    have hx : PV.ref 0 ∈ MV (RF qs p) (nPc ps room p i) := by rw [this]; simp
    obtain ⟨_, _, e, _⟩ := MV_mem hx
    cases e
  obtain ⟨h5, o7', e5, d5, k5⟩ := k1For_ok (K := K) (h := h3) (o0 := o0) (o1 := o1) (o4 := o4) (o7 := o7) k1 hK (q3.lk.trans (q2.lk.trans (kk1.lk.trans hl))) d3 (q3.get _ _ hm2) hne mo so (q3.get _ _ g2) hrd
  refine ⟨h5, some (.tup [.int p, .int i, .int w, .int l]), some (.ref r2), o7', ?_, d5, kk1.trans (q2.kp.trans (q3.kp.trans k5))⟩
  simp [k1Turn, runFd, sSeq, sIf, sRet, sExpr, sAsg, sOf, endS, tE, tAnd, tOr, tNot, tYes, eCmp, eVar, eC, eBin, eLen, lenV, cmpop, ltV, icmp, eSub, subV, itemsOf, binop, addV, mulV, mapInt2, eB, gInt, gMax2, gMin2, aCons, aNil, eCall, tgG, gName, gUnp, setAll, eTup, eIf, eAnd, eOr, eNot, Res.bind, ofO, Option.map, sNil, cnd, e1, e2, e3, e4, onot, bnot, e5]
end
end Ev
end

section
set_option Elab.async false
set_option linter.all false
set_option maxRecDepth 100000
/-! Ev: law k01, the whole. -/
namespace Ev
open PySem PySem.Spec PyProof.Rows L2
section
variable {tab : List Fd} {it : List (Nat × Bool)} {lt : List (Nat × Nat)} {fI fR fRs fPs fB fM fLn fPl fRo fPr fBx fCm fIs fCk fRf fMv fCa fEo fEs fMs fRes fC fD fN fX fP fMp fS fLm fHo fLe fL K : Nat} {x1 x2 x3 x4 x5 x6 y1 y2 : XS} {h : Mem} {ns : List Int} {D M : Nat} {many room bear : Int} {qs : List (List Int)} {ps : List PV}
def k1In (fS fLm fMs fP fRes fLe : Nat) : XS := (sFor (iR1 (eC (.int 4))) (tgG (.nm 4)) (k1Turn fS fLm fMs fP fRes fLe))
def k1Len (lt : List (Nat × Nat)) (fRo : Nat) : XS := (sIf (tE (eCmp .ne (eLen lt (eVar 3)) (eLen lt (eFld [(0, .prop fRo)] (eVar 3))))) (sRet (eC (.bl false))) sNil)
def k1Out (lt : List (Nat × Nat)) (fRo fMp fS fLm fMs fP fRes fLe : Nat) : XS := (sSeq (sAsg (eNew (lNew (aCons (eVar 0) (aCons (eVar 1) (aCons (eC (.int 0)) aNil))))) (tgG (.nm 2))) (sSeq (sAsg (eCall fMp (aCons (eVar 2) (aCons (eC (.int 4)) aNil))) (tgG (.nm 3))) (sSeq (k1Len lt fRo) (k1In fS fLm fMs fP fRes fLe))))
def k1Rng (lt : List (Nat × Nat)) : XI := (iR3 (eC (.int 0)) (eB gMax2 (aCons (eC (.int 1)) (aCons (eB gMin2 (aCons (eC (.int 16)) (aCons (eLen lt (eVar 0)) aNil))) aNil))) (eC (.int 4)))
def bK1 (lt : List (Nat × Nat)) (fRo fMp fS fLm fMs fP fRes fLe : Nat) : XS := (sSeq (sFor (k1Rng lt) (tgG (.nm 1)) (k1Out lt fRo fMp fS fLm fMs fP fRes fLe)) (sRet (eC (.bl true))))
theorem ln_ok (hL : nthF tab fLn = some ⟨1, 1, sRet (eLen lt (eFld [(0, .slot 1)] (eVar 0)))⟩) (hK : 1 ≤ K) (hm : h.get M = some (mapOb many room bear qs ps)) : callD tab K fLn [.ref M] h = .ok (.int (qs.length : Nat)) h := by
  obtain ⟨k, rfl⟩ : ∃ k, K = k + 1 := ⟨K - 1, by omega⟩
  rw [call_eq hL]
  have hmr : h.get M = some (.ins 0 [some (.tup [.int room, .int bear]), some (.tup (qs.map tupI)), some (.int many), some (.tup ps)]) := hm
  simp [runFd, sSeq, sIf, sRet, sExpr, sAsg, sOf, endS, tE, tAnd, tOr, tNot, tYes, eCmp, eVar, eC, eBin, eLen, lenV, cmpop, ltV, icmp, eSub, subV, itemsOf, binop, addV, mulV, mapInt2, eB, gInt, gMax2, gMin2, aCons, aNil, eCall, tgG, gName, gUnp, setAll, eTup, eIf, eAnd, eOr, eNot, Res.bind, ofO, Option.map, sNil, cnd, eFld, fldV, lookC, hmr]
theorem k1Len_ok (hQ : QW tab fPl fRo fPr fBx) (hL : nthF tab fLn = some ⟨1, 1, sRet (eLen lt (eFld [(0, .slot 1)] (eVar 0)))⟩) (hl : lookC 0 lt = some fLn) (hK : 1 ≤ K) (hm : h.get M = some (mapOb many room bear qs ps)) (h7 : qs.length ≤ 7) {o0 o1 o2 o4 o5 o6 o7 : Option PV} :
    k1Len lt fRo (callD tab K) [o0, o1, o2, some (.ref M), o4, o5, o6, o7] h = .nx [o0, o1, o2, some (.ref M), o4, o5, o6, o7] h := by
  have hmr : h.get M = some (.ins 0 [some (.tup [.int room, .int bear]), some (.tup (qs.map tupI)), some (.int many), some (.tup ps)]) := hm
  have e0 := ln_ok (K := K) hL hK hm
  have e1 := ro_ok (K := K) hQ hK hm
  have c1 : ile 0 (qs.length : Nat) = true := ile_t (by omega)
  have c2 : ilt (qs.length : Nat) 65536 = true := ilt_t (by omega)
  have q : eqv h (.int (qs.length : Nat)) (.int (qs.length : Nat)) = some true := by rw [eqv_int, ieq_t]
  have l0 : lookC 0 [(0, At.prop fRo)] = some (.prop fRo) := rfl
  simp [k1Len, runFd, sSeq, sIf, sRet, sExpr, sAsg, sOf, endS, tE, tAnd, tOr, tNot, tYes, eCmp, eVar, eC, eBin, eLen, lenV, cmpop, ltV, icmp, eSub, subV, itemsOf, binop, addV, mulV, mapInt2, eB, gInt, gMax2, gMin2, aCons, aNil, eCall, tgG, gName, gUnp, setAll, eTup, eIf, eAnd, eOr, eNot, Res.bind, ofO, Option.map, sNil, cnd, hmr, hl, noErr, e0, lenI, c1, c2, eFld, fldV, l0, e1, q, onot, bnot]
theorem k1In_ok (k1 : K1 tab it lt fI fR fRs fPs fB fM fLn fPl fRo fPr fBx fCm fIs fCk fRf fMv fCa fEo fEs fMs fRes fC fD fN fX fP fMp fS fLm fHo fLe x1 x2 x3 x4 x5 x6 y1 y2) (hK : 5 ≤ K) (hl : h.locks = []) (d : DRx ns h D) (hm : h.get M = some (mapOb many room bear qs ps)) (hne : M ≠ D) (mo : MapOk many room bear qs ps) {o0 o1 o4 o5 o6 o7 : Option PV} :
    ∃ h' o4' o5' o6' o7', k1In fS fLm fMs fP fRes fLe (callD tab K) [o0, o1, some (.ref D), some (.ref M), o4, o5, o6, o7] h = .nx [o0, o1, some (.ref D), some (.ref M), o4', o5', o6', o7'] h' ∧ Kp D h h' := by
  have h62 := lt62_t (i := 4) (by decide) (by decide)
  have hi : iR1 (eC (.int 4)) (callD tab K) [o0, o1, some (.ref D), some (.ref M), o4, o5, o6, o7] h = .ok (upto 0 1 4, []) h := by
    simp [iR1, runFd, sSeq, sIf, sRet, sExpr, sAsg, sOf, endS, tE, tAnd, tOr, tNot, tYes, eCmp, eVar, eC, eBin, eLen, lenV, cmpop, ltV, icmp, eSub, subV, itemsOf, binop, addV, mulV, mapInt2, eB, gInt, gMax2, gMin2, aCons, aNil, eCall, tgG, gName, gUnp, setAll, eTup, eIf, eAnd, eOr, eNot, Res.bind, ofO, Option.map, sNil, cnd, h62]
  obtain ⟨s', h', e, p⟩ := sFor_inv (g := tgG (.nm 4)) (b := k1Turn fS fLm fMs fP fRes fLe) (P := fun _ s m => ∃ (o4' o5' o6' o7' : Option PV), s = [o0, o1, some (.ref D), some (.ref M), o4', o5', o6', o7'] ∧ DRx ns m D ∧ Kp D h m) hi ⟨o4, o5, o6, o7, rfl, d, Kp.refl⟩ fun i x s m hx ⟨a4, a5, a6, a7, es, dm, km⟩ => by
    subst es
    obtain ⟨h2, b5, b6, b7, e2, d2, k2⟩ := k1Turn_ok (K := K) (o0 := o0) (o1 := o1) (o4 := some x) (o5 := a5) (o6 := a6) (o7 := a7) k1 hK (km.lk.trans hl) dm (km.get _ _ hne hm) hne mo
    refine ⟨_, h2, ?_, some x, b5, b6, b7, rfl, d2, km.trans k2⟩
    simpa [sOf, tgG, gName] using e2
  obtain ⟨a4, a5, a6, a7, es, dm, km⟩ := p
  subst es
  exact ⟨h', a4, a5, a6, a7, e, km⟩
theorem rng_ok {j : Int} (h1 : 1 ≤ j) (h2 : j ≤ 16) : ∃ n, rng3 0 j 4 h = .ok (upto 0 4 n, []) h := by
  have : j = 1 ∨ j = 2 ∨ j = 3 ∨ j = 4 ∨ j = 5 ∨ j = 6 ∨ j = 7 ∨ j = 8 ∨ j = 9 ∨ j = 10 ∨ j = 11 ∨ j = 12 ∨ j = 13 ∨ j = 14 ∨ j = 15 ∨ j = 16 := by omega
  rcases this with z | z | z | z | z | z | z | z | z | z | z | z | z | z | z | z <;> subst z <;> exact ⟨_, rfl⟩
def mn (n : Int) : Int := cnd (ilt n 16) n 16
def mx (n : Int) : Int := cnd (ilt 1 n) n 1
theorem mn_le (n : Int) : mn n ≤ 16 := by
  unfold mn
  by_cases a : n < 16
  · rw [ilt_t a]; simp only [cnd_true]; omega
  · rw [ilt_f a]; simp only [cnd_false]; omega
theorem mx_bd {n : Int} (h : n ≤ 16) : 1 ≤ mx n ∧ mx n ≤ 16 := by
  unfold mx
  by_cases a : 1 < n
  · rw [ilt_t a]; simp only [cnd_true]; omega
  · rw [ilt_f a]; simp only [cnd_false]; omega
theorem k1_ok (k1 : K1 tab it lt fI fR fRs fPs fB fM fLn fPl fRo fPr fBx fCm fIs fCk fRf fMv fCa fEo fEs fMs fRes fC fD fN fX fP fMp fS fLm fHo fLe x1 x2 x3 x4 x5 x6 y1 y2) (hL : nthF tab fL = some ⟨1, 8, bK1 lt fRo fMp fS fLm fMs fP fRes fLe⟩) (hK : 6 ≤ K) (hl : h.locks = []) (hs : h.get 0 = some (.scr (ns.map PV.int))) :
    ∃ h', callD tab K fL [.ref 0] h = .ok (.bl true) h' := by
  obtain ⟨k, rfl⟩ : ∃ k, K = k + 1 := ⟨K - 1, by omega⟩
  rw [call_eq hL]
  obtain ⟨j1, j16⟩ := mx_bd (mn_le (ns.length : Int))
  obtain ⟨n, er⟩ := rng_ok (h := h) j1 j16
  have hi : k1Rng lt (callD tab k) [some (.ref 0), none, none, none, none, none, none, none] h = .ok (upto 0 4 n, []) h := by
    have a1 : eB gMin2 (aCons (eC (.int 16)) (aCons (eLen lt (eVar 0)) aNil)) (callD tab k) [some (.ref 0), none, none, none, none, none, none, none] h = .ok (.int (mn (ns.length : Int))) h := by
      unfold eB aCons aNil eC eLen eVar lenV
      simp [hs, gMin2, mn]
    have a2 : eB gMax2 (aCons (eC (.int 1)) (aCons (eB gMin2 (aCons (eC (.int 16)) (aCons (eLen lt (eVar 0)) aNil))) aNil)) (callD tab k) [some (.ref 0), none, none, none, none, none, none, none] h = .ok (.int (mx (mn (ns.length : Int)))) h := by
      generalize eB gMin2 (aCons (eC (.int 16)) (aCons (eLen lt (eVar 0)) aNil)) = q at *
      unfold eB aCons aNil eC
      simp [a1, gMax2, mx]
    have key : ∀ G2 : XE, G2 (callD tab k) [some (.ref 0), none, none, none, none, none, none, none] h = .ok (.int (mx (mn (ns.length : Int)))) h → iR3 (eC (.int 0)) G2 (eC (.int 4)) (callD tab k) [some (.ref 0), none, none, none, none, none, none, none] h = .ok (upto 0 4 n, []) h := fun G2 eg => by
      unfold iR3
      simp only [eC, Res.bind_ok]
      rw [eg]
      exact er
    exact key _ a2
  obtain ⟨s', h', e, p⟩ := sFor_inv (g := tgG (.nm 1)) (b := k1Out lt fRo fMp fS fLm fMs fP fRes fLe) (P := fun _ s m => ∃ (o1 o2 o3 o4 o5 o6 o7 : Option PV), s = [some (.ref 0), o1, o2, o3, o4, o5, o6, o7] ∧ m.get 0 = some (.scr (ns.map PV.int)) ∧ m.locks = []) hi ⟨none, none, none, none, none, none, none, rfl, hs, hl⟩ fun i x s m hx ⟨a1, a2, a3, a4, a5, a6, a7, es, ms, ml⟩ => by
    subst es
    have hlt : i < n := by
      cases Nat.lt_or_ge i n with
      | inl q => exact q
      | inr q => rw [List.getElem?_eq_none (by rw [upto_len]; exact q)] at hx; cases hx
    have ex : x = .int (0 + (i : Nat) * 4) := by
      rw [upto_get 0 4 n i hlt] at hx
      exact (Option.some.inj hx).symm
    subst ex
    have dd : DRx ns (m.push (.lst [.ref 0, .int (0 + (i : Nat) * 4), .int 0])) m.size := ⟨0 + (i : Nat) * 4, 0, Mem.get_push ms, Mem.get_push_new _ _, by unfold Mem.free; rw [Mem.locks_push, ml]; rfl, by omega, by omega⟩
    obtain ⟨h1, M, many, room, bear, qs, ps, e1, g1, mo, d1, k1', hM⟩ := map_ok (K := k) k1.L k1.W k1.Mp (by omega) (by rw [Mem.locks_push]; exact ml) dd (places := 4) (by omega)
    have hne : M ≠ m.size := by rw [Mem.size_push] at hM; omega
    have e2 := k1Len_ok (K := k) (o0 := some (.ref 0)) (o1 := some (.int (0 + (i : Nat) * 4))) (o2 := some (.ref m.size)) (o4 := a4) (o5 := a5) (o6 := a6) (o7 := a7) k1.Q k1.Ln k1.Lt (by omega) g1 mo.rd.seven
    obtain ⟨h2, b4, b5, b6, b7, e3, k3⟩ := k1In_ok (K := k) (o0 := some (.ref 0)) (o1 := some (.int (0 + (i : Nat) * 4))) (o4 := a4) (o5 := a5) (o6 := a6) (o7 := a7) k1 (by omega) (k1'.lk.trans (by rw [Mem.locks_push]; exact ml)) d1 g1 hne mo
    have f3 : ∀ a b c : PV, fits [a, b, c] = true := fun _ _ _ => rfl
    refine ⟨_, h2, ?_, some (.int (0 + (i : Nat) * 4)), some (.ref m.size), some (.ref M), b4, b5, b6, b7, rfl, ?_, ?_⟩
    · simp only [Int.zero_add] at e1 e2 e3 ⊢
      simp [k1Out, runFd, sSeq, sIf, sRet, sExpr, sAsg, sOf, endS, tE, tAnd, tOr, tNot, tYes, eCmp, eVar, eC, eBin, eLen, lenV, cmpop, ltV, icmp, eSub, subV, itemsOf, binop, addV, mulV, mapInt2, eB, gInt, gMax2, gMin2, aCons, aNil, eCall, tgG, gName, gUnp, setAll, eTup, eIf, eAnd, eOr, eNot, Res.bind, ofO, Option.map, sNil, cnd, eNew, lNew, f3, e1, e2, e3]
    · have z := Mem.get_lt ms
      exact k3.get _ _ (by omega) (k1'.get _ _ (by omega) (Mem.get_push ms))
    · rw [k3.lk, k1'.lk, Mem.locks_push]; exact ml
  obtain ⟨a1, a2, a3, a4, a5, a6, a7, es, ms, ml⟩ := p
  subst es
  refine ⟨h', ?_⟩
  have e' : (sFor (k1Rng lt) (tgG (.nm 1)) (k1Out lt fRo fMp fS fLm fMs fP fRes fLe)) (callD tab k) [some (.ref 0), none, none, none, none, none, none, none] h = _ := e
  have rp : ([some (PV.ref 0)] ++ List.replicate (8 - (0 + 1)) (none : Option PV)) = [some (.ref 0), none, none, none, none, none, none, none] := rfl
  have z : (Nat.beq (0 + 1) 1) = true := rfl
  unfold runFd bK1 sSeq
  simp only [List.length_cons, List.length_nil, List.map_cons, List.map_nil]
  simp only [z, cnd_true, rp]
  rw [e']
  rfl
end
end Ev
end

section
set_option Elab.async false
set_option linter.all false
set_option maxRecDepth 100000
/-! Ev: what a state is worth, in plain Lean. -/
namespace Ev
open PySem PySem.Spec PyProof.Rows L2

/-- a move's cost -/
def costV (ps : List PV) (p : Int) (mv : PV) : Int := match mv with
  | .tup [.int pc, .int _] => cnd (ieq pc 0) 0 (match ps[p.toNat]? with
    | some (.int c) => pc * c
    | _ => 0)
  | _ => 0
/-- a move's ends -/
def endsV (qs : List (List Int)) (bear i w l : Int) (mv : PV) : List PV := match mv with
  | .tup [.int pc, .int j] => match qs[j.toNat]? with
    | some [_, e, t, m] => (upto 0 1 (l + 1).toNat).map (endF e l bear t m (i + pc) w)
    | _ => []
  | _ => []
def moveV (c : Int) (vs : List PV) : PV := match intsOf vs with
  | some (i :: is) => .int (c + maxI i is)
  | _ => .non
def leastV (vs : List PV) : PV := match intsOf (vs.filter fun v => bnot (isNon v)) with
  | some (i :: is) => .int (minI i is)
  | _ => .non
/-- what a state is worth, so many steps deep -/
def Wv (many room bear : Int) (qs : List (List Int)) (ps : List PV) : Nat → PV → PV
  | 0, x => match x with
    | .tup [.int p, .int _, .int _, .int _] => cnd (ieq p (many - 1)) (.int 0) .non
    | _ => .non
  | n + 1, x => match x with
    | .tup [.int p, .int i, .int w, .int l] => cnd (ieq p (many - 1)) (.int 0) (leastV ((MV (RF qs p) (nPc ps room p i)).map fun mv => moveV (costV ps p mv) ((endsV qs bear i w l mv).map (Wv many room bear qs ps n))))
    | _ => .non
section
variable {many room bear : Int} {qs : List (List Int)} {ps : List PV}
def IN (x : PV) : Prop := x = .non ∨ ∃ i : Int, x = .int i
theorem IN.flat {x : PV} (h : IN x) : Flat x := h.elim .inl fun h => .inr (.inl h)
theorem moveV_in (c : Int) (vs : List PV) : IN (moveV c vs) := by
  unfold moveV
  split
  · exact .inr ⟨_, rfl⟩
  · exact .inl rfl
theorem leastV_in (vs : List PV) : IN (leastV vs) := by
  unfold leastV
  split
  · exact .inr ⟨_, rfl⟩
  · exact .inl rfl
theorem Wv_in : ∀ (n : Nat) (x : PV), IN (Wv many room bear qs ps n x)
  | 0, x => by
    unfold Wv
    split
    · cases ieq _ _ <;> first | exact .inr ⟨_, rfl⟩ | exact .inl rfl
    · exact .inl rfl
  | n + 1, x => by
    unfold Wv
    split
    · rename_i p _ _ _
      cases ieq p (many - 1)
      · exact leastV_in _
      · exact .inr ⟨_, rfl⟩
    · exact .inl rfl
theorem Wv_non (n : Nat) : Wv many room bear qs ps n .non = .non := by cases n <;> rfl
/-- where a move leads -/
structure MvAt (many room : Int) (qs : List (List Int)) (place ice : Int) (mv : PV) (pc j e t m : Int) : Prop where
  eq : mv = .tup [.int pc, .int j]
  c0 : 0 ≤ pc
  c1 : ice + pc ≤ room
  j0 : 0 ≤ j
  j1 : j < qs.length
  at_ : qs[j.toNat]? = some [place, e, t, m]
  lt : place < e
  lm : e < many
  t1 : 1 ≤ t
  t4 : t ≤ 4
theorem RF_at {place : Int} {x : PV} (hx : x ∈ RF qs place) : ∃ j : Int, x = .int j ∧ 0 ≤ j ∧ j < qs.length ∧ ∃ r, qs[j.toNat]? = some (place :: r) := by
  have key : ∀ (ls : List (List Int)) (k : Int) (x : PV), 0 ≤ k → x ∈ (pairsI k (ls.map tupI)).flatMap (FR place) → ∃ j : Int, x = .int j ∧ k ≤ j ∧ j < k + ls.length ∧ ∃ r, ls[(j - k).toNat]? = some (place :: r) := by
    intro ls
    induction ls with
    | nil => intro k x _ h; simp [pairsI] at h
    | cons q ls ih =>
      intro k x hk h
      have h : x ∈ FR place (.tup [.int k, tupI q]) ++ (pairsI (k + 1) (ls.map tupI)).flatMap (FR place) := h
      rcases List.mem_append.mp h with h | h
      · unfold FR at h
        simp only at h
        cases q with
        | nil => simp [tupI, fst4] at h
        | cons f r =>
          have e : fst4 (tupI (f :: r)) = some f := rfl
          rw [e] at h
          simp only at h
          cases ef : ieq f place with
          | false => rw [ef] at h; cases h
          | true =>
            rw [ef] at h
            have hx1 := List.mem_singleton.mp h
            have := ieq_iff.mp ef
            subst this
            exact ⟨k, hx1, Int.le_refl _, by simp; omega, r, by simp⟩
      · obtain ⟨j, e, h1, h2, r, hr⟩ := ih (k + 1) x (by omega) h
        refine ⟨j, e, by omega, by simp; omega, r, ?_⟩
        have e2 : (j - k).toNat = (j - (k + 1)).toNat + 1 := by omega
        rw [e2]
        simpa using hr
  obtain ⟨j, e, h1, h2, r, hr⟩ := key qs 0 x (Int.le_refl _) hx
  exact ⟨j, e, h1, by omega, r, by simpa using hr⟩
theorem mv_at (mo : MapOk many room bear qs ps) (so : StOk many room bear place ice warm late) {x : PV} (hx : x ∈ MV (RF qs place) (nPc ps room place ice)) : ∃ pc j e t m, MvAt many room qs place ice x pc j e t m := by
  obtain ⟨pc0, j0, e0, h1, h2, h3, h4⟩ := MV_move mo so hx
  obtain ⟨p, r, e1, h5, h6⟩ := MV_mem hx
  obtain ⟨j, rfl, k1, k2, r, hr⟩ := RF_at h6
  rw [e1] at e0
  have e0 : PV.tup [.int p, .int j] = PV.tup [.int pc0, .int j0] := e0
  injection e0 with e0
  injection e0 with q1 q2
  injection q1 with q1
  injection q2 with q2
  injection q2 with q2
  subst q2
  have hm := List.mem_of_getElem? hr
  obtain ⟨f, l, t, m, eq, a⟩ := mo.rd.ok _ hm
  cases eq
  exact ⟨pc0, j, l, t, m, by rw [e1, q1], h1, h2, k1, k2, hr, by omega, by omega, by omega, by omega⟩
/-- the ends of a move are states further on, or nothing -/
theorem endF_at {e l t m i w more : Int} (hm : many ≥ 2) (he : 0 ≤ e ∧ e < many) (hi : 0 ≤ i ∧ i ≤ room) (hw : 0 ≤ w) (ht : 0 ≤ t) (hmo : 0 ≤ more ∧ more ≤ l) (hl : l ≤ 4) (hmm : 0 ≤ m) :
    endF e l bear t m i w (.int more) = .non ∨ ∃ i' w' l', endF e l bear t m i w (.int more) = .tup [.int e, .int i', .int w', .int l'] ∧ StOk many room bear e i' w' l' := by
  have key : ∀ (n : Nat) (i w : Int), 0 ≤ i ∧ i ≤ room → 0 ≤ w → 0 ≤ (hrs m n (i, w)).1 ∧ (hrs m n (i, w)).1 ≤ room ∧ 0 ≤ (hrs m n (i, w)).2 := by
    intro n
    induction n with
    | zero => intro i w h1 h2; exact ⟨h1.1, h1.2, h2⟩
    | succ n ih =>
      intro i w h1 h2
      obtain ⟨q1, q2, q3⟩ := ih i w h1 h2
      show 0 ≤ (hstep m (hrs m n (i, w))).1 ∧ (hstep m (hrs m n (i, w))).1 ≤ room ∧ 0 ≤ (hstep m (hrs m n (i, w))).2
      generalize hrs m n (i, w) = q at *
      unfold hstep
      cases c : ile m q.1 with
      | true =>
        have hc : m ≤ q.1 := by rw [ile_eq] at c; exact of_decide_eq_true c
        refine ⟨?_, ?_, q3⟩
        · show 0 ≤ q.1 - m
          omega
        · show q.1 - m ≤ room
          omega
      | false => exact ⟨Int.le_refl _, by show (0 : Int) ≤ room; omega, by show 0 ≤ q.2 + 1; omega⟩
  obtain ⟨k1, k2, k3⟩ := key (t + more).toNat i w hi hw
  unfold endF endv
  simp only
  cases c : ile (hrs m (t + more).toNat (i, w)).2 bear with
  | false => exact .inl rfl
  | true =>
    have hc : (hrs m (t + more).toNat (i, w)).2 ≤ bear := by rw [ile_eq] at c; exact of_decide_eq_true c
    exact .inr ⟨_, _, _, rfl, he.1, he.2, k1, k2, k3, hc, by omega, by omega⟩
theorem ends_at (mo : MapOk many room bear qs ps) (so : StOk many room bear place ice warm late) {mv : PV} (a : MvAt many room qs place ice mv pc j e t m) {x : PV} (hx : x ∈ endsV qs bear ice warm late mv) :
    x = .non ∨ ∃ i' w' l', x = .tup [.int e, .int i', .int w', .int l'] ∧ StOk many room bear e i' w' l' := by
  have hm := List.mem_of_getElem? a.at_
  obtain ⟨f, l, t', m', eq, r1, r2, r3, r4, r5, r6, r7⟩ := mo.rd.ok _ hm
  cases eq
  rw [a.eq] at hx
  unfold endsV at hx
  simp only [a.at_] at hx
  obtain ⟨y, hy, rfl⟩ := List.mem_map.mp hx
  obtain ⟨k, hk⟩ := List.getElem?_of_mem hy
  obtain ⟨k1, rfl⟩ := upto_item hk
  have := so.l0
  have := so.l1
  have := so.i0
  have := so.w0
  have c0 := a.c0
  have c1 := a.c1
  exact endF_at (by have := mo.m2; omega) ⟨by omega, r3⟩ ⟨by omega, c1⟩ (by omega) (by omega) ⟨by omega, by omega⟩ (by omega) r6
/-- deeper looks tell the same -/
theorem Wv_stable (mo : MapOk many room bear qs ps) : ∀ (n : Nat) {p i w l : Int}, StOk many room bear p i w l → many - 1 - p ≤ n → Wv many room bear qs ps (n + 1) (.tup [.int p, .int i, .int w, .int l]) = Wv many room bear qs ps n (.tup [.int p, .int i, .int w, .int l])
  | 0, p, i, w, l, so, hn => by
    have := so.p1
    have e : p = many - 1 := by omega
    subst e
    unfold Wv
    simp only [ieq_t, cnd_true]
  | n + 1, p, i, w, l, so, hn => by
    show cnd (ieq p (many - 1)) (.int 0) (leastV ((MV (RF qs p) (nPc ps room p i)).map fun mv => moveV (costV ps p mv) ((endsV qs bear i w l mv).map (Wv many room bear qs ps (n + 1))))) =
      cnd (ieq p (many - 1)) (.int 0) (leastV ((MV (RF qs p) (nPc ps room p i)).map fun mv => moveV (costV ps p mv) ((endsV qs bear i w l mv).map (Wv many room bear qs ps n))))
    have e : ((MV (RF qs p) (nPc ps room p i)).map fun mv => moveV (costV ps p mv) ((endsV qs bear i w l mv).map (Wv many room bear qs ps (n + 1)))) = ((MV (RF qs p) (nPc ps room p i)).map fun mv => moveV (costV ps p mv) ((endsV qs bear i w l mv).map (Wv many room bear qs ps n))) := by
      refine List.map_congr_left fun mv hmv => ?_
      obtain ⟨pc, j, e, t, m, a⟩ := mv_at mo so hmv
      have e2 : (endsV qs bear i w l mv).map (Wv many room bear qs ps (n + 1)) = (endsV qs bear i w l mv).map (Wv many room bear qs ps n) := by
        refine List.map_congr_left fun x hx => ?_
        rcases ends_at mo so a hx with rfl | ⟨i', w', l', rfl, so'⟩
        · rw [Wv_non, Wv_non]
        · exact Wv_stable mo n so' (by have := a.lt; omega)
      rw [e2]
    rw [e]
abbrev W5 (many room bear : Int) (qs : List (List Int)) (ps : List PV) (x : PV) : PV := Wv many room bear qs ps 5 x
theorem W5_eq (mo : MapOk many room bear qs ps) {p i w l : Int} (so : StOk many room bear p i w l) (hp : p ≠ many - 1) :
    W5 many room bear qs ps (.tup [.int p, .int i, .int w, .int l]) = leastV ((MV (RF qs p) (nPc ps room p i)).map fun mv => moveV (costV ps p mv) ((endsV qs bear i w l mv).map (W5 many room bear qs ps))) := by
  have h := Wv_stable mo 5 so (by have := mo.m5; have := so.p0; omega)
  unfold W5
  rw [← h]
  show cnd (ieq p (many - 1)) (PV.int 0) _ = _
  rw [ieq_f hp]
  rfl
theorem W5_done {i w l : Int} : W5 many room bear qs ps (.tup [.int (many - 1), .int i, .int w, .int l]) = .int 0 := by
  show cnd (ieq (many - 1) (many - 1)) (PV.int 0) _ = _
  rw [ieq_t]
  rfl
end
end Ev
end

section
set_option Elab.async false
set_option linter.all false
set_option maxRecDepth 100000
/-! Ev: a solver's memory; comprehensions whose bodies write. -/
namespace Ev
open PySem PySem.Spec PyProof.Rows L2

/-! ### what the solver has found -/
abbrev Ms := List (List Int × PV)
def kv (q : List Int × PV) : PV × PV := (tupI q.1, q.2)
def lkM (k : List Int) : Ms → Option PV
  | [] => none
  | (j, v) :: r => if j = k then some v else lkM k r
def putM (k : List Int) (v : PV) : Ms → Ms
  | [] => [(k, v)]
  | (j, u) :: r => if j = k then (j, v) :: r else (j, u) :: putM k v r
theorem keyG_ints (n : Nat) : ∀ k : List Int, keyG (keyE (n + 1)) (k.map PV.int) = some (k.map NestedKey.num)
  | [] => rfl
  | i :: k => by
    show (match keyE (n + 1) (.int i) with
      | none => none
      | some d => match keyG (keyE (n + 1)) (k.map PV.int) with
        | none => none
        | some ds => some (d :: ds)) = _
    rw [keyG_ints n k]
    rfl
theorem keyN_ints (k : List Int) : keyN (tupI k) = some (.tup (k.map NestedKey.num)) := by
  show (match keyG (keyE 7) (k.map PV.int) with
    | some ks => some (NestedKey.tup ks)
    | none => none) = _
  rw [keyG_ints 6 k]
theorem nums_inj : ∀ {a b : List Int}, a.map NestedKey.num = b.map NestedKey.num → a = b
  | [], [], _ => rfl
  | [], _ :: _, h => by simp at h
  | _ :: _, [], h => by simp at h
  | a :: x, b :: y, h => by
    rw [List.map_cons, List.map_cons] at h
    injection h with h1 h2
    injection h1 with h1
    rw [h1, nums_inj h2]
theorem tkeyEq_ints (a b : List Int) : tkeyEq (tupI a) (tupI b) = decide (a = b) := by
  rw [tkeyEq_iff (keyN_ints a) (keyN_ints b)]
  by_cases h : a = b
  · simp [h]
  · rw [decide_eq_false h]
    refine decide_eq_false fun z => h ?_
    injection z with z
    exact nums_inj z
theorem isTKey_ints (k : List Int) : isTKey (tupI k) = true := by unfold isTKey; rw [keyN_ints]
theorem dlook_ms (k : List Int) : ∀ ms : Ms, dlook (tupI k) (ms.map kv) = lkM k ms
  | [] => rfl
  | (j, v) :: r => by
    show (match tkeyEq (tupI j) (tupI k) with | true => some v | false => dlook (tupI k) (r.map kv)) = if j = k then some v else lkM k r
    rw [tkeyEq_ints, dlook_ms k r]
    by_cases h : j = k
    · rw [decide_eq_true h, if_pos h]
    · rw [decide_eq_false h, if_neg h]
theorem dput_ms (k : List Int) (v : PV) : ∀ ms : Ms, dput (tupI k) v (ms.map kv) = (putM k v ms).map kv
  | [] => rfl
  | (j, u) :: r => by
    show (match tkeyEq (tupI j) (tupI k) with | true => (tupI j, v) :: r.map kv | false => (tupI j, u) :: dput (tupI k) v (r.map kv)) = (if j = k then (j, v) :: r else (j, u) :: putM k v r).map kv
    rw [tkeyEq_ints, dput_ms k v r]
    by_cases h : j = k
    · rw [decide_eq_true h, if_pos h]; rfl
    · rw [decide_eq_false h, if_neg h]; rfl
theorem putM_mem {k : List Int} {v : PV} : ∀ {ms : Ms} {q : List Int × PV}, q ∈ putM k v ms → q = (k, v) ∨ q ∈ ms
  | [], q, h => .inl (by simpa [putM] using h)
  | (j, u) :: r, q, h => by
    unfold putM at h
    split at h
    · rename_i e
      subst e
      rcases List.mem_cons.mp h with z | z
      · exact .inl z
      · exact .inr (List.mem_cons_of_mem _ z)
    · rcases List.mem_cons.mp h with z | z
      · exact .inr (List.mem_cons.mpr (.inl z))
      · rcases putM_mem z with z | z
        · exact .inl z
        · exact .inr (List.mem_cons_of_mem _ z)
theorem putM_keys {k : List Int} {v : PV} : ∀ {ms : Ms}, (ms.map (·.1)).Nodup → ((putM k v ms).map (·.1)).Nodup
  | [], _ => by simp [putM]
  | (j, u) :: r, h => by
    rw [List.map_cons, List.nodup_cons] at h
    unfold putM
    split
    · rw [List.map_cons, List.nodup_cons]
      exact h
    · rename_i ne
      rw [List.map_cons, List.nodup_cons]
      refine ⟨fun z => ?_, putM_keys h.2⟩
      obtain ⟨q, hq, e⟩ := List.mem_map.mp z
      rcases putM_mem hq with rfl | hq
      · exact ne e.symm
      · exact h.1 (by rw [← e]; exact List.mem_map_of_mem hq)
theorem putM_look {k : List Int} {v : PV} : ∀ {ms : Ms}, lkM k (putM k v ms) = some v
  | [] => by simp [putM, lkM]
  | (j, u) :: r => by
    unfold putM
    split
    · rename_i e
      simp [lkM, e]
    · rename_i e
      simp [lkM, e, putM_look (ms := r)]
theorem lkM_mem {k : List Int} {v : PV} : ∀ {ms : Ms}, lkM k ms = some v → (k, v) ∈ ms
  | [], h => by cases h
  | (j, u) :: r, h => by
    unfold lkM at h
    split at h
    · rename_i e
      cases h
      rw [e]
      exact List.mem_cons_self
    · exact List.mem_cons_of_mem _ (lkM_mem h)
/-- so many different numbers below n -/
theorem nodup_le : ∀ (n : Nat) (l : List Nat), l.Nodup → (∀ x ∈ l, x < n) → l.length ≤ n
  | 0, [], _, _ => Nat.le_refl _
  | 0, x :: l, _, h => absurd (h x List.mem_cons_self) (Nat.not_lt_zero _)
  | n + 1, l, hn, h => by
    have h1 : (l.erase n).length ≤ n := by
      refine nodup_le n _ (hn.erase n) fun x hx => ?_
      have h2 := (hn.mem_erase_iff).mp hx
      have := h x h2.2
      have := h2.1
      omega
    have h2 := List.length_erase (a := n) (l := l)
    by_cases q : n ∈ l
    · rw [if_pos q] at h2
      omega
    · rw [if_neg q] at h2
      omega
def code4 : List Int → Nat
  | [p, i, w, l] => (((p * 7 + i) * 3 + w) * 5 + l).toNat
  | _ => 0
section
variable {many room bear : Int} {qs : List (List Int)} {ps : List PV}
/-- all that was found is right -/
structure MemoOk (many room bear : Int) (qs : List (List Int)) (ps : List PV) (ms : Ms) : Prop where
  nd : (ms.map (·.1)).Nodup
  ok : ∀ q ∈ ms, ∃ p i w l, q.1 = [p, i, w, l] ∧ StOk many room bear p i w l ∧ q.2 = W5 many room bear qs ps (tupI q.1)
theorem memo_nil : MemoOk many room bear qs ps [] := ⟨List.nodup_nil, fun q h => by cases h⟩
theorem memo_put {ms : Ms} {p i w l : Int} (h : MemoOk many room bear qs ps ms) (so : StOk many room bear p i w l) : MemoOk many room bear qs ps (putM [p, i, w, l] (W5 many room bear qs ps (tupI [p, i, w, l])) ms) :=
  ⟨putM_keys h.nd, fun q hq => by
    rcases putM_mem hq with rfl | hq
    · exact ⟨p, i, w, l, rfl, so, rfl⟩
    · exact h.ok q hq⟩
theorem memo_len {ms : Ms} (mo : MapOk many room bear qs ps) (h : MemoOk many room bear qs ps ms) : ms.length ≤ 525 := by
  have m5 := mo.m5
  have r6 := mo.r6
  have b2 := mo.b2
  have hb : ∀ q ∈ ms, code4 q.1 < 525 := fun q hq => by
    obtain ⟨p, i, w, l, e, so, _⟩ := h.ok q hq
    rw [e]
    obtain ⟨p0, p1, i0, i1, w0, w1, l0, l1⟩ := so
    show (((p * 7 + i) * 3 + w) * 5 + l).toNat < 525
    omega
  have hn : ((ms.map (·.1)).map code4).Nodup := by
    have key : ∀ l : Ms, (∀ q ∈ l, q ∈ ms) → (l.map (·.1)).Nodup → ((l.map (·.1)).map code4).Nodup := by
      intro l
      induction l with
      | nil => intro _ _; exact List.nodup_nil
      | cons q l ih =>
        intro hs hd
        rw [List.map_cons, List.nodup_cons] at hd
        rw [List.map_cons, List.map_cons, List.nodup_cons]
        refine ⟨fun z => ?_, ih (fun x hx => hs x (List.mem_cons_of_mem _ hx)) hd.2⟩
        obtain ⟨k, hk, e⟩ := List.mem_map.mp z
        obtain ⟨q', hq', rfl⟩ := List.mem_map.mp hk
        obtain ⟨p, i, w, l', e1, so, _⟩ := h.ok q (hs q List.mem_cons_self)
        obtain ⟨p', i', w', l'', e2, so', _⟩ := h.ok q' (hs q' (List.mem_cons_of_mem _ hq'))
        obtain ⟨p0, p1, i0, i1, w0, w1, l0, l1⟩ := so
        obtain ⟨p0', p1', i0', i1', w0', w1', l0', l1'⟩ := so'
        rw [e1, e2] at e
        have e : (((p' * 7 + i') * 3 + w') * 5 + l'').toNat = (((p * 7 + i) * 3 + w) * 5 + l').toNat := e
        have a1 : l'' = l' := by omega
        have a2 : w' = w := by omega
        have a3 : i' = i := by omega
        have a4 : p' = p := by omega
        exact hd.1 (by rw [e1, ← a1, ← a2, ← a3, ← a4, ← e2]; exact List.mem_map_of_mem hq')
    exact key ms (fun q h => h) h.nd
  have := nodup_le 525 _ hn fun x hx => by
    obtain ⟨k, hk, rfl⟩ := List.mem_map.mp hx
    obtain ⟨q, hq, rfl⟩ := List.mem_map.mp hk
    exact hb q hq
  simpa using this
end

/-! ### comprehensions whose bodies write -/
theorem lC1_kp {C : Calls} {s : Env} {h h1 : Mem} {own : List Nat} {i : XI} {g : Tg} {t : XT} {e : XE} {xs : List PV} {ls : List Nat} {F : PV → List PV} {Q : Mem → Prop} (hi : i C s h = .ok (xs, ls) h1)
    (q : Q (h1.lock ls)) (hf : ∀ x ∈ xs, ∀ m, Q m → ∃ m', turn1 C (lC1.wipeV s own) g t e x m = .ok (F x) m' ∧ Q m') (hz : fits (xs.flatMap F) = true) :
    ∃ h', lC1 own i g t e C s h = .ok (xs.flatMap F) (h'.unlock ls) ∧ Q h' := by
  obtain ⟨h', e1, q1⟩ := loopL_kp (f := fun x m => turn1 C (lC1.wipeV s own) g t e x m) (F := F) (Q := Q) (xs := xs) (h := h1.lock ls) hf q
  refine ⟨h', ?_, q1⟩
  unfold lC1
  rw [hi]
  simp only [Res.bind_ok]
  have e2 : turns (tgG g) t C (lC1.wipeV s own) (fun s' h => (e C s' h).bind fun y h' => .ok [y] h') xs (h1.lock ls) = .ok (xs.flatMap F) h' := e1
  rw [e2]
  simp only [noErr, Res.bind_ok, hz, cnd_true]
theorem flat_single {α β : Type} (f : α → β) : ∀ xs : List α, (xs.flatMap fun x => [f x]) = xs.map f
  | [] => rfl
  | x :: xs => by rw [List.flatMap_cons, flat_single f xs]; rfl
end Ev
end

section
set_option Elab.async false
set_option linter.all false
set_option maxRecDepth 100000
/-! Ev: a solver at work. -/
namespace Ev
open PySem PySem.Spec PyProof.Rows L2

def bDn : XS := (sRet (eCmp .eq (eSub (eVar 1) (eC (.int 0))) (eBin .sub (eFld [(0, .slot 2)] (eVar 0)) (eC (.int 1)))))
def bCo : XS := (sRet (eIf (tE (eCmp .eq (eSub (eVar 2) (eC (.int 0))) (eC (.int 0)))) (eC (.int 0)) (eBin .mul (eSub (eVar 2) (eC (.int 0))) (eSub (eFld [(0, .slot 3)] (eVar 0)) (eVar 1)))))
def bSi : XS := (sSeq (sSlot [(1, 0)] (eVar 0) (eVar 1)) (sSlot [(1, 1)] (eVar 0) eDic0))
def bWo (fDn fLs : Nat) : XS := (sSeq (sIf (tE (eCmp .notin (eVar 1) (eFld [(1, .slot 1)] (eVar 0)))) (sSetI (eFld [(1, .slot 1)] (eVar 0)) (eVar 1) (eIf (tE (eCall fDn (aCons (eFld [(1, .slot 0)] (eVar 0)) (aCons (eVar 1) aNil)))) (eC (.int 0)) (eMeth [(1, fLs)] (eVar 0) (aCons (eVar 1) aNil)))) sNil) (sRet (eSub (eFld [(1, .slot 1)] (eVar 0)) (eVar 1))))
def lsComp (fMv fBm : Nat) : XA := (lC1 [4] (iAny (eCall fMv (aCons (eFld [(1, .slot 0)] (eVar 0)) (aCons (eVar 1) aNil)))) (.nm 4) tYes (eMeth [(1, fBm)] (eVar 0) (aCons (eVar 1) (aCons (eVar 4) aNil))))
def lsAble : XA := (lC1 [5] (iAny (eVar 2)) (.nm 5) (tE (eCmp .isnot (eVar 5) (eC .non))) (eVar 5))
def lsRet : XS := (sRet (eIf (tE (eCmp .ne (eVar 3) (eNew (lNew aNil)))) (eB gMinL (lOf (eVar 3))) (eC .non)))
def bLs (fMv fBm : Nat) : XS := (sSeq (sAsg (eNew (lsComp fMv fBm)) (tgG (.nm 2))) (sSeq (sAsg (eNew lsAble) (tgG (.nm 3))) lsRet))
def bmComp (fEs fWo : Nat) : XA := (lC1 [4] (iAny (eCall fEs (aCons (eFld [(1, .slot 0)] (eVar 0)) (aCons (eVar 1) (aCons (eVar 2) aNil))))) (.nm 4) tYes (eIf (tE (eCmp .is_ (eVar 4) (eC .non))) (eC .non) (eMeth [(1, fWo)] (eVar 0) (aCons (eVar 4) aNil))))
def bmRet (fCo : Nat) : XS := (sRet (eIf (tE (eCmp .in_ (eC .non) (eVar 3))) (eC .non) (eBin .add (eCall fCo (aCons (eFld [(1, .slot 0)] (eVar 0)) (aCons (eSub (eVar 1) (eC (.int 0))) (aCons (eVar 2) aNil)))) (eB gMaxL (lOf (eVar 3))))))
def bBm (fEs fWo fCo : Nat) : XS := (sSeq (sAsg (eNew (bmComp fEs fWo)) (tgG (.nm 3))) (bmRet fCo))
/-- the defs of a solver -/
structure SolW (tab : List Fd) (fRf fDn fMv fCo fCa fEo fEs fSi fWo fLs fBm : Nat) : Prop where
  Rf : nthF tab fRf = some ⟨2, 4, bRf⟩
  Dn : nthF tab fDn = some ⟨2, 2, bDn⟩
  Mv : nthF tab fMv = some ⟨2, 5, bMv fRf⟩
  Co : nthF tab fCo = some ⟨3, 3, bCo⟩
  Ca : nthF tab fCa = some ⟨4, 7, bCa⟩
  Eo : nthF tab fEo = some ⟨4, 13, bEo fCa⟩
  Es : nthF tab fEs = some ⟨3, 4, bEs fEo⟩
  Si : nthF tab fSi = some ⟨2, 2, bSi⟩
  Wo : nthF tab fWo = some ⟨2, 2, bWo fDn fLs⟩
  Ls : nthF tab fLs = some ⟨2, 6, bLs fMv fBm⟩
  Bm : nthF tab fBm = some ⟨3, 5, bBm fEs fWo fCo⟩
/-- a solver in the memory -/
structure Sv (many room bear : Int) (qs : List (List Int)) (ps : List PV) (M S w : Nat) (h : Mem) (ms : Ms) : Prop where
  s : h.get S = some (.ins 1 [some (.ref M), some (.ref w)])
  d : h.get w = some (.dic (ms.map kv))
  m : h.get M = some (mapOb many room bear qs ps)
  f : w ∉ h.locks
  ok : MemoOk many room bear qs ps ms
/-- and what comes of it: all but its dict is kept -/
def SvQ (many room bear : Int) (qs : List (List Int)) (ps : List PV) (M S w : Nat) (h0 h : Mem) : Prop := ∃ ms, Sv many room bear qs ps M S w h ms ∧ Kp w h0 h
section
variable {tab : List Fd} {fRf fDn fMv fCo fCa fEo fEs fSi fWo fLs fBm K M S w : Nat} {h h' : Mem} {many room bear p i u l pc j e t m : Int} {qs : List (List Int)} {ps : List PV} {ms : Ms}
theorem Sv.kq (v : Sv many room bear qs ps M S w h ms) (k : Kq h h') : Sv many room bear qs ps M S w h' ms :=
  ⟨k.get _ _ v.s, k.get _ _ v.d, k.get _ _ v.m, by rw [k.lk]; exact v.f, v.ok⟩
theorem Sv.lock (v : Sv many room bear qs ps M S w h ms) {r : Nat} (ne : w ≠ r) : Sv many room bear qs ps M S w (h.lock [r]) ms :=
  ⟨v.s, v.d, v.m, fun z => by
    rcases List.mem_append.mp z with z | z
    · exact ne (List.mem_singleton.mp z)
    · exact v.f z, v.ok⟩
theorem Sv.unlock (v : Sv many room bear qs ps M S w h ms) {r : Nat} : Sv many room bear qs ps M S w (h.unlock [r]) ms :=
  ⟨v.s, v.d, v.m, fun z => v.f (List.mem_of_mem_drop z), v.ok⟩
theorem Sv.nw (v : Sv many room bear qs ps M S w h ms) : S ≠ w ∧ M ≠ w := by
  refine ⟨fun e => ?_, fun e => ?_⟩
  · have := v.s
    rw [e, v.d] at this
    cases this
  · have := v.m
    rw [e, v.d] at this
    cases this
theorem kp_unlock {D r : Nat} {h1 h2 : Mem} (k : Kp D (h1.lock [r]) h2) : Kp D h1 (h2.unlock [r]) :=
  ⟨k.sz, by rw [Mem.locks_unlock, k.lk]; rfl, k.ld, k.get⟩
/-! ### small pieces -/
theorem dn_ok (hD : nthF tab fDn = some ⟨2, 2, bDn⟩) (hK : 1 ≤ K) (hm : h.get M = some (mapOb many room bear qs ps)) : callD tab K fDn [.ref M, .tup [.int p, .int i, .int u, .int l]] h = .ok (.bl (ieq p (many - 1))) h := by
  obtain ⟨k, rfl⟩ : ∃ k, K = k + 1 := ⟨K - 1, by omega⟩
  rw [call_eq hD]
  have hmr : h.get M = some (.ins 0 [some (.tup [.int room, .int bear]), some (.tup (qs.map tupI)), some (.int many), some (.tup ps)]) := hm
  have x0 : ixN 4 0 = some 0 := rfl
  simp [bDn, runFd, sSeq, sIf, sRet, sExpr, sAsg, sOf, endS, tE, tAnd, tOr, tNot, tYes, eCmp, eVar, eC, eBin, eLen, lenV, cmpop, ltV, icmp, eSub, subV, itemsOf, binop, addV, mulV, mapInt2, eB, gInt, gMax2, gMin2, aCons, aNil, eCall, tgG, gName, gUnp, setAll, eTup, eIf, eAnd, eOr, eNot, Res.bind, ofO, Option.map, sNil, cnd, eFld, fldV, lookC, hmr, x0, eqv_int]
theorem co_ok (hC : nthF tab fCo = some ⟨3, 3, bCo⟩) (hK : 1 ≤ K) (hm : h.get M = some (mapOb many room bear qs ps)) (mo : MapOk many room bear qs ps) (hp : 0 ≤ p ∧ p < many) (hc : 0 ≤ pc ∧ pc < 100) (pr : pc = 0 ∨ ∃ c : Int, ps[p.toNat]? = some (.int c)) :
    callD tab K fCo [.ref M, .int p, .tup [.int pc, .int j]] h = .ok (.int (costV ps p (.tup [.int pc, .int j]))) h := by
  obtain ⟨k, rfl⟩ : ∃ k, K = k + 1 := ⟨K - 1, by omega⟩
  rw [call_eq hC]
  have hmr : h.get M = some (.ins 0 [some (.tup [.int room, .int bear]), some (.tup (qs.map tupI)), some (.int many), some (.tup ps)]) := hm
  have x0 : ixN 2 0 = some 0 := rfl
  by_cases q : pc = 0
  · subst q
    simp [bCo, runFd, sSeq, sIf, sRet, sExpr, sAsg, sOf, endS, tE, tAnd, tOr, tNot, tYes, eCmp, eVar, eC, eBin, eLen, lenV, cmpop, ltV, icmp, eSub, subV, itemsOf, binop, addV, mulV, mapInt2, eB, gInt, gMax2, gMin2, aCons, aNil, eCall, tgG, gName, gUnp, setAll, eTup, eIf, eAnd, eOr, eNot, Res.bind, ofO, Option.map, sNil, cnd, costV, x0, eqv_int, ieq_t]
  · rcases pr with z | ⟨c, hc2⟩
    · exact absurd z q
    · obtain ⟨x, hx, hix⟩ := price_at mo.pl hp
      have l1 : lt64 pc = true := lt64_iff.mpr ⟨by omega, by omega⟩
      simp [bCo, runFd, sSeq, sIf, sRet, sExpr, sAsg, sOf, endS, tE, tAnd, tOr, tNot, tYes, eCmp, eVar, eC, eBin, eLen, lenV, cmpop, ltV, icmp, eSub, subV, itemsOf, binop, addV, mulV, mapInt2, eB, gInt, gMax2, gMin2, aCons, aNil, eCall, tgG, gName, gUnp, setAll, eTup, eIf, eAnd, eOr, eNot, Res.bind, ofO, Option.map, sNil, cnd, costV, x0, eqv_int, ieq_f q, eFld, fldV, lookC, hmr, hix, hc2, l1]
theorem price_mv (hx : .tup [.int pc, .int j] ∈ MV (RF qs p) (nPc ps room p i)) (mo : MapOk many room bear qs ps) (hp : 0 ≤ p ∧ p < many) : pc = 0 ∨ ∃ c : Int, ps[p.toNat]? = some (.int c) := by
  obtain ⟨n, r, e1, h5, h6⟩ := MV_mem hx
  injection e1 with e1
  injection e1 with q1 q2
  injection q1 with q1
  obtain ⟨x, hx, hix⟩ := price_at mo.pl hp
  rcases mo.pr x (List.mem_of_getElem? hx) with rfl | ⟨c, rfl, _, _⟩
  · left
    unfold nPc at h5
    rw [hx] at h5
    simp only at h5
    omega
  · exact .inr ⟨c, hx⟩
/-- None in a list of ints and Nones -/
theorem in_non {xs : List PV} {r : Nat} (hg : h.get r = some (.lst xs)) (f : ∀ x ∈ xs, IN x) : inV h .non (.ref r) = some (xs.any isNon) := by
  show (match h.get r with
    | some (.lst xs) => inL h .non xs
    | some (.dic kvs) => inD .non kvs
    | _ => none) = _
  rw [hg]
  simp only
  unfold inL
  have ff : ∀ x ∈ xs, Flat x := fun x hx => (f x hx).flat
  rw [flat_d (n := 6) (x := .non) (.inl rfl)]
  simp only
  rw [flat_go (n := 5) ff]
  simp only
  rw [list_shaped ff]
  have e : SeqAt.shaped (dOf .non) = true := by rfl
  rw [e]
  simp only [cnd_true]
  congr 1
  have key : ∀ l : List PV, (∀ x ∈ l, IN x) → (l.map dOf).any (fun z => PyData.eqv z (dOf .non)) = l.any isNon := by
    intro l
    induction l with
    | nil => intro _; rfl
    | cons x l ih =>
      intro hl
      rw [List.map_cons, List.any_cons, List.any_cons, ih fun y hy => hl y (List.mem_cons_of_mem _ hy)]
      rcases hl x List.mem_cons_self with rfl | ⟨i, rfl⟩ <;> rfl
  exact key xs f
theorem ints_any {xs : List PV} (f : ∀ x ∈ xs, IN x) : (xs.any isNon = true ∧ intsOf xs = none) ∨ (xs.any isNon = false ∧ ∃ is, intsOf xs = some is ∧ is.length = xs.length) := by
  induction xs with
  | nil => exact .inr ⟨rfl, [], rfl, rfl⟩
  | cons x xs ih =>
    rcases f x List.mem_cons_self with rfl | ⟨i, rfl⟩
    · exact .inl ⟨rfl, rfl⟩
    · rcases ih fun y hy => f y (List.mem_cons_of_mem _ hy) with ⟨h1, h2⟩ | ⟨h1, is, h2, h3⟩
      · refine .inl ⟨by rw [List.any_cons, h1]; rfl, ?_⟩
        show (match intsOf xs with
          | some is => some (i :: is)
          | none => none) = none
        rw [h2]
      · refine .inr ⟨by rw [List.any_cons, h1]; rfl, i :: is, ?_, by simp [h3]⟩
        show (match intsOf xs with
          | some is => some (i :: is)
          | none => none) = _
        rw [h2]
theorem ends_len {mv : PV} (a : MvAt many room qs p i mv pc j e t m) (hl : 0 ≤ l ∧ l ≤ 4) : 1 ≤ (endsV qs bear i u l mv).length ∧ (endsV qs bear i u l mv).length ≤ 5 := by
  rw [a.eq]
  unfold endsV
  simp only [a.at_, List.length_map, upto_len]
  omega
/-! ### by one move -/
theorem bmv_ok (W : SolW tab fRf fDn fMv fCo fCa fEo fEs fSi fWo fLs fBm) (hK : 4 ≤ K) (mo : MapOk many room bear qs ps) (so : StOk many room bear p i u l) {mv : PV} (hmv : mv ∈ MV (RF qs p) (nPc ps room p i))
    (hw : ∀ (h : Mem) (ms : Ms) (p' i' u' l' : Int), Sv many room bear qs ps M S w h ms → StOk many room bear p' i' u' l' → p < p' → ∃ h', callD tab K fWo [.ref S, .tup [.int p', .int i', .int u', .int l']] h = .ok (W5 many room bear qs ps (.tup [.int p', .int i', .int u', .int l'])) h' ∧ SvQ many room bear qs ps M S w h h')
    (v : Sv many room bear qs ps M S w h ms) : ∃ h', callD tab (K + 1) fBm [.ref S, .tup [.int p, .int i, .int u, .int l], mv] h = .ok (moveV (costV ps p mv) ((endsV qs bear i u l mv).map (W5 many room bear qs ps))) h' ∧ SvQ many room bear qs ps M S w h h' := by
  obtain ⟨pc, j, e, t, m, a⟩ := mv_at mo so hmv
  have ea := a.eq
  subst ea
  have x4 : ixN 4 0 = some 0 := rfl
  have hix : ixN qs.length j = some j.toNat := by
    obtain ⟨_, _, _, _, z, _⟩ := road_at (many := many) ⟨a.j0, a.j1⟩ mo.rd.ok
    exact z
  have ee := es_ok (K := K) (h := h) (place := p) (ice := i) (warm := u) (late := l) W.Ca W.Eo W.Es (by omega) v.m a.at_ hix ⟨a.t1, a.t4⟩ ⟨so.l0, so.l1⟩ a.c1
  have exs : endsV qs bear i u l (.tup [.int pc, .int j]) = (upto 0 1 (l + 1).toNat).map (endF e l bear t m (i + pc) u) := by
    unfold endsV
    simp only [a.at_]
  rw [← exs] at ee
  obtain ⟨n1, n5⟩ := ends_len (bear := bear) (u := u) (l := l) a ⟨so.l0, so.l1⟩
  have hends := fun x (hx : x ∈ endsV qs bear i u l (.tup [.int pc, .int j])) => ends_at mo so a hx
  generalize hxs : endsV qs bear i u l (.tup [.int pc, .int j]) = xs at *
  have k0 : Kq h (h.push (.lst xs)) := Kq.push
  have v1 := v.kq k0
  have hne : w ≠ h.size := fun z => by
    have := Mem.get_lt v.d
    omega
  have hS1 := v1.s
  have g1 : (h.push (.lst xs)).get h.size = some (.lst xs) := Mem.get_push_new _ _
  obtain ⟨h2, e2, ms2, v2, k2⟩ := lC1_kp (C := callD tab K) (s := [some (.ref S), some (.tup [.int p, .int i, .int u, .int l]), some (.tup [.int pc, .int j]), none, none]) (h := h) (h1 := h.push (.lst xs)) (own := [4]) (i := iAny (eCall fEs (aCons (eFld [(1, .slot 0)] (eVar 0)) (aCons (eVar 1) (aCons (eVar 2) aNil)))))
    (g := .nm 4) (t := tYes) (e := eIf (tE (eCmp .is_ (eVar 4) (eC .non))) (eC .non) (eMeth [(1, fWo)] (eVar 0) (aCons (eVar 4) aNil))) (xs := xs) (ls := [h.size]) (F := fun x => [W5 many room bear qs ps x]) (Q := SvQ many room bear qs ps M S w ((h.push (.lst xs)).lock [h.size]))
    (by
      have hs := v.s
      simp [iAny, runFd, sSeq, sIf, sRet, sExpr, sAsg, sOf, endS, tE, tAnd, tOr, tNot, tYes, eCmp, eVar, eC, eBin, eLen, lenV, cmpop, ltV, icmp, eSub, subV, itemsOf, binop, addV, mulV, mapInt2, eB, gInt, gMax2, gMin2, aCons, aNil, eCall, tgG, gName, gUnp, setAll, eTup, eIf, eAnd, eOr, eNot, Res.bind, ofO, Option.map, sNil, cnd, eFld, fldV, lookC, hs, ee, g1]) ⟨ms, v1.lock hne, Kp.refl⟩ (fun x hx m1 ⟨msx, vx, kx⟩ => by
      have hs := vx.s
      rcases hends x hx with rfl | ⟨i', u', l', rfl, so'⟩
      · exact ⟨m1, by simp [turn1, runFd, sSeq, sIf, sRet, sExpr, sAsg, sOf, endS, tE, tAnd, tOr, tNot, tYes, eCmp, eVar, eC, eBin, eLen, lenV, cmpop, ltV, icmp, eSub, subV, itemsOf, binop, addV, mulV, mapInt2, eB, gInt, gMax2, gMin2, aCons, aNil, eCall, tgG, gName, gUnp, setAll, eTup, eIf, eAnd, eOr, eNot, Res.bind, ofO, Option.map, sNil, cnd, lC1.wipeV, isV, isNon, Wv_non], msx, vx, kx⟩
      · obtain ⟨m2, em, msy, vy, ky⟩ := hw m1 msx e i' u' l' vx so' a.lt
        exact ⟨m2, by simp [turn1, runFd, sSeq, sIf, sRet, sExpr, sAsg, sOf, endS, tE, tAnd, tOr, tNot, tYes, eCmp, eVar, eC, eBin, eLen, lenV, cmpop, ltV, icmp, eSub, subV, itemsOf, binop, addV, mulV, mapInt2, eB, gInt, gMax2, gMin2, aCons, aNil, eCall, tgG, gName, gUnp, setAll, eTup, eIf, eAnd, eOr, eNot, Res.bind, ofO, Option.map, sNil, cnd, lC1.wipeV, isV, isNon, eMeth, methF, lookC, hs, em], msy, vy, kx.trans ky⟩)
    (by rw [flat_single]; exact fits_small (by rw [List.length_map]; omega))
  rw [flat_single] at e2
  have hz : fits (xs.map (W5 many room bear qs ps)) = true := fits_small (by rw [List.length_map]; omega)
  have hin : ∀ y ∈ xs.map (W5 many room bear qs ps), IN y := fun y hy => by
    obtain ⟨x, _, rfl⟩ := List.mem_map.mp hy
    exact Wv_in 5 x
  generalize hys : xs.map (W5 many room bear qs ps) = ys at *
  have hyl : ys.length = xs.length := by rw [← hys, List.length_map]
  have v3 := v2.unlock (r := h.size)
  have k3 := kp_unlock k2
  generalize h2.unlock [h.size] = h3 at *
  have k4 : Kq h3 (h3.push (.lst ys)) := Kq.push
  have v4 := v3.kq k4
  have g4 : (h3.push (.lst ys)).get h3.size = some (.lst ys) := Mem.get_push_new _ _
  have hfin : SvQ many room bear qs ps M S w h (h3.push (.lst ys)) := ⟨ms2, v4, k0.kp.trans (k3.trans k4.kp)⟩
  have hi := in_non g4 hin
  have hc := co_ok (K := K) (p := p) (j := j) W.Co (by omega) v4.m mo ⟨so.p0, so.p1⟩ ⟨a.c0, by have := a.c1; have := so.i0; have := mo.r6; omega⟩ (price_mv hmv mo ⟨so.p0, so.p1⟩)
  have hs4 := v4.s
  refine ⟨_, ?_, hfin⟩
  rw [call_eq W.Bm]
  have ec : bmComp fEs fWo (callD tab K) [some (.ref S), some (.tup [.int p, .int i, .int u, .int l]), some (.tup [.int pc, .int j]), none, none] h = .ok ys h3 := e2
  rcases ints_any hin with ⟨q1, q2⟩ | ⟨q1, is, q2, q3⟩
  · rw [q1] at hi
    simp [bBm, bmRet, runFd, sSeq, sIf, sRet, sExpr, sAsg, sOf, endS, tE, tAnd, tOr, tNot, tYes, eCmp, eVar, eC, eBin, eLen, lenV, cmpop, ltV, icmp, eSub, subV, itemsOf, binop, addV, mulV, mapInt2, eB, gInt, gMax2, gMin2, aCons, aNil, eCall, tgG, gName, gUnp, setAll, eTup, eIf, eAnd, eOr, eNot, Res.bind, ofO, Option.map, sNil, cnd, eNew, ec, hz, hi, moveV, q2]
  · rw [q1] at hi
    cases is with
    | nil => simp only [List.length_nil] at q3; omega
    | cons c is =>
      simp [bBm, bmRet, runFd, sSeq, sIf, sRet, sExpr, sAsg, sOf, endS, tE, tAnd, tOr, tNot, tYes, eCmp, eVar, eC, eBin, eLen, lenV, cmpop, ltV, icmp, eSub, subV, itemsOf, binop, addV, mulV, mapInt2, eB, gInt, gMax2, gMin2, aCons, aNil, eCall, tgG, gName, gUnp, setAll, eTup, eIf, eAnd, eOr, eNot, Res.bind, ofO, Option.map, sNil, cnd, eNew, ec, hz, hi, moveV, q2, eFld, fldV, lookC, hs4, x4, hc, lOf, listsOf, g4, gMaxL]
end
end Ev
end

section
set_option Elab.async false
set_option linter.all false
set_option maxRecDepth 100000
/-! Ev: what a solver tells. -/
namespace Ev
open PySem PySem.Spec PyProof.Rows L2

section
variable {tab : List Fd} {fRf fDn fMv fCo fCa fEo fEs fSi fWo fLs fBm K M S w : Nat} {h h' : Mem} {many room bear p i u l pc j e t m : Int} {qs : List (List Int)} {ps : List PV} {ms : Ms}
theorem eqv_cons {a b : Nat} {x : PV} {xs : List PV} (ha : h.get a = some (.lst (x :: xs))) (hb : h.get b = some (.lst [])) (f : ∀ y ∈ x :: xs, Flat y) : eqv h (.ref a) (.ref b) = some false := by
  have d1 : toD h 8 (.ref a) = some (.list ((x :: xs).map dOf)) := by
    show (match h.get a with
      | some (.lst xs) => (toD.go (toD h 7) xs).map PyData.list
      | some (.scr xs) => (toD.go (toD h 7) xs).map PyData.list
      | _ => none) = _
    rw [ha]
    simp only
    rw [flat_go (n := 5) f]
    rfl
  have d2 : toD h 8 (.ref b) = some (.list []) := by
    show (match h.get b with
      | some (.lst xs) => (toD.go (toD h 7) xs).map PyData.list
      | some (.scr xs) => (toD.go (toD h 7) xs).map PyData.list
      | _ => none) = _
    rw [hb]
    rfl
  unfold eqv
  rw [d1, d2]
  simp only
  rw [list_shaped f]
  rfl
theorem flat_filter : ∀ xs : List PV, (xs.flatMap fun v => cnd (bnot (isNon v)) [v] []) = xs.filter fun v => bnot (isNon v)
  | [] => rfl
  | x :: xs => by
    rw [List.flatMap_cons, flat_filter xs, List.filter_cons]
    cases bnot (isNon x) <;> rfl
theorem filter_ints {xs : List PV} (f : ∀ x ∈ xs, IN x) : ∃ is, intsOf (xs.filter fun v => bnot (isNon v)) = some is ∧ is.length = (xs.filter fun v => bnot (isNon v)).length := by
  have hf : ∀ x ∈ xs.filter fun v => bnot (isNon v), IN x := fun x hx => f x (List.mem_filter.mp hx).1
  rcases ints_any hf with ⟨q1, q2⟩ | ⟨q1, is, q2, q3⟩
  · exfalso
    obtain ⟨x, hx, hn⟩ := List.any_eq_true.mp q1
    have := (List.mem_filter.mp hx).2
    rw [hn] at this
    cases this
  · exact ⟨is, q2, q3⟩
/-! ### the least -/
theorem ls_ok (W : SolW tab fRf fDn fMv fCo fCa fEo fEs fSi fWo fLs fBm) (hK : 4 ≤ K) (mo : MapOk many room bear qs ps) (so : StOk many room bear p i u l)
    (hw : ∀ (h : Mem) (ms : Ms) (p' i' u' l' : Int), Sv many room bear qs ps M S w h ms → StOk many room bear p' i' u' l' → p < p' → ∃ h', callD tab K fWo [.ref S, .tup [.int p', .int i', .int u', .int l']] h = .ok (W5 many room bear qs ps (.tup [.int p', .int i', .int u', .int l'])) h' ∧ SvQ many room bear qs ps M S w h h')
    (v : Sv many room bear qs ps M S w h ms) : ∃ h', callD tab (K + 2) fLs [.ref S, .tup [.int p, .int i, .int u, .int l]] h =
      .ok (leastV ((MV (RF qs p) (nPc ps room p i)).map fun mv => moveV (costV ps p mv) ((endsV qs bear i u l mv).map (W5 many room bear qs ps)))) h' ∧ SvQ many room bear qs ps M S w h h' := by
  obtain ⟨h1, r, e1, g1, k1, hr⟩ := mv_ok (K := K + 1) (h := h) W.Rf W.Mv (by omega) v.m mo so
  have hlen : (MV (RF qs p) (nPc ps room p i)).length ≤ 70 := MV_len (by have := RF_len qs p; have := mo.rd.seven; omega) (nPc_le mo.r6 so.i0)
  have hmem : ∀ mv ∈ MV (RF qs p) (nPc ps room p i), mv ∈ MV (RF qs p) (nPc ps room p i) := fun _ h => h
  have v1 := v.kq k1
  have hne : w ≠ r := fun z => by
    have := Mem.get_lt v.d
    omega
  have hs := v.s
  obtain ⟨h2, e2, ms2, v2, k2⟩ := lC1_kp (C := callD tab (K + 1)) (s := [some (.ref S), some (.tup [.int p, .int i, .int u, .int l]), none, none, none, none]) (h := h) (h1 := h1) (own := [4]) (i := iAny (eCall fMv (aCons (eFld [(1, .slot 0)] (eVar 0)) (aCons (eVar 1) aNil))))
    (g := .nm 4) (t := tYes) (e := eMeth [(1, fBm)] (eVar 0) (aCons (eVar 1) (aCons (eVar 4) aNil))) (xs := MV (RF qs p) (nPc ps room p i)) (ls := [r]) (F := fun mv => [moveV (costV ps p mv) ((endsV qs bear i u l mv).map (W5 many room bear qs ps))]) (Q := SvQ many room bear qs ps M S w (h1.lock [r]))
    (by simp [iAny, runFd, sSeq, sIf, sRet, sExpr, sAsg, sOf, endS, tE, tAnd, tOr, tNot, tYes, eCmp, eVar, eC, eBin, eLen, lenV, cmpop, ltV, icmp, eSub, subV, itemsOf, binop, addV, mulV, mapInt2, eB, gInt, gMax2, gMin2, aCons, aNil, eCall, tgG, gName, gUnp, setAll, eTup, eIf, eAnd, eOr, eNot, Res.bind, ofO, Option.map, sNil, cnd, eFld, fldV, lookC, hs, e1, g1]) ⟨ms, v1.lock hne, Kp.refl⟩ (fun x hx m1 ⟨msx, vx, kx⟩ => by
      have hsx := vx.s
      obtain ⟨m2, em, msy, vy, ky⟩ := bmv_ok W hK mo so hx hw vx
      exact ⟨m2, by simp [turn1, runFd, sSeq, sIf, sRet, sExpr, sAsg, sOf, endS, tE, tAnd, tOr, tNot, tYes, eCmp, eVar, eC, eBin, eLen, lenV, cmpop, ltV, icmp, eSub, subV, itemsOf, binop, addV, mulV, mapInt2, eB, gInt, gMax2, gMin2, aCons, aNil, eCall, tgG, gName, gUnp, setAll, eTup, eIf, eAnd, eOr, eNot, Res.bind, ofO, Option.map, sNil, cnd, lC1.wipeV, eMeth, methF, lookC, hsx, em], msy, vy, kx.trans ky⟩)
    (by rw [flat_single]; exact fits_small (by rw [List.length_map]; omega))
  rw [flat_single] at e2
  have hyl : ((MV (RF qs p) (nPc ps room p i)).map fun mv => moveV (costV ps p mv) ((endsV qs bear i u l mv).map (W5 many room bear qs ps))).length ≤ 70 := by rw [List.length_map]; omega
  have hin : ∀ y ∈ (MV (RF qs p) (nPc ps room p i)).map fun mv => moveV (costV ps p mv) ((endsV qs bear i u l mv).map (W5 many room bear qs ps)), IN y := fun y hy => by
    obtain ⟨x, _, rfl⟩ := List.mem_map.mp hy
    exact moveV_in _ _
  generalize ((MV (RF qs p) (nPc ps room p i)).map fun mv => moveV (costV ps p mv) ((endsV qs bear i u l mv).map (W5 many room bear qs ps))) = ys at *
  have hz : fits ys = true := fits_small (by omega)
  have v3 := v2.unlock (r := r)
  have k3 := kp_unlock k2
  generalize h2.unlock [r] = h3 at *
  have k4 : Kq h3 (h3.push (.lst ys)) := Kq.push
  have g4 : (h3.push (.lst ys)).get h3.size = some (.lst ys) := Mem.get_push_new _ _
  have v4 := v3.kq k4
  have s4 : (h3.push (.lst ys)).size = h3.size + 1 := rfl
  generalize hh4 : h3.push (.lst ys) = h4 at *
  have hz2 : (ys.filter fun v => bnot (isNon v)).length ≤ 70 := Nat.le_trans (List.length_filter_le _ _) (by omega)
  have e5 := lC1_pure (C := callD tab (K + 1)) (h := h4) (s := [some (.ref S), some (.tup [.int p, .int i, .int u, .int l]), some (.ref h3.size), none, none, none]) (own := [5]) (i := iAny (eVar 2)) (g := .nm 5) (t := tE (eCmp .isnot (eVar 5) (eC .non))) (e := eVar 5) (xs := ys) (ls := [h3.size])
    (F := fun v => cnd (bnot (isNon v)) [v] []) (by simp [iAny, runFd, sSeq, sIf, sRet, sExpr, sAsg, sOf, endS, tE, tAnd, tOr, tNot, tYes, eCmp, eVar, eC, eBin, eLen, lenV, cmpop, ltV, icmp, eSub, subV, itemsOf, binop, addV, mulV, mapInt2, eB, gInt, gMax2, gMin2, aCons, aNil, eCall, tgG, gName, gUnp, setAll, eTup, eIf, eAnd, eOr, eNot, Res.bind, ofO, Option.map, sNil, cnd, g4]) (fun x hx => by
      rcases hin x hx with rfl | ⟨q, rfl⟩
      · simp [turn1, runFd, sSeq, sIf, sRet, sExpr, sAsg, sOf, endS, tE, tAnd, tOr, tNot, tYes, eCmp, eVar, eC, eBin, eLen, lenV, cmpop, ltV, icmp, eSub, subV, itemsOf, binop, addV, mulV, mapInt2, eB, gInt, gMax2, gMin2, aCons, aNil, eCall, tgG, gName, gUnp, setAll, eTup, eIf, eAnd, eOr, eNot, Res.bind, ofO, Option.map, sNil, cnd, lC1.wipeV, isV, isNon, onot, bnot]
      · simp [turn1, runFd, sSeq, sIf, sRet, sExpr, sAsg, sOf, endS, tE, tAnd, tOr, tNot, tYes, eCmp, eVar, eC, eBin, eLen, lenV, cmpop, ltV, icmp, eSub, subV, itemsOf, binop, addV, mulV, mapInt2, eB, gInt, gMax2, gMin2, aCons, aNil, eCall, tgG, gName, gUnp, setAll, eTup, eIf, eAnd, eOr, eNot, Res.bind, ofO, Option.map, sNil, cnd, lC1.wipeV, isV, isNon, onot, bnot]) (by rw [flat_filter]; exact fits_small (by omega))
  rw [flat_filter] at e5
  have hz3 : fits (ys.filter fun v => bnot (isNon v)) = true := fits_small (by omega)
  have hfi : ∀ y ∈ ys.filter fun v => bnot (isNon v), IN y := fun y hy => hin y (List.mem_filter.mp hy).1
  obtain ⟨is, ei, il⟩ := filter_ints hin
  have hlv : leastV ys = (match intsOf (ys.filter fun v => bnot (isNon v)) with
    | some (i :: is) => .int (minI i is)
    | _ => .non) := rfl
  generalize hzs : (ys.filter fun v => bnot (isNon v)) = zs at *
  have k5 : Kq h4 (h4.push (.lst zs)) := Kq.push
  have g5 : (h4.push (.lst zs)).get h4.size = some (.lst zs) := Mem.get_push_new _ _
  have v5 := v4.kq k5
  have s5 : (h4.push (.lst zs)).size = h4.size + 1 := rfl
  generalize hh5 : h4.push (.lst zs) = h5 at *
  have k6 : Kq h5 (h5.push (.lst [])) := Kq.push
  have g6 : (h5.push (.lst [])).get h5.size = some (.lst []) := Mem.get_push_new _ _
  have g6' := k6.get _ _ g5
  have v6 := v5.kq k6
  have f0 : fits ([] : List PV) = true := rfl
  have hfin : SvQ many room bear qs ps M S w h (h5.push (.lst [])) := ⟨ms2, v6, k1.kp.trans (k3.trans (k4.kp.trans (k5.kp.trans k6.kp)))⟩
  generalize hh6 : h5.push (.lst []) = h6 at *
  refine ⟨h6, ?_, hfin⟩
  rw [call_eq W.Ls]
  have ec : lsComp fMv fBm (callD tab (K + 1)) [some (.ref S), some (.tup [.int p, .int i, .int u, .int l]), none, none, none, none] h = .ok ys h3 := e2
  have ec2 : lsAble (callD tab (K + 1)) [some (.ref S), some (.tup [.int p, .int i, .int u, .int l]), some (.ref h3.size), none, none, none] h4 = .ok zs h4 := e5
  cases zs with
  | nil =>
    have q := eqv_same g6' g6 (fun x hx => by cases hx)
    rw [hlv]
    simp [bLs, lsRet, runFd, sSeq, sIf, sRet, sExpr, sAsg, sOf, endS, tE, tAnd, tOr, tNot, tYes, eCmp, eVar, eC, eBin, eLen, lenV, cmpop, ltV, icmp, eSub, subV, itemsOf, binop, addV, mulV, mapInt2, eB, gInt, gMax2, gMin2, aCons, aNil, eCall, tgG, gName, gUnp, setAll, eTup, eIf, eAnd, eOr, eNot, Res.bind, ofO, Option.map, sNil, cnd, eNew, lNew, ec, hz, hh4, ec2, hz3, hh5, hh6, f0, q, onot, intsOf]
  | cons z zs =>
    have q := eqv_cons g6' g6 (fun x hx => (hfi x hx).flat)
    cases is with
    | nil => simp only [List.length_nil, List.length_cons] at il; omega
    | cons c is =>
      rw [hlv, ei]
      simp [bLs, lsRet, runFd, sSeq, sIf, sRet, sExpr, sAsg, sOf, endS, tE, tAnd, tOr, tNot, tYes, eCmp, eVar, eC, eBin, eLen, lenV, cmpop, ltV, icmp, eSub, subV, itemsOf, binop, addV, mulV, mapInt2, eB, gInt, gMax2, gMin2, aCons, aNil, eCall, tgG, gName, gUnp, setAll, eTup, eIf, eAnd, eOr, eNot, Res.bind, ofO, Option.map, sNil, cnd, eNew, lNew, ec, hz, hh4, ec2, hz3, hh5, hh6, f0, q, onot, lOf, listsOf, g6', gMinL, ei]
theorem wo_fin (W : SolW tab fRf fDn fMv fCo fCa fEo fEs fSi fWo fLs fBm) (mo : MapOk many room bear qs ps) (so : StOk many room bear p i u l) (v : Sv many room bear qs ps M S w h ms)
    (hv : ∃ h2, (eIf (tE (eCall fDn (aCons (eFld [(1, .slot 0)] (eVar 0)) (aCons (eVar 1) aNil)))) (eC (.int 0)) (eMeth [(1, fLs)] (eVar 0) (aCons (eVar 1) aNil))) (callD tab K) [some (.ref S), some (.tup [.int p, .int i, .int u, .int l])] h = .ok (W5 many room bear qs ps (.tup [.int p, .int i, .int u, .int l])) h2 ∧ SvQ many room bear qs ps M S w h h2) :
    ∃ h', callD tab (K + 1) fWo [.ref S, .tup [.int p, .int i, .int u, .int l]] h = .ok (W5 many room bear qs ps (.tup [.int p, .int i, .int u, .int l])) h' ∧ SvQ many room bear qs ps M S w h h' := by
  have hs := v.s
  have hd := v.d
  have ek : PV.tup [.int p, .int i, .int u, .int l] = tupI [p, i, u, l] := rfl
  have hin : inV h (.tup [.int p, .int i, .int u, .int l]) (.ref w) = some (match lkM [p, i, u, l] ms with | some _ => true | none => false) := by
    show (match h.get w with
      | some (.lst xs) => inL h (.tup [.int p, .int i, .int u, .int l]) xs
      | some (.dic kvs) => inD (.tup [.int p, .int i, .int u, .int l]) kvs
      | _ => none) = _
    rw [hd]
    show cnd (isTKey (tupI [p, i, u, l])) (some (match dlook (tupI [p, i, u, l]) (ms.map kv) with | some _ => true | none => false)) none = _
    rw [isTKey_ints, dlook_ms]
    rfl
  cases hl : lkM [p, i, u, l] ms with
  | some x =>
    rw [hl] at hin
    obtain ⟨p', i', u', l', e1, _, e2⟩ := v.ok.ok _ (lkM_mem hl)
    have e2 : x = W5 many room bear qs ps (tupI [p, i, u, l]) := e2
    have hsub : subV (.ref w) (.tup [.int p, .int i, .int u, .int l]) h = some x := by
      show (match h.get w with
        | some (.dic kvs) => cnd (isTKey (tupI [p, i, u, l])) (dlook (tupI [p, i, u, l]) kvs) none
        | _ => none) = _
      rw [hd]
      simp only
      rw [isTKey_ints, dlook_ms, hl]
      rfl
    refine ⟨h, ?_, ms, v, Kp.refl⟩
    rw [call_eq W.Wo, ek, ← e2]
    have hin' : inV h (tupI [p, i, u, l]) (.ref w) = some true := hin
    have hsub' : subV (.ref w) (tupI [p, i, u, l]) h = some x := hsub
    generalize tupI [p, i, u, l] = K0 at *
    simp [bWo, runFd, sSeq, sIf, sRet, sOf, tE, eCmp, eVar, eFld, fldV, lookC, hs, cmpop, hin', onot, bnot, sNil, eSub, hsub', Res.bind, ofO, Option.map, cnd]
  | none =>
    rw [hl] at hin
    obtain ⟨h2, e2, ms2, v2, k2⟩ := hv
    have hd2 := v2.d
    have hs2 := v2.s
    have hfit : fits (ms2.map kv) = true := fits_small (by have := memo_len mo v2.ok; rw [List.length_map]; omega)
    have hfree : h2.free w = true := Mem.free_iff.mpr v2.f
    have hput : dput (tupI [p, i, u, l]) (W5 many room bear qs ps (tupI [p, i, u, l])) (ms2.map kv) = (putM [p, i, u, l] (W5 many room bear qs ps (tupI [p, i, u, l])) ms2).map kv := dput_ms _ _ _
    have hwl := Mem.get_lt hd2
    have hd3 : (h2.set w (.dic ((putM [p, i, u, l] (W5 many room bear qs ps (tupI [p, i, u, l])) ms2).map kv))).get w = some (.dic ((putM [p, i, u, l] (W5 many room bear qs ps (tupI [p, i, u, l])) ms2).map kv)) := Mem.get_set_same _ hwl
    have hs3 : (h2.set w (.dic ((putM [p, i, u, l] (W5 many room bear qs ps (tupI [p, i, u, l])) ms2).map kv))).get S = some (.ins 1 [some (.ref M), some (.ref w)]) := by rw [Mem.get_set_ne _ v2.nw.1]; exact hs2
    have hm3 : (h2.set w (.dic ((putM [p, i, u, l] (W5 many room bear qs ps (tupI [p, i, u, l])) ms2).map kv))).get M = some (mapOb many room bear qs ps) := by rw [Mem.get_set_ne _ v2.nw.2]; exact v2.m
    have k3 : Kp w h (h2.set w (.dic ((putM [p, i, u, l] (W5 many room bear qs ps (tupI [p, i, u, l])) ms2).map kv))) := k2.trans ⟨Nat.le_refl _, rfl, rfl, fun n o ne e => by rw [Mem.get_set_ne _ ne]; exact e⟩
    have hok := memo_put v2.ok so
    have hf3 : w ∉ (h2.set w (.dic ((putM [p, i, u, l] (W5 many room bear qs ps (tupI [p, i, u, l])) ms2).map kv))).locks := v2.f
    generalize hms3 : putM [p, i, u, l] (W5 many room bear qs ps (tupI [p, i, u, l])) ms2 = ms3 at *
    generalize hh3 : h2.set w (.dic (ms3.map kv)) = h3 at *
    have hl3 : lkM [p, i, u, l] ms3 = some (W5 many room bear qs ps (tupI [p, i, u, l])) := by rw [← hms3]; exact putM_look
    have hsub' : subV (.ref w) (tupI [p, i, u, l]) h3 = some (W5 many room bear qs ps (tupI [p, i, u, l])) := by
      show (match h3.get w with
        | some (.dic kvs) => cnd (isTKey (tupI [p, i, u, l])) (dlook (tupI [p, i, u, l]) kvs) none
        | _ => none) = _
      rw [hd3]
      simp only
      rw [isTKey_ints, dlook_ms, hl3]
      rfl
    refine ⟨h3, ?_, ms3, ⟨hs3, hd3, hm3, hf3, hok⟩, k3⟩
    rw [call_eq W.Wo]
    have hin' : inV h (.tup [.int p, .int i, .int u, .int l]) (.ref w) = some false := hin
    have hsub2 : subV (.ref w) (.tup [.int p, .int i, .int u, .int l]) h3 = some (W5 many room bear qs ps (.tup [.int p, .int i, .int u, .int l])) := hsub'
    have hkk : isTKey (.tup [.int p, .int i, .int u, .int l]) = true := isTKey_ints [p, i, u, l]
    have hput2 : dput (.tup [.int p, .int i, .int u, .int l]) (W5 many room bear qs ps (.tup [.int p, .int i, .int u, .int l])) (ms2.map kv) = ms3.map kv := hput
    have hset : sSetI (eFld [(1, .slot 1)] (eVar 0)) (eVar 1) (eIf (tE (eCall fDn (aCons (eFld [(1, .slot 0)] (eVar 0)) (aCons (eVar 1) aNil)))) (eC (.int 0)) (eMeth [(1, fLs)] (eVar 0) (aCons (eVar 1) aNil))) (callD tab K) [some (.ref S), some (.tup [.int p, .int i, .int u, .int l])] h = .nx [some (.ref S), some (.tup [.int p, .int i, .int u, .int l])] h3 := by
      unfold sSetI
      rw [e2]
      simp only [sOf_ok]
      simp [eFld, fldV, eVar, Res.bind, lookC, hs2, hd2, hkk, hfit, hfree, hput2, hh3]
    have hfin : (sRet (eSub (eFld [(1, .slot 1)] (eVar 0)) (eVar 1))) (callD tab K) [some (.ref S), some (.tup [.int p, .int i, .int u, .int l])] h3 = .rt (W5 many room bear qs ps (.tup [.int p, .int i, .int u, .int l])) h3 := by
      simp [sRet, eSub, eFld, fldV, eVar, Res.bind, lookC, hs3, hsub2, ofO]
    have htest : (tE (eCmp .notin (eVar 1) (eFld [(1, .slot 1)] (eVar 0)))) (callD tab K) [some (.ref S), some (.tup [.int p, .int i, .int u, .int l])] h = .ok true h := by
      simp [tE, eCmp, eVar, eFld, fldV, Res.bind, lookC, hs, cmpop, hin', onot, bnot, ofO]
    simp only [runFd, bWo, sSeq, sIf]
    simp only [List.length_cons, List.length_nil, List.map_cons, List.map_nil, Nat.sub_self, List.replicate_zero, List.append_nil]
    rw [htest]
    simp only [sOf_ok]
    rw [hset]
    simp only
    rw [hfin]
    rfl
/-! ### what a state is worth -/
theorem wo_ok (W : SolW tab fRf fDn fMv fCo fCa fEo fEs fSi fWo fLs fBm) (mo : MapOk many room bear qs ps) : ∀ (n K : Nat) (h : Mem) (ms : Ms) (p i u l : Int), 3 * n + 8 ≤ K → Sv many room bear qs ps M S w h ms → StOk many room bear p i u l → many - 1 - p ≤ n →
    ∃ h', callD tab K fWo [.ref S, .tup [.int p, .int i, .int u, .int l]] h = .ok (W5 many room bear qs ps (.tup [.int p, .int i, .int u, .int l])) h' ∧ SvQ many room bear qs ps M S w h h' := by
  intro n
  induction n with
  | zero =>
    intro K h ms p i u l hK v so hn
    obtain ⟨k, rfl⟩ : ∃ k, K = k + 1 := ⟨K - 1, by omega⟩
    have e : p = many - 1 := by have := so.p1; omega
    have hd := dn_ok (K := k) (h := h) (p := p) (i := i) (u := u) (l := l) W.Dn (by omega) v.m
    rw [e, ieq_t] at hd
    rw [← e] at hd
    have hv : ∃ h2, (eIf (tE (eCall fDn (aCons (eFld [(1, .slot 0)] (eVar 0)) (aCons (eVar 1) aNil)))) (eC (.int 0)) (eMeth [(1, fLs)] (eVar 0) (aCons (eVar 1) aNil))) (callD tab k) [some (.ref S), some (.tup [.int p, .int i, .int u, .int l])] h = .ok (W5 many room bear qs ps (.tup [.int p, .int i, .int u, .int l])) h2 ∧ SvQ many room bear qs ps M S w h h2 := by
      have hs := v.s
      refine ⟨h, ?_, ms, v, Kp.refl⟩
      have hw5 : W5 many room bear qs ps (.tup [.int p, .int i, .int u, .int l]) = .int 0 := by rw [e]; exact W5_done
      simp only [hw5]
      simp [runFd, sSeq, sIf, sRet, sExpr, sAsg, sOf, endS, tE, tAnd, tOr, tNot, tYes, eCmp, eVar, eC, eBin, eLen, lenV, cmpop, ltV, icmp, eSub, subV, itemsOf, binop, addV, mulV, mapInt2, eB, gInt, gMax2, gMin2, aCons, aNil, eCall, tgG, gName, gUnp, setAll, eTup, eIf, eAnd, eOr, eNot, Res.bind, ofO, Option.map, sNil, cnd, eFld, fldV, lookC, hs, hd]
    exact wo_fin W mo so v hv
  | succ n ih =>
    intro K h ms p i u l hK v so hn
    obtain ⟨k, rfl⟩ : ∃ k, K = k + 3 := ⟨K - 3, by omega⟩
    by_cases e : p = many - 1
    · have := ih (k + 3) h ms p i u l (by omega) v so (by omega)
      exact this
    · have hd := dn_ok (K := k + 2) (h := h) (p := p) (i := i) (u := u) (l := l) W.Dn (by omega) v.m
      rw [ieq_f e] at hd
      obtain ⟨h2, e2, q2⟩ := ls_ok (K := k) W (by omega) mo so (fun h ms p' i' u' l' v' so' hp' => ih k h ms p' i' u' l' (by omega) v' so' (by omega)) v
      rw [← W5_eq mo so e] at e2
      have hv : ∃ h2, (eIf (tE (eCall fDn (aCons (eFld [(1, .slot 0)] (eVar 0)) (aCons (eVar 1) aNil)))) (eC (.int 0)) (eMeth [(1, fLs)] (eVar 0) (aCons (eVar 1) aNil))) (callD tab (k + 2)) [some (.ref S), some (.tup [.int p, .int i, .int u, .int l])] h = .ok (W5 many room bear qs ps (.tup [.int p, .int i, .int u, .int l])) h2 ∧ SvQ many room bear qs ps M S w h h2 := by
        have hs := v.s
        refine ⟨h2, ?_, q2⟩
        simp [runFd, sSeq, sIf, sRet, sExpr, sAsg, sOf, endS, tE, tAnd, tOr, tNot, tYes, eCmp, eVar, eC, eBin, eLen, lenV, cmpop, ltV, icmp, eSub, subV, itemsOf, binop, addV, mulV, mapInt2, eB, gInt, gMax2, gMin2, aCons, aNil, eCall, tgG, gName, gUnp, setAll, eTup, eIf, eAnd, eOr, eNot, Res.bind, ofO, Option.map, sNil, cnd, eFld, fldV, lookC, hs, hd, eMeth, methF, e2]
      exact wo_fin W mo so v hv
end
end Ev
end

section
set_option Elab.async false
set_option linter.all false
set_option maxRecDepth 100000
/-! Ev: prices by latenesses and by rooms. -/
namespace Ev
open PySem PySem.Spec PyProof.Rows L2

def bCf (fWo fSi : Nat) : XS := (sRet (eMeth [(1, fWo)] (eMake 1 fSi 2 (aCons (eVar 0) aNil)) (aCons (eVar 1) aNil)))
def bSc (fCk fCf : Nat) : XS := (sSeq (sExpr (eCall fCk (aCons (eVar 0) (aCons (eVar 1) aNil)))) (sRet (eCall fCf (aCons (eVar 0) (aCons (eVar 1) aNil)))))
def bPo (fCf : Nat) : XS := (sRet (eCall fCf (aCons (eVar 0) (aCons (eTup (aCons (eC (.int 0)) (aCons (eC (.int 0)) (aCons (eC (.int 0)) (aCons (eVar 1) aNil))))) aNil))))
def lpComp (fPo : Nat) : XA := (lC1 [1] (iR1 (eBin .add (eC (.int 4)) (eC (.int 1)))) (.nm 1) tYes (eCall fPo (aCons (eVar 0) (aCons (eVar 1) aNil))))
def bLp (fCm fPo : Nat) : XS := (sSeq (sExpr (eCall fCm (aCons (eVar 0) aNil))) (sRet (eNew (lpComp fPo))))
def lrBody : XS := (sSeq (sAsg (eIf (tE (eCmp .lt (eVar 3) (eC (.int 4)))) (eSub (eVar 1) (eBin .add (eVar 3) (eC (.int 1)))) (eC .non)) (tgG (.nm 5))) (sIf (tAnd (tE (eCmp .isnot (eVar 4) (eC .non))) (tOr (tE (eCmp .is_ (eVar 5) (eC .non))) (tE (eCmp .gt (eVar 5) (eVar 4))))) (sExpr (eApp (eVar 2) (eTup (aCons (eVar 3) (aCons (eVar 4) aNil))))) sNil))
def lrFor : XS := (sFor (iEnum (iOf (eVar 1))) (tgG (.un [3, 4])) lrBody)
def bLr (fCm fLp : Nat) : XS := (sSeq (sExpr (eCall fCm (aCons (eVar 0) aNil))) (sSeq (sAsg (eCall fLp (aCons (eVar 0) aNil)) (tgG (.nm 1))) (sSeq (sAsg (eNew (lNew aNil)) (tgG (.nm 2))) (sSeq lrFor (sRet (eVar 2))))))
def rpMaps (fM : Nat) : XA := (lC1 [3] (iR2 (eC (.int 1)) (eBin .add (eC (.int 6)) (eC (.int 1)))) (.nm 3) tYes (eMake 0 fM 4 (aCons (eFld [(0, .slot 2)] (eVar 0)) (aCons (eFld [(0, .slot 1)] (eVar 0)) (aCons (eFld [(0, .slot 3)] (eVar 0)) (aCons (eTup (aCons (eVar 3) (aCons (eSub (eFld [(0, .slot 0)] (eVar 0)) (eC (.int 1))) aNil))) aNil))))))
def rpComp (fPo : Nat) : XA := (lC1 [4] (iAny (eVar 2)) (.nm 4) tYes (eCall fPo (aCons (eVar 4) (aCons (eVar 1) aNil))))
def bRp (fCm fCl fM fPo : Nat) : XS := (sSeq (sExpr (eCall fCm (aCons (eVar 0) aNil))) (sSeq (sExpr (eCall fCl (aCons (eVar 1) aNil))) (sSeq (sAsg (eNew (rpMaps fM)) (tgG (.nm 2))) (sRet (eNew (rpComp fPo))))))
def bCl (x : XS) (fI : Nat) : XS := (sIf (tNot (tE (eCall fI (aCons (eVar 0) (aCons (eC (.int 0)) (aCons (eC (.int 4)) aNil)))))) x sNil)
/-- the defs of prices -/
structure PW3 (tab : List Fd) (fI fCm fCk fSi fWo fM fCf fSc fPo fLp fLr fRp fCl : Nat) (z : XS) : Prop where
  Cf : nthF tab fCf = some ⟨2, 2, bCf fWo fSi⟩
  Sc : nthF tab fSc = some ⟨2, 2, bSc fCk fCf⟩
  Po : nthF tab fPo = some ⟨2, 2, bPo fCf⟩
  Lp : nthF tab fLp = some ⟨1, 2, bLp fCm fPo⟩
  Lr : nthF tab fLr = some ⟨1, 6, bLr fCm fLp⟩
  Rp : nthF tab fRp = some ⟨2, 5, bRp fCm fCl fM fPo⟩
  Cl : nthF tab fCl = some ⟨1, 1, bCl z fI⟩
/-- all locks are on things that are there -/
abbrev Lks (h : Mem) : Prop := ∀ n ∈ h.locks, n < h.size
theorem Lks.kq {h h' : Mem} (l : Lks h) (k : Kq h h') : Lks h' := fun n hn => Nat.lt_of_lt_of_le (l n (by rw [← k.lk]; exact hn)) k.sz
theorem kq_unlock {h1 h2 : Mem} {ls : List Nat} (k : Kq (h1.lock ls) h2) : Kq h1 (h2.unlock ls) :=
  ⟨k.sz, by rw [Mem.locks_unlock, k.lk, Mem.locks_lock]; simp, k.ld, k.get⟩
theorem kq_lock {h1 h2 : Mem} {ls : List Nat} (k : Kq h1 h2) : Kq (h1.lock ls) (h2.lock ls) :=
  ⟨k.sz, by rw [Mem.locks_lock, Mem.locks_lock, k.lk], k.ld, k.get⟩
section
variable {tab : List Fd} {it : List (Nat × Bool)} {lt : List (Nat × Nat)} {fI fR fRs fPs fB fM fCm fIs fCk fRf fDn fMv fCo fCa fEo fEs fSi fWo fLs fBm fCf fSc fPo fLp fLr fRp fCl K M : Nat} {x1 x2 x3 x4 y1 y2 z : XS} {h h' : Mem} {many room bear p i u l : Int} {qs : List (List Int)} {ps : List PV}
theorem cf_ok (W : SolW tab fRf fDn fMv fCo fCa fEo fEs fSi fWo fLs fBm) (hCf : nthF tab fCf = some ⟨2, 2, bCf fWo fSi⟩) (hK : 22 ≤ K) (hlk : Lks h) (hm : h.get M = some (mapOb many room bear qs ps)) (mo : MapOk many room bear qs ps) (so : StOk many room bear p i u l) :
    ∃ h', callD tab K fCf [.ref M, .tup [.int p, .int i, .int u, .int l]] h = .ok (W5 many room bear qs ps (.tup [.int p, .int i, .int u, .int l])) h' ∧ Kq h h' := by
  obtain ⟨k, rfl⟩ : ∃ k, K = k + 2 := ⟨K - 2, by omega⟩
  rw [call_eq hCf]
  have g0 : (h.push (.ins 1 [none, none])).get h.size = some (.ins 1 [none, none]) := Mem.get_push_new _ _
  have s0 : (h.push (.ins 1 [none, none])).size = h.size + 1 := rfl
  have f0 : (h.push (.ins 1 [none, none])).free h.size = true := Mem.free_iff.mpr fun z => by have := hlk _ z; omega
  have k0 : ∀ n o, h.get n = some o → (h.push (.ins 1 [none, none])).get n = some o := fun n o e => Mem.get_push e
  have l0 : (h.push (.ins 1 [none, none])).locks = h.locks := rfl
  have d0 : (h.push (.ins 1 [none, none])).dl = h.dl := rfl
  generalize hm0 : h.push (.ins 1 [none, none]) = m0 at *
  have g1 : (m0.set h.size (.ins 1 [some (.ref M), none])).get h.size = some (.ins 1 [some (.ref M), none]) := Mem.get_set_same _ (by omega)
  have s1 : (m0.set h.size (.ins 1 [some (.ref M), none])).size = h.size + 1 := s0
  have k1 : ∀ n o, h.get n = some o → (m0.set h.size (.ins 1 [some (.ref M), none])).get n = some o := fun n o e => by
    rw [Mem.get_set_ne _ (by have := Mem.get_lt e; omega)]; exact k0 n o e
  have l1 : (m0.set h.size (.ins 1 [some (.ref M), none])).locks = h.locks := l0
  have d1 : (m0.set h.size (.ins 1 [some (.ref M), none])).dl = h.dl := d0
  generalize hm1 : m0.set h.size (.ins 1 [some (.ref M), none]) = m1 at *
  have g2 : (m1.push (.dic [])).get h.size = some (.ins 1 [some (.ref M), none]) := Mem.get_push g1
  have w2 : (m1.push (.dic [])).get (h.size + 1) = some (.dic []) := by
    have := Mem.get_push_new m1 (.dic [])
    rw [s1] at this
    exact this
  have s2 : (m1.push (.dic [])).size = h.size + 2 := by rw [Mem.size_push, s1]
  have k2 : ∀ n o, h.get n = some o → (m1.push (.dic [])).get n = some o := fun n o e => Mem.get_push (k1 n o e)
  have l2 : (m1.push (.dic [])).locks = h.locks := l1
  have d2 : (m1.push (.dic [])).dl = h.dl := d1
  generalize hm2 : m1.push (.dic []) = m2 at *
  have f2 : m2.free h.size = true := Mem.free_iff.mpr fun z => by rw [l2] at z; have := hlk _ z; omega
  have g3 : (m2.set h.size (.ins 1 [some (.ref M), some (.ref (h.size + 1))])).get h.size = some (.ins 1 [some (.ref M), some (.ref (h.size + 1))]) := Mem.get_set_same _ (by omega)
  have w3 : (m2.set h.size (.ins 1 [some (.ref M), some (.ref (h.size + 1))])).get (h.size + 1) = some (.dic []) := by rw [Mem.get_set_ne _ (by omega)]; exact w2
  have k3 : ∀ n o, h.get n = some o → (m2.set h.size (.ins 1 [some (.ref M), some (.ref (h.size + 1))])).get n = some o := fun n o e => by
    rw [Mem.get_set_ne _ (by have := Mem.get_lt e; omega)]; exact k2 n o e
  have l3 : (m2.set h.size (.ins 1 [some (.ref M), some (.ref (h.size + 1))])).locks = h.locks := l2
  have d3 : (m2.set h.size (.ins 1 [some (.ref M), some (.ref (h.size + 1))])).dl = h.dl := d2
  have s3 : (m2.set h.size (.ins 1 [some (.ref M), some (.ref (h.size + 1))])).size = h.size + 2 := s2
  generalize hm3 : m2.set h.size (.ins 1 [some (.ref M), some (.ref (h.size + 1))]) = m3 at *
  have f1 : m1.size = h.size + 1 := s1
  have b0 : Nat.blt 0 2 = true := rfl
  have b1 : Nat.blt 1 2 = true := rfl
  have esi : callD tab (k + 1) fSi [.ref h.size, .ref M] m0 = .ok .non m3 := by
    rw [call_eq W.Si]
    simp [bSi, runFd, sSeq, sIf, sRet, sExpr, sAsg, sOf, endS, tE, tAnd, tOr, tNot, tYes, eCmp, eVar, eC, eBin, eLen, lenV, cmpop, ltV, icmp, eSub, subV, itemsOf, binop, addV, mulV, mapInt2, eB, gInt, gMax2, gMin2, aCons, aNil, eCall, tgG, gName, gUnp, setAll, eTup, eIf, eAnd, eOr, eNot, Res.bind, ofO, Option.map, sNil, cnd, sSlot, lookC, g0, f0, b0, hm1, eDic0, hm2, g2, f2, b1, f1, hm3]
  have v : Sv many room bear qs ps M h.size (h.size + 1) m3 [] := ⟨g3, w3, k3 _ _ hm, by rw [l3]; exact fun z => by have := hlk _ z; omega, memo_nil⟩
  obtain ⟨h4, e4, ms4, v4, k4⟩ := wo_ok W mo 4 (k + 1) m3 [] p i u l (by omega) v so (by have := mo.m5; have := so.p0; omega)
  refine ⟨h4, ?_, ⟨by have := k4.sz; omega, k4.lk.trans l3, k4.ld.trans d3, fun n o e => k4.get n o (by have := Mem.get_lt e; omega) (k3 n o e)⟩⟩
  have rep : List.replicate 2 (none : Option PV) = [none, none] := rfl
  simp [bCf, runFd, sSeq, sIf, sRet, sExpr, sAsg, sOf, endS, tE, tAnd, tOr, tNot, tYes, eCmp, eVar, eC, eBin, eLen, lenV, cmpop, ltV, icmp, eSub, subV, itemsOf, binop, addV, mulV, mapInt2, eB, gInt, gMax2, gMin2, aCons, aNil, eCall, tgG, gName, gUnp, setAll, eTup, eIf, eAnd, eOr, eNot, Res.bind, ofO, Option.map, sNil, cnd, eMeth, eMake, makeV, rep, hm0, esi, methF, g3, lookC, e4]
theorem so_start (mo : MapOk many room bear qs ps) (hl : 0 ≤ l ∧ l ≤ 4) : StOk many room bear 0 0 0 l := ⟨Int.le_refl _, by have := mo.m2; omega, Int.le_refl _, by have := mo.r1; omega, Int.le_refl _, mo.b0, hl.1, hl.2⟩
abbrev W0 (many room bear : Int) (qs : List (List Int)) (ps : List PV) (l : Int) : PV := W5 many room bear qs ps (.tup [.int 0, .int 0, .int 0, .int l])
theorem po_ok (W : SolW tab fRf fDn fMv fCo fCa fEo fEs fSi fWo fLs fBm) (hCf : nthF tab fCf = some ⟨2, 2, bCf fWo fSi⟩) (hPo : nthF tab fPo = some ⟨2, 2, bPo fCf⟩) (hK : 23 ≤ K) (hlk : Lks h) (hm : h.get M = some (mapOb many room bear qs ps)) (mo : MapOk many room bear qs ps) (hl : 0 ≤ l ∧ l ≤ 4) :
    ∃ h', callD tab K fPo [.ref M, .int l] h = .ok (W0 many room bear qs ps l) h' ∧ Kq h h' := by
  obtain ⟨k, rfl⟩ : ∃ k, K = k + 1 := ⟨K - 1, by omega⟩
  obtain ⟨h', e, kq⟩ := cf_ok (K := k) W hCf (by omega) hlk hm mo (so_start mo hl)
  refine ⟨h', ?_, kq⟩
  rw [call_eq hPo]
  have f4 : ∀ a b c d : PV, fits [a, b, c, d] = true := fun _ _ _ _ => rfl
  simp [bPo, runFd, sSeq, sIf, sRet, sExpr, sAsg, sOf, endS, tE, tAnd, tOr, tNot, tYes, eCmp, eVar, eC, eBin, eLen, lenV, cmpop, ltV, icmp, eSub, subV, itemsOf, binop, addV, mulV, mapInt2, eB, gInt, gMax2, gMin2, aCons, aNil, eCall, tgG, gName, gUnp, setAll, eTup, eIf, eAnd, eOr, eNot, Res.bind, ofO, Option.map, sNil, cnd, f4, e]
def bCm3 (ot : List (Nat × Bool)) (x : XS) : XS := (sIf (tNot (tE (eIs (.own 0) ot (eVar 0)))) x sNil)
theorem cm3_ok {ot : List (Nat × Bool)} (ho : lookC 0 ot = some true) (hC : nthF tab fCm = some ⟨1, 1, bCm3 ot x1⟩) (hK : 1 ≤ K) (hm : h.get M = some (mapOb many room bear qs ps)) : callD tab K fCm [.ref M] h = .ok .non h := by
  obtain ⟨k, rfl⟩ : ∃ k, K = k + 1 := ⟨K - 1, by omega⟩
  rw [call_eq hC]
  have hmr : h.get M = some (.ins 0 [some (.tup [.int room, .int bear]), some (.tup (qs.map tupI)), some (.int many), some (.tup ps)]) := hm
  simp [bCm3, runFd, sSeq, sIf, sRet, sExpr, sAsg, sOf, endS, tE, tAnd, tOr, tNot, tYes, eCmp, eVar, eC, eBin, eLen, lenV, cmpop, ltV, icmp, eSub, subV, itemsOf, binop, addV, mulV, mapInt2, eB, gInt, gMax2, gMin2, aCons, aNil, eCall, tgG, gName, gUnp, setAll, eTup, eIf, eAnd, eOr, eNot, Res.bind, ofO, Option.map, sNil, cnd, eIs, isB, hmr, ho, bnot]
theorem ck3_ok {ot : List (Nat × Bool)} (ho : lookC 0 ot = some true) (hI : nthF tab fI = some ⟨3, 3, bInt it⟩) (hC : nthF tab fCm = some ⟨1, 1, bCm3 ot x1⟩) (hS : nthF tab fIs = some ⟨2, 7, bIs it lt fI⟩) (hK' : nthF tab fCk = some ⟨2, 2, bCk x2 fCm fIs⟩) (hK : 3 ≤ K) (hm : h.get M = some (mapOb many room bear qs ps)) (so : StOk many room bear p i u l) :
    callD tab K fCk [.ref M, .tup [.int p, .int i, .int u, .int l]] h = .ok .non (h.push (bnds many room bear)) := by
  obtain ⟨k, rfl⟩ : ∃ k, K = k + 1 := ⟨K - 1, by omega⟩
  rw [call_eq hK']
  have e1 := cm3_ok (K := k) ho hC (by omega) hm
  have e2 := is_ok' (K := k) hI hS (by omega) hm so
  simp [bCk, runFd, sSeq, sIf, sRet, sExpr, sAsg, sOf, endS, tE, tAnd, tOr, tNot, tYes, eCmp, eVar, eC, eBin, eLen, lenV, cmpop, ltV, icmp, eSub, subV, itemsOf, binop, addV, mulV, mapInt2, eB, gInt, gMax2, gMin2, aCons, aNil, eCall, tgG, gName, gUnp, setAll, eTup, eIf, eAnd, eOr, eNot, Res.bind, ofO, Option.map, sNil, cnd, e1, e2, bnot]
theorem sc_ok {ot : List (Nat × Bool)} (ho : lookC 0 ot = some true) (W : SolW tab fRf fDn fMv fCo fCa fEo fEs fSi fWo fLs fBm) (hCf : nthF tab fCf = some ⟨2, 2, bCf fWo fSi⟩) (hSc : nthF tab fSc = some ⟨2, 2, bSc fCk fCf⟩) (hI : nthF tab fI = some ⟨3, 3, bInt it⟩) (hC : nthF tab fCm = some ⟨1, 1, bCm3 ot x1⟩) (hS : nthF tab fIs = some ⟨2, 7, bIs it lt fI⟩) (hKc : nthF tab fCk = some ⟨2, 2, bCk x2 fCm fIs⟩)
    (hK : 23 ≤ K) (hlk : Lks h) (hm : h.get M = some (mapOb many room bear qs ps)) (mo : MapOk many room bear qs ps) (so : StOk many room bear p i u l) :
    ∃ h', callD tab K fSc [.ref M, .tup [.int p, .int i, .int u, .int l]] h = .ok (W5 many room bear qs ps (.tup [.int p, .int i, .int u, .int l])) h' ∧ Kq h h' := by
  obtain ⟨k, rfl⟩ : ∃ k, K = k + 1 := ⟨K - 1, by omega⟩
  have e0 := ck3_ok (K := k) (h := h) ho hI hC hS hKc (by omega) hm so
  have k0 : Kq h (h.push (bnds many room bear)) := Kq.push
  obtain ⟨h', e, kq⟩ := cf_ok (K := k) (h := h.push (bnds many room bear)) W hCf (by omega) (hlk.kq k0) (k0.get _ _ hm) mo so
  refine ⟨h', ?_, k0.trans kq⟩
  rw [call_eq hSc]
  simp [bSc, runFd, sSeq, sIf, sRet, sExpr, sAsg, sOf, endS, tE, tAnd, tOr, tNot, tYes, eCmp, eVar, eC, eBin, eLen, lenV, cmpop, ltV, icmp, eSub, subV, itemsOf, binop, addV, mulV, mapInt2, eB, gInt, gMax2, gMin2, aCons, aNil, eCall, tgG, gName, gUnp, setAll, eTup, eIf, eAnd, eOr, eNot, Res.bind, ofO, Option.map, sNil, cnd, e0, e]
/-! ### the prices -/
def prv (many room bear : Int) (qs : List (List Int)) (ps : List PV) (x : PV) : PV := match x with
  | .int l => W0 many room bear qs ps l
  | _ => .non
def PRS (many room bear : Int) (qs : List (List Int)) (ps : List PV) : List PV := (upto 0 1 5).map (prv many room bear qs ps)
theorem prs_five : ∃ v0 v1 v2 v3 v4, PRS many room bear qs ps = [v0, v1, v2, v3, v4] ∧ IN v0 ∧ IN v1 ∧ IN v2 ∧ IN v3 ∧ IN v4 :=
  ⟨_, _, _, _, _, rfl, Wv_in _ _, Wv_in _ _, Wv_in _ _, Wv_in _ _, Wv_in _ _⟩
/-- a comprehension over a range, whose body only makes -/
theorem lC1_kq {C : Calls} {s : Env} {own : List Nat} {i : XI} {g : Tg} {e : XE} {xs : List PV} {ls : List Nat} {F : PV → PV} {h1 : Mem} (hi : i C s h = .ok (xs, ls) h1)
    (hf : ∀ x ∈ xs, ∀ m, Kq (h1.lock ls) m → ∃ m', turn1 C (lC1.wipeV s own) g tYes e x m = .ok [F x] m' ∧ Kq m m') (hz : xs.length ≤ 60000) :
    ∃ h', lC1 own i g tYes e C s h = .ok (xs.map F) h' ∧ Kq h1 h' := by
  obtain ⟨h', e1, q1⟩ := lC1_kp (Q := fun m => Kq (h1.lock ls) m) (F := fun x => [F x]) hi Kq.refl (fun x hx m q => by
    obtain ⟨m', e', q'⟩ := hf x hx m q
    exact ⟨m', e', q.trans q'⟩) (by rw [flat_single]; exact fits_small (by rw [List.length_map]; omega))
  rw [flat_single] at e1
  exact ⟨_, e1, kq_unlock q1⟩
theorem lp_ok {ot : List (Nat × Bool)} (ho : lookC 0 ot = some true) (W : SolW tab fRf fDn fMv fCo fCa fEo fEs fSi fWo fLs fBm) (Z : PW3 tab fI fCm fCk fSi fWo fM fCf fSc fPo fLp fLr fRp fCl z) (hC : nthF tab fCm = some ⟨1, 1, bCm3 ot x1⟩)
    (hK : 24 ≤ K) (hlk : Lks h) (hm : h.get M = some (mapOb many room bear qs ps)) (mo : MapOk many room bear qs ps) :
    ∃ h' r, callD tab K fLp [.ref M] h = .ok (.ref r) h' ∧ h'.get r = some (.lst (PRS many room bear qs ps)) ∧ Kq h h' ∧ h.size ≤ r := by
  obtain ⟨k, rfl⟩ : ∃ k, K = k + 1 := ⟨K - 1, by omega⟩
  have e0 := cm3_ok (K := k) ho hC (by omega) hm
  obtain ⟨h1, e1, k1⟩ := lC1_kq (C := callD tab k) (s := [some (.ref M), none]) (h := h) (own := [1]) (i := iR1 (eBin .add (eC (.int 4)) (eC (.int 1)))) (g := .nm 1) (e := eCall fPo (aCons (eVar 0) (aCons (eVar 1) aNil))) (xs := upto 0 1 5) (ls := []) (F := prv many room bear qs ps)
    (h1 := h) (by simp [iR1, runFd, sSeq, sIf, sRet, sExpr, sAsg, sOf, endS, tE, tAnd, tOr, tNot, tYes, eCmp, eVar, eC, eBin, eLen, lenV, cmpop, ltV, icmp, eSub, subV, itemsOf, binop, addV, mulV, mapInt2, eB, gInt, gMax2, gMin2, aCons, aNil, eCall, tgG, gName, gUnp, setAll, eTup, eIf, eAnd, eOr, eNot, Res.bind, ofO, Option.map, sNil, cnd, lt62_t]) (fun x hx m q => by
      obtain ⟨i, hi⟩ := List.getElem?_of_mem hx
      obtain ⟨hi2, ex⟩ := upto_item hi
      subst ex
      have q' : Kq h m := q
      obtain ⟨m', em, km⟩ := po_ok (K := k) (h := m) (l := 0 + (i : Int)) W Z.Cf Z.Po (by omega) (hlk.kq q') (q'.get _ _ hm) mo (by omega)
      exact ⟨m', by simp [turn1, runFd, sSeq, sIf, sRet, sExpr, sAsg, sOf, endS, tE, tAnd, tOr, tNot, tYes, eCmp, eVar, eC, eBin, eLen, lenV, cmpop, ltV, icmp, eSub, subV, itemsOf, binop, addV, mulV, mapInt2, eB, gInt, gMax2, gMin2, aCons, aNil, eCall, tgG, gName, gUnp, setAll, eTup, eIf, eAnd, eOr, eNot, Res.bind, ofO, Option.map, sNil, cnd, lC1.wipeV] at em ⊢; simp [em, prv], km⟩) (by rw [upto_len]; omega)
  have hz : fits (PRS many room bear qs ps) = true := fits_small (by unfold PRS; rw [List.length_map, upto_len]; omega)
  refine ⟨h1.push (.lst (PRS many room bear qs ps)), h1.size, ?_, Mem.get_push_new _ _, k1.trans Kq.push, k1.sz⟩
  rw [call_eq Z.Lp]
  have ec : lpComp fPo (callD tab k) [some (.ref M), none] h = .ok (PRS many room bear qs ps) h1 := e1
  simp [bLp, runFd, sSeq, sIf, sRet, sExpr, sAsg, sOf, endS, tE, tAnd, tOr, tNot, tYes, eCmp, eVar, eC, eBin, eLen, lenV, cmpop, ltV, icmp, eSub, subV, itemsOf, binop, addV, mulV, mapInt2, eB, gInt, gMax2, gMin2, aCons, aNil, eCall, tgG, gName, gUnp, setAll, eTup, eIf, eAnd, eOr, eNot, Res.bind, ofO, Option.map, sNil, cnd, eNew, e0, ec, hz]
/-! ### the pairs -/
def nextV (vs : List PV) (i : Nat) : PV := match vs[i + 1]? with
  | some v => v
  | none => .non
def PPi (vs : List PV) (i : Nat) : List PV := match vs[i]? with
  | some (.int x) => match nextV vs i with
    | .int y => cnd (ilt x y) [.tup [.int i, .int x]] []
    | _ => [.tup [.int i, .int x]]
  | _ => []
def PPs (vs : List PV) : Nat → List PV
  | 0 => []
  | n + 1 => PPs vs n ++ PPi vs n
theorem PPi_len (vs : List PV) (i : Nat) : (PPi vs i).length ≤ 1 := by
  unfold PPi
  split
  · split
    · cases ilt _ _ <;> simp
    · simp
  · simp
theorem PPs_len (vs : List PV) : ∀ n, (PPs vs n).length ≤ n
  | 0 => Nat.le_refl _
  | n + 1 => by
    have h1 := PPs_len vs n
    have h2 := PPi_len vs n
    unfold PPs
    rw [List.length_append]
    omega
theorem PPs_flat (vs : List PV) : ∀ n, ∀ x ∈ PPs vs n, Flat x
  | 0, x, h => by cases h
  | n + 1, x, h => by
    rcases List.mem_append.mp h with h | h
    · exact PPs_flat vs n x h
    · unfold PPi at h
      split at h
      · rename_i q _
        split at h
        · cases e : ilt _ _ with
          | true => rw [e] at h; exact .inr (.inr ⟨[_, _], List.mem_singleton.mp h⟩)
          | false => rw [e] at h; cases h
        · exact .inr (.inr ⟨[_, _], List.mem_singleton.mp h⟩)
      · cases h
theorem Gr.app0 {h0 : Mem} {R : Nat} {xs ys : List PV} (g : Gr h0 h R xs) (e : ys = []) : Gr h0 h R (xs ++ ys) := by rw [e, List.append_nil]; exact g
theorem Gr.mk2 {h0 m m' : Mem} {R : Nat} {xs : List PV} (g : Gr h0 m R xs) (k : Kq m m') : Gr h0 m' R xs :=
  ⟨k.get _ _ g.at_, by unfold Mem.free; rw [k.lk]; exact g.fr, g.nw, k.lk.trans g.lk, k.ld.trans g.ld, Nat.le_trans g.sz k.sz, fun n o e => k.get _ _ (g.get n o e)⟩
theorem lr_body {C : Calls} {o0 o5 : Option PV} {r R i : Nat} {h0 : Mem} {xs : List PV} {v0 v1 v2 v3 v4 : PV} (hi : i < 5) (i0 : IN v0) (i1 : IN v1) (i2 : IN v2) (i3 : IN v3) (i4 : IN v4) (hr : h.get r = some (.lst [v0, v1, v2, v3, v4])) (g : Gr h0 h R xs) (hl : xs.length ≤ 1000) {v : PV} (hv : [v0, v1, v2, v3, v4][i]? = some v) :
    ∃ o5' h', lrBody C [o0, some (.ref r), some (.ref R), some (.int i), some v, o5] h = .nx [o0, some (.ref r), some (.ref R), some (.int i), some v, o5'] h' ∧ Gr h0 h' R (xs ++ PPi [v0, v1, v2, v3, v4] i) := by
  have ff : fits xs = true := fits_small (by omega)
  have f2 : ∀ a b : PV, fits [a, b] = true := fun _ _ => rfl
  have fin : ∀ (w nx : PV) (x5 : Option PV), IN w → IN nx → PPi [v0, v1, v2, v3, v4] i = (match w with
      | .int x => match nx with
        | .int y => cnd (ilt x y) [.tup [.int i, .int x]] []
        | _ => [.tup [.int i, .int x]]
      | _ => []) → v = w → (eIf (tE (eCmp .lt (eVar 3) (eC (.int 4)))) (eSub (eVar 1) (eBin .add (eVar 3) (eC (.int 1)))) (eC .non)) C [o0, some (.ref r), some (.ref R), some (.int i), some v, o5] h = .ok nx h →
      ∃ o5' h', lrBody C [o0, some (.ref r), some (.ref R), some (.int i), some v, o5] h = .nx [o0, some (.ref r), some (.ref R), some (.int i), some v, o5'] h' ∧ Gr h0 h' R (xs ++ PPi [v0, v1, v2, v3, v4] i) := by
    intro w nx x5 hw hn hpp hvw hx
    subst hvw
    have hasg : (sAsg (eIf (tE (eCmp .lt (eVar 3) (eC (.int 4)))) (eSub (eVar 1) (eBin .add (eVar 3) (eC (.int 1)))) (eC .non)) (tgG (.nm 5))) C [o0, some (.ref r), some (.ref R), some (.int i), some v, o5] h = .nx [o0, some (.ref r), some (.ref R), some (.int i), some v, some nx] h := by
      unfold sAsg
      rw [hx]
      rfl
    unfold lrBody sSeq
    rw [hasg]
    simp only
    rcases hw with rfl | ⟨x, rfl⟩
    · rw [show PPi [v0, v1, v2, v3, v4] i = [] from hpp, List.append_nil]
      exact ⟨some nx, h, by simp [runFd, sSeq, sIf, sRet, sExpr, sAsg, sOf, endS, tE, tAnd, tOr, tNot, tYes, eCmp, eVar, eC, eBin, eLen, lenV, cmpop, ltV, icmp, eSub, subV, itemsOf, binop, addV, mulV, mapInt2, eB, gInt, gMax2, gMin2, aCons, aNil, eCall, tgG, gName, gUnp, setAll, eTup, eIf, eAnd, eOr, eNot, Res.bind, ofO, Option.map, sNil, cnd, isV, isNon, onot, bnot], g⟩
    · rcases hn with rfl | ⟨y, rfl⟩
      · rw [show PPi [v0, v1, v2, v3, v4] i = [.tup [.int i, .int x]] from hpp]
        exact ⟨some .non, h.set R (.lst (xs ++ [.tup [.int i, .int x]])), by simp [runFd, sSeq, sIf, sRet, sExpr, sAsg, sOf, endS, tE, tAnd, tOr, tNot, tYes, eCmp, eVar, eC, eBin, eLen, lenV, cmpop, ltV, icmp, eSub, subV, itemsOf, binop, addV, mulV, mapInt2, eB, gInt, gMax2, gMin2, aCons, aNil, eCall, tgG, gName, gUnp, setAll, eTup, eIf, eAnd, eOr, eNot, Res.bind, ofO, Option.map, sNil, cnd, isV, isNon, onot, bnot, eApp, g.at_, g.fr, ff, f2], g.app⟩
      · have hpp' : PPi [v0, v1, v2, v3, v4] i = cnd (ilt x y) [.tup [.int i, .int x]] [] := hpp
        rw [hpp']
        cases hc : ilt x y with
        | true => exact ⟨some (.int y), h.set R (.lst (xs ++ [.tup [.int i, .int x]])), by simp [runFd, sSeq, sIf, sRet, sExpr, sAsg, sOf, endS, tE, tAnd, tOr, tNot, tYes, eCmp, eVar, eC, eBin, eLen, lenV, cmpop, ltV, icmp, eSub, subV, itemsOf, binop, addV, mulV, mapInt2, eB, gInt, gMax2, gMin2, aCons, aNil, eCall, tgG, gName, gUnp, setAll, eTup, eIf, eAnd, eOr, eNot, Res.bind, ofO, Option.map, sNil, cnd, isV, isNon, onot, bnot, eApp, g.at_, g.fr, ff, f2, hc], g.app⟩
        | false => exact ⟨some (.int y), h, by simp [runFd, sSeq, sIf, sRet, sExpr, sAsg, sOf, endS, tE, tAnd, tOr, tNot, tYes, eCmp, eVar, eC, eBin, eLen, lenV, cmpop, ltV, icmp, eSub, subV, itemsOf, binop, addV, mulV, mapInt2, eB, gInt, gMax2, gMin2, aCons, aNil, eCall, tgG, gName, gUnp, setAll, eTup, eIf, eAnd, eOr, eNot, Res.bind, ofO, Option.map, sNil, cnd, isV, isNon, onot, bnot, hc], by show Gr h0 h R (xs ++ []); rw [List.append_nil]; exact g⟩
  have sub : ∀ j : Nat, j < 5 → ∀ u, [v0, v1, v2, v3, v4][j]? = some u → subV (.ref r) (.int j) h = some u := fun j hj u hu => by
    show (match itemsOf h (.ref r) with
      | some xs => match ixN xs.length (j : Int) with
        | some k => xs[k]?
        | none => none
      | none => none) = _
    have e1 : itemsOf h (.ref r) = some [v0, v1, v2, v3, v4] := by
      show (match h.get r with
        | some (.lst xs) => some xs
        | some (.scr xs) => some xs
        | _ => none) = _
      rw [hr]
    have e2 : ixN [v0, v1, v2, v3, v4].length (j : Int) = some j := by
      show cnd (Nat.blt j 5) (some j) none = _
      rw [blt_iff.mpr hj]
      rfl
    rw [e1]
    simp only
    rw [e2]
    exact hu
  have c0 : ilt 0 4 = true := rfl
  have c1 : ilt 1 4 = true := rfl
  have c2 : ilt 2 4 = true := rfl
  have c3 : ilt 3 4 = true := rfl
  have c4 : ilt 4 4 = false := rfl
  match i, hi, hv with
  | 0, _, hv =>
    have s : subV (.ref r) (.int 1) h = some v1 := sub 1 (by omega) v1 rfl
    exact fin v0 v1 none i0 i1 (by cases v0 <;> rfl) (Option.some.inj hv).symm (by simp [eIf, tE, eCmp, eVar, eC, eSub, eBin, binop, addV, Res.bind, cmpop, ltV, icmp, ofO, Option.map, c0, s])
  | 1, _, hv =>
    have s : subV (.ref r) (.int 2) h = some v2 := sub 2 (by omega) v2 rfl
    exact fin v1 v2 none i1 i2 (by cases v1 <;> rfl) (Option.some.inj hv).symm (by simp [eIf, tE, eCmp, eVar, eC, eSub, eBin, binop, addV, Res.bind, cmpop, ltV, icmp, ofO, Option.map, c1, s])
  | 2, _, hv =>
    have s : subV (.ref r) (.int 3) h = some v3 := sub 3 (by omega) v3 rfl
    exact fin v2 v3 none i2 i3 (by cases v2 <;> rfl) (Option.some.inj hv).symm (by simp [eIf, tE, eCmp, eVar, eC, eSub, eBin, binop, addV, Res.bind, cmpop, ltV, icmp, ofO, Option.map, c2, s])
  | 3, _, hv =>
    have s : subV (.ref r) (.int 4) h = some v4 := sub 4 (by omega) v4 rfl
    exact fin v3 v4 none i3 i4 (by cases v3 <;> rfl) (Option.some.inj hv).symm (by simp [eIf, tE, eCmp, eVar, eC, eSub, eBin, binop, addV, Res.bind, cmpop, ltV, icmp, ofO, Option.map, c3, s])
  | 4, _, hv => exact fin v4 .non none i4 (.inl rfl) (by cases v4 <;> rfl) (Option.some.inj hv).symm (by simp [eIf, tE, eCmp, eVar, eC, eSub, eBin, binop, addV, Res.bind, cmpop, ltV, icmp, ofO, Option.map, c4])
/-- a loop over a list that stays locked -/
theorem sFor_invL {C : Calls} {g : XG} {b : XS} {i : XI} {xs : List PV} {ls : List Nat} {P : Nat → Env → Mem → Prop} {s : Env} {h h0 : Mem} (hi : i C s h0 = .ok (xs, ls) h) (p0 : P 0 s (h.lock ls)) (st : ∀ i x s h, xs[i]? = some x → P i s h → ∃ s' h', sOf s (g C x s h) (fun s' h' => b C s' h') = .nx s' h' ∧ P (i + 1) s' h') :
    ∃ s' h', sFor i g b C s h0 = .nx s' (h'.unlock ls) ∧ P xs.length s' h' := by
  obtain ⟨s', h', e, p⟩ := loopS_inv (f := fun x s h => sOf s (g C x s h) fun s' h' => b C s' h') (P := P) xs 0 s (h.lock ls) p0 fun i x s h hx p => by
    obtain ⟨s', h', e, p'⟩ := st i x s h hx (by simpa using p)
    exact ⟨s', h', e, by simpa using p'⟩
  refine ⟨s', h', ?_, by simpa using p⟩
  unfold sFor
  rw [hi]
  simp only [sOf_ok, e]
  rfl
theorem pairsI_at {vs : List PV} {i : Nat} {x : PV} (h : (pairsI 0 vs)[i]? = some x) : ∃ v, vs[i]? = some v ∧ x = .tup [.int (i : Nat), v] := by
  rw [pairsI_get] at h
  cases e : vs[i]? with
  | none => rw [e] at h; cases h
  | some v =>
    rw [e] at h
    have h : PV.tup [.int (0 + (i : Nat)), v] = x := Option.some.inj h
    exact ⟨v, rfl, by rw [← h, Int.zero_add]⟩
theorem lr_ok {ot : List (Nat × Bool)} (ho : lookC 0 ot = some true) (W : SolW tab fRf fDn fMv fCo fCa fEo fEs fSi fWo fLs fBm) (Z : PW3 tab fI fCm fCk fSi fWo fM fCf fSc fPo fLp fLr fRp fCl z) (hC : nthF tab fCm = some ⟨1, 1, bCm3 ot x1⟩)
    (hK : 25 ≤ K) (hlk : Lks h) (hm : h.get M = some (mapOb many room bear qs ps)) (mo : MapOk many room bear qs ps) :
    ∃ h' R, callD tab K fLr [.ref M] h = .ok (.ref R) h' ∧ h'.get R = some (.lst (PPs (PRS many room bear qs ps) 5)) ∧ Kq h h' := by
  obtain ⟨k, rfl⟩ : ∃ k, K = k + 1 := ⟨K - 1, by omega⟩
  have e0 := cm3_ok (K := k) ho hC (by omega) hm
  obtain ⟨h1, r, e1, g1, k1, hr⟩ := lp_ok (K := k) ho W Z hC (by omega) hlk hm mo
  obtain ⟨v0, v1, v2, v3, v4, ev, i0, i1, i2, i3, i4⟩ := prs_five (many := many) (room := room) (bear := bear) (qs := qs) (ps := ps)
  rw [ev] at g1 ⊢
  have hrl := Mem.get_lt g1
  have g2 : (h1.push (.lst [])).get r = some (.lst [v0, v1, v2, v3, v4]) := Mem.get_push g1
  have f0 : fits ([] : List PV) = true := rfl
  have k2 : Kq h1 (h1.push (.lst [])) := Kq.push
  have z2 : (h1.push (.lst [])).get h1.size = some (.lst []) := Mem.get_push_new _ _
  have hlk1 := hlk.kq k1
  have gr : Gr (h1.lock [r]) ((h1.push (.lst [])).lock [r]) h1.size [] :=
    ⟨z2, Mem.free_iff.mpr fun q => by
      rcases List.mem_append.mp q with q | q
      · have := List.mem_singleton.mp q
        omega
      · have := hlk1 _ q
        omega, Nat.le_refl _, rfl, rfl, by simp, fun n o e => Mem.get_push e⟩
  generalize hm2 : h1.push (.lst []) = m2 at *
  obtain ⟨s', h3, e3, o3, o4, o5, es, g3⟩ := sFor_invL (C := callD tab k) (g := tgG (.un [3, 4])) (b := lrBody) (i := iEnum (iOf (eVar 1))) (xs := pairsI 0 [v0, v1, v2, v3, v4]) (ls := [r]) (s := [some (.ref M), some (.ref r), some (.ref h1.size), none, none, none]) (h := m2) (h0 := m2)
    (P := fun i s mm => ∃ (o3 o4 o5 : Option PV), s = [some (.ref M), some (.ref r), some (.ref h1.size), o3, o4, o5] ∧ Gr (h1.lock [r]) mm h1.size (PPs [v0, v1, v2, v3, v4] i)) (by simp [iEnum, iOf, eVar, Res.bind, g2]) ⟨none, none, none, rfl, gr⟩ (fun i x s mm hx ⟨o3, o4, o5, es, g⟩ => by
      subst es
      obtain ⟨v, hv, rfl⟩ := pairsI_at hx
      have hi : i < 5 := by
        have := (List.getElem?_eq_some_iff.mp hv).1
        simpa using this
      obtain ⟨o5', h', e, g'⟩ := lr_body (C := callD tab k) (o0 := some (.ref M)) (o5 := o5) hi i0 i1 i2 i3 i4 (g.get _ _ g1) g (by have := PPs_len [v0, v1, v2, v3, v4] i; omega) hv
      refine ⟨_, h', ?_, some (.int i), some v, o5', rfl, g'⟩
      simp [runFd, sSeq, sIf, sRet, sExpr, sAsg, sOf, endS, tE, tAnd, tOr, tNot, tYes, eCmp, eVar, eC, eBin, eLen, lenV, cmpop, ltV, icmp, eSub, subV, itemsOf, binop, addV, mulV, mapInt2, eB, gInt, gMax2, gMin2, aCons, aNil, eCall, tgG, gName, gUnp, setAll, eTup, eIf, eAnd, eOr, eNot, Res.bind, ofO, Option.map, sNil, cnd]
      exact e)
  subst es
  have hlen : (pairsI 0 [v0, v1, v2, v3, v4]).length = 5 := rfl
  rw [hlen] at g3
  have kf : Kq h1 (h3.unlock [r]) := kq_unlock g3.kq
  refine ⟨h3.unlock [r], h1.size, ?_, g3.at_, k1.trans kf⟩
  rw [call_eq Z.Lr]
  have ef : lrFor (callD tab k) [some (.ref M), some (.ref r), some (.ref h1.size), none, none, none] m2 = .nx [some (.ref M), some (.ref r), some (.ref h1.size), o3, o4, o5] (h3.unlock [r]) := e3
  simp [bLr, runFd, sSeq, sIf, sRet, sExpr, sAsg, sOf, endS, tE, tAnd, tOr, tNot, tYes, eCmp, eVar, eC, eBin, eLen, lenV, cmpop, ltV, icmp, eSub, subV, itemsOf, binop, addV, mulV, mapInt2, eB, gInt, gMax2, gMin2, aCons, aNil, eCall, tgG, gName, gUnp, setAll, eTup, eIf, eAnd, eOr, eNot, Res.bind, ofO, Option.map, sNil, cnd, e0, e1, eNew, lNew, f0, hm2, ef]
end
end Ev
end

section
set_option Elab.async false
set_option linter.all false
set_option maxRecDepth 100000
/-! Ev: prices by rooms; the law's own loops. -/
namespace Ev
open PySem PySem.Spec PyProof.Rows L2

theorem loopL_at {f : PV → Mem → Res (List PV)} {F : PV → List PV} {P : Nat → Mem → Prop} : ∀ (xs : List PV) (j : Nat) (h : Mem), P j h → (∀ i x m, xs[i]? = some x → P (j + i) m → ∃ m', f x m = .ok (F x) m' ∧ P (j + i + 1) m') → ∃ h', loopL f xs h = .ok (xs.flatMap F) h' ∧ P (j + xs.length) h'
  | [], j, h, p, _ => ⟨h, rfl, p⟩
  | x :: xs, j, h, p, st => by
    obtain ⟨h1, e, p1⟩ := st 0 x h rfl p
    obtain ⟨h2, e2, p2⟩ := loopL_at (f := f) (F := F) (P := P) xs (j + 1) h1 p1 fun i y m hy q => by
      have := st (i + 1) y m (by simpa using hy) (by rw [show j + (i + 1) = j + 1 + i by omega]; exact q)
      rw [show j + (i + 1) + 1 = j + 1 + i + 1 by omega] at this
      exact this
    refine ⟨h2, ?_, by rw [List.length_cons, show j + (xs.length + 1) = j + 1 + xs.length by omega]; exact p2⟩
    unfold loopL
    rw [e]
    simp only [Res.bind_ok]
    rw [e2]
    rfl
theorem lC1_at {C : Calls} {s : Env} {h h1 : Mem} {own : List Nat} {i : XI} {g : Tg} {t : XT} {e : XE} {xs : List PV} {F : PV → List PV} {P : Nat → Mem → Prop} (hi : i C s h = .ok (xs, []) h1)
    (p : P 0 h1) (hf : ∀ i x m, xs[i]? = some x → P i m → ∃ m', turn1 C (lC1.wipeV s own) g t e x m = .ok (F x) m' ∧ P (i + 1) m') (hz : fits (xs.flatMap F) = true) :
    ∃ h', lC1 own i g t e C s h = .ok (xs.flatMap F) h' ∧ P xs.length h' := by
  obtain ⟨h', e1, q1⟩ := loopL_at (f := fun x m => turn1 C (lC1.wipeV s own) g t e x m) (F := F) (P := P) xs 0 h1 p fun i x m hx q => by
    have := hf i x m hx (by simpa using q)
    simpa using this
  refine ⟨h', ?_, by simpa using q1⟩
  unfold lC1
  rw [hi]
  simp only [Res.bind_ok]
  have hl : h1.lock [] = h1 := rfl
  have hu : h'.unlock [] = h' := rfl
  have e2 : turns (tgG g) t C (lC1.wipeV s own) (fun s' h => (e C s' h).bind fun y h' => .ok [y] h') xs h1 = .ok (xs.flatMap F) h' := e1
  rw [hl, e2]
  simp only [noErr, Res.bind_ok, hz, cnd_true, hu]
section
variable {tab : List Fd} {it ot : List (Nat × Bool)} {lt : List (Nat × Nat)} {fI fR fRs fPs fB fM fCm fIs fCk fRf fDn fMv fCo fCa fEo fEs fSi fWo fLs fBm fCf fSc fPo fLp fLr fRp fCl fC fD fN fX fP fPl fRo fPr fBx K M D : Nat} {x1 x2 x3 x4 y1 y2 z : XS} {h h' : Mem} {many room bear p i u l late : Int} {qs : List (List Int)} {ps : List PV} {ns : List Int}
theorem mo_room (mo : MapOk many room bear qs ps) {r : Int} (h : 1 ≤ r ∧ r ≤ 6) : MapOk many r bear qs ps := ⟨mo.m2, mo.m5, mo.rd, mo.pr, mo.pl, h.1, h.2, mo.b0, mo.b2⟩
def rmv (many bear : Int) (qs : List (List Int)) (ps : List PV) (late : Int) (x : PV) : PV := match x with
  | .int r => W0 many r bear qs ps late
  | _ => .non
def RMS (many bear : Int) (qs : List (List Int)) (ps : List PV) (late : Int) : List PV := (upto 1 1 6).map (rmv many bear qs ps late)
theorem cl_ok (hI : nthF tab fI = some ⟨3, 3, bInt it⟩) (hL : nthF tab fCl = some ⟨1, 1, bCl z fI⟩) (hK : 2 ≤ K) (hl : 0 ≤ late ∧ late ≤ 4) : callD tab K fCl [.int late] h = .ok .non h := by
  obtain ⟨k, rfl⟩ : ∃ k, K = k + 1 := ⟨K - 1, by omega⟩
  rw [call_eq hL]
  have e := isint_ok (K := k) (h := h) hI (by omega) hl.1 hl.2
  simp [bCl, runFd, sSeq, sIf, sRet, sExpr, sAsg, sOf, endS, tE, tAnd, tOr, tNot, tYes, eCmp, eVar, eC, eBin, eLen, lenV, cmpop, ltV, icmp, eSub, subV, itemsOf, binop, addV, mulV, mapInt2, eB, gInt, gMax2, gMin2, aCons, aNil, eCall, tgG, gName, gUnp, setAll, eTup, eIf, eAnd, eOr, eNot, Res.bind, ofO, Option.map, sNil, cnd, e, bnot]
def refAt (base : Nat) (x : PV) : PV := match x with
  | .int r => .ref (base + (r - 1).toNat)
  | _ => .non
theorem rp_ok (ho : lookC 0 ot = some true) (MWx : MW tab it lt fI fR fRs fPs fB fM y1 y2 x3 x4) (W : SolW tab fRf fDn fMv fCo fCa fEo fEs fSi fWo fLs fBm) (Z : PW3 tab fI fCm fCk fSi fWo fM fCf fSc fPo fLp fLr fRp fCl z) (hC : nthF tab fCm = some ⟨1, 1, bCm3 ot x1⟩)
    (hK : 25 ≤ K) (hl0 : h.locks = []) (hm : h.get M = some (mapOb many room bear qs ps)) (mo : MapOk many room bear qs ps) (hl : 0 ≤ late ∧ late ≤ 4) :
    ∃ h' R, callD tab K fRp [.ref M, .int late] h = .ok (.ref R) h' ∧ h'.get R = some (.lst (RMS many bear qs ps late)) ∧ Kq h h' := by
  obtain ⟨k, rfl⟩ : ∃ k, K = k + 1 := ⟨K - 1, by omega⟩
  have e0 := cm3_ok (K := k) ho hC (by omega) hm
  have e1 := cl_ok (K := k) (h := h) MWx.I Z.Cl (by omega) hl
  obtain ⟨h2, e2, k2, s2, g2⟩ := lC1_at (C := callD tab k) (s := [some (.ref M), some (.int late), none, none, none]) (h := h) (h1 := h) (own := [3]) (i := iR2 (eC (.int 1)) (eBin .add (eC (.int 6)) (eC (.int 1)))) (g := .nm 3) (t := tYes)
    (e := eMake 0 fM 4 (aCons (eFld [(0, .slot 2)] (eVar 0)) (aCons (eFld [(0, .slot 1)] (eVar 0)) (aCons (eFld [(0, .slot 3)] (eVar 0)) (aCons (eTup (aCons (eVar 3) (aCons (eSub (eFld [(0, .slot 0)] (eVar 0)) (eC (.int 1))) aNil))) aNil)))))
    (xs := upto 1 1 6) (F := fun x => [refAt h.size x]) (P := fun i m => Kq h m ∧ m.size = h.size + i ∧ ∀ q : Nat, q < i → m.get (h.size + q) = some (mapOb many (1 + (q : Nat)) bear qs ps))
    (by simp [iR2, runFd, sSeq, sIf, sRet, sExpr, sAsg, sOf, endS, tE, tAnd, tOr, tNot, tYes, eCmp, eVar, eC, eBin, eLen, lenV, cmpop, ltV, icmp, eSub, subV, itemsOf, binop, addV, mulV, mapInt2, eB, gInt, gMax2, gMin2, aCons, aNil, eCall, tgG, gName, gUnp, setAll, eTup, eIf, eAnd, eOr, eNot, Res.bind, ofO, Option.map, sNil, cnd, lt62_t]) ⟨Kq.refl, rfl, fun q hq => by omega⟩ (fun i x m hx ⟨kq, sz, gt⟩ => by
      obtain ⟨hi, rfl⟩ := upto_item hx
      have hmm := kq.get _ _ hm
      have hmr : m.get M = some (.ins 0 [some (.tup [.int room, .int bear]), some (.tup (qs.map tupI)), some (.int many), some (.tup ps)]) := hmm
      obtain ⟨m', em, gm, sm, lm, dm, keep⟩ := init_ok (K := k) (h := m) MWx (by omega) (by rw [kq.lk]; exact hl0) (mo_room mo (r := 1 + (i : Int)) ⟨by omega, by omega⟩)
      have y1 : ixN 2 1 = some 1 := rfl
      have f2 : ∀ a b : PV, fits [a, b] = true := fun _ _ => rfl
      refine ⟨m', ?_, ⟨by have := kq.sz; omega, lm.trans kq.lk, dm.trans kq.ld, fun n o e => ?_⟩, by omega, fun q hq => ?_⟩
      · have er : refAt h.size (.int (1 + (i : Int))) = .ref m.size := by
          unfold refAt
          simp only
          congr 1
          omega
        rw [er]
        simp [turn1, runFd, sSeq, sIf, sRet, sExpr, sAsg, sOf, endS, tE, tAnd, tOr, tNot, tYes, eCmp, eVar, eC, eBin, eLen, lenV, cmpop, ltV, icmp, eSub, subV, itemsOf, binop, addV, mulV, mapInt2, eB, gInt, gMax2, gMin2, aCons, aNil, eCall, tgG, gName, gUnp, setAll, eTup, eIf, eAnd, eOr, eNot, Res.bind, ofO, Option.map, sNil, cnd, lC1.wipeV, eFld, fldV, lookC, hmr, y1, f2, eMake] at em ⊢
        rw [em]
      · rw [keep n (by have := Mem.get_lt (kq.get _ _ e); omega)]
        exact kq.get _ _ e
      · by_cases qe : q = i
        · subst qe
          rw [← sz]
          exact gm
        · rw [keep _ (by omega)]
          exact gt q (by omega)) (by rw [flat_single]; exact fits_small (by rw [List.length_map, upto_len]; omega))
  rw [flat_single] at e2
  have hz : fits ((upto 1 1 6).map (refAt h.size)) = true := fits_small (by rw [List.length_map, upto_len]; omega)
  have k3 : Kq h2 (h2.push (.lst ((upto 1 1 6).map (refAt h.size)))) := Kq.push
  have g3 : (h2.push (.lst ((upto 1 1 6).map (refAt h.size)))).get h2.size = some (.lst ((upto 1 1 6).map (refAt h.size))) := Mem.get_push_new _ _
  have hlk : Lks h := fun n hn => by rw [hl0] at hn; cases hn
  generalize hh3 : h2.push (.lst ((upto 1 1 6).map (refAt h.size))) = h3 at *
  have hlk3 : Lks (h3.lock [h2.size]) := fun n hn => by
    rcases List.mem_append.mp hn with q | q
    · have := List.mem_singleton.mp q
      rw [this]
      exact Mem.get_lt g3
    · exact (hlk.kq (k2.trans k3)) n q
  obtain ⟨h4, e4, k4⟩ := lC1_kq (C := callD tab k) (s := [some (.ref M), some (.int late), some (.ref h2.size), none, none]) (h := h3) (h1 := h3) (own := [4]) (i := iAny (eVar 2)) (g := .nm 4) (e := eCall fPo (aCons (eVar 4) (aCons (eVar 1) aNil))) (xs := (upto 1 1 6).map (refAt h.size)) (ls := [h2.size])
    (F := fun x => match x with | .ref a => W0 many (1 + ((a - h.size : Nat) : Int)) bear qs ps late | _ => .non) (by simp [iAny, eVar, Res.bind, g3]) (fun x hx m q => by
      obtain ⟨y, hy, rfl⟩ := List.mem_map.mp hx
      obtain ⟨i, hi⟩ := List.getElem?_of_mem hy
      obtain ⟨hi2, rfl⟩ := upto_item hi
      have er : refAt h.size (.int (1 + (i : Int))) = .ref (h.size + i) := by
        unfold refAt
        simp only
        congr 1
        omega
      rw [er]
      have gm : m.get (h.size + i) = some (mapOb many (1 + (i : Nat)) bear qs ps) := q.get _ _ (k3.get _ _ (g2 i (by rw [upto_len]; omega)))
      obtain ⟨m', em, km⟩ := po_ok (K := k) (h := m) (l := late) W Z.Cf Z.Po (by omega) (hlk3.kq q) gm (mo_room mo ⟨by omega, by omega⟩) hl
      have ei : (h.size + i - h.size : Nat) = i := by omega
      refine ⟨m', ?_, km⟩
      simp only [ei]
      simp [turn1, runFd, sSeq, sIf, sRet, sExpr, sAsg, sOf, endS, tE, tAnd, tOr, tNot, tYes, eCmp, eVar, eC, eBin, eLen, lenV, cmpop, ltV, icmp, eSub, subV, itemsOf, binop, addV, mulV, mapInt2, eB, gInt, gMax2, gMin2, aCons, aNil, eCall, tgG, gName, gUnp, setAll, eTup, eIf, eAnd, eOr, eNot, Res.bind, ofO, Option.map, sNil, cnd, lC1.wipeV, em]) (by rw [List.length_map, upto_len]; omega)
  have el : ((upto 1 1 6).map (refAt h.size)).map (fun x => match x with | .ref a => W0 many (1 + ((a - h.size : Nat) : Int)) bear qs ps late | _ => .non) = RMS many bear qs ps late := by
    rw [List.map_map]
    refine List.map_congr_left fun y hy => ?_
    obtain ⟨i, hi⟩ := List.getElem?_of_mem hy
    obtain ⟨hi2, rfl⟩ := upto_item hi
    have er : refAt h.size (.int (1 + (i : Int))) = .ref (h.size + i) := by
      unfold refAt
      simp only
      congr 1
      omega
    show (match refAt h.size (.int (1 + (i : Int))) with | .ref a => W0 many (1 + ((a - h.size : Nat) : Int)) bear qs ps late | _ => .non) = _
    rw [er]
    have ei : (h.size + i - h.size : Nat) = i := by omega
    simp only [ei]
    rfl
  rw [el] at e4
  have hz4 : fits (RMS many bear qs ps late) = true := fits_small (by unfold RMS; rw [List.length_map, upto_len]; omega)
  refine ⟨h4.push (.lst (RMS many bear qs ps late)), h4.size, ?_, Mem.get_push_new _ _, k2.trans (k3.trans (k4.trans Kq.push))⟩
  rw [call_eq Z.Rp]
  have ec : rpMaps fM (callD tab k) [some (.ref M), some (.int late), none, none, none] h = .ok ((upto 1 1 6).map (refAt h.size)) h2 := e2
  have ec2 : rpComp fPo (callD tab k) [some (.ref M), some (.int late), some (.ref h2.size), none, none] h3 = .ok (RMS many bear qs ps late) h4 := e4
  generalize (upto 1 1 6).map (refAt h.size) = cs at *
  simp [bRp, runFd, sSeq, sIf, sRet, sExpr, sAsg, sOf, endS, tE, tAnd, tOr, tNot, tYes, eCmp, eVar, eC, eBin, eLen, lenV, cmpop, ltV, icmp, eSub, subV, itemsOf, binop, addV, mulV, mapInt2, eB, gInt, gMax2, gMin2, aCons, aNil, eCall, tgG, gName, gUnp, setAll, eTup, eIf, eAnd, eOr, eNot, Res.bind, ofO, Option.map, sNil, cnd, e0, e1, eNew, ec, hz, hh3, ec2, hz4]
/-! ### the law's own loop over the prices -/
def k3Test : XT := (tOr (tE (eCmp .eq (eVar 11) (eNew (lNew aNil)))) (tOr (tE (eCmp .is_ (eSub (eVar 11) (eC (.int 0))) (eC .non))) (tE (eCmp .gt (eSub (eVar 11) (eC (.int 0))) (eVar 8)))))
def k3Pb : XS := (sIf (tE (eCmp .isnot (eVar 8) (eC .non))) (sSeq (sAsg (eSl (eVar 4) (oSome (eBin .add (eVar 7) (eC (.int 1)))) (oSome (eBin .add (eVar 7) (eC (.int 2))))) (tgG (.nm 11))) (sIf k3Test (sExpr (eApp (eVar 5) (eTup (aCons (eVar 7) (aCons (eVar 8) aNil))))) sNil)) sNil)
def k3Pf : XS := (sFor (iEnum (iOf (eVar 4))) (tgG (.un [7, 8])) k3Pb)
theorem k3_body {C : Calls} {o0 o1 o2 o3 o6 o9 o10 o11 : Option PV} {r R i : Nat} {h0 : Mem} {xs : List PV} {v0 v1 v2 v3 v4 : PV} (hi : i < 5) (i0 : IN v0) (i1 : IN v1) (i2 : IN v2) (i3 : IN v3) (i4 : IN v4) (hr : h.get r = some (.lst [v0, v1, v2, v3, v4])) (g : Gr h0 h R xs) (hl : xs.length ≤ 1000) {v : PV} (hv : [v0, v1, v2, v3, v4][i]? = some v) :
    ∃ o11' h', k3Pb C [o0, o1, o2, o3, some (.ref r), some (.ref R), o6, some (.int i), some v, o9, o10, o11] h = .nx [o0, o1, o2, o3, some (.ref r), some (.ref R), o6, some (.int i), some v, o9, o10, o11'] h' ∧ Gr h0 h' R (xs ++ PPi [v0, v1, v2, v3, v4] i) := by
  have ff : fits xs = true := fits_small (by omega)
  have f2 : ∀ a b : PV, fits [a, b] = true := fun _ _ => rfl
  have f0 : fits ([] : List PV) = true := rfl
  have fin : ∀ (w : PV) (rest : List PV), IN w → (rest = [] ∨ ∃ nx, IN nx ∧ rest = [nx]) → PPi [v0, v1, v2, v3, v4] i = (match w with
      | .int x => match rest with
        | [.int y] => cnd (ilt x y) [.tup [.int i, .int x]] []
        | _ => [.tup [.int i, .int x]]
      | _ => []) → v = w → cut [v0, v1, v2, v3, v4] (some ((i : Int) + 1)) (some ((i : Int) + 2)) = rest →
      ∃ o11' h', k3Pb C [o0, o1, o2, o3, some (.ref r), some (.ref R), o6, some (.int i), some v, o9, o10, o11] h = .nx [o0, o1, o2, o3, some (.ref r), some (.ref R), o6, some (.int i), some v, o9, o10, o11'] h' ∧ Gr h0 h' R (xs ++ PPi [v0, v1, v2, v3, v4] i) := by
    intro w rest hw hn hpp hvw hx
    subst hvw
    rcases hw with rfl | ⟨x, rfl⟩
    · rw [show PPi [v0, v1, v2, v3, v4] i = [] from hpp, List.append_nil]
      exact ⟨o11, h, by simp [k3Pb, runFd, sSeq, sIf, sRet, sExpr, sAsg, sOf, endS, tE, tAnd, tOr, tNot, tYes, eCmp, eVar, eC, eBin, eLen, lenV, cmpop, ltV, icmp, eSub, subV, itemsOf, binop, addV, mulV, mapInt2, eB, gInt, gMax2, gMin2, aCons, aNil, eCall, tgG, gName, gUnp, setAll, eTup, eIf, eAnd, eOr, eNot, Res.bind, ofO, Option.map, sNil, cnd, isV, isNon, onot, bnot], g⟩
    · have k1 : Kq h (h.push (.lst rest)) := Kq.push
      have a1 : (h.push (.lst rest)).get h.size = some (.lst rest) := Mem.get_push_new _ _
      have g1 := g.mk2 k1
      have k2 : Kq (h.push (.lst rest)) ((h.push (.lst rest)).push (.lst [])) := Kq.push
      have a2 := k2.get _ _ a1
      have b2 : ((h.push (.lst rest)).push (.lst [])).get (h.push (.lst rest)).size = some (.lst []) := Mem.get_push_new _ _
      have s1 : (h.push (.lst rest)).size = h.size + 1 := rfl
      have g2 := g1.mk2 k2
      have x10 : ixN 1 0 = some 0 := rfl
      generalize hm1 : h.push (.lst rest) = m1 at *
      generalize hm2 : m1.push (.lst []) = m2 at *
      have app : ∀ y : PV, fits xs = true := fun _ => ff
      rcases hn with hn | ⟨nx, hnx, hn⟩
      · subst hn
        have q := eqv_same a2 b2 (fun x hx => by cases hx)
        rw [show PPi [v0, v1, v2, v3, v4] i = [.tup [.int i, .int x]] from hpp]
        refine ⟨some (.ref h.size), m2.set R (.lst (xs ++ [.tup [.int i, .int x]])), ?_, g2.app⟩
        simp [k3Pb, k3Test, runFd, sSeq, sIf, sRet, sExpr, sAsg, sOf, endS, tE, tAnd, tOr, tNot, tYes, eCmp, eVar, eC, eBin, eLen, lenV, cmpop, ltV, icmp, eSub, subV, itemsOf, binop, addV, mulV, mapInt2, eB, gInt, gMax2, gMin2, aCons, aNil, eCall, tgG, gName, gUnp, setAll, eTup, eIf, eAnd, eOr, eNot, Res.bind, ofO, Option.map, sNil, cnd, isV, isNon, onot, bnot, eSl, oSome, slV, hr, hx, hm1, eNew, lNew, f0, hm2, q, eApp, g2.at_, g2.fr, ff, f2]
      · subst hn
        have q := eqv_cons a2 b2 (fun y hy => by rw [List.mem_singleton.mp hy]; exact hnx.flat)
        rcases hnx with rfl | ⟨y, rfl⟩
        · rw [show PPi [v0, v1, v2, v3, v4] i = [.tup [.int i, .int x]] from hpp]
          refine ⟨some (.ref h.size), m2.set R (.lst (xs ++ [.tup [.int i, .int x]])), ?_, g2.app⟩
          simp [k3Pb, k3Test, runFd, sSeq, sIf, sRet, sExpr, sAsg, sOf, endS, tE, tAnd, tOr, tNot, tYes, eCmp, eVar, eC, eBin, eLen, lenV, cmpop, ltV, icmp, eSub, subV, itemsOf, binop, addV, mulV, mapInt2, eB, gInt, gMax2, gMin2, aCons, aNil, eCall, tgG, gName, gUnp, setAll, eTup, eIf, eAnd, eOr, eNot, Res.bind, ofO, Option.map, sNil, cnd, isV, isNon, onot, bnot, eSl, oSome, slV, hr, hx, hm1, eNew, lNew, f0, hm2, q, a2, x10, eApp, g2.at_, g2.fr, ff, f2]
        · have hpp' : PPi [v0, v1, v2, v3, v4] i = cnd (ilt x y) [.tup [.int i, .int x]] [] := hpp
          rw [hpp']
          cases hc : ilt x y with
          | true =>
            refine ⟨some (.ref h.size), m2.set R (.lst (xs ++ [.tup [.int i, .int x]])), ?_, g2.app⟩
            simp [k3Pb, k3Test, runFd, sSeq, sIf, sRet, sExpr, sAsg, sOf, endS, tE, tAnd, tOr, tNot, tYes, eCmp, eVar, eC, eBin, eLen, lenV, cmpop, ltV, icmp, eSub, subV, itemsOf, binop, addV, mulV, mapInt2, eB, gInt, gMax2, gMin2, aCons, aNil, eCall, tgG, gName, gUnp, setAll, eTup, eIf, eAnd, eOr, eNot, Res.bind, ofO, Option.map, sNil, cnd, isV, isNon, onot, bnot, eSl, oSome, slV, hr, hx, hm1, eNew, lNew, f0, hm2, q, a2, x10, hc, eApp, g2.at_, g2.fr, ff, f2]
          | false =>
            refine ⟨some (.ref h.size), m2, ?_, by show Gr h0 m2 R (xs ++ []); rw [List.append_nil]; exact g2⟩
            simp [k3Pb, k3Test, runFd, sSeq, sIf, sRet, sExpr, sAsg, sOf, endS, tE, tAnd, tOr, tNot, tYes, eCmp, eVar, eC, eBin, eLen, lenV, cmpop, ltV, icmp, eSub, subV, itemsOf, binop, addV, mulV, mapInt2, eB, gInt, gMax2, gMin2, aCons, aNil, eCall, tgG, gName, gUnp, setAll, eTup, eIf, eAnd, eOr, eNot, Res.bind, ofO, Option.map, sNil, cnd, isV, isNon, onot, bnot, eSl, oSome, slV, hr, hx, hm1, eNew, lNew, f0, hm2, q, a2, x10, hc]
  match i, hi, hv with
  | 0, _, hv => exact fin v0 [v1] i0 (.inr ⟨_, i1, rfl⟩) (by cases v0 <;> first | rfl | (cases v1 <;> rfl)) (Option.some.inj hv).symm rfl
  | 1, _, hv => exact fin v1 [v2] i1 (.inr ⟨_, i2, rfl⟩) (by cases v1 <;> first | rfl | (cases v2 <;> rfl)) (Option.some.inj hv).symm rfl
  | 2, _, hv => exact fin v2 [v3] i2 (.inr ⟨_, i3, rfl⟩) (by cases v2 <;> first | rfl | (cases v3 <;> rfl)) (Option.some.inj hv).symm rfl
  | 3, _, hv => exact fin v3 [v4] i3 (.inr ⟨_, i4, rfl⟩) (by cases v3 <;> first | rfl | (cases v4 <;> rfl)) (Option.some.inj hv).symm rfl
  | 4, _, hv => exact fin v4 [] i4 (.inl rfl) (by cases v4 <;> rfl) (Option.some.inj hv).symm rfl
end
end Ev
end

section
set_option Elab.async false
set_option linter.all false
set_option maxRecDepth 100000
/-! Ev: the law of prices. -/
namespace Ev
open PySem PySem.Spec PyProof.Rows L2

structure K3 (tab : List Fd) (it ot : List (Nat × Bool)) (lt : List (Nat × Nat)) (fI fR fRs fPs fB fM fCm fIs fCk fRf fDn fMv fCo fCa fEo fEs fSi fWo fLs fBm fCf fSc fPo fLp fLr fRp fCl fC fD fN fX fP fMp fPl fRo fPr fBx : Nat) (x1 x2 x3 x4 y1 y2 z : XS) : Prop where
  Ot : lookC 0 ot = some true
  L : LW tab lt fC fD fN fX fP
  W : MW tab it lt fI fR fRs fPs fB fM x1 x2 x3 x4
  Q : QW tab fPl fRo fPr fBx
  S : SolW tab fRf fDn fMv fCo fCa fEo fEs fSi fWo fLs fBm
  Z : PW3 tab fI fCm fCk fSi fWo fM fCf fSc fPo fLp fLr fRp fCl z
  Cm : nthF tab fCm = some ⟨1, 1, bCm3 ot y1⟩
  Is : nthF tab fIs = some ⟨2, 7, bIs it lt fI⟩
  Ck : nthF tab fCk = some ⟨2, 2, bCk y2 fCm fIs⟩
  Mp : nthF tab fMp = some ⟨2, 10, bMap fX fP fM⟩
def k3Pr (fSc : Nat) : XA := (lC1 [7] (iR1 (eC (.int 5))) (.nm 7) tYes (eCall fSc (aCons (eVar 3) (aCons (eTup (aCons (eC (.int 0)) (aCons (eC (.int 0)) (aCons (eC (.int 0)) (aCons (eVar 7) aNil))))) aNil))))
def k3If1 (fLp : Nat) : XS := (sIf (tE (eCmp .ne (eCall fLp (aCons (eVar 3) aNil)) (eVar 4))) (sRet (eC (.bl false))) sNil)
def k3If2 (fLr : Nat) : XS := (sIf (tE (eCmp .ne (eCall fLr (aCons (eVar 3) aNil)) (eVar 5))) (sRet (eC (.bl false))) sNil)
def k3Dr (fX : Nat) : XS := (sAsg (eTup (aCons (eCall fX (aCons (eVar 2) (aCons (eC (.int 5)) aNil))) (aCons (eNew (lNew aNil)) aNil))) (tgG (.un [7, 9])))
def k3Rb1 (fPl fRo fPr fBx fM : Nat) : XS := (sAsg (eMake 0 fM 4 (aCons (eFld [(0, .prop fPl)] (eVar 3)) (aCons (eFld [(0, .prop fRo)] (eVar 3)) (aCons (eFld [(0, .prop fPr)] (eVar 3)) (aCons (eTup (aCons (eVar 6) (aCons (eSub (eFld [(0, .prop fBx)] (eVar 3)) (eC (.int 1))) aNil))) aNil))))) (tgG (.nm 10)))
def k3Rb2 (fSc : Nat) : XS := (sExpr (eApp (eVar 9) (eCall fSc (aCons (eVar 10) (aCons (eTup (aCons (eC (.int 0)) (aCons (eC (.int 0)) (aCons (eC (.int 0)) (aCons (eVar 7) aNil))))) aNil)))))
def k3Rf (fPl fRo fPr fBx fM fSc : Nat) : XS := (sFor (iR2 (eC (.int 1)) (eC (.int 7))) (tgG (.nm 6)) (sSeq (k3Rb1 fPl fRo fPr fBx fM) (k3Rb2 fSc)))
def k3If3 (fRp : Nat) : XS := (sIf (tE (eCmp .ne (eCall fRp (aCons (eVar 3) (aCons (eVar 7) aNil))) (eVar 9))) (sRet (eC (.bl false))) sNil)
def k3Out (fMp fSc fLp fLr fX fPl fRo fPr fBx fM fRp : Nat) : XS := (sSeq (sAsg (eNew (lNew (aCons (eVar 0) (aCons (eVar 1) (aCons (eC (.int 0)) aNil))))) (tgG (.nm 2))) (sSeq (sAsg (eCall fMp (aCons (eVar 2) (aCons (eC (.int 4)) aNil))) (tgG (.nm 3))) (sSeq (sAsg (eNew (k3Pr fSc)) (tgG (.nm 4))) (sSeq (k3If1 fLp) (sSeq (sAsg (eNew (lNew aNil)) (tgG (.nm 5))) (sSeq k3Pf (sSeq (k3If2 fLr) (sSeq (k3Dr fX) (sSeq (k3Rf fPl fRo fPr fBx fM fSc) (k3If3 fRp))))))))))
def k3Rng (lt : List (Nat × Nat)) : XI := (iR3 (eC (.int 0)) (eB gMax2 (aCons (eC (.int 1)) (aCons (eB gMin2 (aCons (eC (.int 8)) (aCons (eLen lt (eVar 0)) aNil))) aNil))) (eC (.int 4)))
def bK3 (lt : List (Nat × Nat)) (fMp fSc fLp fLr fX fPl fRo fPr fBx fM fRp : Nat) : XS := (sSeq (sFor (k3Rng lt) (tgG (.nm 1)) (k3Out fMp fSc fLp fLr fX fPl fRo fPr fBx fM fRp)) (sRet (eC (.bl true))))
section
variable {tab : List Fd} {it ot : List (Nat × Bool)} {lt : List (Nat × Nat)} {fI fR fRs fPs fB fM fCm fIs fCk fRf fDn fMv fCo fCa fEo fEs fSi fWo fLs fBm fCf fSc fPo fLp fLr fRp fCl fC fD fN fX fP fMp fPl fRo fPr fBx fL K M D : Nat} {x1 x2 x3 x4 y1 y2 z : XS} {h h' : Mem} {many room bear p i u l late : Int} {qs : List (List Int)} {ps : List PV} {ns : List Int}
theorem rms_in : ∀ x ∈ RMS many bear qs ps late, IN x := fun x hx => by
  obtain ⟨y, _, rfl⟩ := List.mem_map.mp hx
  unfold rmv
  split
  · exact Wv_in _ _
  · exact .inl rfl
theorem prs_in : ∀ x ∈ PRS many room bear qs ps, IN x := fun x hx => by
  obtain ⟨y, _, rfl⟩ := List.mem_map.mp hx
  unfold prv
  split
  · exact Wv_in _ _
  · exact .inl rfl
theorem k3Pr_ok (k3 : K3 tab it ot lt fI fR fRs fPs fB fM fCm fIs fCk fRf fDn fMv fCo fCa fEo fEs fSi fWo fLs fBm fCf fSc fPo fLp fLr fRp fCl fC fD fN fX fP fMp fPl fRo fPr fBx x1 x2 x3 x4 y1 y2 z) (hK : 23 ≤ K) (hlk : Lks h) (hm : h.get M = some (mapOb many room bear qs ps)) (mo : MapOk many room bear qs ps) {o0 o1 o2 o4 o5 o6 o7 o8 o9 o10 o11 : Option PV} :
    ∃ h', k3Pr fSc (callD tab K) [o0, o1, o2, some (.ref M), o4, o5, o6, o7, o8, o9, o10, o11] h = .ok (PRS many room bear qs ps) h' ∧ Kq h h' := by
  have f4 : ∀ a b c d : PV, fits [a, b, c, d] = true := fun _ _ _ _ => rfl
  exact lC1_kq (C := callD tab K) (s := [o0, o1, o2, some (.ref M), o4, o5, o6, o7, o8, o9, o10, o11]) (h := h) (own := [7]) (i := iR1 (eC (.int 5))) (g := .nm 7) (e := eCall fSc (aCons (eVar 3) (aCons (eTup (aCons (eC (.int 0)) (aCons (eC (.int 0)) (aCons (eC (.int 0)) (aCons (eVar 7) aNil))))) aNil))) (xs := upto 0 1 5) (ls := []) (F := prv many room bear qs ps)
    (h1 := h) (by simp [iR1, runFd, sSeq, sIf, sRet, sExpr, sAsg, sOf, endS, tE, tAnd, tOr, tNot, tYes, eCmp, eVar, eC, eBin, eLen, lenV, cmpop, ltV, icmp, eSub, subV, itemsOf, binop, addV, mulV, mapInt2, eB, gInt, gMax2, gMin2, aCons, aNil, eCall, tgG, gName, gUnp, setAll, eTup, eIf, eAnd, eOr, eNot, Res.bind, ofO, Option.map, sNil, cnd, lt62_t]) (fun x hx m q => by
      obtain ⟨i, hi⟩ := List.getElem?_of_mem hx
      obtain ⟨hi2, ex⟩ := upto_item hi
      subst ex
      have q' : Kq h m := q
      obtain ⟨m', em, km⟩ := sc_ok (K := K) (h := m) (l := 0 + (i : Int)) k3.Ot k3.S k3.Z.Cf k3.Z.Sc k3.W.I k3.Cm k3.Is k3.Ck (by omega) (hlk.kq q') (q'.get _ _ hm) mo (so_start mo (by omega))
      exact ⟨m', by simp [turn1, runFd, sSeq, sIf, sRet, sExpr, sAsg, sOf, endS, tE, tAnd, tOr, tNot, tYes, eCmp, eVar, eC, eBin, eLen, lenV, cmpop, ltV, icmp, eSub, subV, itemsOf, binop, addV, mulV, mapInt2, eB, gInt, gMax2, gMin2, aCons, aNil, eCall, tgG, gName, gUnp, setAll, eTup, eIf, eAnd, eOr, eNot, Res.bind, ofO, Option.map, sNil, cnd, lC1.wipeV, f4] at em ⊢; simp [em, prv], km⟩) (by rw [upto_len]; omega)
theorem k3Room_ok (k3 : K3 tab it ot lt fI fR fRs fPs fB fM fCm fIs fCk fRf fDn fMv fCo fCa fEo fEs fSi fWo fLs fBm fCf fSc fPo fLp fLr fRp fCl fC fD fN fX fP fMp fPl fRo fPr fBx x1 x2 x3 x4 y1 y2 z) (hK : 24 ≤ K) {h0 : Mem} (hl0 : h0.locks = []) (hm : h0.get M = some (mapOb many room bear qs ps)) (mo : MapOk many room bear qs ps) (hl : 0 ≤ late ∧ late ≤ 4)
    {R i : Nat} {xs : List PV} (hi : i < 6) (g : Gr h0 h R xs) (hxl : xs.length ≤ 100) {o0 o1 o2 o4 o5 o8 o10 o11 : Option PV} :
    ∃ o10' h', (sSeq (k3Rb1 fPl fRo fPr fBx fM) (k3Rb2 fSc)) (callD tab K) [o0, o1, o2, some (.ref M), o4, o5, some (.int (1 + (i : Int))), some (.int late), o8, some (.ref R), o10, o11] h = .nx [o0, o1, o2, some (.ref M), o4, o5, some (.int (1 + (i : Int))), some (.int late), o8, some (.ref R), o10', o11] h' ∧
      Gr h0 h' R (xs ++ [rmv many bear qs ps late (.int (1 + (i : Int)))]) := by
  have hmm := g.get _ _ hm
  have hmr : h.get M = some (.ins 0 [some (.tup [.int room, .int bear]), some (.tup (qs.map tupI)), some (.int many), some (.tup ps)]) := hmm
  have a1 := pl_ok (K := K) k3.Q (by omega) hmm
  have a2 := ro_ok (K := K) k3.Q (by omega) hmm
  have a3 := pr_ok' (K := K) k3.Q (by omega) hmm
  have a4 := bx_ok (K := K) k3.Q (by omega) hmm
  have hlh : h.locks = [] := g.lk.trans hl0
  obtain ⟨m1, em, gm, sm, lm, dm, keep⟩ := init_ok (K := K) (h := h) k3.W (by omega) hlh (mo_room mo (r := 1 + (i : Int)) ⟨by omega, by omega⟩)
  have k1 : Kq h m1 := ⟨by omega, lm, dm, fun n o e => by rw [keep n (Mem.get_lt e)]; exact e⟩
  have hlk1 : Lks m1 := fun n hn => by rw [lm, hlh] at hn; cases hn
  obtain ⟨m2, e2, k2⟩ := sc_ok (K := K) (h := m1) (l := late) k3.Ot k3.S k3.Z.Cf k3.Z.Sc k3.W.I k3.Cm k3.Is k3.Ck (by omega) hlk1 gm (mo_room mo (r := 1 + (i : Int)) ⟨by omega, by omega⟩) (so_start (mo_room mo (r := 1 + (i : Int)) ⟨by omega, by omega⟩) hl)
  have g1 := g.mk2 k1
  have g2 := g1.mk2 k2
  have y1 : ixN 2 1 = some 1 := rfl
  have f2 : ∀ a b : PV, fits [a, b] = true := fun _ _ => rfl
  have f4 : ∀ a b c d : PV, fits [a, b, c, d] = true := fun _ _ _ _ => rfl
  have ff : fits xs = true := fits_small (by omega)
  refine ⟨some (.ref h.size), m2.set R (.lst (xs ++ [rmv many bear qs ps late (.int (1 + (i : Int)))])), ?_, g2.app⟩
  have r1 : k3Rb1 fPl fRo fPr fBx fM (callD tab K) [o0, o1, o2, some (.ref M), o4, o5, some (.int (1 + (i : Int))), some (.int late), o8, some (.ref R), o10, o11] h = .nx [o0, o1, o2, some (.ref M), o4, o5, some (.int (1 + (i : Int))), some (.int late), o8, some (.ref R), some (.ref h.size), o11] m1 := by
    simp [k3Rb1, runFd, sSeq, sIf, sRet, sExpr, sAsg, sOf, endS, tE, tAnd, tOr, tNot, tYes, eCmp, eVar, eC, eBin, eLen, lenV, cmpop, ltV, icmp, eSub, subV, itemsOf, binop, addV, mulV, mapInt2, eB, gInt, gMax2, gMin2, aCons, aNil, eCall, tgG, gName, gUnp, setAll, eTup, eIf, eAnd, eOr, eNot, Res.bind, ofO, Option.map, sNil, cnd, eFld, fldV, lookC, hmr, noErr, a1, a2, a3, a4, y1, f2, eMake, em]
  have r2 : k3Rb2 fSc (callD tab K) [o0, o1, o2, some (.ref M), o4, o5, some (.int (1 + (i : Int))), some (.int late), o8, some (.ref R), some (.ref h.size), o11] m1 = .nx [o0, o1, o2, some (.ref M), o4, o5, some (.int (1 + (i : Int))), some (.int late), o8, some (.ref R), some (.ref h.size), o11] (m2.set R (.lst (xs ++ [rmv many bear qs ps late (.int (1 + (i : Int)))]))) := by
    simp [k3Rb2, runFd, sSeq, sIf, sRet, sExpr, sAsg, sOf, endS, tE, tAnd, tOr, tNot, tYes, eCmp, eVar, eC, eBin, eLen, lenV, cmpop, ltV, icmp, eSub, subV, itemsOf, binop, addV, mulV, mapInt2, eB, gInt, gMax2, gMin2, aCons, aNil, eCall, tgG, gName, gUnp, setAll, eTup, eIf, eAnd, eOr, eNot, Res.bind, ofO, Option.map, sNil, cnd, eApp, g1.at_, f4, e2, g2.at_, ff, g2.fr, rmv]
  unfold sSeq
  rw [r1]
  simp only
  rw [r2]
theorem upto_succ1 : ∀ (n : Nat) (lo : Int), upto lo 1 (n + 1) = upto lo 1 n ++ [.int (lo + n)] := upto_succ
theorem k3Rf_ok (k3 : K3 tab it ot lt fI fR fRs fPs fB fM fCm fIs fCk fRf fDn fMv fCo fCa fEo fEs fSi fWo fLs fBm fCf fSc fPo fLp fLr fRp fCl fC fD fN fX fP fMp fPl fRo fPr fBx x1 x2 x3 x4 y1 y2 z) (hK : 24 ≤ K) {h0 : Mem} (hl0 : h0.locks = []) (hm : h0.get M = some (mapOb many room bear qs ps)) (mo : MapOk many room bear qs ps) (hl : 0 ≤ late ∧ late ≤ 4)
    {R : Nat} (g : Gr h0 h R []) {o0 o1 o2 o4 o5 o6 o8 o10 o11 : Option PV} :
    ∃ o6' o10' h', k3Rf fPl fRo fPr fBx fM fSc (callD tab K) [o0, o1, o2, some (.ref M), o4, o5, o6, some (.int late), o8, some (.ref R), o10, o11] h = .nx [o0, o1, o2, some (.ref M), o4, o5, o6', some (.int late), o8, some (.ref R), o10', o11] h' ∧ Gr h0 h' R (RMS many bear qs ps late) := by
  obtain ⟨s', h', e, a6, a10, es, g'⟩ := sFor_inv (C := callD tab K) (g := tgG (.nm 6)) (b := sSeq (k3Rb1 fPl fRo fPr fBx fM) (k3Rb2 fSc)) (i := iR2 (eC (.int 1)) (eC (.int 7))) (xs := upto 1 1 6) (h := h) (h0 := h) (s := [o0, o1, o2, some (.ref M), o4, o5, o6, some (.int late), o8, some (.ref R), o10, o11])
    (P := fun i s m => ∃ (a6 a10 : Option PV), s = [o0, o1, o2, some (.ref M), o4, o5, a6, some (.int late), o8, some (.ref R), a10, o11] ∧ Gr h0 m R ((upto 1 1 i).map (rmv many bear qs ps late))) (by simp [iR2, runFd, sSeq, sIf, sRet, sExpr, sAsg, sOf, endS, tE, tAnd, tOr, tNot, tYes, eCmp, eVar, eC, eBin, eLen, lenV, cmpop, ltV, icmp, eSub, subV, itemsOf, binop, addV, mulV, mapInt2, eB, gInt, gMax2, gMin2, aCons, aNil, eCall, tgG, gName, gUnp, setAll, eTup, eIf, eAnd, eOr, eNot, Res.bind, ofO, Option.map, sNil, cnd, lt62_t]) ⟨o6, o10, rfl, g⟩ (fun i x s m hx ⟨a6, a10, es, gg⟩ => by
      subst es
      obtain ⟨hi, rfl⟩ := upto_item hx
      obtain ⟨o10', h', e, g'⟩ := k3Room_ok k3 hK hl0 hm mo hl (o0 := o0) (o1 := o1) (o2 := o2) (o4 := o4) (o5 := o5) (o8 := o8) (o10 := a10) (o11 := o11) hi gg (by rw [List.length_map, upto_len]; omega)
      refine ⟨_, h', ?_, some (.int (1 + (i : Int))), o10', rfl, ?_⟩
      · simp only [tgG, gName, sOf_ok]
        exact e
      · rw [upto_succ1, List.map_append]
        exact g')
  subst es
  have hlen : (upto 1 1 6).length = 6 := upto_len _ _ _
  rw [hlen] at g'
  exact ⟨a6, a10, h', e, g'⟩
theorem gr_new (hlk : Lks h) : Gr h (h.push (.lst [])) h.size [] :=
  ⟨Mem.get_push_new _ _, Mem.free_iff.mpr fun q => by have := hlk _ q; omega, Nat.le_refl _, rfl, rfl, by simp, fun n o e => Mem.get_push e⟩
theorem Kq.kpr {D : Nat} (k : Kq h h') : Kp D h h' := k.kp
/-- one turn of the law -/
theorem k3Out_ok (k3 : K3 tab it ot lt fI fR fRs fPs fB fM fCm fIs fCk fRf fDn fMv fCo fCa fEo fEs fSi fWo fLs fBm fCf fSc fPo fLp fLr fRp fCl fC fD fN fX fP fMp fPl fRo fPr fBx x1 x2 x3 x4 y1 y2 z) (hK : 25 ≤ K) (hl0 : h.locks = []) (hs : h.get 0 = some (.scr (ns.map PV.int))) {b : Int} (hb : 0 ≤ b) {o2 o3 o4 o5 o6 o7 o8 o9 o10 o11 : Option PV} :
    ∃ s' h', k3Out fMp fSc fLp fLr fX fPl fRo fPr fBx fM fRp (callD tab K) [some (.ref 0), some (.int b), o2, o3, o4, o5, o6, o7, o8, o9, o10, o11] h = .nx s' h' ∧ (∃ (a1 a2 a3 a4 a5 a6 a7 a8 a9 a10 a11 : Option PV), s' = [some (.ref 0), a1, a2, a3, a4, a5, a6, a7, a8, a9, a10, a11]) ∧ h'.get 0 = some (.scr (ns.map PV.int)) ∧ h'.locks = [] := by
  have f3 : ∀ a b c : PV, fits [a, b, c] = true := fun _ _ _ => rfl
  have f0 : fits ([] : List PV) = true := rfl
  have f2 : ∀ a b : PV, fits [a, b] = true := fun _ _ => rfl
  have dd : DRx ns (h.push (.lst [.ref 0, .int b, .int 0])) h.size := ⟨b, 0, Mem.get_push hs, Mem.get_push_new _ _, by unfold Mem.free; rw [Mem.locks_push, hl0]; rfl, by omega, by omega⟩
  have kd0 : Kq h (h.push (.lst [.ref 0, .int b, .int 0])) := Kq.push
  have sz0 : (h.push (.lst [.ref 0, .int b, .int 0])).size = h.size + 1 := rfl
  generalize hm0 : h.push (.lst [.ref 0, .int b, .int 0]) = m0 at *
  have ml0 : m0.locks = [] := kd0.lk.trans hl0
  have z0 := Mem.get_lt hs
  obtain ⟨m1, M, many, room, bear, qs, ps, e1, g1, mo, d1, k1, hM⟩ := map_ok (K := K) k3.L k3.W k3.Mp (by omega) ml0 dd (places := 4) (by omega)
  have ml1 : m1.locks = [] := k1.lk.trans ml0
  have hne : M ≠ h.size := by omega
  have hn0 : (0 : Nat) ≠ h.size := by omega
  have lk1 : Lks m1 := fun n hn => by rw [ml1] at hn; cases hn
  obtain ⟨m2, e2, k2⟩ := k3Pr_ok (K := K) k3 (by omega) lk1 g1 mo (o0 := some (.ref 0)) (o1 := some (.int b)) (o2 := some (.ref h.size)) (o4 := o4) (o5 := o5) (o6 := o6) (o7 := o7) (o8 := o8) (o9 := o9) (o10 := o10) (o11 := o11)
  have hz2 : fits (PRS many room bear qs ps) = true := fits_small (by unfold PRS; rw [List.length_map, upto_len]; omega)
  have k3' : Kq m2 (m2.push (.lst (PRS many room bear qs ps))) := Kq.push
  have p3 : (m2.push (.lst (PRS many room bear qs ps))).get m2.size = some (.lst (PRS many room bear qs ps)) := Mem.get_push_new _ _
  have st3 : sAsg (eNew (k3Pr fSc)) (tgG (.nm 4)) (callD tab K) [some (.ref 0), some (.int b), some (.ref h.size), some (.ref M), o4, o5, o6, o7, o8, o9, o10, o11] m1 = .nx [some (.ref 0), some (.int b), some (.ref h.size), some (.ref M), some (.ref m2.size), o5, o6, o7, o8, o9, o10, o11] (m2.push (.lst (PRS many room bear qs ps))) := by
    simp [runFd, sSeq, sIf, sRet, sExpr, sAsg, sOf, endS, tE, tAnd, tOr, tNot, tYes, eCmp, eVar, eC, eBin, eLen, lenV, cmpop, ltV, icmp, eSub, subV, itemsOf, binop, addV, mulV, mapInt2, eB, gInt, gMax2, gMin2, aCons, aNil, eCall, tgG, gName, gUnp, setAll, eTup, eIf, eAnd, eOr, eNot, Res.bind, ofO, Option.map, sNil, cnd, eNew, e2, hz2]
  generalize m2.push (.lst (PRS many room bear qs ps)) = m3 at *
  have kk3 := k2.trans k3'
  obtain ⟨m4, r4, e4, q4, k4, _⟩ := lp_ok (K := K) (h := m3) k3.Ot k3.S k3.Z k3.Cm (by omega) (lk1.kq kk3) (kk3.get _ _ g1) mo
  have p4 := k4.get _ _ p3
  have s4 : k3If1 fLp (callD tab K) [some (.ref 0), some (.int b), some (.ref h.size), some (.ref M), some (.ref m2.size), o5, o6, o7, o8, o9, o10, o11] m3 = .nx [some (.ref 0), some (.int b), some (.ref h.size), some (.ref M), some (.ref m2.size), o5, o6, o7, o8, o9, o10, o11] m4 := by
    have q := eqv_same q4 p4 (fun x hx => (prs_in x hx).flat)
    simp [k3If1, runFd, sSeq, sIf, sRet, sExpr, sAsg, sOf, endS, tE, tAnd, tOr, tNot, tYes, eCmp, eVar, eC, eBin, eLen, lenV, cmpop, ltV, icmp, eSub, subV, itemsOf, binop, addV, mulV, mapInt2, eB, gInt, gMax2, gMin2, aCons, aNil, eCall, tgG, gName, gUnp, setAll, eTup, eIf, eAnd, eOr, eNot, Res.bind, ofO, Option.map, sNil, cnd, e4, q, onot, bnot]
  have kk4 := kk3.trans k4
  have lk4 := lk1.kq kk4
  have g5 := gr_new lk4
  have st5 : sAsg (eNew (lNew aNil)) (tgG (.nm 5)) (callD tab K) [some (.ref 0), some (.int b), some (.ref h.size), some (.ref M), some (.ref m2.size), o5, o6, o7, o8, o9, o10, o11] m4 = .nx [some (.ref 0), some (.int b), some (.ref h.size), some (.ref M), some (.ref m2.size), some (.ref m4.size), o6, o7, o8, o9, o10, o11] (m4.push (.lst [])) := by
    simp [runFd, sSeq, sIf, sRet, sExpr, sAsg, sOf, endS, tE, tAnd, tOr, tNot, tYes, eCmp, eVar, eC, eBin, eLen, lenV, cmpop, ltV, icmp, eSub, subV, itemsOf, binop, addV, mulV, mapInt2, eB, gInt, gMax2, gMin2, aCons, aNil, eCall, tgG, gName, gUnp, setAll, eTup, eIf, eAnd, eOr, eNot, Res.bind, ofO, Option.map, sNil, cnd, eNew, lNew, f0]
  have p5 : (m4.push (.lst [])).get m2.size = some (.lst (PRS many room bear qs ps)) := Mem.get_push p4
  have r5 : m2.size < m4.size := Mem.get_lt p4
  generalize hm5 : m4.push (.lst []) = m5 at *
  have gr : Gr (m4.lock [m2.size]) (m5.lock [m2.size]) m4.size [] :=
    ⟨g5.at_, Mem.free_iff.mpr fun q => by
      rcases List.mem_append.mp q with q | q
      · have := List.mem_singleton.mp q
        omega
      · rw [g5.lk] at q
        have := lk4 _ q
        omega, Nat.le_refl _, by rw [Mem.locks_lock, Mem.locks_lock, g5.lk], g5.ld, g5.sz, g5.get⟩
  obtain ⟨v0, v1, v2, v3, v4, ev, i0, i1, i2, i3, i4⟩ := prs_five (many := many) (room := room) (bear := bear) (qs := qs) (ps := ps)
  have hsz : (m4.lock [m2.size]).get m2.size = some (.lst [v0, v1, v2, v3, v4]) := by rw [← ev]; exact p4
  have st6 : ∃ a7 a8 a11 m6, k3Pf (callD tab K) [some (.ref 0), some (.int b), some (.ref h.size), some (.ref M), some (.ref m2.size), some (.ref m4.size), o6, o7, o8, o9, o10, o11] m5 = .nx [some (.ref 0), some (.int b), some (.ref h.size), some (.ref M), some (.ref m2.size), some (.ref m4.size), o6, a7, a8, o9, o10, a11] m6 ∧ Kq m4 m6 ∧ m6.get m4.size = some (.lst (PPs (PRS many room bear qs ps) 5)) := by
    obtain ⟨s', h3, e3, a7, a8, a11, es, g3⟩ := sFor_invL (C := callD tab K) (g := tgG (.un [7, 8])) (b := k3Pb) (i := iEnum (iOf (eVar 4))) (xs := pairsI 0 [v0, v1, v2, v3, v4]) (ls := [m2.size]) (s := [some (.ref 0), some (.int b), some (.ref h.size), some (.ref M), some (.ref m2.size), some (.ref m4.size), o6, o7, o8, o9, o10, o11]) (h := m5) (h0 := m5)
      (P := fun i s mm => ∃ (a7 a8 a11 : Option PV), s = [some (.ref 0), some (.int b), some (.ref h.size), some (.ref M), some (.ref m2.size), some (.ref m4.size), o6, a7, a8, o9, o10, a11] ∧ Gr (m4.lock [m2.size]) mm m4.size (PPs [v0, v1, v2, v3, v4] i)) (by rw [ev] at p5; simp [iEnum, iOf, eVar, Res.bind, p5]) ⟨o7, o8, o11, rfl, gr⟩ (fun i x s mm hx ⟨a7, a8, a11, es, g⟩ => by
        subst es
        obtain ⟨v, hv, rfl⟩ := pairsI_at hx
        have hi : i < 5 := by
          have := (List.getElem?_eq_some_iff.mp hv).1
          simpa using this
        obtain ⟨o11', h', e, g'⟩ := k3_body (C := callD tab K) (o0 := some (.ref 0)) (o1 := some (.int b)) (o2 := some (.ref h.size)) (o3 := some (.ref M)) (o6 := o6) (o9 := o9) (o10 := o10) (o11 := a11) hi i0 i1 i2 i3 i4 (g.get _ _ hsz) g (by have := PPs_len [v0, v1, v2, v3, v4] i; omega) hv
        refine ⟨_, h', ?_, some (.int i), some v, o11', rfl, g'⟩
        have eg : tgG (.un [7, 8]) (callD tab K) (.tup [.int (i : Nat), v]) [some (.ref 0), some (.int b), some (.ref h.size), some (.ref M), some (.ref m2.size), some (.ref m4.size), o6, a7, a8, o9, o10, a11] mm = .ok [some (.ref 0), some (.int b), some (.ref h.size), some (.ref M), some (.ref m2.size), some (.ref m4.size), o6, some (.int (i : Nat)), some v, o9, o10, a11] mm := rfl
        rw [eg]
        simp only [sOf_ok]
        exact e)
    subst es
    have hlen : (pairsI 0 [v0, v1, v2, v3, v4]).length = 5 := rfl
    rw [hlen] at g3
    exact ⟨a7, a8, a11, h3.unlock [m2.size], e3, kq_unlock g3.kq, by rw [ev]; exact g3.at_⟩
  obtain ⟨a7, a8, a11, m6, s6, k6, p6⟩ := st6
  have kk6 := kk4.trans k6
  obtain ⟨m7, r7, e7, q7, k7⟩ := lr_ok (K := K) (h := m6) k3.Ot k3.S k3.Z k3.Cm (by omega) (lk1.kq kk6) (kk6.get _ _ g1) mo
  have p7 := k7.get _ _ p6
  have s7 : k3If2 fLr (callD tab K) [some (.ref 0), some (.int b), some (.ref h.size), some (.ref M), some (.ref m2.size), some (.ref m4.size), o6, a7, a8, o9, o10, a11] m6 = .nx [some (.ref 0), some (.int b), some (.ref h.size), some (.ref M), some (.ref m2.size), some (.ref m4.size), o6, a7, a8, o9, o10, a11] m7 := by
    have q := eqv_same q7 p7 (PPs_flat _ 5)
    simp [k3If2, runFd, sSeq, sIf, sRet, sExpr, sAsg, sOf, endS, tE, tAnd, tOr, tNot, tYes, eCmp, eVar, eC, eBin, eLen, lenV, cmpop, ltV, icmp, eSub, subV, itemsOf, binop, addV, mulV, mapInt2, eB, gInt, gMax2, gMin2, aCons, aNil, eCall, tgG, gName, gUnp, setAll, eTup, eIf, eAnd, eOr, eNot, Res.bind, ofO, Option.map, sNil, cnd, e7, q, onot, bnot]
  have kk7 := kk6.trans k7
  have d7 := kk7.dr d1
  obtain ⟨late, m8, e8, l0, l1, d8, k8⟩ := nx (K := K) k3.L (by omega) d7 (m := 5) (by decide)
  have ml7 : m7.locks = [] := kk7.lk.trans ml1
  have ml8 : m8.locks = [] := k8.lk.trans ml7
  have lk8 : Lks m8 := fun n hn => by rw [ml8] at hn; cases hn
  have g8 := k8.get _ _ hne (kk7.get _ _ g1)
  have s8 : k3Dr fX (callD tab K) [some (.ref 0), some (.int b), some (.ref h.size), some (.ref M), some (.ref m2.size), some (.ref m4.size), o6, a7, a8, o9, o10, a11] m7 = .nx [some (.ref 0), some (.int b), some (.ref h.size), some (.ref M), some (.ref m2.size), some (.ref m4.size), o6, some (.int late), a8, some (.ref m8.size), o10, a11] (m8.push (.lst [])) := by
    simp [k3Dr, runFd, sSeq, sIf, sRet, sExpr, sAsg, sOf, endS, tE, tAnd, tOr, tNot, tYes, eCmp, eVar, eC, eBin, eLen, lenV, cmpop, ltV, icmp, eSub, subV, itemsOf, binop, addV, mulV, mapInt2, eB, gInt, gMax2, gMin2, aCons, aNil, eCall, tgG, gName, gUnp, setAll, eTup, eIf, eAnd, eOr, eNot, Res.bind, ofO, Option.map, sNil, cnd, e8, eNew, lNew, f0, f2]
  obtain ⟨a6, a10, m10, s10, g10⟩ := k3Rf_ok (K := K) k3 (by omega) ml8 g8 mo (late := late) ⟨l0, by omega⟩ (gr_new lk8) (o0 := some (.ref 0)) (o1 := some (.int b)) (o2 := some (.ref h.size)) (o4 := some (.ref m2.size)) (o5 := some (.ref m4.size)) (o6 := o6) (o8 := a8) (o10 := o10) (o11 := a11)
  obtain ⟨m11, r11, e11, q11, k11⟩ := rp_ok (K := K) (h := m10) (late := late) k3.Ot k3.W k3.S k3.Z k3.Cm (by omega) (g10.lk.trans ml8) (g10.get _ _ g8) mo ⟨l0, by omega⟩
  have p11 := k11.get _ _ g10.at_
  have s11 : k3If3 fRp (callD tab K) [some (.ref 0), some (.int b), some (.ref h.size), some (.ref M), some (.ref m2.size), some (.ref m4.size), a6, some (.int late), a8, some (.ref m8.size), a10, a11] m10 = .nx [some (.ref 0), some (.int b), some (.ref h.size), some (.ref M), some (.ref m2.size), some (.ref m4.size), a6, some (.int late), a8, some (.ref m8.size), a10, a11] m11 := by
    have q := eqv_same q11 p11 (fun x hx => (rms_in x hx).flat)
    simp [k3If3, runFd, sSeq, sIf, sRet, sExpr, sAsg, sOf, endS, tE, tAnd, tOr, tNot, tYes, eCmp, eVar, eC, eBin, eLen, lenV, cmpop, ltV, icmp, eSub, subV, itemsOf, binop, addV, mulV, mapInt2, eB, gInt, gMax2, gMin2, aCons, aNil, eCall, tgG, gName, gUnp, setAll, eTup, eIf, eAnd, eOr, eNot, Res.bind, ofO, Option.map, sNil, cnd, e11, q, onot, bnot]
  refine ⟨[some (.ref 0), some (.int b), some (.ref h.size), some (.ref M), some (.ref m2.size), some (.ref m4.size), a6, some (.int late), a8, some (.ref m8.size), a10, a11], m11, ?_, ⟨some (.int b), some (.ref h.size), some (.ref M), some (.ref m2.size), some (.ref m4.size), a6, some (.int late), a8, some (.ref m8.size), a10, a11, rfl⟩, ?_, ?_⟩
  · have st1 : sAsg (eNew (lNew (aCons (eVar 0) (aCons (eVar 1) (aCons (eC (.int 0)) aNil))))) (tgG (.nm 2)) (callD tab K) [some (.ref 0), some (.int b), o2, o3, o4, o5, o6, o7, o8, o9, o10, o11] h = .nx [some (.ref 0), some (.int b), some (.ref h.size), o3, o4, o5, o6, o7, o8, o9, o10, o11] m0 := by
      simp [runFd, sSeq, sIf, sRet, sExpr, sAsg, sOf, endS, tE, tAnd, tOr, tNot, tYes, eCmp, eVar, eC, eBin, eLen, lenV, cmpop, ltV, icmp, eSub, subV, itemsOf, binop, addV, mulV, mapInt2, eB, gInt, gMax2, gMin2, aCons, aNil, eCall, tgG, gName, gUnp, setAll, eTup, eIf, eAnd, eOr, eNot, Res.bind, ofO, Option.map, sNil, cnd, eNew, lNew, f3, hm0]
    have st2 : sAsg (eCall fMp (aCons (eVar 2) (aCons (eC (.int 4)) aNil))) (tgG (.nm 3)) (callD tab K) [some (.ref 0), some (.int b), some (.ref h.size), o3, o4, o5, o6, o7, o8, o9, o10, o11] m0 = .nx [some (.ref 0), some (.int b), some (.ref h.size), some (.ref M), o4, o5, o6, o7, o8, o9, o10, o11] m1 := by
      simp [runFd, sSeq, sIf, sRet, sExpr, sAsg, sOf, endS, tE, tAnd, tOr, tNot, tYes, eCmp, eVar, eC, eBin, eLen, lenV, cmpop, ltV, icmp, eSub, subV, itemsOf, binop, addV, mulV, mapInt2, eB, gInt, gMax2, gMin2, aCons, aNil, eCall, tgG, gName, gUnp, setAll, eTup, eIf, eAnd, eOr, eNot, Res.bind, ofO, Option.map, sNil, cnd, e1]
    have sq : ∀ {a c : XS} {C : Calls} {s s1 : Env} {h h1 : Mem}, a C s h = .nx s1 h1 → sSeq a c C s h = c C s1 h1 := fun e => by unfold sSeq; rw [e]
    unfold k3Out
    rw [sq st1, sq st2, sq st3, sq s4, sq st5, sq s6, sq s7, sq s8, sq s10, s11]
  · have z1 := k1.get _ _ hn0 (kd0.get _ _ hs)
    exact k11.get _ _ (g10.get _ _ (k8.get _ _ hn0 (kk7.get _ _ z1)))
  · exact k11.lk.trans (g10.lk.trans ml8)
def mn8 (n : Int) : Int := cnd (ilt n 8) n 8
theorem mn8_le (n : Int) : mn8 n ≤ 16 := by
  unfold mn8
  cases c : ilt n 8 with
  | true =>
    have := ilt_iff.mp c
    show n ≤ 16
    omega
  | false => show (8 : Int) ≤ 16; decide
theorem k3_ok (k3 : K3 tab it ot lt fI fR fRs fPs fB fM fCm fIs fCk fRf fDn fMv fCo fCa fEo fEs fSi fWo fLs fBm fCf fSc fPo fLp fLr fRp fCl fC fD fN fX fP fMp fPl fRo fPr fBx x1 x2 x3 x4 y1 y2 z) (hL : nthF tab fL = some ⟨1, 12, bK3 lt fMp fSc fLp fLr fX fPl fRo fPr fBx fM fRp⟩) (hK : 26 ≤ K) (hl : h.locks = []) (hs : h.get 0 = some (.scr (ns.map PV.int))) :
    ∃ h', callD tab K fL [.ref 0] h = .ok (.bl true) h' := by
  obtain ⟨k, rfl⟩ : ∃ k, K = k + 1 := ⟨K - 1, by omega⟩
  rw [call_eq hL]
  obtain ⟨j1, j16⟩ := mx_bd (mn8_le (ns.length : Int))
  obtain ⟨n, er⟩ := rng_ok (h := h) j1 j16
  have hi : k3Rng lt (callD tab k) [some (.ref 0), none, none, none, none, none, none, none, none, none, none, none] h = .ok (upto 0 4 n, []) h := by
    have a1 : eB gMin2 (aCons (eC (.int 8)) (aCons (eLen lt (eVar 0)) aNil)) (callD tab k) [some (.ref 0), none, none, none, none, none, none, none, none, none, none, none] h = .ok (.int (mn8 (ns.length : Int))) h := by
      unfold eB aCons aNil eC eLen eVar lenV
      simp [hs, gMin2, mn8]
    have a2 : eB gMax2 (aCons (eC (.int 1)) (aCons (eB gMin2 (aCons (eC (.int 8)) (aCons (eLen lt (eVar 0)) aNil))) aNil)) (callD tab k) [some (.ref 0), none, none, none, none, none, none, none, none, none, none, none] h = .ok (.int (mx (mn8 (ns.length : Int)))) h := by
      generalize eB gMin2 (aCons (eC (.int 8)) (aCons (eLen lt (eVar 0)) aNil)) = q at *
      unfold eB aCons aNil eC
      simp [a1, gMax2, mx]
    have key : ∀ G2 : XE, G2 (callD tab k) [some (.ref 0), none, none, none, none, none, none, none, none, none, none, none] h = .ok (.int (mx (mn8 (ns.length : Int)))) h → iR3 (eC (.int 0)) G2 (eC (.int 4)) (callD tab k) [some (.ref 0), none, none, none, none, none, none, none, none, none, none, none] h = .ok (upto 0 4 n, []) h := fun G2 eg => by
      unfold iR3
      simp only [eC, Res.bind_ok]
      rw [eg]
      exact er
    exact key _ a2
  obtain ⟨s', h', e, p⟩ := sFor_inv (g := tgG (.nm 1)) (b := k3Out fMp fSc fLp fLr fX fPl fRo fPr fBx fM fRp) (P := fun _ s m => (∃ (a1 a2 a3 a4 a5 a6 a7 a8 a9 a10 a11 : Option PV), s = [some (.ref 0), a1, a2, a3, a4, a5, a6, a7, a8, a9, a10, a11]) ∧ m.get 0 = some (.scr (ns.map PV.int)) ∧ m.locks = []) hi ⟨⟨none, none, none, none, none, none, none, none, none, none, none, rfl⟩, hs, hl⟩ fun i x s m hx ⟨⟨a1, a2, a3, a4, a5, a6, a7, a8, a9, a10, a11, es⟩, ms, ml⟩ => by
    subst es
    have hlt : i < n := by
      cases Nat.lt_or_ge i n with
      | inl q => exact q
      | inr q => rw [List.getElem?_eq_none (by rw [upto_len]; exact q)] at hx; cases hx
    have ex : x = .int (0 + (i : Nat) * 4) := by
      rw [upto_get 0 4 n i hlt] at hx
      exact (Option.some.inj hx).symm
    subst ex
    obtain ⟨s2, h2, e2, p2⟩ := k3Out_ok (K := k) (h := m) (b := 0 + (i : Nat) * 4) k3 (by omega) ml ms (by omega) (o2 := a2) (o3 := a3) (o4 := a4) (o5 := a5) (o6 := a6) (o7 := a7) (o8 := a8) (o9 := a9) (o10 := a10) (o11 := a11)
    refine ⟨s2, h2, ?_, p2⟩
    simp only [tgG, gName, sOf_ok]
    exact e2
  refine ⟨h', ?_⟩
  have e' : (sFor (k3Rng lt) (tgG (.nm 1)) (k3Out fMp fSc fLp fLr fX fPl fRo fPr fBx fM fRp)) (callD tab k) [some (.ref 0), none, none, none, none, none, none, none, none, none, none, none] h = _ := e
  have rp : ([some (PV.ref 0)] ++ List.replicate (12 - (0 + 1)) (none : Option PV)) = [some (.ref 0), none, none, none, none, none, none, none, none, none, none, none] := rfl
  have z : (Nat.beq (0 + 1) 1) = true := rfl
  unfold runFd bK3 sSeq
  simp only [List.length_cons, List.length_nil, List.map_cons, List.map_nil]
  simp only [z, cnd_true, rp]
  rw [e']
  rfl
end
end Ev
end

section
set_option Elab.async false
set_option linter.all false
set_option maxRecDepth 100000
namespace HT
open PySem Ev
def b0 : XS := (sRet (eAnd (eIs .int [(0, false), (1, false)] (eVar 0)) (eAnd (eNot (eIs .bool [(0, false), (1, false)] (eVar 0))) (eChain .le .le (eVar 1) (eVar 0) (eVar 2)))))
def b1 : XS := (sSeq (sIf (tOr (tNot (tE (eIs .tuple [(0, false), (1, false)] (eVar 0)))) (tE (eCmp .ne (eLen [(0, 6)] (eVar 0)) (eC (.int 4))))) (sRet (eC (.bl false))) sNil) (sSeq (sAsg (eVar 0) (tgG (.un [2, 3, 4, 5]))) (sSeq (sIf (tOr (tNot (tE (eCall 0 (aCons (eVar 2) (aCons (eC (.int 0)) (aCons (eBin .sub (eVar 1) (eC (.int 1))) aNil)))))) (tOr (tNot (tE (eCall 0 (aCons (eVar 3) (aCons (eC (.int 0)) (aCons (eBin .sub (eVar 1) (eC (.int 1))) aNil)))))) (tE (eCmp .ge (eVar 2) (eVar 3))))) (sRet (eC (.bl false))) sNil) (sRet (eAnd (eCall 0 (aCons (eVar 4) (aCons (eC (.int 1)) (aCons (eC (.int 4)) aNil)))) (eCall 0 (aCons (eVar 5) (aCons (eC (.int 0)) (aCons (eC (.int 3)) aNil)))))))))
def b2 : XS := (sSeq (sIf (tOr (tNot (tE (eIs .tuple [(0, false), (1, false)] (eVar 0)))) (tNot (tE (eChain .le .le (eC (.int 1)) (eLen [(0, 6)] (eVar 0)) (eC (.int 7)))))) (sRet (eC (.bl false))) sNil) (sSeq (sIf (tNot (tE (eAll (lC1 [2] (iAny (eVar 0)) (.nm 2) tYes (eCall 1 (aCons (eVar 2) (aCons (eVar 1) aNil))))))) (sRet (eC (.bl false))) sNil) (sRet (eAll (lC1 [3, 4] (iZip (iOf (eVar 0)) (iOf (eSl (eVar 0) (oSome (eC (.int 1))) oNone))) (.un [3, 4]) tYes (eCmp .lt (eVar 3) (eVar 4)))))))
def b3 : XS := (sSeq (sIf (tOr (tNot (tE (eIs .tuple [(0, false), (1, false)] (eVar 0)))) (tE (eCmp .ne (eLen [(0, 6)] (eVar 0)) (eVar 1)))) (sRet (eC (.bl false))) sNil) (sRet (eAll (lC1 [2] (iAny (eVar 0)) (.nm 2) tYes (eOr (eCmp .is_ (eVar 2) (eC .non)) (eCall 0 (aCons (eVar 2) (aCons (eC (.int 1)) (aCons (eC (.int 9)) aNil)))))))))
def b4 : XS := (sSeq (sIf (tOr (tNot (tE (eIs .tuple [(0, false), (1, false)] (eVar 0)))) (tE (eCmp .ne (eLen [(0, 6)] (eVar 0)) (eC (.int 2))))) (sRet (eC (.bl false))) sNil) (sRet (eAnd (eCall 0 (aCons (eSub (eVar 0) (eC (.int 0))) (aCons (eC (.int 1)) (aCons (eC (.int 6)) aNil)))) (eCall 0 (aCons (eSub (eVar 0) (eC (.int 1))) (aCons (eC (.int 0)) (aCons (eC (.int 2)) aNil)))))))
def b5 : XS := (sSeq (sIf (tNot (tE (eCall 0 (aCons (eVar 1) (aCons (eC (.int 2)) (aCons (eC (.int 5)) aNil)))))) sBad sNil) (sSeq (sIf (tNot (tE (eCall 2 (aCons (eVar 2) (aCons (eVar 1) aNil))))) sBad sNil) (sSeq (sIf (tNot (tE (eCall 3 (aCons (eVar 3) (aCons (eVar 1) aNil))))) sBad sNil) (sSeq (sIf (tNot (tE (eCall 4 (aCons (eVar 4) aNil)))) sBad sNil) (sSeq (sSlot [(0, 2)] (eVar 0) (eVar 1)) (sSeq (sSlot [(0, 1)] (eVar 0) (eVar 2)) (sSeq (sSlot [(0, 3)] (eVar 0) (eVar 3)) (sSlot [(0, 0)] (eVar 0) (eVar 4)))))))))
def b6 : XS := (sRet (eLen [(0, 6)] (eFld [(0, .slot 1)] (eVar 0))))
def b7 : XS := (sRet (eAnd (eIs (.own 0) [(0, true), (1, false)] (eVar 1)) (eCmp .eq (eMeth [(0, 8)] (eVar 0) aNil) (eMeth [(0, 8)] (eVar 1) aNil))))
def b8 : XS := (sRet (eNew (lNew (aCons (eFld [(0, .slot 2)] (eVar 0)) (aCons (eFld [(0, .slot 1)] (eVar 0)) (aCons (eFld [(0, .slot 3)] (eVar 0)) (aCons (eFld [(0, .slot 0)] (eVar 0)) aNil)))))))
def b9 : XS := (sRet (eFld [(0, .slot 2)] (eVar 0)))
def b10 : XS := (sRet (eFld [(0, .slot 1)] (eVar 0)))
def b11 : XS := (sRet (eFld [(0, .slot 3)] (eVar 0)))
def b12 : XS := (sRet (eFld [(0, .slot 0)] (eVar 0)))
def b13 : XS := (sIf (tNot (tE (eIs (.own 0) [(0, true), (1, false)] (eVar 0)))) sBad sNil)
def b14 : XS := (sSeq (sIf (tOr (tNot (tE (eIs .tuple [(0, false), (1, false)] (eVar 1)))) (tE (eCmp .ne (eLen [(0, 6)] (eVar 1)) (eC (.int 4))))) (sRet (eC (.bl false))) sNil) (sSeq (sAsg (eFld [(0, .slot 0)] (eVar 0)) (tgG (.un [3, 4]))) (sSeq (sAsg (eNew (lNew (aCons (eBin .sub (eFld [(0, .slot 2)] (eVar 0)) (eC (.int 1))) (aCons (eVar 3) (aCons (eVar 4) (aCons (eC (.int 4)) aNil)))))) (tgG (.nm 2))) (sRet (eAll (lC1 [5, 6] (iZip (iOf (eVar 1)) (iOf (eVar 2))) (.un [5, 6]) tYes (eCall 0 (aCons (eVar 5) (aCons (eC (.int 0)) (aCons (eVar 6) aNil))))))))))
def b15 : XS := (sSeq (sExpr (eCall 13 (aCons (eVar 0) aNil))) (sIf (tNot (tE (eCall 14 (aCons (eVar 0) (aCons (eVar 1) aNil))))) sBad sNil))
def b16 : XS := (sIf (tNot (tE (eCall 0 (aCons (eVar 0) (aCons (eC (.int 0)) (aCons (eC (.int 4)) aNil)))))) sBad sNil)
def b17 : XS := (sRet (eNew (lC1 [2, 3] (iEnum (iOf (eFld [(0, .slot 1)] (eVar 0)))) (.un [2, 3]) (tE (eCmp .eq (eSub (eVar 3) (eC (.int 0))) (eVar 1))) (eVar 2))))
def b18 : XS := (sRet (eCmp .eq (eSub (eVar 1) (eC (.int 0))) (eBin .sub (eFld [(0, .slot 2)] (eVar 0)) (eC (.int 1)))))
def b19 : XS := (sSeq (sAsg (eIf (tE (eCmp .is_ (eSub (eFld [(0, .slot 3)] (eVar 0)) (eSub (eVar 1) (eC (.int 0)))) (eC .non))) (eC (.int 0)) (eBin .sub (eSub (eFld [(0, .slot 0)] (eVar 0)) (eC (.int 0))) (eSub (eVar 1) (eC (.int 1))))) (tgG (.nm 2))) (sRet (eNew (lC2 [3, 4] [4] (iR1 (eBin .add (eVar 2) (eC (.int 1)))) (.nm 3) tYes (iAny (eCall 17 (aCons (eVar 0) (aCons (eSub (eVar 1) (eC (.int 0))) aNil)))) (.nm 4) tYes (eTup (aCons (eVar 3) (aCons (eVar 4) aNil)))))))
def b20 : XS := (sRet (eIf (tE (eCmp .eq (eSub (eVar 2) (eC (.int 0))) (eC (.int 0)))) (eC (.int 0)) (eBin .mul (eSub (eVar 2) (eC (.int 0))) (eSub (eFld [(0, .slot 3)] (eVar 0)) (eVar 1)))))
def b21 : XS := (sSeq (sAsg (eVar 1) (tgG (.un [5, 6]))) (sSeq (sFor (iR1 (eVar 3)) (tgG (.nm 4)) (sSeq (sAug 6 .add (eIf (tE (eCmp .ge (eVar 5) (eVar 2))) (eC (.int 0)) (eC (.int 1)))) (sAsg (eB gMax2 (aCons (eC (.int 0)) (aCons (eBin .sub (eVar 5) (eVar 2)) aNil))) (tgG (.nm 5))))) (sRet (eIf (tE (eCmp .le (eVar 6) (eSub (eFld [(0, .slot 0)] (eVar 0)) (eC (.int 1))))) (eTup (aCons (eVar 5) (aCons (eVar 6) aNil))) (eC .non)))))
def b22 : XS := (sSeq (sAsg (eVar 1) (tgG (.un [5, 6, 7, 8]))) (sSeq (sAsg (eSub (eFld [(0, .slot 1)] (eVar 0)) (eSub (eVar 2) (eC (.int 1)))) (tgG (.un [9, 10, 11, 12]))) (sSeq (sAsg (eCall 21 (aCons (eVar 0) (aCons (eTup (aCons (eB gMin2 (aCons (eSub (eFld [(0, .slot 0)] (eVar 0)) (eC (.int 0))) (aCons (eBin .add (eVar 6) (eSub (eVar 2) (eC (.int 0)))) aNil))) (aCons (eVar 7) aNil))) (aCons (eVar 12) (aCons (eBin .add (eVar 11) (eVar 3)) aNil))))) (tgG (.nm 4))) (sRet (eIf (tE (eCmp .is_ (eVar 4) (eC .non))) (eC .non) (eTup (aCons (eVar 10) (aCons (eSub (eVar 4) (eC (.int 0))) (aCons (eSub (eVar 4) (eC (.int 1))) (aCons (eBin .sub (eVar 8) (eVar 3)) aNil))))))))))
def b23 : XS := (sRet (eNew (lC1 [3] (iR1 (eBin .add (eSub (eVar 1) (eC (.int 3))) (eC (.int 1)))) (.nm 3) tYes (eCall 22 (aCons (eVar 0) (aCons (eVar 1) (aCons (eVar 2) (aCons (eVar 3) aNil))))))))
def b24 : XS := (sSeq (sSlot [(1, 0)] (eVar 0) (eVar 1)) (sSlot [(1, 1)] (eVar 0) eDic0))
def b25 : XS := (sSeq (sIf (tE (eCmp .notin (eVar 1) (eFld [(1, .slot 1)] (eVar 0)))) (sSetI (eFld [(1, .slot 1)] (eVar 0)) (eVar 1) (eIf (tE (eCall 18 (aCons (eFld [(1, .slot 0)] (eVar 0)) (aCons (eVar 1) aNil)))) (eC (.int 0)) (eMeth [(1, 26)] (eVar 0) (aCons (eVar 1) aNil)))) sNil) (sRet (eSub (eFld [(1, .slot 1)] (eVar 0)) (eVar 1))))
def b26 : XS := (sSeq (sAsg (eNew (lC1 [4] (iAny (eCall 19 (aCons (eFld [(1, .slot 0)] (eVar 0)) (aCons (eVar 1) aNil)))) (.nm 4) tYes (eMeth [(1, 27)] (eVar 0) (aCons (eVar 1) (aCons (eVar 4) aNil))))) (tgG (.nm 2))) (sSeq (sAsg (eNew (lC1 [5] (iAny (eVar 2)) (.nm 5) (tE (eCmp .isnot (eVar 5) (eC .non))) (eVar 5))) (tgG (.nm 3))) (sRet (eIf (tE (eCmp .ne (eVar 3) (eNew (lNew aNil)))) (eB gMinL (lOf (eVar 3))) (eC .non)))))
def b27 : XS := (sSeq (sAsg (eNew (lC1 [4] (iAny (eCall 23 (aCons (eFld [(1, .slot 0)] (eVar 0)) (aCons (eVar 1) (aCons (eVar 2) aNil))))) (.nm 4) tYes (eIf (tE (eCmp .is_ (eVar 4) (eC .non))) (eC .non) (eMeth [(1, 25)] (eVar 0) (aCons (eVar 4) aNil))))) (tgG (.nm 3))) (sRet (eIf (tE (eCmp .in_ (eC .non) (eVar 3))) (eC .non) (eBin .add (eCall 20 (aCons (eFld [(1, .slot 0)] (eVar 0)) (aCons (eSub (eVar 1) (eC (.int 0))) (aCons (eVar 2) aNil)))) (eB gMaxL (lOf (eVar 3)))))))
def b28 : XS := (sRet (eMeth [(1, 25)] (eMake 1 24 2 (aCons (eVar 0) aNil)) (aCons (eVar 1) aNil)))
def b29 : XS := (sSeq (sExpr (eCall 15 (aCons (eVar 0) (aCons (eVar 1) aNil)))) (sRet (eCall 28 (aCons (eVar 0) (aCons (eVar 1) aNil)))))
def b30 : XS := (sRet (eCall 28 (aCons (eVar 0) (aCons (eTup (aCons (eC (.int 0)) (aCons (eC (.int 0)) (aCons (eC (.int 0)) (aCons (eVar 1) aNil))))) aNil))))
def b31 : XS := (sSeq (sExpr (eCall 13 (aCons (eVar 0) aNil))) (sRet (eNew (lC1 [1] (iR1 (eBin .add (eC (.int 4)) (eC (.int 1)))) (.nm 1) tYes (eCall 30 (aCons (eVar 0) (aCons (eVar 1) aNil)))))))
def b32 : XS := (sSeq (sExpr (eCall 13 (aCons (eVar 0) aNil))) (sSeq (sAsg (eCall 31 (aCons (eVar 0) aNil)) (tgG (.nm 1))) (sSeq (sAsg (eNew (lNew aNil)) (tgG (.nm 2))) (sSeq (sFor (iEnum (iOf (eVar 1))) (tgG (.un [3, 4])) (sSeq (sAsg (eIf (tE (eCmp .lt (eVar 3) (eC (.int 4)))) (eSub (eVar 1) (eBin .add (eVar 3) (eC (.int 1)))) (eC .non)) (tgG (.nm 5))) (sIf (tAnd (tE (eCmp .isnot (eVar 4) (eC .non))) (tOr (tE (eCmp .is_ (eVar 5) (eC .non))) (tE (eCmp .gt (eVar 5) (eVar 4))))) (sExpr (eApp (eVar 2) (eTup (aCons (eVar 3) (aCons (eVar 4) aNil))))) sNil))) (sRet (eVar 2))))))
def b33 : XS := (sSeq (sExpr (eCall 13 (aCons (eVar 0) aNil))) (sSeq (sExpr (eCall 16 (aCons (eVar 1) aNil))) (sSeq (sAsg (eNew (lC1 [3] (iR2 (eC (.int 1)) (eBin .add (eC (.int 6)) (eC (.int 1)))) (.nm 3) tYes (eMake 0 5 4 (aCons (eFld [(0, .slot 2)] (eVar 0)) (aCons (eFld [(0, .slot 1)] (eVar 0)) (aCons (eFld [(0, .slot 3)] (eVar 0)) (aCons (eTup (aCons (eVar 3) (aCons (eSub (eFld [(0, .slot 0)] (eVar 0)) (eC (.int 1))) aNil))) aNil))))))) (tgG (.nm 2))) (sRet (eNew (lC1 [4] (iAny (eVar 2)) (.nm 4) tYes (eCall 30 (aCons (eVar 4) (aCons (eVar 1) aNil)))))))))
def b34 : XS := (sSeq (sIf (tE (eCmp .lt (eVar 1) (eLen [(0, 6)] (eVar 0)))) (sRet (eSub (eVar 0) (eVar 1))) sNil) (sRet (eC (.int 0))))
def b35 : XS := (sSeq (sAsg (eTup (aCons (eC (.int 1000003)) (aCons (eC (.int 1000033)) (aCons (eC (.int 1000037)) (aCons (eC (.int 1000039)) (aCons (eC (.int 1000081)) (aCons (eC (.int 1000099)) (aCons (eC (.int 1000117)) (aCons (eC (.int 1000121)) (aCons (eC (.int 1000133)) (aCons (eC (.int 1000151)) (aCons (eC (.int 1000159)) (aCons (eC (.int 1000171)) (aCons (eC (.int 1000183)) (aCons (eC (.int 1000187)) (aCons (eC (.int 1000193)) (aCons (eC (.int 1000199)) aNil))))))))))))))))) (tgG (.nm 3))) (sRet (eBin .mod (eBin .mod (eB gInt (aCons (eBin .add (eBin .mul (eVar 0) (eC (.int 48271))) (eBin .mul (eVar 1) (eC (.int 69621)))) aNil)) (eSub (eVar 3) (eBin .mod (eB gInt (aCons (eVar 1) aNil)) (eC (.int 16))))) (eVar 2))))
def b36 : XS := (sSeq (sAsg (eC (.int 1)) (tgG (.nm 3))) (sSeq (sFor (iR1 (eBin .mod (eB gInt (aCons (eVar 1) aNil)) (eC (.int 24)))) (tgG (.nm 4)) (sAsg (eBin .mul (eVar 3) (eC (.int 1009))) (tgG (.nm 3)))) (sSeq (sAsg (eBin .fdiv (eBin .sub (eVar 0) (eBin .pow (eC (.int 10)) (eC (.int 18)))) (eVar 3)) (tgG (.nm 5))) (sSeq (sIf (tE (eCmp .gt (eVar 5) (eC (.int 0)))) (sRet (eBin .mod (eBin .mod (eB gInt (aCons (eVar 5) aNil)) (eC (.int 1009))) (eVar 2))) sNil) (sSeq (sAsg (eBin .mod (eB gInt (aCons (eVar 0) aNil)) (eC (.int 1000003))) (tgG (.nm 6))) (sRet (eBin .mod (eCall 35 (aCons (eBin .mul (eBin .add (eVar 6) (eBin .mul (eC (.int 977)) (eVar 1))) (eBin .add (eBin .add (eVar 6) (eBin .mul (eC (.int 31)) (eVar 1))) (eC (.int 5)))) (aCons (eBin .add (eBin .mod (eB gInt (aCons (eVar 1) aNil)) (eC (.int 9))) (eC (.int 1))) (aCons (eC (.int 999983)) aNil)))) (eVar 2))))))))
def b37 : XS := (sSeq (sSetI (eVar 0) (eC (.int 2)) (eBin .add (eSub (eVar 0) (eC (.int 2))) (eC (.int 1)))) (sSeq (sAsg (eBin .fdiv (eSub (eVar 0) (eC (.int 2))) (eC (.int 12))) (tgG (.nm 2))) (sSeq (sAsg (eBin .add (eCall 34 (aCons (eSub (eVar 0) (eC (.int 0))) (aCons (eBin .add (eSub (eVar 0) (eC (.int 1))) (eVar 2)) aNil))) (eBin .mul (eC (.int 31)) (eVar 2))) (tgG (.nm 3))) (sRet (eCall 36 (aCons (eVar 3) (aCons (eBin .add (eBin .mod (eB gInt (aCons (eSub (eVar 0) (eC (.int 2))) aNil)) (eC (.int 12))) (eC (.int 1))) (aCons (eVar 1) aNil))))))))
def b38 : XS := (sRet (eSub (eVar 1) (eCall 37 (aCons (eVar 0) (aCons (eLen [(0, 6)] (eVar 1)) aNil)))))
def b39 : XS := (sSeq (sAsg (eBin .add (eC (.int 2)) (eCall 37 (aCons (eVar 0) (aCons (eBin .sub (eVar 1) (eC (.int 1))) aNil)))) (tgG (.nm 2))) (sSeq (sAsg (eNew (lNew aNil)) (tgG (.nm 3))) (sSeq (sFor (iR1 (eBin .add (eC (.int 1)) (eCall 37 (aCons (eVar 0) (aCons (eC (.int 5)) aNil))))) (tgG (.nm 4)) (sSeq (sAsg (eCall 37 (aCons (eVar 0) (aCons (eBin .sub (eVar 2) (eC (.int 1))) aNil))) (tgG (.nm 8))) (sSeq (sAsg (eBin .add (eBin .add (eVar 8) (eC (.int 1))) (eCall 37 (aCons (eVar 0) (aCons (eBin .sub (eBin .sub (eVar 2) (eC (.int 1))) (eVar 8)) aNil)))) (tgG (.nm 9))) (sExpr (eApp (eVar 3) (eTup (aCons (eVar 8) (aCons (eVar 9) (aCons (eBin .add (eC (.int 1)) (eCall 37 (aCons (eVar 0) (aCons (eC (.int 3)) aNil)))) (aCons (eCall 38 (aCons (eVar 0) (aCons (eNew (lNew (aCons (eC (.int 0)) (aCons (eC (.int 1)) (aCons (eC (.int 1)) (aCons (eC (.int 1)) (aCons (eC (.int 2)) (aCons (eC (.int 3)) aNil)))))))) aNil))) aNil)))))))))) (sSeq (sIf (tE (eCmp .gt (eCall 37 (aCons (eVar 0) (aCons (eC (.int 4)) aNil))) (eC (.int 0)))) (sFor (iR1 (eBin .sub (eVar 2) (eC (.int 1)))) (tgG (.nm 6)) (sExpr (eApp (eVar 3) (eTup (aCons (eVar 6) (aCons (eBin .add (eVar 6) (eC (.int 1))) (aCons (eBin .add (eC (.int 1)) (eCall 37 (aCons (eVar 0) (aCons (eC (.int 2)) aNil)))) (aCons (eC (.int 1)) aNil)))))))) sNil) (sSeq (sAsg (eSl (eSS (eVar 3)) oNone (oSome (eC (.int 7)))) (tgG (.nm 3))) (sSeq (sAsg (eNew (lNew aNil)) (tgG (.nm 5))) (sSeq (sFor (iR1 (eVar 2)) (tgG (.nm 6)) (sExpr (eApp (eVar 5) (eCall 38 (aCons (eVar 0) (aCons (eNew (lNew (aCons (eC .non) (aCons (eBin .add (eC (.int 1)) (eCall 37 (aCons (eVar 0) (aCons (eC (.int 9)) aNil)))) (aCons (eC (.int 2)) (aCons (eC (.int 3)) aNil)))))) aNil)))))) (sSeq (sAsg (eTup (aCons (eBin .add (eC (.int 1)) (eCall 37 (aCons (eVar 0) (aCons (eC (.int 5)) aNil)))) (aCons (eCall 38 (aCons (eVar 0) (aCons (eNew (lNew (aCons (eC (.int 0)) (aCons (eC (.int 0)) (aCons (eC (.int 1)) (aCons (eC (.int 2)) aNil)))))) aNil))) aNil))) (tgG (.nm 7))) (sRet (eMake 0 5 4 (aCons (eVar 2) (aCons (eB gTupL (lOf (eVar 3))) (aCons (eB gTupL (lOf (eVar 5))) (aCons (eVar 7) aNil))))))))))))))
def b40 : XS := (sSeq (sFor (iR3 (eC (.int 0)) (eB gMax2 (aCons (eC (.int 1)) (aCons (eB gMin2 (aCons (eC (.int 8)) (aCons (eLen [(0, 6)] (eVar 0)) aNil))) aNil))) (eC (.int 4))) (tgG (.nm 1)) (sSeq (sAsg (eNew (lNew (aCons (eVar 0) (aCons (eVar 1) (aCons (eC (.int 0)) aNil))))) (tgG (.nm 2))) (sSeq (sAsg (eCall 39 (aCons (eVar 2) (aCons (eC (.int 4)) aNil))) (tgG (.nm 3))) (sSeq (sAsg (eNew (lC1 [7] (iR1 (eC (.int 5))) (.nm 7) tYes (eCall 29 (aCons (eVar 3) (aCons (eTup (aCons (eC (.int 0)) (aCons (eC (.int 0)) (aCons (eC (.int 0)) (aCons (eVar 7) aNil))))) aNil))))) (tgG (.nm 4))) (sSeq (sIf (tE (eCmp .ne (eCall 31 (aCons (eVar 3) aNil)) (eVar 4))) (sRet (eC (.bl false))) sNil) (sSeq (sAsg (eNew (lNew aNil)) (tgG (.nm 5))) (sSeq (sFor (iEnum (iOf (eVar 4))) (tgG (.un [7, 8])) (sIf (tE (eCmp .isnot (eVar 8) (eC .non))) (sSeq (sAsg (eSl (eVar 4) (oSome (eBin .add (eVar 7) (eC (.int 1)))) (oSome (eBin .add (eVar 7) (eC (.int 2))))) (tgG (.nm 11))) (sIf (tOr (tE (eCmp .eq (eVar 11) (eNew (lNew aNil)))) (tOr (tE (eCmp .is_ (eSub (eVar 11) (eC (.int 0))) (eC .non))) (tE (eCmp .gt (eSub (eVar 11) (eC (.int 0))) (eVar 8))))) (sExpr (eApp (eVar 5) (eTup (aCons (eVar 7) (aCons (eVar 8) aNil))))) sNil)) sNil)) (sSeq (sIf (tE (eCmp .ne (eCall 32 (aCons (eVar 3) aNil)) (eVar 5))) (sRet (eC (.bl false))) sNil) (sSeq (sAsg (eTup (aCons (eCall 37 (aCons (eVar 2) (aCons (eC (.int 5)) aNil))) (aCons (eNew (lNew aNil)) aNil))) (tgG (.un [7, 9]))) (sSeq (sFor (iR2 (eC (.int 1)) (eC (.int 7))) (tgG (.nm 6)) (sSeq (sAsg (eMake 0 5 4 (aCons (eFld [(0, .prop 9)] (eVar 3)) (aCons (eFld [(0, .prop 10)] (eVar 3)) (aCons (eFld [(0, .prop 11)] (eVar 3)) (aCons (eTup (aCons (eVar 6) (aCons (eSub (eFld [(0, .prop 12)] (eVar 3)) (eC (.int 1))) aNil))) aNil))))) (tgG (.nm 10))) (sExpr (eApp (eVar 9) (eCall 29 (aCons (eVar 10) (aCons (eTup (aCons (eC (.int 0)) (aCons (eC (.int 0)) (aCons (eC (.int 0)) (aCons (eVar 7) aNil))))) aNil))))))) (sIf (tE (eCmp .ne (eCall 33 (aCons (eVar 3) (aCons (eVar 7) aNil))) (eVar 9))) (sRet (eC (.bl false))) sNil))))))))))) (sRet (eC (.bl true))))
def tab : List Fd := ([(⟨3, 3, b0⟩ : Fd), (⟨2, 6, b1⟩ : Fd), (⟨2, 5, b2⟩ : Fd), (⟨2, 3, b3⟩ : Fd), (⟨1, 1, b4⟩ : Fd), (⟨5, 5, b5⟩ : Fd), (⟨1, 1, b6⟩ : Fd), (⟨2, 2, b7⟩ : Fd), (⟨1, 1, b8⟩ : Fd), (⟨1, 1, b9⟩ : Fd), (⟨1, 1, b10⟩ : Fd), (⟨1, 1, b11⟩ : Fd), (⟨1, 1, b12⟩ : Fd), (⟨1, 1, b13⟩ : Fd), (⟨2, 7, b14⟩ : Fd), (⟨2, 2, b15⟩ : Fd), (⟨1, 1, b16⟩ : Fd), (⟨2, 4, b17⟩ : Fd), (⟨2, 2, b18⟩ : Fd), (⟨2, 5, b19⟩ : Fd)] : List Fd) ++ ([(⟨3, 3, b20⟩ : Fd), (⟨4, 7, b21⟩ : Fd), (⟨4, 13, b22⟩ : Fd), (⟨3, 4, b23⟩ : Fd), (⟨2, 2, b24⟩ : Fd), (⟨2, 2, b25⟩ : Fd), (⟨2, 6, b26⟩ : Fd), (⟨3, 5, b27⟩ : Fd), (⟨2, 2, b28⟩ : Fd), (⟨2, 2, b29⟩ : Fd), (⟨2, 2, b30⟩ : Fd), (⟨1, 2, b31⟩ : Fd), (⟨1, 6, b32⟩ : Fd), (⟨2, 5, b33⟩ : Fd), (⟨2, 2, b34⟩ : Fd), (⟨3, 4, b35⟩ : Fd), (⟨3, 7, b36⟩ : Fd), (⟨2, 4, b37⟩ : Fd), (⟨2, 2, b38⟩ : Fd), (⟨2, 10, b39⟩ : Fd)] : List Fd) ++ ([(⟨1, 12, b40⟩ : Fd)] : List Fd)
end HT
end

section
set_option Elab.async false
set_option linter.all false
set_option maxRecDepth 100000
set_option maxHeartbeats 0
namespace HT
open PySem PySem.Spec PyProof.Rows L2 Ev
def top (i : Nat) : Stmt := PySem.Challenge.pw_coolway_k03_whole_worths.main.body.getD i (.Pass ⟨0, 0, 0, 0⟩)
def ds : List Df := ([(⟨.glo "is_integer", "is_integer", "is_integer", defArgs (top 15), defBody (top 15), defScope (top 15), ([Str.ofString "value", Str.ofString "low", Str.ofString "high"] : List Str)⟩ : Df), (⟨.glo "is_road", "is_road", "is_road", defArgs (top 16), defBody (top 16), defScope (top 16), ([Str.ofString "value", Str.ofString "places", Str.ofString "first", Str.ofString "last", Str.ofString "hours", Str.ofString "melt"] : List Str)⟩ : Df), (⟨.glo "are_roads", "are_roads", "are_roads", defArgs (top 17), defBody (top 17), defScope (top 17), ([Str.ofString "value", Str.ofString "places", Str.ofString "road", Str.ofString "one", Str.ofString "other"] : List Str)⟩ : Df), (⟨.glo "are_prices", "are_prices", "are_prices", defArgs (top 18), defBody (top 18), defScope (top 18), ([Str.ofString "value", Str.ofString "places", Str.ofString "price"] : List Str)⟩ : Df), (⟨.glo "is_box", "is_box", "is_box", defArgs (top 19), defBody (top 19), defScope (top 19), ([Str.ofString "value"] : List Str)⟩ : Df), (⟨.meth "Map" "__init__", "__init__", "Map.__init__", defArgs (inClass (top 20) 1), defBody (inClass (top 20) 1), defScope (inClass (top 20) 1), ([Str.ofString "self", Str.ofString "places", Str.ofString "roads", Str.ofString "prices", Str.ofString "box"] : List Str)⟩ : Df), (⟨.meth "Map" "__len__", "__len__", "Map.__len__", defArgs (inClass (top 20) 2), defBody (inClass (top 20) 2), defScope (inClass (top 20) 2), ([Str.ofString "self"] : List Str)⟩ : Df), (⟨.meth "Map" "__eq__", "__eq__", "Map.__eq__", defArgs (inClass (top 20) 3), defBody (inClass (top 20) 3), defScope (inClass (top 20) 3), ([Str.ofString "self", Str.ofString "other"] : List Str)⟩ : Df), (⟨.meth "Map" "all_parts", "all_parts", "Map.all_parts", defArgs (inClass (top 20) 4), defBody (inClass (top 20) 4), defScope (inClass (top 20) 4), ([Str.ofString "self"] : List Str)⟩ : Df), (⟨.prop "Map" "places", "places", "Map.places", defArgs (inClass (top 20) 5), defBody (inClass (top 20) 5), defScope (inClass (top 20) 5), ([Str.ofString "self"] : List Str)⟩ : Df), (⟨.prop "Map" "roads", "roads", "Map.roads", defArgs (inClass (top 20) 6), defBody (inClass (top 20) 6), defScope (inClass (top 20) 6), ([Str.ofString "self"] : List Str)⟩ : Df), (⟨.prop "Map" "prices", "prices", "Map.prices", defArgs (inClass (top 20) 7), defBody (inClass (top 20) 7), defScope (inClass (top 20) 7), ([Str.ofString "self"] : List Str)⟩ : Df), (⟨.prop "Map" "box", "box", "Map.box", defArgs (inClass (top 20) 8), defBody (inClass (top 20) 8), defScope (inClass (top 20) 8), ([Str.ofString "self"] : List Str)⟩ : Df), (⟨.glo "check_map", "check_map", "check_map", defArgs (top 21), defBody (top 21), defScope (top 21), ([Str.ofString "chart"] : List Str)⟩ : Df), (⟨.glo "is_state", "is_state", "is_state", defArgs (top 22), defBody (top 22), defScope (top 22), ([Str.ofString "chart", Str.ofString "value", Str.ofString "bounds", Str.ofString "room", Str.ofString "bear", Str.ofString "one", Str.ofString "most"] : List Str)⟩ : Df), (⟨.glo "check_state", "check_state", "check_state", defArgs (top 23), defBody (top 23), defScope (top 23), ([Str.ofString "chart", Str.ofString "state"] : List Str)⟩ : Df), (⟨.glo "check_late", "check_late", "check_late", defArgs (top 24), defBody (top 24), defScope (top 24), ([Str.ofString "late"] : List Str)⟩ : Df), (⟨.glo "roads_from", "roads_from", "roads_from", defArgs (top 25), defBody (top 25), defScope (top 25), ([Str.ofString "chart", Str.ofString "place", Str.ofString "road", Str.ofString "line"] : List Str)⟩ : Df), (⟨.glo "is_done", "is_done", "is_done", defArgs (top 26), defBody (top 26), defScope (top 26), ([Str.ofString "chart", Str.ofString "state"] : List Str)⟩ : Df), (⟨.glo "moves_of", "moves_of", "moves_of", defArgs (top 27), defBody (top 27), defScope (top 27), ([Str.ofString "chart", Str.ofString "state", Str.ofString "most", Str.ofString "pieces", Str.ofString "road"] : List Str)⟩ : Df)] : List Df) ++ ([(⟨.glo "cost_of", "cost_of", "cost_of", defArgs (top 28), defBody (top 28), defScope (top 28), ([Str.ofString "chart", Str.ofString "place", Str.ofString "move"] : List Str)⟩ : Df), (⟨.glo "carried", "carried", "carried", defArgs (top 29), defBody (top 29), defScope (top 29), ([Str.ofString "chart", Str.ofString "load", Str.ofString "melt", Str.ofString "hours", Str.ofString "hour", Str.ofString "ice", Str.ofString "warm"] : List Str)⟩ : Df), (⟨.glo "end_of", "end_of", "end_of", defArgs (top 30), defBody (top 30), defScope (top 30), ([Str.ofString "chart", Str.ofString "state", Str.ofString "move", Str.ofString "more", Str.ofString "load", Str.ofString "place", Str.ofString "ice", Str.ofString "warm", Str.ofString "late", Str.ofString "first", Str.ofString "last", Str.ofString "hours", Str.ofString "melt"] : List Str)⟩ : Df), (⟨.glo "ends_of", "ends_of", "ends_of", defArgs (top 31), defBody (top 31), defScope (top 31), ([Str.ofString "chart", Str.ofString "state", Str.ofString "move", Str.ofString "more"] : List Str)⟩ : Df), (⟨.meth "Solver" "__init__", "__init__", "Solver.__init__", defArgs (inClass (top 33) 1), defBody (inClass (top 33) 1), defScope (inClass (top 33) 1), ([Str.ofString "self", Str.ofString "chart"] : List Str)⟩ : Df), (⟨.meth "Solver" "worth", "worth", "Solver.worth", defArgs (inClass (top 33) 2), defBody (inClass (top 33) 2), defScope (inClass (top 33) 2), ([Str.ofString "self", Str.ofString "state"] : List Str)⟩ : Df), (⟨.meth "Solver" "least", "least", "Solver.least", defArgs (inClass (top 33) 3), defBody (inClass (top 33) 3), defScope (inClass (top 33) 3), ([Str.ofString "self", Str.ofString "state", Str.ofString "found", Str.ofString "able", Str.ofString "move", Str.ofString "worth"] : List Str)⟩ : Df), (⟨.meth "Solver" "by_move", "by_move", "Solver.by_move", defArgs (inClass (top 33) 4), defBody (inClass (top 33) 4), defScope (inClass (top 33) 4), ([Str.ofString "self", Str.ofString "state", Str.ofString "move", Str.ofString "found", Str.ofString "end"] : List Str)⟩ : Df), (⟨.glo "cost_from", "cost_from", "cost_from", defArgs (top 34), defBody (top 34), defScope (top 34), ([Str.ofString "chart", Str.ofString "state"] : List Str)⟩ : Df), (⟨.glo "sure_cost", "sure_cost", "sure_cost", defArgs (top 35), defBody (top 35), defScope (top 35), ([Str.ofString "chart", Str.ofString "state"] : List Str)⟩ : Df), (⟨.glo "price_of", "price_of", "price_of", defArgs (top 37), defBody (top 37), defScope (top 37), ([Str.ofString "chart", Str.ofString "late"] : List Str)⟩ : Df), (⟨.glo "late_prices", "late_prices", "late_prices", defArgs (top 38), defBody (top 38), defScope (top 38), ([Str.ofString "chart", Str.ofString "late"] : List Str)⟩ : Df), (⟨.glo "late_pairs", "late_pairs", "late_pairs", defArgs (top 39), defBody (top 39), defScope (top 39), ([Str.ofString "chart", Str.ofString "prices", Str.ofString "found", Str.ofString "late", Str.ofString "price", Str.ofString "later"] : List Str)⟩ : Df), (⟨.glo "room_prices", "room_prices", "room_prices", defArgs (top 40), defBody (top 40), defScope (top 40), ([Str.ofString "chart", Str.ofString "late", Str.ofString "charts", Str.ofString "room", Str.ofString "one"] : List Str)⟩ : Df), (⟨.glo "_law_cell_at", "_law_cell_at", "_law_cell_at", defArgs (top 42), defBody (top 42), defScope (top 42), ([Str.ofString "_law_script", Str.ofString "_law_k"] : List Str)⟩ : Df), (⟨.glo "_law_draw", "_law_draw", "_law_draw", defArgs (top 43), defBody (top 43), defScope (top 43), ([Str.ofString "_law_cell", Str.ofString "_law_k", Str.ofString "_law_bound", Str.ofString "_law_primes"] : List Str)⟩ : Df), (⟨.glo "_law_number", "_law_number", "_law_number", defArgs (top 44), defBody (top 44), defScope (top 44), ([Str.ofString "_law_cell", Str.ofString "_law_k", Str.ofString "_law_bound", Str.ofString "_law_power", Str.ofString "_law_times", Str.ofString "_law_remains", Str.ofString "_law_small"] : List Str)⟩ : Df), (⟨.glo "_law_next", "_law_next", "_law_next", defArgs (top 45), defBody (top 45), defScope (top 45), ([Str.ofString "_law_draw_here", Str.ofString "_law_bound", Str.ofString "_law_at", Str.ofString "_law_cell"] : List Str)⟩ : Df), (⟨.glo "_law_pick", "_law_pick", "_law_pick", defArgs (top 46), defBody (top 46), defScope (top 46), ([Str.ofString "_law_draw_here", Str.ofString "_law_things"] : List Str)⟩ : Df), (⟨.glo "_law_map", "_law_map", "_law_map", defArgs (top 47), defBody (top 47), defScope (top 47), ([Str.ofString "_law_draw_here", Str.ofString "_law_places", Str.ofString "_law_many", Str.ofString "_law_roads", Str.ofString "_law_turn", Str.ofString "_law_prices", Str.ofString "_law_place", Str.ofString "_law_box", Str.ofString "_law_first", Str.ofString "_law_last"] : List Str)⟩ : Df)] : List Df) ++ ([(⟨.glo "law", "law", "law", defArgs (top 48), defBody (top 48), defScope (top 48), ([Str.ofString "_law_script", Str.ofString "_law_by", Str.ofString "_law_draw_here", Str.ofString "_law_chart", Str.ofString "_law_prices", Str.ofString "_law_pairs", Str.ofString "_law_room", Str.ofString "_law_late", Str.ofString "_law_price", Str.ofString "_law_found", Str.ofString "_law_other", Str.ofString "_law_rest"] : List Str)⟩ : Df)] : List Df)
def cn : List Str := [Str.ofString "Map", Str.ofString "Solver"]
def gs : GS := ⟨([(Str.ofString "is_integer", Rl.fn 0), (Str.ofString "is_road", Rl.fn 1), (Str.ofString "are_roads", Rl.fn 2), (Str.ofString "are_prices", Rl.fn 3), (Str.ofString "is_box", Rl.fn 4), (Str.ofString "check_map", Rl.fn 13), (Str.ofString "is_state", Rl.fn 14), (Str.ofString "check_state", Rl.fn 15), (Str.ofString "check_late", Rl.fn 16), (Str.ofString "roads_from", Rl.fn 17), (Str.ofString "is_done", Rl.fn 18), (Str.ofString "moves_of", Rl.fn 19), (Str.ofString "cost_of", Rl.fn 20), (Str.ofString "carried", Rl.fn 21), (Str.ofString "end_of", Rl.fn 22), (Str.ofString "ends_of", Rl.fn 23), (Str.ofString "cost_from", Rl.fn 28), (Str.ofString "sure_cost", Rl.fn 29), (Str.ofString "price_of", Rl.fn 30), (Str.ofString "late_prices", Rl.fn 31), (Str.ofString "late_pairs", Rl.fn 32), (Str.ofString "room_prices", Rl.fn 33), (Str.ofString "_law_cell_at", Rl.fn 34), (Str.ofString "_law_draw", Rl.fn 35), (Str.ofString "_law_number", Rl.fn 36), (Str.ofString "_law_next", Rl.fn 37), (Str.ofString "_law_pick", Rl.fn 38), (Str.ofString "_law_map", Rl.fn 39), (Str.ofString "law", Rl.fn 40), (Str.ofString "Map", Rl.cl 0)] : List (Str × Rl)) ++ ([(Str.ofString "Solver", Rl.cl 1), (Str.ofString "MIN_PLACES", Rl.ci 2), (Str.ofString "MAX_PLACES", Rl.ci 5), (Str.ofString "MAX_ROADS", Rl.ci 7), (Str.ofString "MAX_HOURS", Rl.ci 4), (Str.ofString "MAX_MELT", Rl.ci 3), (Str.ofString "MAX_PRICE", Rl.ci 9), (Str.ofString "MAX_ROOM", Rl.ci 6), (Str.ofString "MAX_BEAR", Rl.ci 2), (Str.ofString "MAX_LATE", Rl.ci 4), (Str.ofString "max", Rl.bt Bt.max), (Str.ofString "min", Rl.bt Bt.min), (Str.ofString "len", Rl.bt Bt.len), (Str.ofString "int", Rl.bt Bt.int), (Str.ofString "bool", Rl.bt Bt.bool), (Str.ofString "tuple", Rl.bt Bt.tuple), (Str.ofString "set", Rl.bt Bt.set), (Str.ofString "isinstance", Rl.bt Bt.isinstance), (Str.ofString "all", Rl.bt Bt.all), (Str.ofString "sorted", Rl.bt Bt.sorted), (Str.ofString "range", Rl.bt Bt.range), (Str.ofString "enumerate", Rl.bt Bt.enumerate), (Str.ofString "zip", Rl.bt Bt.zip)] : List (Str × Rl)),
  ([(Str.ofString "chest", [(0, .slot 0)]), (Str.ofString "lines", [(0, .slot 1)]), (Str.ofString "many", [(0, .slot 2)]), (Str.ofString "rates", [(0, .slot 3)]), (Str.ofString "chart", [(1, .slot 0)]), (Str.ofString "worths", [(1, .slot 1)]), (Str.ofString "places", [(0, .prop 9)]), (Str.ofString "roads", [(0, .prop 10)]), (Str.ofString "prices", [(0, .prop 11)]), (Str.ofString "box", [(0, .prop 12)])] : List (Str × List (Nat × At))),
  ([(Str.ofString "__len__", [(0, 6)]), (Str.ofString "__eq__", [(0, 7)]), (Str.ofString "all_parts", [(0, 8)]), (Str.ofString "worth", [(1, 25)]), (Str.ofString "least", [(1, 26)]), (Str.ofString "by_move", [(1, 27)])] : List (Str × List (Nat × Nat))),
  [(0, 5, 4), (1, 24, 2)],
  [(0, [(0, true), (1, false)]), (1, [(0, false), (1, true)])]⟩

abbrev R : PySem.W.OpenRow := PySem.W.OpenLaw.row PySem.Challenge.rw_coolway_k03_whole_worths
abbrev hk : PySem.W.Hook := hookV 5 cn ds gs
def ob (s : PySem.W.SharedT) : AlV := obsVG 5 cn ds gs (HandSHeadRun.getT s)
theorem ob_eq (s : PySem.W.SharedT) : ob s = hk.obs s.abs := obsVG_eq (HandSHeadRun.getT_eq s)
def loose : List Str := ([Str.ofString "CoolError", Str.ofString "BadMap", Str.ofString "BadState", Str.ofString "BadLateness", Str.ofString "MIN_PLACES", Str.ofString "MAX_PLACES", Str.ofString "MAX_ROADS", Str.ofString "MAX_HOURS", Str.ofString "MAX_MELT", Str.ofString "MAX_PRICE", Str.ofString "MAX_ROOM", Str.ofString "MAX_BEAR", Str.ofString "MAX_LATE", Str.ofString "is_integer", Str.ofString "is_road", Str.ofString "are_roads", Str.ofString "are_prices", Str.ofString "is_box", Str.ofString "Map", Str.ofString "check_map", Str.ofString "is_state", Str.ofString "check_state", Str.ofString "check_late", Str.ofString "roads_from", Str.ofString "is_done", Str.ofString "moves_of", Str.ofString "cost_of", Str.ofString "carried", Str.ofString "end_of", Str.ofString "ends_of", Str.ofString "Solver", Str.ofString "cost_from", Str.ofString "sure_cost", Str.ofString "price_of", Str.ofString "late_prices", Str.ofString "late_pairs", Str.ofString "room_prices", Str.ofString "_law_cell_at", Str.ofString "_law_draw", Str.ofString "_law_number"] : List Str) ++ ([Str.ofString "_law_next", Str.ofString "_law_pick", Str.ofString "_law_map"] : List Str)
theorem run (w : World) : HandSHeadRun.RunEq R (PySem.W.view R.prog [48]) hk ob 30000 loose w := by
  intro os
  kernel_rfl
end HT
end

section
set_option Elab.async false
set_option linter.all false
set_option maxRecDepth 100000
set_option maxHeartbeats 0
namespace HT
open PySem PySem.Spec PyProof.Rows L2 Ev
theorem d0 : ∃ (df : Df) (ps : List Str), ds[0]? = some df ∧ FnScope df.N ps df.scope ∧
    (∀ (kV doc pm : Value) (an : Option Addr) (cdv ct : Value) (us : List Value), us.length = ps.length → bindArgs (PySem.W.fnOf df.name df.qual df.params df.body df.scope .none kV doc pm an cdv ct) ⟨us, []⟩ = pure (ps.zip us)) ∧
    (⟨3, 3, b0⟩ : Fd) = ⟨ps.length, df.N.length, (lev evA gs 40).ss ⟨df.N, df.scope, fun _ => true⟩ df.body⟩ :=
  ⟨_, [Str.ofString "value", Str.ofString "low", Str.ofString "high"], rfl, ⟨rfl, rfl, rfl, by decide +kernel, by decide +kernel, by decide +kernel, by decide +kernel⟩, fun _ _ _ _ _ _ us hl => match us, hl with | [_, _, _], _ => rfl, by kernel_rfl⟩
theorem d1 : ∃ (df : Df) (ps : List Str), ds[1]? = some df ∧ FnScope df.N ps df.scope ∧
    (∀ (kV doc pm : Value) (an : Option Addr) (cdv ct : Value) (us : List Value), us.length = ps.length → bindArgs (PySem.W.fnOf df.name df.qual df.params df.body df.scope .none kV doc pm an cdv ct) ⟨us, []⟩ = pure (ps.zip us)) ∧
    (⟨2, 6, b1⟩ : Fd) = ⟨ps.length, df.N.length, (lev evA gs 40).ss ⟨df.N, df.scope, fun _ => true⟩ df.body⟩ :=
  ⟨_, [Str.ofString "value", Str.ofString "places"], rfl, ⟨rfl, rfl, rfl, by decide +kernel, by decide +kernel, by decide +kernel, by decide +kernel⟩, fun _ _ _ _ _ _ us hl => match us, hl with | [_, _], _ => rfl, by kernel_rfl⟩
theorem d2 : ∃ (df : Df) (ps : List Str), ds[2]? = some df ∧ FnScope df.N ps df.scope ∧
    (∀ (kV doc pm : Value) (an : Option Addr) (cdv ct : Value) (us : List Value), us.length = ps.length → bindArgs (PySem.W.fnOf df.name df.qual df.params df.body df.scope .none kV doc pm an cdv ct) ⟨us, []⟩ = pure (ps.zip us)) ∧
    (⟨2, 5, b2⟩ : Fd) = ⟨ps.length, df.N.length, (lev evA gs 40).ss ⟨df.N, df.scope, fun _ => true⟩ df.body⟩ :=
  ⟨_, [Str.ofString "value", Str.ofString "places"], rfl, ⟨rfl, rfl, rfl, by decide +kernel, by decide +kernel, by decide +kernel, by decide +kernel⟩, fun _ _ _ _ _ _ us hl => match us, hl with | [_, _], _ => rfl, by kernel_rfl⟩
theorem d3 : ∃ (df : Df) (ps : List Str), ds[3]? = some df ∧ FnScope df.N ps df.scope ∧
    (∀ (kV doc pm : Value) (an : Option Addr) (cdv ct : Value) (us : List Value), us.length = ps.length → bindArgs (PySem.W.fnOf df.name df.qual df.params df.body df.scope .none kV doc pm an cdv ct) ⟨us, []⟩ = pure (ps.zip us)) ∧
    (⟨2, 3, b3⟩ : Fd) = ⟨ps.length, df.N.length, (lev evA gs 40).ss ⟨df.N, df.scope, fun _ => true⟩ df.body⟩ :=
  ⟨_, [Str.ofString "value", Str.ofString "places"], rfl, ⟨rfl, rfl, rfl, by decide +kernel, by decide +kernel, by decide +kernel, by decide +kernel⟩, fun _ _ _ _ _ _ us hl => match us, hl with | [_, _], _ => rfl, by kernel_rfl⟩
theorem d4 : ∃ (df : Df) (ps : List Str), ds[4]? = some df ∧ FnScope df.N ps df.scope ∧
    (∀ (kV doc pm : Value) (an : Option Addr) (cdv ct : Value) (us : List Value), us.length = ps.length → bindArgs (PySem.W.fnOf df.name df.qual df.params df.body df.scope .none kV doc pm an cdv ct) ⟨us, []⟩ = pure (ps.zip us)) ∧
    (⟨1, 1, b4⟩ : Fd) = ⟨ps.length, df.N.length, (lev evA gs 40).ss ⟨df.N, df.scope, fun _ => true⟩ df.body⟩ :=
  ⟨_, [Str.ofString "value"], rfl, ⟨rfl, rfl, rfl, by decide +kernel, by decide +kernel, by decide +kernel, by decide +kernel⟩, fun _ _ _ _ _ _ us hl => match us, hl with | [_], _ => rfl, by kernel_rfl⟩
theorem d5 : ∃ (df : Df) (ps : List Str), ds[5]? = some df ∧ FnScope df.N ps df.scope ∧
    (∀ (kV doc pm : Value) (an : Option Addr) (cdv ct : Value) (us : List Value), us.length = ps.length → bindArgs (PySem.W.fnOf df.name df.qual df.params df.body df.scope .none kV doc pm an cdv ct) ⟨us, []⟩ = pure (ps.zip us)) ∧
    (⟨5, 5, b5⟩ : Fd) = ⟨ps.length, df.N.length, (lev evA gs 40).ss ⟨df.N, df.scope, fun _ => true⟩ df.body⟩ :=
  ⟨_, [Str.ofString "self", Str.ofString "places", Str.ofString "roads", Str.ofString "prices", Str.ofString "box"], rfl, ⟨rfl, rfl, rfl, by decide +kernel, by decide +kernel, by decide +kernel, by decide +kernel⟩, fun _ _ _ _ _ _ us hl => match us, hl with | [_, _, _, _, _], _ => rfl, by kernel_rfl⟩
theorem d6 : ∃ (df : Df) (ps : List Str), ds[6]? = some df ∧ FnScope df.N ps df.scope ∧
    (∀ (kV doc pm : Value) (an : Option Addr) (cdv ct : Value) (us : List Value), us.length = ps.length → bindArgs (PySem.W.fnOf df.name df.qual df.params df.body df.scope .none kV doc pm an cdv ct) ⟨us, []⟩ = pure (ps.zip us)) ∧
    (⟨1, 1, b6⟩ : Fd) = ⟨ps.length, df.N.length, (lev evA gs 40).ss ⟨df.N, df.scope, fun _ => true⟩ df.body⟩ :=
  ⟨_, [Str.ofString "self"], rfl, ⟨rfl, rfl, rfl, by decide +kernel, by decide +kernel, by decide +kernel, by decide +kernel⟩, fun _ _ _ _ _ _ us hl => match us, hl with | [_], _ => rfl, by kernel_rfl⟩
theorem d7 : ∃ (df : Df) (ps : List Str), ds[7]? = some df ∧ FnScope df.N ps df.scope ∧
    (∀ (kV doc pm : Value) (an : Option Addr) (cdv ct : Value) (us : List Value), us.length = ps.length → bindArgs (PySem.W.fnOf df.name df.qual df.params df.body df.scope .none kV doc pm an cdv ct) ⟨us, []⟩ = pure (ps.zip us)) ∧
    (⟨2, 2, b7⟩ : Fd) = ⟨ps.length, df.N.length, (lev evA gs 40).ss ⟨df.N, df.scope, fun _ => true⟩ df.body⟩ :=
  ⟨_, [Str.ofString "self", Str.ofString "other"], rfl, ⟨rfl, rfl, rfl, by decide +kernel, by decide +kernel, by decide +kernel, by decide +kernel⟩, fun _ _ _ _ _ _ us hl => match us, hl with | [_, _], _ => rfl, by kernel_rfl⟩
theorem d8 : ∃ (df : Df) (ps : List Str), ds[8]? = some df ∧ FnScope df.N ps df.scope ∧
    (∀ (kV doc pm : Value) (an : Option Addr) (cdv ct : Value) (us : List Value), us.length = ps.length → bindArgs (PySem.W.fnOf df.name df.qual df.params df.body df.scope .none kV doc pm an cdv ct) ⟨us, []⟩ = pure (ps.zip us)) ∧
    (⟨1, 1, b8⟩ : Fd) = ⟨ps.length, df.N.length, (lev evA gs 40).ss ⟨df.N, df.scope, fun _ => true⟩ df.body⟩ :=
  ⟨_, [Str.ofString "self"], rfl, ⟨rfl, rfl, rfl, by decide +kernel, by decide +kernel, by decide +kernel, by decide +kernel⟩, fun _ _ _ _ _ _ us hl => match us, hl with | [_], _ => rfl, by kernel_rfl⟩
theorem d9 : ∃ (df : Df) (ps : List Str), ds[9]? = some df ∧ FnScope df.N ps df.scope ∧
    (∀ (kV doc pm : Value) (an : Option Addr) (cdv ct : Value) (us : List Value), us.length = ps.length → bindArgs (PySem.W.fnOf df.name df.qual df.params df.body df.scope .none kV doc pm an cdv ct) ⟨us, []⟩ = pure (ps.zip us)) ∧
    (⟨1, 1, b9⟩ : Fd) = ⟨ps.length, df.N.length, (lev evA gs 40).ss ⟨df.N, df.scope, fun _ => true⟩ df.body⟩ :=
  ⟨_, [Str.ofString "self"], rfl, ⟨rfl, rfl, rfl, by decide +kernel, by decide +kernel, by decide +kernel, by decide +kernel⟩, fun _ _ _ _ _ _ us hl => match us, hl with | [_], _ => rfl, by kernel_rfl⟩
theorem d10 : ∃ (df : Df) (ps : List Str), ds[10]? = some df ∧ FnScope df.N ps df.scope ∧
    (∀ (kV doc pm : Value) (an : Option Addr) (cdv ct : Value) (us : List Value), us.length = ps.length → bindArgs (PySem.W.fnOf df.name df.qual df.params df.body df.scope .none kV doc pm an cdv ct) ⟨us, []⟩ = pure (ps.zip us)) ∧
    (⟨1, 1, b10⟩ : Fd) = ⟨ps.length, df.N.length, (lev evA gs 40).ss ⟨df.N, df.scope, fun _ => true⟩ df.body⟩ :=
  ⟨_, [Str.ofString "self"], rfl, ⟨rfl, rfl, rfl, by decide +kernel, by decide +kernel, by decide +kernel, by decide +kernel⟩, fun _ _ _ _ _ _ us hl => match us, hl with | [_], _ => rfl, by kernel_rfl⟩
theorem d11 : ∃ (df : Df) (ps : List Str), ds[11]? = some df ∧ FnScope df.N ps df.scope ∧
    (∀ (kV doc pm : Value) (an : Option Addr) (cdv ct : Value) (us : List Value), us.length = ps.length → bindArgs (PySem.W.fnOf df.name df.qual df.params df.body df.scope .none kV doc pm an cdv ct) ⟨us, []⟩ = pure (ps.zip us)) ∧
    (⟨1, 1, b11⟩ : Fd) = ⟨ps.length, df.N.length, (lev evA gs 40).ss ⟨df.N, df.scope, fun _ => true⟩ df.body⟩ :=
  ⟨_, [Str.ofString "self"], rfl, ⟨rfl, rfl, rfl, by decide +kernel, by decide +kernel, by decide +kernel, by decide +kernel⟩, fun _ _ _ _ _ _ us hl => match us, hl with | [_], _ => rfl, by kernel_rfl⟩
theorem d12 : ∃ (df : Df) (ps : List Str), ds[12]? = some df ∧ FnScope df.N ps df.scope ∧
    (∀ (kV doc pm : Value) (an : Option Addr) (cdv ct : Value) (us : List Value), us.length = ps.length → bindArgs (PySem.W.fnOf df.name df.qual df.params df.body df.scope .none kV doc pm an cdv ct) ⟨us, []⟩ = pure (ps.zip us)) ∧
    (⟨1, 1, b12⟩ : Fd) = ⟨ps.length, df.N.length, (lev evA gs 40).ss ⟨df.N, df.scope, fun _ => true⟩ df.body⟩ :=
  ⟨_, [Str.ofString "self"], rfl, ⟨rfl, rfl, rfl, by decide +kernel, by decide +kernel, by decide +kernel, by decide +kernel⟩, fun _ _ _ _ _ _ us hl => match us, hl with | [_], _ => rfl, by kernel_rfl⟩
theorem d13 : ∃ (df : Df) (ps : List Str), ds[13]? = some df ∧ FnScope df.N ps df.scope ∧
    (∀ (kV doc pm : Value) (an : Option Addr) (cdv ct : Value) (us : List Value), us.length = ps.length → bindArgs (PySem.W.fnOf df.name df.qual df.params df.body df.scope .none kV doc pm an cdv ct) ⟨us, []⟩ = pure (ps.zip us)) ∧
    (⟨1, 1, b13⟩ : Fd) = ⟨ps.length, df.N.length, (lev evA gs 40).ss ⟨df.N, df.scope, fun _ => true⟩ df.body⟩ :=
  ⟨_, [Str.ofString "chart"], rfl, ⟨rfl, rfl, rfl, by decide +kernel, by decide +kernel, by decide +kernel, by decide +kernel⟩, fun _ _ _ _ _ _ us hl => match us, hl with | [_], _ => rfl, by kernel_rfl⟩
theorem d14 : ∃ (df : Df) (ps : List Str), ds[14]? = some df ∧ FnScope df.N ps df.scope ∧
    (∀ (kV doc pm : Value) (an : Option Addr) (cdv ct : Value) (us : List Value), us.length = ps.length → bindArgs (PySem.W.fnOf df.name df.qual df.params df.body df.scope .none kV doc pm an cdv ct) ⟨us, []⟩ = pure (ps.zip us)) ∧
    (⟨2, 7, b14⟩ : Fd) = ⟨ps.length, df.N.length, (lev evA gs 40).ss ⟨df.N, df.scope, fun _ => true⟩ df.body⟩ :=
  ⟨_, [Str.ofString "chart", Str.ofString "value"], rfl, ⟨rfl, rfl, rfl, by decide +kernel, by decide +kernel, by decide +kernel, by decide +kernel⟩, fun _ _ _ _ _ _ us hl => match us, hl with | [_, _], _ => rfl, by kernel_rfl⟩
theorem d15 : ∃ (df : Df) (ps : List Str), ds[15]? = some df ∧ FnScope df.N ps df.scope ∧
    (∀ (kV doc pm : Value) (an : Option Addr) (cdv ct : Value) (us : List Value), us.length = ps.length → bindArgs (PySem.W.fnOf df.name df.qual df.params df.body df.scope .none kV doc pm an cdv ct) ⟨us, []⟩ = pure (ps.zip us)) ∧
    (⟨2, 2, b15⟩ : Fd) = ⟨ps.length, df.N.length, (lev evA gs 40).ss ⟨df.N, df.scope, fun _ => true⟩ df.body⟩ :=
  ⟨_, [Str.ofString "chart", Str.ofString "state"], rfl, ⟨rfl, rfl, rfl, by decide +kernel, by decide +kernel, by decide +kernel, by decide +kernel⟩, fun _ _ _ _ _ _ us hl => match us, hl with | [_, _], _ => rfl, by kernel_rfl⟩
theorem d16 : ∃ (df : Df) (ps : List Str), ds[16]? = some df ∧ FnScope df.N ps df.scope ∧
    (∀ (kV doc pm : Value) (an : Option Addr) (cdv ct : Value) (us : List Value), us.length = ps.length → bindArgs (PySem.W.fnOf df.name df.qual df.params df.body df.scope .none kV doc pm an cdv ct) ⟨us, []⟩ = pure (ps.zip us)) ∧
    (⟨1, 1, b16⟩ : Fd) = ⟨ps.length, df.N.length, (lev evA gs 40).ss ⟨df.N, df.scope, fun _ => true⟩ df.body⟩ :=
  ⟨_, [Str.ofString "late"], rfl, ⟨rfl, rfl, rfl, by decide +kernel, by decide +kernel, by decide +kernel, by decide +kernel⟩, fun _ _ _ _ _ _ us hl => match us, hl with | [_], _ => rfl, by kernel_rfl⟩
theorem d17 : ∃ (df : Df) (ps : List Str), ds[17]? = some df ∧ FnScope df.N ps df.scope ∧
    (∀ (kV doc pm : Value) (an : Option Addr) (cdv ct : Value) (us : List Value), us.length = ps.length → bindArgs (PySem.W.fnOf df.name df.qual df.params df.body df.scope .none kV doc pm an cdv ct) ⟨us, []⟩ = pure (ps.zip us)) ∧
    (⟨2, 4, b17⟩ : Fd) = ⟨ps.length, df.N.length, (lev evA gs 40).ss ⟨df.N, df.scope, fun _ => true⟩ df.body⟩ :=
  ⟨_, [Str.ofString "chart", Str.ofString "place"], rfl, ⟨rfl, rfl, rfl, by decide +kernel, by decide +kernel, by decide +kernel, by decide +kernel⟩, fun _ _ _ _ _ _ us hl => match us, hl with | [_, _], _ => rfl, by kernel_rfl⟩
theorem d18 : ∃ (df : Df) (ps : List Str), ds[18]? = some df ∧ FnScope df.N ps df.scope ∧
    (∀ (kV doc pm : Value) (an : Option Addr) (cdv ct : Value) (us : List Value), us.length = ps.length → bindArgs (PySem.W.fnOf df.name df.qual df.params df.body df.scope .none kV doc pm an cdv ct) ⟨us, []⟩ = pure (ps.zip us)) ∧
    (⟨2, 2, b18⟩ : Fd) = ⟨ps.length, df.N.length, (lev evA gs 40).ss ⟨df.N, df.scope, fun _ => true⟩ df.body⟩ :=
  ⟨_, [Str.ofString "chart", Str.ofString "state"], rfl, ⟨rfl, rfl, rfl, by decide +kernel, by decide +kernel, by decide +kernel, by decide +kernel⟩, fun _ _ _ _ _ _ us hl => match us, hl with | [_, _], _ => rfl, by kernel_rfl⟩
theorem d19 : ∃ (df : Df) (ps : List Str), ds[19]? = some df ∧ FnScope df.N ps df.scope ∧
    (∀ (kV doc pm : Value) (an : Option Addr) (cdv ct : Value) (us : List Value), us.length = ps.length → bindArgs (PySem.W.fnOf df.name df.qual df.params df.body df.scope .none kV doc pm an cdv ct) ⟨us, []⟩ = pure (ps.zip us)) ∧
    (⟨2, 5, b19⟩ : Fd) = ⟨ps.length, df.N.length, (lev evA gs 40).ss ⟨df.N, df.scope, fun _ => true⟩ df.body⟩ :=
  ⟨_, [Str.ofString "chart", Str.ofString "state"], rfl, ⟨rfl, rfl, rfl, by decide +kernel, by decide +kernel, by decide +kernel, by decide +kernel⟩, fun _ _ _ _ _ _ us hl => match us, hl with | [_, _], _ => rfl, by kernel_rfl⟩
theorem d20 : ∃ (df : Df) (ps : List Str), ds[20]? = some df ∧ FnScope df.N ps df.scope ∧
    (∀ (kV doc pm : Value) (an : Option Addr) (cdv ct : Value) (us : List Value), us.length = ps.length → bindArgs (PySem.W.fnOf df.name df.qual df.params df.body df.scope .none kV doc pm an cdv ct) ⟨us, []⟩ = pure (ps.zip us)) ∧
    (⟨3, 3, b20⟩ : Fd) = ⟨ps.length, df.N.length, (lev evA gs 40).ss ⟨df.N, df.scope, fun _ => true⟩ df.body⟩ :=
  ⟨_, [Str.ofString "chart", Str.ofString "place", Str.ofString "move"], rfl, ⟨rfl, rfl, rfl, by decide +kernel, by decide +kernel, by decide +kernel, by decide +kernel⟩, fun _ _ _ _ _ _ us hl => match us, hl with | [_, _, _], _ => rfl, by kernel_rfl⟩
theorem d21 : ∃ (df : Df) (ps : List Str), ds[21]? = some df ∧ FnScope df.N ps df.scope ∧
    (∀ (kV doc pm : Value) (an : Option Addr) (cdv ct : Value) (us : List Value), us.length = ps.length → bindArgs (PySem.W.fnOf df.name df.qual df.params df.body df.scope .none kV doc pm an cdv ct) ⟨us, []⟩ = pure (ps.zip us)) ∧
    (⟨4, 7, b21⟩ : Fd) = ⟨ps.length, df.N.length, (lev evA gs 40).ss ⟨df.N, df.scope, fun _ => true⟩ df.body⟩ :=
  ⟨_, [Str.ofString "chart", Str.ofString "load", Str.ofString "melt", Str.ofString "hours"], rfl, ⟨rfl, rfl, rfl, by decide +kernel, by decide +kernel, by decide +kernel, by decide +kernel⟩, fun _ _ _ _ _ _ us hl => match us, hl with | [_, _, _, _], _ => rfl, by kernel_rfl⟩
theorem d22 : ∃ (df : Df) (ps : List Str), ds[22]? = some df ∧ FnScope df.N ps df.scope ∧
    (∀ (kV doc pm : Value) (an : Option Addr) (cdv ct : Value) (us : List Value), us.length = ps.length → bindArgs (PySem.W.fnOf df.name df.qual df.params df.body df.scope .none kV doc pm an cdv ct) ⟨us, []⟩ = pure (ps.zip us)) ∧
    (⟨4, 13, b22⟩ : Fd) = ⟨ps.length, df.N.length, (lev evA gs 40).ss ⟨df.N, df.scope, fun _ => true⟩ df.body⟩ :=
  ⟨_, [Str.ofString "chart", Str.ofString "state", Str.ofString "move", Str.ofString "more"], rfl, ⟨rfl, rfl, rfl, by decide +kernel, by decide +kernel, by decide +kernel, by decide +kernel⟩, fun _ _ _ _ _ _ us hl => match us, hl with | [_, _, _, _], _ => rfl, by kernel_rfl⟩
theorem d23 : ∃ (df : Df) (ps : List Str), ds[23]? = some df ∧ FnScope df.N ps df.scope ∧
    (∀ (kV doc pm : Value) (an : Option Addr) (cdv ct : Value) (us : List Value), us.length = ps.length → bindArgs (PySem.W.fnOf df.name df.qual df.params df.body df.scope .none kV doc pm an cdv ct) ⟨us, []⟩ = pure (ps.zip us)) ∧
    (⟨3, 4, b23⟩ : Fd) = ⟨ps.length, df.N.length, (lev evA gs 40).ss ⟨df.N, df.scope, fun _ => true⟩ df.body⟩ :=
  ⟨_, [Str.ofString "chart", Str.ofString "state", Str.ofString "move"], rfl, ⟨rfl, rfl, rfl, by decide +kernel, by decide +kernel, by decide +kernel, by decide +kernel⟩, fun _ _ _ _ _ _ us hl => match us, hl with | [_, _, _], _ => rfl, by kernel_rfl⟩
theorem d24 : ∃ (df : Df) (ps : List Str), ds[24]? = some df ∧ FnScope df.N ps df.scope ∧
    (∀ (kV doc pm : Value) (an : Option Addr) (cdv ct : Value) (us : List Value), us.length = ps.length → bindArgs (PySem.W.fnOf df.name df.qual df.params df.body df.scope .none kV doc pm an cdv ct) ⟨us, []⟩ = pure (ps.zip us)) ∧
    (⟨2, 2, b24⟩ : Fd) = ⟨ps.length, df.N.length, (lev evA gs 40).ss ⟨df.N, df.scope, fun _ => true⟩ df.body⟩ :=
  ⟨_, [Str.ofString "self", Str.ofString "chart"], rfl, ⟨rfl, rfl, rfl, by decide +kernel, by decide +kernel, by decide +kernel, by decide +kernel⟩, fun _ _ _ _ _ _ us hl => match us, hl with | [_, _], _ => rfl, by kernel_rfl⟩
theorem d25 : ∃ (df : Df) (ps : List Str), ds[25]? = some df ∧ FnScope df.N ps df.scope ∧
    (∀ (kV doc pm : Value) (an : Option Addr) (cdv ct : Value) (us : List Value), us.length = ps.length → bindArgs (PySem.W.fnOf df.name df.qual df.params df.body df.scope .none kV doc pm an cdv ct) ⟨us, []⟩ = pure (ps.zip us)) ∧
    (⟨2, 2, b25⟩ : Fd) = ⟨ps.length, df.N.length, (lev evA gs 40).ss ⟨df.N, df.scope, fun _ => true⟩ df.body⟩ :=
  ⟨_, [Str.ofString "self", Str.ofString "state"], rfl, ⟨rfl, rfl, rfl, by decide +kernel, by decide +kernel, by decide +kernel, by decide +kernel⟩, fun _ _ _ _ _ _ us hl => match us, hl with | [_, _], _ => rfl, by kernel_rfl⟩
theorem d26 : ∃ (df : Df) (ps : List Str), ds[26]? = some df ∧ FnScope df.N ps df.scope ∧
    (∀ (kV doc pm : Value) (an : Option Addr) (cdv ct : Value) (us : List Value), us.length = ps.length → bindArgs (PySem.W.fnOf df.name df.qual df.params df.body df.scope .none kV doc pm an cdv ct) ⟨us, []⟩ = pure (ps.zip us)) ∧
    (⟨2, 6, b26⟩ : Fd) = ⟨ps.length, df.N.length, (lev evA gs 40).ss ⟨df.N, df.scope, fun _ => true⟩ df.body⟩ :=
  ⟨_, [Str.ofString "self", Str.ofString "state"], rfl, ⟨rfl, rfl, rfl, by decide +kernel, by decide +kernel, by decide +kernel, by decide +kernel⟩, fun _ _ _ _ _ _ us hl => match us, hl with | [_, _], _ => rfl, by kernel_rfl⟩
theorem d27 : ∃ (df : Df) (ps : List Str), ds[27]? = some df ∧ FnScope df.N ps df.scope ∧
    (∀ (kV doc pm : Value) (an : Option Addr) (cdv ct : Value) (us : List Value), us.length = ps.length → bindArgs (PySem.W.fnOf df.name df.qual df.params df.body df.scope .none kV doc pm an cdv ct) ⟨us, []⟩ = pure (ps.zip us)) ∧
    (⟨3, 5, b27⟩ : Fd) = ⟨ps.length, df.N.length, (lev evA gs 40).ss ⟨df.N, df.scope, fun _ => true⟩ df.body⟩ :=
  ⟨_, [Str.ofString "self", Str.ofString "state", Str.ofString "move"], rfl, ⟨rfl, rfl, rfl, by decide +kernel, by decide +kernel, by decide +kernel, by decide +kernel⟩, fun _ _ _ _ _ _ us hl => match us, hl with | [_, _, _], _ => rfl, by kernel_rfl⟩
theorem d28 : ∃ (df : Df) (ps : List Str), ds[28]? = some df ∧ FnScope df.N ps df.scope ∧
    (∀ (kV doc pm : Value) (an : Option Addr) (cdv ct : Value) (us : List Value), us.length = ps.length → bindArgs (PySem.W.fnOf df.name df.qual df.params df.body df.scope .none kV doc pm an cdv ct) ⟨us, []⟩ = pure (ps.zip us)) ∧
    (⟨2, 2, b28⟩ : Fd) = ⟨ps.length, df.N.length, (lev evA gs 40).ss ⟨df.N, df.scope, fun _ => true⟩ df.body⟩ :=
  ⟨_, [Str.ofString "chart", Str.ofString "state"], rfl, ⟨rfl, rfl, rfl, by decide +kernel, by decide +kernel, by decide +kernel, by decide +kernel⟩, fun _ _ _ _ _ _ us hl => match us, hl with | [_, _], _ => rfl, by kernel_rfl⟩
theorem d29 : ∃ (df : Df) (ps : List Str), ds[29]? = some df ∧ FnScope df.N ps df.scope ∧
    (∀ (kV doc pm : Value) (an : Option Addr) (cdv ct : Value) (us : List Value), us.length = ps.length → bindArgs (PySem.W.fnOf df.name df.qual df.params df.body df.scope .none kV doc pm an cdv ct) ⟨us, []⟩ = pure (ps.zip us)) ∧
    (⟨2, 2, b29⟩ : Fd) = ⟨ps.length, df.N.length, (lev evA gs 40).ss ⟨df.N, df.scope, fun _ => true⟩ df.body⟩ :=
  ⟨_, [Str.ofString "chart", Str.ofString "state"], rfl, ⟨rfl, rfl, rfl, by decide +kernel, by decide +kernel, by decide +kernel, by decide +kernel⟩, fun _ _ _ _ _ _ us hl => match us, hl with | [_, _], _ => rfl, by kernel_rfl⟩
theorem d30 : ∃ (df : Df) (ps : List Str), ds[30]? = some df ∧ FnScope df.N ps df.scope ∧
    (∀ (kV doc pm : Value) (an : Option Addr) (cdv ct : Value) (us : List Value), us.length = ps.length → bindArgs (PySem.W.fnOf df.name df.qual df.params df.body df.scope .none kV doc pm an cdv ct) ⟨us, []⟩ = pure (ps.zip us)) ∧
    (⟨2, 2, b30⟩ : Fd) = ⟨ps.length, df.N.length, (lev evA gs 40).ss ⟨df.N, df.scope, fun _ => true⟩ df.body⟩ :=
  ⟨_, [Str.ofString "chart", Str.ofString "late"], rfl, ⟨rfl, rfl, rfl, by decide +kernel, by decide +kernel, by decide +kernel, by decide +kernel⟩, fun _ _ _ _ _ _ us hl => match us, hl with | [_, _], _ => rfl, by kernel_rfl⟩
theorem d31 : ∃ (df : Df) (ps : List Str), ds[31]? = some df ∧ FnScope df.N ps df.scope ∧
    (∀ (kV doc pm : Value) (an : Option Addr) (cdv ct : Value) (us : List Value), us.length = ps.length → bindArgs (PySem.W.fnOf df.name df.qual df.params df.body df.scope .none kV doc pm an cdv ct) ⟨us, []⟩ = pure (ps.zip us)) ∧
    (⟨1, 2, b31⟩ : Fd) = ⟨ps.length, df.N.length, (lev evA gs 40).ss ⟨df.N, df.scope, fun _ => true⟩ df.body⟩ :=
  ⟨_, [Str.ofString "chart"], rfl, ⟨rfl, rfl, rfl, by decide +kernel, by decide +kernel, by decide +kernel, by decide +kernel⟩, fun _ _ _ _ _ _ us hl => match us, hl with | [_], _ => rfl, by kernel_rfl⟩
theorem d32 : ∃ (df : Df) (ps : List Str), ds[32]? = some df ∧ FnScope df.N ps df.scope ∧
    (∀ (kV doc pm : Value) (an : Option Addr) (cdv ct : Value) (us : List Value), us.length = ps.length → bindArgs (PySem.W.fnOf df.name df.qual df.params df.body df.scope .none kV doc pm an cdv ct) ⟨us, []⟩ = pure (ps.zip us)) ∧
    (⟨1, 6, b32⟩ : Fd) = ⟨ps.length, df.N.length, (lev evA gs 40).ss ⟨df.N, df.scope, fun _ => true⟩ df.body⟩ :=
  ⟨_, [Str.ofString "chart"], rfl, ⟨rfl, rfl, rfl, by decide +kernel, by decide +kernel, by decide +kernel, by decide +kernel⟩, fun _ _ _ _ _ _ us hl => match us, hl with | [_], _ => rfl, by kernel_rfl⟩
theorem d33 : ∃ (df : Df) (ps : List Str), ds[33]? = some df ∧ FnScope df.N ps df.scope ∧
    (∀ (kV doc pm : Value) (an : Option Addr) (cdv ct : Value) (us : List Value), us.length = ps.length → bindArgs (PySem.W.fnOf df.name df.qual df.params df.body df.scope .none kV doc pm an cdv ct) ⟨us, []⟩ = pure (ps.zip us)) ∧
    (⟨2, 5, b33⟩ : Fd) = ⟨ps.length, df.N.length, (lev evA gs 40).ss ⟨df.N, df.scope, fun _ => true⟩ df.body⟩ :=
  ⟨_, [Str.ofString "chart", Str.ofString "late"], rfl, ⟨rfl, rfl, rfl, by decide +kernel, by decide +kernel, by decide +kernel, by decide +kernel⟩, fun _ _ _ _ _ _ us hl => match us, hl with | [_, _], _ => rfl, by kernel_rfl⟩
theorem d34 : ∃ (df : Df) (ps : List Str), ds[34]? = some df ∧ FnScope df.N ps df.scope ∧
    (∀ (kV doc pm : Value) (an : Option Addr) (cdv ct : Value) (us : List Value), us.length = ps.length → bindArgs (PySem.W.fnOf df.name df.qual df.params df.body df.scope .none kV doc pm an cdv ct) ⟨us, []⟩ = pure (ps.zip us)) ∧
    (⟨2, 2, b34⟩ : Fd) = ⟨ps.length, df.N.length, (lev evA gs 40).ss ⟨df.N, df.scope, fun _ => true⟩ df.body⟩ :=
  ⟨_, [Str.ofString "_law_script", Str.ofString "_law_k"], rfl, ⟨rfl, rfl, rfl, by decide +kernel, by decide +kernel, by decide +kernel, by decide +kernel⟩, fun _ _ _ _ _ _ us hl => match us, hl with | [_, _], _ => rfl, by kernel_rfl⟩
theorem d35 : ∃ (df : Df) (ps : List Str), ds[35]? = some df ∧ FnScope df.N ps df.scope ∧
    (∀ (kV doc pm : Value) (an : Option Addr) (cdv ct : Value) (us : List Value), us.length = ps.length → bindArgs (PySem.W.fnOf df.name df.qual df.params df.body df.scope .none kV doc pm an cdv ct) ⟨us, []⟩ = pure (ps.zip us)) ∧
    (⟨3, 4, b35⟩ : Fd) = ⟨ps.length, df.N.length, (lev evA gs 40).ss ⟨df.N, df.scope, fun _ => true⟩ df.body⟩ :=
  ⟨_, [Str.ofString "_law_cell", Str.ofString "_law_k", Str.ofString "_law_bound"], rfl, ⟨rfl, rfl, rfl, by decide +kernel, by decide +kernel, by decide +kernel, by decide +kernel⟩, fun _ _ _ _ _ _ us hl => match us, hl with | [_, _, _], _ => rfl, by kernel_rfl⟩
theorem d36 : ∃ (df : Df) (ps : List Str), ds[36]? = some df ∧ FnScope df.N ps df.scope ∧
    (∀ (kV doc pm : Value) (an : Option Addr) (cdv ct : Value) (us : List Value), us.length = ps.length → bindArgs (PySem.W.fnOf df.name df.qual df.params df.body df.scope .none kV doc pm an cdv ct) ⟨us, []⟩ = pure (ps.zip us)) ∧
    (⟨3, 7, b36⟩ : Fd) = ⟨ps.length, df.N.length, (lev evA gs 40).ss ⟨df.N, df.scope, fun _ => true⟩ df.body⟩ :=
  ⟨_, [Str.ofString "_law_cell", Str.ofString "_law_k", Str.ofString "_law_bound"], rfl, ⟨rfl, rfl, rfl, by decide +kernel, by decide +kernel, by decide +kernel, by decide +kernel⟩, fun _ _ _ _ _ _ us hl => match us, hl with | [_, _, _], _ => rfl, by kernel_rfl⟩
theorem d37 : ∃ (df : Df) (ps : List Str), ds[37]? = some df ∧ FnScope df.N ps df.scope ∧
    (∀ (kV doc pm : Value) (an : Option Addr) (cdv ct : Value) (us : List Value), us.length = ps.length → bindArgs (PySem.W.fnOf df.name df.qual df.params df.body df.scope .none kV doc pm an cdv ct) ⟨us, []⟩ = pure (ps.zip us)) ∧
    (⟨2, 4, b37⟩ : Fd) = ⟨ps.length, df.N.length, (lev evA gs 40).ss ⟨df.N, df.scope, fun _ => true⟩ df.body⟩ :=
  ⟨_, [Str.ofString "_law_draw_here", Str.ofString "_law_bound"], rfl, ⟨rfl, rfl, rfl, by decide +kernel, by decide +kernel, by decide +kernel, by decide +kernel⟩, fun _ _ _ _ _ _ us hl => match us, hl with | [_, _], _ => rfl, by kernel_rfl⟩
theorem d38 : ∃ (df : Df) (ps : List Str), ds[38]? = some df ∧ FnScope df.N ps df.scope ∧
    (∀ (kV doc pm : Value) (an : Option Addr) (cdv ct : Value) (us : List Value), us.length = ps.length → bindArgs (PySem.W.fnOf df.name df.qual df.params df.body df.scope .none kV doc pm an cdv ct) ⟨us, []⟩ = pure (ps.zip us)) ∧
    (⟨2, 2, b38⟩ : Fd) = ⟨ps.length, df.N.length, (lev evA gs 40).ss ⟨df.N, df.scope, fun _ => true⟩ df.body⟩ :=
  ⟨_, [Str.ofString "_law_draw_here", Str.ofString "_law_things"], rfl, ⟨rfl, rfl, rfl, by decide +kernel, by decide +kernel, by decide +kernel, by decide +kernel⟩, fun _ _ _ _ _ _ us hl => match us, hl with | [_, _], _ => rfl, by kernel_rfl⟩
theorem d39 : ∃ (df : Df) (ps : List Str), ds[39]? = some df ∧ FnScope df.N ps df.scope ∧
    (∀ (kV doc pm : Value) (an : Option Addr) (cdv ct : Value) (us : List Value), us.length = ps.length → bindArgs (PySem.W.fnOf df.name df.qual df.params df.body df.scope .none kV doc pm an cdv ct) ⟨us, []⟩ = pure (ps.zip us)) ∧
    (⟨2, 10, b39⟩ : Fd) = ⟨ps.length, df.N.length, (lev evA gs 40).ss ⟨df.N, df.scope, fun _ => true⟩ df.body⟩ :=
  ⟨_, [Str.ofString "_law_draw_here", Str.ofString "_law_places"], rfl, ⟨rfl, rfl, rfl, by decide +kernel, by decide +kernel, by decide +kernel, by decide +kernel⟩, fun _ _ _ _ _ _ us hl => match us, hl with | [_, _], _ => rfl, by kernel_rfl⟩
theorem d40 : ∃ (df : Df) (ps : List Str), ds[40]? = some df ∧ FnScope df.N ps df.scope ∧
    (∀ (kV doc pm : Value) (an : Option Addr) (cdv ct : Value) (us : List Value), us.length = ps.length → bindArgs (PySem.W.fnOf df.name df.qual df.params df.body df.scope .none kV doc pm an cdv ct) ⟨us, []⟩ = pure (ps.zip us)) ∧
    (⟨1, 12, b40⟩ : Fd) = ⟨ps.length, df.N.length, (lev evA gs 40).ss ⟨df.N, df.scope, fun _ => true⟩ df.body⟩ :=
  ⟨_, [Str.ofString "_law_script"], rfl, ⟨rfl, rfl, rfl, by decide +kernel, by decide +kernel, by decide +kernel, by decide +kernel⟩, fun _ _ _ _ _ _ us hl => match us, hl with | [_], _ => rfl, by kernel_rfl⟩
theorem gsok : GsOk gs tab where
  fn := fun x f h => by
    have q : gs.roles.all (fun r => match r.2 with | .fn f => (nthF tab f).isSome | _ => true) = true := by kernel_rfl
    exact List.all_eq_true.mp q _ h
  bt := fun x b h => by
    have q : gs.roles.all (fun r => match r.2 with | .bt b => decide (r.1 = btName b) | _ => true) = true := by kernel_rfl
    exact of_decide_eq_true (List.all_eq_true.mp q _ h)
end HT
end

section
set_option Elab.async false
set_option linter.all false
set_option maxRecDepth 100000
namespace HT
open PySem PySem.Spec PyProof.Rows L2 Ev
theorem k3w : K3 tab [(0, false), (1, false)] [(0, true), (1, false)] [(0, 6)] 0 1 2 3 4 5 13 14 15 17 18 19 20 21 22 23 24 25 26 27 28 29 30 31 32 33 16 34 35 36 37 38 39 9 10 11 12 sBad sBad sBad sBad sBad sBad sBad where
  Ot := rfl
  L := ⟨rfl, rfl, rfl, rfl, rfl⟩
  W := ⟨rfl, rfl, rfl, rfl, rfl, rfl⟩
  Q := ⟨rfl, rfl, rfl, rfl⟩
  S := ⟨rfl, rfl, rfl, rfl, rfl, rfl, rfl, rfl, rfl, rfl, rfl⟩
  Z := ⟨rfl, rfl, rfl, rfl, rfl, rfl, rfl⟩
  Cm := rfl
  Is := rfl
  Ck := rfl
  Mp := rfl
theorem ev (ns : List Int) (_ : ns.length ≤ 63) : ∃ h', callD tab (40 + 1) 40 [.ref 0] (mem0 ns) = .ok (.bl true) h' :=
  k3_ok k3w rfl (by decide) rfl (Mem.get_push_new _ _)
end HT
end

section
set_option Elab.async false
set_option linter.all false
set_option maxRecDepth 100000
set_option maxHeartbeats 0
namespace HT
open PySem PySem.Spec PyProof.Rows L2 Ev
theorem tabok : TabOk' gs ds tab 40 where
  tabs := gsok
  fd := fun f d e => match f, e with
    | 0, e => by cases (show some (⟨3, 3, b0⟩ : Fd) = some d from e); exact d0
    | 1, e => by cases (show some (⟨2, 6, b1⟩ : Fd) = some d from e); exact d1
    | 2, e => by cases (show some (⟨2, 5, b2⟩ : Fd) = some d from e); exact d2
    | 3, e => by cases (show some (⟨2, 3, b3⟩ : Fd) = some d from e); exact d3
    | 4, e => by cases (show some (⟨1, 1, b4⟩ : Fd) = some d from e); exact d4
    | 5, e => by cases (show some (⟨5, 5, b5⟩ : Fd) = some d from e); exact d5
    | 6, e => by cases (show some (⟨1, 1, b6⟩ : Fd) = some d from e); exact d6
    | 7, e => by cases (show some (⟨2, 2, b7⟩ : Fd) = some d from e); exact d7
    | 8, e => by cases (show some (⟨1, 1, b8⟩ : Fd) = some d from e); exact d8
    | 9, e => by cases (show some (⟨1, 1, b9⟩ : Fd) = some d from e); exact d9
    | 10, e => by cases (show some (⟨1, 1, b10⟩ : Fd) = some d from e); exact d10
    | 11, e => by cases (show some (⟨1, 1, b11⟩ : Fd) = some d from e); exact d11
    | 12, e => by cases (show some (⟨1, 1, b12⟩ : Fd) = some d from e); exact d12
    | 13, e => by cases (show some (⟨1, 1, b13⟩ : Fd) = some d from e); exact d13
    | 14, e => by cases (show some (⟨2, 7, b14⟩ : Fd) = some d from e); exact d14
    | 15, e => by cases (show some (⟨2, 2, b15⟩ : Fd) = some d from e); exact d15
    | 16, e => by cases (show some (⟨1, 1, b16⟩ : Fd) = some d from e); exact d16
    | 17, e => by cases (show some (⟨2, 4, b17⟩ : Fd) = some d from e); exact d17
    | 18, e => by cases (show some (⟨2, 2, b18⟩ : Fd) = some d from e); exact d18
    | 19, e => by cases (show some (⟨2, 5, b19⟩ : Fd) = some d from e); exact d19
    | 20, e => by cases (show some (⟨3, 3, b20⟩ : Fd) = some d from e); exact d20
    | 21, e => by cases (show some (⟨4, 7, b21⟩ : Fd) = some d from e); exact d21
    | 22, e => by cases (show some (⟨4, 13, b22⟩ : Fd) = some d from e); exact d22
    | 23, e => by cases (show some (⟨3, 4, b23⟩ : Fd) = some d from e); exact d23
    | 24, e => by cases (show some (⟨2, 2, b24⟩ : Fd) = some d from e); exact d24
    | 25, e => by cases (show some (⟨2, 2, b25⟩ : Fd) = some d from e); exact d25
    | 26, e => by cases (show some (⟨2, 6, b26⟩ : Fd) = some d from e); exact d26
    | 27, e => by cases (show some (⟨3, 5, b27⟩ : Fd) = some d from e); exact d27
    | 28, e => by cases (show some (⟨2, 2, b28⟩ : Fd) = some d from e); exact d28
    | 29, e => by cases (show some (⟨2, 2, b29⟩ : Fd) = some d from e); exact d29
    | 30, e => by cases (show some (⟨2, 2, b30⟩ : Fd) = some d from e); exact d30
    | 31, e => by cases (show some (⟨1, 2, b31⟩ : Fd) = some d from e); exact d31
    | 32, e => by cases (show some (⟨1, 6, b32⟩ : Fd) = some d from e); exact d32
    | 33, e => by cases (show some (⟨2, 5, b33⟩ : Fd) = some d from e); exact d33
    | 34, e => by cases (show some (⟨2, 2, b34⟩ : Fd) = some d from e); exact d34
    | 35, e => by cases (show some (⟨3, 4, b35⟩ : Fd) = some d from e); exact d35
    | 36, e => by cases (show some (⟨3, 7, b36⟩ : Fd) = some d from e); exact d36
    | 37, e => by cases (show some (⟨2, 4, b37⟩ : Fd) = some d from e); exact d37
    | 38, e => by cases (show some (⟨2, 2, b38⟩ : Fd) = some d from e); exact d38
    | 39, e => by cases (show some (⟨2, 10, b39⟩ : Fd) = some d from e); exact d39
    | 40, e => by cases (show some (⟨1, 12, b40⟩ : Fd) = some d from e); exact d40
    | f + 41, e => by cases (show (none : Option Fd) = some d from e)
theorem hx : ∃ (df : Df), ds[40]? = some df ∧ FnScope df.N [Str.ofString "_law_script"] df.scope ∧ (∀ (kV doc pm : Value) (an : Option Addr) (cdv ct : Value) (us : List Value), us.length = [Str.ofString "_law_script"].length → bindArgs (PySem.W.fnOf df.name df.qual df.params df.body df.scope .none kV doc pm an cdv ct) ⟨us, []⟩ = pure ([Str.ofString "_law_script"].zip us)) ∧
      nthF tab 40 = some ⟨1, df.N.length, (lev evA gs 40).ss ⟨df.N, df.scope, fun _ => true⟩ df.body⟩ :=
  ⟨_, rfl, ⟨rfl, rfl, rfl, by decide +kernel, by decide +kernel, by decide +kernel, by decide +kernel⟩, fun _ _ _ _ _ _ us hl => match us, hl with | [_], _ => rfl, by kernel_rfl⟩
theorem hrole : ((Str.ofString "law"), Rl.fn 40) ∈ gs.roles := look_mem (by kernel_rfl)
end HT
open PySem PySem.W PySem.Calls PyProof.Rows
theorem PySem.Challenge.cw_coolway_k03_whole_worths_holds : PySem.Challenge.rw_coolway_k03_whole_worths.Holds := by
  w_on; o_law
  refine HandSHeadRun.head_any (r := OpenLaw.row PySem.Challenge.rw_coolway_k03_whole_worths) (q := view (OpenLaw.row PySem.Challenge.rw_coolway_k03_whole_worths).prog [48]) (H := HT.hk) (ob := HT.ob) (M := 30000) (loose := HT.loose) (d := HandSHeadRun.topDef (OpenLaw.row PySem.Challenge.rw_coolway_k03_whole_worths).prog 48) (kwd := []) HT.ob_eq
    (by kernel_rfl) (fun s => by kernel_rfl) HT.run (by kernel_rfl) (by kernel_rfl) (by kernel_rfl) (by rfl) (by first | assumption | decide +kernel) (by decide +kernel) ⟨rfl, rfl, rfl, rfl, rfl, by decide +kernel⟩ ?hw ?hc
  case hw => w_witness2
  case hc =>
    refine L2.walk_ofE (l := PySem.Challenge.rw_coolway_k03_whole_worths) (n := 63) (k := 4 * 40 + 3 + 1) (x := Str.ofString "_law_script") (CX := fun _ _ _ _ _ _ => False) rfl (by decide) (by kernel_rfl) ⟨rfl, by decide, by decide⟩ ?F (fun _ _ _ _ z => z)
    intro w mg fa h Y G hmg0
    have hmg : mg (Str.ofString "law") = some (.ref fa) := by
      have e : (HandSHeadRun.topDef (OpenLaw.row PySem.Challenge.rw_coolway_k03_whole_worths).prog 48).name = (Str.ofString "law") := by kernel_rfl
      rw [← e]
      exact hmg0
    exact Ev.ev_law (k := 40) HT.tabok Y G hmg HT.hrole HT.hx HT.ev
#print axioms PySem.Challenge.cw_coolway_k03_whole_worths_holds
end
