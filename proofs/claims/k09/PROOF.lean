import PyProof.Rows.All
import Wide.All
import OpenK.AllK
import Wide.FinOn
import HandS.ForMost
import HandS.Exc
import HandS.ExcOwn
import HandS.TryOnly
import HandS.TryMany
import HandS.WordsExc
import HandS.CallSlots
import HandS.TupAny
import HandS.TupMul
import HandS.Deep
import HandS.IsInst
import HandS.Wide
import HandS.More
import HandS.Lambda
import HandS.ExcInit
import HandS.ExcIs
import KE.KExcIs
import KE.GoesRaise
import HandS.Zip
import KE.GoesMore
import KE.DataFind
import HandS.SortInts
import HandS.SetTxt0
import HandS.Set
import PyProof.Rows.SortShellAny
import HandS.EndTab
import HandS.Iter
import PySem.Challenge.RW_nickbook_k09_many_deeds
set_option Elab.async false
set_option linter.all false
set_option maxRecDepth 100000
set_option maxHeartbeats 4000000
/-! DenA: a mirror of values, of the heap that changes, and of what statements do: plain Lean, nothing of the machine. -/
namespace Dn
open PySem

/-- values; a list that nobody changes any more is a value, one that may change is a place -/
inductive D where
  | non | bl (b : Bool) | int (i : Int) | str (x : Str) | tup (l : List D) | lst (l : List D) | ref (n : Nat) | exn (c : Str) (fs : List (Str × D)) | scr (ns : List Int)
deriving Inhabited
/-- what stands at a place -/
inductive HD where
  | lst (l : List D) | dct (kvs : List (D × D)) | ins (c : Str) (fs : List (Str × D)) | dead
deriving Inhabited
abbrev Hm := List HD
abbrev Ev := List (Option D)

mutual
def D.beq : D → D → Bool
  | .non, .non => true
  | .bl a, .bl b => a == b
  | .int a, .int b => a == b
  | .str a, .str b => a == b
  | .tup a, .tup b => D.beqL a b
  | .lst a, .lst b => D.beqL a b
  | .ref a, .ref b => a == b
  | .exn c fs, .exn c' fs' => c == c' && D.beqF fs fs'
  | .scr a, .scr b => a == b
  | _, _ => false
def D.beqL : List D → List D → Bool
  | [], [] => true
  | x :: xs, y :: ys => D.beq x y && D.beqL xs ys
  | _, _ => false
def D.beqF : List (Str × D) → List (Str × D) → Bool
  | [], [] => true
  | (f, x) :: xs, (g, y) :: ys => f == g && D.beq x y && D.beqF xs ys
  | _, _ => false
end
mutual
theorem D.beq_refl : ∀ a : D, D.beq a a = true
  | .non => by simp [D.beq]
  | .bl a => by simp [D.beq]
  | .int a => by simp [D.beq]
  | .str a => by simp [D.beq]
  | .tup a => by simp [D.beq, D.beqL_refl a]
  | .lst a => by simp [D.beq, D.beqL_refl a]
  | .ref a => by simp [D.beq]
  | .exn c fs => by simp [D.beq, D.beqF_refl fs]
  | .scr a => by simp [D.beq]
theorem D.beqL_refl : ∀ a : List D, D.beqL a a = true
  | [] => by simp [D.beqL]
  | x :: xs => by simp [D.beqL, D.beq_refl x, D.beqL_refl xs]
theorem D.beqF_refl : ∀ a : List (Str × D), D.beqF a a = true
  | [] => by simp [D.beqF]
  | (f, x) :: xs => by simp [D.beqF, D.beq_refl x, D.beqF_refl xs]
end
mutual
theorem D.beq_eq : ∀ a b : D, D.beq a b = true → a = b
  | .non, b, h => by cases b <;> simp_all [D.beq]
  | .bl a, b, h => by cases b <;> simp_all [D.beq]
  | .int a, b, h => by cases b <;> simp_all [D.beq]
  | .str a, b, h => by cases b <;> simp_all [D.beq]
  | .tup a, b, h => by
    cases b with
    | tup b => rw [D.beqL_eq a b (by simpa [D.beq] using h)]
    | _ => simp [D.beq] at h
  | .lst a, b, h => by
    cases b with
    | lst b => rw [D.beqL_eq a b (by simpa [D.beq] using h)]
    | _ => simp [D.beq] at h
  | .ref a, b, h => by cases b <;> simp_all [D.beq]
  | .scr a, b, h => by cases b <;> simp_all [D.beq]
  | .exn c fs, b, h => by
    cases b with
    | exn c' fs' =>
      simp only [D.beq, Bool.and_eq_true, beq_iff_eq] at h
      rw [h.1, D.beqF_eq fs fs' h.2]
    | _ => simp [D.beq] at h
theorem D.beqL_eq : ∀ a b : List D, D.beqL a b = true → a = b
  | [], b, h => by cases b <;> simp_all [D.beqL]
  | x :: xs, [], h => by simp [D.beqL] at h
  | x :: xs, y :: ys, h => by
    simp only [D.beqL, Bool.and_eq_true] at h
    rw [D.beq_eq x y h.1, D.beqL_eq xs ys h.2]
theorem D.beqF_eq : ∀ a b : List (Str × D), D.beqF a b = true → a = b
  | [], b, h => by cases b <;> simp_all [D.beqF]
  | (f, x) :: xs, [], h => by simp [D.beqF] at h
  | (f, x) :: xs, (g, y) :: ys, h => by
    simp only [D.beqF, Bool.and_eq_true, beq_iff_eq] at h
    rw [h.1.1, D.beq_eq x y h.1.2, D.beqF_eq xs ys h.2]
end
def beqP : List (D × D) → List (D × D) → Bool
  | [], [] => true
  | (a, b) :: r, (c, d) :: s => D.beq a c && D.beq b d && beqP r s
  | _, _ => false
theorem beqP_refl : ∀ a, beqP a a = true
  | [] => rfl
  | (a, b) :: r => by simp [beqP, D.beq_refl, beqP_refl r]
theorem beqP_eq : ∀ a b, beqP a b = true → a = b
  | [], b, h => by cases b <;> simp_all [beqP]
  | (a, b) :: r, [], h => by simp [beqP] at h
  | (a, b) :: r, (c, d) :: s, h => by
    simp only [beqP, Bool.and_eq_true] at h
    rw [D.beq_eq a c h.1.1, D.beq_eq b d h.1.2, beqP_eq r s h.2]
def HD.beq : HD → HD → Bool
  | .lst a, .lst b => D.beqL a b
  | .dct a, .dct b => beqP a b
  | .ins c a, .ins c' b => c == c' && D.beqF a b
  | .dead, .dead => true
  | _, _ => false
theorem HD.beq_refl : ∀ a : HD, HD.beq a a = true
  | .lst a => D.beqL_refl a
  | .dct a => beqP_refl a
  | .ins c a => by simp [HD.beq, D.beqF_refl]
  | .dead => rfl
theorem HD.beq_eq : ∀ a b : HD, HD.beq a b = true → a = b
  | .lst a, b, h => by
    cases b with
    | lst b => rw [D.beqL_eq a b h]
    | _ => simp [HD.beq] at h
  | .dct a, b, h => by
    cases b with
    | dct b => rw [beqP_eq a b h]
    | _ => simp [HD.beq] at h
  | .ins c a, b, h => by
    cases b with
    | ins c' b =>
      simp only [HD.beq, Bool.and_eq_true, beq_iff_eq] at h
      rw [h.1, D.beqF_eq a b h.2]
    | _ => simp [HD.beq] at h
  | .dead, b, h => by cases b <;> simp_all [HD.beq]

/-! ### places named by a value lie below n -/
mutual
def D.cl (n : Nat) : D → Bool
  | .tup l => D.clL n l
  | .lst l => D.clL n l
  | .ref m => decide (m < n)
  | .exn _ fs => D.clF n fs
  | _ => true
def D.clL (n : Nat) : List D → Bool
  | [] => true
  | x :: xs => D.cl n x && D.clL n xs
def D.clF (n : Nat) : List (Str × D) → Bool
  | [] => true
  | (_, x) :: xs => D.cl n x && D.clF n xs
end
def clP (n : Nat) : List (D × D) → Bool
  | [] => true
  | (a, b) :: r => D.cl n a && D.cl n b && clP n r
def HD.cl (n : Nat) : HD → Bool
  | .lst l => D.clL n l
  | .dct l => clP n l
  | .ins _ fs => D.clF n fs
  | .dead => true

/-! ### what comes of an expression -/
inductive R (α : Type) where
  | ok (a : α) (h : Hm) | exc (e : D) (h : Hm) | err
def R.bind {α β : Type} (r : R α) (k : α → Hm → R β) : R β :=
  match r with
  | .ok a h => k a h
  | .exc e h => .exc e h
  | .err => .err
@[simp] theorem bind_ok {α β : Type} (a : α) (h : Hm) (k : α → Hm → R β) : (R.ok a h).bind k = k a h := rfl
@[simp] theorem bind_exc {α β : Type} (e : D) (h : Hm) (k : α → Hm → R β) : (R.exc e h).bind k = .exc e h := rfl
@[simp] theorem bind_err {α β : Type} (k : α → Hm → R β) : (R.err).bind k = .err := rfl
abbrev EM := Ev → Hm → R D
abbrev TM := Ev → Hm → R Bool
abbrev AM := Ev → Hm → R (List D)
/-- a def: arguments, heap -/
abbrev FM := List D → Hm → R D
/-- what comes of a statement -/
inductive Fl where
  | nx (v : Ev) (h : Hm) | rt (d : D) (h : Hm) | bk (v : Ev) (h : Hm) | ct (v : Ev) (h : Hm) | exc (e : D) (v : Ev) (h : Hm) | err
abbrev SM := Ev → Hm → Fl

/-- a list's items, wherever it stands -/
def items (h : Hm) : D → Option (List D)
  | .lst l => some l
  | .tup l => some l
  | .ref n => match h[n]? with
    | some (.lst l) => some l
    | _ => none
  | _ => none

/-! ### expressions -/
def eV (i : Nat) : EM := fun v h => match v[i]? with
  | some (some d) => .ok d h
  | _ => .err
def eC (d : D) : EM := fun _ h => .ok d h
def eB (op : D → D → Hm → R D) (a b : EM) : EM := fun v h => (a v h).bind fun x h1 => (b v h1).bind fun y h2 => op x y h2
def eU (op : D → Hm → R D) (a : EM) : EM := fun v h => (a v h).bind op
def aN : AM := fun _ h => .ok [] h
def aC (a : EM) (r : AM) : AM := fun v h => (a v h).bind fun x h1 => (r v h1).bind fun xs h2 => .ok (x :: xs) h2
def eTup (a : AM) : EM := fun v h => (a v h).bind fun xs h1 => if xs.length ≤ 16777216 then .ok (.tup xs) h1 else .err
def eLst (a : AM) : EM := fun v h => (a v h).bind fun xs h1 => if xs.length ≤ 16777216 then .ok (.lst xs) h1 else .err
/-- a list that may change -/
def eNew (a : AM) : EM := fun v h => (a v h).bind fun xs h1 => if xs.length ≤ 16777216 then .ok (.ref h1.length) (h1 ++ [.lst xs]) else .err
/-- a call of a def, of a builtin -/
def eF (f : FM) (a : AM) : EM := fun v h => (a v h).bind f
/-- a list is laid down for good -/
def fz (d : D) (h : Hm) : R D := match d with
  | .ref n => match h[n]? with
    | some (.lst l) => .ok (.lst l) (h.set n .dead)
    | _ => .err
  | d => .ok d h
def eIf (t : TM) (a b : EM) : EM := fun v h => (t v h).bind fun c h1 => if c then a v h1 else b v h1
def eAnd (a b : EM) : EM := fun v h => (a v h).bind fun x h1 => match x with
  | .bl true => b v h1
  | .bl false => .ok (.bl false) h1
  | _ => .err
def eOr (a b : EM) : EM := fun v h => (a v h).bind fun x h1 => match x with
  | .bl false => b v h1
  | .bl true => .ok (.bl true) h1
  | _ => .err
def eNot (a : EM) : EM := fun v h => (a v h).bind fun x h1 => match x with
  | .bl c => .ok (.bl !c) h1
  | _ => .err
def tE (a : EM) : TM := fun v h => (a v h).bind fun x h1 => match x with
  | .bl c => .ok c h1
  | _ => .err
def tAnd (a b : TM) : TM := fun v h => (a v h).bind fun c h1 => if c then b v h1 else .ok false h1
def tOr (a b : TM) : TM := fun v h => (a v h).bind fun c h1 => if c then .ok true h1 else b v h1
def tNot (a : TM) : TM := fun v h => (a v h).bind fun c h1 => .ok (!c) h1
def eT (a : TM) : EM := fun v h => (a v h).bind fun c h1 => .ok (.bl c) h1

/-! ### statements -/
def sNx : SM := fun v h => .nx v h
def sSeq (a b : SM) : SM := fun v h => match a v h with
  | .nx v1 h1 => b v1 h1
  | o => o
/-- the slots that a target names are filled -/
abbrev TgM := D → Ev → Hm → Option Ev
def gN (i : Nat) : TgM := fun d v _ => some (v.set i (some d))
def fillAll : List Nat → List D → Ev → Option Ev
  | [], [], v => some v
  | i :: is, d :: ds, v => fillAll is ds (v.set i (some d))
  | _, _, _ => none
def gT (is : List Nat) : TgM := fun d v _ => match d with
  | .tup l => fillAll is l v
  | _ => none
def sAsg (g : TgM) (e : EM) : SM := fun v h => match e v h with
  | .ok d h1 => match g d v h1 with
    | some v1 => .nx v1 h1
    | none => .err
  | .exc x h1 => .exc x v h1
  | .err => .err
def sExpr (e : EM) : SM := fun v h => match e v h with
  | .ok _ h1 => .nx v h1
  | .exc x h1 => .exc x v h1
  | .err => .err
def sRet (e : EM) : SM := fun v h => match e v h with
  | .ok d h1 => .rt d h1
  | .exc x h1 => .exc x v h1
  | .err => .err
def sRetN : SM := fun _ h => .rt .non h
def sBreak : SM := fun v h => .bk v h
def sCont : SM := fun v h => .ct v h
def sIf (t : TM) (a b : SM) : SM := fun v h => match t v h with
  | .ok c h1 => if c then a v h1 else b v h1
  | .exc x h1 => .exc x v h1
  | .err => .err
/-- how a for walks: the items, and what must stay true of the heap while it walks -/
structure Wk where
  its : List D
  chk : Hm → Bool
def forL (g : TgM) (b : SM) (chk : Hm → Bool) : List D → SM
  | [] => fun v h => if chk h then .nx v h else .err
  | x :: xs => fun v h => if chk h then (match g x v h with
    | some v1 => match b v1 h with
      | .nx v2 h2 => forL g b chk xs v2 h2
      | .ct v2 h2 => forL g b chk xs v2 h2
      | .bk v2 h2 => .nx v2 h2
      | o => o
    | none => .err) else .err
def sFor (g : TgM) (w : Ev → Hm → R Wk) (b : SM) : SM := fun v h => match w v h with
  | .ok k h1 => forL g b k.chk k.its v h1
  | .exc x h1 => .exc x v h1
  | .err => .err
def whL (t : TM) (b : SM) : Nat → SM
  | 0 => fun _ _ => .err
  | n + 1 => fun v h => match t v h with
    | .ok true h1 => match b v h1 with
      | .nx v2 h2 => whL t b n v2 h2
      | .ct v2 h2 => whL t b n v2 h2
      | .bk v2 h2 => .nx v2 h2
      | o => o
    | .ok false h1 => .nx v h1
    | .exc x h1 => .exc x v h1
    | .err => .err
def sWh (t : TM) (b : SM) : SM := whL t b 1000000

/-! ### what a for, a comprehension walks -/
def wkOf (d : D) (h : Hm) : R Wk := match d with
  | .lst l => .ok ⟨l, fun _ => true⟩ h
  | .tup l => .ok ⟨l, fun _ => true⟩ h
  | .str x => .ok ⟨x.cps.toList.map fun c => .str ⟨#[c]⟩, fun _ => true⟩ h
  | .ref n => match h[n]? with
    | some (.lst l) => .ok ⟨l, fun h' => match h'[n]? with | some o => HD.beq o (.lst l) | none => false⟩ h
    | _ => .err
  | _ => .err
def wE (e : EM) : Ev → Hm → R Wk := fun v h => (e v h).bind wkOf
def wRange (lo hi : Int) (h : Hm) : R Wk := if lo < 2 ^ 62 ∧ -(2 ^ 62) ≤ lo ∧ hi < 2 ^ 62 ∧ -(2 ^ 62) ≤ hi then .ok ⟨(List.range (hi - lo).toNat).map fun (i : Nat) => .int (lo + (i : Int)), fun _ => true⟩ h else .err
def wR1 (e : EM) : Ev → Hm → R Wk := fun v h => (e v h).bind fun x h1 => match x with
  | .int n => wRange 0 n h1
  | _ => .err
def wR2 (a b : EM) : Ev → Hm → R Wk := fun v h => (a v h).bind fun x h1 => (b v h1).bind fun y h2 => match x, y with
  | .int m, .int n => wRange m n h2
  | _, _ => .err

/-! ### comprehensions: the slots in own are the comprehension's -/
def wipeE (v : Ev) (own : List Nat) : Ev := own.foldr (fun i w => w.set i none) v
/-- nothing is raised in there -/
def R.nx {α : Type} : R α → R α
  | .exc _ _ => .err
  | r => r
@[simp] theorem nx_ok {α : Type} (a : α) (h : Hm) : (R.ok a h).nx = .ok a h := rfl
def lcL (g : TgM) (t : TM) (e : EM) (chk : Hm → Bool) (v : Ev) : List D → Hm → R (List D)
  | [], h => if chk h then .ok [] h else .err
  | x :: xs, h => if chk h then (match g x v h with
    | some v1 => (t v1 h).nx.bind fun c h1 => if c then (e v1 h1).nx.bind fun y h2 => (lcL g t e chk v xs h2).bind fun ys h3 => .ok (y :: ys) h3 else lcL g t e chk v xs h1
    | none => .err) else .err
def eLc (own : List Nat) (g : TgM) (w : Ev → Hm → R Wk) (t : TM) (e : EM) : EM := fun v h => (w v h).bind fun k h1 =>
  if k.its.length ≤ 16777215 then (lcL g t e k.chk (wipeE v own) k.its h1).bind fun ys h2 => .ok (.lst ys) h2 else .err
def tYes : TM := fun _ h => .ok true h

/-! ### defs -/
def fn (np nl : Nat) (b : SM) : FM := fun ds h => if ds.length = np then match b (ds.map some ++ List.replicate (nl - np) none) h with
  | .nx _ h1 => .ok .non h1
  | .rt d h1 => .ok d h1
  | .exc e _ h1 => .exc e h1
  | _ => .err else .err
/-- a def that raises nothing -/
def fn0 (np nl : Nat) (b : SM) : FM := fun ds h => (fn np nl b ds h).nx
/-- a def whose own places go when it ends -/
def trOk : Hm → Hm → Nat → Bool
  | [], _, _ => true
  | _ :: _, [], _ => false
  | o :: r, p :: s, n => (HD.beq o p || HD.cl n p) && trOk r s n
def tr (f : FM) : FM := fun ds h => match f ds h with
  | .ok d h1 => if D.cl h.length d && trOk h h1 h.length then .ok d (h1.take h.length) else .err
  | .exc e h1 => if D.cl h.length e && trOk h h1 h.length then .exc e (h1.take h.length) else .err
  | .err => .err
end Dn

/-! DenB: how the mirror's values lie in the machine's abstract heap, and what a reading by the mirror is. -/
set_option Elab.async false
set_option linter.all false
set_option maxRecDepth 100000
set_option maxHeartbeats 4000000
namespace Dn
open PySem PySem.Spec PyProof.Rows L2

/-- the written part, the classes by their names -/
structure Cn where
  K : PySem.W.Frag
  cls : Str → Option Addr
  /-- tables of code objects -/
  T : List (Addr × Str)

/-- an exception that was caught: its class, its own dict's place -/
def exH (a A : Addr) (od : Option Addr) : HO := .ext fun h => ∃ oe vs, h.get? a = some oe ∧ oe.cls = .ref A ∧ oe.dict = od ∧ oe.data = .fields vs
mutual
inductive Rep (C : Cn) (Z : Hp) (m : List Addr) : D → V → Prop
  | non : Rep C Z m .non .non
  | bl (b : Bool) : Rep C Z m (.bl b) (.bl b)
  | int (i : Int) : Rep C Z m (.int i) (.int i)
  | str (x : Str) : Rep C Z m (.str x) (.str x)
  | tup {a : Addr} {vs : List V} {l : List D} : Z a = some (.tup vs) → RepL C Z m l vs → Rep C Z m (.tup l) (.ref a)
  | lst {a : Addr} {vs : List V} {l : List D} : Z a = some (.lst vs) → RepL C Z m l vs → Rep C Z m (.lst l) (.ref a)
  | scr {a : Addr} {ns : List Int} : SqL C.K Z a (ns.map V.int) → Rep C Z m (.scr ns) (.ref a)
  | ref {n : Nat} {a : Addr} : m[n]? = some a → Rep C Z m (.ref n) (.ref a)
  | exn0 {a A : Addr} {c : Str} : C.cls c = some A → Z a = some (exH a A none) → Rep C Z m (.exn c []) (.ref a)
  | exn1 {a A d : Addr} {c : Str} {fs : List (Str × D)} {gs : List (Str × V)} : C.cls c = some A → Z a = some (exH a A (some d)) → Z d = some (.xd gs) → RepF C Z m fs gs → Rep C Z m (.exn c fs) (.ref a)
inductive RepL (C : Cn) (Z : Hp) (m : List Addr) : List D → List V → Prop
  | nil : RepL C Z m [] []
  | cons {d : D} {v : V} {ds : List D} {vs : List V} : Rep C Z m d v → RepL C Z m ds vs → RepL C Z m (d :: ds) (v :: vs)
inductive RepF (C : Cn) (Z : Hp) (m : List Addr) : List (Str × D) → List (Str × V) → Prop
  | nil : RepF C Z m [] []
  | cons {f : Str} {d : D} {v : V} {ds : List (Str × D)} {vs : List (Str × V)} : Rep C Z m d v → RepF C Z m ds vs → RepF C Z m ((f, d) :: ds) ((f, v) :: vs)
end

section
variable {C : Cn} {Z Z' H : Hp} {m m' : List Addr}
theorem sqL_mono {K : PySem.W.Frag} (hz : ∀ a o, Z a = some o → Z' a = some o) {a : Addr} {xs : List V} (h : SqL K Z a xs) : SqL K Z' a xs := by
  rcases h with (h | ⟨o, h⟩) | h
  · exact .inl (.inl (hz _ _ h))
  · exact .inl (.inr ⟨o, hz _ _ h⟩)
  · exact .inr h
theorem sqT_mono {K : PySem.W.Frag} (hz : ∀ a o, Z a = some o → Z' a = some o) {a : Addr} {xs : List V} (h : SqT K Z a xs) : SqT K Z' a xs := by
  rcases h with (h | ⟨o, h⟩) | h
  · exact .inl (.inl (hz _ _ h))
  · exact .inl (.inr ⟨o, hz _ _ h⟩)
  · exact .inr h
theorem pre_get {m m' : List Addr} (hm : m <+: m') {n : Nat} {a : Addr} (h : m[n]? = some a) : m'[n]? = some a := by
  obtain ⟨t, rfl⟩ := hm
  rw [List.getElem?_append_left (List.getElem?_eq_some_iff.mp h).1]
  exact h
mutual
theorem Rep.mono (hz : ∀ a o, Z a = some o → Z' a = some o) (hm : m <+: m') : ∀ {d : D} {v : V}, Rep C Z m d v → Rep C Z' m' d v
  | _, _, .non => .non
  | _, _, .bl b => .bl b
  | _, _, .int i => .int i
  | _, _, .str x => .str x
  | _, _, .tup a b => .tup (hz _ _ a) (RepL.mono hz hm b)
  | _, _, .lst a b => .lst (hz _ _ a) (RepL.mono hz hm b)
  | _, _, .scr a => .scr (sqL_mono hz a)
  | _, _, .ref a => .ref (pre_get hm a)
  | _, _, .exn0 a b => .exn0 a (hz _ _ b)
  | _, _, .exn1 a b c r => .exn1 a (hz _ _ b) (hz _ _ c) (RepF.mono hz hm r)
theorem RepL.mono (hz : ∀ a o, Z a = some o → Z' a = some o) (hm : m <+: m') : ∀ {d : List D} {v : List V}, RepL C Z m d v → RepL C Z' m' d v
  | _, _, .nil => .nil
  | _, _, .cons a b => .cons (Rep.mono hz hm a) (RepL.mono hz hm b)
theorem RepF.mono (hz : ∀ a o, Z a = some o → Z' a = some o) (hm : m <+: m') : ∀ {d : List (Str × D)} {v : List (Str × V)}, RepF C Z m d v → RepF C Z' m' d v
  | _, _, .nil => .nil
  | _, _, .cons a b => .cons (Rep.mono hz hm a) (RepF.mono hz hm b)
end
theorem RepL.length : ∀ {d : List D} {v : List V}, RepL C Z m d v → d.length = v.length
  | _, _, .nil => rfl
  | _, _, .cons _ b => by simp [RepL.length b]
theorem RepL.get : ∀ {d : List D} {v : List V} {i : Nat} {x : D}, RepL C Z m d v → d[i]? = some x → ∃ y, v[i]? = some y ∧ Rep C Z m x y
  | _, _, _, _, .nil, e => by simp at e
  | _, _, 0, _, .cons a _, e => by simp at e; subst e; exact ⟨_, rfl, a⟩
  | _, _, i + 1, _, .cons _ b, e => by
    obtain ⟨y, h1, h2⟩ := RepL.get (i := i) b (by simpa using e)
    exact ⟨y, by simpa using h1, h2⟩
theorem RepL.getV : ∀ {d : List D} {v : List V} {i : Nat} {y : V}, RepL C Z m d v → v[i]? = some y → ∃ x, d[i]? = some x ∧ Rep C Z m x y
  | _, _, _, _, .nil, e => by simp at e
  | _, _, 0, _, .cons a _, e => by simp at e; subst e; exact ⟨_, rfl, a⟩
  | _, _, i + 1, _, .cons _ b, e => by
    obtain ⟨y, h1, h2⟩ := RepL.getV (i := i) b (by simpa using e)
    exact ⟨y, by simpa using h1, h2⟩
theorem RepL.append : ∀ {d d' : List D} {v v' : List V}, RepL C Z m d v → RepL C Z m d' v' → RepL C Z m (d ++ d') (v ++ v')
  | _, _, _, _, .nil, h => h
  | _, _, _, _, .cons a b, h => .cons a (RepL.append b h)
theorem RepL.take : ∀ {d : List D} {v : List V} (n : Nat), RepL C Z m d v → RepL C Z m (d.take n) (v.take n)
  | _, _, 0, _ => .nil
  | _, _, _ + 1, .nil => .nil
  | _, _, n + 1, .cons a b => .cons a (RepL.take n b)
theorem RepL.drop : ∀ {d : List D} {v : List V} (n : Nat), RepL C Z m d v → RepL C Z m (d.drop n) (v.drop n)
  | _, _, 0, r => r
  | _, _, _ + 1, .nil => .nil
  | _, _, n + 1, .cons _ b => RepL.drop n b
theorem RepL.eraseIdx : ∀ {d : List D} {v : List V} (n : Nat), RepL C Z m d v → RepL C Z m (d.eraseIdx n) (v.eraseIdx n)
  | _, _, _, .nil => .nil
  | _, _, 0, .cons _ b => b
  | _, _, n + 1, .cons a b => .cons a (RepL.eraseIdx n b)
theorem RepL.set {x : D} {y : V} (r : Rep C Z m x y) : ∀ {d : List D} {v : List V} (n : Nat), RepL C Z m d v → RepL C Z m (d.set n x) (v.set n y)
  | _, _, _, .nil => .nil
  | _, _, 0, .cons _ b => .cons r b
  | _, _, n + 1, .cons a b => .cons a (RepL.set r n b)
theorem RepL.replicate : ∀ {d : List D} {v : List V} (n : Nat), RepL C Z m d v → RepL C Z m (List.replicate n d).flatten (List.replicate n v).flatten
  | _, _, 0, _ => .nil
  | _, _, n + 1, h => by
    rw [List.replicate_succ, List.replicate_succ, List.flatten_cons, List.flatten_cons]
    exact h.append (RepL.replicate n h)
theorem RepL.one {d : D} {v : V} (h : Rep C Z m d v) : RepL C Z m [d] [v] := .cons h .nil
theorem RepL.strs : ∀ {ys : List Str} {v : List V}, RepL C Z m (ys.map D.str) v → v = ys.map V.str
  | [], _, .nil => rfl
  | y :: ys, _, .cons a b => by
    cases a
    rw [RepL.strs b]; rfl
theorem RepL.ints : ∀ {ys : List Int} {v : List V}, RepL C Z m (ys.map D.int) v → v = ys.map V.int
  | [], _, .nil => rfl
  | y :: ys, _, .cons a b => by
    cases a
    rw [RepL.ints b]; rfl
theorem RepL.bls : ∀ {ys : List Bool} {v : List V}, RepL C Z m (ys.map D.bl) v → v = ys.map V.bl
  | [], _, .nil => rfl
  | y :: ys, _, .cons a b => by
    cases a
    rw [RepL.bls b]; rfl
theorem RepL.ofStrs : ∀ (ys : List Str), RepL C Z m (ys.map D.str) (ys.map V.str)
  | [] => .nil
  | y :: ys => .cons (.str y) (RepL.ofStrs ys)
theorem RepL.ofInts : ∀ (ys : List Int), RepL C Z m (ys.map D.int) (ys.map V.int)
  | [] => .nil
  | y :: ys => .cons (.int y) (RepL.ofInts ys)
mutual
theorem Rep.cut {k : Nat} : ∀ {d : D} {v : V}, Rep C Z m d v → D.cl k d = true → Rep C Z (m.take k) d v
  | _, _, .non, _ => .non
  | _, _, .bl b, _ => .bl b
  | _, _, .int i, _ => .int i
  | _, _, .str x, _ => .str x
  | _, _, .tup a b, h => .tup a (RepL.cut b (by simpa [D.cl] using h))
  | _, _, .lst a b, h => .lst a (RepL.cut b (by simpa [D.cl] using h))
  | _, _, .scr a, _ => .scr a
  | _, _, .ref (n := n) (a := a) e, h => .ref (by
    have hn : n < k := by simpa [D.cl] using h
    rw [List.getElem?_take_of_lt hn]; exact e)
  | _, _, .exn0 a b, _ => .exn0 a b
  | _, _, .exn1 a b c r, h => .exn1 a b c (RepF.cut r (by simpa [D.cl] using h))
theorem RepL.cut {k : Nat} : ∀ {d : List D} {v : List V}, RepL C Z m d v → D.clL k d = true → RepL C Z (m.take k) d v
  | _, _, .nil, _ => .nil
  | _, _, .cons a b, h => by
    simp only [D.clL, Bool.and_eq_true] at h
    exact .cons (Rep.cut a h.1) (RepL.cut b h.2)
theorem RepF.cut {k : Nat} : ∀ {d : List (Str × D)} {v : List (Str × V)}, RepF C Z m d v → D.clF k d = true → RepF C Z (m.take k) d v
  | _, _, .nil, _ => .nil
  | _, _, .cons a b, h => by
    simp only [D.clF, Bool.and_eq_true] at h
    exact .cons (Rep.cut a h.1) (RepF.cut b h.2)
end
mutual
theorem Rep.cl : ∀ {d : D} {v : V}, Rep C Z m d v → D.cl m.length d = true
  | _, _, .non => rfl
  | _, _, .bl b => rfl
  | _, _, .int i => rfl
  | _, _, .str x => rfl
  | _, _, .tup a b => by simpa [D.cl] using RepL.cl b
  | _, _, .lst a b => by simpa [D.cl] using RepL.cl b
  | _, _, .scr a => rfl
  | _, _, .ref e => by simpa [D.cl] using (List.getElem?_eq_some_iff.mp e).1
  | _, _, .exn0 a b => rfl
  | _, _, .exn1 a b c r => by simpa [D.cl] using RepF.cl r
theorem RepL.cl : ∀ {d : List D} {v : List V}, RepL C Z m d v → D.clL m.length d = true
  | _, _, .nil => rfl
  | _, _, .cons a b => by simp [D.clL, Rep.cl a, RepL.cl b]
theorem RepF.cl : ∀ {d : List (Str × D)} {v : List (Str × V)}, RepF C Z m d v → D.clF m.length d = true
  | _, _, .nil => rfl
  | _, _, .cons a b => by simp [D.clF, Rep.cl a, RepF.cl b]
end
end

/-! ### what stands at the places -/
/-- a dict's pairs: keys ints and texts -/
inductive RepK (C : Cn) (Z : Hp) (m : List Addr) : List (D × D) → List (L2.Key × V) → Prop
  | nil : RepK C Z m [] []
  | int {i : Int} {d : D} {v : V} {ds : List (D × D)} {vs : List (L2.Key × V)} : Rep C Z m d v → RepK C Z m ds vs → RepK C Z m ((.int i, d) :: ds) ((.inl i, v) :: vs)
  | str {x : Str} {d : D} {v : V} {ds : List (D × D)} {vs : List (L2.Key × V)} : Rep C Z m d v → RepK C Z m ds vs → RepK C Z m ((.str x, d) :: ds) ((.inr x, v) :: vs)
theorem RepK.mono {C : Cn} {Z Z' : Hp} {m m' : List Addr} (hz : ∀ a o, Z a = some o → Z' a = some o) (hm : m <+: m') : ∀ {d : List (D × D)} {v : List (L2.Key × V)}, RepK C Z m d v → RepK C Z' m' d v
  | _, _, .nil => .nil
  | _, _, .int a b => .int (a.mono hz hm) (RepK.mono hz hm b)
  | _, _, .str a b => .str (a.mono hz hm) (RepK.mono hz hm b)
theorem RepK.cut {C : Cn} {Z : Hp} {m : List Addr} {k : Nat} : ∀ {d : List (D × D)} {v : List (L2.Key × V)}, RepK C Z m d v → clP k d = true → RepK C Z (m.take k) d v
  | _, _, .nil, _ => .nil
  | _, _, .int a b, h => by
    simp only [clP, Bool.and_eq_true] at h
    exact .int (a.cut h.1.2) (RepK.cut b h.2)
  | _, _, .str a b, h => by
    simp only [clP, Bool.and_eq_true] at h
    exact .str (a.cut h.1.2) (RepK.cut b h.2)
theorem RepK.cl {C : Cn} {Z : Hp} {m : List Addr} : ∀ {d : List (D × D)} {v : List (L2.Key × V)}, RepK C Z m d v → clP m.length d = true
  | _, _, .nil => rfl
  | _, _, .int a b => by simp [clP, D.cl, a.cl, RepK.cl b]
  | _, _, .str a b => by simp [clP, D.cl, a.cl, RepK.cl b]

def ObjAt (C : Cn) (Z : Hp) (m : List Addr) (o : HD) (a : Addr) (H : Hp) : Prop := match o with
  | .lst l => ∃ vs, H a = some (.lst vs) ∧ RepL C Z m l vs
  | .dct l => ∃ kvs, H a = some (.dK kvs) ∧ RepK C Z m l kvs
  | .ins c fs => ∃ A dx gs, C.cls c = some A ∧ H a = some (.ins A dx gs) ∧ RepF C Z m fs gs
  | .dead => ∃ vs, H a = some (.lst vs)
theorem ObjAt.mono {C : Cn} {Z Z' H : Hp} {m m' : List Addr} (hz : ∀ a o, Z a = some o → Z' a = some o) (hm : m <+: m') {o : HD} {a : Addr} (h : ObjAt C Z m o a H) : ObjAt C Z' m' o a H := by
  cases o with
  | lst l => obtain ⟨vs, e, r⟩ := h; exact ⟨vs, e, r.mono hz hm⟩
  | dct l => obtain ⟨vs, e, r⟩ := h; exact ⟨vs, e, r.mono hz hm⟩
  | ins c fs => obtain ⟨A, dx, gs, e1, e, r⟩ := h; exact ⟨A, dx, gs, e1, e, r.mono hz hm⟩
  | dead => exact h
theorem ObjAt.cut {C : Cn} {Z H : Hp} {m : List Addr} {k : Nat} {o : HD} {a : Addr} (h : ObjAt C Z m o a H) (hc : HD.cl k o = true) : ObjAt C Z (m.take k) o a H := by
  cases o with
  | lst l => obtain ⟨vs, e, r⟩ := h; exact ⟨vs, e, r.cut hc⟩
  | dct l => obtain ⟨vs, e, r⟩ := h; exact ⟨vs, e, r.cut hc⟩
  | ins c fs => obtain ⟨A, dx, gs, e1, e, r⟩ := h; exact ⟨A, dx, gs, e1, e, r.cut hc⟩
  | dead => exact h
theorem ObjAt.cl {C : Cn} {Z H : Hp} {m : List Addr} {o : HD} {a : Addr} (h : ObjAt C Z m o a H) : HD.cl m.length o = true := by
  cases o with
  | lst l => obtain ⟨vs, e, r⟩ := h; exact r.cl
  | dct l => obtain ⟨vs, e, r⟩ := h; exact r.cl
  | ins c fs => obtain ⟨A, dx, gs, e1, e, r⟩ := h; exact r.cl
  | dead => rfl
theorem ObjAt.some {C : Cn} {Z H : Hp} {m : List Addr} {o : HD} {a : Addr} (h : ObjAt C Z m o a H) : ∃ u, H a = some u := by
  cases o with
  | lst l => obtain ⟨vs, e, r⟩ := h; exact ⟨_, e⟩
  | dct l => obtain ⟨vs, e, r⟩ := h; exact ⟨_, e⟩
  | ins c fs => obtain ⟨A, dx, gs, e1, e, r⟩ := h; exact ⟨_, e⟩
  | dead => obtain ⟨vs, e⟩ := h; exact ⟨_, e⟩
/-- neither a table nor anything of a kind of its own -/
def Plainly (o : HO) : Prop := (∀ ps, o ≠ .tbl ps) ∧ ∀ φ, o ≠ .ext φ
theorem objAt_plain {C : Cn} {Z H : Hp} {m : List Addr} {o : HD} {a : Addr} (h : ObjAt C Z m o a H) : ∃ u, H a = some u ∧ Plainly u := by
  cases o with
  | lst l => obtain ⟨vs, e, r⟩ := h; exact ⟨_, e, (fun _ z => by cases z), (fun _ z => by cases z)⟩
  | dct l => obtain ⟨vs, e, r⟩ := h; exact ⟨_, e, (fun _ z => by cases z), (fun _ z => by cases z)⟩
  | ins c fs => obtain ⟨A, dx, gs, e1, e, r⟩ := h; exact ⟨_, e, (fun _ z => by cases z), (fun _ z => by cases z)⟩
  | dead => obtain ⟨vs, e⟩ := h; exact ⟨_, e, (fun _ z => by cases z), (fun _ z => by cases z)⟩
/-- only the object at a matters -/
theorem ObjAt.at {C : Cn} {Z H H' : Hp} {m : List Addr} {o : HD} {a : Addr} (h : ObjAt C Z m o a H) (e : H' a = H a) : ObjAt C Z m o a H' := by
  cases o with
  | lst l => obtain ⟨vs, q, r⟩ := h; exact ⟨vs, e.trans q, r⟩
  | dct l => obtain ⟨vs, q, r⟩ := h; exact ⟨vs, e.trans q, r⟩
  | ins c fs => obtain ⟨A, dx, gs, e1, q, r⟩ := h; exact ⟨A, dx, gs, e1, e.trans q, r⟩
  | dead => obtain ⟨u, q⟩ := h; exact ⟨u, e.trans q⟩

structure HSim (C : Cn) (Z : Hp) (m : List Addr) (h : Hm) (H : Hp) : Prop where
  sub : ∀ a o, Z a = some o → H a = some o
  len : m.length = h.length
  nd : m.Nodup
  off : ∀ (n : Nat) (a : Addr) (o : HD), m[n]? = some a → h[n]? = some o → o ≠ HD.dead → Z a = none
  obj : ∀ (n : Nat) (a : Addr) (o : HD), m[n]? = some a → h[n]? = some o → ObjAt C Z m o a H
  tab : LamX.Tabs C.T H
  noT : ∀ a ps, Z a ≠ some (.tbl ps)

/-- nothing stands there, or a table -/
def Fr (H : Hp) (a : Addr) : Prop := ∀ o, H a = some o → ∃ ps, o = .tbl ps
theorem fr_none {H : Hp} {a : Addr} (e : H a = none) : Fr H a := fun o z => by rw [e] at z; cases z
theorem fr_lst {H : Hp} {a : Addr} {vs : List V} (f : Fr H a) (e : H a = some (.lst vs)) : False := by
  obtain ⟨ps, z⟩ := f _ e
  cases z
/-- tables stay where something else is put -/
theorem tabs_put {T : List (Addr × Str)} {H : Hp} {a : Addr} {o : HO} (t : LamX.Tabs T H) (f : ∀ u, H a = some u → Plainly u) : LamX.Tabs T (upd H a o) := by
  have ne : ∀ b u, H b = some u → ¬ Plainly u → b ≠ a := fun b u e n z => by subst z; exact n (f _ e)
  intro p hp
  obtain ⟨ps, h1, h2, h3⟩ := t p hp
  refine ⟨ps, by rw [upd_ne (ne _ _ h1 fun z => z.1 ps rfl)]; exact h1, h2, fun pos cv hc => ?_⟩
  obtain ⟨c, e1, e2⟩ := h3 pos cv hc
  exact ⟨c, e1, by rw [upd_ne (ne _ _ e2 fun z => z.2 _ rfl)]; exact e2⟩

structure Ext (Z : Hp) (m : List Addr) (H : Hp) (Z' : Hp) (m' : List Addr) (H' : Hp) : Prop where
  sub : ∀ a o, Z a = some o → Z' a = some o
  pre : m <+: m'
  keep : ∀ a o, H a = some o → a ∉ m → (∀ ps, o ≠ .tbl ps) → H' a = some o
  newM : ∀ a, a ∈ m' → a ∈ m ∨ Fr H a
  newZ : ∀ a, Z' a ≠ none → Z a ≠ none ∨ a ∈ m ∨ Fr H a

section
variable {C : Cn} {Z Z1 Z2 H H1 H2 : Hp} {m m1 m2 : List Addr} {h h1 : Hm}
theorem Ext.refl : Ext Z m H Z m H := ⟨fun _ _ e => e, List.prefix_refl _, fun _ _ e _ _ => e, fun _ e => .inl e, fun _ e => .inl e⟩
theorem Ext.trans (a : Ext Z m H Z1 m1 H1) (b : Ext Z1 m1 H1 Z2 m2 H2) : Ext Z m H Z2 m2 H2 := by
  have back : ∀ x, Fr H1 x → x ∈ m ∨ Fr H x := fun x e => by
    by_cases hx : x ∈ m
    · exact .inl hx
    · refine .inr fun o q => ?_
      refine Classical.byContradiction fun n => ?_
      obtain ⟨ps, z⟩ := e o (a.keep x o q hx fun ps z => n ⟨ps, z⟩)
      exact n ⟨ps, z⟩
  refine ⟨fun x o e => b.sub x o (a.sub x o e), a.pre.trans b.pre, fun x o e hx nt => b.keep x o (a.keep x o e hx nt) (fun z => ?_) nt, fun x hx => ?_, fun x hx => ?_⟩
  · rcases a.newM x z with q | q
    · exact hx q
    · obtain ⟨ps, y⟩ := q o e
      exact nt ps y
  · rcases b.newM x hx with q | q
    · exact a.newM x q
    · exact back x q
  · rcases b.newZ x hx with q | q | q
    · exact a.newZ x q
    · exact .inr (a.newM x q)
    · exact .inr (back x q)
theorem HSim.tracked (s : HSim C Z m h H) {a : Addr} (ha : a ∈ m) : ∃ o, H a = some o := by
  obtain ⟨n, hn, e⟩ := List.getElem_of_mem ha
  have e1 : m[n]? = some a := by rw [List.getElem?_eq_getElem hn, e]
  have e2 : h[n]? = some (h[n]'(by rw [← s.len]; exact hn)) := List.getElem?_eq_getElem _
  exact (s.obj n a _ e1 e2).some
theorem HSim.nz (s : HSim C Z m h H) {p : Addr} (hp : H p = none) : Z p = none := by
  cases q : Z p with
  | none => rfl
  | some o => rw [s.sub p o q] at hp; cases hp
theorem HSim.nm (s : HSim C Z m h H) {p : Addr} (hp : H p = none) : p ∉ m := fun z => by
  obtain ⟨o, e⟩ := s.tracked z
  rw [e] at hp; cases hp
/-- a new object laid down for good -/
theorem HSim.lay (s : HSim C Z m h H) {p : Addr} (hp : H p = none) (o : HO) (ho : ∀ ps, o ≠ .tbl ps := by intro _ z; cases z) : HSim C (upd Z p o) m h (upd H p o) := by
  have hz := s.nz hp
  refine ⟨fun a u e => ?_, s.len, s.nd, fun n a u e1 e2 hd => ?_, fun n a u e1 e2 => ?_, s.tab.ext fun b w e => ?_, fun a ps e => ?_⟩
  · by_cases ha : a = p
    · subst ha; rw [upd_same] at e ⊢; exact e
    · rw [upd_ne ha] at e ⊢; exact s.sub a u e
  · have : a ≠ p := fun z => by subst z; exact s.nm hp (List.mem_of_getElem? e1)
    rw [upd_ne this]; exact s.off n a u e1 e2 hd
  · have : a ≠ p := fun z => by subst z; exact s.nm hp (List.mem_of_getElem? e1)
    refine ((s.obj n a u e1 e2).mono (fun b w e => ?_) (List.prefix_refl _)).at (upd_ne this)
    rw [upd_ne (fun z => by subst z; rw [hz] at e; cases e)]; exact e
  · rw [upd_ne (fun z => by subst z; rw [hp] at e; cases e)]; exact e
  · by_cases ha : a = p
    · subst ha; rw [upd_same] at e; exact ho ps (Option.some.inj e)
    · rw [upd_ne ha] at e; exact s.noT a ps e
theorem Ext.lay (s : HSim C Z m h H) {p : Addr} (hp : H p = none) (o : HO) : Ext Z m H (upd Z p o) m (upd H p o) := by
  have hz := s.nz hp
  refine ⟨fun b w e => ?_, List.prefix_refl _, fun b w e _ _ => ?_, fun b e => .inl e, fun b e => ?_⟩
  · rw [upd_ne (fun z => by subst z; rw [hz] at e; cases e)]; exact e
  · rw [upd_ne (fun z => by subst z; rw [hp] at e; cases e)]; exact e
  · by_cases hb : b = p
    · subst hb; exact .inr (.inr (fr_none hp))
    · rw [upd_ne hb] at e; exact .inl e
/-- a new place -/
theorem HSim.alloc (s : HSim C Z m h H) {p : Addr} (hp : H p = none) {o : HO} {d : HD} (hd : ∀ H', H' p = some o → ObjAt C Z (m ++ [p]) d p H') : HSim C Z (m ++ [p]) (h ++ [d]) (upd H p o) := by
  have hz := s.nz hp
  have old : ∀ {n : Nat} {a : Addr}, (m ++ [p])[n]? = some a → (n < m.length ∧ m[n]? = some a) ∨ (n = m.length ∧ a = p) := fun {n a} e => by
    by_cases hn : n < m.length
    · rw [List.getElem?_append_left hn] at e; exact .inl ⟨hn, e⟩
    · rw [List.getElem?_append_right (by omega)] at e
      have hk : n - m.length = 0 := by
        cases hk : n - m.length with
        | zero => rfl
        | succ k => rw [hk] at e; simp at e
      rw [hk] at e; simp at e; exact .inr ⟨by omega, e.symm⟩
  have hH : ∀ {a : Addr}, a ∈ m → a ≠ p := fun {a} ha z => by subst z; exact s.nm hp ha
  refine ⟨fun a u e => ?_, by simp [s.len], ?_, fun n a u e1 e2 hdd => ?_, fun n a u e1 e2 => ?_, s.tab.ext fun b w e => by rw [upd_ne (fun z => by subst z; rw [hp] at e; cases e)]; exact e, s.noT⟩
  · rw [upd_ne (fun z => by subst z; rw [hz] at e; cases e)]; exact s.sub a u e
  · exact List.nodup_append.mpr ⟨s.nd, by simp, fun a ha b hb => by rw [List.mem_singleton.mp hb]; exact hH ha⟩
  · rcases old e1 with ⟨hn, e⟩ | ⟨hn, rfl⟩
    · rw [List.getElem?_append_left (by rw [← s.len]; exact hn)] at e2
      exact s.off n a u e e2 hdd
    · exact hz
  · rcases old e1 with ⟨hn, e⟩ | ⟨hn, rfl⟩
    · rw [List.getElem?_append_left (by rw [← s.len]; exact hn)] at e2
      exact ((s.obj n a u e e2).mono (fun _ _ q => q) (List.prefix_append _ _)).at (upd_ne (hH (List.mem_of_getElem? e)))
    · rw [List.getElem?_append_right (by rw [← s.len, hn]; exact Nat.le_refl _), ← s.len, hn] at e2
      simp at e2; subst e2
      exact hd _ upd_same
theorem Ext.alloc (s : HSim C Z m h H) {p : Addr} (hp : H p = none) (o : HO) : Ext Z m H Z (m ++ [p]) (upd H p o) := by
  refine ⟨fun b w e => e, List.prefix_append _ _, fun b w e _ _ => ?_, fun b e => ?_, fun b e => .inl e⟩
  · rw [upd_ne (fun z => by subst z; rw [hp] at e; cases e)]; exact e
  · rcases List.mem_append.mp e with e | e
    · exact .inl e
    · rw [List.mem_singleton.mp e]; exact .inr (fr_none hp)
/-- the object at a place is another one -/
theorem HSim.put (s : HSim C Z m h H) {n : Nat} {a : Addr} {o : HO} {d d0 : HD} (e : m[n]? = some a) (e0 : h[n]? = some d0) (hl : d0 ≠ .dead) (hd : ∀ H', H' a = some o → ObjAt C Z m d a H') : HSim C Z m (h.set n d) (upd H a o) := by
  have hz := s.off n a d0 e e0 hl
  have hn : n < h.length := (List.getElem?_eq_some_iff.mp e0).1
  refine ⟨fun b u q => ?_, by simp [s.len], s.nd, fun k b u q1 q2 hdd => ?_, fun k b u q1 q2 => ?_, tabs_put s.tab fun u q => ?_, s.noT⟩
  · rw [upd_ne (fun z => by subst z; rw [hz] at q; cases q)]; exact s.sub b u q
  · by_cases hk : n = k
    · subst hk; rw [e] at q1; cases q1; exact hz
    · rw [List.getElem?_set_ne hk] at q2; exact s.off k b u q1 q2 hdd
  · by_cases hk : n = k
    · subst hk
      rw [e] at q1; cases q1
      rw [List.getElem?_set_self hn] at q2; cases q2
      exact hd _ upd_same
    · rw [List.getElem?_set_ne hk] at q2
      have hb : b ≠ a := fun z => by
        subst z
        have h1 := List.getElem?_eq_some_iff.mp e
        have h2 := List.getElem?_eq_some_iff.mp q1
        exact hk ((List.getElem_inj s.nd).mp (h1.2.trans h2.2.symm))
      exact (s.obj k b u q1 q2).at (upd_ne hb)
  · obtain ⟨w, e1, e2⟩ := objAt_plain (s.obj n a d0 e e0)
    rw [e1] at q; cases q; exact e2
theorem Ext.put (s : HSim C Z m h H) {n : Nat} {a : Addr} (o : HO) (e : m[n]? = some a) : Ext Z m H Z m (upd H a o) :=
  ⟨fun b w q => q, List.prefix_refl _, fun b w q hb _ => by rw [upd_ne (fun z => hb (by subst z; exact List.mem_of_getElem? e))]; exact q, fun b q => .inl q, fun b q => .inl q⟩
/-- a list at a place is laid down for good -/
theorem HSim.freeze (s : HSim C Z m h H) {n : Nat} {a : Addr} {l : List D} {vs : List V} (e : m[n]? = some a) (e0 : h[n]? = some (.lst l)) (hv : H a = some (.lst vs)) : HSim C (upd Z a (.lst vs)) m (h.set n .dead) H := by
  have hz := s.off n a _ e e0 (fun z => nomatch z)
  have hn : n < h.length := (List.getElem?_eq_some_iff.mp e0).1
  refine ⟨fun b u q => ?_, by simp [s.len], s.nd, fun k b u q1 q2 hdd => ?_, fun k b u q1 q2 => ?_, s.tab, fun b ps q => ?_⟩
  · by_cases hb : b = a
    · subst hb; rw [upd_same] at q; rw [hv]; exact q
    · rw [upd_ne hb] at q; exact s.sub b u q
  · by_cases hk : n = k
    · subst hk; rw [List.getElem?_set_self hn] at q2; cases q2; exact absurd rfl hdd
    · rw [List.getElem?_set_ne hk] at q2
      rw [upd_ne (fun z => by
        subst z
        have h1 := List.getElem?_eq_some_iff.mp e
        have h2 := List.getElem?_eq_some_iff.mp q1
        exact hk ((List.getElem_inj s.nd).mp (h1.2.trans h2.2.symm)))]
      exact s.off k b u q1 q2 hdd
  · by_cases hk : n = k
    · subst hk; rw [List.getElem?_set_self hn] at q2; cases q2
      rw [e] at q1; cases q1
      exact ⟨_, hv⟩
    · rw [List.getElem?_set_ne hk] at q2
      exact (s.obj k b u q1 q2).mono (fun c w q => by rw [upd_ne (fun z => by subst z; rw [hz] at q; cases q)]; exact q) (List.prefix_refl _)
  · by_cases hb : b = a
    · subst hb; rw [upd_same] at q; cases q
    · rw [upd_ne hb] at q; exact s.noT b ps q
theorem Ext.freeze (s : HSim C Z m h H) {n : Nat} {a : Addr} {l : List D} (o : HO) (e : m[n]? = some a) (e0 : h[n]? = some (.lst l)) : Ext Z m H (upd Z a o) m H := by
  have hz := s.off n a _ e e0 (fun z => nomatch z)
  refine ⟨fun b w q => ?_, List.prefix_refl _, fun b w q _ _ => q, fun b q => .inl q, fun b q => ?_⟩
  · rw [upd_ne (fun z => by subst z; rw [hz] at q; cases q)]; exact q
  · by_cases hb : b = a
    · subst hb; exact .inr (.inl (List.mem_of_getElem? e))
    · rw [upd_ne hb] at q; exact .inl q
end
end Dn

/-! DenC: readings by the mirror, and the rules for each construct of the text. -/
set_option Elab.async false
set_option linter.all false
set_option maxRecDepth 100000
set_option maxHeartbeats 4000000
namespace Dn
open PySem PySem.Spec PyProof.Rows L2

/-- an exception -/
def ExR (C : Cn) (Z : Hp) (m : List Addr) (H : Hp) (e : D) (c : Value) (od : Option Addr) : Prop := match e with
  | .exn n fs => ∃ A, C.cls n = some A ∧ c = .ref A ∧ ((fs = [] ∧ od = none) ∨ ∃ d gs, od = some d ∧ Z d = some (.xd gs) ∧ RepF C Z m fs gs)
  | _ => False

section
variable {α β γ δ : Type}
/-- what follows a value -/
def Post (C : Cn) (rep : Hp → List Addr → α → β → Prop) (E : XK) (r : R α) (Z : Hp) (m : List Addr) (H : Hp) (Q : β → Hp → Prop) : Prop := match r with
  | .ok d h => ∀ Z' m' H' v, Ext Z m H Z' m' H' → HSim C Z' m' h H' → rep Z' m' d v → Q v H'
  | .exc e h => ∀ Z' m' H' c od, Ext Z m H Z' m' H' → HSim C Z' m' h H' → ExR C Z' m' H' e c od → E c od H'
  | .err => False
theorem Post.imp {C : Cn} {rep : Hp → List Addr → α → β → Prop} {E : XK} {r : R α} {Z : Hp} {m : List Addr} {H : Hp} {Q Q' : β → Hp → Prop} (h : Post C rep E r Z m H Q) (hq : ∀ v H', Q v H' → Q' v H') : Post C rep E r Z m H Q' := by
  cases r with
  | ok d h' => exact fun Z' m' H' v a b c => hq _ _ (h Z' m' H' v a b c)
  | exc e h' => exact h
  | err => exact h
theorem Post.from {C : Cn} {rep : Hp → List Addr → α → β → Prop} {E : XK} {r : R α} {Z Z1 : Hp} {m m1 : List Addr} {H H1 : Hp} {Q : β → Hp → Prop} (x : Ext Z m H Z1 m1 H1) (h : Post C rep E r Z m H Q) : Post C rep E r Z1 m1 H1 Q := by
  cases r with
  | ok d h' => exact fun Z' m' H' v a b c => h Z' m' H' v (x.trans a) b c
  | exc e h' => exact fun Z' m' H' v od a b c => h Z' m' H' v od (x.trans a) b c
  | err => exact h
theorem Post.bind {C : Cn} {rep : Hp → List Addr → α → β → Prop} {rep1 : Hp → List Addr → γ → δ → Prop} {E : XK} {r : R γ} {k : γ → Hm → R α} {Z : Hp} {m : List Addr} {H : Hp} {Q : β → Hp → Prop} (h : Post C rep E (r.bind k) Z m H Q) :
    Post C rep1 E r Z m H fun v H1 => ∃ Z1 m1 d h1, Ext Z m H Z1 m1 H1 ∧ HSim C Z1 m1 h1 H1 ∧ rep1 Z1 m1 d v ∧ Post C rep E (k d h1) Z1 m1 H1 Q := by
  cases r with
  | ok d h' => exact fun Z' m' H' v a b c => ⟨Z', m', d, h', a, b, c, Post.from a h⟩
  | exc e h' => exact h
  | err => exact h
end
/-- the value is the mirror's -/
def RB (_ : Hp) (_ : List Addr) (d v : Bool) : Prop := v = d

/-- the frame -/
structure EnvR (C : Cn) (Z : Hp) (m : List Addr) (v : Ev) (σ : L2.St) : Prop where
  len : v.length = σ.length
  get : ∀ (i : Nat) (d : D), v[i]? = some (some d) → ∃ u, σ[i]? = some (some u) ∧ Rep C Z m d u
section
variable {C : Cn} {Z Z1 H H1 : Hp} {m m1 : List Addr} {v : Ev} {σ : L2.St}
theorem EnvR.mono (e : EnvR C Z m v σ) (x : Ext Z m H Z1 m1 H1) : EnvR C Z1 m1 v σ := ⟨e.len, fun i d q => let ⟨u, a, b⟩ := e.get i d q; ⟨u, a, b.mono x.sub x.pre⟩⟩
theorem EnvR.set (e : EnvR C Z m v σ) {d : D} {u : V} (r : Rep C Z m d u) (i : Nat) : EnvR C Z m (v.set i (some d)) (σ.set i (some u)) := by
  refine ⟨by simp [e.len], fun j w q => ?_⟩
  by_cases hj : i = j
  · subst hj
    have hi : i < v.length := by
      have := (List.getElem?_eq_some_iff.mp q).1
      simpa using this
    rw [List.getElem?_set_self hi] at q
    cases q
    exact ⟨u, List.getElem?_set_self (by rw [← e.len]; exact hi), r⟩
  · rw [List.getElem?_set_ne hj] at q ⊢
    exact e.get j w q
theorem EnvR.unset (e : EnvR C Z m v σ) (i : Nat) : EnvR C Z m (v.set i none) (σ.set i none) := by
  refine ⟨by simp [e.len], fun j w q => ?_⟩
  by_cases hj : i = j
  · subst hj
    have hi : i < v.length := by
      have := (List.getElem?_eq_some_iff.mp q).1
      simpa using this
    rw [List.getElem?_set_self hi] at q
    cases q
  · rw [List.getElem?_set_ne hj] at q ⊢
    exact e.get j w q
theorem EnvR.wipe (e : EnvR C Z m v σ) : ∀ own : List Nat, EnvR C Z m (wipeE v own) (wipe σ own)
  | [] => e
  | i :: r => (EnvR.wipe e r).unset i
theorem EnvR.start {N : List Str} {ds : List D} {vs : List V} {np : Nat} (r : RepL C Z m ds vs) (h : ds.length = np) : EnvR C Z m (ds.map some ++ List.replicate (N.length - np) none) (start N vs) := by
  have hl := r.length
  unfold L2.start
  rw [← h, ← hl]
  refine ⟨by simp [hl], fun i d q => ?_⟩
  by_cases hi : i < ds.length
  · rw [List.getElem?_append_left (by simpa using hi)] at q
    rw [List.getElem?_append_left (by simpa [← hl] using hi)]
    rw [List.getElem?_map] at q
    cases e : ds[i]? with
    | none => rw [e] at q; cases q
    | some x =>
      rw [e] at q; cases q
      obtain ⟨y, e2, r2⟩ := r.get e
      exact ⟨y, by rw [List.getElem?_map, e2]; rfl, r2⟩
  · rw [List.getElem?_append_right (by simpa using hi), List.getElem?_replicate] at q
    split at q <;> cases q
end

/-! ### readings -/
def denE (C : Cn) (E : WX) (f : EM) : TE := fun σ H Q => ∃ Z m v h, HSim C Z m h H ∧ EnvR C Z m v σ ∧ Post C (Rep C) (fun c d H' => E c d σ H') (f v h) Z m H Q
def denT (C : Cn) (E : WX) (f : TM) : TT := fun σ H Q => ∃ Z m v h, HSim C Z m h H ∧ EnvR C Z m v σ ∧ Post C RB (fun c d H' => E c d σ H') (f v h) Z m H Q
def denA (C : Cn) (E : WX) (f : AM) : TA := fun σ H Q => ∃ Z m v h, HSim C Z m h H ∧ EnvR C Z m v σ ∧ Post C (RepL C) (fun c d H' => E c d σ H') (f v h) Z m H Q
/-- a two-place operation by the mirror -/
def rD2 (C : Cn) (g : D → D → Hm → R D) : R2 := fun x y H Q => ∃ Z m h a b, HSim C Z m h H ∧ Rep C Z m a x ∧ Rep C Z m b y ∧ Post C (Rep C) (fun _ _ _ => False) (g a b h) Z m H Q
def rD1 (C : Cn) (g : D → Hm → R D) : V → Hp → VK → Prop := fun x H Q => ∃ Z m h a, HSim C Z m h H ∧ Rep C Z m a x ∧ Post C (Rep C) (fun _ _ _ => False) (g a h) Z m H Q
/-- a call of a value by the mirror -/
def rDF (C : Cn) (g : FM) : List V → Hp → VK → Prop := fun xs H Q => ∃ Z m h ds, HSim C Z m h H ∧ RepL C Z m ds xs ∧ Post C (Rep C) (fun _ _ _ => False) (g ds h) Z m H Q
/-- an operation of the mirror that raises nothing -/
def NoX {α : Type} (r : R α) : Prop := ∀ e h, r ≠ .exc e h
theorem Post.nox {α β : Type} {C : Cn} {rep : Hp → List Addr → α → β → Prop} {E : XK} {r : R α} {Z : Hp} {m : List Addr} {H : Hp} {Q : β → Hp → Prop} (h : Post C rep E r Z m H Q) (n : NoX r) : Post C rep (fun _ _ _ => False) r Z m H Q := by
  cases r with
  | ok d h' => exact h
  | exc e h' => exact absurd rfl (n e h')
  | err => exact h

section
variable {X : Cx} {C : Cn} {E : WX}
theorem pe_imp {e : Expr} {t t' : TE} (h : PE X e t) (hi : ∀ σ H Q, t' σ H Q → t σ H Q) : PE X e t' := ⟨fun pins s σ H Q I q => h.run pins s σ H Q I (hi _ _ _ q)⟩
theorem pt_imp {e : Expr} {t t' : TT} (h : PT X e t) (hi : ∀ σ H Q, t' σ H Q → t σ H Q) : PT X e t' := ⟨fun pins s σ H Q I q => h.run pins s σ H Q I (hi _ _ _ q)⟩
theorem pw_imp {e : Expr} {t t' : TT} (h : PW X e t) (hi : ∀ σ H Q, t' σ H Q → t σ H Q) : PW X e t' := ⟨fun w pins s σ H Q I q => h.run w pins s σ H Q I (hi _ _ _ q)⟩
theorem pa_imp {e : List Expr} {t t' : TA} (h : PA X e t) (hi : ∀ σ H Q, t' σ H Q → t σ H Q) : PA X e t' := ⟨fun w pins s σ H Q I q => h.run w pins s σ H Q I (hi _ _ _ q)⟩
theorem ps_imp {e : Stmt} {t t' : TS} (h : PS X e t) (hi : ∀ D σ H, t' D σ H → t D σ H) : PS X e t' := ⟨fun pins s σ H D I q => h.run pins s σ H D I (hi _ _ _ q)⟩
theorem pss_imp {e : List Stmt} {t t' : TS} (h : PSs X e t) (hi : ∀ D σ H, t' D σ H → t D σ H) : PSs X e t' := ⟨fun pins s σ H D I q => h.run pins s σ H D I (hi _ _ _ q)⟩

/-- the rest of an expression behind a part -/
theorem denE.of {σ : L2.St} {H : Hp} {f : EM} {Q : VK} {Z : Hp} {m : List Addr} {v : Ev} {h : Hm} (s : HSim C Z m h H) (e : EnvR C Z m v σ) (p : Post C (Rep C) (fun c d H' => E c d σ H') (f v h) Z m H Q) : denE C E f σ H Q := ⟨Z, m, v, h, s, e, p⟩

theorem de_var (i : Nat) {x : Str} {pos : Pos} (hN : X.N[i]? = some x := by rfl) (hv : Vis X.env.scope x := by first | exact Or.inl rfl | exact Or.inr (Or.inl rfl) | exact Or.inr (Or.inr rfl)) (hd : (x == ("__debug__" : Str)) = false := by decide)
    (hcd : (x == ("__classdict__" : Str)) = false := by decide) : PE X (.Name x pos) (denE C E (eV i)) := by
  refine pe_imp (pe_var hN hv hd hcd) fun σ H Q ⟨Z, m, v, h, s, e, p⟩ => ?_
  unfold eV at p
  split at p
  · rename_i d q
    obtain ⟨u, e1, r⟩ := e.get i d q
    exact ⟨u, e1, p _ _ _ _ .refl s r⟩
  · exact False.elim p
theorem de_int {i : Int} {j pos} : PE X (.Constant (.int i) j pos) (denE C E (eC (.int i))) := pe_imp pe_int fun _ _ _ ⟨_, _, _, _, s, _, p⟩ => p _ _ _ _ .refl s (.int _)
theorem de_bl {b : Bool} {j pos} : PE X (.Constant (.bool b) j pos) (denE C E (eC (.bl b))) := pe_imp pe_bl fun _ _ _ ⟨_, _, _, _, s, _, p⟩ => p _ _ _ _ .refl s (.bl _)
theorem de_non {j pos} : PE X (.Constant .none j pos) (denE C E (eC .non)) := pe_imp pe_non fun _ _ _ ⟨_, _, _, _, s, _, p⟩ => p _ _ _ _ .refl s .non
theorem de_str {x : Str} {j pos} : PE X (.Constant (.str x) j pos) (denE C E (eC (.str x))) := pe_imp pe_str fun _ _ _ ⟨_, _, _, _, s, _, p⟩ => p _ _ _ _ .refl s (.str _)
/-- a constant of the module -/
theorem de_globI {x : Str} {i : Int} {t : Tok} {pos : Pos} (hg : Gl X x) (hm : X.mg x = some (.int i t)) (hd : (x == ("__debug__" : Str)) = false := by decide) : PE X (.Name x pos) (denE C E (eC (.int i))) :=
  pe_imp (pe_glob (v := .int i) hg hm ⟨_, rfl⟩ hd) fun _ _ _ ⟨_, _, _, _, s, _, p⟩ => p _ _ _ _ .refl s (.int _)
theorem de_globS {x : Str} {i : Str} {t : Tok} {pos : Pos} (hg : Gl X x) (hm : X.mg x = some (.str i t)) (hd : (x == ("__debug__" : Str)) = false := by decide) : PE X (.Name x pos) (denE C E (eC (.str i))) :=
  pe_imp (pe_glob (v := .str i) hg hm ⟨_, rfl⟩ hd) fun _ _ _ ⟨_, _, _, _, s, _, p⟩ => p _ _ _ _ .refl s (.str _)

/-- two parts, then an operation by values -/
theorem tOp_den {r : R2} {g : D → D → Hm → R D} {fa fb : EM} (hr : ∀ x y H Q, rD2 C g x y H Q → r x y H Q) (hx : ∀ a b h, NoX (g a b h)) {σ : L2.St} {H : Hp} {Q : VK} (h : denE C E (eB g fa fb) σ H Q) : tOp r (denE C E fa) (denE C E fb) σ H Q := by
  obtain ⟨Z, m, v, h, s, e, p⟩ := h
  refine ⟨Z, m, v, h, s, e, (p.bind (rep1 := Rep C)).imp fun x H1 ⟨Z1, m1, a, h1, x1, s1, r1, p1⟩ => ?_⟩
  refine ⟨Z1, m1, v, h1, s1, e.mono x1, (p1.bind (rep1 := Rep C)).imp fun y H2 ⟨Z2, m2, b, h2, x2, s2, r2, p2⟩ => ?_⟩
  exact hr _ _ _ _ ⟨Z2, m2, h2, a, b, s2, r1.mono x2.sub x2.pre, r2, p2.nox (hx a b h2)⟩
theorem de_op {op : Operator} {a b : Expr} {pos : Pos} {g : D → D → Hm → R D} {fa fb : EM} (ho : OpR X (binaryOp op) (rD2 C g)) (hx : ∀ a b h, NoX (g a b h)) (ha : PE X a (denE C E fa)) (hb : PE X b (denE C E fb)) : PE X (.BinOp a op b pos) (denE C E (eB g fa fb)) :=
  pe_imp (pe_op ho ha hb) fun _ _ _ h => tOp_den (fun _ _ _ _ z => z) hx h
theorem de_cmp {op : CmpOp} {a b : Expr} {pos : Pos} {g : D → D → Hm → R D} {fa fb : EM} (ho : OpR X (compareOp op) (rD2 C g)) (hx : ∀ a b h, NoX (g a b h)) (ha : PE X a (denE C E fa)) (hb : PE X b (denE C E fb)) (hm : behindInMarks op b = false) : PE X (.Compare a [op] [b] pos) (denE C E (eB g fa fb)) :=
  pe_imp (pe_cmpR ho ha hb hm) fun _ _ _ h => tOp_den (fun _ _ _ _ z => z) hx h
theorem de_ix {a b : Expr} {pos : Pos} {g : D → D → Hm → R D} {fa fb : EM} (ho : IxR X (rD2 C g)) (hx : ∀ a b h, NoX (g a b h)) (ha : PE X a (denE C E fa)) (hb : PE X b (denE C E fb)) (hs : PlainIx b) : PE X (.Subscript a b pos) (denE C E (eB g fa fb)) :=
  pe_imp (pe_ix ho ha hb hs) fun _ _ _ h => tOp_den (fun _ _ _ _ z => z) hx h
theorem de_un {op : UnaryOp} {a : Expr} {pos : Pos} {g : D → Hm → R D} {fa : EM} (ho : UnR X (unaryOp op) (rD1 C g)) (hx : ∀ a h, NoX (g a h)) (ha : PE X a (denE C E fa)) : PE X (.UnaryOp op a pos) (denE C E (eU g fa)) := by
  refine pe_imp (pe_un ho ha) fun σ H Q ⟨Z, m, v, h, s, e, p⟩ => ?_
  refine ⟨Z, m, v, h, s, e, (p.bind (rep1 := Rep C)).imp fun x H1 ⟨Z1, m1, a, h1, x1, s1, r1, p1⟩ => ?_⟩
  exact ⟨Z1, m1, h1, a, s1, r1, p1.nox (hx a h1)⟩

/-! ### arguments, tuples, lists -/
theorem da_nil : PA X [] (denA C E aN) := pa_imp pa_nil fun _ _ _ ⟨_, _, _, _, s, _, p⟩ => p _ _ _ _ .refl s .nil
theorem da_cons {a : Expr} {r : List Expr} {fa : EM} {fr : AM} (ha : PE X a (denE C E fa)) (hr : PA X r (denA C E fr)) (hs : starEach (a :: r) X.env = (false, eval a X.env) :: starEach r X.env := by rfl) : PA X (a :: r) (denA C E (aC fa fr)) := by
  refine pa_imp (pa_cons ha hr hs) fun σ H Q ⟨Z, m, v, h, s, e, p⟩ => ?_
  refine ⟨Z, m, v, h, s, e, (p.bind (rep1 := Rep C)).imp fun x H1 ⟨Z1, m1, a, h1, x1, s1, r1, p1⟩ => ?_⟩
  refine ⟨Z1, m1, v, h1, s1, e.mono x1, (p1.bind (rep1 := RepL C)).imp fun y H2 ⟨Z2, m2, b, h2, x2, s2, r2, p2⟩ => ?_⟩
  exact p2 _ _ _ _ .refl s2 (.cons (r1.mono x2.sub x2.pre) r2)
theorem sz_le {n : Nat} (h : n ≤ 16777216) : n ≤ sizeLine := by rw [sizeLine_eq]; exact h
theorem de_tup {es : List Expr} {pos : Pos} {x1} {f : AM} (ha : PA X es (denA C E f)) : PE X (.Tuple es x1 pos) (denE C E (eTup f)) := by
  refine pe_imp (pe_tup ha) fun σ H Q ⟨Z, m, v, h, s, e, p⟩ => ?_
  refine ⟨Z, m, v, h, s, e, (p.bind (rep1 := RepL C)).imp fun xs H1 ⟨Z1, m1, a, h1, x1, s1, r1, p1⟩ => ?_⟩
  split at p1
  · rename_i hl
    refine ⟨by rw [← r1.length]; exact sz_le hl, fun q hq => ?_⟩
    exact p1 _ _ _ _ (Ext.lay s1 hq _) (s1.lay hq _) (.tup upd_same (r1.mono (Ext.lay s1 hq _).sub (List.prefix_refl _)))
  · exact False.elim p1
theorem de_lst {es : List Expr} {pos : Pos} {f : AM} (ha : PA X es (denA C E f)) : PE X (.List es pos) (denE C E (eLst f)) := by
  refine pe_imp (pe_lst ha) fun σ H Q ⟨Z, m, v, h, s, e, p⟩ => ?_
  refine ⟨Z, m, v, h, s, e, (p.bind (rep1 := RepL C)).imp fun xs H1 ⟨Z1, m1, a, h1, x1, s1, r1, p1⟩ => ?_⟩
  split at p1
  · rename_i hl
    refine ⟨by rw [← r1.length]; exact sz_le hl, fun q hq => ?_⟩
    exact p1 _ _ _ _ (Ext.lay s1 hq _) (s1.lay hq _) (.lst upd_same (r1.mono (Ext.lay s1 hq _).sub (List.prefix_refl _)))
  · exact False.elim p1
theorem at_new {m : List Addr} {a : Addr} {n : Nat} (h : m.length = n) : (m ++ [a])[n]? = some a := by
  subst h
  simp
theorem de_new {es : List Expr} {pos : Pos} {f : AM} (ha : PA X es (denA C E f)) : PE X (.List es pos) (denE C E (eNew f)) := by
  refine pe_imp (pe_lst ha) fun σ H Q ⟨Z, m, v, h, s, e, p⟩ => ?_
  refine ⟨Z, m, v, h, s, e, (p.bind (rep1 := RepL C)).imp fun xs H1 ⟨Z1, m1, a, h1, x1, s1, r1, p1⟩ => ?_⟩
  split at p1
  · rename_i hl
    refine ⟨by rw [← r1.length]; exact sz_le hl, fun q hq => ?_⟩
    exact p1 _ _ _ _ (Ext.alloc s1 hq _) (s1.alloc hq fun H' e => ⟨xs, e, r1.mono (fun _ _ z => z) (List.prefix_append _ _)⟩) (.ref (at_new s1.len))
  · exact False.elim p1

/-! ### calls -/
/-- a def's promise: it does as the mirror does -/
def spD (C : Cn) (f : FM) : Sp := fun vs H Q E => ∃ Z m h ds, HSim C Z m h H ∧ RepL C Z m ds vs ∧ Post C (Rep C) E (f ds h) Z m H Q
theorem de_call {CX : CXT} {k : Nat} {f : Addr} {fd : FuncData} {ps : List Str} {fm : FM} {x : Str} {p pos : Pos} {a : Expr} {es : List Expr} {fa : AM} (F : FnOk X.prog X.w X.K X.mg X.base CX k f fd ps (spD C fm)) (hr : Room k X.A) (hg : Gl X x) (hm : X.mg x = some (.ref f)) (hk : PySem.W.keepIn X.K (.ref f) = true) (hb : Binds X.K fd ps [])
    (hx : ∀ σ, PassesAt CX X σ (fun c d H => E c d σ H)) (ha : PA X (a :: es) (denA C E fa)) (hdb : (x == ("__debug__" : Str)) = false := by decide) (he : starEach (a :: es) X.env = (false, eval a X.env) :: starEach es X.env := by rfl) (hpl : (backTo pos (starEach es X.env)).any (·.1) = false := by rfl) :
    PE X (.Call (.Name x p) (a :: es) [] pos) (denE C E (eF fm fa)) := by
  refine ⟨fun pins s σ H Q I q => ?_⟩
  obtain ⟨Z, m, v, h, s1, e, pp⟩ := q
  refine wpAny_Call_Name_kw (ld_glob I hg hm ?_ hdb)
  have q1 : denA C E fa σ H fun vs H1 => spD C fm (vs ++ []) H1 Q (fun c d H' => E c d σ H') := ⟨Z, m, v, h, s1, e, (pp.bind (rep1 := RepL C)).imp fun xs H1 ⟨Z1, m1, a, h1, x1, s1, r1, p1⟩ => ⟨Z1, m1, h1, a, s1, by rw [List.append_nil]; exact r1, p1⟩⟩
  refine PySem.W.callWith_K (h₀ := X.base) I.ok.mod.kin hk (thn (ha.run pos pins s σ H _ I q1) fun us s1 ⟨vs, H1, I1, r, q⟩ => ⟨I1.kIn, ?_⟩) he hpl
  have r2 : Vals (vs ++ []) (us ++ []) := by rw [List.append_nil, List.append_nil]; exact r
  have hl : (us ++ []).length = ps.length := by rw [← r2.length]; exact F.len _ _ _ _ q
  refine wpAny_call (codeAny_mono (F.run X.A X.stack s1 H1 ⟨us, []⟩ (us ++ []) (vs ++ []) Q _ hr I1.env0 (hb s1 us I1.kIn hl) r2 q) fun r s' hq => ?_)
  cases r with
  | error e => exact hx σ pins H1 s1 e s' I1 hq
  | ok fl =>
    cases fl with
    | ret u => exact I1.after hq
    | next => exact False.elim hq
    | brk => exact False.elim hq
    | cont => exact False.elim hq
theorem de_call0 {CX : CXT} {k : Nat} {f : Addr} {fd : FuncData} {ps : List Str} {fm : FM} {x : Str} {p pos : Pos} (F : FnOk X.prog X.w X.K X.mg X.base CX k f fd ps (spD C fm)) (hr : Room k X.A) (hg : Gl X x) (hm : X.mg x = some (.ref f)) (hk : PySem.W.keepIn X.K (.ref f) = true) (hb : Binds X.K fd ps [])
    (hx : ∀ σ, PassesAt CX X σ (fun c d H => E c d σ H)) (hdb : (x == ("__debug__" : Str)) = false := by decide) : PE X (.Call (.Name x p) [] [] pos) (denE C E (eF fm aN)) := by
  refine ⟨fun pins s σ H Q I q => ?_⟩
  obtain ⟨Z, m, v, h, s1, e, pp⟩ := q
  refine wpAny_Call_Name_kw (ld_glob I hg hm ?_ hdb)
  have q : spD C fm ([] ++ []) H Q (fun c d H' => E c d σ H') := ⟨Z, m, h, [], s1, .nil, pp⟩
  refine PySem.W.callWith_K0 I.kIn hk ?_
  have hl : ([] ++ [] : List Value).length = ps.length := F.len _ _ _ _ q
  refine wpAny_call (codeAny_mono (F.run X.A X.stack s H ⟨[], []⟩ ([] ++ []) ([] ++ []) Q _ hr I.env0 (hb s [] I.kIn hl) .nil q) fun r s' hq => ?_)
  cases r with
  | error e => exact hx σ pins H s e s' I hq
  | ok fl =>
    cases fl with
    | ret u => exact I.after hq
    | next => exact False.elim hq
    | brk => exact False.elim hq
    | cont => exact False.elim hq
theorem pass0A {σ : L2.St} : PassesAt CX0 X σ (fun c d H => E c d σ H) := fun _ _ _ _ _ _ h => False.elim h
/-- a builtin's call -/
theorem tCB_den {r : List V → Hp → VK → Prop} {g : FM} {fa : AM} (hr : ∀ xs H Q, rDF C g xs H Q → r xs H Q) (hx : ∀ a h, NoX (g a h)) {σ : L2.St} {H : Hp} {Q : VK} (h : denE C E (eF g fa) σ H Q) : tCB r (denA C E fa) σ H Q := by
  obtain ⟨Z, m, v, h, s, e, p⟩ := h
  exact ⟨Z, m, v, h, s, e, (p.bind (rep1 := RepL C)).imp fun xs H1 ⟨Z1, m1, a, h1, x1, s1, r1, p1⟩ => hr _ _ _ ⟨Z1, m1, h1, a, s1, r1, p1.nox (hx a h1)⟩⟩
theorem de_callB {id : String} {x : Str} {p pos : Pos} {a : Expr} {es : List Expr} {g : FM} {fa : AM} (hc : CallR X (.builtin id) (rDF C g)) (hx : ∀ a h, NoX (g a h)) (hg : Gl X x) (hm : X.mg x = none) (hv : bootBuiltins x = some (.builtin id)) (ha : PA X (a :: es) (denA C E fa)) (hn : x ≠ "__name__" := by decide) (hdb : (x == ("__debug__" : Str)) = false := by decide)
    (he : starEach (a :: es) X.env = (false, eval a X.env) :: starEach es X.env := by rfl) (hpl : (backTo pos (starEach es X.env)).any (·.1) = false := by rfl) : PE X (.Call (.Name x p) (a :: es) [] pos) (denE C E (eF g fa)) :=
  pe_imp (pe_callB hc hg hm hv ha hn hdb he hpl) fun _ _ _ h => tCB_den (fun _ _ _ z => z) hx h
theorem de_callTy {T : String} {x : Str} {p pos : Pos} {a : Expr} {es : List Expr} {g : FM} {fa : AM} (hc : CallR X (.type T) (rDF C g)) (hx : ∀ a h, NoX (g a h)) (hg : Gl X x) (hm : X.mg x = none) (hv : bootBuiltins x = some (.type T)) (ha : PA X (a :: es) (denA C E fa)) (hn : x ≠ "__name__" := by decide) (hdb : (x == ("__debug__" : Str)) = false := by decide)
    (he : starEach (a :: es) X.env = (false, eval a X.env) :: starEach es X.env := by rfl) (hpl : (backTo pos (starEach es X.env)).any (·.1) = false := by rfl) : PE X (.Call (.Name x p) (a :: es) [] pos) (denE C E (eF g fa)) :=
  pe_imp (pe_callTy hc hg hm hv ha hn hdb he hpl) fun _ _ _ h => tCB_den (fun _ _ _ z => z) hx h

/-! ### tests -/
theorem dt_cmp {op : CmpOp} {a b : Expr} {pos : Pos} {g : D → D → Hm → R D} {fa fb : EM} (ho : OpR X (compareOp op) (rD2 C g)) (hx : ∀ a b h, NoX (g a b h)) (ha : PE X a (denE C E fa)) (hb : PE X b (denE C E fb)) (hm : behindInMarks op b = false) : PT X (.Compare a [op] [b] pos) (denT C E (tE (eB g fa fb))) := by
  refine pt_imp (pt_cmpR ho ha hb hm) fun σ H Q ⟨Z, m, v, h, s, e, p⟩ => ?_
  refine tOp_den (E := E) (fun _ _ _ _ z => z) hx ⟨Z, m, v, h, s, e, (p.bind (rep1 := Rep C)).imp fun x H1 ⟨Z1, m1, a, h1, x1, s1, r1, p1⟩ => ?_⟩
  cases r1 with
  | bl b => exact ⟨b, rfl, p1 _ _ _ _ .refl s1 rfl⟩
  | _ => exact False.elim p1
theorem dt_val {a : Expr} {fa : EM} (ha : PE X a (denE C E fa)) (he : ∀ whole, isTrue a X.env whole = (do let v ← whole; standAt a.pos; holding [v] (truthy v)) := by intro _; rfl) : PT X a (denT C E (tE fa)) := by
  refine pt_imp (pt_val ha he) fun σ H Q ⟨Z, m, v, h, s, e, p⟩ => ?_
  refine ⟨Z, m, v, h, s, e, (p.bind (rep1 := Rep C)).imp fun x H1 ⟨Z1, m1, a, h1, x1, s1, r1, p1⟩ => ?_⟩
  cases r1 with
  | bl b => exact ⟨b, rfl, p1 _ _ _ _ .refl s1 rfl⟩
  | _ => exact False.elim p1
variable {a b c : Expr} {rest : List Expr} {pos : Pos}
theorem dw_and1 {fa : TM} (ha : PT X a (denT C E fa)) : PW X (.BoolOp .And [a] pos) (denT C E fa) := pw_and1 ha
theorem dw_or1 {fa : TM} (ha : PT X a (denT C E fa)) : PW X (.BoolOp .Or [a] pos) (denT C E fa) := pw_or1 ha
theorem dw_and {fa fb : TM} (ha : PT X a (denT C E fa)) (hb : PW X (.BoolOp .And (b :: rest) pos) (denT C E fb)) : PW X (.BoolOp .And (a :: b :: rest) pos) (denT C E (tAnd fa fb)) := by
  refine pw_imp (pw_and ha hb) fun σ H Q ⟨Z, m, v, h, s, e, p⟩ => ?_
  refine ⟨Z, m, v, h, s, e, (p.bind (rep1 := RB)).imp fun x H1 ⟨Z1, m1, a, h1, x1, s1, r1, p1⟩ => ?_⟩
  cases (show x = a from r1)
  cases x with
  | true => exact ⟨Z1, m1, v, h1, s1, e.mono x1, p1⟩
  | false => exact p1 _ _ _ _ .refl s1 rfl
theorem dw_or {fa fb : TM} (ha : PT X a (denT C E fa)) (hb : PW X (.BoolOp .Or (b :: rest) pos) (denT C E fb)) : PW X (.BoolOp .Or (a :: b :: rest) pos) (denT C E (tOr fa fb)) := by
  refine pw_imp (pw_or ha hb) fun σ H Q ⟨Z, m, v, h, s, e, p⟩ => ?_
  refine ⟨Z, m, v, h, s, e, (p.bind (rep1 := RB)).imp fun x H1 ⟨Z1, m1, a, h1, x1, s1, r1, p1⟩ => ?_⟩
  cases (show x = a from r1)
  cases x with
  | false => exact ⟨Z1, m1, v, h1, s1, e.mono x1, p1⟩
  | true => exact p1 _ _ _ _ .refl s1 rfl
theorem dt_bool {op} {fa : TM} (h : PW X (.BoolOp op rest pos) (denT C E fa)) : PT X (.BoolOp op rest pos) (denT C E fa) := h.pt
theorem dt_not {fa : TM} (ha : PT X a (denT C E fa)) : PT X (.UnaryOp .Not a pos) (denT C E (tNot fa)) := by
  refine pt_imp (pt_not ha) fun σ H Q ⟨Z, m, v, h, s, e, p⟩ => ?_
  refine ⟨Z, m, v, h, s, e, (p.bind (rep1 := RB)).imp fun x H1 ⟨Z1, m1, a, h1, x1, s1, r1, p1⟩ => ?_⟩
  cases (show x = a from r1)
  exact p1 _ _ _ _ .refl s1 rfl
/-- .. as values -/
theorem de_one {op} {fa : EM} (h : PE X a (denE C E fa)) : PE X (.BoolOp op [a] pos) (denE C E fa) := pe_one h
theorem de_and {fa fb : EM} (ha : PE X a (denE C E fa)) (hb : PE X (.BoolOp .And (b :: rest) pos) (denE C E fb)) : PE X (.BoolOp .And (a :: b :: rest) pos) (denE C E (eAnd fa fb)) := by
  refine pe_imp (pe_and ha hb) fun σ H Q ⟨Z, m, v, h, s, e, p⟩ => ?_
  refine ⟨Z, m, v, h, s, e, (p.bind (rep1 := Rep C)).imp fun x H1 ⟨Z1, m1, a, h1, x1, s1, r1, p1⟩ => ?_⟩
  cases r1 with
  | bl c =>
    cases c with
    | true => exact ⟨_, rfl, ⟨Z1, m1, v, h1, s1, e.mono x1, p1⟩⟩
    | false => exact ⟨_, rfl, p1 _ _ _ _ .refl s1 (.bl _)⟩
  | _ => exact False.elim p1
theorem de_or {fa fb : EM} (ha : PE X a (denE C E fa)) (hb : PE X (.BoolOp .Or (b :: rest) pos) (denE C E fb)) : PE X (.BoolOp .Or (a :: b :: rest) pos) (denE C E (eOr fa fb)) := by
  refine pe_imp (pe_or ha hb) fun σ H Q ⟨Z, m, v, h, s, e, p⟩ => ?_
  refine ⟨Z, m, v, h, s, e, (p.bind (rep1 := Rep C)).imp fun x H1 ⟨Z1, m1, a, h1, x1, s1, r1, p1⟩ => ?_⟩
  cases r1 with
  | bl c =>
    cases c with
    | false => exact ⟨_, rfl, ⟨Z1, m1, v, h1, s1, e.mono x1, p1⟩⟩
    | true => exact ⟨_, rfl, p1 _ _ _ _ .refl s1 (.bl _)⟩
  | _ => exact False.elim p1
theorem de_not {fa : EM} (ha : PE X a (denE C E fa)) : PE X (.UnaryOp .Not a pos) (denE C E (eNot fa)) := by
  refine pe_imp (pe_not ha) fun σ H Q ⟨Z, m, v, h, s, e, p⟩ => ?_
  refine ⟨Z, m, v, h, s, e, (p.bind (rep1 := Rep C)).imp fun x H1 ⟨Z1, m1, a, h1, x1, s1, r1, p1⟩ => ?_⟩
  cases r1 with
  | bl c => exact ⟨_, rfl, p1 _ _ _ _ .refl s1 (.bl _)⟩
  | _ => exact False.elim p1
theorem de_if {ft : TM} {fa fb : EM} (hc : PT X c (denT C E ft)) (ha : PE X a (denE C E fa)) (hb : PE X b (denE C E fb)) : PE X (.IfExp c a b pos) (denE C E (eIf ft fa fb)) := by
  refine pe_imp (pe_ifExp hc ha hb) fun σ H Q ⟨Z, m, v, h, s, e, p⟩ => ?_
  refine ⟨Z, m, v, h, s, e, (p.bind (rep1 := RB)).imp fun x H1 ⟨Z1, m1, a, h1, x1, s1, r1, p1⟩ => ?_⟩
  cases (show x = a from r1)
  cases x with
  | true => exact ⟨Z1, m1, v, h1, s1, e.mono x1, p1⟩
  | false => exact ⟨Z1, m1, v, h1, s1, e.mono x1, p1⟩
/-- a < b <= c -/
def eChain (g g' : D → D → Hm → R D) (fa fb fc : EM) : EM := fun v h => (fa v h).bind fun x h1 => (fb v h1).bind fun y h2 => (g x y h2).bind fun z h3 => match z with
  | .bl true => (fc v h3).bind fun w h4 => g' y w h4
  | .bl false => .ok (.bl false) h3
  | _ => .err
theorem tChain_den {r r' : R2} {g g' : D → D → Hm → R D} {fa fb fc : EM} (hr : ∀ x y H Q, rD2 C g x y H Q → r x y H Q) (hr' : ∀ x y H Q, rD2 C g' x y H Q → r' x y H Q) (hx : ∀ a b h, NoX (g a b h)) (hx' : ∀ a b h, NoX (g' a b h)) {σ : L2.St} {H : Hp} {Q : VK}
    (h : denE C E (eChain g g' fa fb fc) σ H Q) : tChain r r' (denE C E fa) (denE C E fb) (denE C E fc) σ H Q := by
  obtain ⟨Z, m, v, h, s, e, p⟩ := h
  refine ⟨Z, m, v, h, s, e, (p.bind (rep1 := Rep C)).imp fun x H1 ⟨Z1, m1, a, h1, x1, s1, r1, p1⟩ => ?_⟩
  refine ⟨Z1, m1, v, h1, s1, e.mono x1, (p1.bind (rep1 := Rep C)).imp fun y H2 ⟨Z2, m2, b, h2, x2, s2, r2, p2⟩ => ?_⟩
  refine hr _ _ _ _ ⟨Z2, m2, h2, a, b, s2, r1.mono x2.sub x2.pre, r2, Post.nox ((p2.bind (rep1 := Rep C)).imp fun z H3 ⟨Z3, m3, d, h3, x3, s3, r3, p3⟩ => ?_) (hx a b h2)⟩
  cases r3 with
  | bl k =>
    refine ⟨k, rfl, ?_⟩
    cases k with
    | true =>
      refine ⟨Z3, m3, v, h3, s3, (e.mono x1 |>.mono x2 |>.mono x3), (p3.bind (rep1 := Rep C)).imp fun w H4 ⟨Z4, m4, f, h4, x4, s4, r4, p4⟩ => ?_⟩
      exact hr' _ _ _ _ ⟨Z4, m4, h4, b, f, s4, (r2.mono x3.sub x3.pre).mono x4.sub x4.pre, r4, p4.nox (hx' b f h4)⟩
    | false => exact p3 _ _ _ _ .refl s3 (.bl _)
  | _ => exact False.elim p3
theorem de_chain {op op' : CmpOp} {g g' : D → D → Hm → R D} {fa fb fc : EM} (ho : OpR X (compareOp op) (rD2 C g)) (ho' : OpR X (compareOp op') (rD2 C g')) (hx : ∀ a b h, NoX (g a b h)) (hx' : ∀ a b h, NoX (g' a b h)) (ha : PE X a (denE C E fa)) (hb : PE X b (denE C E fb)) (hc : PE X c (denE C E fc))
    (hm : lastMarks [op, op'] [b, c] = false := by with_unfolding_all rfl) : PE X (.Compare a [op, op'] [b, c] pos) (denE C E (eChain g g' fa fb fc)) :=
  pe_imp (pe_chain ho ho' ha hb hc hm) fun _ _ _ h => tChain_den (fun _ _ _ _ z => z) (fun _ _ _ _ z => z) hx hx' h
theorem dt_chain {op op' : CmpOp} {g g' : D → D → Hm → R D} {fa fb fc : EM} (ho : OpR X (compareOp op) (rD2 C g)) (ho' : OpR X (compareOp op') (rD2 C g')) (hx : ∀ a b h, NoX (g a b h)) (hx' : ∀ a b h, NoX (g' a b h)) (ha : PE X a (denE C E fa)) (hb : PE X b (denE C E fb)) (hc : PE X c (denE C E fc))
    (hm : lastMarks [op, op'] [b, c] = false := by with_unfolding_all rfl) : PT X (.Compare a [op, op'] [b, c] pos) (denT C E (tE (eChain g g' fa fb fc))) := by
  refine pt_imp (pt_chain ho ho' ha hb hc hm) fun σ H Q ⟨Z, m, v, h, s, e, p⟩ => ?_
  refine tChain_den (E := E) (fun _ _ _ _ z => z) (fun _ _ _ _ z => z) hx hx' ⟨Z, m, v, h, s, e, (p.bind (rep1 := Rep C)).imp fun x H1 ⟨Z1, m1, a, h1, x1, s1, r1, p1⟩ => ?_⟩
  cases r1 with
  | bl b => exact ⟨b, rfl, p1 _ _ _ _ .refl s1 rfl⟩
  | _ => exact False.elim p1
end
end Dn

/-! DenD: statements, loops, comprehensions, defs. -/
set_option Elab.async false
set_option linter.all false
set_option maxRecDepth 100000
set_option maxHeartbeats 4000000
namespace Dn
open PySem PySem.Spec PyProof.Rows L2

/-- what follows a statement -/
def PostS (C : Cn) (E : WX) (r : Fl) (Z : Hp) (m : List Addr) (H : Hp) (K : Ends) : Prop := match r with
  | .nx v h => ∀ Z' m' H' σ, Ext Z m H Z' m' H' → HSim C Z' m' h H' → EnvR C Z' m' v σ → K.nx σ H'
  | .rt d h => ∀ Z' m' H' u, Ext Z m H Z' m' H' → HSim C Z' m' h H' → Rep C Z' m' d u → K.rt u H'
  | .bk v h => ∀ Z' m' H' σ, Ext Z m H Z' m' H' → HSim C Z' m' h H' → EnvR C Z' m' v σ → K.bk σ H'
  | .ct v h => ∀ Z' m' H' σ, Ext Z m H Z' m' H' → HSim C Z' m' h H' → EnvR C Z' m' v σ → K.ct σ H'
  | .exc e v h => ∀ Z' m' H' σ c od, Ext Z m H Z' m' H' → HSim C Z' m' h H' → EnvR C Z' m' v σ → ExR C Z' m' H' e c od → E c od σ H'
  | .err => False
theorem PostS.from {C : Cn} {E : WX} {r : Fl} {Z Z1 : Hp} {m m1 : List Addr} {H H1 : Hp} {K : Ends} (x : Ext Z m H Z1 m1 H1) (h : PostS C E r Z m H K) : PostS C E r Z1 m1 H1 K := by
  cases r with
  | nx v g => exact fun Z' m' H' σ a b c => h Z' m' H' σ (x.trans a) b c
  | rt v g => exact fun Z' m' H' σ a b c => h Z' m' H' σ (x.trans a) b c
  | bk v g => exact fun Z' m' H' σ a b c => h Z' m' H' σ (x.trans a) b c
  | ct v g => exact fun Z' m' H' σ a b c => h Z' m' H' σ (x.trans a) b c
  | exc e v g => exact fun Z' m' H' σ q od a b c => h Z' m' H' σ q od (x.trans a) b c
  | err => exact h
def denS (C : Cn) (E : WX) (f : SM) : TS := fun K σ H => ∃ Z m v h, HSim C Z m h H ∧ EnvR C Z m v σ ∧ PostS C E (f v h) Z m H K
/-- a target -/
def denG (C : Cn) (g : TgM) : TG := fun x σ H Q => ∃ Z m v h d, HSim C Z m h H ∧ EnvR C Z m v σ ∧ Rep C Z m d x ∧ ∃ v1, g d v h = some v1 ∧ ∀ σ1, EnvR C Z m v1 σ1 → Q σ1 H

/-- from an expression to what follows it in a statement -/
theorem Post.stm {C : Cn} {E : WX} {r : R D} {k : D → Hm → Fl} {v : Ev} {σ : L2.St} {Z : Hp} {m : List Addr} {H : Hp} {K : Ends} (e : EnvR C Z m v σ)
    (h : PostS C E (match r with | .ok d h1 => k d h1 | .exc x h1 => .exc x v h1 | .err => .err) Z m H K) :
    Post C (Rep C) (fun c d H' => E c d σ H') r Z m H fun x H1 => ∃ Z1 m1 d h1, Ext Z m H Z1 m1 H1 ∧ HSim C Z1 m1 h1 H1 ∧ Rep C Z1 m1 d x ∧ PostS C E (k d h1) Z1 m1 H1 K := by
  cases r with
  | ok d h1 => exact fun Z' m' H' v a b c => ⟨Z', m', d, h1, a, b, c, PostS.from a h⟩
  | exc x h1 => exact fun Z' m' H' c od a b q => h Z' m' H' σ c od a b (e.mono a) q
  | err => exact h

section
variable {X : Cx} {C : Cn} {E : WX} {pos : Pos}
theorem dss_nil : PSs X [] (denS C E sNx) := pss_imp pss_nil fun K σ H ⟨Z, m, v, h, s, e, p⟩ => p _ _ _ _ .refl s e
theorem dss_cons {st : Stmt} {rest : List Stmt} {fa fb : SM} (ha : PS X st (denS C E fa)) (hb : PSs X rest (denS C E fb)) : PSs X (st :: rest) (denS C E (sSeq fa fb)) := by
  refine pss_imp (pss_cons ha hb) fun K σ H ⟨Z, m, v, h, s, e, p⟩ => ?_
  refine ⟨Z, m, v, h, s, e, ?_⟩
  unfold sSeq at p
  cases q : fa v h with
  | nx v1 h1 =>
    rw [q] at p
    exact fun Z' m' H' σ' a b c => ⟨Z', m', v1, h1, b, c, PostS.from a p⟩
  | rt _ _ => rw [q] at p; exact p
  | bk _ _ => rw [q] at p; exact p
  | ct _ _ => rw [q] at p; exact p
  | exc _ _ _ => rw [q] at p; exact p
  | err => rw [q] at p; exact p
theorem dss_one {st : Stmt} {fa : SM} (ha : PS X st (denS C E fa)) : PSs X [st] (denS C E fa) := pss_one ha
theorem ds_pass : PS X (.Pass pos) (denS C E sNx) := ps_imp ps_pass fun K σ H ⟨Z, m, v, h, s, e, p⟩ => p _ _ _ _ .refl s e
theorem ds_break : PS X (.Break pos) (denS C E sBreak) := ps_imp ps_break fun K σ H ⟨Z, m, v, h, s, e, p⟩ => p _ _ _ _ .refl s e
theorem ds_cont : PS X (.Continue pos) (denS C E sCont) := ps_imp ps_continue fun K σ H ⟨Z, m, v, h, s, e, p⟩ => p _ _ _ _ .refl s e
theorem ds_expr {a : Expr} {fa : EM} (ha : PE X a (denE C E fa)) (hs : swapsWith a none pos.line X.env = pure false := by rfl) : PS X (.Expr a pos) (denS C E (sExpr fa)) := by
  refine ps_imp (ps_expr ha hs) fun K σ H ⟨Z, m, v, h, s, e, p⟩ => ?_
  refine ⟨Z, m, v, h, s, e, (Post.stm (k := fun _ h1 => .nx v h1) e p).imp fun x H1 ⟨Z1, m1, d, h1, x1, s1, r1, p1⟩ => p1 _ _ _ _ .refl s1 (e.mono x1)⟩
theorem ds_ret {a : Expr} {fa : EM} (ha : PE X a (denE C E fa)) : PS X (.Return (some a) pos) (denS C E (sRet fa)) := by
  refine ps_imp (ps_ret ha) fun K σ H ⟨Z, m, v, h, s, e, p⟩ => ?_
  refine ⟨Z, m, v, h, s, e, (Post.stm (k := fun d h1 => .rt d h1) e p).imp fun x H1 ⟨Z1, m1, d, h1, x1, s1, r1, p1⟩ => p1 _ _ _ _ .refl s1 r1⟩
theorem ds_retN : PS X (.Return none pos) (denS C E sRetN) := ps_imp ps_retN fun K σ H ⟨Z, m, v, h, s, e, p⟩ => p _ _ _ _ .refl s .non
theorem ds_if {c : Expr} {a b : List Stmt} {ft : TM} {fa fb : SM} (hc : PT X c (denT C E ft)) (ha : PSs X a (denS C E fa)) (hb : PSs X b (denS C E fb)) : PS X (.If c a b pos) (denS C E (sIf ft fa fb)) := by
  refine ps_imp (ps_if hc ha hb) fun K σ H ⟨Z, m, v, h, s, e, p⟩ => ?_
  refine ⟨Z, m, v, h, s, e, ?_⟩
  unfold sIf at p
  cases q : ft v h with
  | ok k h1 =>
    rw [q] at p
    intro Z' m' H' b0 x b1 r
    cases (show b0 = k from r)
    cases k with
    | true => exact ⟨Z', m', v, h1, b1, e.mono x, PostS.from x p⟩
    | false => exact ⟨Z', m', v, h1, b1, e.mono x, PostS.from x p⟩
  | exc x h1 => rw [q] at p; exact fun Z' m' H' c od a b r => p Z' m' H' σ c od a b (e.mono a) r
  | err => rw [q] at p; exact p

/-! ### targets -/
theorem dg_name {i : Nat} {x : Str} (hN : X.N.Nodup) (hi : X.N[i]? = some x) (hx : Loc X.env.scope x) (hf : X.fn x = true ∨ X.env.scope.names.lookup x = some .local := by first | exact .inl rfl | exact .inr rfl | assumption) : PG X (.Name x pos) (denG C (gN i)) := by
  refine ⟨fun pins s σ H x u Q I r q => (pg_name (pos := pos) hN hi hx hf).run pins s σ H x u Q I r ?_⟩
  obtain ⟨Z, m, v, h, d, s1, e, rd, v1, q1, k⟩ := q
  cases q1
  exact k _ (e.set rd i)
/-- the names of a tuple target -/
structure PGn (X : Cx) (es : List Expr) (is : List Nat) : Prop where
  ok : ∃ t : TGs, PGs X es t ∧ ∀ (C : Cn) (Z : Hp) (m : List Addr) (ds : List D) (vs : List V) (v v1 : Ev) (σ : L2.St) (H : Hp) (Q : L2.St → Hp → Prop), RepL C Z m ds vs → EnvR C Z m v σ → fillAll is ds v = some v1 → (∀ σ1, EnvR C Z m v1 σ1 → Q σ1 H) → t vs σ H Q
  len : (assignEach es X.env).length = is.length
theorem dgn_nil : PGn X [] [] := ⟨⟨_, pgs_nil, fun C Z m ds vs v v1 σ H Q r e f k => by
  cases r with
  | nil => cases f; exact ⟨rfl, k _ e⟩
  | cons _ _ => cases f⟩, rfl⟩
theorem dgn_cons {i : Nat} {x : Str} {es : List Expr} {is : List Nat} (hr : PGn X es is) (hN : X.N.Nodup) (hi : X.N[i]? = some x) (hx : Loc X.env.scope x) (hf : X.fn x = true ∨ X.env.scope.names.lookup x = some .local := by first | exact .inl rfl | exact .inr rfl | assumption)
    (hs : (assignEach (.Name x pos :: es) X.env).map (·.2) = assign (.Name x pos) X.env :: (assignEach es X.env).map (·.2) := by rfl) : PGn X (.Name x pos :: es) (i :: is) := by
  obtain ⟨⟨t, ht, k⟩, hl⟩ := hr
  refine ⟨⟨_, pgs_cons (pg_name (pos := pos) hN hi hx hf) ht hs, fun C Z m ds vs v v1 σ H Q r e f q => ?_⟩, ?_⟩
  · cases r with
    | nil => cases f
    | cons a b => exact ⟨_, _, rfl, k C Z m _ _ _ _ _ H Q b (e.set a i) f q⟩
  · have h1 := congrArg List.length hs
    simp only [List.length_map, List.length_cons] at h1 ⊢
    rw [h1, hl]
theorem dg_tup {es : List Expr} {k : Nat} {is : List Nat} (hK : C.K = X.K) (hc : X.calm = true) (h : PGn X es is) (hst : (assignEach es X.env).findIdx? (·.1) = none := by rfl) : PG X (.Tuple es k pos) (denG C (gT is)) := by
  obtain ⟨⟨t, ht, k0⟩, hl⟩ := h
  refine ⟨fun pins s σ H x u Q I r q => ?_⟩
  obtain ⟨Z, m, v, h, d, s1, e, rd, v1, q1, kk⟩ := q
  have hfl : ∀ (is : List Nat) (l : List D) (v v1 : Ev), fillAll is l v = some v1 → l.length = is.length := by
    intro is
    induction is with
    | nil => intro l v v1 h; cases l with
      | nil => rfl
      | cons _ _ => cases h
    | cons i is ih => intro l v v1 h; cases l with
      | nil => cases h
      | cons d l => simp [ih l _ _ h]
  cases rd with
  | @tup a vs l hq rl =>
    refine (pg_tup (pos := pos) hc ht hl hst).run pins s σ H _ u Q I r ⟨_, vs, rfl, .inl (.inl (s1.sub _ _ hq)), ?_, k0 _ Z m _ vs v v1 σ H Q rl e q1 kk⟩
    rw [← rl.length]
    exact hfl is l v v1 q1
  | _ => cases q1
/-- x = e, a, b = e -/
theorem ds_asg {tg a : Expr} {fa : EM} {g : TgM} (ha : PE X a (denE C E fa)) (hg : PG X tg (denG C g)) (hs : swapsWithSole [tg] a pos.line X.env = pure false := by rfl) (hw : swappedStores [tg] a X.env = pure none := by rfl)
    (h1 : (assignEach [tg] X.env).map (·.2) = [assign tg X.env] := by rfl) : PS X (.Assign [tg] a pos) (denS C E (sAsg g fa)) := by
  refine ps_imp (ps_asg ha hg hs hw h1) fun K σ H ⟨Z, m, v, h, s, e, p⟩ => ?_
  refine ⟨Z, m, v, h, s, e, (Post.stm (k := fun d h1 => match g d v h1 with | some v1 => .nx v1 h1 | none => .err) e p).imp fun x H1 ⟨Z1, m1, d, h1, x1, s1, r1, p1⟩ => ?_⟩
  cases q : g d v h1 with
  | none => rw [q] at p1; exact False.elim p1
  | some v1 =>
    rw [q] at p1
    exact ⟨Z1, m1, v, h1, d, s1, e.mono x1, r1, v1, q, fun σ1 e1 => p1 _ _ _ _ .refl s1 e1⟩
/-- x = [.. for ..] on one line, x a local -/
theorem ds_set {i : Nat} {x : Str} {a : Expr} {fa : EM} {pos' : Pos} (hN : X.N.Nodup) (hi : X.N[i]? = some x) (hx : Loc X.env.scope x) (ha : PE X a (denE C E fa)) (hs : swapsWith a (some (.Name x pos')) pos.line X.env = pure false := by rfl) (hf : X.fn x = true ∨ X.env.scope.names.lookup x = some .local := by first | exact .inl rfl | exact .inr rfl | assumption) :
    PS X (.Assign [.Name x pos'] a pos) (denS C E (sAsg (gN i) fa)) := by
  refine ps_imp (L2.ps_set hN hi hx ha hs hf) fun K σ H ⟨Z, m, v, h, s, e, p⟩ => ?_
  refine ⟨Z, m, v, h, s, e, (Post.stm (k := fun d h1 => match gN i d v h1 with | some v1 => .nx v1 h1 | none => .err) e p).imp fun x H1 ⟨Z1, m1, d, h1, x1, s1, r1, p1⟩ => ?_⟩
  exact p1 _ _ _ _ .refl s1 ((e.mono x1).set r1 i)

/-! ### loops -/
/-- the walk's items come, whatever the mirror's state, as long as the check holds -/
def WkOk (C : Cn) (J : It) (k : Wk) (Z : Hp) (m : List Addr) : Prop := ∀ (i : Nat) (Z' : Hp) (m' : List Addr) (h : Hm) (H : Hp), (∀ a o, Z a = some o → Z' a = some o) → m <+: m' → HSim C Z' m' h H → k.chk h = true →
  (i < k.its.length → J.go i H ∧ ∀ x H', J.yld i H x H' → ∃ d Z1, k.its[i]? = some d ∧ Ext Z' m' H Z1 m' H' ∧ HSim C Z1 m' h H' ∧ Rep C Z1 m' d x) ∧ (k.its.length ≤ i → J.stop i H)
/-- what a for walks -/
def denW (C : Cn) (E : WX) (w : Ev → Hm → R Wk) : TI := fun σ H Q => ∃ Z m v h, HSim C Z m h H ∧ EnvR C Z m v σ ∧ (match w v h with
  | .ok k h1 => ∀ Z1 m1 H1 J, Ext Z m H Z1 m1 H1 → HSim C Z1 m1 h1 H1 → WkOk C J k Z1 m1 → Q J H1
  | .exc e h1 => ∀ Z' m' H' c od, Ext Z m H Z' m' H' → HSim C Z' m' h1 H' → ExR C Z' m' H' e c od → E c od σ H'
  | .err => False)
theorem ds_for {tg iter : Expr} {body : List Stmt} {g : TgM} {w : Ev → Hm → R Wk} {fb : SM} (hp : PassesOwn (model X.prog X.w) X.A X.env X.xe) (hc : X.calm = true) (hi : PI X tg iter (denW C E w)) (hg : PG X tg (denG C g)) (hb : PSs X body (denS C E fb))
    (hs : ∀ x, foldedSetIterable iter X.env x = pure x := by intro _; rfl) : PS X (.For tg iter body [] pos) (denS C E (sFor g w fb)) := by
  refine ps_imp (ps_for hp hc hi hg hb hs) fun K σ H ⟨Z, m, v, h, s, e, p⟩ => ?_
  refine ⟨Z, m, v, h, s, e, ?_⟩
  unfold sFor at p
  cases q : w v h with
  | exc x h1 => rw [q] at p; exact fun Z' m' H' c od a b r => p Z' m' H' σ c od a b (e.mono a) r
  | err => rw [q] at p; exact p
  | ok k h1 =>
    rw [q] at p
    intro Z1 m1 H1 J x1 s1 ok
    have p : PostS C E (forL g fb k.chk k.its v h1) Z m H K := p
    refine ⟨fun i n σ2 H2 => n = k.its.length - i ∧ i ≤ k.its.length ∧ ∃ Z2 m2 v2 h2, Ext Z1 m1 H1 Z2 m2 H2 ∧ HSim C Z2 m2 h2 H2 ∧ EnvR C Z2 m2 v2 σ2 ∧ PostS C E (forL g fb k.chk (k.its.drop i) v2 h2) Z2 m2 H2 K,
      ⟨_, rfl, Nat.zero_le _, Z1, m1, v, h1, .refl, s1, e.mono x1, PostS.from x1 p⟩, ?_⟩
    rintro i n σ2 H2 ⟨rfl, hi, Z2, m2, v2, h2, x2, s2, e2, p2⟩
    by_cases hc2 : k.chk h2 = true
    · obtain ⟨o1, o2⟩ := ok i Z2 m2 h2 H2 x2.sub x2.pre s2 hc2
      by_cases hlt : i < k.its.length
      · obtain ⟨go, y⟩ := o1 hlt
        refine .inr ⟨go, fun σ' H' => i + 1 ≤ k.its.length ∧ ∃ Z2 m2 v2 h2, Ext Z1 m1 H1 Z2 m2 H' ∧ HSim C Z2 m2 h2 H' ∧ EnvR C Z2 m2 v2 σ' ∧ PostS C E (forL g fb k.chk (k.its.drop (i + 1)) v2 h2) Z2 m2 H' K,
          fun σ' H' z => ⟨k.its.length - (i + 1), by omega, rfl, z⟩, fun x H' yy => ?_⟩
        obtain ⟨d, Z3, hd, x3, s3, r3⟩ := y x H' yy
        have hdrop : k.its.drop i = d :: k.its.drop (i + 1) := by
          obtain ⟨hl, he⟩ := List.getElem?_eq_some_iff.mp hd
          rw [List.drop_eq_getElem_cons hl, he]
        rw [hdrop] at p2
        simp only [forL, hc2, if_true] at p2
        cases qg : g d v2 h2 with
        | none => rw [qg] at p2; exact False.elim p2
        | some v3 =>
          rw [qg] at p2
          refine ⟨Z3, m2, v2, h2, d, s3, e2.mono x3, r3, v3, qg, fun σ3 e3 => ?_⟩
          refine ⟨Z3, m2, v3, h2, s3, e3, ?_⟩
          have p2 : PostS C E (match fb v3 h2 with | .nx v2 h2 => forL g fb k.chk (k.its.drop (i + 1)) v2 h2 | .ct v2 h2 => forL g fb k.chk (k.its.drop (i + 1)) v2 h2 | .bk v2 h2 => .nx v2 h2 | o => o) Z2 m2 H2 K := p2
          cases qb : fb v3 h2 with
          | nx v4 h4 => rw [qb] at p2; exact fun Z' m' H' σ' a b c => ⟨hlt, Z', m', v4, h4, x2.trans (x3.trans a), b, c, PostS.from (x3.trans a) p2⟩
          | ct v4 h4 => rw [qb] at p2; exact fun Z' m' H' σ' a b c => ⟨hlt, Z', m', v4, h4, x2.trans (x3.trans a), b, c, PostS.from (x3.trans a) p2⟩
          | bk v4 h4 => rw [qb] at p2; exact fun Z' m' H' σ' a b c => p2 Z' m' H' σ' (x3.trans a) b c
          | rt d4 h4 => rw [qb] at p2; exact fun Z' m' H' σ' a b c => p2 Z' m' H' σ' (x3.trans a) b c
          | exc e4 v4 h4 => rw [qb] at p2; exact fun Z' m' H' σ' c od a b r => p2 Z' m' H' σ' c od (x3.trans a) b r
          | err => rw [qb] at p2; exact False.elim p2
      · have hi2 : i = k.its.length := by omega
        subst hi2
        rw [List.drop_length] at p2
        simp only [forL, hc2, if_true] at p2
        exact .inl ⟨o2 (Nat.le_refl _), p2 _ _ _ _ .refl s2 e2⟩
    · exfalso
      cases hd : k.its.drop i with
      | nil => rw [hd] at p2; simp only [forL, hc2] at p2; exact p2
      | cons d r => rw [hd] at p2; simp only [forL, hc2] at p2; exact p2
theorem ds_while {c : Expr} {body : List Stmt} {ft : TM} {fb : SM} (hp : PassesOwn (model X.prog X.w) X.A X.env X.xe) (hc : PT X c (denT C E ft)) (hb : PSs X body (denS C E fb)) : PS X (.While c body [] pos) (denS C E (sWh ft fb)) := by
  refine ps_imp (ps_while hp hc hb) fun K σ H ⟨Z, m, v, h, s, e, p⟩ => ?_
  refine ⟨fun n σ H => ∃ Z m v h, HSim C Z m h H ∧ EnvR C Z m v σ ∧ PostS C E (whL ft fb n v h) Z m H K, ⟨1000000, Z, m, v, h, s, e, p⟩, ?_⟩
  rintro n σ H ⟨Z, m, v, h, s, e, p⟩
  cases n with
  | zero => exact False.elim p
  | succ n =>
    refine ⟨Z, m, v, h, s, e, ?_⟩
    unfold whL at p
    cases q : ft v h with
    | exc x h1 => rw [q] at p; exact fun Z' m' H' c od a b r => p Z' m' H' σ c od a b (e.mono a) r
    | err => rw [q] at p; exact p
    | ok k h1 =>
      rw [q] at p
      intro Z1 m1 H1 b x1 s1 r
      cases (show b = k from r)
      cases k with
      | false => exact p Z1 m1 H1 σ x1 s1 (e.mono x1)
      | true =>
        refine ⟨fun σ' H' => ∃ Z m v h, HSim C Z m h H' ∧ EnvR C Z m v σ' ∧ PostS C E (whL ft fb n v h) Z m H' K, fun σ' H' z => ⟨n, Nat.lt_succ_self _, z⟩, ?_⟩
        refine ⟨Z1, m1, v, h1, s1, e.mono x1, ?_⟩
        have p : PostS C E (match fb v h1 with | .nx v2 h2 => whL ft fb n v2 h2 | .ct v2 h2 => whL ft fb n v2 h2 | .bk v2 h2 => .nx v2 h2 | o => o) Z m H K := p
        cases qb : fb v h1 with
        | nx v4 h4 => rw [qb] at p; exact fun Z' m' H' σ' a b c => ⟨Z', m', v4, h4, b, c, PostS.from (x1.trans a) p⟩
        | ct v4 h4 => rw [qb] at p; exact fun Z' m' H' σ' a b c => ⟨Z', m', v4, h4, b, c, PostS.from (x1.trans a) p⟩
        | bk v4 h4 => rw [qb] at p; exact fun Z' m' H' σ' a b c => p Z' m' H' σ' (x1.trans a) b c
        | rt d4 h4 => rw [qb] at p; exact fun Z' m' H' σ' a b c => p Z' m' H' σ' (x1.trans a) b c
        | exc e4 v4 h4 => rw [qb] at p; exact fun Z' m' H' σ' c od a b r => p Z' m' H' σ' c od (x1.trans a) b r
        | err => rw [qb] at p; exact False.elim p
end
end Dn

/-! DenE: comprehensions, what is walked, defs. -/
set_option Elab.async false
set_option linter.all false
set_option maxRecDepth 100000
set_option maxHeartbeats 4000000
namespace Dn
open PySem PySem.Spec PyProof.Rows L2

/-! ### a comprehension's slots -/
theorem wipe_get (σ : L2.St) : ∀ (vs : List Nat) (j : Nat), (wipe σ vs)[j]? = if j ∈ vs then (σ[j]?).map (fun _ => none) else σ[j]?
  | [], j => by simp [wipe]
  | v :: vs, j => by
    unfold wipe
    by_cases hj : v = j
    · subst hj
      rw [List.getElem?_set, if_pos rfl, wipe_length, if_pos List.mem_cons_self]
      by_cases hl : v < σ.length
      · rw [if_pos hl, List.getElem?_eq_getElem hl]; rfl
      · rw [if_neg hl, List.getElem?_eq_none (by omega)]; rfl
    · rw [List.getElem?_set_ne hj, wipe_get σ vs j]
      simp [List.mem_cons, Ne.symm hj]
theorem wipe_set {σ : L2.St} {vs : List Nat} {i : Nat} (x : Option V) (h : i ∈ vs) : wipe (σ.set i x) vs = wipe σ vs := by
  apply List.ext_getElem?
  intro j
  rw [wipe_get, wipe_get]
  by_cases hj : j ∈ vs
  · rw [if_pos hj, if_pos hj, List.getElem?_set]
    by_cases hi : i = j
    · subst hi
      rw [if_pos rfl]
      by_cases hl : i < σ.length
      · rw [if_pos hl, List.getElem?_eq_getElem hl]; rfl
      · rw [if_neg hl, List.getElem?_eq_none (by omega)]
    · rw [if_neg hi]
  · rw [if_neg hj, if_neg hj, List.getElem?_set_ne (fun z => hj (by rw [← z]; exact h))]
theorem wipe_wipe (σ : L2.St) (vs : List Nat) : wipe (wipe σ vs) vs = wipe σ vs := by
  apply List.ext_getElem?
  intro j
  rw [wipe_get, wipe_get]
  by_cases hj : j ∈ vs
  · rw [if_pos hj]
    simp only [hj, if_true, Option.map_map]
    rfl
  · rw [if_neg hj]
def fillS : List Nat → List V → L2.St → L2.St
  | i :: is, x :: xs, σ => fillS is xs (σ.set i (some x))
  | _, _, σ => σ
theorem wipe_fill {vs : List Nat} : ∀ (is : List Nat) (xs : List V) (σ : L2.St), (∀ i ∈ is, i ∈ vs) → wipe (fillS is xs σ) vs = wipe σ vs
  | [], _, _, _ => by unfold fillS; rfl
  | _ :: _, [], _, _ => by unfold fillS; rfl
  | i :: is, x :: xs, σ, h => by
    unfold fillS
    rw [wipe_fill is xs _ fun j hj => h j (List.mem_cons_of_mem _ hj), wipe_set _ (h i List.mem_cons_self)]
theorem EnvR.fill {C : Cn} {Z : Hp} {m : List Addr} : ∀ (is : List Nat) (ds : List D) (xs : List V) (v v1 : Ev) (σ : L2.St), EnvR C Z m v σ → RepL C Z m ds xs → fillAll is ds v = some v1 → EnvR C Z m v1 (fillS is xs σ) ∧ xs.length = is.length
  | [], _, _, v, v1, σ, e, .nil, h => by cases h; exact ⟨by unfold fillS; exact e, rfl⟩
  | [], _, _, _, _, _, _, .cons _ _, h => by cases h
  | i :: is, _, _, _, _, _, _, .nil, h => by cases h
  | i :: is, _, _, v, v1, σ, e, .cons a b, h => by
    have z := EnvR.fill is _ _ (v.set i _) v1 (σ.set i _) (e.set a i) b h
    exact ⟨by unfold fillS; exact z.1, by simp [z.2]⟩
def gNames : List Nat → TGs
  | [] => gNil
  | i :: is => gCons (gName i) (gNames is)
theorem gNames_fill : ∀ (is : List Nat) (xs : List V) (σ : L2.St) (H : Hp) (Q : L2.St → Hp → Prop), xs.length = is.length → Q (fillS is xs σ) H → gNames is xs σ H Q
  | [], [], σ, H, Q, _, q => ⟨rfl, by unfold fillS at q; exact q⟩
  | i :: is, x :: xs, σ, H, Q, h, q => ⟨x, xs, rfl, gNames_fill is xs _ H Q (by simpa using h) (by unfold fillS at q; exact q)⟩

/-- a comprehension's target: its reading's slots are known -/
structure LcG (C : Cn) (g : TgM) (t : TG) (own : List Nat) : Prop where
  ok : ∀ (Z : Hp) (m : List Addr) (d : D) (x : V) (v v1 : Ev) (h : Hm) (σ : L2.St) (H : Hp) (Q : L2.St → Hp → Prop), (∀ a o, Z a = some o → H a = some o) → Rep C Z m d x → EnvR C Z m v σ → g d v h = some v1 → (∀ σ1, EnvR C Z m v1 σ1 → wipe σ1 own = wipe σ own → Q σ1 H) → t x σ H Q
theorem lcg_name {C : Cn} {i : Nat} {own : List Nat} (hi : i ∈ own) : LcG C (gN i) (gName i) own := ⟨fun Z m d x v v1 h σ H Q _ r e q k => by
  cases q
  exact k _ (e.set r i) (wipe_set _ hi)⟩
theorem lcg_tup {C : Cn} {is own : List Nat} (hi : ∀ i ∈ is, i ∈ own) : LcG C (gT is) (gTup C.K is.length (gNames is)) own := ⟨fun Z m d x v v1 h σ H Q zs r e q k => by
  cases r with
  | @tup a vs l hq rl =>
    obtain ⟨e1, hl⟩ := EnvR.fill is l vs v v1 σ e rl q
    exact ⟨a, vs, rfl, .inl (.inl (zs _ _ hq)), hl, gNames_fill is vs σ H Q hl (k _ e1 (wipe_fill is vs σ hi))⟩
  | _ => cases q⟩

theorem HSim.side {C : Cn} {Z H : Hp} {m : List Addr} {h : Hm} (s : HSim C Z m h H) {p : Addr} (o : HO) (hm : p ∉ m) (hz : Z p = none) (hp : ∀ u, H p = some u → Plainly u) : HSim C Z m h (upd H p o) := by
  refine ⟨fun a u e => ?_, s.len, s.nd, s.off, fun n a u e1 e2 => ?_, tabs_put s.tab hp, s.noT⟩
  · rw [upd_ne (fun z => by subst z; rw [hz] at e; cases e)]; exact s.sub a u e
  · exact (s.obj n a u e1 e2).at (upd_ne fun z => hm (by subst z; exact List.mem_of_getElem? e1))
theorem Post.base {α β γ δ : Type} {C : Cn} {rep : Hp → List Addr → α → β → Prop} {rep1 : Hp → List Addr → γ → δ → Prop} {E : XK} {r : R γ} {k : γ → Hm → R α} {Z Zb : Hp} {m mb : List Addr} {H Hb : Hp} {Q : β → Hp → Prop} (h : Post C rep E (r.nx.bind k) Zb mb Hb Q) :
    Post C rep1 (fun _ _ _ => False) r Z m H fun v H1 => ∃ Z1 m1 d h1, Ext Z m H Z1 m1 H1 ∧ HSim C Z1 m1 h1 H1 ∧ rep1 Z1 m1 d v ∧ Post C rep E (k d h1) Zb mb Hb Q := by
  cases r with
  | ok d h' => exact fun Z' m' H' v a b c => ⟨Z', m', d, h', a, b, c, h⟩
  | exc e h' => exact False.elim h
  | err => exact h

theorem HSim.fin {C : Cn} {Z H : Hp} {m : List Addr} {h : Hm} (s : HSim C Z m h H) {p : Addr} {o : HO} (hm : p ∉ m) (hz : Z p = none) (hp : H p = some o) (ho : ∀ ps, o ≠ .tbl ps := by intro _ z; cases z) : HSim C (upd Z p o) m h H := by
  refine ⟨fun a u e => ?_, s.len, s.nd, fun n a u e1 e2 hd => ?_, fun n a u e1 e2 => ?_, s.tab, fun a ps e => ?_⟩
  · by_cases ha : a = p
    · subst ha; rw [upd_same] at e; rw [hp]; exact e
    · rw [upd_ne ha] at e; exact s.sub a u e
  · rw [upd_ne (fun z => hm (by subst z; exact List.mem_of_getElem? e1))]; exact s.off n a u e1 e2 hd
  · exact (s.obj n a u e1 e2).mono (fun b w e => by rw [upd_ne (fun z => by subst z; rw [hz] at e; cases e)]; exact e) (List.prefix_refl _)
  · by_cases ha : a = p
    · subst ha; rw [upd_same] at e; exact ho ps (Option.some.inj e)
    · rw [upd_ne ha] at e; exact s.noT a ps e
theorem Ext.side {Z H Z' H' : Hp} {m m' : List Addr} (x : Ext Z m H Z' m' H') {p : Addr} (o : HO) (hp : H p = none) : Ext Z m H Z' m' (upd H' p o) :=
  ⟨x.sub, x.pre, fun a u e hm nt => by rw [upd_ne (fun z => by subst z; rw [hp] at e; cases e)]; exact x.keep a u e hm nt, x.newM, x.newZ⟩
theorem Ext.fin {Z H Z' H' : Hp} {m m' : List Addr} (x : Ext Z m H Z' m' H') {p : Addr} (o : HO) (hp : H p = none) (hz : Z' p = none) : Ext Z m H (upd Z' p o) m' H' := by
  refine ⟨fun a u e => ?_, x.pre, x.keep, x.newM, fun a e => ?_⟩
  · have := x.sub a u e
    rw [upd_ne (fun z => by subst z; rw [hz] at this; cases this)]; exact this
  · by_cases ha : a = p
    · subst ha; exact .inr (.inr (fr_none hp))
    · rw [upd_ne ha] at e; exact x.newZ a e

section
variable {X : Cx} {C : Cn} {E : WX} {pos : Pos}
/-- nothing is let out -/
abbrev EF : WX := fun _ _ _ _ => False
theorem tLc_den {wi : TI} {t : TG} {tt : TT} {te : TE} {own : List Nat} {g : TgM} {w : Ev → Hm → R Wk} {ft : TM} {fe : EM} (hw : ∀ σ H Q, denW C E w σ H Q → wi σ H Q) (hg : LcG C g t own) (ht : ∀ σ H Q, denT C EF ft σ H Q → tt σ H Q) (he : ∀ σ H Q, denE C EF fe σ H Q → te σ H Q)
    {σ : L2.St} {H : Hp} {Q : VK} (hq : denE C E (eLc own g w ft fe) σ H Q) : tLc wi t tt te own σ H Q := by
  obtain ⟨Z, m, v, h, s, e, p⟩ := hq
  refine hw _ _ _ ⟨Z, m, v, h, s, e, ?_⟩
  unfold eLc at p
  cases q : w v h with
  | exc x h1 => rw [q] at p; exact p
  | err => rw [q] at p; exact p
  | ok k h1 =>
    rw [q] at p
    have p : Post C (Rep C) (fun c d H' => E c d σ H') (if k.its.length ≤ 16777215 then (lcL g ft fe k.chk (wipeE v own) k.its h1).bind fun ys h2 => .ok (.lst ys) h2 else .err) Z m H Q := p
    intro Zb mb Hb J xb sb ok q0 hD
    have p := Post.from xb p
    split at p
    case isFalse => exact False.elim p
    rename_i hsz
    have hDm := sb.nm hD
    have hDz := sb.nz hD
    refine ⟨fun i n H2 => n = k.its.length - i ∧ i ≤ k.its.length ∧ ∃ Z2 m2 h2 acc vs, Ext Zb mb Hb Z2 m2 H2 ∧ HSim C Z2 m2 h2 H2 ∧ H2 q0 = some (.lst vs) ∧ RepL C Z2 m2 acc vs ∧ q0 ∉ m2 ∧ Z2 q0 = none ∧ acc.length ≤ i ∧
      Post C (Rep C) (fun c d H' => E c d σ H') ((lcL g ft fe k.chk (wipeE v own) (k.its.drop i) h2).bind fun ys h3 => .ok (.lst (acc ++ ys)) h3) Zb mb Hb Q,
      ⟨_, rfl, Nat.zero_le _, Zb, mb, h1, [], [], ⟨fun _ _ z => z, List.prefix_refl _, fun a o z _ _ => by rw [upd_ne (fun y => by subst y; rw [hD] at z; cases z)]; exact z, fun _ z => .inl z, fun _ z => .inl z⟩, sb.side _ hDm hDz (fun u z => by rw [hD] at z; cases z), upd_same, .nil, hDm, hDz, Nat.le_refl _, p⟩, ?_⟩
    rintro i n H2 ⟨rfl, hi, Z2, m2, h2, acc, vs, x2, s2, hv, ra, d1, d2, hal, p2⟩
    have hck : k.chk h2 = true := by
      cases hc : k.chk h2 with
      | true => rfl
      | false =>
        exfalso
        cases hd : k.its.drop i with
        | nil => rw [hd] at p2; simp only [lcL, hc] at p2; exact p2
        | cons d r => rw [hd] at p2; simp only [lcL, hc] at p2; exact p2
    obtain ⟨o1, o2⟩ := ok i Z2 m2 h2 H2 x2.sub x2.pre s2 hck
    by_cases hlt : i < k.its.length
    · obtain ⟨go, y⟩ := o1 hlt
      refine .inr ⟨go, fun H' => i + 1 ≤ k.its.length ∧ ∃ Z2 m2 h2 acc vs, Ext Zb mb Hb Z2 m2 H' ∧ HSim C Z2 m2 h2 H' ∧ H' q0 = some (.lst vs) ∧ RepL C Z2 m2 acc vs ∧ q0 ∉ m2 ∧ Z2 q0 = none ∧ acc.length ≤ i + 1 ∧
        Post C (Rep C) (fun c d H' => E c d σ H') ((lcL g ft fe k.chk (wipeE v own) (k.its.drop (i + 1)) h2).bind fun ys h3 => .ok (.lst (acc ++ ys)) h3) Zb mb Hb Q,
        fun H' z => ⟨_, by omega, rfl, z⟩, fun x H3 yy => ?_⟩
      obtain ⟨d, Z3, hd, x3, s3, r3⟩ := y x H3 yy
      have hdrop : k.its.drop i = d :: k.its.drop (i + 1) := by
        obtain ⟨hl, he⟩ := List.getElem?_eq_some_iff.mp hd
        rw [List.drop_eq_getElem_cons hl, he]
      rw [hdrop] at p2
      simp only [lcL, hck, if_true] at p2
      -- q0 is beside all that goes on
      have side : ∀ {Z' : Hp} {m' : List Addr} {H' : Hp}, Ext Z2 m2 H2 Z' m' H' → q0 ∉ m' ∧ Z' q0 = none ∧ H' q0 = some (.lst vs) := fun {Z' m' H'} x => by
        refine ⟨fun z => ?_, ?_, x.keep q0 _ hv d1 (fun _ z => by cases z)⟩
        · rcases x.newM q0 z with a | a
          · exact d1 a
          · exact fr_lst a hv
        · cases q : Z' q0 with
          | none => rfl
          | some u =>
            rcases x.newZ q0 (by rw [q]; simp) with a | a | a
            · exact absurd d2 a
            · exact absurd a d1
            · exact (fr_lst a hv).elim
      cases qg : g d (wipeE v own) h2 with
      | none => rw [qg] at p2; exact False.elim p2
      | some v1 =>
        rw [qg] at p2
        have e0 : EnvR C Z3 m2 (wipeE v own) (wipe σ own) := (((e.mono xb).mono x2).mono x3).wipe own
        refine hg.ok Z3 m2 d x _ v1 h2 _ H3 _ s3.sub r3 e0 qg fun σ1 e1 hw1 => ⟨by rw [hw1, wipe_wipe], ?_⟩
        have p3 : Post C (Rep C) (fun c d H' => E c d σ H') ((ft v1 h2).nx.bind fun c h1 => (if c then (fe v1 h1).nx.bind fun y h2 => (lcL g ft fe k.chk (wipeE v own) (k.its.drop (i + 1)) h2).bind fun ys h3 => .ok (y :: ys) h3 else lcL g ft fe k.chk (wipeE v own) (k.its.drop (i + 1)) h1).bind fun ys h3 => .ok (.lst (acc ++ ys)) h3) Zb mb Hb Q := by
          have : (((ft v1 h2).nx.bind fun c h1 => if c then (fe v1 h1).nx.bind fun y h2 => (lcL g ft fe k.chk (wipeE v own) (k.its.drop (i + 1)) h2).bind fun ys h3 => R.ok (y :: ys) h3 else lcL g ft fe k.chk (wipeE v own) (k.its.drop (i + 1)) h1).bind fun ys h3 => R.ok (Dn.D.lst (acc ++ ys)) h3) = ((ft v1 h2).nx.bind fun c h1 => (if c then (fe v1 h1).nx.bind fun y h2 => (lcL g ft fe k.chk (wipeE v own) (k.its.drop (i + 1)) h2).bind fun ys h3 => R.ok (y :: ys) h3 else lcL g ft fe k.chk (wipeE v own) (k.its.drop (i + 1)) h1).bind fun ys h3 => .ok (.lst (acc ++ ys)) h3) := by
            cases ft v1 h2 <;> rfl
          rw [← this]; exact p2
        refine ht _ _ _ ⟨Z3, m2, v1, h2, s3, e1, (Post.base (rep1 := RB) p3).imp fun b H4 ⟨Z4, m4, b', h4, x4, s4, r4, p4⟩ => ?_⟩
        cases (show b = b' from r4)
        cases b with
        | false =>
          obtain ⟨t1, t2, t3⟩ := side (x3.trans x4)
          exact ⟨hlt, Z4, m4, h4, acc, vs, x2.trans (x3.trans x4), s4, t3, ra.mono (x3.trans x4).sub (x3.trans x4).pre, t1, t2, by omega, p4⟩
        | true =>
          have p5 : Post C (Rep C) (fun c d H' => E c d σ H') ((fe v1 h4).nx.bind fun y h2 => (lcL g ft fe k.chk (wipeE v own) (k.its.drop (i + 1)) h2).bind fun ys h3 => .ok (.lst ((acc ++ [y]) ++ ys)) h3) Zb mb Hb Q := by
            have : (((fe v1 h4).nx.bind fun y h2 => (lcL g ft fe k.chk (wipeE v own) (k.its.drop (i + 1)) h2).bind fun ys h3 => R.ok (y :: ys) h3).bind fun ys h3 => R.ok (Dn.D.lst (acc ++ ys)) h3) = ((fe v1 h4).nx.bind fun y h2 => (lcL g ft fe k.chk (wipeE v own) (k.its.drop (i + 1)) h2).bind fun ys h3 => .ok (.lst ((acc ++ [y]) ++ ys)) h3) := by
              cases fe v1 h4 with
              | ok y h5 =>
                simp only [nx_ok, bind_ok]
                cases lcL g ft fe k.chk (wipeE v own) (k.its.drop (i + 1)) h5 <;> simp [R.bind, List.append_assoc]
              | exc _ _ => rfl
              | err => rfl
            rw [← this]; exact p4
          refine he _ _ _ ⟨Z4, m4, v1, h4, s4, e1.mono x4, (Post.base (rep1 := Rep C) p5).imp fun y H5 ⟨Z5, m5, y', h5, x5, s5, r5, p6⟩ => ?_⟩
          obtain ⟨t1, t2, t3⟩ := side (x3.trans (x4.trans x5))
          have hlen := ra.length
          refine ⟨vs, t3, by rw [sizeLine_eq]; omega, hlt, Z5, m5, h5, acc ++ [y'], vs ++ [y], (x2.trans (x3.trans (x4.trans x5))).side _ hD, s5.side _ t1 t2 (fun u z => by rw [t3] at z; cases z; exact ⟨(fun _ z => by cases z), fun _ z => by cases z⟩), upd_same, (ra.mono (x3.trans (x4.trans x5)).sub (x3.trans (x4.trans x5)).pre).append (.one r5), t1, t2, by simp; omega, p6⟩
    · have hi2 : i = k.its.length := by omega
      subst hi2
      rw [List.drop_length] at p2
      simp only [lcL, hck, if_true, bind_ok, List.append_nil] at p2
      refine .inl ⟨o2 (Nat.le_refl _), p2 (upd Z2 q0 (.lst vs)) m2 H2 _ (x2.fin _ hD d2) (s2.fin d1 d2 hv) (.lst upd_same (ra.mono (fun a o z => ?_) (List.prefix_refl _)))⟩
      rw [upd_ne (fun y => by subst y; rw [d2] at z; cases z)]; exact z
end
end Dn

/-! DenF: comprehensions as expressions, what is walked, defs. -/
set_option Elab.async false
set_option linter.all false
set_option maxRecDepth 100000
set_option maxHeartbeats 4000000
namespace Dn
open PySem PySem.Spec PyProof.Rows L2
section
variable {X : Cx} {C : Cn} {E : WX} {pos : Pos}
theorem pts_imp {e : List Expr} {t t' : TT} (h : PTs X e t) (hi : ∀ σ H Q, t' σ H Q → t σ H Q) : PTs X e t' := ⟨fun pins s σ H Q I q => h.run pins s σ H Q I (hi _ _ _ q)⟩
theorem dts_nil : PTs X [] (denT C E Dn.tYes) := pts_imp pts_nil fun _ _ _ ⟨_, _, _, _, s, _, p⟩ => p _ _ _ _ .refl s rfl
theorem dts_one {c : Expr} {fc : TM} (h : PT X c (denT C E fc)) : PTs X [c] (denT C E fc) := pts_one h
variable {elt tg iter : Expr} {ifs : List Expr} {scope : Scope} {own : List (Str × Nat)} {g : TgM} {t : TG} {w : Ev → Hm → R Wk} {ft : TM} {fe : EM}
theorem de_lc (hc : X.calm = true) (hN : X.N.Nodup) (ok : BlkOk X.N X.env.scope scope own) (hi : PI X tg iter (denW C E w)) (hl : LcG C g t (own.map (·.2)))
    (hg : ∀ (s : Shared) (H : Hp) (Ca : Addr) (cl : List (Str × Addr)) (fp : List Addr), PG (X.blk s H scope (compEnvC scope cl Ca X.env) fp) tg t) (ht : ∀ (s : Shared) (H : Hp) (Ca : Addr) (cl : List (Str × Addr)) (fp : List Addr), PTs (X.blk s H scope (compEnvC scope cl Ca X.env) fp) ifs (denT C EF ft))
    (he : ∀ (s : Shared) (H : Hp) (Ca : Addr) (cl : List (Str × Addr)) (fp : List Addr), PE (X.blk s H scope (compEnvC scope cl Ca X.env) fp) elt (denE C EF fe)) (hs : ∀ x, foldedSetIterable iter X.env x = pure x := by intro _; rfl) :
    PE X (.ListComp elt [⟨tg, iter, ifs, 0⟩] scope pos) (denE C E (eLc (own.map (·.2)) g w ft fe)) :=
  pe_imp (pe_lc hc hN hi ok hg ht he hs) fun σ H Q q => tLc_den (fun _ _ _ z => z) hl (fun _ _ _ z => z) (fun _ _ _ z => z) q
/-- x = [.. for ..] on one line -/
theorem ds_setLc {i : Nat} {y : Str} {py spos : Pos} (hc : X.calm = true) (hN : X.N.Nodup) (hy : X.N[i]? = some y) (hyl : X.env.scope.names.lookup y = some .local)
    (hsw : swapsWith (.ListComp elt [⟨tg, iter, ifs, 0⟩] scope pos) (some (.Name y py)) spos.line X.env = pure true) (ok : BlkOk X.N X.env.scope scope own) (hi : PI X tg iter (denW C E w)) (hl : LcG C g t (own.map (·.2)))
    (hg : ∀ (s : Shared) (H : Hp) (Ca : Addr) (cl : List (Str × Addr)) (fp : List Addr), PG (X.blk s H scope (compEnvC scope cl Ca X.env) fp) tg t) (ht : ∀ (s : Shared) (H : Hp) (Ca : Addr) (cl : List (Str × Addr)) (fp : List Addr), PTs (X.blk s H scope (compEnvC scope cl Ca X.env) fp) ifs (denT C EF ft))
    (he : ∀ (s : Shared) (H : Hp) (Ca : Addr) (cl : List (Str × Addr)) (fp : List Addr), PE (X.blk s H scope (compEnvC scope cl Ca X.env) fp) elt (denE C EF fe)) (hs : ∀ x, foldedSetIterable iter X.env x = pure x := by intro _; rfl) :
    PS X (.Assign [.Name y py] (.ListComp elt [⟨tg, iter, ifs, 0⟩] scope pos) spos) (denS C E (sAsg (gN i) (eLc (own.map (·.2)) g w ft fe))) := by
  refine ps_imp (ps_setLc hc hN hy hyl hsw hi ok hg ht he hs) fun K σ H ⟨Z, m, v, h, s, e, p⟩ => ?_
  refine tLc_den (E := E) (fun _ _ _ z => z) hl (fun _ _ _ z => z) (fun _ _ _ z => z) ⟨Z, m, v, h, s, e, (Post.stm (k := fun d h1 => match gN i d v h1 with | some v1 => .nx v1 h1 | none => .err) e p).imp fun x H1 ⟨Z1, m1, d, h1, x1, s1, r1, p1⟩ => ?_⟩
  exact p1 _ _ _ _ .refl s1 ((e.mono x1).set r1 i)

/-! ### what is walked -/
theorem wk_list {Z H : Hp} {m : List Addr} {a : Addr} {vs : List V} {l : List D} (hK : C.K = X.K) (hq : SqL C.K Z a vs) (r : RepL C Z m l vs) : WkOk C (Itl X.K a) ⟨l, fun _ => true⟩ Z m := by
  intro i Z' m' h H hz hm s _
  have q : SqL X.K H a vs := hK ▸ sqL_mono s.sub (sqL_mono hz hq)
  have r' := r.mono hz hm
  have hl := r.length
  refine ⟨fun hi => ⟨⟨vs, vs[i]'(by rw [← hl]; exact hi), q, List.getElem?_eq_getElem _⟩, fun x H' y => ?_⟩, fun hi => ⟨vs, q, by rw [← hl]; exact hi⟩⟩
  obtain ⟨rfl, y⟩ := y
  obtain ⟨d, e, rd⟩ := r'.getV (y vs q)
  exact ⟨d, Z', e, .refl, s, rd⟩
theorem wk_tup {Z H : Hp} {m : List Addr} {a : Addr} {vs : List V} {l : List D} (hK : C.K = X.K) (hq : SqT C.K Z a vs) (r : RepL C Z m l vs) : WkOk C (Itt X.K a) ⟨l, fun _ => true⟩ Z m := by
  intro i Z' m' h H hz hm s _
  have q : SqT X.K H a vs := hK ▸ sqT_mono s.sub (sqT_mono hz hq)
  have r' := r.mono hz hm
  have hl := r.length
  refine ⟨fun hi => ⟨⟨vs, vs[i]'(by rw [← hl]; exact hi), q, List.getElem?_eq_getElem _⟩, fun x H' y => ?_⟩, fun hi => ⟨vs, q, by rw [← hl]; exact hi⟩⟩
  obtain ⟨rfl, y⟩ := y
  obtain ⟨d, e, rd⟩ := r'.getV (y vs q)
  exact ⟨d, Z', e, .refl, s, rd⟩
theorem wk_ref {Z H : Hp} {m : List Addr} {n : Nat} {a : Addr} {l : List D} (e : m[n]? = some a) : WkOk C (Itl X.K a) ⟨l, fun h' => match h'[n]? with | some o => HD.beq o (.lst l) | none => false⟩ Z m := by
  intro i Z' m' h H hz hm s hc
  have hh : h[n]? = some (.lst l) := by
    cases q : h[n]? with
    | none => simp [q] at hc
    | some o => simp [q] at hc; rw [HD.beq_eq _ _ hc]
  obtain ⟨vs, hv, r⟩ := s.obj n a _ (pre_get hm e) hh
  have q : SqL X.K H a vs := .inl (.inl hv)
  have hl := r.length
  refine ⟨fun hi => ⟨⟨vs, vs[i]'(by rw [← hl]; exact hi), q, List.getElem?_eq_getElem _⟩, fun x H' y => ?_⟩, fun hi => ⟨vs, q, by rw [← hl]; exact hi⟩⟩
  obtain ⟨rfl, y⟩ := y
  obtain ⟨d, e, rd⟩ := r.getV (y vs q)
  exact ⟨d, Z', e, .refl, s, rd⟩
theorem wk_str {Z : Hp} {m : List Addr} {x : Str} : WkOk C (Its x) ⟨x.cps.toList.map fun c => .str ⟨#[c]⟩, fun _ => true⟩ Z m := by
  intro i Z' m' h H hz hm s _
  refine ⟨fun hi => ⟨(show i < x.cps.size by simpa using hi), fun y H' ⟨rfl, c, hc, e⟩ => ⟨.str ⟨#[c]⟩, Z', ?_, .refl, s, by rw [e]; exact .str _⟩⟩, fun hi => (show x.cps.size ≤ i by simpa using hi)⟩
  simp [hc]
theorem wk_range {Z : Hp} {m : List Addr} {lo : Int} {n : Nat} : WkOk C (Itr lo n) ⟨(List.range n).map fun (i : Nat) => .int (lo + (i : Int)), fun _ => true⟩ Z m := by
  intro i Z' m' h H hz hm s _
  refine ⟨fun hi => ⟨(show i < n by simpa using hi), fun y H' ⟨e1, e⟩ => ?_⟩, fun hi => (show n ≤ i by simpa using hi)⟩
  subst e1
  refine ⟨.int (lo + i), Z', ?_, .refl, s, by rw [e]; exact .int _⟩
  have : i < n := by simpa using hi
  simp [this]
/-- over a list, a tuple, a text -/
theorem di_e {a : Expr} {fa : EM} (hK : C.K = X.K) (ha : PE X a (denE C E fa)) : PI X tg a (denW C E (wE fa)) := by
  refine ⟨fun pins s0 σ H R I q => ?_⟩
  obtain ⟨Z, m, v, h, s, e, p⟩ := q
  unfold wE at p
  cases qa : fa v h with
  | err => rw [qa] at p; exact False.elim p
  | exc x h1 =>
    rw [qa] at p
    refine (pi_list ha).run pins s0 σ H R I ⟨Z, m, v, h, s, e, ?_⟩
    rw [qa]; exact p
  | ok d h1 =>
    rw [qa] at p
    simp only [bind_ok] at p
    cases d with
    | lst l =>
      refine (pi_list ha).run pins s0 σ H R I ⟨Z, m, v, h, s, e, ?_⟩
      rw [qa]
      intro Z' m' H' u x s' r
      cases r with
      | lst hq rl => exact ⟨_, rfl, ⟨_, .inl (.inl (s'.sub _ _ hq))⟩, p Z' m' H' _ x s' (wk_list (H := H') hK (.inl (.inl hq)) rl)⟩
    | tup l =>
      refine (pi_tup ha).run pins s0 σ H R I ⟨Z, m, v, h, s, e, ?_⟩
      rw [qa]
      intro Z' m' H' u x s' r
      cases r with
      | tup hq rl => exact ⟨_, rfl, ⟨_, .inl (.inl (s'.sub _ _ hq))⟩, p Z' m' H' _ x s' (wk_tup (H := H') hK (.inl (.inl hq)) rl)⟩
    | str y =>
      refine (pi_str ha).run pins s0 σ H R I ⟨Z, m, v, h, s, e, ?_⟩
      rw [qa]
      intro Z' m' H' u x s' r
      cases r with
      | str y => exact ⟨_, rfl, p Z' m' H' _ x s' wk_str⟩
    | ref n =>
      refine (pi_list ha).run pins s0 σ H R I ⟨Z, m, v, h, s, e, ?_⟩
      rw [qa]
      intro Z' m' H' u x s' r
      cases r with
      | ref en =>
        simp only [wkOf] at p
        split at p
        · rename_i l hl
          split at hl
          · rename_i l' hl'
            cases hl
            obtain ⟨vs, hv, rl⟩ := s'.obj n _ _ en hl'
            exact ⟨_, rfl, ⟨_, .inl (.inl hv)⟩, p Z' m' H' _ x s' (wk_ref (H := H') en)⟩
          · cases hl
        · rename_i hl; split at hl <;> cases hl
        · exact False.elim p
    | _ => exact False.elim p
theorem di_r1 {a : Expr} {fa : EM} {p pos : Pos} (hg : Gl X "range") (hm : X.mg "range" = none) (ha : PE X a (denE C E fa)) (hs : starEach [a] X.env = [(false, eval a X.env)] := by rfl) : PI X tg (.Call (.Name "range" p) [a] [] pos) (denW C E (wR1 fa)) := by
  refine ⟨fun pins s0 σ H R I q => (pi_range1 hg hm (pa_cons ha pa_nil hs) hs).run pins s0 σ H R I ?_⟩
  obtain ⟨Z, m, v, h, s, e, p⟩ := q
  refine ⟨Z, m, v, h, s, e, ?_⟩
  unfold wR1 at p
  cases qa : fa v h with
  | err => rw [qa] at p; exact False.elim p
  | exc x h1 => rw [qa] at p; exact p
  | ok d h1 =>
    rw [qa] at p
    intro Z' m' H' u x s' r
    simp only [bind_ok] at p
    cases r with
    | int n =>
      simp only [wRange] at p
      split at p
      · rename_i k h2 hb
        split at hb
        · rename_i hc
          cases hb
          refine ⟨n, rfl, hc.2.2.2, hc.2.2.1, p Z' m' H' _ x s' ?_⟩
          have := wk_range (C := C) (Z := Z') (m := m') (lo := 0) (n := n.toNat)
          simpa using this
        · cases hb
      · rename_i hb; split at hb <;> cases hb
      · exact False.elim p
    | _ => exact False.elim p
theorem di_r2 {a b : Expr} {fa fb : EM} {p pos : Pos} (hg : Gl X "range") (hm : X.mg "range" = none) (ha : PE X a (denE C E fa)) (hb : PE X b (denE C E fb)) (hs : starEach [a, b] X.env = [(false, eval a X.env), (false, eval b X.env)] := by rfl) (hs2 : starEach [b] X.env = [(false, eval b X.env)] := by rfl) :
    PI X tg (.Call (.Name "range" p) [a, b] [] pos) (denW C E (wR2 fa fb)) := by
  refine ⟨fun pins s0 σ H R I q => (pi_range2 hg hm (pa_cons ha (pa_cons hb pa_nil hs2) (by rw [hs, hs2])) hs hs2).run pins s0 σ H R I ?_⟩
  obtain ⟨Z, m, v, h, s, e, p⟩ := q
  refine ⟨Z, m, v, h, s, e, ?_⟩
  unfold wR2 at p
  cases qa : fa v h with
  | err => rw [qa] at p; exact False.elim p
  | exc x h1 => rw [qa] at p; exact p
  | ok d h1 =>
    rw [qa] at p
    intro Z' m' H' u x s' r
    simp only [bind_ok] at p
    refine ⟨Z', m', v, h1, s', e.mono x, ?_⟩
    cases qb : fb v h1 with
    | err => rw [qb] at p; exact False.elim p
    | exc y h2 => rw [qb] at p; exact fun Z2 m2 H2 c od x2 s2 r2 => p Z2 m2 H2 c od (x.trans x2) s2 r2
    | ok d2 h2 =>
      rw [qb] at p
      simp only [bind_ok] at p
      intro Z2 m2 H2 u2 x2 s2 r2
      cases r with
      | int n =>
        cases r2 with
        | int n2 =>
          simp only [wRange] at p
          split at p
          · rename_i k h2 hb
            split at hb
            · rename_i hc
              cases hb
              refine ⟨n, n2, rfl, ⟨hc.2.1, hc.1, hc.2.2.2, hc.2.2.1⟩, p Z2 m2 H2 _ (x.trans x2) s2 wk_range⟩
            · cases hb
          · rename_i hb; split at hb <;> cases hb
          · exact False.elim p
        | _ => exact False.elim p
      | _ => cases r2 <;> exact False.elim p

/-! ### a list laid down for good -/
theorem de_fz {a : Expr} {fa : EM} (ha : PE X a (denE C E fa)) : PE X a (denE C E (eU fz fa)) := by
  refine pe_imp ha fun σ H Q ⟨Z, m, v, h, s, e, p⟩ => ?_
  refine ⟨Z, m, v, h, s, e, (p.bind (rep1 := Rep C)).imp fun x H1 ⟨Z1, m1, d, h1, x1, s1, r1, p1⟩ => ?_⟩
  cases r1 with
  | @ref n a en =>
    unfold fz at p1
    cases q : h1[n]? with
    | none => simp [q] at p1; exact False.elim p1
    | some o =>
      cases o with
      | lst l =>
        simp [q] at p1
        obtain ⟨vs, hv, rl⟩ := s1.obj n a _ en q
        have xz := Ext.freeze s1 (.lst vs) en q
        exact p1 _ _ _ _ xz (s1.freeze en q hv) (.lst upd_same (rl.mono xz.sub (List.prefix_refl _)))
      | _ => simp [q] at p1; exact False.elim p1
  | non => exact p1 _ _ _ _ .refl s1 .non
  | bl b => exact p1 _ _ _ _ .refl s1 (.bl _)
  | int b => exact p1 _ _ _ _ .refl s1 (.int _)
  | str b => exact p1 _ _ _ _ .refl s1 (.str _)
  | tup a b => exact p1 _ _ _ _ .refl s1 (.tup a b)
  | lst a b => exact p1 _ _ _ _ .refl s1 (.lst a b)
  | scr a => exact p1 _ _ _ _ .refl s1 (.scr a)
  | exn0 a b => exact p1 _ _ _ _ .refl s1 (.exn0 a b)
  | exn1 a b c d => exact p1 _ _ _ _ .refl s1 (.exn1 a b c d)
end

/-! ### defs -/
section
variable {P : Program} {w : World} {K : PySem.W.Frag} {mg : Str → Option Value} {base : Heap} {C : Cn}
theorem spD_len {f : FM} {np : Nat} (hf : ∀ ds h, ds.length ≠ np → f ds h = .err) : ∀ vs H Q E, spD C f vs H Q E → vs.length = np := fun vs H Q E ⟨Z, m, h, ds, s, r, p⟩ => by
  by_cases hl : ds.length = np
  · rw [← hl, r.length]
  · rw [hf ds h hl] at p; exact False.elim p
theorem fn_end {E : WX} {Ex : XK} {N : List Str} {b : SM} {ds : List D} {vs : List V} {Z : Hp} {m : List Addr} {h : Hm} {H : Hp} {Q : VK} (s : HSim C Z m h H) (r : RepL C Z m ds vs) {np : Nat} (hE : ∀ c d σ H, Ex c d H → E c d σ H) (p : Post C (Rep C) Ex (fn np N.length b ds h) Z m H Q) :
    denS C E b { nx := fun _ H' => Q .non H', rt := Q } (start N vs) H := by
  unfold fn at p
  split at p
  · rename_i hl
    refine ⟨Z, m, _, h, s, EnvR.start r hl, ?_⟩
    generalize b (ds.map some ++ List.replicate (N.length - np) none) h = o at p ⊢
    cases o with
    | nx v1 h1 => exact fun Z' m' H' σ a b c => p Z' m' H' _ a b .non
    | rt d h1 => exact fun Z' m' H' u a b c => p Z' m' H' _ a b c
    | exc e v1 h1 => exact fun Z' m' H' σ c od a b _ r => hE _ _ _ _ (p Z' m' H' c od a b r)
    | _ => exact False.elim p
  · exact False.elim p
/-- a def that raises nothing -/
theorem fn_ok0 {x qual : Str} {st : Stmt} {f : Addr} {fd : FuncData} {N ps : List Str} {k : Nat} {b : SM} (F : Fun K x qual st f fd) (S : FnScope N ps (defScope st))
    (hbody : ∀ (cdv : Value) (A : Around) (outer : List Env) (s : Shared) (H : Hp) (E : XK), Room k (A.deeper (envOfC qual (defScope st) s.heap.objs.size f cdv)) → PSs (cxOf CX0 P w K mg base N qual (defScope st) f cdv A outer s H E).nox (defBody st) (denS C EF b)) :
    FnOk P w K mg base CX0 (k + 1) f fd ps (spD C (fn0 ps.length N.length b)) := by
  refine F.ok S (spD_len fun ds h hl => by unfold fn0 fn; rw [if_neg hl]; rfl) fun cdv A outer s H vs Q E hr hsp => ⟨_, hbody cdv A outer s H E hr, ?_⟩
  obtain ⟨Z, m, h, ds, s1, r, p⟩ := hsp
  refine fn_end (Ex := fun _ _ _ => False) (np := ps.length) s1 r (fun _ _ _ _ z => z) ?_
  unfold fn0 at p
  cases q : fn ps.length N.length b ds h with
  | ok d h1 => rw [q] at p; exact p
  | exc e h1 => rw [q] at p; exact False.elim p
  | err => rw [q] at p; exact p
theorem trOk_len : ∀ (h h1 : Hm) (n : Nat), trOk h h1 n = true → h.length ≤ h1.length
  | [], _, _, _ => Nat.zero_le _
  | _ :: _, [], _, e => by simp [trOk] at e
  | o :: r, p :: s, n, e => by
    simp only [trOk, Bool.and_eq_true] at e
    have := trOk_len r s n e.2
    simp; omega
theorem trOk_get : ∀ (h h1 : Hm) (n i : Nat) (o p : HD), trOk h h1 n = true → h[i]? = some o → h1[i]? = some p → p = o ∨ HD.cl n p = true
  | [], _, _, _, _, _, _, e, _ => by simp at e
  | _ :: _, [], _, _, _, _, _, _, e => by simp at e
  | a :: r, b :: s, n, 0, o, p, e, e1, e2 => by
    simp only [trOk, Bool.and_eq_true, Bool.or_eq_true] at e
    simp at e1 e2; subst e1; subst e2
    rcases e.1 with q | q
    · exact .inl (HD.beq_eq _ _ q).symm
    · exact .inr q
  | a :: r, b :: s, n, i + 1, o, p, e, e1, e2 => by
    simp only [trOk, Bool.and_eq_true] at e
    exact trOk_get r s n i o p e.2 (by simpa using e1) (by simpa using e2)
theorem tr_sim {Z Z' H H' : Hp} {m m' : List Addr} {h h1 : Hm} (s : HSim C Z m h H) (x : Ext Z m H Z' m' H') (s' : HSim C Z' m' h1 H') (ht : trOk h h1 h.length = true) : Ext Z m H Z' m H' ∧ HSim C Z' m (h1.take h.length) H' ∧ m'.take h.length = m := by
  have hm : m'.take h.length = m := by
    obtain ⟨t, rfl⟩ := x.pre
    rw [← s.len]; simp
  have hl := trOk_len _ _ _ ht
  refine ⟨⟨x.sub, List.prefix_refl _, x.keep, fun a e => .inl e, x.newZ⟩, ⟨s'.sub, by simp [s.len, Nat.min_eq_left hl], s.nd, fun n a o e1 e2 hd => ?_, fun n a o e1 e2 => ?_, s'.tab, s'.noT⟩, hm⟩
  · have hn : n < h.length := by rw [← s.len]; exact (List.getElem?_eq_some_iff.mp e1).1
    rw [List.getElem?_take_of_lt hn] at e2
    exact s'.off n a o (pre_get x.pre e1) e2 hd
  · have hn : n < h.length := by rw [← s.len]; exact (List.getElem?_eq_some_iff.mp e1).1
    rw [List.getElem?_take_of_lt hn] at e2
    have z := s'.obj n a o (pre_get x.pre e1) e2
    have hc : HD.cl h.length o = true := by
      rcases trOk_get _ _ _ n _ _ ht (List.getElem?_eq_getElem hn) e2 with q | q
      · have := (s.obj n a _ e1 (List.getElem?_eq_getElem hn)).cl
        rw [s.len] at this
        rw [q]; exact this
      · exact q
    have := z.cut hc
    rwa [hm] at this
theorem fn_tr {CX : CXT} {k : Nat} {f : Addr} {fd : FuncData} {ps : List Str} {fm : FM} (F : FnOk P w K mg base CX k f fd ps (spD C fm)) : FnOk P w K mg base CX k f fd ps (spD C (tr fm)) := by
  refine F.imp fun vs H Q E ⟨Z, m, h, ds, s, r, p⟩ => ⟨Z, m, h, ds, s, r, ?_⟩
  unfold tr at p
  cases q : fm ds h with
  | err => rw [q] at p; exact False.elim p
  | ok d h1 =>
    rw [q] at p
    simp only at p
    split at p
    · rename_i hc
      simp only [Bool.and_eq_true] at hc
      intro Z' m' H' v x s' rv
      obtain ⟨x2, s2, hm⟩ := tr_sim s x s' hc.2
      refine p Z' m H' v x2 s2 ?_
      have := rv.cut hc.1
      rwa [hm] at this
    · exact False.elim p
  | exc d h1 =>
    rw [q] at p
    simp only at p
    split at p
    · rename_i hc
      simp only [Bool.and_eq_true] at hc
      intro Z' m' H' c od x s' rv
      obtain ⟨x2, s2, hm⟩ := tr_sim s x s' hc.2
      refine p Z' m H' c od x2 s2 ?_
      cases d with
      | exn n fs =>
        obtain ⟨A, e1, e2, e3⟩ := rv
        refine ⟨A, e1, e2, ?_⟩
        rcases e3 with e3 | ⟨d, gs, q1, q2, q3⟩
        · exact .inl e3
        · refine .inr ⟨d, gs, q1, q2, ?_⟩
          have := q3.cut (k := h.length) (by simpa [D.cl] using hc.1)
          rwa [hm] at this
      | _ => exact False.elim rv
    · exact False.elim p
end
end Dn

/-! DenG: operators, comparisons, subscripts. -/
set_option Elab.async false
set_option linter.all false
set_option maxRecDepth 100000
set_option maxHeartbeats 4000000
namespace Dn
open PySem PySem.Spec PyProof.Rows L2

/-- a list, wherever it stands -/
def lsOf (h : Hm) : D → Option (List D)
  | .lst l => some l
  | .ref n => match h[n]? with
    | some (.lst l) => some l
    | _ => none
  | _ => none
def dr (h : Hm) (d : D) : D := match lsOf h d with
  | some l => .lst l
  | none => d

/-! ### dicts whose keys are numbers and texts -/
def keyD : D → Option L2.Key
  | .int i => some (.inl i)
  | .str x => some (.inr x)
  | _ => none
def dVal (k : L2.Key) : List (D × D) → Option D
  | [] => none
  | (a, d) :: r => if keyD a = some k then some d else dVal k r
def dPut (a : D) (k : L2.Key) (x : D) (l : List (D × D)) : List (D × D) := if (dVal k l).isSome = true then l.map (fun kv => if keyD kv.1 = some k then (kv.1, x) else kv) else l ++ [(a, x)]
def dcOf (h : Hm) : D → Option (List (D × D))
  | .ref n => match h[n]? with
    | some (.dct l) => some l
    | _ => none
  | _ => none
mutual
def D.pd : D → PyData
  | .non => .none | .bl b => .bool b | .int i => .int i | .str x => .str x
  | .tup l => .tuple (D.pdL l) | .lst l => .list (D.pdL l) | _ => .none
def D.pdL : List D → List PyData
  | [] => []
  | x :: xs => D.pd x :: D.pdL xs
end
mutual
def D.eqb : D → D → Bool
  | .non, .non => true
  | .bl a, .bl b => a == b
  | .bl a, .int j => (if a then 1 else 0) == j
  | .int i, .bl b => i == (if b then 1 else 0)
  | .int i, .int j => i == j
  | .str x, .str y => x == y
  | .lst xs, .lst ys => D.eqbL xs ys
  | .tup xs, .tup ys => D.eqbL xs ys
  | _, _ => false
def D.eqbL : List D → List D → Bool
  | [], [] => true
  | x :: xs, y :: ys => D.eqb x y && D.eqbL xs ys
  | _, _ => false
end
mutual
/-- plain data of depth at most n, its texts of signs alone -/
def D.okN : Nat → D → Bool
  | _, .non => true
  | _, .bl _ => true
  | _, .int _ => true
  | _, .str x => PyData.strOk x
  | n + 1, .tup l => D.okL n l
  | n + 1, .lst l => D.okL n l
  | _, _ => false
def D.okL : Nat → List D → Bool
  | _, [] => true
  | n, x :: xs => D.okN n x && D.okL n xs
end
mutual
theorem D.okN_lay : ∀ (n : Nat) (d : D), D.okN n d = true → d.pd.canLay0 = true ∧ d.pd.depth ≤ n
  | _, .non, _ => ⟨rfl, Nat.zero_le _⟩
  | _, .bl _, _ => ⟨rfl, Nat.zero_le _⟩
  | _, .int _, _ => ⟨rfl, Nat.zero_le _⟩
  | _, .str x, h => ⟨by simpa [D.pd, PyData.canLay0, D.okN] using h, Nat.zero_le _⟩
  | n + 1, .tup l, h => by
    obtain ⟨a, b⟩ := D.okL_lay n l (by simpa [D.okN] using h)
    exact ⟨by simpa [D.pd, PyData.canLay0] using a, by simp [D.pd, PyData.depth]; exact b⟩
  | n + 1, .lst l, h => by
    obtain ⟨a, b⟩ := D.okL_lay n l (by simpa [D.okN] using h)
    exact ⟨by simpa [D.pd, PyData.canLay0] using a, by simp [D.pd, PyData.depth]; exact b⟩
  | 0, .tup _, h => by simp [D.okN] at h
  | 0, .lst _, h => by simp [D.okN] at h
  | _, .ref _, h => by simp [D.okN] at h
  | _, .exn _ _, h => by simp [D.okN] at h
  | _, .scr _, h => by simp [D.okN] at h
theorem D.okL_lay : ∀ (n : Nat) (l : List D), D.okL n l = true → PyData.canLayAll0 (D.pdL l) = true ∧ PyData.depthAll (D.pdL l) ≤ n
  | _, [], _ => ⟨rfl, Nat.zero_le _⟩
  | n, x :: xs, h => by
    simp only [D.okL, Bool.and_eq_true] at h
    obtain ⟨a, b⟩ := D.okN_lay n x h.1
    obtain ⟨c, d⟩ := D.okL_lay n xs h.2
    exact ⟨by simp [D.pdL, PyData.canLayAll0, a, c], by simp [D.pdL, PyData.depthAll]; omega⟩
end
theorem D.shaped {d : D} (h : D.okN 64 d = true) : SeqAt.shaped d.pd = true := by
  obtain ⟨a, b⟩ := D.okN_lay 64 d h
  unfold SeqAt.shaped
  simp [a, b]
mutual
theorem D.eqv_eqb : ∀ (n k : Nat) (a b : D), D.okN n a = true → D.okN k b = true → PyData.eqv a.pd b.pd = D.eqb a b
  | n, k, a, b, ha, hb => by
    cases a with
    | tup l =>
      cases b with
      | tup l' =>
        cases n with
        | zero => simp [D.okN] at ha
        | succ n =>
          cases k with
          | zero => simp [D.okN] at hb
          | succ k => simp only [D.pd, PyData.eqv, D.eqb]; exact D.eqv_eqbL n k l l' (by simpa [D.okN] using ha) (by simpa [D.okN] using hb)
      | ref _ => simp [D.okN] at hb
      | exn _ _ => simp [D.okN] at hb
      | scr _ => simp [D.okN] at hb
      | _ => simp [D.pd, PyData.eqv, D.eqb]
    | lst l =>
      cases b with
      | lst l' =>
        cases n with
        | zero => simp [D.okN] at ha
        | succ n =>
          cases k with
          | zero => simp [D.okN] at hb
          | succ k => simp only [D.pd, PyData.eqv, D.eqb]; exact D.eqv_eqbL n k l l' (by simpa [D.okN] using ha) (by simpa [D.okN] using hb)
      | ref _ => simp [D.okN] at hb
      | exn _ _ => simp [D.okN] at hb
      | scr _ => simp [D.okN] at hb
      | _ => simp [D.pd, PyData.eqv, D.eqb]
    | ref _ => simp [D.okN] at ha
    | exn _ _ => simp [D.okN] at ha
    | scr _ => simp [D.okN] at ha
    | _ =>
      cases b with
      | ref _ => simp [D.okN] at hb
      | exn _ _ => simp [D.okN] at hb
      | scr _ => simp [D.okN] at hb
      | _ => simp [D.pd, PyData.eqv, D.eqb]
theorem D.eqv_eqbL : ∀ (n k : Nat) (a b : List D), D.okL n a = true → D.okL k b = true → PyData.eqvAll (D.pdL a) (D.pdL b) = D.eqbL a b
  | _, _, [], [], _, _ => rfl
  | _, _, [], _ :: _, _, _ => rfl
  | _, _, _ :: _, [], _, _ => rfl
  | n, k, x :: xs, y :: ys, ha, hb => by
    simp only [D.okL, Bool.and_eq_true] at ha hb
    simp only [D.pdL, PyData.eqvAll, D.eqbL]
    rw [D.eqv_eqb n k x y ha.1 hb.1, D.eqv_eqbL n k xs ys ha.2 hb.2]
end

section
variable {C : Cn} {Z H : Hp} {m : List Addr} {h : Hm}
mutual
theorem Rep.dp {K : PySem.W.Frag} (hz : ∀ a o, Z a = some o → H a = some o) : ∀ {d : D} {v : V} (n : Nat), Rep C Z m d v → D.okN n d = true → Dp K H v d.pd
  | _, _, _, .non, _ => .non
  | _, _, _, .bl b, _ => .bl b
  | _, _, _, .int i, _ => .int i
  | _, _, _, .str x, _ => .str x
  | _, _, n + 1, .tup a b, e => .tup (.inl (.inl (hz _ _ a))) (RepL.dp hz n b (by simpa [D.okN] using e))
  | _, _, n + 1, .lst a b, e => .lst (.inl (.inl (hz _ _ a))) (RepL.dp hz n b (by simpa [D.okN] using e))
  | _, _, 0, .tup a b, e => by simp [D.okN] at e
  | _, _, 0, .lst a b, e => by simp [D.okN] at e
  | _, _, _, .scr _, e => by simp [D.okN] at e
  | _, _, _, .ref _, e => by simp [D.okN] at e
theorem RepL.dp {K : PySem.W.Frag} (hz : ∀ a o, Z a = some o → H a = some o) : ∀ {d : List D} {v : List V} (n : Nat), RepL C Z m d v → D.okL n d = true → DpAll K H v (D.pdL d)
  | _, _, _, .nil, _ => .nil
  | _, _, n, .cons a b, e => by
    simp only [D.okL, Bool.and_eq_true] at e
    exact .cons (Rep.dp hz n a e.1) (RepL.dp hz n b e.2)
end
/-- a list's object -/
theorem ls_at {d : D} {x : V} {l : List D} (s : HSim C Z m h H) (r : Rep C Z m d x) (e : lsOf h d = some l) : ∃ a vs, x = .ref a ∧ H a = some (.lst vs) ∧ RepL C Z m l vs := by
  cases r with
  | lst hz rl => cases e; exact ⟨_, _, rfl, s.sub _ _ hz, rl⟩
  | @ref n a en =>
    unfold lsOf at e
    cases q : h[n]? with
    | none => simp [q] at e
    | some o =>
      cases o with
      | lst l' =>
        simp [q] at e
        subst e
        obtain ⟨vs, hv, rl⟩ := s.obj n a _ en q
        exact ⟨a, vs, rfl, hv, rl⟩
      | _ => simp [q] at e
  | _ => cases e
theorem dr_dp {K : PySem.W.Frag} {d : D} {x : V} {n : Nat} (s : HSim C Z m h H) (r : Rep C Z m d x) (e : D.okN n (dr h d) = true) : Dp K H x (dr h d).pd := by
  unfold dr at e ⊢
  cases q : lsOf h d with
  | none => rw [q] at e; exact r.dp s.sub n e
  | some l =>
    rw [q] at e
    obtain ⟨a, vs, rfl, hv, rl⟩ := ls_at s r q
    cases n with
    | zero => simp [D.okN] at e
    | succ n => exact .lst (.inl (.inl hv)) (rl.dp s.sub n (by simpa [D.okN] using e))
theorem noxE {α : Type} : NoX (R.err : R α) := fun _ _ e => by cases e
theorem noxO {α : Type} {a : α} {h : Hm} : NoX (R.ok a h) := fun _ _ e => by cases e
theorem dc_at {d : D} {x : V} {l : List (D × D)} (s : HSim C Z m h H) (r : Rep C Z m d x) (e : dcOf h d = some l) : ∃ n a kvs, d = .ref n ∧ m[n]? = some a ∧ h[n]? = some (.dct l) ∧ x = .ref a ∧ H a = some (.dK kvs) ∧ RepK C Z m l kvs := by
  cases r with
  | @ref n a en =>
    unfold dcOf at e
    cases q : h[n]? with
    | none => simp [q] at e
    | some o =>
      cases o with
      | dct l' =>
        simp [q] at e
        subst e
        obtain ⟨vs, hv, rl⟩ := s.obj n a _ en q
        exact ⟨n, a, vs, rfl, en, q, rfl, hv, rl⟩
      | _ => simp [q] at e
  | _ => cases e
theorem key_rep {d : D} {x : V} {k : L2.Key} (r : Rep C Z m d x) (e : keyD d = some k) : x = kV k := by
  cases r with
  | int i => obtain rfl := Option.some.inj (show some (Sum.inl i) = some k from e); rfl
  | str i => obtain rfl := Option.some.inj (show some (Sum.inr i) = some k from e); rfl
  | _ => simp [keyD] at e
theorem RepK.len : ∀ {l : List (D × D)} {kvs : List (L2.Key × V)}, RepK C Z m l kvs → l.length = kvs.length
  | _, _, .nil => rfl
  | _, _, .int _ b => by simp [RepK.len b]
  | _, _, .str _ b => by simp [RepK.len b]
theorem dVal_pos {a d : D} {k : L2.Key} {r : List (D × D)} (h : keyD a = some k) : dVal k ((a, d) :: r) = some d := if_pos h
theorem dVal_neg {a d : D} {k : L2.Key} {r : List (D × D)} (h : ¬ keyD a = some k) : dVal k ((a, d) :: r) = dVal k r := if_neg h
theorem RepK.val (k : L2.Key) : ∀ {l : List (D × D)} {kvs : List (L2.Key × V)}, RepK C Z m l kvs → (∀ d, dVal k l = some d → ∃ v, valV kvs k = some v ∧ Rep C Z m d v) ∧ (dVal k l = none → valV kvs k = none)
  | _, _, .nil => ⟨(fun d e => nomatch e), fun _ => rfl⟩
  | _, _, .int (i := i) (d := d) (v := v) (ds := ds) (vs := vs) a b => by
    obtain ⟨h1, h2⟩ := RepK.val k b
    by_cases hk : keyD (D.int i) = some k
    · rw [dVal_pos hk, valV_pos (p := (Sum.inl i, v)) (Option.some.inj (show some (Sum.inl i) = some k from hk))]
      exact ⟨fun d' e => by injection e with e; subst e; exact ⟨_, rfl, a⟩, fun e => nomatch e⟩
    · rw [dVal_neg hk, valV_neg (p := (Sum.inl i, v)) (fun e => hk (congrArg some e))]
      exact ⟨h1, h2⟩
  | _, _, .str (x := i) (d := d) (v := v) (ds := ds) (vs := vs) a b => by
    obtain ⟨h1, h2⟩ := RepK.val k b
    by_cases hk : keyD (D.str i) = some k
    · rw [dVal_pos hk, valV_pos (p := (Sum.inr i, v)) (Option.some.inj (show some (Sum.inr i) = some k from hk))]
      exact ⟨fun d' e => by injection e with e; subst e; exact ⟨_, rfl, a⟩, fun e => nomatch e⟩
    · rw [dVal_neg hk, valV_neg (p := (Sum.inr i, v)) (fun e => hk (congrArg some e))]
      exact ⟨h1, h2⟩
theorem RepK.some_eq (k : L2.Key) {l : List (D × D)} {kvs : List (L2.Key × V)} (r : RepK C Z m l kvs) : (dVal k l).isSome = (valV kvs k).isSome := by
  obtain ⟨h1, h2⟩ := r.val k
  cases e : dVal k l with
  | none => rw [h2 e]; rfl
  | some d => obtain ⟨v, hv, _⟩ := h1 d e; rw [hv]; rfl
theorem RepK.repl (k : L2.Key) {y : D} {w : V} (ry : Rep C Z m y w) : ∀ {l : List (D × D)} {kvs : List (L2.Key × V)}, RepK C Z m l kvs → RepK C Z m (l.map fun kv => if keyD kv.1 = some k then (kv.1, y) else kv) (kvs.map fun kv => if kv.1 = k then (kv.1, w) else kv)
  | _, _, .nil => .nil
  | _, _, .int (i := i) (d := d) (v := v) (ds := ds) (vs := vs) a b => by
    have ih := RepK.repl k ry b
    by_cases hk : keyD (D.int i) = some k
    · have h2 : (Sum.inl i : L2.Key) = k := Option.some.inj (show some (Sum.inl i) = some k from hk)
      have e1 : (if keyD (D.int i, d).1 = some k then ((D.int i, d).1, y) else (D.int i, d)) = (D.int i, y) := if_pos hk
      have e2 : (if ((Sum.inl i, v) : L2.Key × V).1 = k then (((Sum.inl i, v) : L2.Key × V).1, w) else (Sum.inl i, v)) = (Sum.inl i, w) := if_pos h2
      rw [List.map_cons, List.map_cons, e1, e2]
      exact .int ry ih
    · have h2 : ¬ (Sum.inl i : L2.Key) = k := fun e => hk (congrArg some e)
      have e1 : (if keyD (D.int i, d).1 = some k then ((D.int i, d).1, y) else (D.int i, d)) = (D.int i, d) := if_neg hk
      have e2 : (if ((Sum.inl i, v) : L2.Key × V).1 = k then (((Sum.inl i, v) : L2.Key × V).1, w) else (Sum.inl i, v)) = (Sum.inl i, v) := if_neg h2
      rw [List.map_cons, List.map_cons, e1, e2]
      exact .int a ih
  | _, _, .str (x := i) (d := d) (v := v) (ds := ds) (vs := vs) a b => by
    have ih := RepK.repl k ry b
    by_cases hk : keyD (D.str i) = some k
    · have h2 : (Sum.inr i : L2.Key) = k := Option.some.inj (show some (Sum.inr i) = some k from hk)
      have e1 : (if keyD (D.str i, d).1 = some k then ((D.str i, d).1, y) else (D.str i, d)) = (D.str i, y) := if_pos hk
      have e2 : (if ((Sum.inr i, v) : L2.Key × V).1 = k then (((Sum.inr i, v) : L2.Key × V).1, w) else (Sum.inr i, v)) = (Sum.inr i, w) := if_pos h2
      rw [List.map_cons, List.map_cons, e1, e2]
      exact .str ry ih
    · have h2 : ¬ (Sum.inr i : L2.Key) = k := fun e => hk (congrArg some e)
      have e1 : (if keyD (D.str i, d).1 = some k then ((D.str i, d).1, y) else (D.str i, d)) = (D.str i, d) := if_neg hk
      have e2 : (if ((Sum.inr i, v) : L2.Key × V).1 = k then (((Sum.inr i, v) : L2.Key × V).1, w) else (Sum.inr i, v)) = (Sum.inr i, v) := if_neg h2
      rw [List.map_cons, List.map_cons, e1, e2]
      exact .str a ih
theorem RepK.snoc {a y : D} {w : V} {k : L2.Key} (hk : keyD a = some k) (ry : Rep C Z m y w) : ∀ {l : List (D × D)} {kvs : List (L2.Key × V)}, RepK C Z m l kvs → RepK C Z m (l ++ [(a, y)]) (kvs ++ [(k, w)])
  | _, _, .nil => by
    cases a with
    | int i => obtain rfl := Option.some.inj (show some (Sum.inl i) = some k from hk); exact .int ry .nil
    | str i => obtain rfl := Option.some.inj (show some (Sum.inr i) = some k from hk); exact .str ry .nil
    | _ => simp [keyD] at hk
  | _, _, .int a b => .int a (RepK.snoc hk ry b)
  | _, _, .str a b => .str a (RepK.snoc hk ry b)
theorem RepK.put {a y : D} {w : V} {k : L2.Key} (hk : keyD a = some k) (ry : Rep C Z m y w) {l : List (D × D)} {kvs : List (L2.Key × V)} (r : RepK C Z m l kvs) : RepK C Z m (dPut a k y l) (putK kvs k w) := by
  unfold dPut putK
  rw [valV_any, ← r.some_eq k]
  split
  · exact r.repl k ry
  · exact r.snoc hk ry
end

/-! ### arithmetic -/
def opAdd (x y : D) (h : Hm) : R D := match x, y with
  | .int a, .int b => .ok (.int (a + b)) h
  | .str a, .str b => if a.length + b.length ≤ 16777216 then .ok (.str (a ++ b)) h else .err
  | .tup a, .tup b => if a.length + b.length ≤ 16777216 then .ok (.tup (a ++ b)) h else .err
  | x, y => match lsOf h x, lsOf h y with
    | some a, some b => if a.length + b.length ≤ 16777216 then .ok (.lst (a ++ b)) h else .err
    | _, _ => .err
def opSub (x y : D) (h : Hm) : R D := match x, y with
  | .int a, .int b => .ok (.int (a - b)) h
  | _, _ => .err
def mulOk (a b : Int) : Bool := (decide (-(2 ^ 64) < a) && decide (a < 2 ^ 64)) || (decide (-(2 ^ 64) < b) && decide (b < 2 ^ 64))
def repStr (x : Str) (n : Int) : Str := ⟨(List.replicate n.toNat x.cps.toList).flatten.toArray⟩
def opMul (x y : D) (h : Hm) : R D := match x, y with
  | .int a, .int b => if mulOk a b then .ok (.int (a * b)) h else .err
  | .str a, .int n => if -1000000 ≤ n ∧ n ≤ 1000000 ∧ a.length * n.toNat ≤ 1000000 then .ok (.str (repStr a n)) h else .err
  | x, .int n => match lsOf h x with
    | some l => if -1000000 ≤ n ∧ n ≤ 1000000 ∧ l.length * n.toNat ≤ 16777216 then .ok (.lst (List.replicate n.toNat l).flatten) h else .err
    | none => .err
  | _, _ => .err
def opMod (x y : D) (h : Hm) : R D := match x, y with
  | .int a, .int b => if 0 < b then .ok (.int (a % b)) h else .err
  | _, _ => .err
def opDiv (x y : D) (h : Hm) : R D := match x, y with
  | .int a, .int b => if 0 < b ∧ b < 1267650600228229401496703205376 then .ok (.int (a / b)) h else .err
  | _, _ => .err
def opPow (x y : D) (h : Hm) : R D := match x, y with
  | .int a, .int b => if 0 ≤ b ∧ b ≤ 1000000 ∧ -(2 ^ 63) < a ∧ a < 2 ^ 64 then .ok (.int (a ^ b.toNat)) h else .err
  | _, _ => .err
def opNeg (x : D) (h : Hm) : R D := match x with
  | .int a => .ok (.int (-a)) h
  | _ => .err
/-! ### comparisons -/
def opLt (x y : D) (h : Hm) : R D := match x, y with
  | .int a, .int b => .ok (.bl (decide (a < b))) h
  | _, _ => .err
def opLe (x y : D) (h : Hm) : R D := match x, y with
  | .int a, .int b => .ok (.bl (decide (a ≤ b))) h
  | _, _ => .err
def opGt (x y : D) (h : Hm) : R D := match x, y with
  | .int a, .int b => .ok (.bl (decide (b < a))) h
  | _, _ => .err
def opGe (x y : D) (h : Hm) : R D := match x, y with
  | .int a, .int b => .ok (.bl (decide (b ≤ a))) h
  | _, _ => .err
def scalD : D → D → Bool
  | .non, .non => true | .non, .int _ => true | .int _, .non => true | .non, .bl _ => true | .bl _, .non => true | .non, .str _ => true | .str _, .non => true
  | .int _, .int _ => true | .bl _, .bl _ => true | .str _, .str _ => true
  | .int _, .str _ => true | .str _, .int _ => true | .bl _, .str _ => true | .str _, .bl _ => true
  | _, _ => false
def opEq (x y : D) (h : Hm) : R D := if scalD x y then .ok (.bl (D.eqb x y)) h else
  if D.okN 64 (dr h x) && D.okN 64 (dr h y) then .ok (.bl (D.eqb (dr h x) (dr h y))) h else .err
def opNe (x y : D) (h : Hm) : R D := if scalD x y then .ok (.bl (!D.eqb x y)) h else
  if D.okN 64 (dr h x) && D.okN 64 (dr h y) then .ok (.bl (!D.eqb (dr h x) (dr h y))) h else .err
def flatD : D → Bool
  | .non => true | .bl _ => true | .int _ => true | .str _ => true
  | _ => false
def ixD (x y : D) (h : Hm) : R D := match dcOf h x with
  | some l => (match keyD y with
    | some k => (match dVal k l with
      | some d => .ok d h
      | none => .err)
    | none => .err)
  | none => .err
def inK (neg : Bool) (x y : D) (h : Hm) : R D := match dcOf h y with
  | some l => (match keyD x with
    | some k => .ok (.bl (neg ^^ (dVal k l).isSome)) h
    | none => .err)
  | none => .err
def inD (neg : Bool) (x y : D) (h : Hm) : R D := match y with
  | .str z => match x with
    | .str s => match s.cps.toList with
      | [c] => .ok (.bl (neg ^^ decide (c ∈ z.cps.toList))) h
      | _ => .err
    | _ => .err
  | y => match items h y with
    | some l => if flatD x && l.all flatD then .ok (.bl (neg ^^ l.any fun z => D.eqb z x)) h else
      if (lsOf h y).isSome && D.okN 64 x && D.okL 63 l then .ok (.bl (neg ^^ l.any fun z => D.eqb z x)) h else .err
    | none => inK neg x y h
def opIn : D → D → Hm → R D := inD false
def opNotIn : D → D → Hm → R D := inD true
def opIsN (x y : D) (h : Hm) : R D := match y with
  | .non => match x with
    | .non => .ok (.bl true) h
    | _ => .ok (.bl false) h
  | _ => .err
def opNotN (x y : D) (h : Hm) : R D := match y with
  | .non => match x with
    | .non => .ok (.bl false) h
    | _ => .ok (.bl true) h
  | _ => .err
/-! ### subscripts -/
def opIx (x y : D) (h : Hm) : R D := match y with
  | .int i => match x with
    | .str z => if z.length ≤ 16777216 then (match atI z.cps.toList i with
      | some c => .ok (.str ⟨#[c]⟩) h
      | none => .err) else .err
    | .scr ns => match atI ns i with
      | some n => .ok (.int n) h
      | none => .err
    | .tup l => match atI l i with
      | some d => .ok d h
      | none => .err
    | x => match lsOf h x with
      | some l => (match atI l i with
        | some d => .ok d h
        | none => .err)
      | none => ixD x y h
  | _ => ixD x y h
def cutD (l : List D) (lo hi : Option Int) : List D := (l.drop (HT.sIx l.length 0 lo)).take (HT.sIx l.length l.length hi - HT.sIx l.length 0 lo)
def opSl (x : D) (lo hi : Option Int) (h : Hm) : R D := match x with
  | .str z => if z.length ≤ 16777216 then .ok (.str (cutS z lo hi)) h else .err
  | .tup l => .ok (.tup (cutD l lo hi)) h
  | x => match lsOf h x with
    | some l => .ok (.lst (cutD l lo hi)) h
    | none => .err
/-- a part of a slice -/
abbrev PM := Ev → Hm → R (Option Int)
def pN : PM := fun _ h => .ok none h
def pE (e : EM) : PM := fun v h => (e v h).bind fun x h1 => match x with
  | .int i => .ok (some i) h1
  | _ => .err
def eSl (a : EM) (lo hi : PM) : EM := fun v h => (a v h).bind fun x h1 => (lo v h1).bind fun l h2 => (hi v h2).bind fun u h3 => opSl x l u h3

theorem atI_map {α β : Type} (f : α → β) (l : List α) (i : Int) : atI (l.map f) i = (atI l i).map f := by
  unfold atI
  rw [List.length_map]
  cases ixN l.length i with
  | none => rfl
  | some j => simp [List.getElem?_map]
theorem atI_rep {C : Cn} {Z : Hp} {m : List Addr} {l : List D} {vs : List V} {i : Int} {d : D} (r : RepL C Z m l vs) (e : atI l i = some d) : ∃ v, atI vs i = some v ∧ Rep C Z m d v := by
  unfold atI at e ⊢
  rw [← r.length]
  cases q : ixN l.length i with
  | none => rw [q] at e; cases e
  | some j =>
    rw [q] at e
    exact r.get e
theorem cut_rep {C : Cn} {Z : Hp} {m : List Addr} {l : List D} {vs : List V} (r : RepL C Z m l vs) (lo hi : Option Int) : RepL C Z m (cutD l lo hi) (cutV vs lo hi) := by
  unfold cutD cutV
  rw [← r.length]
  exact (r.drop _).take _

section
variable {X : Cx} {C : Cn} {E : WX}
theorem do_add : OpR X (binaryOp .Add) (rD2 C opAdd) := by
  intro pins s σ H x y v u Q I rx ry ⟨Z, m, h, a, b, sm, ra, rb, p⟩
  have lists : ∀ (a b : D) (l1 l2 : List D), lsOf h a = some l1 → lsOf h b = some l2 → Rep C Z m a x → Rep C Z m b y → Post C (Rep C) (fun _ _ _ => False) (if l1.length + l2.length ≤ 16777216 then .ok (.lst (l1 ++ l2)) h else .err) Z m H Q → wpAny (model X.prog X.w) X.A (binaryOp .Add v u) (EP X pins σ Q) X.xe s := fun a b l1 l2 e1 e2 ra rb p => by
    obtain ⟨a1, v1, rfl, h1, r1⟩ := ls_at sm ra e1
    obtain ⟨a2, v2, rfl, h2, r2⟩ := ls_at sm rb e2
    split at p
    · rename_i hl
      refine op_cat pins s σ H _ _ v u Q I rx ry ⟨a1, a2, v1, v2, rfl, rfl, h1, h2, by rw [← r1.length, ← r2.length]; exact sz_le hl, fun q hq => ?_⟩
      have xz := Ext.lay sm hq (.lst (v1 ++ v2))
      exact p _ _ _ _ xz (sm.lay hq _) (.lst upd_same ((r1.append r2).mono xz.sub (List.prefix_refl _)))
    · exact False.elim p
  have gen : ∀ (r : R D), (match lsOf h a, lsOf h b with | some a, some b => if a.length + b.length ≤ 16777216 then R.ok (D.lst (a ++ b)) h else R.err | _, _ => R.err) = r → Post C (Rep C) (fun _ _ _ => False) r Z m H Q → wpAny (model X.prog X.w) X.A (binaryOp .Add v u) (EP X pins σ Q) X.xe s := fun r e p => by
    subst e
    cases e1 : lsOf h a with
    | none => simp [e1] at p; exact False.elim p
    | some l1 =>
      cases e2 : lsOf h b with
      | none => simp [e1, e2] at p; exact False.elim p
      | some l2 =>
        rw [e1, e2] at p
        exact lists a b l1 l2 e1 e2 ra rb p
  cases a with
  | int i =>
    cases b with
    | int j => cases ra; cases rb; exact op_add pins s σ H _ _ v u Q I rx ry ⟨i, j, rfl, rfl, p _ _ _ _ .refl sm (.int _)⟩
    | _ => exact gen _ rfl p
  | str i =>
    cases b with
    | str j =>
      cases ra; cases rb
      simp only [opAdd] at p
      split at p
      · rename_i hl
        exact op_add_str pins s σ H _ _ v u Q I rx ry ⟨i, j, rfl, rfl, sz_le hl, p _ _ _ _ .refl sm (.str _)⟩
      · exact False.elim p
    | _ => exact gen _ rfl p
  | tup l1 =>
    cases b with
    | tup l2 =>
      cases ra with
      | @tup a1 v1 _ h1 r1 =>
        cases rb with
        | @tup a2 v2 _ h2 r2 =>
          simp only [opAdd] at p
          split at p
          · rename_i hl
            have n1 := r1.length
            have n2 := r2.length
            refine op_catA pins s σ H _ _ v u Q I rx ry ⟨a1, a2, v1, v2, rfl, rfl, .inl (.inl (sm.sub _ _ h1)), .inl (.inl (sm.sub _ _ h2)), by rw [← n1, ← n2]; exact sz_le hl, fun z => ?_, fun z z2 => ?_, fun z z2 q hq => ?_⟩
            · subst z
              have : l1 = [] := List.length_eq_zero_iff.mp n1
              subst this
              exact p _ _ _ _ .refl sm (.tup h2 r2)
            · subst z2
              have : l2 = [] := List.length_eq_zero_iff.mp n2
              subst this
              rw [List.append_nil] at p
              exact p _ _ _ _ .refl sm (.tup h1 r1)
            · have xz := Ext.lay sm hq (.tup (v1 ++ v2))
              exact p _ _ _ _ xz (sm.lay hq _) (.tup upd_same ((r1.append r2).mono xz.sub (List.prefix_refl _)))
          · exact False.elim p
    | _ => exact gen _ rfl p
  | _ => exact gen _ (by cases b <;> rfl) p
theorem do_sub : OpR X (binaryOp .Sub) (rD2 C opSub) := by
  intro pins s σ H x y v u Q I rx ry ⟨Z, m, h, a, b, sm, ra, rb, p⟩
  cases ra <;> cases rb <;> first | exact False.elim p | skip
  exact op_sub pins s σ H _ _ v u Q I rx ry ⟨_, _, rfl, rfl, p _ _ _ _ .refl sm (.int _)⟩
theorem do_mod : OpR X (binaryOp .Mod) (rD2 C opMod) := by
  intro pins s σ H x y v u Q I rx ry ⟨Z, m, h, a, b, sm, ra, rb, p⟩
  cases ra <;> cases rb <;> first | exact False.elim p | skip
  simp only [opMod] at p
  split at p
  · rename_i hc
    exact op_mod pins s σ H _ _ v u Q I rx ry ⟨_, _, rfl, rfl, hc, p _ _ _ _ .refl sm (.int _)⟩
  · exact False.elim p
theorem do_div : OpR X (binaryOp .FloorDiv) (rD2 C opDiv) := by
  intro pins s σ H x y v u Q I rx ry ⟨Z, m, h, a, b, sm, ra, rb, p⟩
  cases ra <;> cases rb <;> first | exact False.elim p | skip
  simp only [opDiv] at p
  split at p
  · rename_i hc
    exact op_fdivW pins s σ H _ _ v u Q I rx ry ⟨_, _, rfl, rfl, wide_div (b := 100) hc.1 (by omega) (by decide) (by decide), p _ _ _ _ .refl sm (.int _)⟩
  · exact False.elim p
theorem do_pow : OpR X (binaryOp .Pow) (rD2 C opPow) := by
  intro pins s σ H x y v u Q I rx ry ⟨Z, m, h, a, b, sm, ra, rb, p⟩
  cases ra <;> cases rb <;> first | exact False.elim p | skip
  simp only [opPow] at p
  split at p
  · rename_i hc
    exact op_pow pins s σ H _ _ v u Q I rx ry ⟨_, _, rfl, rfl, ⟨hc.1, hc.2.1, by omega⟩, p _ _ _ _ .refl sm (.int _)⟩
  · exact False.elim p
theorem foldl_cps (l : List Nat) : ∀ (k : Nat) (acc : List Nat), (List.replicate k l.toArray).foldl (· ++ ·) acc.toArray = (acc ++ (List.replicate k l).flatten).toArray
  | 0, acc => by simp
  | k + 1, acc => by
    have e : acc.toArray ++ l.toArray = (acc ++ l).toArray := by simp
    rw [List.replicate_succ, List.foldl_cons, e, foldl_cps l k (acc ++ l), List.replicate_succ, List.flatten_cons, List.append_assoc]
theorem repStr_len (x : Str) (n : Int) : (repStr x n).length = x.length * n.toNat := by
  unfold repStr Str.length
  simp [List.length_flatten, List.sum_replicate_nat, Nat.mul_comm]
theorem repStr_made (x : Str) (n : Int) (t : Tok) {Q : Value → Shared → Prop} {s : Shared} (hl : x.length * n.toNat ≤ 1000000) (h : ∀ t' k, Q (.str (repStr x n) t') { s with toks := k }) (h0 : ∀ t', Q (.str (repStr x n) t') s) :
    (if n < 1 then Made.str Str.empty else if (n == 1 || x.length == 0) = true then Made.val (.str x t) else Made.str ⟨(List.replicate n.toNat x.cps).foldl (· ++ ·) #[]⟩).post Q s := by
  by_cases h1 : n < 1
  · rw [if_pos h1]
    have : repStr x n = Str.empty := by
      unfold repStr
      rw [show n.toNat = 0 by omega]
      rfl
    rw [this] at h
    exact ⟨by show 0 ≤ sizeLine; exact Nat.zero_le _, h _ _⟩
  · rw [if_neg h1]
    by_cases h2 : (n == 1 || x.length == 0) = true
    · rw [if_pos h2]
      have : repStr x n = x := by
        obtain ⟨⟨l⟩⟩ := x
        rw [Bool.or_eq_true, beq_iff_eq, beq_iff_eq] at h2
        rcases h2 with h2 | h2
        · subst h2; unfold repStr; simp
        · have : l = [] := List.length_eq_zero_iff.mp (by simpa [Str.length] using h2)
          subst this
          unfold repStr; simp
      rw [this] at h0
      exact h0 t
    · rw [if_neg h2]
      have : repStr x n = ⟨(List.replicate n.toNat x.cps).foldl (· ++ ·) #[]⟩ := by
        obtain ⟨⟨l⟩⟩ := x
        unfold repStr
        have := foldl_cps l n.toNat []
        simp only [List.nil_append] at this
        rw [this]
      refine ⟨?_, ?_⟩
      · rw [← this, repStr_len, sizeLine_eq]; omega
      · rw [← this]; exact h _ _
theorem do_mul : OpR X (binaryOp .Mult) (rD2 C opMul) := by
  intro pins s σ H x y v u Q I rx ry ⟨Z, m, h, a, b, sm, ra, rb, p⟩
  have lists : ∀ (n : Int) (l : List D), y = .int n → lsOf h a = some l → Post C (Rep C) (fun _ _ _ => False) (if -1000000 ≤ n ∧ n ≤ 1000000 ∧ l.length * n.toNat ≤ 16777216 then R.ok (D.lst (List.replicate n.toNat l).flatten) h else R.err) Z m H Q → wpAny (model X.prog X.w) X.A (binaryOp .Mult v u) (EP X pins σ Q) X.xe s := fun n l1 ey e1 p => by
    subst ey
    obtain ⟨a1, v1, rfl, h1, r1⟩ := ls_at sm ra e1
    split at p
    · rename_i hl
      refine op_rep pins s σ H _ _ v u Q I rx ry ⟨a1, n, v1, rfl, rfl, h1, by omega, by omega, by rw [← r1.length]; exact sz_le hl.2.2, fun q hq => ?_⟩
      have xz := Ext.lay sm hq (.lst (List.replicate n.toNat v1).flatten)
      exact p _ _ _ _ xz (sm.lay hq _) (.lst upd_same ((r1.replicate _).mono xz.sub (List.prefix_refl _)))
    · exact False.elim p
  cases rb with
  | int n =>
    cases a with
    | int i =>
      cases ra
      simp only [opMul] at p
      split at p
      · rename_i hc
        refine op_mul pins s σ H _ _ v u Q I rx ry ⟨_, _, rfl, rfl, ?_, p _ _ _ _ .refl sm (.int _)⟩
        simp only [mulOk, Bool.or_eq_true, Bool.and_eq_true, decide_eq_true_eq] at hc
        exact hc
      · exact False.elim p
    | str z =>
      cases ra
      simp only [opMul] at p
      split at p
      · rename_i hc
        obtain ⟨t, rfl⟩ := rx
        obtain ⟨t', rfl⟩ := ry
        have hlen : ¬ n < 1 → (z.length : Int) * n ≤ 1000000 := fun h1 => by
          have : ((z.length * n.toNat : Nat) : Int) ≤ 1000000 := Int.ofNat_le.mpr hc.2.2
          have e : ((n.toNat : Nat) : Int) = n := Int.toNat_of_nonneg (by omega)
          rw [Int.natCast_mul, e] at this
          exact this
        refine PySem.P.mul_str ?_ (fun h1 h2 => ?_) (fun h1 h2 => ?_) (repStr_made z n t hc.2.2 (fun t' k => ⟨.str (repStr z n), H, I.tok k, ⟨_, rfl⟩, p _ _ _ _ .refl sm (.str _)⟩) (fun t' => ⟨.str (repStr z n), H, I, ⟨_, rfl⟩, p _ _ _ _ .refl sm (.str _)⟩))
        · rw [Bool.or_eq_false_iff, decide_eq_false_iff_not, decide_eq_false_iff_not]
          omega
        · have h3 := hlen h1
          intro h4
          have h5 : n * ((2 ^ 63 - 1) / n) > 2 ^ 63 - 1 - n := by
            have := Int.mul_ediv_add_emod (2 ^ 63 - 1) n
            have := Int.emod_lt_of_pos (2 ^ 63 - 1) (show 0 < n by omega)
            omega
          have h6 : n * ((2 ^ 63 - 1) / n) ≤ n * (z.length : Int) := Int.mul_le_mul_of_nonneg_left (by omega) (by omega)
          rw [Int.mul_comm n (z.length : Int)] at h6
          omega
        · unfold Builtin.Str.tooLong
          rw [decide_eq_false_iff_not, sizeLine_eq]
          have := hc.2.2
          omega
      · exact False.elim p
    | _ =>
      simp only [opMul] at p
      split at p
      · rename_i l hl; exact lists n l rfl hl p
      · exact False.elim p
  | _ => cases a <;> exact False.elim p
end
end Dn

/-! DenH: comparisons, subscripts, slices, stores. -/
set_option Elab.async false
set_option linter.all false
set_option maxRecDepth 100000
set_option maxHeartbeats 4000000
namespace Dn
open PySem PySem.Spec PyProof.Rows L2

section
variable {X : Cx} {C : Cn} {E : WX}
theorem hu64 {A : Around} (hr : Room 0 A) : A.units + 64 < cLine := by have := hr.un; omega
theorem hu65 {A : Around} (hr : Room 0 A) : A.units + 65 < cLine := by have := hr.un; omega
theorem do_neg : UnR X (unaryOp .USub) (rD1 C opNeg) := by
  intro pins s σ H x v Q I rx ⟨Z, m, h, a, sm, ra, p⟩
  cases ra <;> first | exact False.elim p | skip
  exact un_neg pins s σ H _ v Q I rx ⟨_, rfl, p _ _ _ _ .refl sm (.int _)⟩
theorem do_lt : OpR X (compareOp .Lt) (rD2 C opLt) := by
  intro pins s σ H x y v u Q I rx ry ⟨Z, m, h, a, b, sm, ra, rb, p⟩
  cases ra <;> cases rb <;> first | exact False.elim p | skip
  exact op_lt pins s σ H _ _ v u Q I rx ry ⟨_, _, rfl, rfl, p _ _ _ _ .refl sm (.bl _)⟩
theorem do_le : OpR X (compareOp .LtE) (rD2 C opLe) := by
  intro pins s σ H x y v u Q I rx ry ⟨Z, m, h, a, b, sm, ra, rb, p⟩
  cases ra <;> cases rb <;> first | exact False.elim p | skip
  exact op_le pins s σ H _ _ v u Q I rx ry ⟨_, _, rfl, rfl, p _ _ _ _ .refl sm (.bl _)⟩
theorem do_gt : OpR X (compareOp .Gt) (rD2 C opGt) := by
  intro pins s σ H x y v u Q I rx ry ⟨Z, m, h, a, b, sm, ra, rb, p⟩
  cases ra <;> cases rb <;> first | exact False.elim p | skip
  exact op_gt pins s σ H _ _ v u Q I rx ry ⟨_, _, rfl, rfl, p _ _ _ _ .refl sm (.bl _)⟩
theorem do_ge : OpR X (compareOp .GtE) (rD2 C opGe) := by
  intro pins s σ H x y v u Q I rx ry ⟨Z, m, h, a, b, sm, ra, rb, p⟩
  cases ra <;> cases rb <;> first | exact False.elim p | skip
  exact op_ge pins s σ H _ _ v u Q I rx ry ⟨_, _, rfl, rfl, p _ _ _ _ .refl sm (.bl _)⟩
theorem scal_rep {Z : Hp} {m : List Addr} {a b : D} {x y : V} (ra : Rep C Z m a x) (rb : Rep C Z m b y) (hs : scalD a b = true) : scal x y = true ∧ decide (x = y) = D.eqb a b := by
  cases ra <;> cases rb <;> first | (simp [scalD] at hs; done) | skip
  all_goals refine ⟨rfl, ?_⟩
  all_goals simp only [D.eqb]
  all_goals first
    | exact decide_eq_true rfl
    | exact decide_eq_false (fun z => by cases z)
    | (rw [Bool.eq_iff_iff]; simp)
theorem do_eq (hr : Room 0 X.A) : OpR X (compareOp .Eq) (rD2 C opEq) := by
  intro pins s σ H x y v u Q I rx ry ⟨Z, m, h, a, b, sm, ra, rb, p⟩
  unfold opEq at p
  split at p
  · rename_i hs
    obtain ⟨h1, h2⟩ := scal_rep ra rb hs
    exact op_eq pins s σ H _ _ v u Q I rx ry ⟨h1, by rw [h2]; exact p _ _ _ _ .refl sm (.bl _)⟩
  · split at p
    · rename_i hc
      simp only [Bool.and_eq_true] at hc
      refine op_eqD (hu64 hr) pins s σ H _ _ v u Q I rx ry ⟨_, _, dr_dp sm ra hc.1, dr_dp sm rb hc.2, D.shaped hc.1, D.shaped hc.2, ?_⟩
      rw [D.eqv_eqb 64 64 _ _ hc.1 hc.2]
      exact p _ _ _ _ .refl sm (.bl _)
    · exact False.elim p
theorem do_ne (hr : Room 0 X.A) : OpR X (compareOp .NotEq) (rD2 C opNe) := by
  intro pins s σ H x y v u Q I rx ry ⟨Z, m, h, a, b, sm, ra, rb, p⟩
  unfold opNe at p
  split at p
  · rename_i hs
    obtain ⟨h1, h2⟩ := scal_rep ra rb hs
    exact op_ne pins s σ H _ _ v u Q I rx ry ⟨h1, by rw [h2]; exact p _ _ _ _ .refl sm (.bl _)⟩
  · split at p
    · rename_i hc
      simp only [Bool.and_eq_true] at hc
      refine op_neD (hu64 hr) pins s σ H _ _ v u Q I rx ry ⟨_, _, dr_dp sm ra hc.1, dr_dp sm rb hc.2, D.shaped hc.1, D.shaped hc.2, ?_⟩
      rw [D.eqv_eqb 64 64 _ _ hc.1 hc.2]
      exact p _ _ _ _ .refl sm (.bl _)
    · exact False.elim p
theorem flat_rep {Z : Hp} {m : List Addr} {a : D} {x : V} (ra : Rep C Z m a x) (h : flatD a = true) : flatV x = true := by
  cases ra <;> first | rfl | cases h
theorem flatL_rep {Z : Hp} {m : List Addr} : ∀ {l : List D} {xs : List V}, RepL C Z m l xs → l.all flatD = true → xs.all flatV = true
  | _, _, .nil, _ => rfl
  | _, _, .cons a b, h => by
    simp only [List.all_cons, Bool.and_eq_true] at h ⊢
    exact ⟨flat_rep a h.1, flatL_rep b h.2⟩
theorem eqV_rep {Z : Hp} {m : List Addr} {a b : D} {x y : V} (ra : Rep C Z m a x) (rb : Rep C Z m b y) (ha : flatD a = true) (hb : flatD b = true) : eqV x y = D.eqb a b := by
  cases ra <;> cases rb <;> first | rfl | (simp [flatD] at ha; done) | (simp [flatD] at hb; done)
theorem inV_rep {Z : Hp} {m : List Addr} {a : D} {x : V} (ra : Rep C Z m a x) (ha : flatD a = true) : ∀ {l : List D} {xs : List V}, RepL C Z m l xs → l.all flatD = true → inV x xs = l.any fun z => D.eqb z a
  | _, _, .nil, _ => rfl
  | _, _, .cons b r, h => by
    simp only [List.all_cons, Bool.and_eq_true] at h
    have := inV_rep ra ha r h.2
    unfold inV at this ⊢
    rw [List.any_cons, List.any_cons, this, eqV_rep b ra h.1 ha]
theorem pdL_any {n k : Nat} {a : D} (ha : D.okN n a = true) : ∀ {l : List D}, D.okL k l = true → ((D.pdL l).any fun z => PyData.eqv z a.pd) = l.any fun z => D.eqb z a
  | [], _ => rfl
  | x :: xs, h => by
    simp only [D.okL, Bool.and_eq_true] at h
    simp only [D.pdL, List.any_cons]
    rw [D.eqv_eqb k n x a h.1 ha, pdL_any ha h.2]
theorem do_inD (neg : Bool) (op : CmpOp) (hr : Room 0 X.A) (h1 : OpR X (compareOp op) (rIn X.K neg))
    (h2 : OpR X (compareOp op) (fun x y H Q => ∃ d ds, Dp X.K H x d ∧ Dp X.K H y (.list ds) ∧ SeqAt.shaped d = true ∧ SeqAt.shaped (.list ds) = true ∧ Q (.bl (neg ^^ ds.any fun z => PyData.eqv z d)) H))
    (h3 : OpR X (compareOp op) (fun x y H Q => ∃ (c : Nat) (z : Str), x = .str ⟨#[c]⟩ ∧ y = .str z ∧ Q (.bl (neg ^^ decide (c ∈ z.cps.toList))) H))
    (h4 : OpR X (compareOp op) (fun y x H Q => ∃ a o, x = .ref a ∧ DGet H a y o ∧ Q (.bl (neg ^^ o.isSome)) H)) : OpR X (compareOp op) (rD2 C (inD neg)) := by
  intro pins s σ H x y v u Q I rx ry ⟨Z, m, h, a, b, sm, ra, rb, p⟩
  have main : ∀ l : List D, items h b = some l → (∃ p xs, y = .ref p ∧ (SqL X.K H p xs ∨ SqT X.K H p xs) ∧ RepL C Z m l xs) → ((lsOf h b).isSome = true → lsOf h b = some l) →
      Post C (Rep C) (fun _ _ _ => False) (if flatD a && l.all flatD then .ok (.bl (neg ^^ l.any fun z => D.eqb z a)) h else if (lsOf h b).isSome && D.okN 64 a && D.okL 63 l then .ok (.bl (neg ^^ l.any fun z => D.eqb z a)) h else .err) Z m H Q → wpAny (model X.prog X.w) X.A (compareOp op v u) (EP X pins σ Q) X.xe s := fun l hl ⟨q, xs, hy, hq, rl⟩ hls p => by
    split at p
    · rename_i hc
      simp only [Bool.and_eq_true] at hc
      refine h1 pins s σ H _ _ v u Q I rx ry ⟨q, xs, hy, hq, flat_rep ra hc.1, flatL_rep rl hc.2, ?_⟩
      rw [inV_rep ra hc.1 rl hc.2]
      have := p _ _ _ _ .refl sm (.bl _)
      cases neg <;> simpa using this
    · split at p
      · rename_i hc
        simp only [Bool.and_eq_true] at hc
        have hl2 := hls hc.1.1
        have hd : D.okN 64 (dr h b) = true := by unfold dr; rw [hl2]; simpa [D.okN] using hc.2
        have dpb := dr_dp (K := X.K) sm rb hd
        have hsh := D.shaped hd
        have e : (dr h b).pd = .list (D.pdL l) := by unfold dr; rw [hl2]; rfl
        rw [e] at dpb hsh
        refine h2 pins s σ H _ _ v u Q I rx ry ⟨_, _, ra.dp sm.sub 64 hc.1.2, dpb, D.shaped hc.1.2, hsh, ?_⟩
        rw [pdL_any hc.1.2 hc.2]
        exact p _ _ _ _ .refl sm (.bl _)
      · exact False.elim p
  cases rb with
  | str z =>
    simp only [inD] at p
    cases ra with
    | str w =>
      simp only at p
      split at p
      · rename_i c hc
        obtain ⟨⟨w⟩⟩ := w
        simp only at hc
        subst hc
        exact h3 pins s σ H _ _ v u Q I rx ry ⟨c, z, rfl, rfl, p _ _ _ _ .refl sm (.bl _)⟩
      · exact False.elim p
    | _ => exact False.elim p
  | @tup q vs l hz rl => exact main l rfl ⟨q, vs, rfl, .inr (.inl (.inl (sm.sub _ _ hz))), rl⟩ (fun z => by cases z) p
  | @lst q vs l hz rl => exact main l rfl ⟨q, vs, rfl, .inl (.inl (.inl (sm.sub _ _ hz))), rl⟩ (fun z => rfl) p
  | @ref n q en =>
    simp only [inD] at p
    cases e : items h (.ref n) with
    | none =>
      rw [e] at p
      simp only [inK] at p
      split at p
      · rename_i l hl
        split at p
        · rename_i k hk
          obtain ⟨n', a', kvs, e1, e2, e3, e4, e5, rk⟩ := dc_at sm (.ref en) hl
          cases e4
          have ek := key_rep ra hk
          subst ek
          refine h4 pins s σ H _ _ v u Q I rx ry ⟨_, _, rfl, DGet.k e5, ?_⟩
          rw [← rk.some_eq k]
          exact p _ _ _ _ .refl sm (.bl _)
        · exact False.elim p
      · exact False.elim p
    | some l =>
      have e2 : lsOf h (.ref n) = some l := e
      obtain ⟨q', vs, e1, hv, rl⟩ := ls_at sm (.ref en) e2
      cases e1
      rw [e] at p
      exact main l e ⟨q, vs, rfl, .inl (.inl (.inl hv)), rl⟩ (fun _ => e2) p
  | _ => exact False.elim p
theorem do_in (hr : Room 0 X.A) : OpR X (compareOp .In) (rD2 C opIn) :=
  do_inD false .In hr op_in_seq (fun pins s σ H x y v u Q I rx ry ⟨d, ds, a, b, c, e, q⟩ => op_inD (hu65 hr) pins s σ H x y v u Q I rx ry ⟨d, ds, a, b, c, e, by simpa using q⟩) (fun pins s σ H x y v u Q I rx ry ⟨c, z, a, b, q⟩ => op_in_sign pins s σ H x y v u Q I rx ry ⟨c, z, a, b, by simpa using q⟩) (fun pins s σ H x y v u Q I rx ry ⟨a, o, ex, g, q⟩ => by
    subst ex
    obtain rfl : u = Value.ref a := ry
    exact d_in (by have := hr.un; omega) I g rx fun s3 I3 => ⟨.bl o.isSome, H, I3, rfl, by simpa using q⟩)
theorem do_notIn (hr : Room 0 X.A) : OpR X (compareOp .NotIn) (rD2 C opNotIn) :=
  do_inD true .NotIn hr op_notIn_seq (fun pins s σ H x y v u Q I rx ry ⟨d, ds, a, b, c, e, q⟩ => op_notInD (hu65 hr) pins s σ H x y v u Q I rx ry ⟨d, ds, a, b, c, e, by simpa using q⟩) (fun pins s σ H x y v u Q I rx ry ⟨c, z, a, b, q⟩ => op_notIn_sign pins s σ H x y v u Q I rx ry ⟨c, z, a, b, by simpa using q⟩) (fun pins s σ H x y v u Q I rx ry ⟨a, o, ex, g, q⟩ => by
    subst ex
    obtain rfl : u = Value.ref a := ry
    exact d_notIn (by have := hr.un; omega) I g rx fun s3 I3 => ⟨.bl (!o.isSome), H, I3, rfl, by simpa using q⟩)
theorem do_isN : OpR X (compareOp .Is) (rD2 C opIsN) := by
  intro pins s σ H x y v u Q I rx ry ⟨Z, m, h, a, b, sm, ra, rb, p⟩
  cases rb <;> first | exact False.elim p | skip
  refine op_isN pins s σ H _ _ v u Q I rx ry ⟨rfl, ?_⟩
  cases ra <;> exact p _ _ _ _ .refl sm (.bl _)
theorem do_notN : OpR X (compareOp .IsNot) (rD2 C opNotN) := by
  intro pins s σ H x y v u Q I rx ry ⟨Z, m, h, a, b, sm, ra, rb, p⟩
  cases rb <;> first | exact False.elim p | skip
  refine op_notN pins s σ H _ _ v u Q I rx ry ⟨rfl, ?_⟩
  cases ra <;> exact p _ _ _ _ .refl sm (.bl _)

/-! ### subscripts -/
theorem ix_dict (hu : X.A.units + 1 < cLine) : IxR X (fun x y H Q => ∃ a v, x = .ref a ∧ DGet H a y (some v) ∧ Q v H) := by
  intro value slice pins s σ H x y v u Q I rx ry ⟨a, w, ex, g, q⟩ hs
  subst ex
  obtain rfl : v = Value.ref a := rx
  have hT := dict_typeIs I g
  unfold subscriptTail
  refine wpAny_bind ?_
  rw [getitemInPython_of_ne hT.not_modules]
  refine wpAny_bind (wpAny_specialOf hT PySem.F.slot_dict_getitem.lookup ?_)
  have fin : wpAny (model X.prog X.w) X.A (subscripted slice false (.ref a) u) (fun r s₃ => wpAny (model X.prog X.w) X.A (letTemporaryGo value (.ref a) r >>= fun _ => pure r) (EP X pins σ Q) X.xe s₃) X.xe s := by
    rw [hs]
    exact wpAny_operating (wpAny_mono (d_getItem hu I g ry fun w' s3 I3 rw' => ⟨w, H, I3, rw', q⟩) (fun r s₃ h₃ => wpAny_bind (wpAny_letTemporaryGo (wpAny_pure h₃))) fun _ _ x => x)
  first
    | exact wpAny_pure (wpAny_bind fin)
    | exact wpAny_bind (wpAny_pure (wpAny_bind fin))
    | exact wpAny_bind fin
theorem do_ix (hK : C.K = X.K) (hr : Room 0 X.A) : IxR X (rD2 C opIx) := by
  intro value slice pins s σ H x y v u Q I rx ry ⟨Z, m, h, a, b, sm, ra, rb, p⟩ hs
  have dicts : Post C (Rep C) (fun _ _ _ => False) (ixD a b h) Z m H Q → wpAny (model X.prog X.w) X.A (subscriptTail value slice v u) (EP X pins σ Q) X.xe s := fun p => by
    unfold ixD at p
    split at p
    · rename_i l hl
      split at p
      · rename_i k hk
        split at p
        · rename_i d hd
          obtain ⟨n', a', kvs, e1, e2, e3, e4, e5, rk⟩ := dc_at sm ra hl
          obtain ⟨w, hw, rw'⟩ := (rk.val k).1 d hd
          have ek := key_rep rb hk
          refine ix_dict (by have := hr.un; omega) value slice pins s σ H _ _ v u Q I rx ry ⟨a', w, e4, ?_, p _ _ _ _ .refl sm rw'⟩ hs
          rw [ek, ← hw]
          exact DGet.k e5
        · exact False.elim p
      · exact False.elim p
    · exact False.elim p
  have lists : ∀ (i : Int) (l : List D), y = .int i → lsOf h a = some l → Post C (Rep C) (fun _ _ _ => False) (match atI l i with | some d => .ok d h | none => .err) Z m H Q → wpAny (model X.prog X.w) X.A (subscriptTail value slice v u) (EP X pins σ Q) X.xe s := fun i l ey e1 p => by
    subst ey
    obtain ⟨a1, v1, rfl, h1, r1⟩ := ls_at sm ra e1
    split at p
    · rename_i d hd
      obtain ⟨w, hw, rw'⟩ := atI_rep r1 hd
      exact ix_list value slice pins s σ H _ _ v u Q I rx ry ⟨a1, v1, i, w, rfl, rfl, .inl (.inl h1), hw, p _ _ _ _ .refl sm rw'⟩ hs
    · exact False.elim p
  cases rb with
  | int i =>
    cases a with
    | str z =>
      cases ra
      simp only [opIx] at p
      split at p
      · rename_i hl
        split at p
        · rename_i c hc
          exact ix_str value slice pins s σ H _ _ v u Q I rx ry ⟨z, i, c, rfl, rfl, sz_le hl, hc, p _ _ _ _ .refl sm (.str _)⟩ hs
        · exact False.elim p
      · exact False.elim p
    | scr ns =>
      cases ra with
      | @scr q _ hq =>
        simp only [opIx] at p
        split at p
        · rename_i n hn
          refine ix_list value slice pins s σ H _ _ v u Q I rx ry ⟨q, _, i, .int n, rfl, rfl, hK ▸ sqL_mono sm.sub hq, ?_, p _ _ _ _ .refl sm (.int _)⟩ hs
          rw [atI_map, hn]; rfl
        · exact False.elim p
    | tup l =>
      cases ra with
      | @tup q vs _ hz rl =>
        simp only [opIx] at p
        split at p
        · rename_i d hd
          obtain ⟨w, hw, rw'⟩ := atI_rep rl hd
          exact ix_tup value slice pins s σ H _ _ v u Q I rx ry ⟨q, vs, i, w, rfl, rfl, .inl (.inl (sm.sub _ _ hz)), hw, p _ _ _ _ .refl sm rw'⟩ hs
        · exact False.elim p
    | _ =>
      simp only [opIx] at p
      split at p
      · rename_i l hl; exact lists i l rfl hl p
      · exact dicts p
  | _ => exact dicts p
def rDS (C : Cn) (g : D → Option Int → Option Int → Hm → R D) : V → Option Int → Option Int → Hp → VK → Prop := fun x lo hi H Q => ∃ Z m h a, HSim C Z m h H ∧ Rep C Z m a x ∧ Post C (Rep C) (fun _ _ _ => False) (g a lo hi h) Z m H Q
theorem do_sl : SlR X (rDS C opSl) := by
  intro pins s σ H x v vl vu lo hi sl Q I rx hs pl pu ⟨Z, m, h, a, sm, ra, p⟩
  have lists : ∀ (l : List D), lsOf h a = some l → Post C (Rep C) (fun _ _ _ => False) (.ok (.lst (cutD l lo hi)) h) Z m H Q → ∃ T id, typeLookup (.type T) "__getitem__" = pure (some (.builtin id)) ∧ s.TypeIs v T ∧ wpAny (model X.prog X.w) X.A (getItem v (.ref sl)) (EP X pins σ Q) X.xe s := fun l e1 p => by
    obtain ⟨a1, v1, rfl, h1, r1⟩ := ls_at sm ra e1
    refine sl_list pins s σ H _ v vl vu lo hi sl Q I rx hs pl pu ⟨a1, v1, rfl, .inl (.inl h1), fun q hq => ?_⟩
    have xz := Ext.lay sm hq (.lst (cutV v1 lo hi))
    exact p _ _ _ _ xz (sm.lay hq _) (.lst upd_same ((cut_rep r1 lo hi).mono xz.sub (List.prefix_refl _)))
  cases a with
  | str z =>
    cases ra
    simp only [opSl] at p
    split at p
    · rename_i hl
      exact sl_str pins s σ H _ v vl vu lo hi sl Q I rx hs pl pu ⟨z, rfl, sz_le hl, p _ _ _ _ .refl sm (.str _)⟩
    · simp only [Post] at p
  | tup l =>
    cases ra with
    | @tup q vs _ hz rl =>
      simp only [opSl] at p
      refine sl_tupA pins s σ H _ v vl vu lo hi sl Q I rx hs pl pu ⟨q, vs, rfl, .inl (.inl (sm.sub _ _ hz)), fun hw => ?_, fun hw p' hp' => ?_⟩
      · have e : cutD l lo hi = l := by
          unfold cutD
          rw [rl.length, hw.1, hw.2, List.drop_zero, Nat.sub_zero, ← rl.length, List.take_length]
        rw [e] at p
        exact p _ _ _ _ .refl sm (.tup hz rl)
      · have xz := Ext.lay sm hp' (.tup (cutV vs lo hi))
        exact p _ _ _ _ xz (sm.lay hp' _) (.tup upd_same ((cut_rep rl lo hi).mono xz.sub (List.prefix_refl _)))
  | _ =>
    simp only [opSl] at p
    split at p
    · rename_i l hl; exact lists l hl p
    · exact False.elim p
theorem nox_sl : ∀ a lo hi h, NoX (opSl a lo hi h) := by
  intro a lo hi h e g
  unfold opSl
  repeat' split
  all_goals simp
structure PP (X : Cx) (C : Cn) (E : WX) (e : Option Expr) (f : PM) : Prop where
  ok : ∃ t : TO, PO X e t ∧ ∀ σ H Q, (∃ Z m v h, HSim C Z m h H ∧ EnvR C Z m v σ ∧ Post C (fun _ _ d v => v = d) (fun c d H' => E c d σ H') (f v h) Z m H Q) → t σ H Q
theorem dp_none : PP X C E none pN := ⟨_, po_none, fun σ H Q ⟨Z, m, v, h, s, e, p⟩ => p _ _ _ _ .refl s rfl⟩
theorem dp_some {a : Expr} {fa : EM} (ha : PE X a (denE C E fa)) : PP X C E (some a) (pE fa) := by
  refine ⟨_, po_some ha, fun σ H Q ⟨Z, m, v, h, s, e, p⟩ => ⟨Z, m, v, h, s, e, (p.bind (rep1 := Rep C)).imp fun x H1 ⟨Z1, m1, d, h1, x1, s1, r1, p1⟩ => ?_⟩⟩
  cases r1 with
  | int i => exact ⟨i, rfl, p1 _ _ _ _ .refl s1 rfl⟩
  | _ => exact False.elim p1
theorem de_sl {a : Expr} {lo hi : Option Expr} {p2 pos : Pos} {fa : EM} {fl fh : PM} (ha : PE X a (denE C E fa)) (hl : PP X C E lo fl) (hh : PP X C E hi fh) : PE X (.Subscript a (.Slice lo hi none p2) pos) (denE C E (eSl fa fl fh)) := by
  obtain ⟨tl, hl, kl⟩ := hl
  obtain ⟨th, hh, kh⟩ := hh
  refine pe_imp (pe_slice (do_sl (C := C)) ha hl hh) fun σ H Q ⟨Z, m, v, h, s, e, p⟩ => ?_
  refine ⟨Z, m, v, h, s, e, (p.bind (rep1 := Rep C)).imp fun x H1 ⟨Z1, m1, d, h1, x1, s1, r1, p1⟩ => ?_⟩
  refine kl _ _ _ ⟨Z1, m1, v, h1, s1, e.mono x1, (p1.bind (rep1 := fun _ _ d v => v = d)).imp fun l H2 ⟨Z2, m2, l', h2, x2, s2, r2, p2⟩ => ?_⟩
  subst r2
  refine kh _ _ _ ⟨Z2, m2, v, h2, s2, (e.mono x1).mono x2, (p2.bind (rep1 := fun _ _ d v => v = d)).imp fun l H3 ⟨Z3, m3, l', h3, x3, s3, r3, p3⟩ => ?_⟩
  subst r3
  exact ⟨Z3, m3, h3, d, s3, (r1.mono x2.sub x2.pre).mono x3.sub x3.pre, p3.nox (nox_sl _ _ _ _)⟩

/-! ### new lists that may change -/
def opSlN (x : D) (lo hi : Option Int) (h : Hm) : R D := match lsOf h x with
  | some l => .ok (.ref h.length) (h ++ [.lst (cutD l lo hi)])
  | none => .err
def eSlN (a : EM) (lo hi : PM) : EM := fun v h => (a v h).bind fun x h1 => (lo v h1).bind fun l h2 => (hi v h2).bind fun u h3 => opSlN x l u h3
theorem do_slN : SlR X (rDS C opSlN) := by
  intro pins s σ H x v vl vu lo hi sl Q I rx hs pl pu ⟨Z, m, h, a, sm, ra, p⟩
  unfold opSlN at p
  split at p
  · rename_i l e1
    obtain ⟨a1, v1, rfl, h1, r1⟩ := ls_at sm ra e1
    refine sl_list pins s σ H _ v vl vu lo hi sl Q I rx hs pl pu ⟨a1, v1, rfl, .inl (.inl h1), fun q hq => ?_⟩
    exact p _ _ _ _ (Ext.alloc sm hq _) (sm.alloc hq fun H' e => ⟨_, e, (cut_rep r1 lo hi).mono (fun _ _ z => z) (List.prefix_append _ _)⟩) (.ref (at_new sm.len))
  · simp only [Post] at p
theorem nox_slN : ∀ a lo hi h, NoX (opSlN a lo hi h) := by
  intro a lo hi h e g
  unfold opSlN
  repeat' split
  all_goals simp
theorem de_slN {a : Expr} {lo hi : Option Expr} {p2 pos : Pos} {fa : EM} {fl fh : PM} (ha : PE X a (denE C E fa)) (hl : PP X C E lo fl) (hh : PP X C E hi fh) : PE X (.Subscript a (.Slice lo hi none p2) pos) (denE C E (eSlN fa fl fh)) := by
  obtain ⟨tl, hl, kl⟩ := hl
  obtain ⟨th, hh, kh⟩ := hh
  refine pe_imp (pe_slice (do_slN (C := C)) ha hl hh) fun σ H Q ⟨Z, m, v, h, s, e, p⟩ => ?_
  refine ⟨Z, m, v, h, s, e, (p.bind (rep1 := Rep C)).imp fun x H1 ⟨Z1, m1, d, h1, x1, s1, r1, p1⟩ => ?_⟩
  refine kl _ _ _ ⟨Z1, m1, v, h1, s1, e.mono x1, (p1.bind (rep1 := fun _ _ d v => v = d)).imp fun l H2 ⟨Z2, m2, l', h2, x2, s2, r2, p2⟩ => ?_⟩
  subst r2
  refine kh _ _ _ ⟨Z2, m2, v, h2, s2, (e.mono x1).mono x2, (p2.bind (rep1 := fun _ _ d v => v = d)).imp fun l H3 ⟨Z3, m3, l', h3, x3, s3, r3, p3⟩ => ?_⟩
  subst r3
  exact ⟨Z3, m3, h3, d, s3, (r1.mono x2.sub x2.pre).mono x3.sub x3.pre, p3.nox (nox_slN _ _ _ _)⟩

/-! ### o[i] = e -/
def putIx (o i x : D) (h : Hm) : Option Hm := match o with
  | .ref n => match h[n]?, i with
    | some (.lst l), .int k => (ixN l.length k).map fun j => h.set n (.lst (l.set j x))
    | some (.dct l), i => if l.length < 16777216 then (keyD i).map fun k => h.set n (.dct (dPut i k x l)) else none
    | _, _ => none
  | _ => none
def sPut (fo fi fe : EM) : SM := fun v h => match (fe v h).bind (fun x h1 => (fo v h1).bind fun o h2 => (fi v h2).bind fun i h3 => match putIx o i x h3 with
    | some h4 => R.ok () h4
    | none => .err) with
  | .ok _ h4 => .nx v h4
  | .exc e h4 => .exc e v h4
  | .err => .err
def rSetDc : TSet := fun o i v H Q => ∃ a H', o = .ref a ∧ DPut H a i v H' ∧ Q H'
theorem set_dc (hu : X.A.units + 1 < cLine) : PSet X rSetDc := by
  intro pins s σ H o i v ov iv u Q I ro ri rv h
  obtain ⟨a, H', eo, g, q⟩ := h
  subst eo
  cases (show ov = Value.ref a from ro)
  exact d_setItem hu I g ri rv fun s' I' => ⟨H', I', q⟩
theorem set_both (hu : X.A.units + 1 < cLine) : PSet X (fun o i v H Q => rSetL o i v H Q ∨ rSetDc o i v H Q) := by
  intro pins s σ H o i v ov iv u Q I ro ri rv h
  rcases h with h | h
  · exact set_list pins s σ H o i v ov iv u Q I ro ri rv h
  · exact set_dc hu pins s σ H o i v ov iv u Q I ro ri rv h
theorem ds_put {o i e : Expr} {p1 pos : Pos} {fo fi fe : EM} (hr : Room 0 X.A) (he : PE X e (denE C E fe)) (ho : PE X o (denE C E fo)) (hi : PE X i (denE C E fi))
    (ha : ∀ v, assign (.Subscript o i p1) X.env v = (do
      let ov ← holding [v] (eval o X.env)
      let iv ← holding [v, ov] (eval i X.env)
      standAt p1
      holding [v, ov, iv] (setItem ov iv v)
      release [v, ov, iv] []) := by intro _; rfl)
    (hs : swapsWithSole [.Subscript o i p1] e pos.line X.env = pure false := by rfl) (hw : swappedStores [.Subscript o i p1] e X.env = pure none := by rfl)
    (h1 : (assignEach [.Subscript o i p1] X.env).map (·.2) = [assign (.Subscript o i p1) X.env] := by rfl) : PS X (.Assign [.Subscript o i p1] e pos) (denS C E (sPut fo fi fe)) := by
  refine ps_imp (ps_asg he (pg_sub ho hi (set_both (by have := hr.un; omega)) ha) hs hw h1) fun K σ H ⟨Z, m, v, h, s, ev, p⟩ => ?_
  have p : Post C (fun _ _ (_ : Unit) (_ : Unit) => True) (fun c d H' => E c d σ H') ((fe v h).bind (fun x h1 => (fo v h1).bind fun o h2 => (fi v h2).bind fun i h3 => match putIx o i x h3 with | some h4 => R.ok () h4 | none => .err)) Z m H fun _ H' => K.nx σ H' := by
    unfold sPut at p
    generalize (fe v h).bind (fun x h1 => (fo v h1).bind fun o h2 => (fi v h2).bind fun i h3 => match putIx o i x h3 with | some h4 => R.ok () h4 | none => .err) = r at p ⊢
    cases r with
    | ok _ h4 => exact fun Z' m' H' _ a b _ => p Z' m' H' σ a b (ev.mono a)
    | exc x h4 => exact fun Z' m' H' c od a b r => p Z' m' H' σ c od a b (ev.mono a) r
    | err => exact p
  refine ⟨Z, m, v, h, s, ev, (p.bind (rep1 := Rep C)).imp fun x H1 ⟨Z1, m1, x', h1, x1, s1, r1, p1⟩ => ?_⟩
  refine ⟨Z1, m1, v, h1, s1, ev.mono x1, (p1.bind (rep1 := Rep C)).imp fun o H2 ⟨Z2, m2, o', h2, x2, s2, r2, p2⟩ => ?_⟩
  refine ⟨Z2, m2, v, h2, s2, (ev.mono x1).mono x2, (p2.bind (rep1 := Rep C)).imp fun i H3 ⟨Z3, m3, i', h3, x3, s3, r3, p3⟩ => ?_⟩
  have rx := (r1.mono x2.sub x2.pre).mono x3.sub x3.pre
  have ro := r2.mono x3.sub x3.pre
  unfold putIx at p3
  cases ro with
  | @ref n a en =>
    simp only at p3
    cases q : h3[n]? with
    | none => simp [q] at p3; exact False.elim p3
    | some ob =>
      cases ob with
      | lst l =>
        cases r3 with
        | int k =>
          simp only [q] at p3
          obtain ⟨vs, hv, rl⟩ := s3.obj n a _ en q
          cases hj : ixN l.length k with
          | none => simp [hj] at p3; exact False.elim p3
          | some j =>
            simp only [hj, Option.map_some] at p3
            refine .inl ⟨a, vs, k, j, rfl, rfl, hv, by rw [← rl.length]; exact hj, ?_⟩
            have xz := Ext.put s3 (.lst (vs.set j x)) en
            exact p3 _ _ _ () xz (s3.put en q (fun z => nomatch z) fun H' e => ⟨_, e, rl.set rx j⟩) trivial
        | _ => simp [q] at p3; exact False.elim p3
      | dct l =>
        simp only [q] at p3
        split at p3
        · rename_i h4 he4
          split at he4
          · rename_i hlt
            cases hk : keyD i' with
            | none => rw [hk] at he4; exact nomatch he4
            | some k =>
              rw [hk] at he4
              injection he4 with he4
              subst he4
              obtain ⟨vs, hv, rk⟩ := s3.obj n a _ en q
              have ek := key_rep r3 hk
              subst ek
              refine .inr ⟨a, _, rfl, DPut.k hv (by rw [← rk.len, sizeLine_eq]; exact hlt), ?_⟩
              have xz := Ext.put s3 (.dK (putK vs k x)) en
              exact p3 _ _ _ () xz (s3.put en q (fun z => nomatch z) fun H' e => ⟨_, e, rk.put hk rx⟩) trivial
          · exact nomatch he4
        · exact False.elim p3
      | _ => simp [q] at p3; exact False.elim p3
  | _ => exact False.elim p3
end
end Dn

/-! DenI: methods of lists and texts, builtins. -/
set_option Elab.async false
set_option linter.all false
set_option maxRecDepth 100000
set_option maxHeartbeats 4000000
namespace Dn
open PySem PySem.Spec PyProof.Rows L2

/-! ### what they do -/
def strsOf : List D → Option (List Str)
  | [] => some []
  | .str x :: r => (strsOf r).map (x :: ·)
  | _ => none
def intsOf : List D → Option (List Int)
  | [] => some []
  | .int x :: r => (intsOf r).map (x :: ·)
  | _ => none
def blsOf : List D → Option (List Bool)
  | [] => some []
  | .bl x :: r => (blsOf r).map (x :: ·)
  | _ => none
theorem strsOf_map : ∀ ws : List Str, strsOf (ws.map D.str) = some ws
  | [] => rfl
  | w :: ws => by simp [strsOf, strsOf_map ws]
theorem intsOf_map : ∀ ws : List Int, intsOf (ws.map D.int) = some ws
  | [] => rfl
  | w :: ws => by simp [intsOf, intsOf_map ws]
theorem blsOf_map : ∀ ws : List Bool, blsOf (ws.map D.bl) = some ws
  | [] => rfl
  | w :: ws => by simp [blsOf, blsOf_map ws]
theorem strsOf_eq : ∀ {l : List D} {ws : List Str}, strsOf l = some ws → l = ws.map D.str
  | [], _, e => by cases e; rfl
  | d :: r, ws, e => by
    cases d with
    | str x =>
      simp only [strsOf] at e
      cases q : strsOf r with
      | none => rw [q] at e; cases e
      | some ws' => rw [q] at e; cases e; rw [List.map_cons, ← strsOf_eq q]
    | _ => cases e
theorem intsOf_eq : ∀ {l : List D} {ws : List Int}, intsOf l = some ws → l = ws.map D.int
  | [], _, e => by cases e; rfl
  | d :: r, ws, e => by
    cases d with
    | int x =>
      simp only [intsOf] at e
      cases q : intsOf r with
      | none => rw [q] at e; cases e
      | some ws' => rw [q] at e; cases e; rw [List.map_cons, ← intsOf_eq q]
    | _ => cases e
theorem blsOf_eq : ∀ {l : List D} {ws : List Bool}, blsOf l = some ws → l = ws.map D.bl
  | [], _, e => by cases e; rfl
  | d :: r, ws, e => by
    cases d with
    | bl x =>
      simp only [blsOf] at e
      cases q : blsOf r with
      | none => rw [q] at e; cases e
      | some ws' => rw [q] at e; cases e; rw [List.map_cons, ← blsOf_eq q]
    | _ => cases e

def bLen : FM := fun ds h => match ds with
  | [.str x] => if x.length ≤ 16777216 then .ok (.int x.length) h else .err
  | [.scr ns] => .ok (.int ns.length) h
  | [.tup l] => .ok (.int l.length) h
  | [d] => match lsOf h d with
    | some l => .ok (.int l.length) h
    | none => match dcOf h d with
      | some l => .ok (.int l.length) h
      | none => .err
  | _ => .err
def mxL : List Int → Int
  | [] => 0
  | x :: xs => xs.foldl max x
def mnL : List Int → Int
  | [] => 0
  | x :: xs => xs.foldl min x
def bMax : FM := fun ds h => match ds with
  | [.int a, .int b] => .ok (.int (max a b)) h
  | [d] => match lsOf h d with
    | some l => (match intsOf l with
      | some ns => if 0 < ns.length then .ok (.int (mxL ns)) h else .err
      | none => .err)
    | none => .err
  | _ => .err
def bMin : FM := fun ds h => match ds with
  | [.int a, .int b] => .ok (.int (min a b)) h
  | [d] => match lsOf h d with
    | some l => (match intsOf l with
      | some ns => if 0 < ns.length then .ok (.int (mnL ns)) h else .err
      | none => .err)
    | none => .err
  | _ => .err
def bSum : FM := fun ds h => match ds with
  | [d] => match lsOf h d with
    | some l => (match intsOf l with
      | some ns => .ok (.int ns.sum) h
      | none => .err)
    | none => .err
  | _ => .err
def bAll : FM := fun ds h => match ds with
  | [d] => match lsOf h d with
    | some l => (match blsOf l with
      | some ns => .ok (.bl (ns.all id)) h
      | none => .err)
    | none => .err
  | _ => .err
def bAny : FM := fun ds h => match ds with
  | [d] => match lsOf h d with
    | some l => (match blsOf l with
      | some ns => .ok (.bl (ns.any id)) h
      | none => .err)
    | none => .err
  | _ => .err
def bInt : FM := fun ds h => match ds with
  | [.int a] => .ok (.int a) h
  | [.bl b] => .ok (.int (if b then 1 else 0)) h
  | [.str x] => match intText? x with
    | some n => if x.length ≤ 640 then .ok (.int n) h else .err
    | none => .err
  | _ => .err
def strI (i : Int) : Str := (toString i : String)
def bStr : FM := fun ds h => match ds with
  | [.int a] => if a.natAbs < 2 ^ 64 then .ok (.str (strI a)) h else .err
  | _ => .err
def bList : FM := fun ds h => match ds with
  | [.tup l] => .ok (.lst l) h
  | [d] => match lsOf h d with
    | some l => .ok (.lst l) h
    | none => .err
  | _ => .err
/-- list(x), a list that may change -/
def bListN : FM := fun ds h => match ds with
  | [.tup l] => .ok (.ref h.length) (h ++ [.lst l])
  | [d] => match lsOf h d with
    | some l => .ok (.ref h.length) (h ++ [.lst l])
    | none => .err
  | _ => .err
def bTuple : FM := fun ds h => match ds with
  | [.tup l] => .ok (.tup l) h
  | [d] => match lsOf h d with
    | some l => .ok (.tup l) h
    | none => .err
  | _ => .err
/-- isinstance(x, T), T a built-in type -/
def tyD (h : Hm) : D → Option String
  | .non => some "NoneType" | .bl _ => some "bool" | .int _ => some "int" | .str _ => some "str" | .tup _ => some "tuple" | .lst _ => some "list"
  | .ref n => match h[n]? with
    | some (.lst _) => some "list"
    | some (.dct _) => some "dict"
    | _ => none
  | _ => none
def isTy (t T : String) : Bool := t == T || (t == "bool" && T == "int")
def isi (T : String) (d : D) (h : Hm) : R D := match tyD h d with
  | some t => .ok (.bl (isTy t T)) h
  | none => .err
/-! methods -/
abbrev MM := D → List D → Hm → R D
def mAppend : MM := fun d xs h => match d, xs with
  | .ref n, [x] => match h[n]? with
    | some (.lst l) => if l.length < 16777216 then .ok .non (h.set n (.lst (l ++ [x]))) else .err
    | _ => .err
  | _, _ => .err
def mExtend : MM := fun d xs h => match d, xs with
  | .ref n, [x] => match h[n]?, lsOf h x with
    | some (.lst l), some k => if l.length + k.length ≤ 16777216 then .ok .non (h.set n (.lst (l ++ k))) else .err
    | _, _ => .err
  | _, _ => .err
def mPop : MM := fun d xs h => match d, xs with
  | .ref n, [] => match h[n]? with
    | some (.lst l) => (match l[l.length - 1]? with
      | some x => .ok x (h.set n (.lst l.dropLast))
      | none => .err)
    | _ => .err
  | .ref n, [.int 0] => match h[n]? with
    | some (.lst (x :: l)) => .ok x (h.set n (.lst l))
    | _ => .err
  | _, _ => .err
def mInsert : MM := fun d xs h => match d, xs with
  | .ref n, [.int i, x] => match h[n]? with
    | some (.lst l) => if l.length < 16777216 ∧ 0 ≤ i ∧ i < 2 ^ 62 then .ok .non (h.set n (.lst (l.take i.toNat ++ [x] ++ l.drop i.toNat))) else .err
    | _ => .err
  | _, _ => .err
def mJoin : MM := fun d xs h => match d, xs with
  | .str a, [x] => match items h x with
    | some l => (match strsOf l with
      | some ys => if (ys.map (·.length)).sum + ys.length * a.length ≤ 16777216 then .ok (.str (Str.join a ys)) h else .err
      | none => .err)
    | none => .err
  | _, _ => .err
/-- the receiver is of that type -/
def isRc (T : String) (d : D) (h : Hm) : Bool := match d with
  | .str _ => T == "str"
  | d => (lsOf h d).isSome && T == "list"
def eM (T : String) (g : MM) (o : EM) (a : AM) : EM := fun v h => (o v h).bind fun x h1 => if isRc T x h1 then (a v h1).bind fun xs h2 => g x xs h2 else .err

theorem foldl_max (l : List Int) : ∀ x : Int, (l.foldl max x = x ∨ l.foldl max x ∈ l) ∧ x ≤ l.foldl max x ∧ ∀ y ∈ l, y ≤ l.foldl max x := by
  induction l with
  | nil => intro x; exact ⟨.inl rfl, Int.le_refl _, fun _ h => nomatch h⟩
  | cons a l ih =>
    intro x
    obtain ⟨h1, h2, h3⟩ := ih (max x a)
    rw [List.foldl_cons]
    refine ⟨?_, by omega, fun y hy => ?_⟩
    · rcases h1 with h1 | h1
      · rw [h1]
        by_cases hx : x ≤ a
        · rw [Int.max_eq_right hx]; exact .inr (List.mem_cons_self ..)
        · rw [Int.max_eq_left (by omega)]; exact .inl rfl
      · exact .inr (List.mem_cons_of_mem _ h1)
    · rcases List.mem_cons.mp hy with rfl | hy
      · omega
      · exact h3 y hy
theorem foldl_min (l : List Int) : ∀ x : Int, (l.foldl min x = x ∨ l.foldl min x ∈ l) ∧ l.foldl min x ≤ x ∧ ∀ y ∈ l, l.foldl min x ≤ y := by
  induction l with
  | nil => intro x; exact ⟨.inl rfl, Int.le_refl _, fun _ h => nomatch h⟩
  | cons a l ih =>
    intro x
    obtain ⟨h1, h2, h3⟩ := ih (min x a)
    rw [List.foldl_cons]
    refine ⟨?_, by omega, fun y hy => ?_⟩
    · rcases h1 with h1 | h1
      · rw [h1]
        by_cases hx : a ≤ x
        · rw [Int.min_eq_right hx]; exact .inr (List.mem_cons_self ..)
        · rw [Int.min_eq_left (by omega)]; exact .inl rfl
      · exact .inr (List.mem_cons_of_mem _ h1)
    · rcases List.mem_cons.mp hy with rfl | hy
      · omega
      · exact h3 y hy
theorem mxL_mem {l : List Int} (h : 0 < l.length) : mxL l ∈ l ∧ ∀ y ∈ l, y ≤ mxL l := by
  cases l with
  | nil => simp at h
  | cons x xs =>
    obtain ⟨h1, h2, h3⟩ := foldl_max xs x
    refine ⟨?_, fun y hy => ?_⟩
    · rcases h1 with h1 | h1
      · show xs.foldl max x ∈ x :: xs
        rw [h1]; exact List.mem_cons_self ..
      · exact List.mem_cons_of_mem _ h1
    · rcases List.mem_cons.mp hy with rfl | hy
      · exact h2
      · exact h3 y hy
theorem mnL_mem {l : List Int} (h : 0 < l.length) : mnL l ∈ l ∧ ∀ y ∈ l, mnL l ≤ y := by
  cases l with
  | nil => simp at h
  | cons x xs =>
    obtain ⟨h1, h2, h3⟩ := foldl_min xs x
    refine ⟨?_, fun y hy => ?_⟩
    · rcases h1 with h1 | h1
      · show xs.foldl min x ∈ x :: xs
        rw [h1]; exact List.mem_cons_self ..
      · exact List.mem_cons_of_mem _ h1
    · rcases List.mem_cons.mp hy with rfl | hy
      · exact h2
      · exact h3 y hy

section
variable {X : Cx} {C : Cn} {E : WX}
theorem repL_one {Z : Hp} {m : List Addr} {d : D} {xs : List V} (r : RepL C Z m [d] xs) : ∃ x, xs = [x] ∧ Rep C Z m d x := by
  cases r with
  | cons a b => cases b; exact ⟨_, rfl, a⟩
theorem nox_bLen : ∀ a h, NoX (bLen a h) := by intro a h e g; unfold bLen; repeat' split
                                               all_goals simp
theorem nox_bMax : ∀ a h, NoX (bMax a h) := by intro a h e g; unfold bMax; repeat' split
                                               all_goals simp
theorem nox_bMin : ∀ a h, NoX (bMin a h) := by intro a h e g; unfold bMin; repeat' split
                                               all_goals simp
theorem nox_bSum : ∀ a h, NoX (bSum a h) := by intro a h e g; unfold bSum; repeat' split
                                               all_goals simp
theorem nox_bAll : ∀ a h, NoX (bAll a h) := by intro a h e g; unfold bAll; repeat' split
                                               all_goals simp
theorem nox_bAny : ∀ a h, NoX (bAny a h) := by intro a h e g; unfold bAny; repeat' split
                                               all_goals simp
theorem nox_bInt : ∀ a h, NoX (bInt a h) := by intro a h e g; unfold bInt; repeat' split
                                               all_goals simp
theorem nox_bStr : ∀ a h, NoX (bStr a h) := by intro a h e g; unfold bStr; repeat' split
                                               all_goals simp
theorem nox_bList : ∀ a h, NoX (bList a h) := by intro a h e g; unfold bList; repeat' split
                                                 all_goals simp
theorem nox_bListN : ∀ a h, NoX (bListN a h) := by intro a h e g; unfold bListN; repeat' split
                                                   all_goals simp
theorem nox_bTuple : ∀ a h, NoX (bTuple a h) := by intro a h e g; unfold bTuple; repeat' split
                                                   all_goals simp
theorem nox_add : ∀ a b h, NoX (opAdd a b h) := by intro a b h e g; unfold opAdd; repeat' split
                                                   all_goals simp
theorem nox_sub : ∀ a b h, NoX (opSub a b h) := by intro a b h e g; unfold opSub; repeat' split
                                                   all_goals simp
theorem nox_mul : ∀ a b h, NoX (opMul a b h) := by intro a b h e g; unfold opMul; repeat' split
                                                   all_goals simp
theorem nox_mod : ∀ a b h, NoX (opMod a b h) := by intro a b h e g; unfold opMod; repeat' split
                                                   all_goals simp
theorem nox_div : ∀ a b h, NoX (opDiv a b h) := by intro a b h e g; unfold opDiv; repeat' split
                                                   all_goals simp
theorem nox_pow : ∀ a b h, NoX (opPow a b h) := by intro a b h e g; unfold opPow; repeat' split
                                                   all_goals simp
theorem nox_neg : ∀ a h, NoX (opNeg a h) := by intro a h e g; unfold opNeg; repeat' split
                                               all_goals simp
theorem nox_lt : ∀ a b h, NoX (opLt a b h) := by intro a b h e g; unfold opLt; repeat' split
                                                 all_goals simp
theorem nox_le : ∀ a b h, NoX (opLe a b h) := by intro a b h e g; unfold opLe; repeat' split
                                                 all_goals simp
theorem nox_gt : ∀ a b h, NoX (opGt a b h) := by intro a b h e g; unfold opGt; repeat' split
                                                 all_goals simp
theorem nox_ge : ∀ a b h, NoX (opGe a b h) := by intro a b h e g; unfold opGe; repeat' split
                                                 all_goals simp
theorem nox_eq : ∀ a b h, NoX (opEq a b h) := by intro a b h e g; unfold opEq; repeat' split
                                                 all_goals simp
theorem nox_ne : ∀ a b h, NoX (opNe a b h) := by intro a b h e g; unfold opNe; repeat' split
                                                 all_goals simp
theorem nox_ixD : ∀ a b h, NoX (ixD a b h) := by intro a b h e g; unfold ixD; repeat' split
                                                 all_goals simp
theorem nox_inK (n : Bool) : ∀ a b h, NoX (inK n a b h) := by intro a b h e g; unfold inK; repeat' split
                                                              all_goals simp
theorem nox_inD (n : Bool) : ∀ a b h, NoX (inD n a b h) := by intro a b h e g; unfold inD; repeat' split
                                                              all_goals first | exact nox_inK _ _ _ _ _ _ | simp
theorem nox_in : ∀ a b h, NoX (opIn a b h) := nox_inD false
theorem nox_notIn : ∀ a b h, NoX (opNotIn a b h) := nox_inD true
theorem nox_isN : ∀ a b h, NoX (opIsN a b h) := by intro a b h e g; unfold opIsN; repeat' split
                                                   all_goals simp
theorem nox_notN : ∀ a b h, NoX (opNotN a b h) := by intro a b h e g; unfold opNotN; repeat' split
                                                     all_goals simp
theorem nox_ix : ∀ a b h, NoX (opIx a b h) := by intro a b h e g; unfold opIx; repeat' split
                                                 all_goals first | exact nox_ixD _ _ _ _ _ | simp
theorem nox_append : ∀ d a h, NoX (mAppend d a h) := by intro d a h e g; unfold mAppend; repeat' split
                                                        all_goals simp
theorem nox_extend : ∀ d a h, NoX (mExtend d a h) := by intro d a h e g; unfold mExtend; repeat' split
                                                        all_goals simp
theorem nox_pop : ∀ d a h, NoX (mPop d a h) := by intro d a h e g; unfold mPop; repeat' split
                                                  all_goals simp
theorem nox_insert : ∀ d a h, NoX (mInsert d a h) := by intro d a h e g; unfold mInsert; repeat' split
                                                        all_goals simp
theorem nox_join : ∀ d a h, NoX (mJoin d a h) := by intro d a h e g; unfold mJoin; repeat' split
                                                    all_goals simp

theorem db_len (hK : C.K = X.K) : CallR X (.builtin "len") (rDF C bLen) := by
  intro pins s σ H xs us Q I r ⟨Z, m, h, ds, sm, rd, p⟩
  unfold bLen at p
  split at p
  · obtain ⟨x, rfl, rx⟩ := repL_one rd
    cases rx
    split at p
    · rename_i hl; exact call_len_str pins s σ H _ us Q I r ⟨_, rfl, sz_le hl, p _ _ _ _ .refl sm (.int _)⟩
    · exact False.elim p
  · obtain ⟨x, rfl, rx⟩ := repL_one rd
    cases rx with
    | scr hq =>
      refine call_len_seq pins s σ H _ us Q I r ⟨_, _, rfl, .inl (hK ▸ sqL_mono sm.sub hq), ?_⟩
      rw [List.length_map]
      exact p _ _ _ _ .refl sm (.int _)
  · obtain ⟨x, rfl, rx⟩ := repL_one rd
    cases rx with
    | tup hq rl =>
      refine call_len_seq pins s σ H _ us Q I r ⟨_, _, rfl, .inr (.inl (.inl (sm.sub _ _ hq))), ?_⟩
      rw [← rl.length]
      exact p _ _ _ _ .refl sm (.int _)
  · obtain ⟨x, rfl, rx⟩ := repL_one rd
    split at p
    · rename_i l hl
      obtain ⟨a, vs, rfl, hv, rl⟩ := ls_at sm rx hl
      refine call_len_seq pins s σ H _ us Q I r ⟨_, _, rfl, .inl (.inl (.inl hv)), ?_⟩
      rw [← rl.length]
      exact p _ _ _ _ .refl sm (.int _)
    · split at p
      · rename_i l hl
        obtain ⟨n, a, kvs, _, _, _, e4, e5, rk⟩ := dc_at sm rx hl
        subst e4
        obtain ⟨u, eu, ru⟩ := vals1 r
        subst eu
        obtain rfl : u = Value.ref a := ru
        refine d_len I (.inl e5) fun t s' I' => ⟨.int kvs.length, H, I', ⟨t, rfl⟩, ?_⟩
        rw [← rk.len]
        exact p _ _ _ _ .refl sm (.int _)
      · exact False.elim p
  · exact False.elim p
theorem db_max (hc : X.calm = true) : CallR X (.builtin "max") (rDF C bMax) := by
  intro pins s σ H xs us Q I r ⟨Z, m, h, ds, sm, rd, p⟩
  unfold bMax at p
  split at p
  · rename_i a b
    cases rd with
    | cons ra rd =>
      cases rd with
      | cons rb rd =>
        cases rd; cases ra; cases rb
        refine call_max2 hc pins s σ H _ us Q I r ⟨_, _, rfl, ?_⟩
        have e : (if b > a then b else a) = max a b := by
          rw [Int.max_def]; split <;> split <;> omega
        rw [e]
        exact p _ _ _ _ .refl sm (.int _)
  · obtain ⟨x, rfl, rx⟩ := repL_one rd
    split at p
    · rename_i l hl
      split at p
      · rename_i ns hn
        split at p
        · rename_i hpos
          obtain ⟨a, vs, rfl, hv, rl⟩ := ls_at sm rx hl
          have e := intsOf_eq hn
          subst e
          cases rl.ints
          refine cr_max hc pins s σ H _ us Q I r ⟨a, ns, rfl, .inl (.inl hv), hpos, fun k hk hub => ?_⟩
          obtain ⟨h1, h2⟩ := mxL_mem hpos
          have : k = mxL ns := Int.le_antisymm (h2 k hk) (hub _ h1)
          rw [this]
          exact p _ _ _ _ .refl sm (.int _)
        · exact False.elim p
      · exact False.elim p
    · exact False.elim p
  · exact False.elim p
theorem db_min (hc : X.calm = true) : CallR X (.builtin "min") (rDF C bMin) := by
  intro pins s σ H xs us Q I r ⟨Z, m, h, ds, sm, rd, p⟩
  unfold bMin at p
  split at p
  · rename_i a b
    cases rd with
    | cons ra rd =>
      cases rd with
      | cons rb rd =>
        cases rd; cases ra; cases rb
        refine call_min2 hc pins s σ H _ us Q I r ⟨_, _, rfl, ?_⟩
        have e : (if b < a then b else a) = min a b := by
          rw [Int.min_def]; split <;> split <;> omega
        rw [e]
        exact p _ _ _ _ .refl sm (.int _)
  · obtain ⟨x, rfl, rx⟩ := repL_one rd
    split at p
    · rename_i l hl
      split at p
      · rename_i ns hn
        split at p
        · rename_i hpos
          obtain ⟨a, vs, rfl, hv, rl⟩ := ls_at sm rx hl
          have e := intsOf_eq hn
          subst e
          cases rl.ints
          refine cr_min hc pins s σ H _ us Q I r ⟨a, ns, rfl, .inl (.inl hv), hpos, fun k hk hub => ?_⟩
          obtain ⟨h1, h2⟩ := mnL_mem hpos
          have : k = mnL ns := Int.le_antisymm (hub _ h1) (h2 k hk)
          rw [this]
          exact p _ _ _ _ .refl sm (.int _)
        · exact False.elim p
      · exact False.elim p
    · exact False.elim p
  · exact False.elim p
theorem db_sum (hc : X.calm = true) : CallR X (.builtin "sum") (rDF C bSum) := by
  intro pins s σ H xs us Q I r ⟨Z, m, h, ds, sm, rd, p⟩
  unfold bSum at p
  split at p
  · obtain ⟨x, rfl, rx⟩ := repL_one rd
    split at p
    · rename_i l hl
      split at p
      · rename_i ns hn
        obtain ⟨a, vs, rfl, hv, rl⟩ := ls_at sm rx hl
        have e := intsOf_eq hn
        subst e
        cases rl.ints
        exact cr_sum hc pins s σ H _ us Q I r ⟨a, ns, rfl, .inl (.inl hv), p _ _ _ _ .refl sm (.int _)⟩
      · exact False.elim p
    · exact False.elim p
  · exact False.elim p
theorem db_all (hc : X.calm = true) : CallR X (.builtin "all") (rDF C bAll) := by
  intro pins s σ H xs us Q I r ⟨Z, m, h, ds, sm, rd, p⟩
  unfold bAll at p
  split at p
  · obtain ⟨x, rfl, rx⟩ := repL_one rd
    split at p
    · rename_i l hl
      split at p
      · rename_i ns hn
        obtain ⟨a, vs, rfl, hv, rl⟩ := ls_at sm rx hl
        have e := blsOf_eq hn
        subst e
        cases rl.bls
        exact cr_all hc pins s σ H _ us Q I r ⟨a, ns, rfl, .inl (.inl hv), p _ _ _ _ .refl sm (.bl _)⟩
      · exact False.elim p
    · exact False.elim p
  · exact False.elim p
theorem db_any (hc : X.calm = true) : CallR X (.builtin "any") (rDF C bAny) := by
  intro pins s σ H xs us Q I r ⟨Z, m, h, ds, sm, rd, p⟩
  unfold bAny at p
  split at p
  · obtain ⟨x, rfl, rx⟩ := repL_one rd
    split at p
    · rename_i l hl
      split at p
      · rename_i ns hn
        obtain ⟨a, vs, rfl, hv, rl⟩ := ls_at sm rx hl
        have e := blsOf_eq hn
        subst e
        cases rl.bls
        exact cr_any hc pins s σ H _ us Q I r ⟨a, ns, rfl, .inl (.inl hv), p _ _ _ _ .refl sm (.bl _)⟩
      · exact False.elim p
    · exact False.elim p
  · exact False.elim p
theorem db_int : CallR X (.type "int") (rDF C bInt) := by
  intro pins s σ H xs us Q I r ⟨Z, m, h, ds, sm, rd, p⟩
  unfold bInt at p
  split at p
  · obtain ⟨x, rfl, rx⟩ := repL_one rd
    cases rx
    exact call_int1 pins s σ H _ us Q I r (.inl ⟨_, rfl, p _ _ _ _ .refl sm (.int _)⟩)
  · obtain ⟨x, rfl, rx⟩ := repL_one rd
    cases rx
    exact call_int1 pins s σ H _ us Q I r (.inr ⟨_, rfl, p _ _ _ _ .refl sm (.int _)⟩)
  · obtain ⟨x, rfl, rx⟩ := repL_one rd
    cases rx
    split at p
    · rename_i n hn
      split at p
      · rename_i hl; exact call_int_str pins s σ H _ us Q I r ⟨_, n, rfl, hn, hl, p _ _ _ _ .refl sm (.int _)⟩
      · exact False.elim p
    · exact False.elim p
  · exact False.elim p
theorem db_str : CallR X (.type "str") (rDF C bStr) := by
  intro pins s σ H xs us Q I r ⟨Z, m, h, ds, sm, rd, p⟩
  unfold bStr at p
  split at p
  · obtain ⟨x, rfl, rx⟩ := repL_one rd
    cases rx
    split at p
    · rename_i hl
      exact call_str_int pins s σ H _ us Q I r ⟨_, rfl, Nat.lt_of_lt_of_le (PySem.Flt.log2_lt_of (by decide : 0 < 64) hl) (by decide), p _ _ _ _ .refl sm (.str _)⟩
    · exact False.elim p
  · exact False.elim p
theorem db_list : CallR X (.type "list") (rDF C bList) := by
  intro pins s σ H xs us Q I r ⟨Z, m, h, ds, sm, rd, p⟩
  unfold bList at p
  split at p
  · obtain ⟨x, rfl, rx⟩ := repL_one rd
    cases rx with
    | tup hq rl =>
      refine call_list_of pins s σ H _ us Q I r ⟨_, _, rfl, .inr (.inl (.inl (sm.sub _ _ hq))), fun q hq' => ?_⟩
      exact p _ _ _ _ (Ext.lay sm hq' _) (sm.lay hq' _) (.lst upd_same (rl.mono (Ext.lay sm hq' _).sub (List.prefix_refl _)))
  · obtain ⟨x, rfl, rx⟩ := repL_one rd
    split at p
    · rename_i l hl
      obtain ⟨a, vs, rfl, hv, rl⟩ := ls_at sm rx hl
      refine call_list_of pins s σ H _ us Q I r ⟨_, _, rfl, .inl (.inl (.inl hv)), fun q hq' => ?_⟩
      have xz := Ext.lay sm hq' (.lst vs)
      exact p _ _ _ _ xz (sm.lay hq' _) (.lst upd_same (rl.mono xz.sub (List.prefix_refl _)))
    · exact False.elim p
  · exact False.elim p
theorem db_listN : CallR X (.type "list") (rDF C bListN) := by
  intro pins s σ H xs us Q I r ⟨Z, m, h, ds, sm, rd, p⟩
  unfold bListN at p
  split at p
  · obtain ⟨x, rfl, rx⟩ := repL_one rd
    cases rx with
    | tup hq rl =>
      refine call_list_of pins s σ H _ us Q I r ⟨_, _, rfl, .inr (.inl (.inl (sm.sub _ _ hq))), fun q hq' => ?_⟩
      exact p _ _ _ _ (Ext.alloc sm hq' _) (sm.alloc hq' fun H' e => ⟨_, e, rl.mono (fun _ _ z => z) (List.prefix_append _ _)⟩) (.ref (at_new sm.len))
  · obtain ⟨x, rfl, rx⟩ := repL_one rd
    split at p
    · rename_i l hl
      obtain ⟨a, vs, rfl, hv, rl⟩ := ls_at sm rx hl
      refine call_list_of pins s σ H _ us Q I r ⟨_, _, rfl, .inl (.inl (.inl hv)), fun q hq' => ?_⟩
      exact p _ _ _ _ (Ext.alloc sm hq' _) (sm.alloc hq' fun H' e => ⟨_, e, rl.mono (fun _ _ z => z) (List.prefix_append _ _)⟩) (.ref (at_new sm.len))
    · exact False.elim p
  · exact False.elim p
theorem db_tuple : CallR X (.type "tuple") (rDF C bTuple) := by
  intro pins s σ H xs us Q I r ⟨Z, m, h, ds, sm, rd, p⟩
  unfold bTuple at p
  split at p
  · obtain ⟨x, rfl, rx⟩ := repL_one rd
    cases rx with
    | tup hq rl => exact call_tuple_of pins s σ H _ us Q I r ⟨_, _, rfl, .inr ⟨.inl (.inl (sm.sub _ _ hq)), p _ _ _ _ .refl sm (.tup hq rl)⟩⟩
  · obtain ⟨x, rfl, rx⟩ := repL_one rd
    split at p
    · rename_i l hl
      obtain ⟨a, vs, rfl, hv, rl⟩ := ls_at sm rx hl
      refine call_tuple_of pins s σ H _ us Q I r ⟨_, _, rfl, .inl ⟨.inl (.inl hv), fun q hq' => ?_⟩⟩
      have xz := Ext.lay sm hq' (.tup vs)
      exact p _ _ _ _ xz (sm.lay hq' _) (.tup upd_same (rl.mono xz.sub (List.prefix_refl _)))
    · exact False.elim p
  · exact False.elim p

/-! ### isinstance -/
/-- the built-in types that are asked -/
def tysA : List String := ["int", "bool", "str", "tuple", "list", "dict"]
theorem kit_all : (["NoneType", "bool", "int", "str", "tuple", "list", "dict"].all fun t => tysA.all fun T => kitB t T == some (isTy t T)) = true := by decide +kernel
theorem kit_is {t T : String} (ht : t ∈ ["NoneType", "bool", "int", "str", "tuple", "list", "dict"]) (hT : T ∈ tysA) : kitB t T = some (isTy t T) := by
  have := List.all_eq_true.mp (List.all_eq_true.mp kit_all t ht) T hT
  exact beq_iff_eq.mp this
theorem nox_isi (T : String) : ∀ a h, NoX (isi T a h) := by intro a h e g; unfold isi; repeat' split
                                                            all_goals simp
theorem de_isi {T : String} {x : Str} {a : Expr} {p pt pos : Pos} {fa : EM} (hT : T ∈ tysA) (hg : Gl X "isinstance") (hm : X.mg "isinstance" = none) (hv : bootBuiltins "isinstance" = some (.builtin "isinstance")) (hgT : Gl X x) (hmT : X.mg x = none) (hvT : bootBuiltins x = some (.type T)) (ha : PE X a (denE C E fa))
    (hnT : x ≠ "__name__" := by decide) (hdT : (x == ("__debug__" : Str)) = false := by decide)
    (he : starEach [a, .Name x pt] X.env = (false, eval a X.env) :: starEach [.Name x pt] X.env := by rfl) (he2 : starEach [.Name x pt] X.env = (false, eval (.Name x pt) X.env) :: starEach [] X.env := by rfl)
    (hpl : (backTo pos (starEach [.Name x pt] X.env)).any (·.1) = false := by rfl) : PE X (.Call (.Name "isinstance" p) [a, .Name x pt] [] pos) (denE C E (eU (isi T) fa)) := by
  refine pe_imp (pe_callB call_isi hg hm hv (pa_cons ha (pa_cons (pe_bltn (v := .ty T) hgT hmT hvT rfl hnT hdT) pa_nil he2) he) (by decide) (by decide) he hpl) fun σ H Q ⟨Z, m, v, h, s, e, p⟩ => ?_
  refine ⟨Z, m, v, h, s, e, (p.bind (rep1 := Rep C)).imp fun y H1 ⟨Z1, m1, d, h1, x1, s1, r1, p1⟩ => ?_⟩
  have p1 := p1.nox (nox_isi T _ _)
  unfold isi at p1
  have fin : ∀ (t : String), t ∈ ["NoneType", "bool", "int", "str", "tuple", "list", "dict"] → tyD h1 d = some t → TyX X.K H1 y (.type t) → ∃ (x c : V) (t u : Value) (b : Bool), [y, V.ty T] = [x, c] ∧ ClsV c u ∧ TyX X.K H1 x t ∧ PySem.W.kitOne X.K t u = some b ∧ Q (.bl b) H1 := fun t ht e ty => by
    rw [e] at p1
    exact ⟨y, .ty T, .type t, .type T, isTy t T, rfl, .ty T, ty, kit_ty (kit_is ht hT), p1 _ _ _ _ .refl s1 (.bl _)⟩
  cases r1 with
  | non => exact fin _ (by decide) rfl (.base .non)
  | bl b => exact fin _ (by decide) rfl (.base (.bl b))
  | int b => exact fin _ (by decide) rfl (.base (.int b))
  | str b => exact fin _ (by decide) rfl (.base (.str b))
  | tup hq rl => exact fin _ (by decide) rfl (.base (.tup (s1.sub _ _ hq)))
  | lst hq rl => exact fin _ (by decide) rfl (.base (.lst (s1.sub _ _ hq)))
  | scr hq => exact False.elim p1
  | exn0 _ _ => exact False.elim p1
  | exn1 _ _ _ _ => exact False.elim p1
  | @ref n a en =>
    unfold tyD at p1
    cases q : h1[n]? with
    | none => simp [q] at p1; exact False.elim p1
    | some o =>
      cases o with
      | lst l =>
        obtain ⟨vs, hv, rl⟩ := s1.obj n a _ en q
        exact fin "list" (by decide) (by unfold tyD; simp [q]) (.base (.lst hv))
      | dct l =>
        obtain ⟨vs, hv, rl⟩ := s1.obj n a _ en q
        exact fin "dict" (by decide) (by unfold tyD; simp [q]) (.base (.dK hv))
      | _ => simp [q] at p1; exact False.elim p1

/-! ### methods -/
def rDM (C : Cn) (g : MM) : V → List V → Hp → VK → Prop := fun x xs H Q => ∃ Z m h d ds, HSim C Z m h H ∧ Rep C Z m d x ∧ RepL C Z m ds xs ∧ Post C (Rep C) (fun _ _ _ => False) (g d ds h) Z m H Q
theorem tyV_rc {T : String} {Z : Hp} {m : List Addr} {h : Hm} {H : Hp} {d : D} {x : V} (s : HSim C Z m h H) (r : Rep C Z m d x) (e : isRc T d h = true) : tyV X.K T x H := by
  have ls : ∀ l, lsOf h d = some l → T = "list" → tyV X.K T x H := fun l hl ht => by
    obtain ⟨a, vs, rfl, hv, _⟩ := ls_at s r hl
    exact .inl ⟨ht, vs, .inl (.inl hv)⟩
  cases d with
  | str z => cases r; exact beq_iff_eq.mp e
  | _ =>
    simp only [isRc, Bool.and_eq_true, beq_iff_eq] at e
    obtain ⟨l, hl⟩ := Option.isSome_iff_exists.mp e.1
    exact ls l hl e.2
theorem de_bm {T id : String} {name : Str} {o a : Expr} {es : List Expr} {apos cpos : Pos} {g : MM} {fo : EM} {fa : AM} (pa : PlainAttrs T) (slot : Slot T name id) (hty : typeOf (.builtin id) = pure (.type "method_descriptor")) (hm : MtR X id (rDM C g)) (hx : ∀ d a h, NoX (g d a h)) (ho : PE X o (denE C E fo)) (ha : PA X (a :: es) (denA C E fa))
    (hbase : attributeBase o name X.env (eval o X.env) = eval o X.env := by rfl)
    (hfew : ((backTo cpos (starEach (a :: es) X.env)).all (fun x => !x.1) && (backToKw cpos (keywordEach [] X.env)).all (fun x => x.1.isSome)
      && decide ((a :: es).length + ([] : List Keyword).length + (if ([] : List Keyword).isEmpty then 0 else 1) < 30)) = true := by rfl)
    (hline : (apos.endLine == cpos.line) = true := by rfl) (hs : starEach (a :: es) X.env = (false, eval a X.env) :: starEach es X.env := by rfl) (hplain : (backTo cpos (starEach es X.env)).any (·.1) = false := by rfl) :
    PE X (.Call (.Attribute o name apos) (a :: es) [] cpos) (denE C E (eM T g fo fa)) := by
  refine pe_imp (pe_bm pa slot hty hm ho ha hbase hfew hline hs hplain) fun σ H Q ⟨Z, m, v, h, s, e, p⟩ => ?_
  refine ⟨Z, m, v, h, s, e, (p.bind (rep1 := Rep C)).imp fun y H1 ⟨Z1, m1, d, h1, x1, s1, r1, p1⟩ => ?_⟩
  split at p1
  · rename_i hr
    refine ⟨tyV_rc s1 r1 hr, Z1, m1, v, h1, s1, e.mono x1, (p1.bind (rep1 := RepL C)).imp fun ys H2 ⟨Z2, m2, ds, h2, x2, s2, r2, p2⟩ => ?_⟩
    exact ⟨Z2, m2, h2, d, ds, s2, r1.mono x2.sub x2.pre, r2, p2.nox (hx _ _ _)⟩
  · exact False.elim p1
theorem de_bm0 {T id : String} {name : Str} {o : Expr} {apos cpos : Pos} {g : MM} {fo : EM} (pa : PlainAttrs T) (slot : Slot T name id) (hty : typeOf (.builtin id) = pure (.type "method_descriptor")) (hm : MtR X id (rDM C g)) (hx : ∀ d a h, NoX (g d a h)) (ho : PE X o (denE C E fo))
    (hbase : attributeBase o name X.env (eval o X.env) = eval o X.env := by rfl) (hline : (apos.endLine == cpos.line) = true := by rfl) : PE X (.Call (.Attribute o name apos) [] [] cpos) (denE C E (eM T g fo aN)) := by
  refine pe_imp (pe_bm0 pa slot hty hm ho hbase hline) fun σ H Q ⟨Z, m, v, h, s, e, p⟩ => ?_
  refine ⟨Z, m, v, h, s, e, (p.bind (rep1 := Rep C)).imp fun y H1 ⟨Z1, m1, d, h1, x1, s1, r1, p1⟩ => ?_⟩
  split at p1
  · rename_i hr
    exact ⟨tyV_rc s1 r1 hr, Z1, m1, h1, d, [], s1, r1, .nil, Post.nox p1 (hx _ _ _)⟩
  · exact False.elim p1
theorem dm_append : MtR X "list.append" (rDM C mAppend) := by
  intro pins s σ H x xs v us Q I rx rs ⟨Z, m, h, d, ds, sm, rd, rds, p⟩
  unfold mAppend at p
  split at p
  · rename_i n y
    cases rd with
    | @ref _ a en =>
      obtain ⟨z, rfl, rz⟩ := repL_one rds
      split at p
      · rename_i l hl
        split at p
        · rename_i hlen
          obtain ⟨vs, hv, rl⟩ := sm.obj n a _ en hl
          refine mt_append pins s σ H _ _ v us Q I rx rs ⟨a, vs, z, rfl, rfl, hv, by rw [sizeLine_eq, ← rl.length]; exact hlen, ?_⟩
          exact p _ _ _ _ (Ext.put sm _ en) (sm.put en hl (fun z => nomatch z) fun H' e => ⟨_, e, rl.append (.one rz)⟩) .non
        · exact False.elim p
      · exact False.elim p
  · exact False.elim p
theorem dm_extend : MtR X "list.extend" (rDM C mExtend) := by
  intro pins s σ H x xs v us Q I rx rs ⟨Z, m, h, d, ds, sm, rd, rds, p⟩
  unfold mExtend at p
  split at p
  · rename_i n y
    cases rd with
    | @ref _ a en =>
      obtain ⟨z, rfl, rz⟩ := repL_one rds
      split at p
      · rename_i l k hl hk
        split at p
        · rename_i hlen
          obtain ⟨vs, hv, rl⟩ := sm.obj n a _ en hl
          obtain ⟨b, ws, rfl, hw, rk⟩ := ls_at sm rz hk
          refine mt_extend pins s σ H _ _ v us Q I rx rs ⟨a, b, vs, ws, rfl, rfl, hv, hw, by rw [sizeLine_eq, ← rl.length, ← rk.length]; exact hlen, ?_⟩
          exact p _ _ _ _ (Ext.put sm _ en) (sm.put en hl (fun z => nomatch z) fun H' e => ⟨_, e, rl.append rk⟩) .non
        · exact False.elim p
      · exact False.elim p
  · exact False.elim p
theorem dm_pop : MtR X "list.pop" (rDM C mPop) := by
  intro pins s σ H x xs v us Q I rx rs ⟨Z, m, h, d, ds, sm, rd, rds, p⟩
  unfold mPop at p
  split at p
  · rename_i n
    cases rd with
    | @ref _ a en =>
      cases rds
      split at p
      · rename_i l hl
        split at p
        · rename_i y hy
          obtain ⟨vs, hv, rl⟩ := sm.obj n a _ en hl
          obtain ⟨w, hw, rw'⟩ := rl.get hy
          rw [rl.length] at hw
          refine mt_pop pins s σ H _ _ v us Q I rx rs ⟨a, vs, w, rfl, rfl, hv, hw, ?_⟩
          refine p _ _ _ _ (Ext.put sm _ en) (sm.put en hl (fun z => nomatch z) fun H' e => ⟨_, e, ?_⟩) rw'
          rw [List.dropLast_eq_take, List.dropLast_eq_take, rl.length]
          exact rl.take _
        · exact False.elim p
      · exact False.elim p
  · rename_i n
    cases rd with
    | @ref _ a en =>
      obtain ⟨z, rfl, rz⟩ := repL_one rds
      cases rz
      split at p
      · rename_i y l hl
        obtain ⟨vs, hv, rl⟩ := sm.obj n a _ en hl
        cases rl with
        | cons ry rl =>
          refine mt_popAt pins s σ H _ _ v us Q I rx rs ⟨a, _, 0, 0, _, rfl, rfl, hv, by decide, by decide, ?_, rfl, ?_⟩
          · rw [seqIndex_of (by decide) (by simp)]; rfl
          · exact p _ _ _ _ (Ext.put sm _ en) (sm.put en hl (fun z => nomatch z) fun H' e => ⟨_, e, rl⟩) ry
      · exact False.elim p
  · exact False.elim p
theorem dm_insert : MtR X "list.insert" (rDM C mInsert) := by
  intro pins s σ H x xs v us Q I rx rs ⟨Z, m, h, d, ds, sm, rd, rds, p⟩
  unfold mInsert at p
  split at p
  · rename_i n i y
    cases rd with
    | @ref _ a en =>
      cases rds with
      | cons ri rds =>
        obtain ⟨z, rfl, rz⟩ := repL_one rds
        cases ri
        split at p
        · rename_i l hl
          split at p
          · rename_i hlen
            obtain ⟨vs, hv, rl⟩ := sm.obj n a _ en hl
            refine mt_insert pins s σ H _ _ v us Q I rx rs ⟨a, vs, i, z, rfl, rfl, hv, by rw [sizeLine_eq, ← rl.length]; exact hlen.1, hlen.2.1, by omega, ?_⟩
            exact p _ _ _ _ (Ext.put sm _ en) (sm.put en hl (fun z => nomatch z) fun H' e => ⟨_, e, ((rl.take _).append (.one rz)).append (rl.drop _)⟩) .non
          · exact False.elim p
        · exact False.elim p
  · exact False.elim p
theorem dm_join : MtR X "str.join" (rDM C mJoin) := by
  intro pins s σ H x xs v us Q I rx rs ⟨Z, m, h, d, ds, sm, rd, rds, p⟩
  unfold mJoin at p
  split at p
  · rename_i a y
    cases rd
    obtain ⟨z, rfl, rz⟩ := repL_one rds
    split at p
    · rename_i l hl
      split at p
      · rename_i ys hys
        split at p
        · rename_i hlen
          have e := strsOf_eq hys
          subst e
          have fin : ∀ q : Addr, z = .ref q → (SqL X.K H q (ys.map V.str) ∨ SqT X.K H q (ys.map V.str)) → wpAny (model X.prog X.w) X.A (call (.builtin "str.join") (v :: us)) (EP X pins σ Q) X.xe s := fun q e hq => by
            subst e
            exact mt_join pins s σ H _ _ v us Q I rx rs ⟨a, q, ys, rfl, rfl, hq, hlen, by rw [show Txt.join a ys = Str.join a ys from TL.join_eq a ys]; exact p _ _ _ _ .refl sm (.str _)⟩
          cases rz with
          | tup hq rl => cases hl; cases rl.strs; exact fin _ rfl (.inr (.inl (.inl (sm.sub _ _ hq))))
          | lst hq rl => cases hl; cases rl.strs; exact fin _ rfl (.inl (.inl (.inl (sm.sub _ _ hq))))
          | @ref n b en =>
            obtain ⟨b', ws, e1, hw, rk⟩ := ls_at sm (.ref en) (show lsOf h (.ref n) = some _ from hl)
            cases e1
            cases rk.strs
            exact fin _ rfl (.inl (.inl (.inl hw)))
          | _ => cases hl
        · exact False.elim p
      · exact False.elim p
    · exact False.elim p
  · exact False.elim p
end
end Dn

/-! DenJ: short words for what the printer writes. -/
set_option Elab.async false
set_option linter.all false
set_option maxRecDepth 100000
set_option maxHeartbeats 4000000
namespace Dn
open PySem PySem.Spec PyProof.Rows L2

/-- a def as it stands behind the top, with what it does -/
structure Cal (P : Program) (w : World) (K : PySem.W.Frag) (mg : Str → Option Value) (base : Heap) (C : Cn) (CX : CXT) (k : Nat) (x : Str) (ps : List Str) (fm : FM) : Prop where
  ok : ∃ (f : Addr) (fd : FuncData), FnOk P w K mg base CX k f fd ps (spD C fm) ∧ mg x = some (.ref f) ∧ PySem.W.keepIn K (.ref f) = true ∧ Binds K fd ps []
theorem Cal.tr {P : Program} {w : World} {K : PySem.W.Frag} {mg : Str → Option Value} {base : Heap} {C : Cn} {CX : CXT} {k : Nat} {x : Str} {ps : List Str} {fm : FM} (c : Cal P w K mg base C CX k x ps fm) : Cal P w K mg base C CX k x ps (tr fm) := by
  obtain ⟨f, fd, a, b, c, d⟩ := c.ok
  exact ⟨f, fd, fn_tr a, b, c, d⟩
theorem fn_err {P : Program} {w : World} {K : PySem.W.Frag} {mg : Str → Option Value} {base : Heap} {C : Cn} {CX : CXT} {k : Nat} {f : Addr} {fd : FuncData} {ps : List Str} : FnOk P w K mg base CX k f fd ps (spD C fun _ _ => .err) :=
  ⟨fun _ _ _ _ ⟨_, _, _, _, _, _, p⟩ => False.elim p, fun _ _ _ _ _ _ _ _ _ _ _ _ _ ⟨_, _, _, _, _, _, p⟩ => False.elim p⟩
section
variable {X : Cx} {C : Cn} {E : WX}
theorem de_callC {CX : CXT} {k j : Nat} {ps : List Str} {fm : FM} {x : Str} {p pos : Pos} {a : Expr} {es : List Expr} {fa : AM} (c : Cal X.prog X.w X.K X.mg X.base C CX k x ps fm) (hr : Room j X.A) (hj : k ≤ j) (hg : Gl X x)
    (hx : ∀ σ, PassesAt CX X σ (fun c d H => E c d σ H)) (ha : PA X (a :: es) (denA C E fa)) (hdb : (x == ("__debug__" : Str)) = false := by decide) (he : starEach (a :: es) X.env = (false, eval a X.env) :: starEach es X.env := by rfl) (hpl : (backTo pos (starEach es X.env)).any (·.1) = false := by rfl) :
    PE X (.Call (.Name x p) (a :: es) [] pos) (denE C E (eF fm fa)) := by
  obtain ⟨f, fd, F, hm, hk, hb⟩ := c.ok
  exact de_call F (hr.mono hj) hg hm hk hb hx ha hdb he hpl
theorem de_callC0 {CX : CXT} {k j : Nat} {ps : List Str} {fm : FM} {x : Str} {p pos : Pos} (c : Cal X.prog X.w X.K X.mg X.base C CX k x ps fm) (hr : Room j X.A) (hj : k ≤ j) (hg : Gl X x)
    (hx : ∀ σ, PassesAt CX X σ (fun c d H => E c d σ H)) (hdb : (x == ("__debug__" : Str)) = false := by decide) : PE X (.Call (.Name x p) [] [] pos) (denE C E (eF fm aN)) := by
  obtain ⟨f, fd, F, hm, hk, hb⟩ := c.ok
  exact de_call0 F (hr.mono hj) hg hm hk hb hx hdb
theorem de_gI {x : Str} {i : Int} {pos : Pos} (hg : Gl X x) (hm : ∃ t, X.mg x = some (.int i t)) (hd : (x == ("__debug__" : Str)) = false := by decide) : PE X (.Name x pos) (denE C E (eC (.int i))) := by
  obtain ⟨t, h⟩ := hm
  exact de_globI hg h hd
theorem de_gS {x : Str} {i : Str} {pos : Pos} (hg : Gl X x) (hm : ∃ t, X.mg x = some (.str i t)) (hd : (x == ("__debug__" : Str)) = false := by decide) : PE X (.Name x pos) (denE C E (eC (.str i))) := by
  obtain ⟨t, h⟩ := hm
  exact de_globS hg h hd
end
theorem bt_len : bootBuiltins "len" = some (.builtin "len") := by decide +kernel
theorem bt_max : bootBuiltins "max" = some (.builtin "max") := by decide +kernel
theorem bt_min : bootBuiltins "min" = some (.builtin "min") := by decide +kernel
theorem bt_sum : bootBuiltins "sum" = some (.builtin "sum") := by decide +kernel
theorem bt_all : bootBuiltins "all" = some (.builtin "all") := by decide +kernel
theorem bt_any : bootBuiltins "any" = some (.builtin "any") := by decide +kernel
theorem bt_isinstance : bootBuiltins "isinstance" = some (.builtin "isinstance") := by decide +kernel
theorem bt_sorted : bootBuiltins "sorted" = some (.builtin "sorted") := by decide +kernel
theorem bt_int : bootBuiltins "int" = some (.type "int") := by decide +kernel
theorem bt_bool : bootBuiltins "bool" = some (.type "bool") := by decide +kernel
theorem bt_str : bootBuiltins "str" = some (.type "str") := by decide +kernel
theorem bt_list : bootBuiltins "list" = some (.type "list") := by decide +kernel
theorem bt_tuple : bootBuiltins "tuple" = some (.type "tuple") := by decide +kernel
theorem bt_dict : bootBuiltins "dict" = some (.type "dict") := by decide +kernel
theorem bt_set : bootBuiltins "set" = some (.type "set") := by decide +kernel

/-! ### the def, ended -/
/-- the law's: a list of at most 63 ints is handed in, True comes out -/
def spLaw (K : PySem.W.Frag) : Sp := fun vs H Q _ => ∃ (a : Addr) (ns : List Int), vs = [.ref a] ∧ SqL K H a (ns.map V.int) ∧ ns.length ≤ 63 ∧ ∀ H', Q (.bl true) H'
/-- the same where tables of code objects are known -/
def spLawT (K : PySem.W.Frag) (T : List (Addr × Str)) : Sp := fun vs H Q _ => ∃ (a : Addr) (ns : List Int), vs = [.ref a] ∧ SqL K H a (ns.map V.int) ∧ ns.length ≤ 63 ∧ LamX.Tabs T H ∧ ∀ H', Q (.bl true) H'
theorem law_endT {P : Program} {w : World} {K : PySem.W.Frag} {mg : Str → Option Value} {base : Heap} {C : Cn} {CX : CXT} {k : Nat} {f : Addr} {fd : FuncData} {ps : List Str} {fm : FM} (hK : C.K = K) (F : FnOk P w K mg base CX k f fd ps (spD C fm))
    (h : ∀ ns : List Int, ns.length ≤ 63 → ∃ h1, fm [.scr ns] [] = .ok (.bl true) h1) : FnOk P w K mg base CX k f fd ps (spLawT K C.T) := by
  refine F.imp fun vs H Q E ⟨a, ns, e, hq, hl, tb, q⟩ => ?_
  subst e
  have fin : ∀ Z : Hp, (∀ b o, Z b = some o → H b = some o) → (∀ b ps, Z b ≠ some (.tbl ps)) → SqL C.K Z a (ns.map V.int) → spD C fm [.ref a] H Q E := fun Z hz hn hs => by
    refine ⟨Z, [], [], [.scr ns], ⟨hz, rfl, List.nodup_nil, fun n a o e => by simp at e, fun n a o e => by simp at e, tb, hn⟩, .cons (.scr hs) .nil, ?_⟩
    obtain ⟨h1, e1⟩ := h ns hl
    rw [e1]
    intro Z' m' H' v _ _ r
    cases r
    exact q H'
  have one : ∀ o : HO, H a = some o → (∀ ps, o ≠ .tbl ps) → (∀ b u, (if b = a then some o else none) = some u → H b = some u) ∧ ∀ b ps, (if b = a then some o else none) ≠ some (HO.tbl ps) := fun o e n => by
    refine ⟨fun b u z => ?_, fun b ps z => ?_⟩
    · by_cases hb : b = a
      · rw [if_pos hb] at z; rw [hb, e]; exact z
      · rw [if_neg hb] at z; cases z
    · by_cases hb : b = a
      · rw [if_pos hb] at z; exact n ps (Option.some.inj z)
      · rw [if_neg hb] at z; cases z
  rcases hq with (hq | ⟨o, hq⟩) | hq
  · obtain ⟨z1, z2⟩ := one _ hq fun _ z => by cases z
    exact fin (fun b => if b = a then some (.lst (ns.map V.int)) else none) z1 z2 (.inl (.inl (by show (if a = a then _ else _) = _; rw [if_pos rfl])))
  · obtain ⟨z1, z2⟩ := one _ hq fun _ z => by cases z
    exact fin (fun b => if b = a then some (.frz o (.lst (ns.map V.int))) else none) z1 z2 (.inl (.inr ⟨o, by show (if a = a then _ else _) = _; rw [if_pos rfl]⟩))
  · exact fin (fun _ => none) (fun b o z => nomatch z) (fun b ps z => nomatch z) (.inr (by rw [hK]; exact hq))
theorem law_end {P : Program} {w : World} {K : PySem.W.Frag} {mg : Str → Option Value} {base : Heap} {C : Cn} {CX : CXT} {k : Nat} {f : Addr} {fd : FuncData} {ps : List Str} {fm : FM} (hK : C.K = K) (hT : C.T = []) (F : FnOk P w K mg base CX k f fd ps (spD C fm))
    (h : ∀ ns : List Int, ns.length ≤ 63 → ∃ h1, fm [.scr ns] [] = .ok (.bl true) h1) : FnOk P w K mg base CX k f fd ps (spLaw K) :=
  (law_endT hK F h).imp fun vs H Q E ⟨a, ns, e, hq, hl, q⟩ => ⟨a, ns, e, hq, hl, by rw [hT]; exact fun p hp => (by simp at hp), q⟩
end Dn

/-! DenK: enumerate over a list. -/
set_option Elab.async false
set_option linter.all false
set_option maxRecDepth 100000
set_option maxHeartbeats 4000000
namespace Dn
open PySem PySem.Spec PyProof.Rows L2
variable {X : Cx} {C : Cn} {E : WX} {tg : Expr}
def enumL (l : List D) : List D := l.mapIdx fun i x => .tup [.int (i : Int), x]
def wEnumOf (d : D) (h : Hm) : R Wk := match d with
  | .lst l => .ok ⟨enumL l, fun _ => true⟩ h
  | .ref n => match h[n]? with
    | some (.lst l) => .ok ⟨enumL l, fun h' => match h'[n]? with | some o => HD.beq o (.lst l) | none => false⟩ h
    | _ => .err
  | _ => .err
def wEn (e : EM) : Ev → Hm → R Wk := fun v h => (e v h).bind wEnumOf
theorem wk_enumAt {Z' H : Hp} {m' : List Addr} {h : Hm} {a : Addr} {vs : List V} {l : List D} (s : HSim C Z' m' h H) (q : SqL X.K H a vs) (r' : RepL C Z' m' l vs) (i : Nat) :
    (i < (enumL l).length → (Ite X.K a).go i H ∧ ∀ x H', (Ite X.K a).yld i H x H' → ∃ d Z1, (enumL l)[i]? = some d ∧ Ext Z' m' H Z1 m' H' ∧ HSim C Z1 m' h H' ∧ Rep C Z1 m' d x) ∧ ((enumL l).length ≤ i → (Ite X.K a).stop i H) := by
  have hl := r'.length
  have hle : (enumL l).length = l.length := by simp [enumL]
  refine ⟨fun hi => ⟨⟨vs, vs[i]'(by rw [← hl, ← hle]; exact hi), q, List.getElem?_eq_getElem _⟩, fun x H' y => ?_⟩, fun hi => ⟨vs, q, by rw [← hl, ← hle]; exact hi⟩⟩
  obtain ⟨T, z, rfl, hT, rfl, y⟩ := y
  obtain ⟨d, e, rd⟩ := r'.getV (y vs q)
  refine ⟨.tup [.int (i : Int), d], upd Z' T (.tup [.int (i : Nat), z]), by simp [enumL, e], Ext.lay s hT _, s.lay hT _, .tup upd_same ?_⟩
  exact .cons (.int _) (.cons (rd.mono (Ext.lay s hT _).sub (List.prefix_refl _)) .nil)
theorem wk_enum {Z H : Hp} {m : List Addr} {a : Addr} {vs : List V} {l : List D} (hK : C.K = X.K) (hq : SqL C.K Z a vs) (r : RepL C Z m l vs) : WkOk C (Ite X.K a) ⟨enumL l, fun _ => true⟩ Z m := by
  intro i Z' m' h H hz hm s _
  exact wk_enumAt s (hK ▸ sqL_mono s.sub (sqL_mono hz hq)) (r.mono hz hm) i
theorem wk_enumR {Z H : Hp} {m : List Addr} {n : Nat} {a : Addr} {l : List D} (e : m[n]? = some a) : WkOk C (Ite X.K a) ⟨enumL l, fun h' => match h'[n]? with | some o => HD.beq o (.lst l) | none => false⟩ Z m := by
  intro i Z' m' h H hz hm s hc
  have hh : h[n]? = some (.lst l) := by
    cases q : h[n]? with
    | none => simp [q] at hc
    | some o => simp [q] at hc; rw [HD.beq_eq _ _ hc]
  obtain ⟨vs, hv, r⟩ := s.obj n a _ (pre_get hm e) hh
  exact wk_enumAt s (.inl (.inl hv)) r i
theorem di_en {a : Expr} {fa : EM} {p pos tpos : Pos} {elts : List Expr} {kk : Nat} (hK : C.K = X.K) (hg : Gl X "enumerate") (hm : X.mg "enumerate" = none) (ha : PE X a (denE C E fa)) (hs : starEach [a] X.env = [(false, eval a X.env)] := by rfl) : PI X (.Tuple elts kk tpos) (.Call (.Name "enumerate" p) [a] [] pos) (denW C E (wEn fa)) := by
  refine ⟨fun pins s0 σ H R I q => (pi_enum hg hm (pa_cons ha pa_nil hs) hs).run pins s0 σ H R I ?_⟩
  obtain ⟨Z, m, v, h, s, e, p⟩ := q
  refine ⟨Z, m, v, h, s, e, ?_⟩
  unfold wEn at p
  cases qa : fa v h with
  | err => rw [qa] at p; exact False.elim p
  | exc x h1 => rw [qa] at p; exact p
  | ok d h1 =>
    rw [qa] at p
    intro Z' m' H' u x s' r
    simp only [bind_ok] at p
    cases d with
    | lst l =>
      cases r with
      | lst hq rl => exact ⟨_, _, rfl, .inl (.inl (s'.sub _ _ hq)), p Z' m' H' _ x s' (wk_enum (H := H') hK (.inl (.inl hq)) rl)⟩
    | ref n =>
      cases r with
      | ref en =>
        simp only [wEnumOf] at p
        split at p
        · rename_i l hl
          split at hl
          · rename_i l' hl'
            cases hl
            obtain ⟨vs, hv, rl⟩ := s'.obj n _ _ en hl'
            exact ⟨_, _, rfl, .inl (.inl hv), p Z' m' H' _ x s' (wk_enumR (H := H') en)⟩
          · cases hl
        · rename_i hl; split at hl <;> cases hl
        · exact False.elim p
    | _ => exact False.elim p
/-- a statement that is never reached -/
def sErr : SM := fun _ _ => .err
theorem ds_err {st : Stmt} : PS X st (denS C E sErr) := ⟨fun _ _ _ _ _ _ ⟨_, _, _, _, _, _, p⟩ => False.elim p⟩
end Dn

/-! DenX: exceptions: raised, let through, caught. -/
set_option Elab.async false
set_option linter.all false
set_option maxRecDepth 100000
set_option maxHeartbeats 4000000
namespace Dn
open PySem PySem.Spec PyProof.Rows L2

/-- whether an exception of class c is one of T -/
def xIs (c T : Str) : Bool := c == T || T == "BookError" || T == "ValueError"
/-- raise of a class of the program -/
def sRs0 (c : Str) : SM := fun v h => .exc (.exn c []) v h
def sRs1 (c f : Str) (e : EM) : SM := fun v h => match e v h with
  | .ok d h1 => .exc (.exn c [(f, d)]) v h1
  | .exc x h1 => .exc x v h1
  | .err => .err
def Fl.nox : Fl → Fl
  | .exc _ _ _ => .err
  | o => o
/-- try: b, except T: k -/
def sTry (b : SM) (t : Str → Bool) (k : D → SM) : SM := fun v h => match b v h with
  | .exc (.exn c fs) v1 h1 => if t c then (k (.exn c fs) v1 h1).nox else .exc (.exn c fs) v1 h1
  | .exc _ _ _ => .err
  | o => o
/-- the clause's name holds the exception while its suite runs -/
def kAs (i : Nat) (k : SM) : D → SM := fun x v h => match k (v.set i (some x)) h with
  | .nx v1 h1 => .nx (v1.set i none) h1
  | .bk v1 h1 => .bk (v1.set i none) h1
  | .ct v1 h1 => .ct (v1.set i none) h1
  | o => o

/-! ### what a class of exceptions is -/
def oexB (K : PySem.W.Frag) (C : Addr) : Bool := match K.lookup C with
  | some ⟨.type "type", _, .cls cd, sl⟩ => (match cd.mro, sl.toList with
    | .ref C' :: bm, [_, _, _, _, some (.builtin n), _] => C' == C && n == "ValueError.__new__" && !cd.hasDel && cd.hasDict && PySem.HandSPX.refsVE bm
    | _, _ => false)
  | _ => false
theorem oexB_ok {K : PySem.W.Frag} {C : Addr} (q : oexB K C = true) : ∃ nm q N bs bm sn sub ab col dd k0 k1 k2 k3 k5, K.lookup C = some (excClassObj nm q C N bs bm true sn sub ab col dd k0 k1 k2 k3 k5 "ValueError.__new__") ∧ PySem.HandSPX.refsVE bm = true := by
  unfold oexB at q
  split at q
  · rename_i dd cd sl ho
    split at q
    · rename_i C' bm k0 k1 k2 k3 n k5 hm hs
      simp only [Bool.and_eq_true, beq_iff_eq, Bool.not_eq_true'] at q
      obtain ⟨⟨⟨⟨e1, e2⟩, hdel⟩, hdc⟩, ht⟩ := q
      subst e1 e2
      obtain ⟨nm, bs, mro, ns, qn, hd, sn, sub, ab, col, del⟩ := cd
      dsimp only at hm hdel hdc
      subst hm hdel hdc
      have hsl : sl = #[k0, k1, k2, k3, some (.builtin "ValueError.__new__"), k5] := by
        obtain ⟨l⟩ := sl
        simp only at hs
        rw [hs]
      subst hsl
      exact ⟨nm, qn, ns, bs, bm, sn, sub, ab, col, dd, k0, k1, k2, k3, k5, ho, ht⟩
    · cases q
  · cases q
def xcB (K : PySem.W.Frag) (C : Addr) : Bool := oexB K C && (decide (PySem.W.findIn K (.ref C) "__setattr__" = some (some (.builtin "object.__setattr__"))) && (decide (PySem.W.subIn K (.ref C) (.type "BaseException") = some true) && (decide (PySem.W.typeIn K (.ref C) = some (.type "type")) && (PySem.W.keepIn K (.ref C) &&
  (decide (PySem.W.findIn K (.ref C) "__getattribute__" = some (some (.builtin "BaseException.__getattribute__"))) && (decide (PySem.W.findIn K (.ref C) "__getattr__" = some none) && (PySem.W.hasDictIn K C && (decide (PySem.W.findIn K (.ref C) "__class__" = some (some (.builtin "object.__class__"))) &&
  (decide (PySem.W.specialIn K (.builtin "object.__class__") "__get__" = some (some (.builtin "getset_descriptor.__get__"))) && (decide (PySem.W.takesIn K (.builtin "object.__class__") = some true) && decide (PySem.W.mroIn K C (.type "object") = some true)))))))))))
structure XCls (K : PySem.W.Frag) (C : Addr) : Prop where
  ox : OexC K C
  ex : ExcC K C
theorem xcB_ok {K : PySem.W.Frag} {C : Addr} (q : xcB K C = true) : XCls K C := by
  simp only [xcB, Bool.and_eq_true, decide_eq_true_eq] at q
  obtain ⟨h0, h1, h2, h3, h4, h5, h6, h7, h8, h9, h10, h11⟩ := q
  exact ⟨⟨oexB_ok h0, h1, h2, h3, h4⟩, ⟨h5, h6, h2, h7, h8, h9, h10, h11⟩⟩

/-! ### raise -/
/-- a class's own __init__(self, f): self.f = f -/
def spIni (A : Addr) (f : Str) : Sp := fun vs H Q _ => ∃ (a : Addr) (y : V), vs = [.ref a, y] ∧ H a = some (exo a A none) ∧ ∀ dx, H dx = none → dx ≠ a → Q .non (upd (upd H dx (exd dx [(f, y)])) a (exo a A (some dx)))
/-- B.__init__(self, ..), B a class of the program that has ValueError's -/
structure BIni (K : PySem.W.Frag) (mg : Str → Option Value) (B : Str) (A : Addr) : Prop where
  gl : mg B = some (.ref A)
  sp : PySem.W.specialIn K (.ref A) "__getattribute__" = some (some (.builtin "type.__getattribute__"))
  rd : PySem.W.readsIn K A (.type "type") = true
  fc : PySem.W.findCls K (.ref A) (.type "type") "__init__" = some (.val (.builtin "ValueError.__init__"))
section
variable {X : Cx} {C : Cn} {E : WX}
theorem pe_bini {B : Str} {BA : Addr} {e : Expr} {es : List Expr} {ta : TA} {p1 p2 pos : Pos} {pl : Sem Bool} (hg : Gl X B) (T : BIni X.K X.mg B BA) (ha : PA X (e :: es) ta) (hd : (B == ("__debug__" : Str)) = false := by decide)
    (hc : eval (.Call (.Attribute (.Name B p1) "__init__" p2) (e :: es) [] pos) X.env = (do
      let ov ← eval (.Name B p1) X.env
      standAt p2.atName
      let (f, first) ← holding [ov] (getMethod ov "__init__" pl)
      callWith pos f first (backTo pos (starEach (e :: es) X.env)) (backToKw pos (keywordEach [] X.env))) := by rfl)
    (he : starEach (e :: es) X.env = (false, eval e X.env) :: starEach es X.env := by rfl) (hpl : (backTo pos (starEach es X.env)).any (·.1) = false := by rfl) :
    PE X (.Call (.Attribute (.Name B p1) "__init__" p2) (e :: es) [] pos) (tVeI X.K ta) := by
  refine ⟨fun pins s σ H Q I h => ?_⟩
  refine PySem.W.methodCall_KW (ld_glob I hg T.gl ?_ hd) hc
  refine PySem.W.method_cls I.kIn T.sp (PySem.W.cls_value I.kIn T.rd T.fc rfl ?_)
  show wpAny _ _ (callWith pos (Value.builtin "ValueError.__init__") [] (backTo pos (starEach (e :: es) X.env)) []) _ _ _
  refine PyProof.Rows.callWith_method1 (thn (ha.run pos pins _ σ H _ (I.tok _) h) fun us s1 ⟨vs, H1, I1, r1, a, A, ws, ev, hl, T, ea, q⟩ => ?_) he hpl
  subst ev
  cases r1 with
  | @cons _ u0 _ ur ra rw' =>
    obtain rfl : u0 = Value.ref a := ra
    have hlen : ur.length ≤ sizeLine := by
      rw [← Paired.length rw', sizeLine_eq]
      omega
    exact oinit_ok T I1 ea hlen fun s' J => ⟨.non, H1, J, rfl, q⟩
/-- what such an __init__ does -/
theorem ini_reads {K : PySem.W.Frag} {A : Addr} {f m : Str} {N : List Str} (T : OexC K A) (hno : PySem.W.findIn K (.ref A) f = some none) (hN : N.length = 2) {vs : List V} {H : Hp} {Q : VK} {Ex : XK} (h : spIni A f vs H Q Ex) :
    tSeq (tDrop (tVeI K (tCons (tVar 0) (tCons (tC (.str m)) tNil)))) (tOst K f (tVar 0) (tVar 1)) { nx := fun _ H' => Q .non H', rt := Q } (L2.start N vs) H := by
  obtain ⟨a, y, rfl, ha, q⟩ := h
  have e : L2.start N [.ref a, y] = [some (.ref a), some y] := by unfold L2.start; rw [hN]; rfl
  rw [e]
  exact ⟨_, rfl, a, A, [.str m], rfl, (show 1 ≤ 1000 by omega), T, ha, _, rfl, _, rfl, a, A, rfl, T, hno, .inl ⟨ha, q⟩⟩
theorem ds_rs0 {c m : Str} {A : Addr} {j : Nat} {p p2 pos pos' : Pos} (hc : X.calm = true) (tk : Takes X E) (cl : C.cls c = some A) (gC : X.mg c = some (.ref A)) (T : XCls X.K A) (xP : PySem.W.excIn X.K A PySem.HandSPX.veTail "ValueError.__new__" = true) (hg : Gl X c) (hd : (c == ("__debug__" : Str)) = false := by decide) :
    PS X (.Raise (some (.Call (.Name c p) [.Constant (.str m) j p2] [] pos)) none pos') (denS C E (sRs0 c)) :=
  ps_imp (ps_raise hc tk (pmk_own PySem.F.excBase_ValueError xP gC T.ox.kC (raises_own T.ox.exC T.ox.tyC) hg hd)) fun K σ H ⟨Z, m, v, h, s, e, p⟩ => p _ _ _ σ _ _ .refl s e ⟨A, cl, rfl, .inl ⟨rfl, rfl⟩⟩
theorem ds_rs1 {c f : Str} {A fI : Addr} {k : Nat} {fd : FuncData} {ps : List Str} {a : Expr} {fa : EM} {p pos pos' : Pos} (hc : X.calm = true) (tk : Takes X E) (cl : C.cls c = some A) (gC : X.mg c = some (.ref A)) (T : XCls X.K A) (iC : PySem.W.findIn X.K (.ref A) "__init__" = some (some (.ref fI))) (tI : PySem.W.typeIn X.K (.ref fI) = some (.type "function"))
    (F1 : FnOk X.prog X.w X.K X.mg X.base CX0 k fI fd ps (spIni A f)) (hb : Binds X.K fd ps []) (hr : Room (k + 1) X.A) (hg : Gl X c) (ha : PE X a (denE C E fa)) (hd : (c == ("__debug__" : Str)) = false := by decide)
    (he : starEach [a] X.env = [(false, eval a X.env)] := by rfl) : PS X (.Raise (some (.Call (.Name c p) [a] [] pos)) none pos') (denS C E (sRs1 c f fa)) := by
  refine ps_imp (ps_raise hc tk (pmk_oex T.ox iC tI F1 hr hb .nil pass0 hg gC (pa_cons ha pa_nil he) hd he)) fun K σ H ⟨Z, m, v, h, s, e, p⟩ => ?_
  refine ⟨Z, m, v, h, s, e, (Post.stm (k := fun d h1 => .exc (.exn c [(f, d)]) v h1) e p).imp fun x H1 ⟨Z1, m1, d, h1, x1, s1, r1, p1⟩ => ⟨(show 1 ≤ 1000 by omega), fun b hb1 => ⟨b, x, rfl, upd_same, fun dx hdx hne => ⟨rfl, dx, [(f, x)], upd_same, ?_, ?_, ?_⟩⟩⟩⟩
  · rw [upd_ne hne, upd_same]
  · rw [upd_ne hne] at hdx; exact hdx
  · rw [upd_ne hne] at hdx
    have eH : upd (del (upd (upd (upd H1 b (exo b A none)) dx (exd dx [(f, x)])) b (exo b A (some dx))) b) dx (.xd [(f, x)]) = upd H1 dx (.xd [(f, x)]) := by
      funext q
      by_cases h1 : q = dx
      · subst h1; rw [upd_same, upd_same]
      · rw [upd_ne h1, upd_ne h1]
        by_cases h2 : q = b
        · subst h2; rw [del_same, hb1]
        · rw [del_ne h2, upd_ne h2, upd_ne h1, upd_ne h2]
    rw [eH]
    have xz := Ext.lay s1 hdx (.xd [(f, x)])
    exact p1 _ _ _ σ _ _ xz (s1.lay hdx _) ((e.mono x1).mono xz) ⟨A, cl, rfl, .inr ⟨dx, [(f, x)], rfl, upd_same, .cons (r1.mono xz.sub (List.prefix_refl _)) .nil⟩⟩
end
/-! ### try -/
/-- more is tracked -/
def Grow (H H' : Hp) : Prop := ∀ b o, H b = some o → H' b = some o
theorem HSim.grow {C : Cn} {Z H H' : Hp} {m : List Addr} {h : Hm} (s : HSim C Z m h H) (g : Grow H H') : HSim C Z m h H' := by
  refine ⟨fun a o e => g a o (s.sub a o e), s.len, s.nd, s.off, fun n a o e1 e2 => ?_, s.tab.ext g, s.noT⟩
  obtain ⟨u, hu⟩ := (s.obj n a o e1 e2).some
  exact (s.obj n a o e1 e2).at ((g a u hu).trans hu.symm)
theorem Ext.grow {Z H H' : Hp} {m : List Addr} (g : Grow H H') : Ext Z m H Z m H' := ⟨fun _ _ e => e, List.prefix_refl _, fun b o e _ _ => g b o e, fun _ e => .inl e, fun _ e => .inl e⟩
theorem exH_ok {P : Program} {w : World} {H : Hp} {h : Heap} {a A : Addr} {od : Option Addr} {oe : Obj} {vs : Array Value} (e : h.get? a = some oe) (z : Zc (.ref A) od oe) (d : oe.data = .fields vs) : ObjOk P w H h a (exH a A od) :=
  ⟨⟨oe, vs, e, z.1, z.2, d⟩, ⟨oe, e⟩, fun h1 h2 y k => let ⟨o, v, a1, a2, a3, a4⟩ := y; ⟨o, v, k _ a1, a2, a3, a4⟩⟩
section
variable {X : Cx} {pins : List (Addr × Obj)} {σ : L2.St} {H : Hp} {s : Shared}
/-- an object of ours that was not tracked -/
theorem inv_track {a : Addr} {o : HO} {oa : Obj} (I : Inv X pins σ H s) (ha : s.heap.get? a = some oa) (hn : H a = none) (hL : a ≠ X.env.locals) (hF : a ∉ X.fs) (hc : ∀ v, oa.data ≠ .cell v) (hp : ∀ p ∈ X.pn ++ pins, p.1 ≠ a) (h0 : ∀ u, X.s_0.heap.get? a = some u → X.H_0 a = none → a ∈ X.ex)
    (new : ObjOk X.prog X.w (upd H a o) s.heap a o) : Inv X pins σ (upd H a o) s := by
  refine ⟨I.ok, I.os, I.bare, ⟨I.base.keep, I.base.slot, fun b u e n hx => ?_, I.base.there, fun b xs e => ?_, fun b u xs e => ?_, fun b ps e => ?_⟩, I.loc, I.cell, ?_, fun x c e => ?_, fun p hp' => ?_, fun b u e => ?_, I.len⟩
  · by_cases hb : b = a
    · subst hb; exact absurd (h0 u e n) hx
    · rw [upd_ne hb]; exact I.base.free b u e n hx
  · have := I.base.tups b xs e
    rw [upd_ne (ne_of_none this hn)]; exact this
  · have := I.base.frzs b u xs e
    rw [upd_ne (ne_of_none this hn)]; exact this
  · obtain ⟨more, q⟩ := I.base.tbls b ps e
    exact ⟨more, by rw [upd_ne (ne_of_none q hn)]; exact q⟩
  · rw [upd_ne (Ne.symm hL)]; exact I.free
  · obtain ⟨v, oc, hoc, hd⟩ := I.cell x c e
    rw [upd_ne (fun z => by subst z; rw [ha] at hoc; cases hoc; exact hc _ hd)]
    exact I.freeC x c e
  · obtain ⟨a1, a2, a3⟩ := I.pin p hp'
    exact ⟨a1, by rw [upd_ne (hp p hp')]; exact a2, a3⟩
  · by_cases hb : b = a
    · subst hb; rw [upd_same] at e; cases e; exact new
    · rw [upd_ne hb] at e
      exact (I.hok b u e).stay (fun _ _ _ q => q) (fun c q => by rw [upd_ne (ne_of_none q hn)]; exact q) fun c xs q => by rw [upd_ne (ne_of_none q hn)]; exact q
end
/-- an except clause's test: what it gives of a class -/
def HTest (X : Cx) (te : Expr) (f : Value → Option Bool) : Prop := ∀ (a : Addr) (oe : Obj) (pins : List (Addr × Obj)) (σ : L2.St) (H : Hp) (s : Shared) (b : Bool), Inv X pins σ H s → s.heap.get? a = some oe → f oe.cls = some b → ∀ (A : Around) (Q : Value → Shared → Prop) (E : Value → Shared → Prop),
  (∀ c h' t', (∀ x o, s.heap.get? x = some o → h'.get? x = some o) → PySem.W.Looks (model X.prog X.w) h' (excMatches (.ref a) c) b → Q c { s with heap := h', toks := t' }) → wpAny (model X.prog X.w) A (eval te X.env) Q E s
theorem ht_name {X : Cx} {x : Str} {c : Value} {np : Pos} (hc : Names X x c) : HTest X (.Name x np) (fun t => PySem.W.exmOne X.K t c) := by
  intro a oe pins σ H s b I ha hf A Q E k
  have LT : PySem.W.Looks (model X.prog X.w) s.heap (typeOf (.ref a)) oe.cls := fun A Q E s k q => wpAny_typeOf_ref (k _ _ ha) q
  have q := k c s.heap s.toks (fun _ _ z => z) (PySem.W.exm_one (M := model X.prog X.w) I.kIn LT hf)
  obtain ⟨hg, hdbg, hm | ⟨hm, hv, hnn⟩⟩ := hc
  · exact Calls.Name_function_global I.ok.kind hg (Calls.loadGlobal_global (by rw [I.ok.glob]; exact I.mod.glob.keeps I.bk) hm q) hdbg
  · obtain ⟨mb, h1, h2⟩ := I.mod.blt
    exact Calls.Name_function_global I.ok.kind hg (Calls.loadGlobal_builtin (by rw [I.ok.glob]; exact I.mod.glob.keeps I.bk) hm (by rw [I.ok.blt]; exact h1.keeps I.bk) ((h2 x hnn).trans hv) q) hdbg
/-- what a clause wishes -/
def wTry (f : Value → Option Bool) (nm : Option Nat) (ts : TS) (Wout : WX) (D : Ends) : WX := fun cls d σ H =>
  ∃ b A, cls = .ref A ∧ f cls = some b ∧ (b = true → ∀ a, H a = none → match nm with
    | none => ts D σ (upd H a (exH a A d))
    | some i => ts { nx := fun σ' H' => D.nx (σ'.set i none) H', rt := D.rt, bk := fun σ' H' => D.bk (σ'.set i none) H', ct := fun σ' H' => D.ct (σ'.set i none) H' } (σ.set i (some (.ref a))) (upd H a (exH a A d))) ∧ (b = false → Wout cls d σ H)
section
variable {X : Cx} {te : Expr} {f : Value → Option Bool} {body suite : List Stmt} {b₀ : Stmt} {pos pos' : Pos} {tb : WX → TS} {ts : TS} {Wout : WX}
/-- try: body, except te (as n): suite; in the suite the exception is an object like others -/
theorem ps_tryT {nm : Option (Str × Nat)} (hs : X.stack = X.env :: X.outer) (hf : X.env.frame = some X.env.locals) (ht : HTest X te f) (tk : Takes X Wout) (hnm : ∀ n i, nm = some (n, i) → X.N.Nodup ∧ X.N[i]? = some n ∧ X.env.kindOf n = some .local)
    (hb : ∀ (W : WX) (pn : List (Addr × Obj)) (xe : Value → Shared → Prop), Takes (X.tr pn xe) W → PassesOwn (model X.prog X.w) X.A X.env xe → PSs (X.tr pn xe) body (tb W))
    (hsu : ∀ (a : Addr) (pn : List (Addr × Obj)), PSs (X.suite a pn) (b₀ :: suite) ts) :
    PS X (.Try body [.ExceptHandler (some te) (nm.map (·.1)) (b₀ :: suite) pos'] [] [] pos) (fun D σ H => tb (wTry f (nm.map (·.2)) ts Wout D) D σ H) := by
  refine ⟨fun pins s σ H D I h => ?_⟩
  have ok := I.ok
  have hfr : X.A.frames = some (X.env :: X.outer) := by rw [ok.frames, hs]
  refine wpAny_Try_except ?_
  refine wpAny_mono ((hb (wTry f (nm.map (·.2)) ts Wout D) (X.pn ++ pins) (fun e s₁ => wpAny (model X.prog X.w) X.A (noteFrame e X.env) (fun _ s₂ => wpAny (model X.prog X.w) X.A (setFlight e none) (fun _ s₃ =>
    wpAny (model X.prog X.w) X.A (handleBy e X.env [.ExceptHandler (some te) (nm.map (·.1)) (b₀ :: suite) pos']) (SP X pins D) X.xe s₃) X.xe s₂) X.xe s₁) (fun u s' xx => ?_) PassesOwn.looking).run [] s σ H D (I.toTry _) h) (fun f s1 hsp => ?_) (fun e s1 he => he)
  · obtain ⟨a, B, sI, pins', σ', H', cls, d, rfl, J', nb, up, sky, na, os, ag, b, A, rfl, hb1, hyes, hno⟩ := xx
    have J : Inv X pins σ' H' sI := J'.ofTry ok
    have sky' : Sky B (X.env :: X.outer) a (Zc (.ref A) d) X.env.locals s'.heap := by rw [← hs]; exact sky
    show wpAny (model X.prog X.w) X.A (noteFrame (.ref a) X.env) _ _ _
    refine Sky.land Zc.steady hfr hf sky' fun h3 fl3 up3 => ?_
    have J3 : Inv X pins σ' H' { s' with heap := h3 } := J.landed nb fl3.1 (up.trans up3) os ag
    obtain ⟨oe3, vs3, he3, hz3, hd3⟩ := fl3.there
    have nfr : a ∉ frs (X.env :: X.outer) := fun hm => by
      obtain ⟨_, o', e', hnf⟩ := fl3.2.2.1.mem hm
      rw [he3] at e'; cases e'
      exact hnf _ hd3
    have nL : a ≠ X.env.locals := fun z => nfr (List.mem_filterMap.mpr ⟨X.env, List.mem_cons_self, by rw [hf, z]⟩)
    have nF : a ∉ X.fs := fun hm => by
      obtain ⟨e, he, q⟩ := List.mem_filterMap.mp hm
      exact nfr (List.mem_filterMap.mpr ⟨e, List.mem_cons_of_mem _ he, q⟩)
    have Ba : B.get? a = none := fl3.2.1
    have old : ∀ u, sI.heap.get? a = some u → False := fun u e => by
      have := nb a u e (by rw [hs]; exact nfr)
      rw [Ba] at this; cases this
    have hp0 : ∀ p ∈ X.pn ++ pins, p.1 ≠ a := fun p hp z => old _ (by rw [← z]; exact (J.pin p hp).1)
    have h00 : ∀ u, X.s_0.heap.get? a = some u → X.H_0 a = none → a ∈ X.ex := fun u e n => by
      by_cases hx : a ∈ X.ex
      · exact hx
      · exact absurd (J.base.keep a u e n nF hx) fun z => old _ z
    refine wpAny_handleBy_cons (codeAny_handlers_test ?_) (by intro q; cases q)
    have hb1' : f oe3.cls = some b := by rw [hz3.1]; exact hb1
    refine ht a oe3 pins σ' H' { s' with heap := h3 } b J3 he3 hb1' _ _ _ fun c h5 t5 k5 L5 => L5.here ?_
    have fl5 : HandSPX.FlyingZ B (X.env :: X.outer) a (Zc (.ref A) d) h5 := by
      obtain ⟨x1, x2, x3, oe, vs, T, oT, ts', y1, y2, y3, y4, y5, y6, y7, y8⟩ := fl3
      exact ⟨fun b o e => k5 _ _ (x1 b o e), x2, x3.of_keeps fun b o e _ => ⟨o, k5 _ _ e, rfl⟩, oe, vs, T, oT, ts', k5 _ _ y1, y2, y3, y4, y5, y6, k5 _ _ y7, y8⟩
    have up5 : sI.heap.UpToSlots h5 := (up.trans up3).trans (Heap.UpToSlots.of_keeps k5)
    cases b with
    | true =>
      have hsuite : ∀ {h4 : Heap} {t4 : Nat}, HandSPX.FlyingZ B (X.env :: X.outer) a (Zc (.ref A) d) h4 → sI.heap.UpToSlots h4 → Inv (X.suite a (X.pn ++ pins)) [] σ' (upd H' a (exH a A d)) { s' with heap := h4, toks := t4 } := fun {h4 t4} fl4 up4 => by
        have J4 : Inv X pins σ' H' { s' with heap := h4, toks := t4 } := J.landed (s' := { s' with heap := h4, toks := t4 }) nb fl4.1 up4 os ag
        obtain ⟨oe4, vs4, he4, hz4, hd4⟩ := fl4.there
        have J5 := inv_track J4 (o := exH a A d) he4 na nL nF (fun v z => by rw [hd4] at z; cases z) hp0 h00 (exH_ok he4 hz4 hd4)
        exact ⟨J5.ok.suite _ _, J5.os, J5.bare, J5.base, J5.loc, J5.cell, J5.free, J5.freeC, fun p hp => J5.pin p (by rw [List.append_nil] at hp; exact hp), J5.hok, J5.len⟩
      have back : ∀ {σ6 : L2.St} {H6 : Hp} {s6 : Shared}, Inv (X.suite a (X.pn ++ pins)) [] σ6 H6 s6 → Inv X pins σ6 H6 s6 := fun {σ6 H6 s6} I6 => ⟨ok, I6.os, I6.bare, I6.base, I6.loc, I6.cell, I6.free, I6.freeC, fun p hp => I6.pin p (List.mem_append_left _ hp), I6.hok, I6.len⟩
      cases nm with
      | none =>
        refine codeAny_handlers_suite ?_
        refine HandSPX.lands_againZ fl5 fun h4 fl4 up4 => ?_
        have S4 := hsuite (t4 := t5) fl4 (up5.trans up4)
        refine wpAny_mono ((hsu a (X.pn ++ pins)).run [] _ _ _ D S4 (hyes rfl a na)) (fun f s6 hsp => ?_) (fun _ _ z => False.elim z)
        cases f with
        | next => obtain ⟨σ6, H6, S6, q6⟩ := hsp; exact ⟨_, _, back S6, q6⟩
        | brk => obtain ⟨σ6, H6, S6, q6⟩ := hsp; exact ⟨_, _, back S6, q6⟩
        | cont => obtain ⟨σ6, H6, S6, q6⟩ := hsp; exact ⟨_, _, back S6, q6⟩
        | ret u => obtain ⟨v6, σ6, H6, S6, r6, q6⟩ := hsp; exact ⟨_, _, _, back S6, r6, q6⟩
      | some ni =>
        obtain ⟨n, i⟩ := ni
        obtain ⟨hN, hi, hln⟩ := hnm n i rfl
        refine codeAny_handlers_suite_as ?_
        refine HandSPX.lands_againZ fl5 fun h4 fl4 up4 => ?_
        have S4 := hsuite (t4 := t5) fl4 (up5.trans up4)
        refine store_ok (X := X.suite a (X.pn ++ pins)) (v := .ref a) S4 hN hi (.inl hln) rfl (fun s5 S5 => ?_) (.inr hln)
        refine wpAny_mono ((hsu a (X.pn ++ pins)).run [] s5 _ _ _ S5 (hyes rfl a na)) (fun f s6 hsp => ?_) (fun _ _ z => False.elim z)
        have end_ : ∀ {σ6 : L2.St} {H6 : Hp} {Q : Shared → Prop}, Inv (X.suite a (X.pn ++ pins)) [] σ6 H6 s6 → (∀ s7, Inv X pins (σ6.set i none) H6 s7 → Q s7) →
            wpAny (model X.prog X.w) X.A (do bindName X.env n .none; unbindBehindTheSuite X.env n pos') (fun _ s7 => Q s7) X.xe s6 := fun {σ6 H6 Q} S6 hq => gone_ok (back S6) hN hi hln hq
        cases f with
        | next => obtain ⟨σ6, H6, S6, q6⟩ := hsp; exact end_ S6 fun s7 J7 => ⟨_, _, J7, q6⟩
        | brk => obtain ⟨σ6, H6, S6, q6⟩ := hsp; exact end_ S6 fun s7 J7 => ⟨_, _, J7, q6⟩
        | cont => obtain ⟨σ6, H6, S6, q6⟩ := hsp; exact end_ S6 fun s7 J7 => ⟨_, _, J7, q6⟩
        | ret u => obtain ⟨v6, σ6, H6, S6, r6, q6⟩ := hsp; exact end_ S6 fun s7 J7 => ⟨_, _, _, J7, r6, q6⟩
    | false =>
      show wpAny _ X.A (handleBy (.ref a) X.env []) _ _ _
      refine wpAny_handleBy_nil ?_
      obtain ⟨k1, k2, k3, oe, vs, T, oT, ts', he, hz, hd, h1, hr⟩ := id fl5
      unfold PySem.passOn
      refine wpAny_bind (wpAny_field he hd h1 ?_)
      rw [if_neg (show ¬ ((Value.ref T == Value.none) = true) from by simp)]
      have fin : wpAny (model X.prog X.w) X.A (setFlight (.ref a) X.env.frame) (fun _ s4 => wpAny (model X.prog X.w) X.A (throw (.ref a) : Sem Flow) (SP X pins D) X.xe s4) X.xe { s' with heap := h5, toks := t5 } := by
        rw [hf]
        refine HandSPX.setFlight_upZ fl5 fun h4 hh4 up4 => wpAny_throw (tk _ _ ?_)
        exact ⟨a, B, sI, pins, σ', H', .ref A, d, rfl, J, nb, up5.trans up4, .inr (.inr (by rw [hs]; exact hh4)), na, os, ag, hno rfl⟩
      first
        | exact wpAny_bind (wpAny_pure (wpAny_bind fin))
        | exact wpAny_bind fin
  · cases f with
    | next => obtain ⟨σ', H', J', q⟩ := hsp; exact wpAny_execs_nil ⟨σ', H', J'.ofTry ok, q⟩
    | brk => obtain ⟨σ', H', J', q⟩ := hsp; exact ⟨σ', H', J'.ofTry ok, q⟩
    | cont => obtain ⟨σ', H', J', q⟩ := hsp; exact ⟨σ', H', J'.ofTry ok, q⟩
    | ret u => obtain ⟨v, σ', H', J', r, q⟩ := hsp; exact ⟨v, σ', H', J'.ofTry ok, r, q⟩
end
end Dn

/-! DenY: try, calls that raise, isinstance and fields of what was caught. -/
set_option Elab.async false
set_option linter.all false
set_option maxRecDepth 100000
set_option maxHeartbeats 4000000
namespace Dn
open PySem PySem.Spec PyProof.Rows L2

/-- two classes in an except clause -/
theorem ht_two {X : Cx} {x y : Str} {A B : Addr} {p1 p2 pos : Pos} {k : Nat} (hx : Gl X x) (mx : X.mg x = some (.ref A)) (hy : Gl X y) (my : X.mg y = some (.ref B)) (dx : (x == ("__debug__" : Str)) = false := by decide) (dy : (y == ("__debug__" : Str)) = false := by decide)
    (hs : starEach [.Name x p1, .Name y p2] X.env = [(false, eval (.Name x p1) X.env), (false, eval (.Name y p2) X.env)] := by rfl) :
    HTest X (.Tuple [.Name x p1, .Name y p2] k pos) (fun t => PySem.W.exmAny X.K t [.ref A, .ref B]) := by
  intro a oe pins σ H s b I ha hf Ar Q E kk
  have nm : ∀ {z : Str} {D : Addr} {p : Pos} {Q : Value → Shared → Prop}, Gl X z → X.mg z = some (.ref D) → (z == ("__debug__" : Str)) = false → Q (.ref D) s → wpAny (model X.prog X.w) Ar (eval (.Name z p) X.env) Q E s := fun hz mz dz q =>
    Calls.Name_function_global I.ok.kind hz (Calls.loadGlobal_global (by rw [I.ok.glob]; exact I.mod.glob.keeps I.bk) mz q) dz
  refine wpAny_Tuple_spliced ?_
  rw [hs]
  refine Calls.spliced_cons (nm hx mx dx (Calls.spliced_cons (nm hy my dy (Calls.spliced_nil ⟨by show 2 ≤ sizeLine; rw [sizeLine_eq]; decide, ?_⟩))))
  refine kk _ _ _ (fun b o e => Heap.get?_push_of_some _ e) ?_
  have LT : PySem.W.Looks (model X.prog X.w) (s.heap.push { cls := .type "tuple", data := .seq [Value.ref A, .ref B].toArray }) (typeOf (.ref a)) oe.cls := fun A Q E s k q => wpAny_typeOf_ref (k _ _ (Heap.get?_push_of_some _ ha)) q
  exact PySem.W.exm_tup2 (M := model X.prog X.w) (I.kIn.keeps fun b o e => Heap.get?_push_of_some _ e) LT (Heap.get?_push_size _ rfl) hf

section
variable {X : Cx} {C : Cn} {E : WX}
theorem exn_lay {Z H : Hp} {m : List Addr} {h : Hm} {c : Str} {fs : List (Str × D)} {cl : Value} {A : Addr} {od : Option Addr} {a : Addr} (s : HSim C Z m h H) (na : H a = none) (r : ExR C Z m H (.exn c fs) cl od) (e : cl = .ref A) :
    HSim C (upd Z a (exH a A od)) m h (upd H a (exH a A od)) ∧ Ext Z m H (upd Z a (exH a A od)) m (upd H a (exH a A od)) ∧ Rep C (upd Z a (exH a A od)) m (.exn c fs) (.ref a) := by
  have x := Ext.lay s na (exH a A od)
  refine ⟨s.lay na _, x, ?_⟩
  obtain ⟨A', h1, h2, h3⟩ := r
  rw [h2] at e; cases e
  rcases h3 with ⟨rfl, rfl⟩ | ⟨d, gs, rfl, h4, h5⟩
  · exact .exn0 h1 upd_same
  · exact .exn1 h1 upd_same (x.sub _ _ h4) (h5.mono x.sub (List.prefix_refl _))
theorem PostS.nox {r : Fl} {Z : Hp} {m : List Addr} {H : Hp} {K : Ends} (h : PostS C E r.nox Z m H K) : PostS C EF r Z m H K := by
  cases r with
  | exc e v h' => exact False.elim h
  | nx v h' => exact h
  | rt v h' => exact h
  | bk v h' => exact h
  | ct v h' => exact h
  | err => exact h
theorem ds_try {te : Expr} {f : Value → Option Bool} {t : Str → Bool} {body suite : List Stmt} {b₀ : Stmt} {pos pos' : Pos} {fb fs : SM} (hs : X.stack = X.env :: X.outer) (hf : X.env.frame = some X.env.locals) (ht : HTest X te f) (tk : Takes X E) (hX : ∀ c A, C.cls c = some A → f (.ref A) = some (t c))
    (hb : ∀ (W : WX) (pn : List (Addr × Obj)) (xe : Value → Shared → Prop), Takes (X.tr pn xe) W → PassesOwn (model X.prog X.w) X.A X.env xe → PSs (X.tr pn xe) body (denS C W fb))
    (hsu : ∀ (a : Addr) (pn : List (Addr × Obj)), PSs (X.suite a pn) (b₀ :: suite) (denS C EF fs)) :
    PS X (.Try body [.ExceptHandler (some te) none (b₀ :: suite) pos'] [] [] pos) (denS C E (sTry fb t fun _ => fs)) := by
  refine ps_imp (ps_tryT (nm := none) (tb := fun W => denS C W fb) hs hf ht tk (fun _ _ z => nomatch z) hb hsu) fun D σ H ⟨Z, m, v, h, s, e, p⟩ => ?_
  refine ⟨Z, m, v, h, s, e, ?_⟩
  unfold sTry at p
  cases q : fb v h with
  | exc x v1 h1 =>
    rw [q] at p
    cases x with
    | exn c gs =>
      intro Z1 m1 H1 σ1 cl od x1 s1 e1 r1
      obtain ⟨A, hA, rfl, hr⟩ := id r1
      refine ⟨t c, A, rfl, hX c A hA, fun ht => fun a na => ?_, fun hf => ?_⟩
      · simp only [ht, if_true] at p
        obtain ⟨s2, x2, _⟩ := exn_lay s1 na r1 rfl
        exact ⟨_, m1, v1, h1, s2, e1.mono x2, PostS.from (x1.trans x2) (PostS.nox p)⟩
      · simp only [hf] at p
        exact p _ _ _ _ _ _ x1 s1 e1 r1
    | _ => exact False.elim p
  | nx _ _ => rw [q] at p; exact p
  | rt _ _ => rw [q] at p; exact p
  | bk _ _ => rw [q] at p; exact p
  | ct _ _ => rw [q] at p; exact p
  | err => rw [q] at p; exact p
theorem ds_tryAs {i : Nat} {n : Str} {te : Expr} {f : Value → Option Bool} {t : Str → Bool} {body suite : List Stmt} {b₀ : Stmt} {pos pos' : Pos} {fb fs : SM} (hs : X.stack = X.env :: X.outer) (hf : X.env.frame = some X.env.locals) (hN : X.N.Nodup) (hi : X.N[i]? = some n) (hl : X.env.kindOf n = some .local)
    (ht : HTest X te f) (tk : Takes X E) (hX : ∀ c A, C.cls c = some A → f (.ref A) = some (t c))
    (hb : ∀ (W : WX) (pn : List (Addr × Obj)) (xe : Value → Shared → Prop), Takes (X.tr pn xe) W → PassesOwn (model X.prog X.w) X.A X.env xe → PSs (X.tr pn xe) body (denS C W fb))
    (hsu : ∀ (a : Addr) (pn : List (Addr × Obj)), PSs (X.suite a pn) (b₀ :: suite) (denS C EF fs)) :
    PS X (.Try body [.ExceptHandler (some te) (some n) (b₀ :: suite) pos'] [] [] pos) (denS C E (sTry fb t (kAs i fs))) := by
  refine ps_imp (ps_tryT (nm := some (n, i)) (tb := fun W => denS C W fb) hs hf ht tk (fun _ _ z => by cases z; exact ⟨hN, hi, hl⟩) hb hsu) fun D σ H ⟨Z, m, v, h, s, e, p⟩ => ?_
  refine ⟨Z, m, v, h, s, e, ?_⟩
  unfold sTry at p
  cases q : fb v h with
  | exc x v1 h1 =>
    rw [q] at p
    cases x with
    | exn c gs =>
      intro Z1 m1 H1 σ1 cl od x1 s1 e1 r1
      obtain ⟨A, hA, rfl, hr⟩ := id r1
      refine ⟨t c, A, rfl, hX c A hA, fun ht => fun a na => ?_, fun hf => ?_⟩
      · simp only [ht, if_true] at p
        obtain ⟨s2, x2, r2⟩ := exn_lay s1 na r1 rfl
        have p := PostS.from (x1.trans x2) p
        refine ⟨_, m1, v1.set i (some (.exn c gs)), h1, s2, (e1.mono x2).set r2 i, ?_⟩
        unfold kAs at p
        cases q2 : fs (v1.set i (some (.exn c gs))) h1 with
        | nx v2 h2 => rw [q2] at p; exact fun Z' m' H' σ' a b c => p _ _ _ _ a b (c.unset i)
        | bk v2 h2 => rw [q2] at p; exact fun Z' m' H' σ' a b c => p _ _ _ _ a b (c.unset i)
        | ct v2 h2 => rw [q2] at p; exact fun Z' m' H' σ' a b c => p _ _ _ _ a b (c.unset i)
        | rt d h2 => rw [q2] at p; exact p
        | exc _ _ _ => rw [q2] at p; exact False.elim p
        | err => rw [q2] at p; exact p
      · simp only [hf] at p
        exact p _ _ _ _ _ _ x1 s1 e1 r1
    | _ => exact False.elim p
  | nx _ _ => rw [q] at p; exact p
  | rt _ _ => rw [q] at p; exact p
  | bk _ _ => rw [q] at p; exact p
  | ct _ _ => rw [q] at p; exact p
  | err => rw [q] at p; exact p

/-! ### what was caught -/
/-- isinstance of an exception, by classes of exceptions -/
def isX (Ts : List Str) (d : D) (h : Hm) : R D := match d with
  | .exn c _ => .ok (.bl (Ts.any fun T => xIs c T)) h
  | _ => .err
theorem nox_isX (Ts : List Str) : ∀ a h, NoX (isX Ts a h) := by intro a h e g; unfold isX; split <;> simp
/-- .f of an exception -/
def xFld (f : Str) (d : D) (h : Hm) : R D := match d with
  | .exn _ fs => match fs.lookup f with
    | some x => .ok x h
    | none => .err
  | _ => .err
theorem nox_xFld (f : Str) : ∀ a h, NoX (xFld f a h) := by intro a h e g; unfold xFld; repeat' split
                                                           all_goals simp
/-- what a caught exception is for the library -/
theorem inst_of {pins : List (Addr × Obj)} {σ : L2.St} {H : Hp} {s : Shared} {a A : Addr} {od : Option Addr} (I : Inv X pins σ H s) (e : H a = some (exH a A od)) (hd : ∀ d, od = some d → ∃ gs, H d = some (.xd gs)) :
    ∃ oe odo, PySem.W.InstAt s.heap a oe A odo ∧ (∀ d gs, od = some d → H d = some (.xd gs) → ∃ (mA : Str → Option Value) (oD : Obj), odo = some oD ∧ (∀ f, RelO (gs.lookup f) (mA f)) ∧ ∀ name, PySem.W.lookIn name oD = some (mA name)) := by
  have x : ObjOk X.prog X.w H s.heap a (exH a A od) := I.hok a _ e
  obtain ⟨⟨oe, vs, h1, h2, h3, h4⟩, _⟩ := x
  cases od with
  | none =>
    refine ⟨oe, none, ⟨h1, h2, by unfold PySem.W.notCls; rw [h4] <;> rfl, by rw [h3]; trivial⟩, fun d gs z => nomatch z⟩
  | some d =>
    obtain ⟨gs, hg⟩ := hd d rfl
    have y : ObjOk X.prog X.w H s.heap d (.xd gs) := I.hok d _ hg
    obtain ⟨mA, hns, hr⟩ := y
    obtain ⟨oD, ho, hl⟩ := lookIn_ns hns
    refine ⟨oe, some oD, ⟨h1, h2, by unfold PySem.W.notCls; rw [h4] <;> rfl, by rw [h3]; exact ho⟩, fun d' gs' z hg' => ?_⟩
    cases z
    rw [hg] at hg'; cases hg'
    exact ⟨mA, oD, rfl, hr, hl⟩
theorem clsIn_of {K : PySem.W.Frag} {A : Addr} (h : PySem.W.hasDictIn K A = true) : (PySem.W.clsIn K A).isSome = true := by
  obtain ⟨cd, hc, _⟩ := PySem.W.any_some h
  rw [hc]; rfl
theorem call_isX : CallR X (.builtin "isinstance") (fun xs H Q => ∃ (a A : Addr) (od : Option Addr) (c : V) (u : Value) (b : Bool), xs = [.ref a, c] ∧ ClsV c u ∧ H a = some (exH a A od) ∧ (∀ d, od = some d → ∃ gs, H d = some (.xd gs)) ∧ ExcC X.K A ∧ PySem.W.kitOne X.K (.ref A) u = some b ∧ Q (.bl b) H) := by
  intro pins s σ H xs us Q I r ⟨a, A, od, c, u, b, e, hc, ea, hd, T, hk, q⟩
  subst e
  cases r with
  | cons rx rr =>
    cases rr with
    | cons rt rr =>
      cases rr
      cases rx
      have ec := hc.eq rt
      subst ec
      obtain ⟨oe, odo, J, _⟩ := inst_of I ea hd
      exact PySem.W.kia_one (PySem.W.kitx_exc (clsIn_of T.hd) T.hg T.hk T.hs T.ha T.hn T.ht T.hm) I.kIn J hk (fun z => nomatch z) fun tk => ⟨.bl b, H, I.kept (t' := tk) fun _ _ z => z, rfl, q⟩
theorem call_isXT : CallR X (.builtin "isinstance") (fun xs H Q => ∃ (a A tp : Addr) (od : Option Addr) (cs : List V) (us : List Value) (b : Bool), xs = [.ref a, .ref tp] ∧ H tp = some (.tup cs) ∧ Paired ClsV cs us ∧ H a = some (exH a A od) ∧ (∀ d, od = some d → ∃ gs, H d = some (.xd gs)) ∧ ExcC X.K A ∧ PySem.W.kitAny X.K (.ref A) us = some b ∧ Q (.bl b) H) := by
  intro pins s σ H xs us Q I r ⟨a, A, tp, od, cs, ws, b, e, ht, hp, ea, hd, T, hk, q⟩
  subst e
  cases r with
  | cons rx rr =>
    cases rr with
    | cons rt rr =>
      cases rr
      cases rx
      cases rt
      obtain ⟨oe, odo, J, _⟩ := inst_of I ea hd
      have y : ObjOk X.prog X.w H s.heap tp (.tup cs) := I.hok tp _ ht
      obtain ⟨_, its, rv, ot, hot, hoc, n, hod⟩ := y
      have ei := ClsV.all hp rv
      subst ei
      obtain ⟨oc, odd, oda, osl⟩ := ot
      simp only at hoc hod
      subst hoc; subst hod
      exact PySem.W.kia_tup (PySem.W.kitx_exc (clsIn_of T.hd) T.hg T.hk T.hs T.ha T.hn T.ht T.hm) I.kIn J hot hk (fun z => nomatch z) fun tk => ⟨.bl b, H, I.kept (t' := tk) fun _ _ z => z, rfl, q⟩
/-- the classes of exceptions by their names, and what isinstance says of them -/
structure XTab (C : Cn) : Prop where
  ex : ∀ c A, C.cls c = some A → XCls C.K A
  is : ∀ c A T B, C.cls c = some A → C.cls T = some B → PySem.W.kitOne C.K (.ref A) (.ref B) = some (xIs c T)
  ve : ∀ c A, C.cls c = some A → PySem.W.kitOne C.K (.ref A) (.type "ValueError") = some true
  em : ∀ c A T B, C.cls c = some A → C.cls T = some B → PySem.W.exmOne C.K (.ref A) (.ref B) = some (xIs c T)
theorem exn_at {Z H : Hp} {m : List Addr} {h : Hm} {c : Str} {fs : List (Str × D)} {y : V} (s : HSim C Z m h H) (r : Rep C Z m (.exn c fs) y) : ∃ a A od, y = .ref a ∧ C.cls c = some A ∧ H a = some (exH a A od) ∧ (∀ d, od = some d → ∃ gs, H d = some (.xd gs)) ∧ ∀ f x, fs.lookup f = some x → ∃ d gs z, od = some d ∧ H d = some (.xd gs) ∧ gs.lookup f = some z ∧ Rep C Z m x z := by
  cases r with
  | exn0 h1 h2 => exact ⟨_, _, none, rfl, h1, s.sub _ _ h2, (fun d z => nomatch z), (fun f x z => by simp at z)⟩
  | @exn1 a A d _ _ gs h1 h2 h3 h4 =>
    refine ⟨_, _, some d, rfl, h1, s.sub _ _ h2, fun d' z => by cases z; exact ⟨gs, s.sub _ _ h3⟩, fun f x z => ⟨d, gs, ?_⟩⟩
    have : ∀ {fs : List (Str × D)} {gs : List (Str × V)}, RepF C Z m fs gs → ∀ {x}, fs.lookup f = some x → ∃ z, gs.lookup f = some z ∧ Rep C Z m x z := by
      intro fs gs hr
      induction fs generalizing gs with
      | nil => intro x z; simp at z
      | cons p fs ih =>
        cases hr with
        | @cons g d v _ vs r1 r2 =>
          intro x z
          rw [List.lookup_cons] at z ⊢
          cases hb : f == g with
          | true => rw [hb] at z; cases z; exact ⟨_, rfl, r1⟩
          | false => rw [hb] at z; exact ih r2 z
    obtain ⟨w, h5, h6⟩ := this h4 z
    exact ⟨w, rfl, s.sub _ _ h3, h5, h6⟩
/-- isinstance(e, T), T a class of the program -/
theorem de_isX {T : Str} {B : Addr} {a : Expr} {p pt pos : Pos} {fa : EM} (tab : XTab C) (hK : C.K = X.K) (hg : Gl X "isinstance") (hm : X.mg "isinstance" = none) (hv : bootBuiltins "isinstance" = some (.builtin "isinstance")) (hgT : Gl X T) (hmT : X.mg T = some (.ref B)) (hc : C.cls T = some B) (ha : PE X a (denE C E fa)) (hdT : (T == ("__debug__" : Str)) = false := by decide)
    (he : starEach [a, .Name T pt] X.env = (false, eval a X.env) :: starEach [.Name T pt] X.env := by rfl) (he2 : starEach [.Name T pt] X.env = (false, eval (.Name T pt) X.env) :: starEach [] X.env := by rfl)
    (hpl : (backTo pos (starEach [.Name T pt] X.env)).any (·.1) = false := by rfl) : PE X (.Call (.Name "isinstance" p) [a, .Name T pt] [] pos) (denE C E (eU (isX [T]) fa)) := by
  refine pe_imp (pe_callB call_isX hg hm hv (pa_cons ha (pa_cons (pe_glob (v := .ref B) hgT hmT rfl hdT) pa_nil he2) he) (by decide) (by decide) he hpl) fun σ H Q ⟨Z, m, v, h, s, e, p⟩ => ?_
  refine ⟨Z, m, v, h, s, e, (p.bind (rep1 := Rep C)).imp fun y H1 ⟨Z1, m1, d, h1, x1, s1, r1, p1⟩ => ?_⟩
  have p1 := p1.nox (nox_isX [T] _ _)
  cases d with
  | exn c fs =>
    obtain ⟨a, A, od, rfl, hA, ea, hd, _⟩ := exn_at s1 r1
    have q := tab.is c A T B hA hc
    rw [hK] at q
    refine ⟨a, A, od, .ref B, .ref B, _, rfl, .own B, ea, hd, hK ▸ (tab.ex c A hA).ex, q, ?_⟩
    have := p1 _ _ _ _ .refl s1 (.bl _)
    simpa using this
  | _ => exact False.elim p1
theorem de_isVE {a : Expr} {p pt pos : Pos} {fa : EM} (tab : XTab C) (hK : C.K = X.K) (hg : Gl X "isinstance") (hm : X.mg "isinstance" = none) (hv : bootBuiltins "isinstance" = some (.builtin "isinstance")) (hgT : Gl X "ValueError") (hmT : X.mg "ValueError" = none) (hvT : bootBuiltins "ValueError" = some (.type "ValueError")) (ha : PE X a (denE C E fa))
    (he : starEach [a, .Name "ValueError" pt] X.env = (false, eval a X.env) :: starEach [.Name "ValueError" pt] X.env := by rfl) (he2 : starEach [.Name "ValueError" pt] X.env = (false, eval (.Name "ValueError" pt) X.env) :: starEach [] X.env := by rfl)
    (hpl : (backTo pos (starEach [.Name "ValueError" pt] X.env)).any (·.1) = false := by rfl) : PE X (.Call (.Name "isinstance" p) [a, .Name "ValueError" pt] [] pos) (denE C E (eU (isX ["ValueError"]) fa)) := by
  refine pe_imp (pe_callB call_isX hg hm hv (pa_cons ha (pa_cons (pe_bltn (v := .ty "ValueError") hgT hmT hvT rfl (by decide) (by decide)) pa_nil he2) he) (by decide) (by decide) he hpl) fun σ H Q ⟨Z, m, v, h, s, e, p⟩ => ?_
  refine ⟨Z, m, v, h, s, e, (p.bind (rep1 := Rep C)).imp fun y H1 ⟨Z1, m1, d, h1, x1, s1, r1, p1⟩ => ?_⟩
  have p1 := p1.nox (nox_isX ["ValueError"] _ _)
  cases d with
  | exn c fs =>
    obtain ⟨a, A, od, rfl, hA, ea, hd, _⟩ := exn_at s1 r1
    have q := tab.ve c A hA
    rw [hK] at q
    refine ⟨a, A, od, .ty "ValueError", .type "ValueError", _, rfl, .ty _, ea, hd, hK ▸ (tab.ex c A hA).ex, q, ?_⟩
    have := p1 _ _ _ _ .refl s1 (.bl _)
    simpa [xIs] using this
  | _ => exact False.elim p1
/-- isinstance(e, (T, U)) -/
theorem de_isX2 {T U : Str} {BT BU : Addr} {a : Expr} {k : Nat} {p pt pu ptt pos : Pos} {fa : EM} (tab : XTab C) (hK : C.K = X.K) (hg : Gl X "isinstance") (hm : X.mg "isinstance" = none) (hv : bootBuiltins "isinstance" = some (.builtin "isinstance")) (hgT : Gl X T) (hmT : X.mg T = some (.ref BT)) (hcT : C.cls T = some BT) (hgU : Gl X U) (hmU : X.mg U = some (.ref BU)) (hcU : C.cls U = some BU) (ha : PE X a (denE C E fa)) (hdT : (T == ("__debug__" : Str)) = false := by decide) (hdU : (U == ("__debug__" : Str)) = false := by decide)
    (he : starEach [a, .Tuple [.Name T pt, .Name U pu] k ptt] X.env = (false, eval a X.env) :: starEach [.Tuple [.Name T pt, .Name U pu] k ptt] X.env := by rfl) (he2 : starEach [.Tuple [.Name T pt, .Name U pu] k ptt] X.env = (false, eval (.Tuple [.Name T pt, .Name U pu] k ptt) X.env) :: starEach [] X.env := by rfl)
    (hs : starEach [.Name T pt, .Name U pu] X.env = (false, eval (.Name T pt) X.env) :: starEach [.Name U pu] X.env := by rfl) (hs2 : starEach [.Name U pu] X.env = (false, eval (.Name U pu) X.env) :: starEach [] X.env := by rfl)
    (hpl : (backTo pos (starEach [.Tuple [.Name T pt, .Name U pu] k ptt] X.env)).any (·.1) = false := by rfl) : PE X (.Call (.Name "isinstance" p) [a, .Tuple [.Name T pt, .Name U pu] k ptt] [] pos) (denE C E (eU (isX [T, U]) fa)) := by
  refine pe_imp (pe_callB call_isXT hg hm hv (pa_cons ha (pa_cons (pe_tup (pa_cons (pe_glob (v := .ref BT) hgT hmT rfl hdT) (pa_cons (pe_glob (v := .ref BU) hgU hmU rfl hdU) pa_nil hs2) hs)) pa_nil he2) he) (by decide) (by decide) he hpl) fun σ H Q ⟨Z, m, v, h, s, e, p⟩ => ?_
  refine ⟨Z, m, v, h, s, e, (p.bind (rep1 := Rep C)).imp fun y H1 ⟨Z1, m1, d, h1, x1, s1, r1, p1⟩ => ⟨by show 2 ≤ sizeLine; rw [sizeLine_eq]; decide, fun tp htp => ?_⟩⟩
  have p1 := p1.nox (nox_isX [T, U] _ _)
  cases d with
  | exn c fs =>
    obtain ⟨a, A, od, rfl, hA, ea, hd, _⟩ := exn_at s1 r1
    have q1 := tab.is c A T BT hA hcT
    have q2 := tab.is c A U BU hA hcU
    rw [hK] at q1 q2
    have xl := Ext.lay s1 htp (.tup [.ref BT, .ref BU])
    refine ⟨a, A, tp, od, [.ref BT, .ref BU], [.ref BT, .ref BU], xIs c T || xIs c U, rfl, upd_same, .cons (.own _) (.cons (.own _) .nil), by rw [upd_ne (ne_of_none ea htp)]; exact ea, fun d hd' => ?_, hK ▸ (tab.ex c A hA).ex, ?_, ?_⟩
    · obtain ⟨gs, hg⟩ := hd d hd'
      exact ⟨gs, by rw [upd_ne (ne_of_none hg htp)]; exact hg⟩
    · unfold PySem.W.kitAny; rw [q1]
      cases hx : xIs c T with
      | true => simp
      | false =>
        simp only [Bool.false_or]
        unfold PySem.W.kitAny; rw [q2]
        cases hy : xIs c U <;> rfl
    · have := p1 _ _ _ _ xl (s1.lay htp _) (.bl _)
      simpa using this
  | _ => exact False.elim p1
theorem de_xFld {f : Str} {a : Expr} {pos : Pos} {fa : EM} (tab : XTab C) (hK : C.K = X.K) (hno : ∀ c A, C.cls c = some A → PySem.W.findIn X.K (.ref A) f = some none) (ha : PE X a (denE C E fa)) (hb : attributeBase a f X.env (eval a X.env) = eval a X.env := by rfl) : PE X (.Attribute a f pos) (denE C E (eU (xFld f) fa)) := by
  refine ⟨fun pins s σ H Q I ⟨Z, m, v, h, sm, e, p⟩ => ?_⟩
  refine attr_of hb (thn (ha.run pins s σ H _ I ⟨Z, m, v, h, sm, e, (p.bind (rep1 := Rep C))⟩) fun u s1 ⟨y, H1, I1, ry, Z1, m1, d, h1, x1, s1', r1, p1⟩ => ?_)
  unfold xFld at p1
  cases d with
  | exn c fs =>
    simp only at p1
    obtain ⟨a, A, od, rfl, hA, ea, hd, hl⟩ := exn_at s1' r1
    split at p1
    · rename_i x hx
      obtain ⟨d, gs, z, rfl, hdd, hz, rz⟩ := hl f x hx
      obtain ⟨oe, odo, J, hJ⟩ := inst_of I1 ea hd
      obtain ⟨mA, oD, rfl, hr, hlk⟩ := hJ d gs rfl hdd
      obtain ⟨w, hw, rw'⟩ := RelO.some_of (v := z) (o := mA f) (by rw [← hz]; exact hr f)
      have T := (tab.ex c A hA).ex
      rw [hK] at T
      cases ry
      exact PySem.HandSPX.exc_get I1.kIn J T.hg T.hk T.hs (PySem.W.findObj_own T.hd (hno c A hA) rfl (by rw [hlk, hw])) (handed_of rw') ⟨z, H1, I1.tok _, rw', p1 _ _ _ _ .refl s1' rz⟩
    · exact False.elim p1
  | _ => exact False.elim p1
end

/-! ### a def that may raise -/
section
variable {P : Program} {w : World} {K : PySem.W.Frag} {mg : Str → Option Value} {base : Heap} {C : Cn}
theorem fn_okX {x qual : Str} {st : Stmt} {f : Addr} {fd : FuncData} {N ps : List Str} {k : Nat} {b : SM} (F : Fun K x qual st f fd) (S : FnScope N ps (defScope st))
    (hbody : ∀ (cdv : Value) (A : Around) (outer : List Env) (s : Shared) (H : Hp) (E : XK), Room k (A.deeper (envOfC qual (defScope st) s.heap.objs.size f cdv)) → Takes (cxOf (L2.CX P w) P w K mg base N qual (defScope st) f cdv A outer s H E) (fun c d _ H => E c d H) → PSs (cxOf (L2.CX P w) P w K mg base N qual (defScope st) f cdv A outer s H E) (defBody st) (denS C (fun c d _ H => E c d H) b)) :
    FnOk P w K mg base (L2.CX P w) (k + 1) f fd ps (spD C (fn ps.length N.length b)) := by
  refine F.okX S (spD_len fun ds h hl => by unfold fn; rw [if_neg hl]) fun cdv A outer s H vs Q E hr hsp => ⟨_, hbody cdv A outer s H E hr (takes_of rfl rfl rfl rfl), ?_⟩
  obtain ⟨Z, m, h, ds, s1, r, p⟩ := hsp
  exact fn_end (E := fun c d _ H => E c d H) (Ex := E) (np := ps.length) s1 r (fun _ _ _ _ z => z) p
end
theorem passX {X : Cx} {E : WX} (tk : Takes X E) (σ : L2.St) : PassesAt (L2.CX X.prog X.w) X σ (fun c d H => E c d σ H) := fun _ _ _ e s' I c => tk e s' (XE.of_call I (fun _ _ _ h => h) c)
theorem takesF {X : Cx} : Takes X EF := fun _ _ ⟨_, _, _, _, _, _, _, _, _, _, _, _, _, _, _, _, w⟩ => w.elim
end Dn

/-! DenZ: a comprehension whose elements may raise. -/
set_option Elab.async false
set_option linter.all false
set_option maxRecDepth 100000
set_option maxHeartbeats 4000000
namespace Dn
open PySem PySem.Spec PyProof.Rows L2

section
variable {X : Cx} {pins pins' : List (Addr × Obj)} {σ σ' : L2.St} {H3 H : Hp} {s3 s : Shared} {scope : Scope} {cl : List (Str × Addr)} {fp : List Addr} {pn : List (Addr × Obj)} {xe : Value → Shared → Prop}
theorem traced_sameBut {B h h' : Heap} {a C : Addr} {Z : Obj → Prop} {fl : Value} {m : Str → Option Value} (t : HandSPX.TracedZ h B a Z fl) (hn : h.Ns C m) (hs : Heap.SameBut C h h') : HandSPX.TracedZ h' B a Z fl := by
  obtain ⟨oe, vs, T, oT, ts, he, hz, hd, h1, hb, ht, hT, hdT, h3⟩ := t
  obtain ⟨oL, es, ep, hoL, hdL, _⟩ := hn
  have ne : ∀ {b : Addr} {o : Obj} {vs : Array Value}, h.get? b = some o → o.data = .fields vs → b ≠ C := fun {b o vs} e d z => by
    subst z; rw [hoL] at e; cases e; rw [hdL] at d; cases d
  exact ⟨oe, vs, T, oT, ts, (hs.2 a (ne he hd)).trans he, hz, hd, h1, hb, ht, (hs.2 T (ne hT hdT)).trans hT, hdT, h3⟩
/-- an exception out of a call in an element: noted, the comprehension's names let go, thrown on -/
theorem comp_fails {W : WX} {u : Value} {s' : Shared} {Ef : Value → Shared → Prop} (hs : X.stack = X.env :: X.outer) (hf : X.env.frame = some X.env.locals) (tk : Takes X W) (I3 : Inv X pins σ H3 s3)
    (hfp : ∀ b ∈ fp, FpOk X pins H3 b) (I5 : Inv ((X.blk s3 H3 scope (compEnvC scope cl s3.heap.objs.size X.env) fp).tr pn xe) pins' σ' H s) (c : L2.CX X.prog X.w X.stack H s (fun cls d H' => W cls d σ H') u s') :
    wpAny (model X.prog X.w) X.A (noteFrame u (compEnvC scope cl s3.heap.objs.size X.env)) (fun _ s'' => CompFails (model X.prog X.w) X.A X.xe (compEnvC scope cl s3.heap.objs.size X.env) u s'') Ef s' := by
  obtain ⟨a, B, H', cls, d, rfl, fl, hok, ub, na, os, ag, hE⟩ := c
  have hfr : X.A.frames = some (X.env :: X.outer) := by rw [I3.ok.frames, hs]
  generalize hC : s3.heap.objs.size = Cc at I5 ⊢
  have hce : (compEnvC scope cl Cc X.env).frame = X.env.frame := rfl
  have hcL : (compEnvC scope cl Cc X.env).locals = Cc := rfl
  rw [noteFrame_env _ hce]
  have frB : ∀ b ∈ frs X.stack, b ≠ Cc := fun b hb z => by
    obtain ⟨_, o, ho, _⟩ := I3.stack.mem hb
    have := Heap.lt_size ho
    rw [hC, z] at this
    exact Nat.lt_irrefl _ this
  have oldNe : ∀ {b : Addr} {o : Obj}, s3.heap.get? b = some o → b ≠ Cc := fun {b o} e z => by
    have := Heap.lt_size e
    rw [hC, z] at this
    exact Nat.lt_irrefl _ this
  have hCf : H Cc = none := I5.free
  obtain ⟨m, hn, _⟩ := I5.loc
  have hn : s.heap.Ns Cc m := hn
  obtain ⟨oC, esC, epC, hoC, hdC, hrC⟩ := id hn
  have hBC : B.get? Cc = some oC := ub.keep Cc oC hoC hCf (fun hb => frB _ hb rfl)
  have hsC : s'.heap.get? Cc = some oC := fl.1 _ _ hBC
  have hn' : s'.heap.Ns Cc m := hn.at fun o e => by rw [hoC] at e; cases e; exact hsC
  have hH'C : H' Cc = none := ub.free Cc oC hoC hCf
  obtain ⟨B', b1, b2⟩ := restrict B fun b => decide (b ≠ Cc)
  have bB : ∀ b, b ≠ Cc → B'.get? b = B.get? b := fun b hb => b1 b (decide_eq_true hb)
  have bC : B'.get? Cc = none := b2 Cc (by simp)
  have bsub : ∀ b o, B'.get? b = some o → B.get? b = some o ∧ b ≠ Cc := fun b o e => by
    by_cases hb : b = Cc
    · subst hb; rw [bC] at e; cases e
    · exact ⟨by rw [← bB b hb]; exact e, hb⟩
  have none' : ∀ {b : Addr}, B.get? b = none → B'.get? b = none := fun {b} e => by
    cases q : B'.get? b with
    | none => rfl
    | some o => rw [(bsub b o q).1] at e; cases e
  have fl' : HandSPX.FlyingZ B' (X.env :: X.outer) a (Zc cls d) s'.heap := by
    obtain ⟨x1, x2, x3, oe, vs, T, oT, ts', y1, y2, y3, y4, y5, y6, y7, y8⟩ := fl
    rw [hs] at x3
    exact ⟨fun b o e => x1 _ _ (bsub b o e).1, none' x2, funFrames_none x3 fun L hL => by
      obtain ⟨q, _⟩ := x3.mem hL
      exact none' q, oe, vs, T, oT, ts', y1, y2, y3, y4, none' y5, y6, y7, y8⟩
  refine HandSPX.looks_onZ Zc.steady hfr hf fl' fun h1 hh1 up1 => ?_
  refine ⟨m, hn'.upToSlots up1, fun h2 m2 hn2 hs2 => ?_⟩
  have hh2 : HandSPX.HeldZ B' (X.env :: X.outer) a (Zc cls d) X.env.locals h2 := by
    obtain ⟨x1, x2, x3, x4⟩ := hh1
    exact ⟨fun b o e => (hs2.2 b (bsub b o e).2).trans (x1 b o e), x2, Heap.FunFrames.sameBut hs2 hn2 x3, traced_sameBut x4 (hn'.upToSlots up1) hs2⟩
  obtain ⟨oe, vs, T, oT, ts, he, hz, hd, hv1, hr⟩ := id hh2.2.2.2
  unfold PySem.passOn
  refine wpAny_bind (wpAny_field he hd hv1 ?_)
  rw [if_neg (show ¬ ((Value.ref T == Value.none) = true) from by simp)]
  have fin : wpAny (model X.prog X.w) X.A (setFlight (.ref a) X.env.frame) (fun _ s4 => wpAny (model X.prog X.w) X.A (throw (.ref a) : Sem Value) (fun _ _ => False) X.xe s4) X.xe { s' with heap := h2 } := by
    rw [hf]
    refine HandSPX.setFlight_onZ hh2 fun h4 hh4 up4 => wpAny_throw (tk _ _ ?_)
    obtain ⟨G, g1, g2⟩ := restrict s'.heap fun b => ((B.get? b).isSome && decide (b ≠ Cc)) || decide (b ∈ frs X.stack)
    have gB : ∀ b o, B.get? b = some o → b ≠ Cc → G.get? b = some o := fun b o e hb => by
      rw [g1 b (by simp [e, hb])]
      exact fl.1 b o e
    have gF : ∀ b, b ∈ frs X.stack → G.get? b = s'.heap.get? b := fun b hb => g1 b (by simp [hb])
    have og : ∀ b o, G.get? b = some o → s'.heap.get? b = some o ∧ (((B.get? b).isSome = true ∧ b ≠ Cc) ∨ b ∈ frs X.stack) := fun b o e => by
      cases q : (((B.get? b).isSome && decide (b ≠ Cc)) || decide (b ∈ frs X.stack)) with
      | false => rw [g2 b q] at e; cases e
      | true =>
        rw [g1 b q] at e
        simp only [Bool.or_eq_true, Bool.and_eq_true, decide_eq_true_eq] at q
        exact ⟨e, q⟩
    have hokG : HOk X.prog X.w H' G := fun b o q => (hok b o q).stay (fun x v hx r => gB x v r (fun z => by
      subst z
      rcases hx with hx | hx
      · rw [← hx, hH'C] at q; cases q
      · rw [hH'C] at hx; cases hx)) (fun _ q => q) fun _ _ q => q
    have U : Un (frs X.stack) fp H3 H' s3.heap G := {
      keep := fun b o e n hb hx => gB b o (ub.keep b o (I5.base.keep b o e n hb hx) (I5.base.free b o e n hx) hb) (oldNe e)
      slot := fun b o e n hb hx => by
        obtain ⟨sl, e1⟩ := I5.base.slot b o e n hb hx
        obtain ⟨sl2, e2⟩ := ub.slot b _ e1 hb
        exact ⟨sl2, by rw [gF b hb]; exact e2⟩
      free := fun b o e n hx => by
        obtain ⟨o', e1⟩ := I5.base.there b o e hx
        exact ub.free b o' e1 (I5.base.free b o e n hx)
      there := fun b o e hx => by
        obtain ⟨o', e1⟩ := I5.base.there b o e hx
        by_cases hb : b ∈ frs X.stack
        · obtain ⟨sl, q⟩ := ub.slot b o' e1 hb
          exact ⟨_, by rw [gF b hb]; exact q⟩
        · obtain ⟨o2, q⟩ := ub.there b o' e1 hb
          exact ⟨o2, gB b o2 q (oldNe e)⟩
      tups := fun b xs e => ub.tups b xs (I5.base.tups b xs e)
      frzs := fun b o xs e => ub.frzs b o xs (I5.base.frzs b o xs e)
      tbls := fun b ps e => by
        obtain ⟨m1, e1⟩ := I5.base.tbls b ps e
        obtain ⟨m2, e2⟩ := ub.tbls b _ e1
        exact ⟨m1 ++ m2, by rw [e2, Array.append_assoc]⟩ }
    have J := I3.call' (s' := { s' with heap := G }) (ch := fp) (os.trans I5.os) U hokG ag fun b hb => ⟨(hfp b hb).2.2.2.1, (hfp b hb).2.1, (hfp b hb).2.2.2.2.1, (hfp b hb).2.2.2.2.2⟩
    refine ⟨a, B', { s' with heap := G }, pins, σ, H', cls, d, rfl, J, fun b o e hb => ?_, fun b o e hnf => ?_, .inr (.inr (by rw [hs]; exact hh4)), na, rfl, ag, hE⟩
    · obtain ⟨e1, h | h⟩ := og b o e
      · obtain ⟨o', q⟩ := Option.isSome_iff_exists.mp h.1
        have z := fl.1 b o' q
        rw [e1] at z; cases z
        rw [bB b h.2]; exact q
      · exact absurd h hb
    · obtain ⟨e1, hh⟩ := og b o e
      have hbC : b ≠ Cc := by
        rcases hh with h | h
        · exact h.2
        · exact frB b h
      obtain ⟨sl, e2⟩ := up1 b o e1 hnf
      obtain ⟨sl2, e3⟩ := up4 b _ ((hs2.2 b hbC).trans e2) hnf
      exact ⟨sl2, e3⟩
  first
    | exact wpAny_bind (wpAny_pure (wpAny_bind fin))
    | exact wpAny_bind fin
end

section
variable {X : Cx}
/-- the element of a comprehension in its block, what it raises wished at σ -/
abbrev PEl (X : Cx) (elt : Expr) (scope : Scope) (te : WX → TE) : Prop := ∀ (s : Shared) (H : Hp) (Ca : Addr) (cl : List (Str × Addr)) (fp : List Addr) (pn : List (Addr × Obj)) (xe : Value → Shared → Prop) (W : WX),
  (∀ σ, PassesAt (L2.CX X.prog X.w) ((X.blk s H scope (compEnvC scope cl Ca X.env) fp).tr pn xe) σ (fun c d H => W c d σ H)) → PE ((X.blk s H scope (compEnvC scope cl Ca X.env) fp).tr pn xe) elt (te W)
theorem pe_lcX {elt tg iter : Expr} {ifs : List Expr} {scope : Scope} {own : List (Str × Nat)} {pos : Pos} {wi : TI} {g : TG} {tt : TT} {te : WX → TE} {WO : WX} (hs : X.stack = X.env :: X.outer) (hf : X.env.frame = some X.env.locals) (tk : Takes X WO) (hc : X.calm = true) (hN : X.N.Nodup) (hi : PI X tg iter wi) (ok : BlkOk X.N X.env.scope scope own)
    (hg : ∀ (s : Shared) (H : Hp) (C : Addr) (cl : List (Str × Addr)) (fp : List Addr), PG (X.blk s H scope (compEnvC scope cl C X.env) fp) tg g) (ht : ∀ (s : Shared) (H : Hp) (C : Addr) (cl : List (Str × Addr)) (fp : List Addr), PTs (X.blk s H scope (compEnvC scope cl C X.env) fp) ifs tt)
    (he : PEl X elt scope te) (hsf : ∀ x, foldedSetIterable iter X.env x = pure x := by intro _; rfl) :
    PE X (.ListComp elt [⟨tg, iter, ifs, 0⟩] scope pos) (fun σ H Q => tLc wi g tt (te fun cls d _ H' => WO cls d σ H') (own.map (·.2)) σ H Q) := by
  refine ⟨fun pins s σ H Q I h => ?_⟩
  rw [eval_ListComp]
  have hfree : ∀ y ∈ scope.names, y.2 = .free → ∃ c, X.env.cells.lookup y.1 = some c := fun y hy e => by
    rcases ok.free y hy e with k | k
    · exact I.ok.has _ (.inl k)
    · exact I.ok.has _ (.inr k)
  refine comprehension_at (use := none) rfl hsf (closure_ok hfree) ok.kind (fun y hy e => by rw [ok.uniq y hy, e])
    (thn (hi.run pins s σ H _ I h) fun xv s1 hx => thn hx fun itv s2 h2 => ?_)
  obtain ⟨it, fp, tn, J, H2, e, I2, T, st2, f2, q⟩ := h2
  subst e
  refine wpAny_newObj_type (newEnv_comp ?_) (by show 0 ≤ sizeLine; decide)
  generalize hD : s2.heap.objs.size = D
  have hDn : H2 D = none := I2.hok.fresh (Nat.le_of_eq hD)
  obtain ⟨W, ⟨m0, w0⟩, turn⟩ := q D hDn
  generalize hs3 : ({ s2 with heap := s2.heap.push { cls := .type "list", data := .seq ([] : List Value).toArray } } : Shared) = s3
  have I3 : Inv X pins σ (upd H2 D (.lst [])) s3 := by
    rw [← hs3]
    refine I2.laid (t' := s2.toks) (fun b o e => Heap.get?_push_of_some _ e) (Nat.le_of_eq hD) ⟨Nat.zero_le _, [], 0, .nil, ?_⟩
    rw [← hD]
    exact Heap.get?_push_size _ rfl
  have h3 : s3.heap = s2.heap.push { cls := .type "list", data := .seq ([] : List Value).toArray } := by rw [← hs3]
  have sz : ∀ b ∈ fp, b < s2.heap.objs.size := fun b hb => by
    obtain ⟨o, e, _⟩ := T.obj _ _ st2 b hb
    exact Heap.lt_size e
  have f3 : ∀ b ∈ fp, FpOk X pins (upd H2 D (.lst [])) b ∧ b < s3.heap.objs.size := fun b hb => by
    have hlt := sz b hb
    refine ⟨⟨?_, (f2 b hb).2⟩, by rw [h3, Heap.size_push]; exact Nat.lt_succ_of_lt hlt⟩
    rw [upd_ne (by rw [← hD]; exact Nat.ne_of_lt hlt)]
    exact (f2 b hb).1
  have st3 : tn 0 s3.heap := T.keep _ _ _ st2 fun b _ o e => by rw [h3]; exact Heap.get?_push_of_some _ e
  have I4 := block_start I3 ok hN f3
  have pg := hg s3 (upd H2 D (.lst [])) s3.heap.objs.size (cellsFrom (s3.heap.objs.size + 1) scope.names (cloFrom X.env.cells scope.names [])) fp
  have pt := ht s3 (upd H2 D (.lst [])) s3.heap.objs.size (cellsFrom (s3.heap.objs.size + 1) scope.names (cloFrom X.env.cells scope.names [])) fp
  have pe := he s3 (upd H2 D (.lst [])) s3.heap.objs.size (cellsFrom (s3.heap.objs.size + 1) scope.names (cloFrom X.env.cells scope.names [])) fp
  show codeAny _ _ (.compStart (.ListComp elt [⟨tg, iter, ifs, 0⟩] scope pos) 0 (.ref it) (.ref D) (compEnvC scope (cellsFrom (s3.heap.objs.size + 1) scope.names (cloFrom X.env.cells scope.names [])) s3.heap.objs.size X.env)) (compEnds (model X.prog X.w) X.A X.xe none (EP X pins σ Q) (.ref D) (compEnvC scope (cellsFrom (s3.heap.objs.size + 1) scope.names (cloFrom X.env.cells scope.names [])) s3.heap.objs.size X.env)) { s3 with heap := pushCells (s3.heap.push { cls := .type "dict", data := .dict #[] }) scope.names }
  have nfp : ∀ b ∈ fp, (upd H2 D (.lst [])) b = none := fun b hb => (f3 b hb).1.1
  generalize hcl : cellsFrom (s3.heap.objs.size + 1) scope.names (cloFrom X.env.cells scope.names []) = cl at I4 pg pt pe ⊢
  generalize hH3 : upd H2 D (.lst []) = H3 at I3 I4 pg pt pe w0 nfp f3
  have cf := fun (pins' : List (Addr × Obj)) (σ' : L2.St) (H : Hp) (s : Shared) (u : Value) (s' : Shared) (pn : List (Addr × Obj)) (xe : Value → Shared → Prop) => comp_fails (pins := pins) (pins' := pins') (σ := σ) (σ' := σ') (H3 := H3) (H := H) (s3 := s3) (s := s) (scope := scope) (cl := cl) (fp := fp) (pn := pn) (xe := xe) (W := WO) (u := u) (s' := s') (Ef := fun _ _ => False) hs hf tk I3 (fun b hb => (f3 b hb).1)
  have cL : (compEnvC scope cl s3.heap.objs.size X.env).locals = s3.heap.objs.size := rfl
  generalize hce : compEnvC scope cl s3.heap.objs.size X.env = ce at I4 pg pt pe cf cL ⊢
  generalize hs4 : ({ s3 with heap := pushCells (s3.heap.push { cls := .type "dict", data := .dict #[] }) scope.names } : Shared) = s4 at I4 ⊢
  have st4 : tn 0 s4.heap := T.keep _ _ _ st3 fun b _ o e => by rw [← hs4]; exact pushCells_keeps _ _ _ _ (Heap.get?_push_of_some _ e)
  have stat : ∀ {σ' : L2.St} {H' : Hp} {s' : Shared}, Inv (X.blk s3 H3 scope ce fp) [] σ' H' s' → (∀ b ∈ fp, H' b = none) → ∀ b ∈ fp, FpOk (X.blk s3 H3 scope ce fp) [] H' b := fun {σ' H' s'} I' hn b hb =>
    ⟨hn b hb, (I'.ok.exf b hb).1, I'.ok.exfs b hb, .inl hb, fun x c e => (I'.ok.exf b hb).2 x c e, fun p hp => absurd (show p ∈ ([] : List (Addr × Obj)) ++ [] from hp) (by simp)⟩
  have loop : codeAny (model X.prog X.w) X.A (.compLoop (.ListComp elt [⟨tg, iter, ifs, 0⟩] scope pos) 0 (.ref it) (.ref D) ce) (compEnds (model X.prog X.w) X.A X.xe none (EP X pins σ Q) (.ref D) ce) s4 := by
    refine compLoop_any (fun n s' => ∃ i H', Inv (X.blk s3 H3 scope ce fp) [] (wipe σ (own.map (·.2))) H' s' ∧ tn i s'.heap ∧ (∀ b ∈ fp, H' b = none) ∧ W i n H') ?_ m0 ⟨0, H3, I4, st4, nfp, w0⟩
    rintro n s5 ⟨i, H5, I5, st5, n5, w5⟩
    rcases turn i n H5 w5 with ⟨stop, qq⟩ | ⟨go, Nx, hNx, step⟩
    · have td := T.done (X.blk s3 H3 scope ce fp) rfl rfl rfl hc i [] s5 _ H5 (fun _ _ => False) I5 (stat I5 n5) st5 stop
      refine thnF td fun r s6 ⟨hr, I6⟩ => ?_
      subst hr
      have I7 : Inv X pins σ H5 s6 := I3.call' (ch := fp) I6.os I6.base I6.hok I6.bare fun b hb => ⟨(f3 b hb).1.2.2.2.1, (f3 b hb).1.2.1, (f3 b hb).1.2.2.2.2.1, (f3 b hb).1.2.2.2.2.2⟩
      have nC : H5 s3.heap.objs.size = none := by
        have z : H5 ce.locals = none := I6.free
        rw [cL] at z
        exact z
      obtain ⟨m, hn, _⟩ := I6.loc
      have hn : s6.heap.Ns ce.locals m := hn
      obtain ⟨g0, g1, g2, g3, g4, g5⟩ := I3.fpOk (Nat.le_refl _) nC
      refine ⟨m, hn, fun h'' sb => ?_⟩
      rw [cL] at sb
      exact ⟨.ref D, H5, I7.turned (t' := s6.toks) (fun b o hb e => (sb.2 b hb).trans e) g0 g1 g3 g4 g5, rfl, qq⟩
    · have ti := T.item (X.blk s3 H3 scope ce fp) rfl rfl rfl hc i [] s5 _ H5 (fun _ _ => False) I5 (stat I5 n5) st5 go
      refine thnF ti fun r s6 ⟨u, hr, h6⟩ => ?_
      subst hr
      refine thnF h6 fun _ s7 ⟨x, H7, I7, r7, y7, st7, n7⟩ => ?_
      have I7' := I7.pinned (stat I7 n7) (T.obj _ _ st7)
      refine thnF (pg.run _ s7 _ H7 x u _ I7' r7 (step x H7 y7)) fun _ s8 ⟨σ8, H8, I8, hw8, q8⟩ => ?_
      refine thnF (pt.run _ s8 σ8 H8 _ I8 q8) fun b s9 ⟨H9, I9, q9⟩ => ?_
      have fin : ∀ {s' : Shared} {H' : Hp}, Inv (X.blk s3 H3 scope ce fp) ([] ++ pinsAt fp s7.heap) σ8 H' s' → Nx H' → ∃ m, m < n ∧ ∃ i H', Inv (X.blk s3 H3 scope ce fp) [] (wipe σ (own.map (·.2))) H' s' ∧ tn i s'.heap ∧ (∀ b ∈ fp, H' b = none) ∧ W i m H' := fun {s' H'} I' nx => by
        obtain ⟨m', hm, w'⟩ := hNx H' nx
        have pin' : ∀ b ∈ fp, ∀ o, s7.heap.get? b = some o → s'.heap.get? b = some o ∧ H' b = none := fun b hb o e =>
          let z := I'.pin (b, o) (List.mem_append_right _ (List.mem_append_right _ (mem_pinsAt hb e)))
          ⟨z.1, z.2.1⟩
        have hl : (wipe σ (own.map (·.2))).length = σ8.length := by rw [← hw8, wipe_length]
        refine ⟨m', hm, i + 1, H', (I'.unpinned (pins := [])).weak hl (fun j v e => ?_), T.keep _ _ _ st7 fun b hb o e => (pin' b hb o e).1, fun b hb => ?_, w'⟩
        · rw [← hw8] at e
          exact (wipe_some e).1
        · obtain ⟨o, e, _⟩ := T.obj _ _ st7 b hb
          exact (pin' b hb o e).2
      cases b with
      | false =>
        simp only [Bool.false_eq_true, if_false] at q9 ⊢
        exact fin I9 q9
      | true =>
        simp only [if_true] at q9 ⊢
        have I9' := I9.toTry (notedBy (model X.prog X.w) X.A ce fun e s' => compEnds (model X.prog X.w) X.A X.xe none (EP X pins σ Q) (.ref D) ce (.error e) s')
        have pe' := pe ((X.blk s3 H3 scope ce fp).pn ++ ([] ++ pinsAt fp s7.heap)) (notedBy (model X.prog X.w) X.A ce fun e s' => compEnds (model X.prog X.w) X.A X.xe none (EP X pins σ Q) (.ref D) ce (.error e) s') (fun cls d _ H' => WO cls d σ H') fun σ9 pins9 H0 s0 u0 s0' Ia c => by
          subst hce
          exact wpAny_mono (cf pins9 σ9 H0 s0 u0 s0' ((X.blk s3 H3 scope (compEnvC scope cl s3.heap.objs.size X.env) fp).pn ++ ([] ++ pinsAt fp s7.heap)) (notedBy (model X.prog X.w) X.A (compEnvC scope cl s3.heap.objs.size X.env) fun e s' => compEnds (model X.prog X.w) X.A X.xe none (EP X pins σ Q) (.ref D) (compEnvC scope cl s3.heap.objs.size X.env) (.error e) s') Ia c) (fun _ _ z => z) fun _ _ z => z.elim
        refine wpAny_mono (pe'.run _ s9 σ8 H9 _ I9' q9) (fun z s10 hz => ?_) fun _ _ z => z
        obtain ⟨yv, H10, I10, r10, acc, hD10, hz10, nx⟩ := hz
        have I10' := I10.ofTry I9.ok
        exact app_ok (X := X.blk s3 H3 scope ce fp) I10' hD10 hz10 r10 fun s11 I11 => fin I11 nx
  exact codeAny_compStart_list loop (T.self X.A 0 _ _ _ st4 loop)
end

/-! ### the mirror of it -/
def lcLX (g : TgM) (t : TM) (e : EM) (chk : Hm → Bool) (v : Ev) : List D → Hm → R (List D)
  | [], h => if chk h then .ok [] h else .err
  | x :: xs, h => if chk h then (match g x v h with
    | some v1 => (t v1 h).nx.bind fun c h1 => if c then (e v1 h1).bind fun y h2 => (lcLX g t e chk v xs h2).bind fun ys h3 => .ok (y :: ys) h3 else lcLX g t e chk v xs h1
    | none => .err) else .err
def eLcX (own : List Nat) (g : TgM) (w : Ev → Hm → R Wk) (t : TM) (e : EM) : EM := fun v h => (w v h).bind fun k h1 =>
  if k.its.length ≤ 16777215 then (lcLX g t e k.chk (wipeE v own) k.its h1).bind fun ys h2 => .ok (.lst ys) h2 else .err
theorem Post.baseX {α β γ δ : Type} {C : Cn} {rep : Hp → List Addr → α → β → Prop} {rep1 : Hp → List Addr → γ → δ → Prop} {E : XK} {r : R γ} {k : γ → Hm → R α} {Z Zb : Hp} {m mb : List Addr} {H Hb : Hp} {Q : β → Hp → Prop} (h : Post C rep E (r.bind k) Zb mb Hb Q) (x : Ext Zb mb Hb Z m H) :
    Post C rep1 E r Z m H fun v H1 => ∃ Z1 m1 d h1, Ext Z m H Z1 m1 H1 ∧ HSim C Z1 m1 h1 H1 ∧ rep1 Z1 m1 d v ∧ Post C rep E (k d h1) Zb mb Hb Q := by
  cases r with
  | ok d h' => exact fun Z' m' H' v a b c => ⟨Z', m', d, h', a, b, c, h⟩
  | exc e h' => exact fun Z' m' H' c od a b q => h Z' m' H' c od (x.trans a) b q
  | err => exact h
section
variable {X : Cx} {C : Cn} {E : WX} {pos : Pos}
theorem tLcX_den {wi : TI} {t : TG} {tt : TT}  {own : List Nat} {g : TgM} {w : Ev → Hm → R Wk} {ft : TM} {fe : EM} (hw : ∀ σ H Q, denW C E w σ H Q → wi σ H Q) (hg : LcG C g t own) (ht : ∀ σ H Q, denT C EF ft σ H Q → tt σ H Q) 
    {σ : L2.St} {H : Hp} {Q : VK} (hq : denE C E (eLcX own g w ft fe) σ H Q) : tLc wi t tt (denE C (fun c d _ H' => E c d σ H') fe) own σ H Q := by
  obtain ⟨Z, m, v, h, s, e, p⟩ := hq
  refine hw _ _ _ ⟨Z, m, v, h, s, e, ?_⟩
  unfold eLcX at p
  cases q : w v h with
  | exc x h1 => rw [q] at p; exact p
  | err => rw [q] at p; exact p
  | ok k h1 =>
    rw [q] at p
    have p : Post C (Rep C) (fun c d H' => E c d σ H') (if k.its.length ≤ 16777215 then (lcLX g ft fe k.chk (wipeE v own) k.its h1).bind fun ys h2 => .ok (.lst ys) h2 else .err) Z m H Q := p
    intro Zb mb Hb J xb sb ok q0 hD
    have p := Post.from xb p
    split at p
    case isFalse => exact False.elim p
    rename_i hsz
    have hDm := sb.nm hD
    have hDz := sb.nz hD
    refine ⟨fun i n H2 => n = k.its.length - i ∧ i ≤ k.its.length ∧ ∃ Z2 m2 h2 acc vs, Ext Zb mb Hb Z2 m2 H2 ∧ HSim C Z2 m2 h2 H2 ∧ H2 q0 = some (.lst vs) ∧ RepL C Z2 m2 acc vs ∧ q0 ∉ m2 ∧ Z2 q0 = none ∧ acc.length ≤ i ∧
      Post C (Rep C) (fun c d H' => E c d σ H') ((lcLX g ft fe k.chk (wipeE v own) (k.its.drop i) h2).bind fun ys h3 => .ok (.lst (acc ++ ys)) h3) Zb mb Hb Q,
      ⟨_, rfl, Nat.zero_le _, Zb, mb, h1, [], [], ⟨fun _ _ z => z, List.prefix_refl _, fun a o z _ _ => by rw [upd_ne (fun y => by subst y; rw [hD] at z; cases z)]; exact z, fun _ z => .inl z, fun _ z => .inl z⟩, sb.side _ hDm hDz (fun u z => by rw [hD] at z; cases z), upd_same, .nil, hDm, hDz, Nat.le_refl _, p⟩, ?_⟩
    rintro i n H2 ⟨rfl, hi, Z2, m2, h2, acc, vs, x2, s2, hv, ra, d1, d2, hal, p2⟩
    have hck : k.chk h2 = true := by
      cases hc : k.chk h2 with
      | true => rfl
      | false =>
        exfalso
        cases hd : k.its.drop i with
        | nil => rw [hd] at p2; simp only [lcLX, hc] at p2; exact p2
        | cons d r => rw [hd] at p2; simp only [lcLX, hc] at p2; exact p2
    obtain ⟨o1, o2⟩ := ok i Z2 m2 h2 H2 x2.sub x2.pre s2 hck
    by_cases hlt : i < k.its.length
    · obtain ⟨go, y⟩ := o1 hlt
      refine .inr ⟨go, fun H' => i + 1 ≤ k.its.length ∧ ∃ Z2 m2 h2 acc vs, Ext Zb mb Hb Z2 m2 H' ∧ HSim C Z2 m2 h2 H' ∧ H' q0 = some (.lst vs) ∧ RepL C Z2 m2 acc vs ∧ q0 ∉ m2 ∧ Z2 q0 = none ∧ acc.length ≤ i + 1 ∧
        Post C (Rep C) (fun c d H' => E c d σ H') ((lcLX g ft fe k.chk (wipeE v own) (k.its.drop (i + 1)) h2).bind fun ys h3 => .ok (.lst (acc ++ ys)) h3) Zb mb Hb Q,
        fun H' z => ⟨_, by omega, rfl, z⟩, fun x H3 yy => ?_⟩
      obtain ⟨d, Z3, hd, x3, s3, r3⟩ := y x H3 yy
      have hdrop : k.its.drop i = d :: k.its.drop (i + 1) := by
        obtain ⟨hl, he⟩ := List.getElem?_eq_some_iff.mp hd
        rw [List.drop_eq_getElem_cons hl, he]
      rw [hdrop] at p2
      simp only [lcLX, hck, if_true] at p2
      -- q0 is beside all that goes on
      have side : ∀ {Z' : Hp} {m' : List Addr} {H' : Hp}, Ext Z2 m2 H2 Z' m' H' → q0 ∉ m' ∧ Z' q0 = none ∧ H' q0 = some (.lst vs) := fun {Z' m' H'} x => by
        refine ⟨fun z => ?_, ?_, x.keep q0 _ hv d1 (fun _ z => by cases z)⟩
        · rcases x.newM q0 z with a | a
          · exact d1 a
          · exact fr_lst a hv
        · cases q : Z' q0 with
          | none => rfl
          | some u =>
            rcases x.newZ q0 (by rw [q]; simp) with a | a | a
            · exact absurd d2 a
            · exact absurd a d1
            · exact (fr_lst a hv).elim
      cases qg : g d (wipeE v own) h2 with
      | none => rw [qg] at p2; exact False.elim p2
      | some v1 =>
        rw [qg] at p2
        have e0 : EnvR C Z3 m2 (wipeE v own) (wipe σ own) := (((e.mono xb).mono x2).mono x3).wipe own
        refine hg.ok Z3 m2 d x _ v1 h2 _ H3 _ s3.sub r3 e0 qg fun σ1 e1 hw1 => ⟨by rw [hw1, wipe_wipe], ?_⟩
        have p3 : Post C (Rep C) (fun c d H' => E c d σ H') ((ft v1 h2).nx.bind fun c h1 => (if c then (fe v1 h1).bind fun y h2 => (lcLX g ft fe k.chk (wipeE v own) (k.its.drop (i + 1)) h2).bind fun ys h3 => .ok (y :: ys) h3 else lcLX g ft fe k.chk (wipeE v own) (k.its.drop (i + 1)) h1).bind fun ys h3 => .ok (.lst (acc ++ ys)) h3) Zb mb Hb Q := by
          have : (((ft v1 h2).nx.bind fun c h1 => if c then (fe v1 h1).bind fun y h2 => (lcLX g ft fe k.chk (wipeE v own) (k.its.drop (i + 1)) h2).bind fun ys h3 => R.ok (y :: ys) h3 else lcLX g ft fe k.chk (wipeE v own) (k.its.drop (i + 1)) h1).bind fun ys h3 => R.ok (Dn.D.lst (acc ++ ys)) h3) = ((ft v1 h2).nx.bind fun c h1 => (if c then (fe v1 h1).bind fun y h2 => (lcLX g ft fe k.chk (wipeE v own) (k.its.drop (i + 1)) h2).bind fun ys h3 => R.ok (y :: ys) h3 else lcLX g ft fe k.chk (wipeE v own) (k.its.drop (i + 1)) h1).bind fun ys h3 => .ok (.lst (acc ++ ys)) h3) := by
            cases ft v1 h2 <;> rfl
          rw [← this]; exact p2
        refine ht _ _ _ ⟨Z3, m2, v1, h2, s3, e1, (Post.base (rep1 := RB) p3).imp fun b H4 ⟨Z4, m4, b', h4, x4, s4, r4, p4⟩ => ?_⟩
        cases (show b = b' from r4)
        cases b with
        | false =>
          obtain ⟨t1, t2, t3⟩ := side (x3.trans x4)
          exact ⟨hlt, Z4, m4, h4, acc, vs, x2.trans (x3.trans x4), s4, t3, ra.mono (x3.trans x4).sub (x3.trans x4).pre, t1, t2, by omega, p4⟩
        | true =>
          have p5 : Post C (Rep C) (fun c d H' => E c d σ H') ((fe v1 h4).bind fun y h2 => (lcLX g ft fe k.chk (wipeE v own) (k.its.drop (i + 1)) h2).bind fun ys h3 => .ok (.lst ((acc ++ [y]) ++ ys)) h3) Zb mb Hb Q := by
            have : (((fe v1 h4).bind fun y h2 => (lcLX g ft fe k.chk (wipeE v own) (k.its.drop (i + 1)) h2).bind fun ys h3 => R.ok (y :: ys) h3).bind fun ys h3 => R.ok (Dn.D.lst (acc ++ ys)) h3) = ((fe v1 h4).bind fun y h2 => (lcLX g ft fe k.chk (wipeE v own) (k.its.drop (i + 1)) h2).bind fun ys h3 => .ok (.lst ((acc ++ [y]) ++ ys)) h3) := by
              cases fe v1 h4 with
              | ok y h5 =>
                simp only [bind_ok]
                cases lcLX g ft fe k.chk (wipeE v own) (k.its.drop (i + 1)) h5 <;> simp [R.bind, List.append_assoc]
              | exc _ _ => rfl
              | err => rfl
            rw [← this]; exact p4
          refine ⟨Z4, m4, v1, h4, s4, e1.mono x4, (Post.baseX (rep1 := Rep C) p5 (x2.trans (x3.trans x4))).imp fun y H5 ⟨Z5, m5, y', h5, x5, s5, r5, p6⟩ => ?_⟩
          obtain ⟨t1, t2, t3⟩ := side (x3.trans (x4.trans x5))
          have hlen := ra.length
          refine ⟨vs, t3, by rw [sizeLine_eq]; omega, hlt, Z5, m5, h5, acc ++ [y'], vs ++ [y], (x2.trans (x3.trans (x4.trans x5))).side _ hD, s5.side _ t1 t2 (fun u z => by rw [t3] at z; cases z; exact ⟨(fun _ z => by cases z), fun _ z => by cases z⟩), upd_same, (ra.mono (x3.trans (x4.trans x5)).sub (x3.trans (x4.trans x5)).pre).append (.one r5), t1, t2, by simp; omega, p6⟩
    · have hi2 : i = k.its.length := by omega
      subst hi2
      rw [List.drop_length] at p2
      simp only [lcLX, hck, if_true, bind_ok, List.append_nil] at p2
      refine .inl ⟨o2 (Nat.le_refl _), p2 (upd Z2 q0 (.lst vs)) m2 H2 _ (x2.fin _ hD d2) (s2.fin d1 d2 hv) (.lst upd_same (ra.mono (fun a o z => ?_) (List.prefix_refl _)))⟩
      rw [upd_ne (fun y => by subst y; rw [d2] at z; cases z)]; exact z
theorem de_lcX {elt tg iter : Expr} {ifs : List Expr} {scope : Scope} {own : List (Str × Nat)} {g : TgM} {t : TG} {w : Ev → Hm → R Wk} {ft : TM} {fe : EM} (hs : X.stack = X.env :: X.outer) (hf : X.env.frame = some X.env.locals) (tk : Takes X E) (hc : X.calm = true) (hN : X.N.Nodup) (ok : BlkOk X.N X.env.scope scope own) (hi : PI X tg iter (denW C E w)) (hl : LcG C g t (own.map (·.2)))
    (hg : ∀ (s : Shared) (H : Hp) (Ca : Addr) (cl : List (Str × Addr)) (fp : List Addr), PG (X.blk s H scope (compEnvC scope cl Ca X.env) fp) tg t) (ht : ∀ (s : Shared) (H : Hp) (Ca : Addr) (cl : List (Str × Addr)) (fp : List Addr), PTs (X.blk s H scope (compEnvC scope cl Ca X.env) fp) ifs (denT C EF ft))
    (he : PEl X elt scope fun W => denE C W fe) (hsf : ∀ x, foldedSetIterable iter X.env x = pure x := by intro _; rfl) :
    PE X (.ListComp elt [⟨tg, iter, ifs, 0⟩] scope pos) (denE C E (eLcX (own.map (·.2)) g w ft fe)) :=
  pe_imp (pe_lcX hs hf tk hc hN hi ok hg ht he hsf) fun σ H Q q => tLcX_den (E := E) (fun _ _ _ z => z) hl (fun _ _ _ z => z) q
end
end Dn

/-! DenV: enumerate over a tuple, zip, more built-ins. -/
set_option Elab.async false
set_option linter.all false
set_option maxRecDepth 100000
set_option maxHeartbeats 4000000
namespace Dn
open PySem PySem.Spec PyProof.Rows L2
open AutoSeq1 (wpAny_loadPart')

theorem enumT_new (l : Addr) (items : Array Value) (n : Nat) (dct : Option Addr) (sl : Array (Option Value)) :
    Meets (Builtin.«enumerate.__new__» ⟨[.type "enumerate", .ref l], []⟩) (fun _ R s => s.heap.get? l = some { cls := .type "tuple", dict := dct, data := .seq items n, slots := sl } ∧
      R (.ok (.ret (.ref (s.heap.push { cls := .type "tuple_iterator", data := .fields #[.ref l, .int 0 0] }).objs.size)))
        { s with heap := (s.heap.push { cls := .type "tuple_iterator", data := .fields #[.ref l, .int 0 0] }).push { cls := .type "enumerate", data := .fields #[.none, .bool false, .ref s.heap.objs.size, rawInt 0, .none, .none] } }) :=
  .of_wp fun prog w A R s h => by
    obtain ⟨hp, g, d, tk, os⟩ := s; obtain ⟨hl, h⟩ := h
    have hsub := sub_enumerate
    have hL : Heap.IsTuple (Shared.heap ⟨hp, g, d, tk, os⟩) l items := ⟨_, hl, rfl, n, rfl⟩
    wp_walk using wpAny_loadPart' hl
    refine wpAny_stack_any fun st => wpAny_pure ?_
    split
    · rename_i c _ _ _ _ _
      cases (c == Value.type "enumerate")
      · wp_walk using wpAny_loadPart' hl, wpAny_pyIter_tuple hL
        exact ⟨_, rfl, h⟩
      · wp_walk using wpAny_loadPart' hl, wpAny_pyIter_tuple hL
        exact ⟨_, rfl, h⟩
    · wp_walk using wpAny_loadPart' hl, wpAny_pyIter_tuple hL
      exact ⟨_, rfl, h⟩
theorem call_enumT {prog : Program} {w : World} {A : Around} {E : Value → Shared → Prop} {s : Shared} {l : Addr} {items : Array Value} {Q : Value → Shared → Prop} (hL : s.heap.IsTuple l items)
    (h : ∀ h', IsEnum h' (s.heap.objs.size + 1) s.heap.objs.size 0 .none → h'.IsTupleIter s.heap.objs.size l 0 → h'.objs.size = s.heap.objs.size + 2 →
      (∀ b o, s.heap.get? b = some o → h'.get? b = some o) → Q (.ref (s.heap.objs.size + 1)) { s with heap := h' }) :
    wpAny (model prog w) A (call (.type "enumerate") [.ref l]) Q E s := by
  obtain ⟨⟨c, dct, dt, sl⟩, hl, hc, n, hd⟩ := hL
  replace hc : c = .type "tuple" := hc
  replace hd : dt = .seq items n := hd
  subst hc hd
  refine callType_new F.called_enumerate (by decide) (F.typeCall_enumerate_1 _) (F.newCall_enumerate_1 _) (fun obj => F.args_object_init_2 obj _) F.entry_enumerate_new
    (enumT_new l items n dct sl) ⟨hl, ?_⟩
  have hz : (s.heap.push { cls := .type "tuple_iterator", data := .fields #[.ref l, .int 0 0] }).objs.size = s.heap.objs.size + 1 := Heap.size_push ..
  show _ ∧ _
  rw [hz]
  have he : IsEnum ((s.heap.push { cls := .type "tuple_iterator", data := .fields #[.ref l, .int 0 0] }).push
      { cls := .type "enumerate", data := .fields #[.none, .bool false, .ref s.heap.objs.size, rawInt 0, .none, .none] }) (s.heap.objs.size + 1) s.heap.objs.size 0 .none := by
    have := Heap.get?_push_size (s.heap.push { cls := .type "tuple_iterator", data := .fields #[.ref l, .int 0 0] })
      (o := { cls := .type "enumerate", data := .fields #[.none, .bool false, .ref s.heap.objs.size, rawInt 0, .none, .none] }) rfl
    rw [hz] at this; exact this
  refine ⟨⟨_, he, rfl⟩, h _ he ⟨_, Heap.get?_push_of_some _ (Heap.get?_push_size _ rfl), rfl, rfl⟩ (by rw [Heap.size_push, hz]) fun b o x => Heap.get?_push_of_some _ (Heap.get?_push_of_some _ x)⟩
theorem wpAny_pyNext_enum_endU {prog : Program} {w : World} {A : Around} {E : Value → Shared → Prop} {s : Shared} {e it l : Addr} {i : Nat} {items : Array Value} {old : Value} {Q : Option Value → Shared → Prop} (hh : A.handled = none)
    (he : IsEnum s.heap e it i old) (hit : s.heap.IsTupleIter it l i) (hl : s.heap.IsTuple l items) (hx : items[i]? = none)
    (hQ : ∀ h', Heap.ExtBut it s.heap h' → Q none { s with heap := h' }) : wpAny (model prog w) A (pyNext (.ref e)) Q E s := by
  have hT : s.TypeIs (.ref e) "enumerate" := ⟨_, he, rfl⟩
  unfold pyNext
  refine wpAny_bind (wpAny_attempt (wpAny_callSpecial?_slot (name := Str.ofString "__next__") hT F.slot_enumerate_next
    (wpAny_call_entry F.slot_enumerate_next hT F.entry_enumerate_next ?_ (F.args_enumerate_next_1 _))))
  show wpAny _ _ (field (.ref e) 2 >>= _) _ _ _
  refine wpAny_bind (wpAny_field he rfl (x := .ref it) rfl ?_)
  refine wpAny_bind (wpAny_nextOf_tuple_end hh hit hl hx fun h' x he' hx' => ?_)
  obtain ⟨o, ho, hc⟩ := hx'
  refine wpAny_bind (wpAny_isInstance (T := "StopIteration") (b := true) ⟨o, ho, hc⟩ isSubtype_stop ?_)
  exact wpAny_pure (hQ _ he')
/-- the tuple at a as it stands at each turn, each item in a new pair -/
def IteT (K : PySem.W.Frag) (a : Addr) : It :=
  ⟨fun i H => ∃ (xs : List V) (x : V), SqT K H a xs ∧ xs[i]? = some x, fun i H v H' => ∃ T x, v = .ref T ∧ H T = none ∧ H' = upd H T (.tup [.int (i : Nat), x]) ∧ ∀ xs, SqT K H a xs → xs[i]? = some x, fun i H => ∃ xs : List V, SqT K H a xs ∧ xs.length ≤ i⟩
theorem turn_enumT {P : Program} {w : World} {K : PySem.W.Frag} {elts : List Expr} {kk : Nat} {tpos : Pos} (a e it : Addr) (hai : a ≠ it) :
    Turn P w K (.Tuple elts kk tpos) (IteT K a) [e, it] e (fun i h => (∃ old, IsEnum h e it ((i : Nat) : Int) old) ∧ h.IsTupleIter it a i ∧ e ≠ it) where
  mem := by simp
  obj := fun i h st b hb => by
    obtain ⟨⟨old, he⟩, ⟨o, ho, hc, hd⟩, _⟩ := st
    have e' : b = e ∨ b = it := by simpa using hb
    rcases e' with z | z
    · rw [z]; exact ⟨_, he, fun v q => nomatch q⟩
    · rw [z]; exact ⟨o, ho, fun v q => by rw [hd] at q; cases q⟩
  keep := fun i h h' st k => let ⟨⟨old, he⟩, hi, hne⟩ := st; ⟨⟨old, k e (by simp) _ he⟩, hi.at fun o q => k it (by simp) o q, hne⟩
  item := by
    intro X hP hw hK hc i pins s σ H E I hf st hg
    subst hP hw hK
    obtain ⟨⟨old, he⟩, hit, hne⟩ := st
    obtain ⟨xs, x, hq, hx⟩ := hg
    obtain ⟨its, rv, p, hz⟩ := I.tuple hq
    obtain ⟨u, hu, ru⟩ := rv.get hx
    have hi : i < its.toArray.size := by
      have := (List.getElem?_eq_some_iff.mp hu).1
      simpa using this
    have hel : e < s.heap.objs.size := Heap.lt_size he
    have hil : it < s.heap.objs.size := by obtain ⟨_, q, _⟩ := hit; exact Heap.lt_size q
    have hae : e ∉ [it, a] := by
      obtain ⟨oa, ha, hac, _⟩ := id p
      simp only [List.mem_cons, List.not_mem_nil, or_false, not_or]
      refine ⟨hne, fun z => ?_⟩
      subst z
      have he' := he
      unfold IsEnum at he'
      rw [ha] at he'; cases he'; exact absurd (show Value.type "enumerate" = Value.type "tuple" from hac) (by decide)
    refine wpAny_pyNext_enum_itemD (Draws.tuple (A := X.A.in1) (I.ok.hd hc) it a hai its.toArray) he ⟨hit, p⟩ hi hne hae fun u' h' tk hP ho hit' hT hsz hk => ?_
    have eu : u' = u := by
      have h1 : its.toArray[i]? = some u' := hP
      have h2 : its.toArray[i]? = some u := by simpa using hu
      rw [h1] at h2; cases h2; rfl
    subst eu
    refine ⟨_, rfl, wpAny_letOwnedTupleGo_enum (s := { s with heap := h', toks := tk + 1 }) ho fun h'' he' sb => ?_⟩
    have hT2 : h''.get? s.heap.objs.size = some { cls := .type "tuple", data := .seq #[.int i tk, u'] } := (sb.2 _ (Nat.ne_of_gt hel)).trans hT
    have new : ObjOk X.prog X.w (upd H s.heap.objs.size (.tup [.int (i : Nat), x])) h'' s.heap.objs.size (.tup [.int (i : Nat), x]) :=
      ⟨by show 2 ≤ sizeLine; decide, [.int i tk, u'], .cons ⟨_, rfl⟩ (.cons ru .nil), ⟨_, hT2, rfl, _, rfl⟩⟩
    have I1 : Inv X pins σ (upd H s.heap.objs.size (.tup [.int (i : Nat), x])) { s with heap := h'', toks := tk + 1 } :=
      I.turnedNew (t' := tk + 1) (ch := [e, it]) (fun b ob hb q => (sb.2 b (fun z => hb (by simp [z]))).trans (hk b ob (fun z => hb (by simp [z])) (fun z => hb (by simp [z])) q)) hf (Nat.le_refl _) new
    refine ⟨.ref s.heap.objs.size, _, I1, rfl, ⟨_, x, rfl, I.hok.fresh (Nat.le_refl _), rfl, fun ys hy => by rw [I.tuple_inj hy hq]; exact hx⟩, ⟨⟨u', ?_⟩, hit'.1.at fun o q => (sb.2 it (Ne.symm hne)).trans q, hne⟩, fun b hb => ?_⟩
    · have e1 : ((i + 1 : Nat) : Int) = (i : Int) + 1 := by omega
      rw [e1]; exact he'
    · have hb' : b < s.heap.objs.size := by
        have e' : b = e ∨ b = it := by simpa using hb
        rcases e' with z | z
        · rw [z]; exact hel
        · rw [z]; exact hil
      rw [upd_ne (Nat.ne_of_lt hb')]
      exact (hf b hb).1
  done := by
    intro X hP hw hK hc i pins s σ H E I hf st hg
    subst hP hw hK
    obtain ⟨⟨old, he⟩, hit, hne⟩ := st
    obtain ⟨xs, hq, hx⟩ := hg
    obtain ⟨its, rv, p, hz⟩ := I.tuple hq
    obtain ⟨f0, f1, f2, f3, f4, f5⟩ := hf it (by simp)
    have hl := rv.length
    refine wpAny_pyNext_enum_endU (I.ok.hd hc) he hit p (by simp; omega) fun h' eb => ⟨rfl, I.turned (t' := s.toks) (fun b o hb q => eb b o hb q) f0 f1 f3 f4 f5⟩
  self := fun A i s Q E st h => let ⟨⟨_, he⟩, _⟩ := st; wpAny_pyIter_enum he h
def iEnumT (K : PySem.W.Frag) (ta : TA) : TI := fun σ H R => ta σ H fun vs H1 => ∃ a xs, vs = [.ref a] ∧ ((SqL K H1 a xs ∧ R (Ite K a) H1) ∨ (SqT K H1 a xs ∧ R (IteT K a) H1))
theorem pi_enumT {X : Cx} {e : Expr} {ta : TA} {p pos tpos : Pos} {elts : List Expr} {kk : Nat} (hg : Gl X "enumerate") (hm : X.mg "enumerate" = none) (ha : PA X [e] ta) (hs : starEach [e] X.env = [(false, eval e X.env)] := by rfl) :
    PI X (.Tuple elts kk tpos) (.Call (.Name "enumerate" p) [e] [] pos) (iEnumT X.K ta) := by
  refine ⟨fun pins s σ H R I h => ?_⟩
  refine Call_ (ld_blt I hg hm boot_enumerate (PyProof.Rows.callWith_type1 (thn (ha.run pos pins s σ H _ I h) fun us s1 ⟨vs, H1, I1, r1, q1⟩ => ?_) hs rfl))
  obtain ⟨a, xs, ex, q1⟩ := q1
  subst ex
  cases r1 with
  | cons r rr =>
    cases rr
    cases r
    have fr : ∀ b ∈ [s1.heap.objs.size + 1, s1.heap.objs.size], FpOk X pins H1 b := fun b hb => by
      have e' : b = s1.heap.objs.size + 1 ∨ b = s1.heap.objs.size := by simpa using hb
      have hle : s1.heap.objs.size ≤ b := by
        rcases e' with z | z
        · rw [z]; exact Nat.le_add_right _ _
        · rw [z]; exact Nat.le_refl _
      exact I1.fpOk hle (I1.hok.fresh hle)
    rcases q1 with ⟨hq, q⟩ | ⟨hq, q⟩
    · obtain ⟨its, rv, p', hz⟩ := I1.list hq
      refine call_enumerate_list p'.isList fun h' he hit hsz hk => wpAny_pyIter_enum he ?_
      have I2 : Inv X pins σ H1 { s1 with heap := h' } := I1.kept (t' := s1.toks) hk
      exact ⟨s1.heap.objs.size + 1, [s1.heap.objs.size + 1, s1.heap.objs.size], _, _, H1, rfl, I2, turn_enum a (s1.heap.objs.size + 1) s1.heap.objs.size, ⟨⟨.none, he⟩, hit, Nat.succ_ne_self _⟩, fr, q⟩
    · obtain ⟨its, rv, p', hz⟩ := I1.tuple hq
      have hne : a ≠ s1.heap.objs.size := by
        obtain ⟨oa, ha, _⟩ := id p'
        exact Nat.ne_of_lt (Heap.lt_size ha)
      refine call_enumT p' fun h' he hit hsz hk => wpAny_pyIter_enum he ?_
      have I2 : Inv X pins σ H1 { s1 with heap := h' } := I1.kept (t' := s1.toks) hk
      exact ⟨s1.heap.objs.size + 1, [s1.heap.objs.size + 1, s1.heap.objs.size], _, _, H1, rfl, I2, turn_enumT a (s1.heap.objs.size + 1) s1.heap.objs.size hne, ⟨⟨.none, he⟩, hit, Nat.succ_ne_self _⟩, fr, q⟩

/-! ### enumerate in the mirror: over a list or a tuple -/
variable {X : Cx} {C : Cn} {E : WX} {tg : Expr}
def wEnumTOf (d : D) (h : Hm) : R Wk := match d with
  | .tup l => .ok ⟨enumL l, fun _ => true⟩ h
  | d => wEnumOf d h
def wEnT (e : EM) : Ev → Hm → R Wk := fun v h => (e v h).bind wEnumTOf
theorem wk_enumT {Z H : Hp} {m : List Addr} {a : Addr} {vs : List V} {l : List D} (hK : C.K = X.K) (hq : SqT C.K Z a vs) (r : RepL C Z m l vs) : WkOk C (IteT X.K a) ⟨enumL l, fun _ => true⟩ Z m := by
  intro i Z' m' h H hz hm s _
  have q : SqT X.K H a vs := hK ▸ sqT_mono s.sub (sqT_mono hz hq)
  have r' := r.mono hz hm
  have hl := r'.length
  have hle : (enumL l).length = l.length := by simp [enumL]
  refine ⟨fun hi => ⟨⟨vs, vs[i]'(by rw [← hl, ← hle]; exact hi), q, List.getElem?_eq_getElem _⟩, fun x H' y => ?_⟩, fun hi => ⟨vs, q, by rw [← hl, ← hle]; exact hi⟩⟩
  obtain ⟨T, z, rfl, hT, rfl, y⟩ := y
  obtain ⟨d, e, rd⟩ := r'.getV (y vs q)
  refine ⟨.tup [.int (i : Int), d], upd Z' T (.tup [.int (i : Nat), z]), by simp [enumL, e], Ext.lay s hT _, s.lay hT _, .tup upd_same ?_⟩
  exact .cons (.int _) (.cons (rd.mono (Ext.lay s hT _).sub (List.prefix_refl _)) .nil)
theorem di_enT {a : Expr} {fa : EM} {p pos tpos : Pos} {elts : List Expr} {kk : Nat} (hK : C.K = X.K) (hg : Gl X "enumerate") (hm : X.mg "enumerate" = none) (ha : PE X a (denE C E fa)) (hs : starEach [a] X.env = [(false, eval a X.env)] := by rfl) : PI X (.Tuple elts kk tpos) (.Call (.Name "enumerate" p) [a] [] pos) (denW C E (wEnT fa)) := by
  refine ⟨fun pins s0 σ H R I q => (pi_enumT hg hm (pa_cons ha pa_nil hs) hs).run pins s0 σ H R I ?_⟩
  obtain ⟨Z, m, v, h, s, e, p⟩ := q
  refine ⟨Z, m, v, h, s, e, ?_⟩
  unfold wEnT at p
  cases qa : fa v h with
  | err => rw [qa] at p; exact False.elim p
  | exc x h1 => rw [qa] at p; exact p
  | ok d h1 =>
    rw [qa] at p
    intro Z' m' H' u x s' r
    simp only [bind_ok] at p
    cases d with
    | lst l =>
      cases r with
      | lst hq rl => exact ⟨_, _, rfl, .inl ⟨.inl (.inl (s'.sub _ _ hq)), p Z' m' H' _ x s' (wk_enum (H := H') hK (.inl (.inl hq)) rl)⟩⟩
    | tup l =>
      cases r with
      | tup hq rl => exact ⟨_, _, rfl, .inr ⟨.inl (.inl (s'.sub _ _ hq)), p Z' m' H' _ x s' (wk_enumT (H := H') hK (.inl (.inl hq)) rl)⟩⟩
    | ref n =>
      cases r with
      | ref en =>
        simp only [wEnumTOf, wEnumOf] at p
        split at p
        · rename_i l hl
          split at hl
          · rename_i l' hl'
            cases hl
            obtain ⟨vs, hv, rl⟩ := s'.obj n _ _ en hl'
            exact ⟨_, _, rfl, .inl ⟨.inl (.inl hv), p Z' m' H' _ x s' (wk_enumR (H := H') en)⟩⟩
          · cases hl
        · rename_i hl; split at hl <;> cases hl
        · exact False.elim p
    | _ => exact False.elim p

/-! ### zip -/
def zipL (l k : List D) : List D := List.zipWith (fun x y => .tup [x, y]) l k
def wZipOf (d e : D) (h : Hm) : R Wk := match d, e with
  | .tup l, .tup k => .ok ⟨zipL l k, fun _ => true⟩ h
  | .lst l, .lst k => .ok ⟨zipL l k, fun _ => true⟩ h
  | .ref n, .lst k => match h[n]? with
    | some (.lst l) => .ok ⟨zipL l k, fun h' => match h'[n]? with | some o => HD.beq o (.lst l) | none => false⟩ h
    | _ => .err
  | .lst l, .ref n => match h[n]? with
    | some (.lst k) => .ok ⟨zipL l k, fun h' => match h'[n]? with | some o => HD.beq o (.lst k) | none => false⟩ h
    | _ => .err
  | _, _ => .err
def wZip (a b : EM) : Ev → Hm → R Wk := fun v h => (a v h).bind fun x h1 => (b v h1).bind fun y h2 => wZipOf x y h2
theorem zip_len {l k : List D} {i : Nat} (h : i < (zipL l k).length) : i < l.length ∧ i < k.length := by
  simp only [zipL, List.length_zipWith] at h; omega
theorem wk_zipAt {J : It} {Z' H : Hp} {m' : List Addr} {h : Hm} {xs ys : List V} {l k : List D} (s : HSim C Z' m' h H) (rl : RepL C Z' m' l xs) (rk : RepL C Z' m' k ys) (i : Nat) (hgo : ∀ x y, xs[i]? = some x → ys[i]? = some y → J.go i H)
    (hy : ∀ v H', J.yld i H v H' → ∃ T x y, v = .ref T ∧ H T = none ∧ H' = upd H T (.tup [x, y]) ∧ xs[i]? = some x ∧ ys[i]? = some y) (hst : xs.length ≤ i ∨ ys.length ≤ i → J.stop i H) :
    (i < (zipL l k).length → J.go i H ∧ ∀ x H', J.yld i H x H' → ∃ d Z1, (zipL l k)[i]? = some d ∧ Ext Z' m' H Z1 m' H' ∧ HSim C Z1 m' h H' ∧ Rep C Z1 m' d x) ∧ ((zipL l k).length ≤ i → J.stop i H) := by
  have e1 := rl.length
  have e2 := rk.length
  refine ⟨fun hi => ?_, fun hi => hst ?_⟩
  · obtain ⟨h1, h2⟩ := zip_len hi
    refine ⟨hgo _ _ (List.getElem?_eq_getElem (by omega)) (List.getElem?_eq_getElem (by omega)), fun v H' yy => ?_⟩
    obtain ⟨T, x, y, rfl, hT, rfl, hx, hyy⟩ := hy v H' yy
    obtain ⟨d1, q1, r1⟩ := rl.getV hx
    obtain ⟨d2, q2, r2⟩ := rk.getV hyy
    have xz := Ext.lay s hT (.tup [x, y])
    refine ⟨.tup [d1, d2], _, ?_, xz, s.lay hT _, .tup upd_same (.cons (r1.mono xz.sub (List.prefix_refl _)) (.cons (r2.mono xz.sub (List.prefix_refl _)) .nil))⟩
    simp [zipL, List.getElem?_zipWith, q1, q2]
  · simp only [zipL, List.length_zipWith] at hi; omega
theorem di_zip {a b : Expr} {fa fb : EM} {p pos tpos : Pos} {elts : List Expr} {kk : Nat} (hK : C.K = X.K) (hg : Gl X "zip") (hm : X.mg "zip" = none) (ha : PE X a (denE C E fa)) (hb : PE X b (denE C E fb)) (hs : starEach [a, b] X.env = (false, eval a X.env) :: starEach [b] X.env := by rfl) (hs2 : starEach [b] X.env = [(false, eval b X.env)] := by rfl) (hpl : (backTo pos (starEach [b] X.env)).any (·.1) = false := by rfl) :
    PI X (.Tuple elts kk tpos) (.Call (.Name "zip" p) [a, b] [] pos) (denW C E (wZip fa fb)) := by
  refine ⟨fun pins s0 σ H R I q => (RZ.pi_zipA hg hm (pa_cons ha (pa_cons hb pa_nil hs2) hs) hs hpl).run pins s0 σ H R I ?_⟩
  obtain ⟨Z, m, v, h, s, e, p⟩ := q
  refine ⟨Z, m, v, h, s, e, ?_⟩
  unfold wZip at p
  cases qa : fa v h with
  | err => rw [qa] at p; exact False.elim p
  | exc x h1 => rw [qa] at p; exact p
  | ok d h1 =>
    rw [qa] at p
    simp only [bind_ok] at p
    intro Z1 m1 H1 u x1 s1 r1
    refine ⟨Z1, m1, v, h1, s1, e.mono x1, ?_⟩
    cases qb : fb v h1 with
    | err => rw [qb] at p; exact False.elim p
    | exc y h2 => rw [qb] at p; exact fun Z2 m2 H2 c od x2 s2 r2 => p Z2 m2 H2 c od (x1.trans x2) s2 r2
    | ok d2 h2 =>
      rw [qb] at p
      simp only [bind_ok] at p
      intro Z2 m2 H2 u2 x2 s2 r2
      have r1' := r1.mono x2.sub x2.pre
      have x12 := x1.trans x2
      cases d with
      | tup l =>
        cases d2 with
        | tup k =>
          cases r1' with
          | @tup a1 vs1 _ hq1 rl1 =>
            cases r2 with
            | @tup a2 vs2 _ hq2 rl2 =>
              refine ⟨_, _, vs1, vs2, rfl, .inr ⟨.inl (.inl (s2.sub _ _ hq1)), .inl (.inl (s2.sub _ _ hq2)), p Z2 m2 H2 _ x12 s2 fun i Z' m' h H hz hm' s _ => ?_⟩⟩
              have g1 : SqT X.K H a1 vs1 := .inl (.inl (s.sub _ _ (hz _ _ hq1)))
              have g2 : SqT X.K H a2 vs2 := .inl (.inl (s.sub _ _ (hz _ _ hq2)))
              exact wk_zipAt s (rl1.mono hz hm') (rl2.mono hz hm') i (fun x y hx hy => ⟨vs1, vs2, x, y, g1, g2, hx, hy⟩) (fun v H' ⟨T, x, y, e1, e2, e3, e4, e5⟩ => ⟨T, x, y, e1, e2, e3, e4 _ g1, e5 _ g2⟩) fun hst => ⟨vs1, vs2, g1, g2, hst⟩
        | _ => exact False.elim p
      | lst l =>
        cases r1' with
        | @lst a1 vs1 _ hq1 rl1 =>
          cases d2 with
          | lst k =>
            cases r2 with
            | @lst a2 vs2 _ hq2 rl2 =>
              refine ⟨_, _, vs1, vs2, rfl, .inl ⟨.inl (.inl (s2.sub _ _ hq1)), .inl (.inl (s2.sub _ _ hq2)), p Z2 m2 H2 _ x12 s2 fun i Z' m' h H hz hm' s _ => ?_⟩⟩
              have g1 : SqL X.K H a1 vs1 := .inl (.inl (s.sub _ _ (hz _ _ hq1)))
              have g2 : SqL X.K H a2 vs2 := .inl (.inl (s.sub _ _ (hz _ _ hq2)))
              exact wk_zipAt s (rl1.mono hz hm') (rl2.mono hz hm') i (fun x y hx hy => ⟨vs1, vs2, x, y, g1, g2, hx, hy⟩) (fun v H' ⟨T, x, y, e1, e2, e3, e4, e5⟩ => ⟨T, x, y, e1, e2, e3, e4 _ g1, e5 _ g2⟩) fun hst => ⟨vs1, vs2, g1, g2, hst⟩
          | ref n =>
            cases r2 with
            | @ref _ a2 en =>
              simp only [wZipOf] at p
              split at p
              · rename_i w h3 hw
                split at hw
                · rename_i k hk
                  cases hw
                  obtain ⟨vs2, hv2, rl2⟩ := s2.obj n _ _ en hk
                  refine ⟨_, _, vs1, vs2, rfl, .inl ⟨.inl (.inl (s2.sub _ _ hq1)), .inl (.inl hv2), p Z2 m2 H2 _ x12 s2 fun i Z' m' h H hz hm' s hc => ?_⟩⟩
                  have hh : h[n]? = some (.lst k) := by
                    cases q : h[n]? with
                    | none => simp [q] at hc
                    | some o => simp [q] at hc; rw [HD.beq_eq _ _ hc]
                  obtain ⟨ws, hws, rw'⟩ := s.obj n a2 _ (pre_get hm' en) hh
                  have g1 : SqL X.K H a1 vs1 := .inl (.inl (s.sub _ _ (hz _ _ hq1)))
                  have g2 : SqL X.K H a2 ws := .inl (.inl hws)
                  exact wk_zipAt s (rl1.mono hz hm') rw' i (fun x y hx hy => ⟨vs1, ws, x, y, g1, g2, hx, hy⟩) (fun v H' ⟨T, x, y, e1, e2, e3, e4, e5⟩ => ⟨T, x, y, e1, e2, e3, e4 _ g1, e5 _ g2⟩) fun hst => ⟨vs1, ws, g1, g2, hst⟩
                · cases hw
              · rename_i hw; split at hw <;> cases hw
              · exact False.elim p
          | _ => exact False.elim p
      | ref n =>
        cases r1' with
        | @ref _ a1 en =>
          cases d2 with
          | lst k =>
            cases r2 with
            | @lst a2 vs2 _ hq2 rl2 =>
              simp only [wZipOf] at p
              split at p
              · rename_i w h3 hw
                split at hw
                · rename_i l hl
                  cases hw
                  obtain ⟨vs1, hv1, rl1⟩ := s2.obj n _ _ en hl
                  refine ⟨_, _, vs1, vs2, rfl, .inl ⟨.inl (.inl hv1), .inl (.inl (s2.sub _ _ hq2)), p Z2 m2 H2 _ x12 s2 fun i Z' m' h H hz hm' s hc => ?_⟩⟩
                  have hh : h[n]? = some (.lst l) := by
                    cases q : h[n]? with
                    | none => simp [q] at hc
                    | some o => simp [q] at hc; rw [HD.beq_eq _ _ hc]
                  obtain ⟨ws, hws, rw'⟩ := s.obj n a1 _ (pre_get hm' en) hh
                  have g1 : SqL X.K H a1 ws := .inl (.inl hws)
                  have g2 : SqL X.K H a2 vs2 := .inl (.inl (s.sub _ _ (hz _ _ hq2)))
                  exact wk_zipAt s rw' (rl2.mono hz hm') i (fun x y hx hy => ⟨ws, vs2, x, y, g1, g2, hx, hy⟩) (fun v H' ⟨T, x, y, e1, e2, e3, e4, e5⟩ => ⟨T, x, y, e1, e2, e3, e4 _ g1, e5 _ g2⟩) fun hst => ⟨ws, vs2, g1, g2, hst⟩
                · cases hw
              · rename_i hw; split at hw <;> cases hw
              · exact False.elim p
          | _ => exact False.elim p
      | _ => exact False.elim p

/-! ### isinstance with two built-in types -/
def isi2 (T U : String) (d : D) (h : Hm) : R D := match tyD h d with
  | some t => .ok (.bl (isTy t T || isTy t U)) h
  | none => .err
theorem nox_isi2 (T U : String) : ∀ a h, NoX (isi2 T U a h) := by intro a h e g; unfold isi2; split <;> simp
theorem tyD_X {Z H : Hp} {m : List Addr} {h : Hm} {d : D} {y : V} {t : String} (s : HSim C Z m h H) (r : Rep C Z m d y) (e : tyD h d = some t) : t ∈ ["NoneType", "bool", "int", "str", "tuple", "list", "dict"] ∧ TyX X.K H y (.type t) := by
  cases r with
  | non => cases e; exact ⟨by decide, .base .non⟩
  | bl b => cases e; exact ⟨by decide, .base (.bl b)⟩
  | int b => cases e; exact ⟨by decide, .base (.int b)⟩
  | str b => cases e; exact ⟨by decide, .base (.str b)⟩
  | tup hq rl => cases e; exact ⟨by decide, .base (.tup (s.sub _ _ hq))⟩
  | lst hq rl => cases e; exact ⟨by decide, .base (.lst (s.sub _ _ hq))⟩
  | scr hq => cases e
  | exn0 _ _ => cases e
  | exn1 _ _ _ _ => cases e
  | @ref n a en =>
    unfold tyD at e
    cases q : h[n]? with
    | none => simp [q] at e
    | some o =>
      cases o with
      | lst l =>
        obtain ⟨vs, hv, rl⟩ := s.obj n a _ en q
        simp [q] at e; subst e
        exact ⟨by decide, .base (.lst hv)⟩
      | dct l =>
        obtain ⟨vs, hv, rl⟩ := s.obj n a _ en q
        simp [q] at e; subst e
        exact ⟨by decide, .base (.dK hv)⟩
      | _ => simp [q] at e
theorem de_isi2 {T U : String} {xT xU : Str} {a : Expr} {k : Nat} {p pt pu ptt pos : Pos} {fa : EM} (hT : T ∈ tysA) (hU : U ∈ tysA) (hg : Gl X "isinstance") (hm : X.mg "isinstance" = none) (hv : bootBuiltins "isinstance" = some (.builtin "isinstance"))
    (hgT : Gl X xT) (hmT : X.mg xT = none) (hvT : bootBuiltins xT = some (.type T)) (hgU : Gl X xU) (hmU : X.mg xU = none) (hvU : bootBuiltins xU = some (.type U)) (ha : PE X a (denE C E fa))
    (hnT : xT ≠ "__name__" := by decide) (hdT : (xT == ("__debug__" : Str)) = false := by decide) (hnU : xU ≠ "__name__" := by decide) (hdU : (xU == ("__debug__" : Str)) = false := by decide)
    (he : starEach [a, .Tuple [.Name xT pt, .Name xU pu] k ptt] X.env = (false, eval a X.env) :: starEach [.Tuple [.Name xT pt, .Name xU pu] k ptt] X.env := by rfl) (he2 : starEach [.Tuple [.Name xT pt, .Name xU pu] k ptt] X.env = (false, eval (.Tuple [.Name xT pt, .Name xU pu] k ptt) X.env) :: starEach [] X.env := by rfl)
    (hs : starEach [.Name xT pt, .Name xU pu] X.env = (false, eval (.Name xT pt) X.env) :: starEach [.Name xU pu] X.env := by rfl) (hs2 : starEach [.Name xU pu] X.env = (false, eval (.Name xU pu) X.env) :: starEach [] X.env := by rfl)
    (hpl : (backTo pos (starEach [.Tuple [.Name xT pt, .Name xU pu] k ptt] X.env)).any (·.1) = false := by rfl) : PE X (.Call (.Name "isinstance" p) [a, .Tuple [.Name xT pt, .Name xU pu] k ptt] [] pos) (denE C E (eU (isi2 T U) fa)) := by
  refine pe_imp (pe_callB call_isiT hg hm hv (pa_cons ha (pa_cons (pe_tup (pa_cons (pe_bltn (v := .ty T) hgT hmT hvT rfl hnT hdT) (pa_cons (pe_bltn (v := .ty U) hgU hmU hvU rfl hnU hdU) pa_nil hs2) hs)) pa_nil he2) he) (by decide) (by decide) he hpl) fun σ H Q ⟨Z, m, v, h, s, e, p⟩ => ?_
  refine ⟨Z, m, v, h, s, e, (p.bind (rep1 := Rep C)).imp fun y H1 ⟨Z1, m1, d, h1, x1, s1, r1, p1⟩ => ⟨by show 2 ≤ sizeLine; rw [sizeLine_eq]; decide, fun tp htp => ?_⟩⟩
  have p1 := p1.nox (nox_isi2 T U _ _)
  unfold isi2 at p1
  cases q : tyD h1 d with
  | none => rw [q] at p1; exact False.elim p1
  | some t =>
    rw [q] at p1
    have xl := Ext.lay s1 htp (.tup [.ty T, .ty U])
    obtain ⟨ht, ty⟩ := tyD_X (X := X) (s1.lay htp (.tup [.ty T, .ty U])) (r1.mono xl.sub (List.prefix_refl _)) q
    refine ⟨y, tp, [.ty T, .ty U], .type t, [.type T, .type U], isTy t T || isTy t U, rfl, upd_same, .cons (.ty _) (.cons (.ty _) .nil), ty, ?_, p1 _ _ _ _ xl (s1.lay htp _) (.bl _)⟩
    unfold PySem.W.kitAny; rw [kit_ty (kit_is ht hT)]
    cases hx : isTy t T with
    | true => simp
    | false =>
      simp only [Bool.false_or]
      unfold PySem.W.kitAny; rw [kit_ty (kit_is ht hU)]
      cases hy : isTy t U <;> rfl
end Dn

/-! DenW: short words for what the printer writes of exceptions. -/
set_option Elab.async false
set_option linter.all false
set_option maxRecDepth 100000
set_option maxHeartbeats 4000000
namespace Dn
open PySem PySem.Spec PyProof.Rows L2

structure XNm (mg : Str → Option Value) (cl : Str → Option Addr) (c : Str) : Prop where
  ok : ∃ A, cl c = some A ∧ mg c = some (.ref A)
structure XNo (K : PySem.W.Frag) (mg : Str → Option Value) (cl : Str → Option Addr) (c : Str) : Prop where
  ok : ∃ A, cl c = some A ∧ mg c = some (.ref A) ∧ XCls K A ∧ PySem.W.excIn K A PySem.HandSPX.veTail "ValueError.__new__" = true
structure XIn (P : Program) (w : World) (K : PySem.W.Frag) (mg : Str → Option Value) (base : Heap) (cl : Str → Option Addr) (c f : Str) : Prop where
  ok : ∃ A fI fd, cl c = some A ∧ mg c = some (.ref A) ∧ XCls K A ∧ PySem.W.findIn K (.ref A) "__init__" = some (some (.ref fI)) ∧ PySem.W.typeIn K (.ref fI) = some (.type "function") ∧ FnOk P w K mg base CX0 1 fI fd ["self", f] (spIni A f) ∧ Binds K fd ["self", f] []
/-- the classes' table, computed -/
def tabB (K : PySem.W.Frag) (l : List (Str × Addr)) : Bool := l.all fun p => xcB K p.2 && (decide (PySem.W.kitOne K (.ref p.2) (.type "ValueError") = some true) && l.all fun q => decide (PySem.W.kitOne K (.ref p.2) (.ref q.2) = some (xIs p.1 q.1)) && decide (PySem.W.exmOne K (.ref p.2) (.ref q.2) = some (xIs p.1 q.1)))
def nofB (K : PySem.W.Frag) (l : List (Str × Addr)) (f : Str) : Bool := l.all fun p => decide (PySem.W.findIn K (.ref p.2) f = some none)
theorem lookup_mem {c : Str} {A : Addr} : ∀ {l : List (Str × Addr)}, l.lookup c = some A → (c, A) ∈ l
  | [], h => by simp at h
  | (k, v) :: r, h => by
    rw [List.lookup_cons] at h
    cases hb : c == k with
    | true => rw [hb] at h; cases h; rw [beq_iff_eq.mp hb]; exact List.mem_cons_self
    | false => rw [hb] at h; exact List.mem_cons_of_mem _ (lookup_mem h)
theorem tab_mk {K : PySem.W.Frag} {l : List (Str × Addr)} {tb : List (Addr × Str)} (h : tabB K l = true) : XTab ⟨K, fun c => l.lookup c, tb⟩ := by
  have h1 := List.all_eq_true.mp h
  have g : ∀ c A, l.lookup c = some A → xcB K A = true ∧ PySem.W.kitOne K (.ref A) (.type "ValueError") = some true ∧ ∀ T B, l.lookup T = some B → PySem.W.kitOne K (.ref A) (.ref B) = some (xIs c T) ∧ PySem.W.exmOne K (.ref A) (.ref B) = some (xIs c T) := fun c A e => by
    have := h1 _ (lookup_mem e)
    simp only [Bool.and_eq_true, decide_eq_true_eq] at this
    refine ⟨this.1, this.2.1, fun T B e2 => ?_⟩
    have := List.all_eq_true.mp this.2.2 _ (lookup_mem e2)
    simpa using this
  exact ⟨fun c A e => xcB_ok (g c A e).1, fun c A T B e1 e2 => ((g c A e1).2.2 T B e2).1, fun c A e => (g c A e).2.1, fun c A T B e1 e2 => ((g c A e1).2.2 T B e2).2⟩
theorem nof_mk {K : PySem.W.Frag} {l : List (Str × Addr)} {f : Str} (h : nofB K l f = true) : ∀ c A, l.lookup c = some A → PySem.W.findIn K (.ref A) f = some none := fun c A e => by
  have := List.all_eq_true.mp h _ (lookup_mem e)
  simpa using this
section
variable {X : Cx} {C : Cn} {E : WX}
theorem ds_raise0 {c m : Str} {j : Nat} {p p2 pos pos' : Pos} (hc : X.calm = true) (tk : Takes X E) (x : XNo X.K X.mg C.cls c) (hg : Gl X c) (hd : (c == ("__debug__" : Str)) = false := by decide) :
    PS X (.Raise (some (.Call (.Name c p) [.Constant (.str m) j p2] [] pos)) none pos') (denS C E (sRs0 c)) := by
  obtain ⟨A, h1, h2, h3, h4⟩ := x.ok
  exact ds_rs0 hc tk h1 h2 h3 h4 hg hd
theorem ds_raise1 {c f : Str} {k : Nat} {a : Expr} {fa : EM} {p pos pos' : Pos} (hc : X.calm = true) (tk : Takes X E) (x : XIn X.prog X.w X.K X.mg X.base C.cls c f) (hr : Room k X.A) (hk : 2 ≤ k) (hg : Gl X c) (ha : PE X a (denE C E fa)) (hd : (c == ("__debug__" : Str)) = false := by decide)
    (he : starEach [a] X.env = [(false, eval a X.env)] := by rfl) : PS X (.Raise (some (.Call (.Name c p) [a] [] pos)) none pos') (denS C E (sRs1 c f fa)) := by
  obtain ⟨A, fI, fd, h1, h2, h3, h4, h5, h6, h7⟩ := x.ok
  exact ds_rs1 hc tk h1 h2 h3 h4 h5 h6 h7 (hr.mono hk) hg ha hd he
section
variable {T : Str} {body suite : List Stmt} {b₀ : Stmt} {np pos pos' : Pos} {fb fs : SM}
theorem ds_try1 (hs : X.stack = X.env :: X.outer) (hf : X.env.frame = some X.env.locals) (tab : XTab C) (hK : C.K = X.K) (n : XNm X.mg C.cls T) (hg : Gl X T) (tk : Takes X E)
    (hb : ∀ (W : WX) (pn : List (Addr × Obj)) (xe : Value → Shared → Prop), Takes (X.tr pn xe) W → PassesOwn (model X.prog X.w) X.A X.env xe → PSs (X.tr pn xe) body (denS C W fb))
    (hsu : ∀ (a : Addr) (pn : List (Addr × Obj)), PSs (X.suite a pn) (b₀ :: suite) (denS C EF fs)) (hd : (T == ("__debug__" : Str)) = false := by decide) :
    PS X (.Try body [.ExceptHandler (some (.Name T np)) none (b₀ :: suite) pos'] [] [] pos) (denS C E (sTry fb (fun c => xIs c T) fun _ => fs)) := by
  obtain ⟨B, h1, h2⟩ := n.ok
  exact ds_try hs hf (ht_name ⟨hg, hd, .inl h2⟩) tk (fun c A e => by rw [← hK]; exact tab.em c A T B e h1) hb hsu
theorem ds_tryAs1 {i : Nat} {n : Str} (hs : X.stack = X.env :: X.outer) (hf : X.env.frame = some X.env.locals) (hN : X.N.Nodup) (hi : X.N[i]? = some n) (hl : X.env.kindOf n = some .local) (tab : XTab C) (hK : C.K = X.K) (nm : XNm X.mg C.cls T) (hg : Gl X T) (tk : Takes X E)
    (hb : ∀ (W : WX) (pn : List (Addr × Obj)) (xe : Value → Shared → Prop), Takes (X.tr pn xe) W → PassesOwn (model X.prog X.w) X.A X.env xe → PSs (X.tr pn xe) body (denS C W fb))
    (hsu : ∀ (a : Addr) (pn : List (Addr × Obj)), PSs (X.suite a pn) (b₀ :: suite) (denS C EF fs)) (hd : (T == ("__debug__" : Str)) = false := by decide) :
    PS X (.Try body [.ExceptHandler (some (.Name T np)) (some n) (b₀ :: suite) pos'] [] [] pos) (denS C E (sTry fb (fun c => xIs c T) (kAs i fs))) := by
  obtain ⟨B, h1, h2⟩ := nm.ok
  exact ds_tryAs hs hf hN hi hl (ht_name ⟨hg, hd, .inl h2⟩) tk (fun c A e => by rw [← hK]; exact tab.em c A T B e h1) hb hsu
theorem ds_try2 {U : Str} {p1 p2 pp : Pos} {k : Nat} (hs : X.stack = X.env :: X.outer) (hf : X.env.frame = some X.env.locals) (tab : XTab C) (hK : C.K = X.K) (nT : XNm X.mg C.cls T) (nU : XNm X.mg C.cls U) (hgT : Gl X T) (hgU : Gl X U) (tk : Takes X E)
    (hb : ∀ (W : WX) (pn : List (Addr × Obj)) (xe : Value → Shared → Prop), Takes (X.tr pn xe) W → PassesOwn (model X.prog X.w) X.A X.env xe → PSs (X.tr pn xe) body (denS C W fb))
    (hsu : ∀ (a : Addr) (pn : List (Addr × Obj)), PSs (X.suite a pn) (b₀ :: suite) (denS C EF fs)) (hdT : (T == ("__debug__" : Str)) = false := by decide) (hdU : (U == ("__debug__" : Str)) = false := by decide)
    (hst : starEach [.Name T p1, .Name U p2] X.env = [(false, eval (.Name T p1) X.env), (false, eval (.Name U p2) X.env)] := by rfl) :
    PS X (.Try body [.ExceptHandler (some (.Tuple [.Name T p1, .Name U p2] k pp)) none (b₀ :: suite) pos'] [] [] pos) (denS C E (sTry fb (fun c => xIs c T || xIs c U) fun _ => fs)) := by
  obtain ⟨A, h1, h2⟩ := nT.ok
  obtain ⟨B, h3, h4⟩ := nU.ok
  refine ds_try hs hf (ht_two hgT h2 hgU h4 hdT hdU hst) tk (fun c D e => ?_) hb hsu
  have q1 := tab.em c D T A e h1
  have q2 := tab.em c D U B e h3
  rw [hK] at q1 q2
  simp only [PySem.W.exmAny, q1, q2, Bool.or_false]
end
section
variable {a : Expr} {p pt pos : Pos} {fa : EM}
theorem de_isXn {T : Str} (tab : XTab C) (hK : C.K = X.K) (n : XNm X.mg C.cls T) (hg : Gl X "isinstance") (hm : X.mg "isinstance" = none) (hv : bootBuiltins "isinstance" = some (.builtin "isinstance")) (hgT : Gl X T) (ha : PE X a (denE C E fa)) (hdT : (T == ("__debug__" : Str)) = false := by decide)
    (he : starEach [a, .Name T pt] X.env = (false, eval a X.env) :: starEach [.Name T pt] X.env := by rfl) (he2 : starEach [.Name T pt] X.env = (false, eval (.Name T pt) X.env) :: starEach [] X.env := by rfl)
    (hpl : (backTo pos (starEach [.Name T pt] X.env)).any (·.1) = false := by rfl) : PE X (.Call (.Name "isinstance" p) [a, .Name T pt] [] pos) (denE C E (eU (isX [T]) fa)) := by
  obtain ⟨B, h1, h2⟩ := n.ok
  exact de_isX tab hK hg hm hv hgT h2 h1 ha hdT he he2 hpl
theorem de_isXn2 {T U : Str} {k : Nat} {pu ptt : Pos} (tab : XTab C) (hK : C.K = X.K) (nT : XNm X.mg C.cls T) (nU : XNm X.mg C.cls U) (hg : Gl X "isinstance") (hm : X.mg "isinstance" = none) (hv : bootBuiltins "isinstance" = some (.builtin "isinstance")) (hgT : Gl X T) (hgU : Gl X U) (ha : PE X a (denE C E fa)) (hdT : (T == ("__debug__" : Str)) = false := by decide) (hdU : (U == ("__debug__" : Str)) = false := by decide)
    (he : starEach [a, .Tuple [.Name T pt, .Name U pu] k ptt] X.env = (false, eval a X.env) :: starEach [.Tuple [.Name T pt, .Name U pu] k ptt] X.env := by rfl) (he2 : starEach [.Tuple [.Name T pt, .Name U pu] k ptt] X.env = (false, eval (.Tuple [.Name T pt, .Name U pu] k ptt) X.env) :: starEach [] X.env := by rfl)
    (hs : starEach [.Name T pt, .Name U pu] X.env = (false, eval (.Name T pt) X.env) :: starEach [.Name U pu] X.env := by rfl) (hs2 : starEach [.Name U pu] X.env = (false, eval (.Name U pu) X.env) :: starEach [] X.env := by rfl)
    (hpl : (backTo pos (starEach [.Tuple [.Name T pt, .Name U pu] k ptt] X.env)).any (·.1) = false := by rfl) : PE X (.Call (.Name "isinstance" p) [a, .Tuple [.Name T pt, .Name U pu] k ptt] [] pos) (denE C E (eU (isX [T, U]) fa)) := by
  obtain ⟨A, h1, h2⟩ := nT.ok
  obtain ⟨B, h3, h4⟩ := nU.ok
  exact de_isX2 tab hK hg hm hv hgT h2 h1 hgU h4 h3 ha hdT hdU he he2 hs hs2 hpl
end
end
theorem pass0X {X : Cx} {σ : L2.St} {Ex : XK} : PassesAt CX0 X σ Ex := fun _ _ _ _ _ _ h => False.elim h
theorem bt_VE : bootBuiltins "ValueError" = some (.type "ValueError") := by decide +kernel
theorem bt_zip : bootBuiltins "zip" = some (.type "zip") := by decide +kernel

/-! ### list.count -/
def mCount : MM := fun d xs h => match xs with
  | [x] => match lsOf h d with
    | some l => if D.okN 64 x && D.okL 63 l then .ok (.int ((l.countP fun z => D.eqb z x : Nat) : Int)) h else .err
    | none => .err
  | _ => .err
theorem nox_count : ∀ d a h, NoX (mCount d a h) := by intro d a h e g; unfold mCount; repeat' split
                                                      all_goals simp
theorem countP_pd {n k : Nat} {a : D} (ha : D.okN n a = true) : ∀ {l : List D}, D.okL k l = true → ((D.pdL l).countP fun z => PyData.eqv z a.pd) = l.countP fun z => D.eqb z a
  | [], _ => rfl
  | x :: xs, h => by
    simp only [D.okL, Bool.and_eq_true] at h
    simp only [D.pdL, List.countP_cons]
    rw [D.eqv_eqb k n x a h.1 ha, countP_pd ha h.2]
theorem dm_count {X : Cx} {C : Cn} (hr : Room 0 X.A) : MtR X "list.count" (rDM C mCount) := by
  intro pins s σ H x xs v us Q I rx rs ⟨Z, m, h, d, ds, sm, rd, rds, p⟩
  unfold mCount at p
  split at p
  · rename_i y
    obtain ⟨z, rfl, rz⟩ := repL_one rds
    split at p
    · rename_i l hl
      split at p
      · rename_i hc
        simp only [Bool.and_eq_true] at hc
        obtain ⟨a, vs, rfl, hv, rl⟩ := ls_at sm rd hl
        cases rx
        cases rs with
        | @cons _ uy _ _ ry rt =>
          cases rt
          obtain ⟨bs, r1⟩ := Dp.reads I y.pd z uy (rz.dp sm.sub 64 hc.1) ry
          obtain ⟨its, rv, ⟨⟨cls, dd, data, sls⟩, n, ho, hcl, hdn, hdt⟩, hlen⟩ := I.list (.inl (.inl hv))
          simp only at hcl hdt
          subst hcl hdt
          obtain ⟨as, h4⟩ := Dp.readsAll I (D.pdL l) vs its (rl.dp sm.sub 63 hc.2) rv
          have sl : SeqAt.shaped (.list (D.pdL l)) = true := by
            have := D.shaped (d := .lst l) (by simpa [D.okN] using hc.2)
            simpa [D.pd] using this
          have sd := D.shaped hc.1
          have hxs : PyData.canLayAll0 (D.pdL l) = true := SeqAt.canLay_of_shaped sl
          have hroom : X.A.units + 1 + min (PyData.depthAll (D.pdL l)) y.pd.depth < cLine := room_in_shaped sd (hu65 hr)
          have hmap : its.map (SeqAt.readOf s.heap) = D.pdL l := SeqAt.readsAll_map _ its as hxs h4
          refine call_meets PySem.F.slot_list_count ⟨_, ho, rfl⟩ PySem.F.entry_list_count (PySem.F.args_list_count_2 _ _)
            (SeqAt.list_countAt a its.toArray n dd sls uy (fun u => PyData.eqv (SeqAt.readOf s.heap u) y.pd)) ⟨ho, SeqAt.items_eqAt (vs := its.toArray) (show ReadsAll s.heap its.toArray.toList (D.pdL l) as from h4) r1 hxs (SeqAt.canLay_of_shaped sd) hroom, ?_⟩
          have ec : its.toArray.toList.countP (fun u => PyData.eqv (SeqAt.readOf s.heap u) y.pd) = l.countP fun z => D.eqb z y := by
            rw [← countP_pd hc.1 hc.2, ← hmap, List.countP_map]; rfl
          refine ⟨.int ((l.countP fun z => D.eqb z y : Nat) : Int), H, I.tok _, ⟨s.toks, ?_⟩, p _ _ _ _ .refl sm (.int _)⟩
          show Value.int ((its.toArray.toList.countP (fun u => PyData.eqv (SeqAt.readOf s.heap u) y.pd) : Nat) : Int) s.toks = _
          rw [ec]
      · exact False.elim p
    · exact False.elim p
  · exact False.elim p
end Dn

/-! DenU: `is` of truth values. -/
set_option Elab.async false
set_option linter.all false
set_option maxRecDepth 100000
set_option maxHeartbeats 4000000
namespace Dn
open PySem PySem.Spec PyProof.Rows L2
def opIsB (x y : D) (h : Hm) : R D := match x, y with
  | .bl a, .bl b => .ok (.bl (a == b)) h
  | _, _ => .err
def opNotB (x y : D) (h : Hm) : R D := match x, y with
  | .bl a, .bl b => .ok (.bl (!(a == b))) h
  | _, _ => .err
section
variable {X : Cx} {C : Cn} {E : WX}
theorem do_isB : OpR X (compareOp .Is) (rD2 C opIsB) := by
  intro pins s σ H x y v u Q I rx ry ⟨Z, m, h, a, b, sm, ra, rb, p⟩
  cases ra <;> cases rb <;> first | exact False.elim p | skip
  cases rx
  cases ry
  refine wpAny_is_plain rfl (fin_bl I (p _ _ _ _ .refl sm (.bl _)) ?_)
  rename_i a b
  (clear p; cases a <;> cases b <;> first | rfl | decide | simp)
theorem do_notB : OpR X (compareOp .IsNot) (rD2 C opNotB) := by
  intro pins s σ H x y v u Q I rx ry ⟨Z, m, h, a, b, sm, ra, rb, p⟩
  cases ra <;> cases rb <;> first | exact False.elim p | skip
  cases rx
  cases ry
  refine wpAny_isNot_plain rfl (fin_bl I (p _ _ _ _ .refl sm (.bl _)) ?_)
  rename_i a b
  (clear p; cases a <;> cases b <;> first | rfl | decide | simp)
theorem nox_isB : ∀ a b h, NoX (opIsB a b h) := by intro a b h e g; unfold opIsB; repeat' split
                                                   all_goals simp
theorem nox_notB : ∀ a b h, NoX (opNotB a b h) := by intro a b h e g; unfold opNotB; repeat' split
                                                     all_goals simp
end
end Dn

/-! DenQ: dicts made, sorted. -/
set_option Elab.async false
set_option linter.all false
set_option maxRecDepth 100000
set_option maxHeartbeats 4000000
namespace Dn
open PySem PySem.Spec PyProof.Rows L2
def eDct : EM := fun v h => .ok (.ref h.length) (h ++ [.dct []])
section
variable {X : Cx} {C : Cn} {E : WX}
theorem de_dct {pos : Pos} : PE X (.Dict [] [] pos) (denE C E eDct) := by
  refine pe_imp pe_dnewK fun σ H Q ⟨Z, m, v, h, s, e, p⟩ => ?_
  exact fun q hq => p _ _ _ _ (Ext.alloc s hq _) (s.alloc hq fun H' e => ⟨[], e, .nil⟩) (.ref (at_new s.len))
end
/-! ### sorted -/
def ins1 (x : Int) : List Int → List Int
  | [] => [x]
  | y :: r => if x ≤ y then x :: y :: r else y :: ins1 x r
def srt : List Int → List Int
  | [] => []
  | x :: r => ins1 x (srt r)
theorem ins1_perm (x : Int) : ∀ l, (ins1 x l).Perm (x :: l)
  | [] => .refl _
  | y :: r => by
    unfold ins1
    split
    · exact .refl _
    · exact ((ins1_perm x r).cons y).trans (.swap x y r)
theorem srt_perm : ∀ l, (srt l).Perm l
  | [] => .refl _
  | x :: r => (ins1_perm x _).trans ((srt_perm r).cons x)
theorem ins1_pw {x : Int} : ∀ {l : List Int}, l.Pairwise (· ≤ ·) → (ins1 x l).Pairwise (· ≤ ·)
  | [], _ => List.pairwise_singleton _ _
  | y :: r, h => by
    obtain ⟨h1, h2⟩ := List.pairwise_cons.mp h
    unfold ins1
    split
    · rename_i hxy
      refine List.pairwise_cons.mpr ⟨fun z hz => ?_, h⟩
      rcases List.mem_cons.mp hz with rfl | hz
      · exact hxy
      · exact Int.le_trans hxy (h1 z hz)
    · rename_i hxy
      refine List.pairwise_cons.mpr ⟨fun z hz => ?_, ins1_pw h2⟩
      rcases List.mem_cons.mp ((ins1_perm x r).mem_iff.mp hz) with rfl | hz
      · omega
      · exact h1 z hz
theorem srt_pw : ∀ l, (srt l).Pairwise (· ≤ ·)
  | [] => .nil
  | x :: r => ins1_pw (srt_pw r)
theorem srt_uniq : ∀ {a b : List Int}, a.Perm b → a.Pairwise (· ≤ ·) → b.Pairwise (· ≤ ·) → a = b
  | [], b, p, _, _ => (List.Perm.nil_eq p)
  | x :: a, [], p, _, _ => absurd p.length_eq (by simp)
  | x :: a, y :: b, p, h1, h2 => by
    obtain ⟨x1, x2⟩ := List.pairwise_cons.mp h1
    obtain ⟨y1, y2⟩ := List.pairwise_cons.mp h2
    have e : x = y := by
      have hx := p.mem_iff.mp (List.mem_cons_self (a := x) (l := a))
      have hy := p.mem_iff.mpr (List.mem_cons_self (a := y) (l := b))
      rcases List.mem_cons.mp hx with h | h
      · exact h
      · rcases List.mem_cons.mp hy with h' | h'
        · exact h'.symm
        · exact Int.le_antisymm (x1 y h') (y1 x h)
    subst e
    rw [srt_uniq ((List.perm_cons x).mp p) x2 y2]
theorem srt_of {a b : List Int} (p : a.Perm b) (h : a.Pairwise (· ≤ ·)) : a = srt b := srt_uniq (p.trans (srt_perm b).symm) h (srt_pw b)
def bSorted : FM := fun ds h => match ds with
  | [d] => match lsOf h d with
    | some l => (match intsOf l with
      | some ns => .ok (.lst ((srt ns).map D.int)) h
      | none => .err)
    | none => match dcOf h d with
      | some l => (match intsOf (l.map (·.1)) with
        | some ns => .ok (.lst ((srt ns).map D.int)) h
        | none => .err)
      | none => .err
  | _ => .err
theorem nox_bSorted : ∀ a h, NoX (bSorted a h) := by intro a h e g; unfold bSorted; repeat' split
                                                     all_goals simp
section
variable {X : Cx} {C : Cn} {E : WX}
/-- sorted(d), all keys ints -/
theorem call_sortedDA (hcalm : X.calm = true) : CallR X (.builtin "sorted") (fun xs H Q => ∃ (a : Addr) (kvs : List (Key × V)) (ks : List Int), xs = [.ref a] ∧ Rd H a (.dK kvs) ∧ kvs.map (·.1) = ks.map Sum.inl ∧
    ∀ (ys : List Int) (p : Addr), ys.Perm ks → ys.Pairwise (· ≤ ·) → H p = none → Q (.ref p) (upd H p (.lst (ys.map V.int)))) := by
  intro pins s σ H xs us Q I r q
  obtain ⟨a, kvs, ks, ex, hd, hks, q⟩ := q
  subst ex
  obtain ⟨u, eu, rx⟩ := vals1 r
  subst eu
  cases rx
  obtain ⟨z, lo, vs, rel, dd⟩ := dk_rd I.hok hd
  obtain ⟨ep, hat⟩ := dd.dictAt
  have hkeys : vs.map (·.1) = ks.map Sum.inl := rel.keys.symm.trans hks
  have hl : vs.length = ks.length := by
    have e := congrArg List.length hkeys
    rw [List.length_map, List.length_map] at e
    exact e
  have h16 : vs.length ≤ sizeLine := by rw [← rel.length]; exact z
  refine Calls.call_function_entry PyProof.Rows.kind_sorted PyProof.Rows.plain_sorted PyProof.Rows.entry_sorted (PyProof.Rows.args_sorted1 _) ?_
  unfold Builtin.«sorted»
  refine wpAny_bind (m := checkCount "sorted" 1 1 _) (wpAny_pure ?_)
  refine wpAny_bind (PySem.W.kdu_collect (A := X.A.in1) (PySem.W.kdl_dict (knd := mixKind X.prog X.w) (kvs := vs) (ep := ep) lo) (I.ok.hd hcalm) hat h16 fun h' tk acc hk hacc => ?_)
  have hal : acc.toList.length = ks.length := by rw [Array.length_toList, hacc.1, hl]
  have hS : IntsAre acc.toList ks := ints_each hal fun j v e => by
    obtain ⟨k, x, e1, e2⟩ := hacc.2 j v (by rw [← Array.getElem?_toList]; exact e)
    have e3 : (vs.map (·.1))[j]? = some k := by rw [List.getElem?_map, e1]; rfl
    rw [hkeys, List.getElem?_map] at e3
    cases e4 : ks[j]? with
    | none => rw [e4] at e3; cases e3
    | some y =>
      rw [e4] at e3
      have e5 : Sum.inl y = k := Option.some.inj e3
      subst e5
      rcases keyIs_shape (show keyIs (Sum.inl y) v = true from e2) with ⟨i, t, ek, ev⟩ | ⟨z, t, ek, ev⟩
      · cases ek
        exact ⟨y, t, rfl, ev⟩
      · cases ek
  have I1 : Inv X pins σ H { s with heap := h', toks := tk } := I.kept hk
  refine wpAny_bind (wpAny_newList ?_ (by rw [hal, ← hl]; exact h16))
  have hoL : (h'.push (seqObj "list" acc.toList.toArray 0)).get? h'.objs.size = some (seqObj "list" acc.toList.toArray 0) := Heap.get?_push_size _ rfl
  show wpAny _ _ _ _ _ { s with heap := h'.push (seqObj "list" acc.toList.toArray 0), toks := tk }
  refine wpAny_bind (wpAny_holding (wpAny_call_entry PyProof.Rows.slot_list_sort ⟨_, hoL, rfl⟩ PyProof.Rows.entry_list_sort
    (SrtO.list_sort_ord (s := { s with heap := h'.push (seqObj "list" acc.toList.toArray 0), toks := tk }) SrtO.swo_int hoL (by rw [hal, ← hl]; exact h16) (fun h2 => SrtO.ints_sortable hS h2) fun out h1 h2 => ⟨_, rfl, ?_⟩) (PyProof.Rows.args_list_sort _)))
  obtain ⟨k1, k2, k3⟩ := SrtO.ints_out hS h1 h2
  obtain ⟨e', he'⟩ := PyProof.Rows.sortedHeap_at (vs := acc.toList) (out := out.toArray) hoL
  have hlen : ((out.map SrtO.iv).map V.int).length ≤ sizeLine := by
    rw [List.length_map, k2.length_eq, ← hl]
    exact h16
  refine wpAny_pure ⟨_, rfl, .ref h'.objs.size, upd H h'.objs.size (.lst ((out.map SrtO.iv).map V.int)), I1.laid (t' := tk) (fun b u e => ?_) (Nat.le_refl _)
    (show ObjOk X.prog X.w _ _ _ (.lst ((out.map SrtO.iv).map V.int)) from ⟨hlen, out, e', vals_of_ints k1, he'⟩), rfl, q _ _ k2 k3 (I1.hok.fresh (Nat.le_refl _))⟩
  have hb : b < h'.objs.size := Heap.lt_size e
  rw [PyProof.Rows.sortedHeap_old (Nat.ne_of_lt hb) (by rw [size_push']; exact Nat.lt_succ_of_lt hb)]
  exact Heap.get?_push_of_some _ e
theorem repL_ints {Z : Hp} {m : List Addr} : ∀ {ns : List Int} {vs : List V}, RepL C Z m (ns.map D.int) vs → vs = ns.map V.int
  | [], _, .nil => rfl
  | n :: ns, _, .cons a b => by cases a; rw [repL_ints b]; rfl
theorem repI_rep {Z : Hp} {m : List Addr} : ∀ ns : List Int, RepL C Z m (ns.map D.int) (ns.map V.int)
  | [] => .nil
  | n :: ns => .cons (.int n) (repI_rep ns)
theorem repK_keys {Z : Hp} {m : List Addr} : ∀ {l : List (D × D)} {kvs : List (L2.Key × V)} {ns : List Int}, RepK C Z m l kvs → l.map (·.1) = ns.map D.int → kvs.map (·.1) = ns.map Sum.inl
  | _, _, [], .nil, _ => rfl
  | _, _, n :: ns, .int a b, e => by
    simp only [List.map_cons, List.cons.injEq] at e
    obtain ⟨e1, e2⟩ := e
    cases e1
    simp only [List.map_cons, repK_keys b e2]
  | _, _, n :: ns, .str a b, e => by
    simp only [List.map_cons, List.cons.injEq] at e
    exact nomatch e.1
  | _, _, _ :: _, .nil, e => by simp at e
  | _, _, [], .int _ _, e => by simp at e
  | _, _, [], .str _ _, e => by simp at e
theorem db_sorted (hc : X.calm = true) : CallR X (.builtin "sorted") (rDF C bSorted) := by
  intro pins s σ H xs us Q I r ⟨Z, m, h, ds, sm, rd, p⟩
  unfold bSorted at p
  split at p
  · obtain ⟨x, rfl, rx⟩ := repL_one rd
    split at p
    · rename_i l hl
      obtain ⟨a, vs, rfl, hv, rl⟩ := ls_at sm rx hl
      split at p
      · rename_i ns hns
        have el := intsOf_eq hns
        subst el
        have ev := repL_ints rl
        subst ev
        refine cr_sortedI pins s σ H _ us Q I r ⟨a, ns, rfl, .inl (.inl hv), fun ns' q h1 h2 hq => ?_⟩
        rw [srt_of h1 h2]
        have xz := Ext.lay sm hq (.lst ((srt ns).map V.int))
        exact p _ _ _ _ xz (sm.lay hq _) (.lst upd_same (repI_rep _))
      · exact False.elim p
    · split at p
      · rename_i l hl
        obtain ⟨n, a, kvs, _, _, _, e4, e5, rk⟩ := dc_at sm rx hl
        subst e4
        split at p
        · rename_i ns hns
          refine call_sortedDA hc pins s σ H _ us Q I r ⟨a, kvs, ns, rfl, .inl e5, repK_keys rk (intsOf_eq hns), fun ns' q h1 h2 hq => ?_⟩
          rw [srt_of h1 h2]
          have xz := Ext.lay sm hq (.lst ((srt ns).map V.int))
          exact p _ _ _ _ xz (sm.lay hq _) (.lst upd_same (repI_rep _))
        · exact False.elim p
      · exact False.elim p
  · exact False.elim p
end
end Dn

/-! DenR: dict(pairs). -/
set_option Elab.async false
set_option linter.all false
set_option maxRecDepth 100000
set_option maxHeartbeats 4000000
namespace Dn
open PySem PySem.Spec PyProof.Rows L2
/-- pairs, one behind the other put into a dict -/
def pairsD : List D → List (D × D) → Option (List (D × D))
  | [], acc => some acc
  | .tup [a, x] :: r, acc => (match keyD a with
    | some k => pairsD r (dPut a k x acc)
    | none => none)
  | _ :: _, _ => none
def bDictN : FM := fun ds h => match ds with
  | [d] => match lsOf h d with
    | some l => (match pairsD l [] with
      | some t => .ok (.ref h.length) (h ++ [.dct t])
      | none => .err)
    | none => .err
  | _ => .err
theorem nox_bDictN : ∀ a h, NoX (bDictN a h) := by intro a h e g; unfold bDictN; repeat' split
                                                   all_goals simp
section
variable {X : Cx} {C : Cn} {E : WX}
theorem pairs_rep {Z H : Hp} {m : List Addr} {K : PySem.W.Frag} (hz : ∀ a o, Z a = some o → H a = some o) : ∀ {l : List D} {vs : List V} {acc t : List (D × D)} {kvs0 : List (L2.Key × V)}, RepL C Z m l vs → pairsD l acc = some t → RepK C Z m acc kvs0 →
    ∃ (ps : List Addr) (kvs : List (L2.Key × V)), vs = ps.map V.ref ∧ Paired (fun p kv => SqT K H p [kV kv.1, kv.2]) ps kvs ∧ RepK C Z m t (mergeK kvs0 kvs)
  | [], _, acc, t, kvs0, .nil, e, ra => by
    injection e with e
    subst e
    exact ⟨[], [], rfl, .nil, ra⟩
  | d :: l, _, acc, t, kvs0, .cons (v := v) (vs := vs) rd rl, e, ra => by
    cases d with
    | tup xs =>
      match xs, e with
      | [a, x], e =>
        simp only [pairsD] at e
        cases hk : keyD a with
        | none => rw [hk] at e; exact nomatch e
        | some k =>
          rw [hk] at e
          cases rd with
          | @tup q ws _ hq rr =>
            cases rr with
            | cons r1 rr2 =>
              cases rr2 with
              | cons r2 rr3 =>
                cases rr3 with
                | nil =>
                  have ek := key_rep r1 hk
                  subst ek
                  obtain ⟨ps, kvs, e1, e2, e3⟩ := pairs_rep (K := K) hz rl e (ra.put hk r2)
                  exact ⟨q :: ps, (k, _) :: kvs, by rw [e1]; rfl, .cons (.inl (.inl (hz _ _ hq))) e2, e3⟩
      | [], e => exact nomatch e
      | [_], e => exact nomatch e
      | _ :: _ :: _ :: _, e => exact nomatch e
    | _ => exact nomatch e
theorem db_dictN (hc : X.calm = true) : CallR X (.type "dict") (rDF C bDictN) := by
  intro pins s σ H xs us Q I r ⟨Z, m, h, ds, sm, rd, p⟩
  unfold bDictN at p
  split at p
  · obtain ⟨x, rfl, rx⟩ := repL_one rd
    split at p
    · rename_i l hl
      obtain ⟨a, vs, rfl, hv, rl⟩ := ls_at sm rx hl
      split at p
      · rename_i t ht
        obtain ⟨ps, kvs, e1, e2, e3⟩ := pairs_rep (K := X.K) sm.sub rl ht .nil
        subst e1
        refine call_dictP hc pins s σ H _ us Q I r ⟨a, ps, kvs, rfl, .inl (.inl hv), e2, fun q hq => ?_⟩
        exact p _ _ _ _ (Ext.alloc sm hq _) (sm.alloc hq fun H' e => ⟨_, e, e3.mono (fun _ _ z => z) (List.prefix_append _ _)⟩) (.ref (at_new sm.len))
      · exact False.elim p
    · exact False.elim p
  · exact False.elim p
end
end Dn

/-! DenN: isinstance of a tuple of exception classes, of any length. -/
set_option Elab.async false
set_option linter.all false
set_option maxRecDepth 100000
set_option maxHeartbeats 4000000
namespace Dn
open PySem PySem.Spec PyProof.Rows L2
section
variable {X : Cx} {C : Cn} {E : WX}
/-- names of classes, one behind the other -/
inductive TupN (X : Cx) (C : Cn) : List Str → List Expr → List Addr → Prop
  | nil : TupN X C [] [] []
  | cons {T : Str} {B : Addr} {pt : Pos} {Ts : List Str} {es : List Expr} {Bs : List Addr} : C.cls T = some B → X.mg T = some (.ref B) → Gl X T → (T == ("__debug__" : Str)) = false → starEach (.Name T pt :: es) X.env = (false, eval (.Name T pt) X.env) :: starEach es X.env → TupN X C Ts es Bs → TupN X C (T :: Ts) (.Name T pt :: es) (B :: Bs)
theorem tupN_nil : ∃ Bs, TupN X C [] [] Bs := ⟨[], .nil⟩
theorem tupN_cons {T : Str} {pt : Pos} {Ts : List Str} {es : List Expr} (n : XNm X.mg C.cls T) (g : Gl X T) (t : ∃ Bs, TupN X C Ts es Bs) (hd : (T == ("__debug__" : Str)) = false := by decide) (hs : starEach (.Name T pt :: es) X.env = (false, eval (.Name T pt) X.env) :: starEach es X.env := by rfl) : ∃ Bs', TupN X C (T :: Ts) (.Name T pt :: es) Bs' := by
  obtain ⟨A, h1, h2⟩ := n.ok
  obtain ⟨Bs, t⟩ := t
  exact ⟨A :: Bs, .cons h1 h2 g hd hs t⟩
def tRefs (Bs : List Addr) : TA := fun σ H Q => Q (Bs.map V.ref) H
theorem tupN_pa : ∀ {Ts : List Str} {es : List Expr} {Bs : List Addr}, TupN X C Ts es Bs → PA X es (tRefs Bs)
  | _, _, _, .nil => pa_nil
  | _, _, _, .cons h1 h2 g hd hs t => pa_imp (pa_cons (pe_glob (v := .ref _) g h2 rfl hd) (tupN_pa t) hs) fun σ H Q q => q
theorem tupN_len : ∀ {Ts : List Str} {es : List Expr} {Bs : List Addr}, TupN X C Ts es Bs → Bs.length = Ts.length
  | _, _, _, .nil => rfl
  | _, _, _, .cons _ _ _ _ _ t => by simp [tupN_len t]
theorem tupN_cls : ∀ {Ts : List Str} {es : List Expr} {Bs : List Addr}, TupN X C Ts es Bs → Paired ClsV (Bs.map V.ref) (Bs.map Value.ref)
  | _, _, _, .nil => .nil
  | _, _, _, .cons _ _ _ _ _ t => .cons (.own _) (tupN_cls t)
theorem tupN_kit (tab : XTab C) {c : Str} {A : Addr} (hA : C.cls c = some A) : ∀ {Ts : List Str} {es : List Expr} {Bs : List Addr}, TupN X C Ts es Bs → PySem.W.kitAny C.K (.ref A) (Bs.map Value.ref) = some (Ts.any fun T => xIs c T)
  | _, _, _, .nil => rfl
  | _, _, _, .cons (T := T) (B := B) h1 h2 g hd hs t => by
    have q1 := tab.is c A T B hA h1
    have ih := tupN_kit tab hA t
    rw [List.map_cons, List.any_cons]
    unfold PySem.W.kitAny
    rw [q1]
    cases hx : xIs c T with
    | true => simp
    | false =>
      simp only [Bool.false_or]
      exact ih
/-- isinstance(e, (T, U, ..)) -/
theorem de_isXs {Ts : List Str} {es : List Expr} {a : Expr} {k : Nat} {p ptt pos : Pos} {fa : EM} (tab : XTab C) (hK : C.K = X.K) (t : ∃ Bs, TupN X C Ts es Bs) (hl : Ts.length ≤ 1000) (hg : Gl X "isinstance") (hm : X.mg "isinstance" = none) (hv : bootBuiltins "isinstance" = some (.builtin "isinstance")) (ha : PE X a (denE C E fa))
    (he : starEach [a, .Tuple es k ptt] X.env = (false, eval a X.env) :: starEach [.Tuple es k ptt] X.env := by rfl) (he2 : starEach [.Tuple es k ptt] X.env = (false, eval (.Tuple es k ptt) X.env) :: starEach [] X.env := by rfl)
    (hpl : (backTo pos (starEach [.Tuple es k ptt] X.env)).any (·.1) = false := by rfl) : PE X (.Call (.Name "isinstance" p) [a, .Tuple es k ptt] [] pos) (denE C E (eU (isX Ts) fa)) := by
  obtain ⟨Bs, t⟩ := t
  refine pe_imp (pe_callB call_isXT hg hm hv (pa_cons ha (pa_cons (pe_tup (tupN_pa t)) pa_nil he2) he) (by decide) (by decide) he hpl) fun σ H Q ⟨Z, m, v, h, s, e, p⟩ => ?_
  refine ⟨Z, m, v, h, s, e, (p.bind (rep1 := Rep C)).imp fun y H1 ⟨Z1, m1, d, h1, x1, s1, r1, p1⟩ => ⟨by rw [List.length_map, tupN_len t, sizeLine_eq]; omega, fun tp htp => ?_⟩⟩
  have p1 := p1.nox (nox_isX Ts _ _)
  cases d with
  | exn c fs =>
    obtain ⟨a, A, od, rfl, hA, ea, hd, _⟩ := exn_at s1 r1
    have xl := Ext.lay s1 htp (.tup (Bs.map V.ref))
    refine ⟨a, A, tp, od, Bs.map V.ref, Bs.map Value.ref, Ts.any fun T => xIs c T, rfl, upd_same, tupN_cls t, by rw [upd_ne (ne_of_none ea htp)]; exact ea, fun d hd' => ?_, hK ▸ (tab.ex c A hA).ex, hK ▸ tupN_kit tab hA t, ?_⟩
    · obtain ⟨gs, hg⟩ := hd d hd'
      exact ⟨gs, by rw [upd_ne (ne_of_none hg htp)]; exact hg⟩
    · exact p1 _ _ _ _ xl (s1.lay htp _) (.bl _)
  | _ => exact False.elim p1
end
end Dn

/-! DenS: sorted(set(texts)), texts made at run time. -/
set_option Elab.async false
set_option linter.all false
set_option maxRecDepth 100000
set_option maxHeartbeats 4000000
namespace Dn
open PySem PySem.Spec PyProof.Rows L2 PySem.Froz

/-! ### texts in order -/
def insT (x : Str) : List Str → List Str
  | [] => [x]
  | y :: l => if x.cps.toList < y.cps.toList then x :: y :: l else y :: insT x l
def srtT : List Str → List Str
  | [] => []
  | x :: l => insT x (srtT l)
def NotA (a b : Str) : Prop := ¬ b.cps.toList < a.cps.toList
theorem insT_perm (x : Str) : ∀ l, (insT x l).Perm (x :: l)
  | [] => .refl _
  | y :: l => by
    unfold insT
    split
    · exact .refl _
    · exact ((insT_perm x l).cons y).trans (.swap x y l)
theorem srtT_perm : ∀ l, (srtT l).Perm l
  | [] => .refl _
  | x :: l => (insT_perm x (srtT l)).trans ((srtT_perm l).cons x)
theorem nat_lt_tri : ∀ a b : List Nat, ¬ a < b → ¬ b < a → a = b
  | [], [], _, _ => rfl
  | [], _ :: _, h, _ => absurd (List.Lex.nil) h
  | _ :: _, [], _, h => absurd (List.Lex.nil) h
  | x :: a, y :: b, h, g => by
    have e : x = y := by
      rcases Nat.lt_trichotomy x y with c | c | c
      · exact absurd (List.Lex.rel c) h
      · exact c
      · exact absurd (List.Lex.rel c) g
    subst e
    rw [nat_lt_tri a b (fun z => h (List.Lex.cons z)) (fun z => g (List.Lex.cons z))]
theorem NotA.trans {a b c : Str} (h : NotA a b) (g : NotA b c) : NotA a c := fun z => by
  have q1 : b.cps.toList ≤ c.cps.toList := g
  have q2 : a.cps.toList ≤ b.cps.toList := h
  exact absurd z (show ¬ (c.cps.toList < a.cps.toList) from List.not_lt.mpr (List.le_trans q2 q1))
theorem NotA.anti {a b : Str} (h : NotA a b) (g : NotA b a) : a = b := by
  have e := nat_lt_tri _ _ g h
  obtain ⟨⟨x⟩⟩ := a
  obtain ⟨⟨y⟩⟩ := b
  have e : x = y := e
  rw [e]
theorem insT_pw {x : Str} : ∀ {l : List Str}, l.Pairwise NotA → (insT x l).Pairwise NotA
  | [], _ => List.pairwise_singleton _ _
  | y :: l, h => by
    obtain ⟨h1, h2⟩ := List.pairwise_cons.mp h
    unfold insT
    split
    · rename_i c
      have cy : NotA x y := fun z => List.lt_asymm c z
      exact List.pairwise_cons.mpr ⟨fun z hz => by
        rcases List.mem_cons.mp hz with e | e
        · rw [e]; exact cy
        · exact cy.trans (h1 z e), h⟩
    · rename_i c
      refine List.pairwise_cons.mpr ⟨fun z hz => ?_, insT_pw h2⟩
      rcases List.mem_cons.mp ((insT_perm x l).mem_iff.mp hz) with e | e
      · rw [e]; exact c
      · exact h1 z e
theorem srtT_pw : ∀ l, (srtT l).Pairwise NotA
  | [] => List.Pairwise.nil
  | x :: l => insT_pw (srtT_pw l)
theorem srtT_uniq : ∀ {a b : List Str}, a.Perm b → a.Pairwise NotA → b.Pairwise NotA → a = b
  | [], b, p, _, _ => (List.Perm.nil_eq p)
  | x :: a, [], p, _, _ => absurd p.length_eq (by simp)
  | x :: a, y :: b, p, h, g => by
    obtain ⟨h1, h2⟩ := List.pairwise_cons.mp h
    obtain ⟨g1, g2⟩ := List.pairwise_cons.mp g
    have e : x = y := by
      rcases List.mem_cons.mp (p.mem_iff.mp List.mem_cons_self) with c | c
      · exact c
      · rcases List.mem_cons.mp (p.mem_iff.mpr (List.mem_cons_self (a := y))) with d | d
        · exact d.symm
        · exact (h1 y d).anti (g1 x c)
    subst e
    rw [srtT_uniq ((List.perm_cons x).mp p) h2 g2]
theorem rising_pw : ∀ {l : List Str} {p : Str}, risingS p l = true → (∀ y ∈ l, NotA p y) ∧ l.Pairwise NotA
  | [], _, _ => ⟨(fun _ h => nomatch h), List.Pairwise.nil⟩
  | x :: r, p, h => by
    have h' : (!ltCps x.cps.toList p.cps.toList && risingS x r) = true := h
    simp only [Bool.and_eq_true, Bool.not_eq_true'] at h'
    obtain ⟨a, b⟩ := h'
    obtain ⟨c, d⟩ := rising_pw b
    rw [ltCps_eq] at a
    have a' : NotA p x := of_decide_eq_false a
    refine ⟨fun y hy => ?_, List.pairwise_cons.mpr ⟨c, d⟩⟩
    rcases List.mem_cons.mp hy with e | e
    · rw [e]; exact a'
    · exact a'.trans (c y e)
theorem sorted_pw : ∀ {l : List Str}, sortedS l = true → l.Pairwise NotA
  | [], _ => List.Pairwise.nil
  | x :: r, h => by
    obtain ⟨c, d⟩ := rising_pw (show risingS x r = true from h)
    exact List.pairwise_cons.mpr ⟨c, d⟩
theorem srtT_of {a b : List Str} (p : a.Perm b) (h : sortedS a = true) : a = srtT b := srtT_uniq (p.trans (srtT_perm b).symm) (sorted_pw h) (srtT_pw b)
/-- each text once -/
def ddG (σ : List Str) : List Str → List Str
  | [] => σ
  | x :: l => ddG (if x ∈ σ then σ else x :: σ) l
def ddT (l : List Str) : List Str := ddG [] l
theorem ddG_mem : ∀ (l σ : List Str) (k : Str), k ∈ ddG σ l ↔ k ∈ σ ∨ k ∈ l
  | [], σ, k => by simp [ddG]
  | x :: l, σ, k => by
    unfold ddG
    rw [ddG_mem l]
    split
    · rename_i c
      constructor
      · rintro (h | h)
        · exact .inl h
        · exact .inr (List.mem_cons_of_mem _ h)
      · rintro (h | h)
        · exact .inl h
        · rcases List.mem_cons.mp h with e | e
          · rw [e]; exact .inl c
          · exact .inr e
    · simp only [List.mem_cons]
      constructor
      · rintro ((h | h) | h)
        · exact .inr (.inl h)
        · exact .inl h
        · exact .inr (.inr h)
      · rintro (h | h | h)
        · exact .inl (.inr h)
        · exact .inl (.inl h)
        · exact .inr h
theorem ddT_mem {l : List Str} {k : Str} : k ∈ ddT l ↔ k ∈ l := by
  rw [ddT, ddG_mem]
  simp
theorem ddG_nodup : ∀ (l σ : List Str), σ.Nodup → (ddG σ l).Nodup
  | [], σ, h => h
  | x :: l, σ, h => by
    unfold ddG
    split
    · exact ddG_nodup l σ h
    · rename_i c
      exact ddG_nodup l _ (List.nodup_cons.mpr ⟨c, h⟩)
theorem ddT_nodup (l : List Str) : (ddT l).Nodup := ddG_nodup l [] List.nodup_nil
theorem ddG_len : ∀ (l σ : List Str), (ddG σ l).length ≤ σ.length + l.length
  | [], σ => by simp [ddG]
  | x :: l, σ => by
    unfold ddG
    refine Nat.le_trans (ddG_len l _) ?_
    split <;> simp only [List.length_cons] <;> omega
theorem ddT_len (l : List Str) : (ddT l).length ≤ l.length := by
  have := ddG_len l []
  simpa [ddT] using this
/-- sorted(set(l)) -/
def bSSet : FM := fun ds h => match ds with
  | [d] => match lsOf h d with
    | some l => match strsOf l with
      | some ws => if ws.length < 4095 then .ok (.lst ((srtT (ddT ws)).map D.str)) h else .err
      | none => .err
    | none => .err
  | _ => .err
theorem nox_bSSet : ∀ a h, NoX (bSSet a h) := by intro a h e g; unfold bSSet; repeat' split
                                                 all_goals simp

/-! ### the set's table keeps its order -/
structure TxK (w : World) (D : SD) : Prop where
  ris : Ris D.2.2.place.toList
  led : w.params.followText "set-order" = true ∨ D.2.2.led = true
theorem TxK.tail {w : World} {ep : Nat} {es : Array (Int × Value)} {t : SetTable} {b : Bool} (r : Ris t.place.toList) (l : w.params.followText "set-order" = true ∨ t.led = true) : TxK w (tailTx ep es t b) := by
  unfold tailTx
  by_cases c : (!b && t.tooFull) = true
  · rw [if_pos c]
    exact ⟨relayAll_ris _ _ _, by rw [relayAll_led]; exact l⟩
  · rw [if_neg c]
    exact ⟨r, l⟩
theorem TxK.add {w : World} {D : SD} {h : Int} {v : Value} (x : TxK w D) : TxK w (addTx h v D) := by
  obtain ⟨es, ep, t⟩ := D
  obtain ⟨r, l⟩ := x
  have r1 := layNew_ris t es h v r
  have l1 : w.params.followText "set-order" = true ∨ (layNew t es h v).2.1.led = true := by rw [layNew_led]; exact l
  unfold addTx
  refine TxK.tail ?_ ?_
  · split <;> exact r1
  · split <;> exact l1

section
variable {P : Program} {w : World} {A : Around} {E : Value → Shared → Prop} {s : Shared}
/-- a text that is there already -/
theorem add_old {a : Addr} {D : SD} {l : List Str} {k : Str} {u : Tok} {Q : Bool → Shared → Prop} (ho : s.heap.get? a = some (sObj "set" D)) (F : TxOk P w D l) (hk : k ∈ l) (hb : l.length < scanBound)
    (h : Q false s) : wpAny (model P w) A (setAddHashed a (.str k u) (hashStr w k)) Q E s := by
  obtain ⟨es, ep, t⟩ := D
  have hfit : t.fits es.size = true := F.fit
  have hall : ElemsOf (strKind P w) es.toList := F.el
  have hn : es.size = l.length := F.sz
  have hbs : es.size < scanBound := by rw [hn]; exact hb
  have hkk := is_str (P := P) (w := w) k u
  obtain ⟨e0, he0, hi0⟩ := (F.mem k).mp hk
  unfold setAddHashed setAddHashedIn
  refine wpAny_holding (wpAny_bind (wpAny_setState_of ho (show (sObj "set" (es, ep, t)).data = .set es ep t from rfl) hfit ?_))
  dsimp only
  rw [byScan_of (show (Value.str k u).scannable = true from rfl) hbs hall]
  simp only [↓reduceIte]
  unfold setAddByScan
  refine wpAny_bind (wpAny_bind (wpAny_rule ?_))
  refine wpAny_bind (wpAny_setScan_of (knd := strKind P w) (k := k) hkk ho (show (sObj "set" (es, ep, t)).data = .set es ep t from rfl) hfit hall ?_)
  cases hq : List.findIdx? (fun e => (strKind P w).is k e.2) es.toList with
  | some j => exact wpAny_pure (wpAny_pure h)
  | none =>
    have c := List.findIdx?_eq_none_iff.mp hq e0 he0
    rw [hi0] at c
    cases c

/-! ### set(l) of a list of texts -/
def fmT (val : Nat → Str) (i : Nat) : List Str := ddT ((List.range i).map val)
theorem ddG_snoc : ∀ (l σ : List Str) (x : Str), ddG σ (l ++ [x]) = if x ∈ ddG σ l then ddG σ l else x :: ddG σ l
  | [], σ, x => rfl
  | y :: l, σ, x => ddG_snoc l _ x
theorem fmT_succ (val : Nat → Str) (i : Nat) : fmT val (i + 1) = if val i ∈ fmT val i then fmT val i else val i :: fmT val i := by
  unfold fmT ddT
  rw [List.range_succ, List.map_append]
  exact ddG_snoc _ _ _
theorem fmT_len (val : Nat → Str) (i : Nat) : (fmT val i).length ≤ i := by
  have := ddT_len ((List.range i).map val)
  simpa [fmT] using this
/-- the set at a holds the texts l -/
def SetSt (P : Program) (w : World) (h : Heap) (a : Addr) (l : List Str) : Prop := ∃ D, h.get? a = some (sObj "set" D) ∧ TxOk P w D l ∧ TxK w D
theorem SetSt.at {P : Program} {w : World} {h h' : Heap} {a : Addr} {l : List Str} (x : SetSt P w h a l) (k : ∀ o, h.get? a = some o → h'.get? a = some o) : SetSt P w h' a l := by
  obtain ⟨D, h1, r⟩ := x
  exact ⟨D, k _ h1, r⟩
theorem strs_at : ∀ {vs : List Value} {ws : List Str}, StrsAre vs ws → ∀ (i : Nat) (v : Value), vs[i]? = some v → ∃ t, v = .str (ws.getD i default) t
  | _, _, .nil, i, v, e => by simp at e
  | _, _, .cons y t r, 0, v, e => ⟨t, (Option.some.inj e).symm⟩
  | _, _, .cons y t r, i + 1, v, e => strs_at r i v (by simpa using e)
theorem getD_range (ws : List Str) : (List.range ws.length).map (fun i => ws.getD i default) = ws := by
  apply List.ext_getElem
  · simp
  · intro i h1 h2
    simp only [List.getElem_map, List.getElem_range]
    rw [List.getD_eq_getElem?_getD, List.getElem?_eq_getElem h2]
    rfl
theorem loop_setT {R : Result → Shared → Prop} {I : Addr} {fp wr : List Addr} {G : Array GenState → Array GenState → Prop} {n : Nat} {Pv : Nat → Value → Prop} {St : Nat → Shared → Prop} (W : WalksS P w A.in1 I fp wr G n Pv St) {S : Addr} (hS : S ∉ fp)
    {val : Nat → Str} (hv : ∀ i v, Pv i v → ∃ t, v = .str (val i) t) (hb : n + 1 < scanBound) : ∀ (k i : Nat) (s : Shared), n - i = k → i ≤ n → St i s → SetSt P w s.heap S (fmT val i) →
      (∀ s', Moved (S :: wr) G s s' → SetSt P w s'.heap S (fmT val n) → R (.ok (.ret .none)) s') → codeAny (model P w) A (.builtin "set.update.loop" ⟨[.ref S, .ref I], []⟩) R s := by
  have hw : S ∉ wr := fun z => hS (W.sub _ z)
  intro k
  induction k with
  | zero =>
    intro i s e hi st hs hR
    have hin : i = n := by omega
    subst hin
    refine codeAny_builtin F.entry_set_update_loop ?_
    rw [Around.under_plainId F.plain_set_update_loop _]
    show wpAny _ A.in1 (pyNext (.ref I) >>= _) _ _ s
    refine wpAny_bind (W.done s _ _ st fun s' mv => wpAny_pure (hR s' (mv.mono fun b z => List.mem_cons_of_mem _ z) (hs.at fun o q => mv.heap S o hw q)))
  | succ k ih =>
    intro i s e hi st hs hR
    have hlt : i < n := by omega
    refine codeAny_builtin F.entry_set_update_loop ?_
    rw [Around.under_plainId F.plain_set_update_loop _]
    show wpAny _ A.in1 (pyNext (.ref I) >>= _) _ _ s
    refine wpAny_bind (W.item i s _ _ hlt st fun v s1 hp st1 mv => ?_)
    obtain ⟨t, rfl⟩ := hv i v hp
    obtain ⟨D, hD, TF, TK⟩ := hs.at (h' := s1.heap) fun o q => mv.heap S o hw q
    have mv' := mv.mono (wr' := S :: wr) fun b z => List.mem_cons_of_mem _ z
    show wpAny _ A.in1 (holding [Value.str (val i) t] (setAdd S (.str (val i) t)) >>= _) _ _ s1
    refine wpAny_bind (wpAny_holding ?_)
    unfold setAdd
    refine wpAny_holding (wpAny_bind ((strKind P w).pyHash (is_str (val i) t) ?_))
    have hl := fmT_len val i
    by_cases c : val i ∈ fmT val i
    · refine add_old (s := { s1 with toks := s1.toks + 1 }) hD TF c (by omega) ?_
      have e2 : fmT val (i + 1) = fmT val i := by rw [fmT_succ, if_pos c]
      refine wpAny_pure ⟨plainId_quiet F.plain_set_update_loop _, ih (i + 1) _ (by omega) hlt (W.frame _ s1 s1.heap _ st1 (Nat.le_succ _) fun b _ o q => q) (by rw [e2]; exact ⟨D, hD, TF, TK⟩) fun s2 mv2 h2 => ?_⟩
      exact hR s2 (Moved.trans W.gtrans (mv'.then_heap (h' := s1.heap) (Nat.le_succ _) fun b o _ q => q) mv2) h2
    · refine add_x (s := { s1 with toks := s1.toks + 1 }) hD TF c (by omega) ?_
      have e2 : fmT val (i + 1) = val i :: fmT val i := by rw [fmT_succ, if_neg c]
      have oth : ∀ b o, b ≠ S → s1.heap.get? b = some o → (s1.heap.update S (fun _ => sObj "set" (addTx (hashStr w (val i)) (.str (val i) t) D))).get? b = some o := fun b o hbS q => (Heap.get?_update_other _ _ (Ne.symm hbS)).trans q
      refine wpAny_pure ⟨plainId_quiet F.plain_set_update_loop _, ih (i + 1) _ (by omega) hlt (W.frame _ s1 _ _ st1 (Nat.le_succ _) fun b hbf o q => oth b o (fun z => hS (z ▸ hbf)) q) (by rw [e2]; exact ⟨_, get_upd _ hD rfl, add_ok t TF, TK.add⟩) fun s2 mv2 h2 => ?_⟩
      exact hR s2 (Moved.trans W.gtrans (mv'.then_heap (Nat.le_succ _) fun b o hbn q => oth b o (fun z => hbn (by rw [z]; exact List.mem_cons_self)) q) mv2) h2
/-- an empty set -/
def emptyS (w : World) : Obj := sObj "set" (#[], 0, .fresh 0 0 (!w.params.followText "set-order"))
theorem emptyS_ok {h : Heap} {a : Addr} (e : h.get? a = some (emptyS w)) : SetSt P w h a [] := by
  refine ⟨_, e, TxOk.nil (by rfl), ⟨List.Pairwise.nil, ?_⟩⟩
  show _ ∨ (!w.params.followText "set-order") = true
  cases w.params.followText "set-order"
  · exact .inr rfl
  · exact .inl rfl
theorem code_newT (a : Value) {Q₁ : Value → Shared → Prop} (h : Q₁ (.ref s.heap.objs.size) { s with heap := s.heap.push (emptyS w) }) : codeAny (model P w) A (.call (.builtin "set.__new__") ⟨[.type "set", a], []⟩) (wants Q₁ E) s := by
  refine codeAny_of_tree (show wpAny _ A.in1 (do checkBuiltinCall "set.__new__" ⟨[.type "set", a], []⟩; again (.builtin "set.__new__" ⟨[.type "set", a], []⟩)) _ _ s from wpAny_bind (wpAny_of_eq (F.newCall_set_1 a) (wpAny_pure ⟨plainId_quiet F.plain_set_new _, codeAny_builtin F.entry_set_new ?_⟩)))
  rw [Around.under_plainId F.plain_set_new _]; unfold Builtin.«set.__new__» Builtin.Frozenset.newClass
  have hsub := sub_set_self
  obtain ⟨hp, g, d, tk, os⟩ := s
  dsimp only; wp_walk
  refine wpAny_askSetting (wpAny_pure ?_); dsimp only
  simp only [newObj]; exact wpAny_bind (wpAny_alloc (wpAny_pure (wpAny_pure h)))
theorem call_setT {l : Addr} {items : Array Value} {ws : List Str} {Q : Value → Shared → Prop} (hh : A.handled = none) (hl : s.heap.IsList l items) (hi : StrsAre items.toList ws) (hb : items.size + 1 < scanBound)
    (h : ∀ (h' : Heap) (tk : Nat), SetSt P w h' s.heap.objs.size (ddT ws) → (∀ b o, s.heap.get? b = some o → h'.get? b = some o) → Q (.ref s.heap.objs.size) { s with heap := h', toks := tk }) :
    wpAny (model P w) A (call (.type "set") [.ref l]) Q E s := by
  obtain ⟨c, tl, hmro⟩ := F.called_set.mro
  have hmade := F.called_set.made; have hsub := F.called_set.sub
  refine wpAny_call (codeAny_of_tree (show wpAny _ _ (callAny (.type "set") _) _ _ _ from wpAny_pure ⟨Code.quiet_builtin _ (by decide +kernel), codeAny_builtin F.entry_type_call ?_⟩))
  rw [Around.under_plain (weight_type_call_type "set" [.ref l] []) rfl]
  have h1 := F.called_set.notType; have h2 := F.called_set.canCreate
  have hct := F.typeCall_set_1 (.ref l)
  repeat (any_goals (first | assumption | wp_step))
  refine codeAny_mono (code_newT (.ref l) (E := E) (Q₁ := fun obj s₁ => obj = .ref s.heap.objs.size ∧ s₁ = { s with heap := s.heap.push (emptyS w) }) ⟨rfl, rfl⟩) fun r s₁ hr => ?_
  cases r with
  | error e => exact hr
  | ok fl =>
    cases fl with
    | ret obj =>
      obtain ⟨rfl, rfl⟩ := hr
      have hS : (s.heap.push (emptyS w)).get? s.heap.objs.size = some (emptyS w) := Heap.get?_push_size _ rfl
      have hT : Shared.TypeIs { s with heap := s.heap.push (emptyS w) } (.ref s.heap.objs.size) "set" := ⟨_, hS, rfl⟩
      have hli := F.called_set.init.lookup; have hbi := F.called_set.init.bind (.ref s.heap.objs.size)
      repeat (any_goals (first | assumption | wp_step))
      refine codeAny_mono (codeAny_call_builtin (R := wants (fun r s₂ => r = .none ∧ ∃ h' tk, s₂ = { s with heap := h', toks := tk } ∧ SetSt P w h' s.heap.objs.size (ddT ws) ∧ ∀ b o, s.heap.get? b = some o → h'.get? b = some o) E) F.called_set.init.plain F.entry_set_init (check_set_init_1 hT ?_)) fun r₂ s₂ hr₂ => ?_
      · obtain ⟨ol, hol, hcl, nl, hdl⟩ := hl
        obtain ⟨ocls, odict, odata, oslots⟩ := ol
        simp only at hcl hdl; subst hcl hdl
        have hol' : (s.heap.push (emptyS w)).get? l = some { cls := .type "list", dict := odict, data := .seq items nl, slots := oslots } := Heap.get?_push_of_some _ hol
        have hsls := F.sub_list_set; have hslf := F.sub_list_frozenset
        have hne : (Value.type "list" == Value.type "dict") = false := by decide
        have hl1 : (s.heap.push (emptyS w)).IsList l items := ⟨_, hol', rfl, nl, rfl⟩
        unfold Builtin.«set.__init__» noKeywords Builtin.Frozenset.updateFrom
        generalize hPI : pyIter = PI
        wp_walk; subst hPI
        refine wpAny_pyIter_list hl1 (wpAny_bind (wpAny_runValue ?_))
        have hlS : l < s.heap.objs.size := Heap.lt_size hol
        have hz : (s.heap.push (emptyS w)).objs.size = s.heap.objs.size + 1 := size_push' _ _
        have hneI : l ≠ (s.heap.push (emptyS w)).objs.size := by rw [hz]; exact Nat.ne_of_lt (Nat.lt_succ_of_lt hlS)
        have hSf : s.heap.objs.size ∉ [(s.heap.push (emptyS w)).objs.size, l] := by
          rw [hz]; intro z; rcases List.mem_cons.mp z with z | z
          · exact Nat.ne_of_lt (Nat.lt_succ_self _) z
          · exact Nat.ne_of_gt hlS (List.mem_singleton.mp z)
        have hlen : ws.length = items.size := by rw [← hi.length]; simp
        refine loop_setT ((Walks.list (by simp [hh]) _ l hneI items).toS) (S := s.heap.objs.size) hSf (val := fun i => ws.getD i default) (fun i v q => strs_at hi i v (by rw [Array.getElem?_toList]; exact q)) hb (items.size - 0) 0 _ (by omega) (Nat.zero_le _)
          ⟨⟨_, Heap.get?_push_size _ rfl, rfl, rfl⟩, (hl1.push _)⟩ (emptyS_ok (Heap.get?_push_of_some _ hS)) fun s' hm hset => ?_
        obtain ⟨h', g', d', tk', os'⟩ := s'
        have eg : g' = s.gens := hm.gens; have ed : d' = s.drawn := hm.drawn; have eo : os' = s.os := hm.os
        subst eg; subst ed; subst eo
        refine (show wpAny _ _ _ _ _ _ from wpAny_pure ?_)
        refine (show wpAny _ _ (ret Value.none) _ _ _ from wpAny_pure ⟨rfl, h', tk', rfl, ?_, fun b o e => ?_⟩)
        · have q : fmT (fun i => ws.getD i default) items.size = ddT ws := by unfold fmT; rw [← hlen, getD_range]
          rw [← q]; exact hset
        · have hb0 := Heap.lt_size e
          refine hm.heap b o (fun z => ?_) (Heap.get?_push_of_some _ (Heap.get?_push_of_some _ e))
          rcases List.mem_cons.mp z with z | z
          · exact Nat.ne_of_lt hb0 z
          · exact Nat.ne_of_lt (Nat.lt_succ_of_lt hb0) ((List.mem_singleton.mp z).trans hz)
      · cases r₂ with
        | error e => exact hr₂
        | ok fl₂ =>
          cases fl₂ with
          | ret r =>
            obtain ⟨rfl, h', tk, rfl, hS', hk'⟩ := hr₂
            repeat (any_goals (first | assumption | wp_step))
            exact h _ _ hS' hk'
          | _ => exact hr₂.elim
    | _ => exact hr.elim
end

/-! ### sorted(set) -/
theorem perm_of_sub : ∀ {l m : List Str}, l.Nodup → (∀ x ∈ l, x ∈ m) → m.length ≤ l.length → m.Perm l
  | [], m, _, _, h => by
    have e : m = [] := List.eq_nil_of_length_eq_zero (by simpa using h)
    rw [e]
  | x :: l, m, nd, sb, h => by
    obtain ⟨n1, n2⟩ := List.nodup_cons.mp nd
    obtain ⟨a, b, e⟩ := List.append_of_mem (sb x List.mem_cons_self)
    subst e
    have p1 : (a ++ x :: b).Perm (x :: (a ++ b)) := List.perm_middle
    refine p1.trans ((perm_of_sub n2 (fun y hy => ?_) ?_).cons x)
    · have q := sb y (List.mem_cons_of_mem _ hy)
      rcases List.mem_append.mp q with z | z
      · exact List.mem_append_left _ z
      · rcases List.mem_cons.mp z with z | z
        · exact absurd (z ▸ hy) n1
        · exact List.mem_append_right _ z
    · simp only [List.length_append, List.length_cons] at h ⊢
      omega
def txV : Value → Str
  | .str x _ => x
  | _ => default
theorem txV_are : ∀ {vs : List Value}, (∀ v ∈ vs, ∃ x t, v = Value.str x t) → StrsAre vs (vs.map txV)
  | [], _ => .nil
  | v :: vs, h => by
    obtain ⟨x, t, e⟩ := h v List.mem_cons_self
    subst e
    exact .cons x t (txV_are fun u hu => h u (List.mem_cons_of_mem _ hu))
section
variable {P : Program} {w : World} {A : Around} {E : Value → Shared → Prop} {s : Shared}
theorem sorted_setT {a : Addr} {l : List Str} {Q : Value → Shared → Prop} (R : SetSt P w s.heap a l) (nd : l.Nodup) (hh : A.handled = none) (hb : l.length < scanBound)
    (hQ : ∀ s' p (out : Array Value) (c : Nat) (ns : List Str), (∀ b o, s.heap.get? b = some o → s'.heap.get? b = some o) → s'.gens = s.gens → s'.os = s.os → s.heap.objs.size ≤ p →
      s'.heap.get? p = some (seqObj "list" out c) → StrsAre out.toList ns → ns.Perm l → sortedS ns = true → Q (.ref p) s') : wpAny (model P w) A (call (.builtin "sorted") [.ref a]) Q E s := by
  obtain ⟨⟨es, ep, t⟩, hD, TF, TK⟩ := R
  have hall : ElemsOf (strKind P w) es.toList := TF.el
  have hmem : ∀ k : Str, k ∈ l ↔ ∃ e ∈ es.toList, (strKind P w).is k e.2 = true := TF.mem
  have hn : es.size = l.length := TF.sz
  have hsl : es.size ≤ sizeLine := fits_of_scanBound (by rw [hn]; exact hb)
  refine Calls.call_function_entry kind_sorted plain_sorted entry_sorted (args_sorted1 _) ?_
  unfold Builtin.«sorted»; refine wpAny_bind (m := checkCount "sorted" 1 1 _) (wpAny_pure ?_)
  refine wpAny_bind (collect_set (A := A.in1) hh ⟨_, hD, rfl, rfl⟩ TF.fit (by rw [hn]; exact hb) TK.ris TK.led fun s1 vs k1 hz g1 o1 pm => ?_)
  have hvl : vs.length = l.length := by rw [pm.length_eq, List.length_map, Array.length_toList]; exact hn
  have shp : ∀ v ∈ vs, ∃ x u, v = Value.str x u := fun v hv => by
    obtain ⟨e, he, q⟩ := List.mem_map.mp (pm.mem_iff.mp hv)
    obtain ⟨⟨k, hk, _⟩, _⟩ := hall e he
    obtain ⟨u, hu⟩ := Value.isStrOf_shape hk
    exact ⟨k, u, by rw [← q]; exact hu⟩
  have hI := txV_are shp
  have pk : (vs.map txV).Perm l := by
    refine perm_of_sub nd (fun x hx => ?_) (by rw [List.length_map, hvl]; exact Nat.le_refl _)
    obtain ⟨e, he, hi⟩ := (hmem x).mp hx
    obtain ⟨u, hu⟩ := Value.isStrOf_shape hi
    have q : e.2 ∈ vs := pm.mem_iff.mpr (List.mem_map_of_mem he)
    exact List.mem_map.mpr ⟨e.2, q, by rw [hu]; rfl⟩
  refine wpAny_bind (wpAny_newList ?_ (by rw [hvl, ← hn]; exact hsl))
  have hoL : (s1.heap.push (seqObj "list" vs.toArray 0)).get? s1.heap.objs.size = some (seqObj "list" vs.toArray 0) := Heap.get?_push_size _ rfl
  refine wpAny_bind (wpAny_holding (wpAny_call_entry slot_list_sort ⟨_, hoL, rfl⟩ entry_list_sort (list_sort_treeKAny strKind_oneLt hoL hI.keysOf (fun v1 v2 rest e => keyKind_strs (by rw [← e]; exact hI)) (by rw [hvl, ← hn]; exact hsl) fun st' hp hs => ?_) (args_list_sort _)))
  obtain ⟨ns, h1, h2, h3⟩ := sorted_out_str hI hp hs
  obtain ⟨c, hc⟩ := sortedHeap_at (vs := vs) (out := (arrOf st').map (·.2)) hoL
  refine ⟨_, rfl, wpAny_pure ⟨_, rfl, hQ _ s1.heap.objs.size _ c ns (fun b u e => ?_) g1 o1 hz hc h1 (h2.trans pk) h3⟩⟩
  have q := k1 b u e
  have hlt := Heap.lt_size q
  show (sortedHeap (s1.heap.push (seqObj "list" vs.toArray 0)) s1.heap.objs.size vs _).get? b = some u
  rw [sortedHeap_old (Nat.ne_of_lt hlt) (by rw [size_push']; exact Nat.lt_succ_of_lt hlt)]; exact Heap.get?_push_of_some _ q
end
def SetTO (P : Program) (w : World) (a : Addr) (l : List Str) : HO := .ext fun h => SetSt P w h a l
section
variable {X : Cx} {C : Cn} {E : WX}
theorem setTO_new {w : World} {P : Program} {H : Hp} {h : Heap} {a : Addr} {l : List Str} (R : SetSt P w h a l) : ObjOk P w H h a (SetTO P w a l) :=
  ⟨R, R.elim fun D r => ⟨_, r.1⟩, fun _ _ p k => SetSt.at p k⟩
def rSetT (X : Cx) : List V → Hp → VK → Prop := fun xs H Q => ∃ (a : Addr) (ws : List Str), xs = [V.ref a] ∧ H a = some (.lst (ws.map V.str)) ∧ ws.length < 4095 ∧ ∀ p, H p = none → Q (.ref p) (upd H p (SetTO X.prog X.w p (ddT ws)))
theorem cr_setT (hc : X.calm = true) : CallR X (.type "set") (rSetT X) := by
  intro pins s σ H xs us Q I r ⟨a, ws, e, ha, hlen, q⟩
  subst e
  obtain ⟨its, rv, hl, _⟩ := I.list (.inl (.inl ha))
  rw [Vals.ref1 r]
  have hS := rv.strs
  have hn : its.length = ws.length := by have := rv.length; rw [List.length_map] at this; exact this.symm
  refine call_setT (I.ok.hd hc) hl.isList (by simpa using hS) (by rw [List.size_toArray, hn]; show _ < 4096; omega) fun h' tk hs k => ?_
  exact ⟨.ref s.heap.objs.size, _, I.laid (t' := tk) k (Nat.le_refl _) (setTO_new hs), rfl, q _ (I.hok.fresh (Nat.le_refl _))⟩
def rSrtT (X : Cx) : List V → Hp → VK → Prop := fun xs H Q => ∃ (a : Addr) (l : List Str), xs = [V.ref a] ∧ H a = some (SetTO X.prog X.w a l) ∧ l.Nodup ∧ l.length < 4096 ∧
  ∀ (ns : List Str) (p : Addr), ns.Perm l → sortedS ns = true → H p = none → Q (.ref p) (upd H p (.lst (ns.map V.str)))
theorem cr_sortT (hc : X.calm = true) : CallR X (.builtin "sorted") (rSrtT X) := by
  intro pins s σ H xs us Q I r ⟨a, l, e, ha, nd, hb, q⟩
  subst e
  rw [Vals.ref1 r]
  refine sorted_setT ((I.hok a _ ha).1) nd (I.ok.hd hc) hb fun s' p out c ns k g o hp hg hi pm hs => ?_
  have hlen : (ns.map V.str).length ≤ sizeLine := by rw [List.length_map, pm.length_eq, sizeLine_eq]; omega
  have hn : H p = none := I.hok.fresh hp
  have J : Inv X pins σ (upd H p (.lst (ns.map V.str))) { s with heap := s'.heap, gens := s'.gens, drawn := s'.drawn, toks := s'.toks } :=
    I.call (ch := []) (Un.laid k hp hn) (I.hok.laid k hp ⟨hlen, out.toList, c, vals_of_strs hi, hg⟩) (by rw [g]; exact I.bare) (fun _ z => nomatch z)
  have e : s' = { s with heap := s'.heap, gens := s'.gens, drawn := s'.drawn, toks := s'.toks } := by
    cases s'; cases s; cases o; rfl
  rw [e]
  exact ⟨.ref p, _, J, rfl, q ns p pm hs hn⟩
theorem repS_rep {Z : Hp} {m : List Addr} : ∀ ns : List Str, RepL C Z m (ns.map D.str) (ns.map V.str)
  | [] => .nil
  | n :: ns => .cons (.str n) (repS_rep ns)
theorem sset_den {xs : List V} {H : Hp} {Q : VK} (r : rDF C bSSet xs H Q) : rSetT X xs H fun y H2 => rSrtT X [y] H2 Q := by
  obtain ⟨Z, m, h, ds, sm, rd, p⟩ := r
  unfold bSSet at p
  split at p
  · obtain ⟨x, rfl, rx⟩ := repL_one rd
    split at p
    · rename_i l hl
      obtain ⟨a, vs, rfl, hv, rl⟩ := ls_at sm rx hl
      split at p
      · rename_i ws hws
        have el := strsOf_eq hws
        subst el
        have ev := rl.strs
        subst ev
        split at p
        · rename_i hlen
          refine ⟨a, ws, rfl, hv, hlen, fun b hb => ⟨b, _, rfl, upd_same, ddT_nodup _, Nat.lt_of_le_of_lt (ddT_len ws) (by omega), fun ns q pm hs hq => ?_⟩⟩
          rw [srtT_of pm hs]
          have s1 := sm.lay hb (SetTO X.prog X.w b (ddT ws))
          have x1 := Ext.lay sm hb (SetTO X.prog X.w b (ddT ws))
          have x2 := Ext.lay s1 hq (.lst ((srtT (ddT ws)).map V.str))
          exact p _ _ _ _ (x1.trans x2) (s1.lay hq _) (.lst upd_same (repS_rep _))
        · exact False.elim p
      · exact False.elim p
    · exact False.elim p
  · exact False.elim p
/-- sorted(set(a)), texts -/
theorem de_sset {x y : Str} {p q pos pos2 : Pos} {a : Expr} {fa : EM} (hc : X.calm = true) (hg : Gl X x) (hm : X.mg x = none) (hv : bootBuiltins x = some (.builtin "sorted")) (hg2 : Gl X y) (hm2 : X.mg y = none) (hv2 : bootBuiltins y = some (.type "set")) (ha : PE X a (denE C E fa))
    (hn : x ≠ "__name__" := by decide) (hdb : (x == ("__debug__" : Str)) = false := by decide) (hn2 : y ≠ "__name__" := by decide) (hdb2 : (y == ("__debug__" : Str)) = false := by decide)
    (he : starEach [.Call (.Name y q) [a] [] pos2] X.env = (false, eval (.Call (.Name y q) [a] [] pos2) X.env) :: starEach [] X.env := by rfl) (hpl : (backTo pos (starEach [] X.env)).any (·.1) = false := by rfl)
    (he2 : starEach [a] X.env = (false, eval a X.env) :: starEach [] X.env := by rfl) (hpl2 : (backTo pos2 (starEach [] X.env)).any (·.1) = false := by rfl) :
    PE X (.Call (.Name x p) [.Call (.Name y q) [a] [] pos2] [] pos) (denE C E (eF bSSet (aC fa aN))) := by
  have h1 := pe_callTy (r := rSetT X) (p := q) (pos := pos2) (cr_setT hc) hg2 hm2 hv2 (da_cons ha (da_nil (C := C) (E := E)) he2) hn2 hdb2 he2 hpl2
  have h2 := pe_callB (r := rSrtT X) (p := p) (pos := pos) (cr_sortT hc) hg hm hv (pa_cons h1 pa_nil he) hn hdb he hpl
  exact pe_imp h2 fun σ H Q z => tCB_den (r := fun xs H1 Q => rSetT X xs H1 fun y H2 => rSrtT X [y] H2 Q) (fun _ _ _ z => sset_den z) nox_bSSet z
end
end Dn

/-! DenO: a comprehension that makes a list that may change. -/
set_option Elab.async false
set_option linter.all false
set_option maxRecDepth 100000
set_option maxHeartbeats 4000000
namespace Dn
open PySem PySem.Spec PyProof.Rows L2
def eLcN (own : List Nat) (g : TgM) (w : Ev → Hm → R Wk) (t : TM) (e : EM) : EM := fun v h => (w v h).bind fun k h1 =>
  if k.its.length ≤ 16777215 then (lcL g t e k.chk (wipeE v own) k.its h1).bind fun ys h2 => .ok (.ref h2.length) (h2 ++ [HD.lst ys]) else .err
section
variable {C : Cn} {Z Z1 : Hp} {m m1 : List Addr} {h : Hm} {H H1 : Hp}
theorem Ext.finN {q : Addr} (x : Ext Z m H Z1 m1 H1) (hq : H q = none) : Ext Z m H Z1 (m1 ++ [q]) H1 := by
  refine ⟨x.sub, x.pre.trans (List.prefix_append _ _), x.keep, fun b z => ?_, x.newZ⟩
  rcases List.mem_append.mp z with z | z
  · exact x.newM b z
  · rw [List.mem_singleton.mp z]; exact .inr (fr_none hq)
theorem HSim.finN {q : Addr} {l : List D} {vs : List V} (s : HSim C Z m h H) (n1 : q ∉ m) (n2 : Z q = none) (hv : H q = some (.lst vs)) (r : RepL C Z m l vs) : HSim C Z (m ++ [q]) (h ++ [.lst l]) H := by
  have old : ∀ {n : Nat} {a : Addr}, (m ++ [q])[n]? = some a → (n < m.length ∧ m[n]? = some a) ∨ (n = m.length ∧ a = q) := fun {n a} e => by
    by_cases hn : n < m.length
    · rw [List.getElem?_append_left hn] at e; exact .inl ⟨hn, e⟩
    · rw [List.getElem?_append_right (by omega)] at e
      have hk : n - m.length = 0 := by
        cases hk : n - m.length with
        | zero => rfl
        | succ k => rw [hk] at e; simp at e
      rw [hk] at e; simp at e; exact .inr ⟨by omega, e.symm⟩
  refine ⟨s.sub, by simp [s.len], ?_, fun n a u e1 e2 hdd => ?_, fun n a u e1 e2 => ?_, s.tab, s.noT⟩
  · exact List.nodup_append.mpr ⟨s.nd, by simp, fun a ha b hb z => by rw [List.mem_singleton.mp hb] at z; exact n1 (z ▸ ha)⟩
  · rcases old e1 with ⟨hn, e⟩ | ⟨hn, rfl⟩
    · rw [List.getElem?_append_left (by rw [← s.len]; exact hn)] at e2
      exact s.off n a u e e2 hdd
    · exact n2
  · rcases old e1 with ⟨hn, e⟩ | ⟨hn, rfl⟩
    · rw [List.getElem?_append_left (by rw [← s.len]; exact hn)] at e2
      exact (s.obj n a u e e2).mono (fun _ _ q => q) (List.prefix_append _ _)
    · rw [List.getElem?_append_right (by rw [← s.len, hn]; exact Nat.le_refl _), ← s.len, hn] at e2
      simp at e2; subst e2
      exact ⟨vs, hv, r.mono (fun _ _ z => z) (List.prefix_append _ _)⟩
end
section
variable {X : Cx} {C : Cn} {E : WX} {pos : Pos}
theorem tLcN_den {wi : TI} {t : TG} {tt : TT} {te : TE} {own : List Nat} {g : TgM} {w : Ev → Hm → R Wk} {ft : TM} {fe : EM} (hw : ∀ σ H Q, denW C E w σ H Q → wi σ H Q) (hg : LcG C g t own) (ht : ∀ σ H Q, denT C EF ft σ H Q → tt σ H Q) (he : ∀ σ H Q, denE C EF fe σ H Q → te σ H Q)
    {σ : L2.St} {H : Hp} {Q : VK} (hq : denE C E (eLcN own g w ft fe) σ H Q) : tLc wi t tt te own σ H Q := by
  obtain ⟨Z, m, v, h, s, e, p⟩ := hq
  refine hw _ _ _ ⟨Z, m, v, h, s, e, ?_⟩
  unfold eLcN at p
  cases q : w v h with
  | exc x h1 => rw [q] at p; exact p
  | err => rw [q] at p; exact p
  | ok k h1 =>
    rw [q] at p
    have p : Post C (Rep C) (fun c d H' => E c d σ H') (if k.its.length ≤ 16777215 then (lcL g ft fe k.chk (wipeE v own) k.its h1).bind fun ys h2 => .ok (.ref h2.length) (h2 ++ [HD.lst ys]) else .err) Z m H Q := p
    intro Zb mb Hb J xb sb ok q0 hD
    have p := Post.from xb p
    split at p
    case isFalse => exact False.elim p
    rename_i hsz
    have hDm := sb.nm hD
    have hDz := sb.nz hD
    refine ⟨fun i n H2 => n = k.its.length - i ∧ i ≤ k.its.length ∧ ∃ Z2 m2 h2 acc vs, Ext Zb mb Hb Z2 m2 H2 ∧ HSim C Z2 m2 h2 H2 ∧ H2 q0 = some (.lst vs) ∧ RepL C Z2 m2 acc vs ∧ q0 ∉ m2 ∧ Z2 q0 = none ∧ acc.length ≤ i ∧
      Post C (Rep C) (fun c d H' => E c d σ H') ((lcL g ft fe k.chk (wipeE v own) (k.its.drop i) h2).bind fun ys h3 => .ok (.ref h3.length) (h3 ++ [HD.lst (acc ++ ys)]) ) Zb mb Hb Q,
      ⟨_, rfl, Nat.zero_le _, Zb, mb, h1, [], [], ⟨fun _ _ z => z, List.prefix_refl _, fun a o z _ _ => by rw [upd_ne (fun y => by subst y; rw [hD] at z; cases z)]; exact z, fun _ z => .inl z, fun _ z => .inl z⟩, sb.side _ hDm hDz (fun u z => by rw [hD] at z; cases z), upd_same, .nil, hDm, hDz, Nat.le_refl _, p⟩, ?_⟩
    rintro i n H2 ⟨rfl, hi, Z2, m2, h2, acc, vs, x2, s2, hv, ra, d1, d2, hal, p2⟩
    have hck : k.chk h2 = true := by
      cases hc : k.chk h2 with
      | true => rfl
      | false =>
        exfalso
        cases hd : k.its.drop i with
        | nil => rw [hd] at p2; simp only [lcL, hc] at p2; exact p2
        | cons d r => rw [hd] at p2; simp only [lcL, hc] at p2; exact p2
    obtain ⟨o1, o2⟩ := ok i Z2 m2 h2 H2 x2.sub x2.pre s2 hck
    by_cases hlt : i < k.its.length
    · obtain ⟨go, y⟩ := o1 hlt
      refine .inr ⟨go, fun H' => i + 1 ≤ k.its.length ∧ ∃ Z2 m2 h2 acc vs, Ext Zb mb Hb Z2 m2 H' ∧ HSim C Z2 m2 h2 H' ∧ H' q0 = some (.lst vs) ∧ RepL C Z2 m2 acc vs ∧ q0 ∉ m2 ∧ Z2 q0 = none ∧ acc.length ≤ i + 1 ∧
        Post C (Rep C) (fun c d H' => E c d σ H') ((lcL g ft fe k.chk (wipeE v own) (k.its.drop (i + 1)) h2).bind fun ys h3 => .ok (.ref h3.length) (h3 ++ [HD.lst (acc ++ ys)]) ) Zb mb Hb Q,
        fun H' z => ⟨_, by omega, rfl, z⟩, fun x H3 yy => ?_⟩
      obtain ⟨d, Z3, hd, x3, s3, r3⟩ := y x H3 yy
      have hdrop : k.its.drop i = d :: k.its.drop (i + 1) := by
        obtain ⟨hl, he⟩ := List.getElem?_eq_some_iff.mp hd
        rw [List.drop_eq_getElem_cons hl, he]
      rw [hdrop] at p2
      simp only [lcL, hck, if_true] at p2
      -- q0 is beside all that goes on
      have side : ∀ {Z' : Hp} {m' : List Addr} {H' : Hp}, Ext Z2 m2 H2 Z' m' H' → q0 ∉ m' ∧ Z' q0 = none ∧ H' q0 = some (.lst vs) := fun {Z' m' H'} x => by
        refine ⟨fun z => ?_, ?_, x.keep q0 _ hv d1 (fun _ z => by cases z)⟩
        · rcases x.newM q0 z with a | a
          · exact d1 a
          · exact fr_lst a hv
        · cases q : Z' q0 with
          | none => rfl
          | some u =>
            rcases x.newZ q0 (by rw [q]; simp) with a | a | a
            · exact absurd d2 a
            · exact absurd a d1
            · exact (fr_lst a hv).elim
      cases qg : g d (wipeE v own) h2 with
      | none => rw [qg] at p2; exact False.elim p2
      | some v1 =>
        rw [qg] at p2
        have e0 : EnvR C Z3 m2 (wipeE v own) (wipe σ own) := (((e.mono xb).mono x2).mono x3).wipe own
        refine hg.ok Z3 m2 d x _ v1 h2 _ H3 _ s3.sub r3 e0 qg fun σ1 e1 hw1 => ⟨by rw [hw1, wipe_wipe], ?_⟩
        have p3 : Post C (Rep C) (fun c d H' => E c d σ H') ((ft v1 h2).nx.bind fun c h1 => (if c then (fe v1 h1).nx.bind fun y h2 => (lcL g ft fe k.chk (wipeE v own) (k.its.drop (i + 1)) h2).bind fun ys h3 => .ok (y :: ys) h3 else lcL g ft fe k.chk (wipeE v own) (k.its.drop (i + 1)) h1).bind fun ys h3 => .ok (.ref h3.length) (h3 ++ [HD.lst (acc ++ ys)]) ) Zb mb Hb Q := by
          have : (((ft v1 h2).nx.bind fun c h1 => if c then (fe v1 h1).nx.bind fun y h2 => (lcL g ft fe k.chk (wipeE v own) (k.its.drop (i + 1)) h2).bind fun ys h3 => R.ok (y :: ys) h3 else lcL g ft fe k.chk (wipeE v own) (k.its.drop (i + 1)) h1).bind fun ys h3 => R.ok (D.ref h3.length) (h3 ++ [Dn.HD.lst (acc ++ ys)])) = ((ft v1 h2).nx.bind fun c h1 => (if c then (fe v1 h1).nx.bind fun y h2 => (lcL g ft fe k.chk (wipeE v own) (k.its.drop (i + 1)) h2).bind fun ys h3 => R.ok (y :: ys) h3 else lcL g ft fe k.chk (wipeE v own) (k.its.drop (i + 1)) h1).bind fun ys h3 => .ok (.ref h3.length) (h3 ++ [HD.lst (acc ++ ys)]) ) := by
            cases ft v1 h2 <;> rfl
          rw [← this]; exact p2
        refine ht _ _ _ ⟨Z3, m2, v1, h2, s3, e1, (Post.base (rep1 := RB) p3).imp fun b H4 ⟨Z4, m4, b', h4, x4, s4, r4, p4⟩ => ?_⟩
        cases (show b = b' from r4)
        cases b with
        | false =>
          obtain ⟨t1, t2, t3⟩ := side (x3.trans x4)
          exact ⟨hlt, Z4, m4, h4, acc, vs, x2.trans (x3.trans x4), s4, t3, ra.mono (x3.trans x4).sub (x3.trans x4).pre, t1, t2, by omega, p4⟩
        | true =>
          have p5 : Post C (Rep C) (fun c d H' => E c d σ H') ((fe v1 h4).nx.bind fun y h2 => (lcL g ft fe k.chk (wipeE v own) (k.its.drop (i + 1)) h2).bind fun ys h3 => .ok (.ref h3.length) (h3 ++ [HD.lst ((acc ++ [y]) ++ ys)])) Zb mb Hb Q := by
            have : (((fe v1 h4).nx.bind fun y h2 => (lcL g ft fe k.chk (wipeE v own) (k.its.drop (i + 1)) h2).bind fun ys h3 => R.ok (y :: ys) h3).bind fun ys h3 => R.ok (D.ref h3.length) (h3 ++ [Dn.HD.lst (acc ++ ys)])) = ((fe v1 h4).nx.bind fun y h2 => (lcL g ft fe k.chk (wipeE v own) (k.its.drop (i + 1)) h2).bind fun ys h3 => .ok (.ref h3.length) (h3 ++ [HD.lst ((acc ++ [y]) ++ ys)])) := by
              cases fe v1 h4 with
              | ok y h5 =>
                simp only [nx_ok, bind_ok]
                cases lcL g ft fe k.chk (wipeE v own) (k.its.drop (i + 1)) h5 <;> simp [R.bind, List.append_assoc]
              | exc _ _ => rfl
              | err => rfl
            rw [← this]; exact p4
          refine he _ _ _ ⟨Z4, m4, v1, h4, s4, e1.mono x4, (Post.base (rep1 := Rep C) p5).imp fun y H5 ⟨Z5, m5, y', h5, x5, s5, r5, p6⟩ => ?_⟩
          obtain ⟨t1, t2, t3⟩ := side (x3.trans (x4.trans x5))
          have hlen := ra.length
          refine ⟨vs, t3, by rw [sizeLine_eq]; omega, hlt, Z5, m5, h5, acc ++ [y'], vs ++ [y], (x2.trans (x3.trans (x4.trans x5))).side _ hD, s5.side _ t1 t2 (fun u z => by rw [t3] at z; cases z; exact ⟨(fun _ z => by cases z), fun _ z => by cases z⟩), upd_same, (ra.mono (x3.trans (x4.trans x5)).sub (x3.trans (x4.trans x5)).pre).append (.one r5), t1, t2, by simp; omega, p6⟩
    · have hi2 : i = k.its.length := by omega
      subst hi2
      rw [List.drop_length] at p2
      simp only [lcL, hck, if_true, bind_ok, List.append_nil] at p2
      exact .inl ⟨o2 (Nat.le_refl _), p2 Z2 (m2 ++ [q0]) H2 _ (x2.finN hD) (s2.finN d1 d2 hv ra) (.ref (at_new s2.len))⟩
variable {elt tg iter : Expr} {ifs : List Expr} {scope : Scope} {own : List (Str × Nat)} {g : TgM} {t : TG} {w : Ev → Hm → R Wk} {ft : TM} {fe : EM}
theorem de_lcN (hc : X.calm = true) (hN : X.N.Nodup) (ok : BlkOk X.N X.env.scope scope own) (hi : PI X tg iter (denW C E w)) (hl : LcG C g t (own.map (·.2)))
    (hg : ∀ (s : Shared) (H : Hp) (Ca : Addr) (cl : List (Str × Addr)) (fp : List Addr), PG (X.blk s H scope (compEnvC scope cl Ca X.env) fp) tg t) (ht : ∀ (s : Shared) (H : Hp) (Ca : Addr) (cl : List (Str × Addr)) (fp : List Addr), PTs (X.blk s H scope (compEnvC scope cl Ca X.env) fp) ifs (denT C EF ft))
    (he : ∀ (s : Shared) (H : Hp) (Ca : Addr) (cl : List (Str × Addr)) (fp : List Addr), PE (X.blk s H scope (compEnvC scope cl Ca X.env) fp) elt (denE C EF fe)) (hs : ∀ x, foldedSetIterable iter X.env x = pure x := by intro _; rfl) :
    PE X (.ListComp elt [⟨tg, iter, ifs, 0⟩] scope pos) (denE C E (eLcN (own.map (·.2)) g w ft fe)) :=
  pe_imp (pe_lc hc hN hi ok hg ht he hs) fun σ H Q q => tLcN_den (fun _ _ _ z => z) hl (fun _ _ _ z => z) (fun _ _ _ z => z) q
/-- x = [.. for ..] on one line -/
theorem ds_setLcN {i : Nat} {y : Str} {py spos : Pos} (hc : X.calm = true) (hN : X.N.Nodup) (hy : X.N[i]? = some y) (hyl : X.env.scope.names.lookup y = some .local)
    (hsw : swapsWith (.ListComp elt [⟨tg, iter, ifs, 0⟩] scope pos) (some (.Name y py)) spos.line X.env = pure true) (ok : BlkOk X.N X.env.scope scope own) (hi : PI X tg iter (denW C E w)) (hl : LcG C g t (own.map (·.2)))
    (hg : ∀ (s : Shared) (H : Hp) (Ca : Addr) (cl : List (Str × Addr)) (fp : List Addr), PG (X.blk s H scope (compEnvC scope cl Ca X.env) fp) tg t) (ht : ∀ (s : Shared) (H : Hp) (Ca : Addr) (cl : List (Str × Addr)) (fp : List Addr), PTs (X.blk s H scope (compEnvC scope cl Ca X.env) fp) ifs (denT C EF ft))
    (he : ∀ (s : Shared) (H : Hp) (Ca : Addr) (cl : List (Str × Addr)) (fp : List Addr), PE (X.blk s H scope (compEnvC scope cl Ca X.env) fp) elt (denE C EF fe)) (hs : ∀ x, foldedSetIterable iter X.env x = pure x := by intro _; rfl) :
    PS X (.Assign [.Name y py] (.ListComp elt [⟨tg, iter, ifs, 0⟩] scope pos) spos) (denS C E (sAsg (gN i) (eLcN (own.map (·.2)) g w ft fe))) := by
  refine ps_imp (ps_setLc hc hN hy hyl hsw hi ok hg ht he hs) fun K σ H ⟨Z, m, v, h, s, e, p⟩ => ?_
  refine tLcN_den (E := E) (fun _ _ _ z => z) hl (fun _ _ _ z => z) (fun _ _ _ z => z) ⟨Z, m, v, h, s, e, (Post.stm (k := fun d h1 => match gN i d v h1 with | some v1 => .nx v1 h1 | none => .err) e p).imp fun x H1 ⟨Z1, m1, d, h1, x1, s1, r1, p1⟩ => ?_⟩
  exact p1 _ _ _ _ .refl s1 ((e.mono x1).set r1 i)

end
end Dn

/-! DenL: a lambda without parameters handed to a def that calls it once, inside a try. -/
set_option Elab.async false
set_option linter.all false
set_option maxRecDepth 100000
set_option maxHeartbeats 4000000
namespace Dn
open PySem PySem.Spec PyProof.Rows L2 LamX
def eAsk (ask : Hm → R D) : EM := fun _ h => ask h
/-- a def that gets a lambda and lets nothing out -/
def fnA (nl : Nat) (b : SM) : Hm → R D := fun h => match b (List.replicate nl none) h with
  | .nx _ h1 => .ok .non h1
  | .rt d h1 => .ok d h1
  | _ => .err
def eLam (f : (Hm → R D) → Hm → R D) (body : EM) : EM := fun v h => f (fun h' => body v h') h
/-! ### the lambda's call -/
section
variable {X : Cx} {pins : List (Addr × Obj)} {σ : L2.St} {H : Hp} {s : Shared}
theorem pe_act2 {CXg : CXT} {Eg : XK} {Ng : List Str} {qg : Str} {sg : Scope} {g f c' : Addr} {cdg pm ctv : Value} {params : Arguments} {body : Expr} {scope : Scope} {k i : Nat} {a : Str} {pn : List (Addr × Obj)} {xe : Value → Shared → Prop} {W : WX} {tb : XK → TE} {p1 p2 : Pos}
    (I : Inv X pins σ H s) (L : LamS X.env.scope scope) (hf : s.heap.get? f = some (PySem.W.kla_obj "<lambda>" (X.env.qual ++ "<lambda>") params body scope (cloFrom X.env.cells scope.names []) pm c' ctv)) (hfn : H f = none) (hfr : f ∉ frs X.stack)
    (hbind : bindArgs (PySem.W.kla_fn "<lambda>" (X.env.qual ++ "<lambda>") params body scope (cloFrom X.env.cells scope.names []) pm (.ref c') ctv) ⟨[], []⟩ = pure [])
    (tk : Takes ((cxOf CXg X.prog X.w X.K X.mg X.base Ng qg sg g cdg X.A X.stack s H Eg).tr pn xe) W) (hr : Room (k + 1) (X.A.deeper (envOfC qg sg s.heap.objs.size g cdg)))
    (hbody : ∀ (A : Around) (outer : List Env) (s : Shared) (H : Hp) (E : XK), Room k (A.deeper (lamEnv X scope s.heap.objs.size f c')) → PE (lamCx X A outer s H E scope f c') body (tb E))
    (hN : Ng[i]? = some a) (hv : Vis sg a) (hd : (a == ("__debug__" : Str)) = false := by decide) (hcd : (a == ("__classdict__" : Str)) = false := by decide) :
    PE ((cxOf CXg X.prog X.w X.K X.mg X.base Ng qg sg g cdg X.A X.stack s H Eg).tr pn xe) (.Call (.Name a p1) [] [] p2)
      (fun σZ HZ Q => σZ[i]? = some (some (.ref f)) ∧ HZ c' = some (CodeO c' (X.env.qual ++ "<lambda>")) ∧ tb (fun c d H' => W c d σZ H') σ HZ Q) := by
  refine ⟨fun pZ sZ σZ HZ Q IZ ⟨hs, hc, ht⟩ => ?_⟩
  refine wpAny_Call_Name_kw (thn ((pe_var (pos := p1) (i := i) hN hv hd hcd).run pZ sZ σZ HZ (fun v H1 => v = .ref f ∧ H1 = HZ) IZ ⟨.ref f, hs, rfl, rfl⟩) fun u s1 ⟨v, H1, I1, r1, q1⟩ => ?_)
  obtain ⟨ev, eH⟩ := q1; subst ev; rw [eH] at I1
  obtain rfl : u = Value.ref f := r1
  have of1 := I1.base.keep f _ hf hfn hfr (fun z => nomatch (show f ∈ ([] : List Addr) from z))
  refine PySem.W.callWith_F0 ⟨_, _, _, _, of1⟩ ?_; have un : Un (frs X.stack) [] H HZ s.heap s1.heap := I1.base
  obtain ⟨⟨oc, vs, t, hoc, hdc, hvc⟩, _, _⟩ := I1.hok c' _ hc
  have rc : codeAny (model X.prog X.w) (X.A.deeper (envOfC qg sg s.heap.objs.size g cdg)) (.call (.ref f) ⟨[], []⟩) (CR (L2.CX X.prog X.w) (envOfC qg sg s.heap.objs.size g cdg :: X.stack) X.prog X.w HZ s1 Q (fun c d H' => W c d σZ H')) s1 := by
    refine PySem.W.kla_callFunE hr.depth of1 rfl L.co L.gen rfl ⟨c', oc, vs, t, rfl, hoc, hdc, hvc⟩ ?_; rw [hbind]
    refine wpAny_pure (wpAny_newFunctionEnv (fun y hy => (L.own y hy).2) (fun y hy => absurd hy (by simp)) (fun h₁ hns hsb => ⟨I1.nolimit.fresh _ hsb, ?_⟩) L.kind)
    refine (show codeAny _ _ (.expr body (lamEnv X scope s1.heap.objs.size f c')) _ _ from ?_)
    have kp : ∀ b o, s1.heap.get? b = some o → h₁.get? b = some o := fun b o e => hsb.extBut b o (Nat.ne_of_lt (Heap.lt_size e)) (Heap.get?_push_of_some _ e)
    have J := lam_start2 (f := f) (c' := c') (tk := s1.toks + ([] : List (Str × Value)).length) (E := fun c d H' => W c d σZ H') I L I1.env0 hr.hd un hns kp
    refine PySem.W.kla_codeExpr (wpAny_mono ((hbody _ _ s1 HZ _ (hr.deeper _)).run [] _ _ HZ Q J ht) (fun v s' ⟨w', H', J', rv, q⟩ => ⟨w', H', J'.os, J'.bare, J'.base, J'.hok, rv, q⟩) fun e s' hq => hq)
  refine wpAny_call (codeAny_mono rc fun r s' hq => ?_)
  cases r with
  | error e => exact passX tk σZ pZ HZ s1 e s' I1 hq
  | ok fl =>
    cases fl with
    | ret u => exact I1.after hq
    | next => exact False.elim hq
    | brk => exact False.elim hq
    | cont => exact False.elim hq
end
/-- a def that calls what it got -/
def Gives2 (X : Cx) (Ng : List Str) (x : Str) (sg : Scope) (g : Addr) (cdg : Value) (bg : List Stmt) (a : Str) (q : Str) (TT : (XK → Hp → VK → Prop) → Hp → VK → Prop) : Prop :=
  ∀ (f c' : Addr) (s : Shared) (H : Hp) (Q : VK) (tl : XK → Hp → VK → Prop), Room 0 (X.A.deeper (envOfC x sg s.heap.objs.size g cdg)) →
    (∀ (W : WX) (pn : List (Addr × Obj)) (xe : Value → Shared → Prop) (p1 p2 : Pos), Takes ((cxOf C8.CX0 X.prog X.w X.K X.mg X.base Ng x sg g cdg X.A X.stack s H C8.E0).tr pn xe) W →
      PE ((cxOf C8.CX0 X.prog X.w X.K X.mg X.base Ng x sg g cdg X.A X.stack s H C8.E0).tr pn xe) (.Call (.Name a p1) [] [] p2) (fun σZ HZ Q => σZ[0]? = some (some (.ref f)) ∧ HZ c' = some (CodeO c' q) ∧ tl (fun c d H' => W c d σZ H') HZ Q)) →
    H c' = some (CodeO c' q) → TT tl H Q →
    ∃ t, PSs (cxOf C8.CX0 X.prog X.w X.K X.mg X.base Ng x sg g cdg X.A X.stack s H C8.E0).nox bg t ∧ t { nx := fun _ H' => Q .non H', rt := Q } (L2.start Ng [.ref f]) H
section
variable {X : Cx}
theorem pe_lamcall2 {T : List (Addr × Str)} {TT : (XK → Hp → VK → Prop) → Hp → VK → Prop} {x a : Str} {g c P : Addr} {k : Nat} {pg : Arguments} {bg : List Stmt} {sg : Scope} {dV kV doc pm cdv ct oc : Value} {an od : Option Addr} {osl : Array (Option Value)} {Ng : List Str}
    {params : Arguments} {body : Expr} {scope : Scope} {t : XK → TE} {p lpos pos : Pos} (hg : Gl X x) (hm : X.mg x = some (.ref g)) (hk : PySem.W.keepIn X.K (.ref g) = true)
    (lk : X.K.lookup g = some ⟨oc, od, .func (PySem.W.fnOf x x pg bg sg dV kV doc pm an cdv ct), osl⟩) (hcg : PySem.W.codeIn X.K cdv x = true) (hb : L2.Binds X.K (PySem.W.fnOf x x pg bg sg dV kV doc pm an cdv ct) [a] []) (Sg : FnScope Ng [a] sg) (hNg : Ng[0]? = some a) (hva : Vis sg a)
    (hG : Gives2 X Ng x sg g cdv bg a (X.env.qual ++ "<lambda>") TT)
    (TB : TabB X.base X.mg c P) (hcode : X.env.code = .ref c) (hmT : (P, X.env.qual ++ "<lambda>") ∈ T) (hu : ∀ p ∈ T, p.1 = P → p.2 = X.env.qual ++ "<lambda>") (hr : Room (k + 2) X.A) (L : LamS X.env.scope scope) (hdef : defaultsOf params X.env = ([], []))
    (hbind : ∀ (q : Str) (cl : List (Str × Addr)) (pm cv ctv : Value), bindArgs (PySem.W.kla_fn "<lambda>" q params body scope cl pm cv ctv) ⟨[], []⟩ = pure [])
    (hbody : ∀ (A : Around) (outer : List Env) (s : Shared) (H : Hp) (E : XK) (f c' : Addr), Room k (A.deeper (lamEnv X scope s.heap.objs.size f c')) → PE (lamCx X A outer s H E scope f c') body (t E))
    (hdb : (x == ("__debug__" : Str)) = false := by decide) (hd : (a == ("__debug__" : Str)) = false := by decide) (hcd : (a == ("__classdict__" : Str)) = false := by decide) :
    PE X (.Call (.Name x p) [.Lambda params body scope lpos] [] pos) (tLam T TT t) := by
  refine ⟨fun pins s σ H Q I ⟨hT, h⟩ => ?_⟩
  refine wpAny_Call_Name_kw (ld_glob I hg hm (PySem.W.callWith_K (h₀ := X.base) I.ok.mod.kin hk ?_ (by rfl) (by rfl)) hdb)
  refine (show wpAny _ _ (spliced ((false, eval (.Lambda params body scope lpos) X.env) :: backTo pos (starEach [] X.env))) _ _ s from ?_)
  refine Calls.spliced_cons (lam_make2 I TB hcode hmT hu hT hdef (L.has I.ok) fun f c' pm' ctv H1 s' I1 eN T1 hf hfn hfr hco => Calls.spliced_nil ⟨I1.kIn, ?_⟩)
  have rc : codeAny (model X.prog X.w) X.A (.call (.ref g) ⟨[.ref f], []⟩) (CR C8.CX0 X.stack X.prog X.w H1 s' Q C8.E0) s' := by
    refine run_ofS (N := Ng) (ps := [a]) (us := [.ref f]) (vs := [.ref f]) lk hcg Sg hr I1.env0 (hb s' [.ref f] I1.kIn rfl) (.cons rfl .nil) rfl fun hr' => ?_
    obtain ⟨t', ht', hq'⟩ := hG f c' s' H1 Q (fun E H' Q' => t E σ H' Q') (hr'.mono (Nat.zero_le _)) (fun W pn xe p1 p2 tk => pe_act2 (i := 0) I1 L hf hfn hfr (hbind _ _ _ _ _) tk hr' (fun A outer s H E hr2 => hbody A outer s H E f c' hr2) hNg hva hd hcd) hco (h H1 eN T1)
    exact ⟨t', ht'.nox, hq'⟩
  refine wpAny_call (codeAny_mono rc fun r s2 hq => ?_)
  cases r with
  | error e => exact (show False from hq).elim
  | ok fl =>
    cases fl with
    | ret u => exact I1.after hq
    | next => exact False.elim hq
    | brk => exact False.elim hq
    | cont => exact False.elim hq
end
theorem nox_fnA (nl : Nat) (b : SM) : ∀ h, NoX (fnA nl b h) := by
  intro h e g
  unfold fnA
  split <;> simp
/-! ### by the mirror -/
section
variable {C : Cn} {Z Z1 H H1 : Hp} {m m1 : List Addr} {h : Hm}
theorem HSim.extN (s : HSim C Z m h H) (e : ExtN H H1) (t : Tabs C.T H1) : HSim C Z m h H1 := by
  refine ⟨fun a o q => e a o (s.sub a o q) fun ps z => s.noT a ps (by rw [q, z]), s.len, s.nd, s.off, fun n a o e1 e2 => ?_, t, s.noT⟩
  obtain ⟨u, hu, hp⟩ := objAt_plain (s.obj n a o e1 e2)
  exact (s.obj n a o e1 e2).at ((e a u hu hp.1).trans hu.symm)
theorem Ext.extN (e : ExtN H H1) : Ext Z m H Z m H1 := ⟨fun _ _ q => q, List.prefix_refl _, fun a o q _ nt => e a o q nt, fun _ q => .inl q, fun _ q => .inl q⟩
/-- what a def makes of a lambda, by the mirror -/
def TTd (C : Cn) (fm : (Hm → R D) → Hm → R D) : (XK → Hp → VK → Prop) → Hp → VK → Prop := fun tl H Q => ∃ (ask : Hm → R D) (Z : Hp) (m : List Addr) (h : Hm), HSim C Z m h H ∧
  (∀ (E : XK) (Z' : Hp) (m' : List Addr) (h' : Hm) (H' : Hp) (Q' : VK), Ext Z m H Z' m' H' → HSim C Z' m' h' H' → Post C (Rep C) E (ask h') Z' m' H' Q' → tl E H' Q') ∧ Post C (Rep C) (fun _ _ _ => False) (fm ask h) Z m H Q
theorem nox_lam {X : Cx} {E : WX} {fm : (Hm → R D) → Hm → R D} (hx : ∀ ask h, NoX (fm ask h)) {fb : EM} {σ : L2.St} {H : Hp} {Q : VK} (q : denE C E (eLam fm fb) σ H Q) : tLam C.T (TTd C fm) (fun E' => denE C (fun c d _ H' => E' c d H') fb) σ H Q := by
  obtain ⟨Z, m, v, h, s, e, p⟩ := q
  refine ⟨s.tab, fun H1 eN T1 => ⟨fun h' => fb v h', Z, m, h, s.extN eN T1, fun E' Z' m' h' H' Q' x s' p' => ⟨Z', m', v, h', s', (e.mono (Ext.extN eN)).mono x, p'⟩, Post.from (Ext.extN eN) (p.nox (hx _ _))⟩⟩
end
section
variable {X : Cx} {C : Cn} {E : WX}
theorem try_post {i : Nat} {f : Value → Option Bool} {t : Str → Bool} {fb fs : SM} (hX : ∀ c A, C.cls c = some A → f (.ref A) = some (t c)) {v : Ev} {h : Hm} {Z : Hp} {m : List Addr} {H : Hp} {D : Ends}
    (p : PostS C E (sTry fb t (kAs i fs) v h) Z m H D) : PostS C (wTry f (some i) (denS C EF fs) E D) (fb v h) Z m H D := by
  unfold sTry at p
  cases q : fb v h with
  | exc x v1 h1 =>
    rw [q] at p
    cases x with
    | exn c gs =>
      intro Z1 m1 H1 σ1 cl od x1 s1 e1 r1
      obtain ⟨A, hA, rfl, hr⟩ := id r1
      refine ⟨t c, A, rfl, hX c A hA, fun ht => fun a na => ?_, fun hf => ?_⟩
      · simp only [ht, if_true] at p
        obtain ⟨s2, x2, r2⟩ := exn_lay s1 na r1 rfl
        have p := PostS.from (x1.trans x2) p
        refine ⟨_, m1, v1.set i (some (.exn c gs)), h1, s2, (e1.mono x2).set r2 i, ?_⟩
        unfold kAs at p
        cases q2 : fs (v1.set i (some (.exn c gs))) h1 with
        | nx v2 h2 => rw [q2] at p; exact fun Z' m' H' σ' a b c => p _ _ _ _ a b (c.unset i)
        | bk v2 h2 => rw [q2] at p; exact fun Z' m' H' σ' a b c => p _ _ _ _ a b (c.unset i)
        | ct v2 h2 => rw [q2] at p; exact fun Z' m' H' σ' a b c => p _ _ _ _ a b (c.unset i)
        | rt d h2 => rw [q2] at p; exact p
        | exc _ _ _ => rw [q2] at p; exact False.elim p
        | err => rw [q2] at p; exact p
      · simp only [hf] at p
        exact p _ _ _ _ _ _ x1 s1 e1 r1
    | _ => exact False.elim p
  | nx _ _ => rw [q] at p; exact p
  | rt _ _ => rw [q] at p; exact p
  | bk _ _ => rw [q] at p; exact p
  | ct _ _ => rw [q] at p; exact p
  | err => rw [q] at p; exact p
end
/-! ### the def that calls it inside a try -/
/-- x = None; y = None; try: y = ask() except T as e: ..; the rest -/
def kindB (i1 i2 ie : Nat) (t : Str → Bool) (fs fr : SM) (ask : Hm → R D) : SM :=
  sSeq (sAsg (gN i1) (eC .non)) (sSeq (sAsg (gN i2) (eC .non)) (sSeq (sTry (sAsg (gN i2) (eAsk ask)) t (kAs ie fs)) fr))
section
variable {X : Cx} {C : Cn}
theorem gives_kind {Ng : List Str} {x a n1 n2 ne T : Str} {sg : Scope} {g : Addr} {cdv : Value} {q : Str} {i1 i2 ie j1 j2 : Nat} {b₀ : Stmt} {suite rest : List Stmt} {fs fr : SM} {p1 p2 p3 p4 p5 p6 p7 p8 p9 p10 np pos' pos : Pos}
    (hnd : Ng.Nodup) (h1 : Ng[i1]? = some n1) (h2 : Ng[i2]? = some n2) (he : Ng[ie]? = some ne) (l1 : sg.names.lookup n1 = some .local) (l2 : sg.names.lookup n2 = some .local) (le : sg.names.lookup ne = some .local) (hi0 : i1 ≠ 0 ∧ i2 ≠ 0)
    (tab : XTab C) (hK : C.K = X.K) (nm : XNm X.mg C.cls T) (hg : sg.names.lookup T = some .globalImplicit)
    (hsu : ∀ (s : Shared) (H : Hp) (b : Addr) (pn : List (Addr × Obj)), Room 0 (X.A.deeper (envOfC x sg s.heap.objs.size g cdv)) → PSs ((cxOf C8.CX0 X.prog X.w X.K X.mg X.base Ng x sg g cdv X.A X.stack s H C8.E0).nox.suite b pn) (b₀ :: suite) (denS C EF fs))
    (hrest : ∀ (s : Shared) (H : Hp), Room 0 (X.A.deeper (envOfC x sg s.heap.objs.size g cdv)) → PSs (cxOf C8.CX0 X.prog X.w X.K X.mg X.base Ng x sg g cdv X.A X.stack s H C8.E0).nox rest (denS C EF fr))
    (hd : (T == ("__debug__" : Str)) = false := by decide) :
    Gives2 X Ng x sg g cdv (.Assign [.Name n1 p1] (.Constant .none j1 p2) p3 :: .Assign [.Name n2 p4] (.Constant .none j2 p5) p6 :: .Try [.Assign [.Name n2 p7] (.Call (.Name a p8) [] [] p9) p10] [.ExceptHandler (some (.Name T np)) (some ne) (b₀ :: suite) pos'] [] [] pos :: rest) a q
      (TTd C fun ask => fnA Ng.length (kindB i1 i2 ie (fun c => xIs c T) fs fr ask)) := by
  intro f c' s H Q tl hr act hc hTT
  obtain ⟨ask, Z, m, h, sm, hask, p⟩ := hTT
  obtain ⟨B, hB1, hB2⟩ := nm.ok
  have hX : ∀ c A, C.cls c = some A → PySem.W.exmOne X.K (.ref A) (.ref B) = some (xIs c T) := fun c A e => by rw [← hK]; exact tab.em c A T B e hB1
  have S1 := L2.ps_set (X := (cxOf C8.CX0 X.prog X.w X.K X.mg X.base Ng x sg g cdv X.A X.stack s H C8.E0).nox) (pos := p3) (pos' := p1) hnd h1 (.inl l1) (pe_non (j := j1) (pos := p2)) rfl (.inr l1)
  have S2 := L2.ps_set (X := (cxOf C8.CX0 X.prog X.w X.K X.mg X.base Ng x sg g cdv X.A X.stack s H C8.E0).nox) (pos := p6) (pos' := p4) hnd h2 (.inl l2) (pe_non (j := j2) (pos := p5)) rfl (.inr l2)
  have S3 := ps_tryT (X := (cxOf C8.CX0 X.prog X.w X.K X.mg X.base Ng x sg g cdv X.A X.stack s H C8.E0).nox) (pos := pos) (pos' := pos') (te := .Name T np) (nm := some (ne, ie)) (Wout := fun _ _ _ _ => False) (body := [.Assign [.Name n2 p7] (.Call (.Name a p8) [] [] p9) p10])
    (tb := fun W => tAsg (fun σZ HZ Q => σZ[0]? = some (some (.ref f)) ∧ HZ c' = some (CodeO c' q) ∧ tl (fun c d H' => W c d σZ H') HZ Q) (gName i2)) rfl rfl (ht_name ⟨hg, hd, .inl hB2⟩) L2.takes0 (fun _ _ z => by cases z; exact ⟨hnd, he, le⟩)
    (fun W pn xe tk _ => pss_one (L2.ps_set hnd h2 (.inl l2) (act W pn xe p8 p9 tk) rfl (.inr l2))) (fun b pn => hsu s H b pn hr)
  refine ⟨_, pss_cons S1 (pss_cons S2 (pss_cons S3 (hrest s H hr))), ?_⟩
  have E0 : EnvR C Z m (List.replicate Ng.length none) (L2.start Ng [.ref f]) := ⟨by have := (List.getElem?_eq_some_iff.mp h1).1; simp [L2.start]; omega, fun i d z => by rw [List.getElem?_replicate] at z; split at z <;> cases z⟩
  have E2 : EnvR C Z m (((List.replicate Ng.length none).set i1 (some .non)).set i2 (some .non)) (((L2.start Ng [.ref f]).set i1 (some .non)).set i2 (some .non)) := (E0.set .non i1).set .non i2
  have P : PostS C EF (kindB i1 i2 ie (fun c => xIs c T) fs fr ask (List.replicate Ng.length none) h) Z m H { nx := fun _ H' => Q .non H', rt := Q, bk := fun _ _ => False, ct := fun _ _ => False } := by
    unfold fnA at p
    dsimp only at p
    generalize kindB i1 i2 ie (fun c => xIs c T) fs fr ask (List.replicate Ng.length none) h = o at p
    cases o with
    | nx v h1 => exact fun Z' m' H' σ a b c => p Z' m' H' _ a b .non
    | rt d h1 => exact p
    | _ => exact False.elim p
  have P1 : PostS C EF (sTry (sAsg (gN i2) (eAsk ask)) (fun c => xIs c T) (kAs ie fs) (((List.replicate Ng.length none).set i1 (some .non)).set i2 (some .non)) h) Z m H
      { nx := fun σ1 H1 => denS C EF fr { nx := fun _ H' => Q .non H', rt := Q } σ1 H1, rt := Q, bk := fun _ _ => False, ct := fun _ _ => False } := by
    have P : PostS C EF (sSeq (sTry (sAsg (gN i2) (eAsk ask)) (fun c => xIs c T) (kAs ie fs)) fr (((List.replicate Ng.length none).set i1 (some .non)).set i2 (some .non)) h) Z m H { nx := fun _ H' => Q .non H', rt := Q, bk := fun _ _ => False, ct := fun _ _ => False } := P
    unfold sSeq at P
    cases qt : sTry (sAsg (gN i2) (eAsk ask)) (fun c => xIs c T) (kAs ie fs) (((List.replicate Ng.length none).set i1 (some .non)).set i2 (some .non)) h with
    | nx v1 h1 => rw [qt] at P; exact fun Z' m' H' σ' a b c => ⟨Z', m', v1, h1, b, c, PostS.from a P⟩
    | rt _ _ => rw [qt] at P; exact P
    | bk _ _ => rw [qt] at P; exact P
    | ct _ _ => rw [qt] at P; exact P
    | exc _ _ _ => rw [qt] at P; exact P
    | err => rw [qt] at P; exact P
  have P2 := try_post (E := EF) (f := fun v => PySem.W.exmOne X.K v (.ref B)) hX P1
  refine ⟨?_, hc, hask _ Z m h H _ .refl sm ?_⟩
  · show ((((L2.start Ng [.ref f]).set i1 (some .non)).set i2 (some .non))[0]? : Option (Option V)) = _
    rw [List.getElem?_set_ne hi0.2, List.getElem?_set_ne hi0.1]
    rfl
  · exact (Post.stm (k := fun d h1 => match gN i2 d _ h1 with | some v1 => .nx v1 h1 | none => .err) E2 P2).imp fun x H1 ⟨Z1, m1, d, h1, x1, s1, r1, p1⟩ => p1 _ _ _ _ .refl s1 ((E2.mono x1).set r1 i2)
end
/-! ### a call with a lambda -/
theorem passL {X : Cx} {A : Around} {outer : List Env} {s : Shared} {H : Hp} {E : XK} {scope : Scope} {f c' : Addr} (σ : L2.St) : PassesAt (L2.CX X.prog X.w) (lamCx X A outer s H E scope f c') σ E :=
  passX (X := lamCx X A outer s H E scope f c') (E := fun c d _ H => E c d H) (takes_of rfl rfl rfl rfl) σ
section
variable {X : Cx} {C : Cn} {E : WX}
theorem de_lam {x a : Str} {g cA PA : Addr} {fd : FuncData} {st : Stmt} {Ng : List Str} {k j : Nat} {fm : (Hm → R D) → Hm → R D} {params : Arguments} {body : Expr} {scope : Scope} {fb : EM} {p lpos pos : Pos} (F : Fun X.K x x st g fd) (hm : X.mg x = some (.ref g)) (b : L2.Binds X.K fd [a] [])
    (Sg : FnScope Ng [a] (defScope st)) (hNg : Ng[0]? = some a) (hva : Vis (defScope st) a) (hG : ∀ cdv q, Gives2 X Ng x (defScope st) g cdv (defBody st) a q (TTd C fm)) (hx : ∀ ask h, NoX (fm ask h))
    (TB : TabB X.base X.mg cA PA) (hcode : X.env.code = .ref cA) (hT : C.T = [(PA, X.env.qual ++ "<lambda>")]) (hr : Room j X.A) (hj : k + 2 ≤ j) (hg : Gl X x) (L : LamS X.env.scope scope) (hdef : defaultsOf params X.env = ([], []))
    (hbind : ∀ (q : Str) (cl : List (Str × Addr)) (pm cv ctv : Value), bindArgs (PySem.W.kla_fn "<lambda>" q params body scope cl pm cv ctv) ⟨[], []⟩ = pure [])
    (hbody : ∀ (A : Around) (outer : List Env) (s : Shared) (H : Hp) (E : XK) (f c' : Addr), Room k (A.deeper (lamEnv X scope s.heap.objs.size f c')) → PE (lamCx X A outer s H E scope f c') body (denE C (fun c d _ H' => E c d H') fb))
    (hdb : (x == ("__debug__" : Str)) = false := by decide) (hd : (a == ("__debug__" : Str)) = false := by decide) (hcd : (a == ("__classdict__" : Str)) = false := by decide) :
    PE X (.Call (.Name x p) [.Lambda params body scope lpos] [] pos) (denE C E (eLam fm fb)) := by
  obtain ⟨oc, od, kV, doc, pm, an, cdv, ct, osl, rfl, lk, hcg⟩ := F.ex
  refine pe_imp (pe_lamcall2 (T := C.T) hg hm F.kp lk hcg b Sg hNg hva (hG cdv _) TB hcode (by rw [hT]; exact List.mem_singleton.mpr rfl) (fun p hp _ => by rw [hT] at hp; rw [List.mem_singleton.mp hp]) (hr.mono hj) L hdef hbind hbody hdb hd hcd) fun σ H Q q => nox_lam (X := X) hx q
end
section
variable {P : Program} {w : World} {K : PySem.W.Frag} {mg : Str → Option Value} {base : Heap} {C : Cn}
/-- the law's def, its code object known -/
theorem fn_okT {x qual : Str} {st : Stmt} {f : Addr} {N ps : List Str} {k : Nat} {b : SM} {oc kV doc pm cdv ct : Value} {od an : Option Addr} {osl : Array (Option Value)}
    (lk : K.lookup f = some ⟨oc, od, .func (PySem.W.fnOf x qual (defArgs st) (defBody st) (defScope st) .none kV doc pm an cdv ct), osl⟩) (hcd : PySem.W.codeIn K cdv qual = true) (S : FnScope N ps (defScope st))
    (hbody : ∀ (A : Around) (outer : List Env) (s : Shared) (H : Hp) (E : XK), Room k (A.deeper (envOfC qual (defScope st) s.heap.objs.size f cdv)) → PSs (cxOf C8.CX0 P w K mg base N qual (defScope st) f cdv A outer s H E).nox (defBody st) (denS C EF b)) :
    FnOk P w K mg base C8.CX0 (k + 1) f (PySem.W.fnOf x qual (defArgs st) (defBody st) (defScope st) .none kV doc pm an cdv ct) ps (spD C (fn0 ps.length N.length b)) := by
  refine fn_of lk hcd S (spD_len fun ds h hl => by unfold fn0 fn; rw [if_neg hl]; rfl) fun A outer s H vs Q E hr hsp => ?_
  obtain ⟨Z, m, h, ds, s1, r, p⟩ := hsp
  refine ⟨_, (hbody A outer s H E hr).nox, ?_⟩
  refine fn_end (Ex := fun _ _ _ => False) (np := ps.length) s1 r (fun _ _ _ _ z => z) ?_
  unfold fn0 at p
  cases q : fn ps.length N.length b ds h with
  | ok d h1 => rw [q] at p; exact p
  | exc e h1 => rw [q] at p; exact False.elim p
  | err => rw [q] at p; exact p
end
/-- the def x has a table of its own, beside the written part -/
def tabOkB (K : PySem.W.Frag) (x : Str) : Bool := match PySem.W.tabIn K x with
  | some (_, P) => (K.lookup P).isNone
  | none => false
theorem tab_ok {K : PySem.W.Frag} {x : Str} (h : tabOkB K x = true) : ∃ c P, PySem.W.tabIn K x = some (c, P) ∧ K.lookup P = none := by
  unfold tabOkB at h
  split at h
  · rename_i c P e
    exact ⟨c, P, e, by simpa using h⟩
  · cases h
theorem tab_cd {K : PySem.W.Frag} {x qual : Str} {st : Stmt} {f c P : Addr} {oc kV doc pm cdv ct : Value} {od an : Option Addr} {osl : Array (Option Value)} (a : PySem.W.nsIn K mainGlobals x = some (some (.ref f)))
    (l : K.lookup f = some ⟨oc, od, .func (PySem.W.fnOf x qual (defArgs st) (defBody st) (defScope st) .none kV doc pm an cdv ct), osl⟩) (t : PySem.W.tabIn K x = some (c, P)) : cdv = .ref c := by
  unfold PySem.W.tabIn at t
  rw [a] at t
  simp only [l] at t
  cases cdv with
  | ref c0 =>
    simp only at t
    split at t
    · split at t
      · cases t; rfl
      · cases t
    · cases t
  | _ => simp at t
/-- the end where the law itself holds lambdas -/
theorem walk_ofTab {l : PySem.W.OpenLaw} {n k : Nat} {q : Program} {loose : List Str} {XP : (Str → Option Value) → Heap → Prop} {YP : World → Heap → Prop} {d : DefRec} {K : Params → PySem.W.Frag} {CX : World → CXT} {x : Str}
    (hn : l.most = some n) (hn2 : n ≤ sizeLine) (hdf : d.params.defaults = []) (hr : Room k callerA) (hrec : ((recsOf q).find? (fun e => e.name == d.name)).isSome = true) (hY : ∀ (w : World) (h : Heap), YP w h → (K w.params).In h)
    (F : ∀ (w : World) (mg : Str → Option Value) (fa : Addr) (h : Heap), (K w.params).In h → h.Ns mainGlobals mg → mg d.name = some (.ref fa) → (∀ c P, PySem.W.tabIn (K w.params) d.name = some (c, P) → PySem.W.CodeHd h c P ∧ h.get? P = some { cls := .none, data := .fields #[] }) → LawAtS l w (K w.params) (CX w) k n x mg fa h)
    (hCX : ∀ (w : World) (H : Hp) (s : Shared) (e : Value) (s' : Shared), CX w [] H s (fun _ _ _ => False) e s' → False) :
    PySem.W.WalkO q loose XP YP l.row.toRowW d [] (fun f vs => PySem.call f vs) := by
  refine Att.attach_callB hn hdf fun w s₀ s₁ mg mb fa o pm cd doc a vs ns G Y ho hd hcd hmg hobj hints hlen hbits hg => ?_
  have KX := hY w _ Y; obtain ⟨d0, hrec⟩ := Option.isSome_iff_exists.mp hrec; obtain ⟨fd, cs, sp, hT, nT, C, hb, hsp, hF⟩ := F w mg fa _ KX G.T.g hmg fun c P ht => PySem.W.tab_of G.T KX hrec ht
  exact law_callTs KX G.T.g G.T.b G.T.builtins G.T.nolimit hg hT nT C G.T.bmain hobj hints (Nat.le_trans hlen hn2) hr hF hb (fun H hH hS => hsp H a ns hlen hbits hH hS) (fun H e s' => hCX w H s₁ e s')
/-! ### range(i, j, -1) -/
def wR3 (a : AM) : Ev → Hm → R Wk := fun v h => (a v h).bind fun xs h1 => match xs with
  | [.int i, .int j, .int c] => if c = -1 ∧ -(2 ^ 62) ≤ i ∧ i < 2 ^ 62 ∧ -(2 ^ 62) ≤ j ∧ j < 2 ^ 62 then .ok ⟨(List.range (i - j).toNat).map fun (k : Nat) => .int (i + (k : Int) * (-1)), fun _ => true⟩ h1 else .err
  | _ => .err
theorem wk_down {X : Cx} {C : Cn} {Z : Hp} {m : List Addr} {i : Int} {n : Nat} : WkOk C (Itc i (-1) n) ⟨(List.range n).map fun (k : Nat) => .int (i + (k : Int) * (-1)), fun _ => true⟩ Z m := by
  intro k Z' m' h H hz hm s _
  refine ⟨fun hi => ⟨(show k < n by simpa using hi), fun y H' ⟨e1, e⟩ => ?_⟩, fun hi => (show n ≤ k by simpa using hi)⟩
  subst e1
  have hk : k < n := by simpa using hi
  exact ⟨.int (i + (k : Int) * (-1)), Z', by simp [hk], .refl, s, by rw [e]; exact .int _⟩
section
variable {X : Cx} {C : Cn} {E : WX} {tg : Expr}
theorem di_r3 {a b c : Expr} {fa : AM} {p pos : Pos} (hg : Gl X "range") (hm : X.mg "range" = none) (ha : PA X [a, b, c] (denA C E fa)) (hs : starEach [a, b, c] X.env = (false, eval a X.env) :: starEach [b, c] X.env := by rfl) (hpl : (backTo pos (starEach [b, c] X.env)).any (·.1) = false := by rfl) :
    PI X tg (.Call (.Name "range" p) [a, b, c] [] pos) (denW C E (wR3 fa)) := by
  refine ⟨fun pins s σ H R I q => (pi_range3 hg hm ha hs hpl).run pins s σ H R I ?_⟩
  obtain ⟨Z, m, v, h, s, e, p⟩ := q
  refine ⟨Z, m, v, h, s, e, ?_⟩
  unfold wR3 at p
  cases qa : fa v h with
  | err => rw [qa] at p; exact False.elim p
  | exc x h1 => rw [qa] at p; exact p
  | ok xs h1 =>
    rw [qa] at p
    intro Z' m' H' us x s' r
    simp only [bind_ok] at p
    split at p
    · rename_i k h2 hb
      split at hb
      · rename_i i j c
        split at hb
        · rename_i hc
          cases hb
          obtain ⟨hc1, hc2, hc3, hc4, hc5⟩ := hc
          subst hc1
          cases r with
          | cons r1 rr =>
            cases rr with
            | cons r2 rr =>
              cases rr with
              | cons r3 rr =>
                cases rr
                cases r1
                cases r2
                cases r3
                exact ⟨i, j, -1, _, rfl, RgC.neg hc2 hc3 hc4 hc5, p Z' m' H' _ x s' (wk_down (X := X))⟩
        · cases hb
      · cases hb
    · rename_i hb
      split at hb
      · split at hb <;> cases hb
      · cases hb
    · exact False.elim p
end
end Dn

/-! Sat: what a mirror comes to, by rules: plain Lean, nothing of the machine. -/
set_option Elab.async false
set_option linter.all false
set_option maxRecDepth 100000
set_option maxHeartbeats 4000000
namespace Dn
open PySem L2

def SatP {α : Type} (X : D → Hm → Prop) (r : R α) (Q : α → Hm → Prop) : Prop := match r with
  | .ok a h => Q a h
  | .exc e h => X e h
  | .err => False
/-- the outcome is Q's, or an exception of X's -/
structure SatX {α : Type} (X : D → Hm → Prop) (r : R α) (Q : α → Hm → Prop) : Prop where
  out : SatP X r Q
abbrev Sat {α : Type} (r : R α) (Q : α → Hm → Prop) : Prop := SatX (fun _ _ => False) r Q
def SatSP (Y : D → Ev → Hm → Prop) (r : Fl) (N : Ev → Hm → Prop) (T : D → Hm → Prop) (B G : Ev → Hm → Prop) : Prop := match r with
  | .nx v h => N v h
  | .rt d h => T d h
  | .bk v h => B v h
  | .ct v h => G v h
  | .exc e v h => Y e v h
  | .err => False
structure SatSX (Y : D → Ev → Hm → Prop) (r : Fl) (N : Ev → Hm → Prop) (T : D → Hm → Prop) (B G : Ev → Hm → Prop) : Prop where
  out : SatSP Y r N T B G
abbrev SatS (r : Fl) (N : Ev → Hm → Prop) (T : D → Hm → Prop) (B : Ev → Hm → Prop := fun _ _ => False) (G : Ev → Hm → Prop := fun _ _ => False) : Prop := SatSX (fun _ _ _ => False) r N T B G
/-- o[k] = x leads to P -/
def PutTo (o k x : D) (h : Hm) (P : Hm → Prop) : Prop := match putIx o k x h with
  | some h4 => P h4
  | none => False
section
variable {α β : Type} {Q Q' : D → Hm → Prop} {v : Ev} {h : Hm} {X : D → Hm → Prop}
theorem SatX.imp {r : R α} {Q Q' : α → Hm → Prop} (s : SatX X r Q) (k : ∀ a h, Q a h → Q' a h) : SatX X r Q' := by
  cases r with
  | ok a h => exact ⟨k a h s.out⟩
  | exc _ _ => exact ⟨s.out⟩
  | err => exact s.out.elim
theorem SatX.get {r : R α} {Q : α → Hm → Prop} (s : Sat r Q) : ∃ a h, r = .ok a h ∧ Q a h := by
  cases r with
  | ok a h => exact ⟨a, h, rfl, s.out⟩
  | exc _ _ => exact s.out.elim
  | err => exact s.out.elim
theorem SatX.bind {r : R α} {k : α → Hm → R β} {Q : β → Hm → Prop} (s : SatX X r fun a h => SatX X (k a h) Q) : SatX X (r.bind k) Q := by
  cases r with
  | ok a h => exact s.out
  | exc _ _ => exact ⟨s.out⟩
  | err => exact s.out.elim
theorem SatX.nx {r : R α} {Q : α → Hm → Prop} (s : Sat r Q) : SatX X r.nx Q := by
  cases r with
  | ok a h => exact ⟨s.out⟩
  | exc _ _ => exact s.out.elim
  | err => exact s.out.elim
/-- what raises nothing -/
theorem SatX.w {r : R α} {Q : α → Hm → Prop} (s : Sat r Q) : SatX X r Q := by
  cases r with
  | ok a h => exact ⟨s.out⟩
  | exc _ _ => exact s.out.elim
  | err => exact s.out.elim
theorem SatX.ok {a : α} {Q : α → Hm → Prop} (q : Q a h) : SatX X (R.ok a h) Q := ⟨q⟩
theorem Sat.imp {r : R α} {Q Q' : α → Hm → Prop} (s : Sat r Q) (k : ∀ a h, Q a h → Q' a h) : Sat r Q' := SatX.imp s k
theorem Sat.get {r : R α} {Q : α → Hm → Prop} (s : Sat r Q) : ∃ a h, r = .ok a h ∧ Q a h := SatX.get s
theorem Sat.bind {r : R α} {k : α → Hm → R β} {Q : β → Hm → Prop} (s : Sat r fun a h => Sat (k a h) Q) : Sat (r.bind k) Q := SatX.bind s
theorem Sat.nx {r : R α} {Q : α → Hm → Prop} (s : Sat r Q) : Sat r.nx Q := SatX.nx s
theorem Sat.ok {a : α} {Q : α → Hm → Prop} (q : Q a h) : Sat (R.ok a h) Q := ⟨q⟩
/-! expressions -/
theorem sa_V {i : Nat} {d : D} (e : v[i]? = some (some d)) (q : Q d h) : SatX X (eV i v h) Q := by unfold eV; rw [e]; exact ⟨q⟩
theorem sa_C {d : D} (q : Q d h) : SatX X (eC d v h) Q := ⟨q⟩
theorem sa_B {op : D → D → Hm → R D} {a b : EM} (s : SatX X (a v h) fun x h1 => SatX X (b v h1) fun y h2 => SatX X (op x y h2) Q) : SatX X (eB op a b v h) Q := SatX.bind (s.imp fun _ _ z => SatX.bind z)
theorem sa_U {op : D → Hm → R D} {a : EM} (s : SatX X (a v h) fun x h1 => SatX X (op x h1) Q) : SatX X (eU op a v h) Q := SatX.bind s
theorem sa_F {f : FM} {a : AM} (s : SatX X (a v h) fun xs h1 => SatX X (f xs h1) Q) : SatX X (eF f a v h) Q := SatX.bind s
theorem sa_aN {Q : List D → Hm → Prop} (q : Q [] h) : SatX X (aN v h) Q := ⟨q⟩
theorem sa_aC {a : EM} {r : AM} {Q : List D → Hm → Prop} (s : SatX X (a v h) fun x h1 => SatX X (r v h1) fun xs h2 => Q (x :: xs) h2) : SatX X (aC a r v h) Q := SatX.bind (s.imp fun _ _ z => SatX.bind (z.imp fun _ _ y => ⟨y⟩))
theorem sa_tup {a : AM} (s : SatX X (a v h) fun xs h1 => xs.length ≤ 16777216 ∧ Q (.tup xs) h1) : SatX X (eTup a v h) Q := SatX.bind (s.imp fun _ _ z => by rw [if_pos z.1]; exact ⟨z.2⟩)
theorem sa_lst {a : AM} (s : SatX X (a v h) fun xs h1 => xs.length ≤ 16777216 ∧ Q (.lst xs) h1) : SatX X (eLst a v h) Q := SatX.bind (s.imp fun _ _ z => by rw [if_pos z.1]; exact ⟨z.2⟩)
theorem sa_new {a : AM} (s : SatX X (a v h) fun xs h1 => xs.length ≤ 16777216 ∧ Q (.ref h1.length) (h1 ++ [.lst xs])) : SatX X (eNew a v h) Q := SatX.bind (s.imp fun _ _ z => by rw [if_pos z.1]; exact ⟨z.2⟩)
theorem sa_If {t : TM} {a b : EM} (s : SatX X (t v h) fun c h1 => (c = true → SatX X (a v h1) Q) ∧ (c = false → SatX X (b v h1) Q)) : SatX X (eIf t a b v h) Q := SatX.bind (s.imp fun c _ z => by cases c; exact z.2 rfl; exact z.1 rfl)
theorem sa_And {a b : EM} (s : SatX X (a v h) fun x h1 => ∃ c, x = .bl c ∧ (c = true → SatX X (b v h1) Q) ∧ (c = false → Q (.bl false) h1)) : SatX X (eAnd a b v h) Q := SatX.bind (s.imp fun x _ ⟨c, e, z⟩ => by subst e; cases c; exact ⟨z.2 rfl⟩; exact z.1 rfl)
theorem sa_Or {a b : EM} (s : SatX X (a v h) fun x h1 => ∃ c, x = .bl c ∧ (c = false → SatX X (b v h1) Q) ∧ (c = true → Q (.bl true) h1)) : SatX X (eOr a b v h) Q := SatX.bind (s.imp fun x _ ⟨c, e, z⟩ => by subst e; cases c; exact z.1 rfl; exact ⟨z.2 rfl⟩)
theorem sa_Not {a : EM} (s : SatX X (a v h) fun x h1 => ∃ c, x = .bl c ∧ Q (.bl !c) h1) : SatX X (eNot a v h) Q := SatX.bind (s.imp fun x _ ⟨c, e, z⟩ => by subst e; exact ⟨z⟩)
theorem sa_tE {a : EM} {Q : Bool → Hm → Prop} (s : SatX X (a v h) fun x h1 => ∃ c, x = .bl c ∧ Q c h1) : SatX X (tE a v h) Q := SatX.bind (s.imp fun x _ ⟨c, e, z⟩ => by subst e; exact ⟨z⟩)
theorem sa_tAnd {a b : TM} {Q : Bool → Hm → Prop} (s : SatX X (a v h) fun c h1 => (c = true → SatX X (b v h1) Q) ∧ (c = false → Q false h1)) : SatX X (tAnd a b v h) Q := SatX.bind (s.imp fun c _ z => by cases c; exact ⟨z.2 rfl⟩; exact z.1 rfl)
theorem sa_tOr {a b : TM} {Q : Bool → Hm → Prop} (s : SatX X (a v h) fun c h1 => (c = false → SatX X (b v h1) Q) ∧ (c = true → Q true h1)) : SatX X (tOr a b v h) Q := SatX.bind (s.imp fun c _ z => by cases c; exact z.1 rfl; exact ⟨z.2 rfl⟩)
theorem sa_tNot {a : TM} {Q : Bool → Hm → Prop} (s : SatX X (a v h) fun c h1 => Q (!c) h1) : SatX X (tNot a v h) Q := SatX.bind (s.imp fun _ _ z => ⟨z⟩)
theorem sa_chain {g g' : D → D → Hm → R D} {fa fb fc : EM} (s : SatX X (fa v h) fun x h1 => SatX X (fb v h1) fun y h2 => SatX X (g x y h2) fun z h3 => ∃ c, z = .bl c ∧ (c = true → SatX X (fc v h3) fun w h4 => SatX X (g' y w h4) Q) ∧ (c = false → Q (.bl false) h3)) : SatX X (eChain g g' fa fb fc v h) Q :=
  SatX.bind (s.imp fun _ _ z => SatX.bind (z.imp fun _ _ y => SatX.bind (y.imp fun x _ ⟨c, e, w⟩ => by subst e; cases c; exact ⟨w.2 rfl⟩; exact SatX.bind (w.1 rfl))))
theorem sa_M {T : String} {g : MM} {o : EM} {a : AM} (s : SatX X (o v h) fun x h1 => isRc T x h1 = true ∧ SatX X (a v h1) fun xs h2 => SatX X (g x xs h2) Q) : SatX X (eM T g o a v h) Q := SatX.bind (s.imp fun _ _ z => by rw [if_pos z.1]; exact SatX.bind z.2)
theorem sa_Sl {a : EM} {lo hi : PM} (s : SatX X (a v h) fun x h1 => SatX X (lo v h1) fun l h2 => SatX X (hi v h2) fun u h3 => SatX X (opSl x l u h3) Q) : SatX X (eSl a lo hi v h) Q := SatX.bind (s.imp fun _ _ z => SatX.bind (z.imp fun _ _ y => SatX.bind y))
theorem sa_SlN {a : EM} {lo hi : PM} (s : SatX X (a v h) fun x h1 => SatX X (lo v h1) fun l h2 => SatX X (hi v h2) fun u h3 => SatX X (opSlN x l u h3) Q) : SatX X (eSlN a lo hi v h) Q := SatX.bind (s.imp fun _ _ z => SatX.bind (z.imp fun _ _ y => SatX.bind y))
theorem sa_pN {Q : Option Int → Hm → Prop} (q : Q none h) : SatX X (pN v h) Q := ⟨q⟩
theorem sa_pE {a : EM} {Q : Option Int → Hm → Prop} (s : SatX X (a v h) fun x h1 => ∃ i, x = .int i ∧ Q (some i) h1) : SatX X (pE a v h) Q := SatX.bind (s.imp fun x _ ⟨i, e, z⟩ => by subst e; exact ⟨z⟩)
/-! what is walked -/
theorem sa_wE {a : EM} {Q : Wk → Hm → Prop} (s : SatX X (a v h) fun x h1 => SatX X (wkOf x h1) Q) : SatX X (wE a v h) Q := SatX.bind s
theorem sa_wR1 {a : EM} {Q : Wk → Hm → Prop} (s : SatX X (a v h) fun x h1 => ∃ n, x = .int n ∧ -(2 ^ 62) ≤ n ∧ n < 2 ^ 62 ∧ Q ⟨(List.range n.toNat).map fun (i : Nat) => .int (i : Int), fun _ => true⟩ h1) : SatX X (wR1 a v h) Q := SatX.bind (s.imp fun x _ ⟨n, e, h1, h2, z⟩ => by
  subst e
  simp only [wRange]
  rw [if_pos ⟨by omega, by omega, h2, h1⟩]
  have e2 : (List.range (n - 0).toNat).map (fun (i : Nat) => D.int (0 + (i : Int))) = (List.range n.toNat).map fun (i : Nat) => D.int (i : Int) := by simp
  rw [e2]
  exact ⟨z⟩)
theorem sa_wR2 {a b : EM} {Q : Wk → Hm → Prop} (s : SatX X (a v h) fun x h1 => SatX X (b v h1) fun y h2 => ∃ m n, x = .int m ∧ y = .int n ∧ (-(2 ^ 62) ≤ m ∧ m < 2 ^ 62 ∧ -(2 ^ 62) ≤ n ∧ n < 2 ^ 62) ∧ Q ⟨(List.range (n - m).toNat).map fun (i : Nat) => .int (m + (i : Int)), fun _ => true⟩ h2) : SatX X (wR2 a b v h) Q :=
  SatX.bind (s.imp fun x _ z => SatX.bind (z.imp fun y _ ⟨m, n, e1, e2, hb, zz⟩ => by
    subst e1; subst e2
    simp only [wRange]
    rw [if_pos ⟨hb.2.1, hb.1, hb.2.2.2, hb.2.2.1⟩]
    exact ⟨zz⟩))
/-! statements -/
variable {N : Ev → Hm → Prop} {T : D → Hm → Prop} {B G : Ev → Hm → Prop} {Y : D → Ev → Hm → Prop}
theorem SatSX.imp {r : Fl} {N' : Ev → Hm → Prop} {T' : D → Hm → Prop} {B' G' : Ev → Hm → Prop} (s : SatSX Y r N T B G) (hn : ∀ v h, N v h → N' v h) (ht : ∀ d h, T d h → T' d h) (hb : ∀ v h, B v h → B' v h) (hg : ∀ v h, G v h → G' v h) : SatSX Y r N' T' B' G' := by
  cases r with
  | nx v h => exact ⟨hn _ _ s.out⟩
  | rt v h => exact ⟨ht _ _ s.out⟩
  | bk v h => exact ⟨hb _ _ s.out⟩
  | ct v h => exact ⟨hg _ _ s.out⟩
  | exc _ _ _ => exact ⟨s.out⟩
  | err => exact s.out.elim
theorem SatS.imp {r : Fl} {N' : Ev → Hm → Prop} {T' : D → Hm → Prop} {B' G' : Ev → Hm → Prop} (s : SatS r N T B G) (hn : ∀ v h, N v h → N' v h) (ht : ∀ d h, T d h → T' d h) (hb : ∀ v h, B v h → B' v h) (hg : ∀ v h, G v h → G' v h) : SatS r N' T' B' G' := SatSX.imp s hn ht hb hg
theorem ss_nx (q : N v h) : SatSX Y (sNx v h) N T B G := ⟨q⟩
theorem ss_bk (q : B v h) : SatSX Y (sBreak v h) N T B G := ⟨q⟩
theorem ss_ct (q : G v h) : SatSX Y (sCont v h) N T B G := ⟨q⟩
theorem ss_seq {a b : SM} (s : SatSX Y (a v h) (fun v1 h1 => SatSX Y (b v1 h1) N T B G) T B G) : SatSX Y (sSeq a b v h) N T B G := by
  unfold sSeq
  generalize a v h = o at s
  cases o with
  | nx _ _ => exact s.out
  | rt _ _ => exact ⟨s.out⟩
  | bk _ _ => exact ⟨s.out⟩
  | ct _ _ => exact ⟨s.out⟩
  | exc _ _ _ => exact ⟨s.out⟩
  | err => exact s.out.elim
theorem ss_asg {i : Nat} {e : EM} (s : SatX (fun x h1 => Y x v h1) (e v h) fun d h1 => N (v.set i (some d)) h1) : SatSX Y (sAsg (gN i) e v h) N T B G := by
  unfold sAsg
  generalize e v h = o at s
  cases o with
  | ok _ _ => exact ⟨s.out⟩
  | exc _ _ => exact ⟨s.out⟩
  | err => exact s.out.elim
theorem ss_asgT {is : List Nat} {e : EM} (s : SatX (fun x h1 => Y x v h1) (e v h) fun d h1 => ∃ l v1, d = .tup l ∧ fillAll is l v = some v1 ∧ N v1 h1) : SatSX Y (sAsg (gT is) e v h) N T B G := by
  unfold sAsg
  generalize e v h = o at s
  cases o with
  | ok d _ =>
    obtain ⟨l, v1, rfl, e2, z⟩ := s.out
    simp only [gT, e2]
    exact ⟨z⟩
  | exc _ _ => exact ⟨s.out⟩
  | err => exact s.out.elim
theorem ss_expr {e : EM} (s : SatX (fun x h1 => Y x v h1) (e v h) fun _ h1 => N v h1) : SatSX Y (sExpr e v h) N T B G := by
  unfold sExpr
  generalize e v h = o at s
  cases o with
  | ok _ _ => exact ⟨s.out⟩
  | exc _ _ => exact ⟨s.out⟩
  | err => exact s.out.elim
theorem ss_ret {e : EM} (s : SatX (fun x h1 => Y x v h1) (e v h) T) : SatSX Y (sRet e v h) N T B G := by
  unfold sRet
  generalize e v h = o at s
  cases o with
  | ok _ _ => exact ⟨s.out⟩
  | exc _ _ => exact ⟨s.out⟩
  | err => exact s.out.elim
theorem ss_retN (q : T .non h) : SatSX Y (sRetN v h) N T B G := ⟨q⟩
theorem ss_if {t : TM} {a b : SM} (s : SatX (fun x h1 => Y x v h1) (t v h) fun c h1 => (c = true → SatSX Y (a v h1) N T B G) ∧ (c = false → SatSX Y (b v h1) N T B G)) : SatSX Y (sIf t a b v h) N T B G := by
  unfold sIf
  generalize t v h = o at s
  cases o with
  | ok c h1 =>
    cases c
    · exact s.out.2 rfl
    · exact s.out.1 rfl
  | exc _ _ => exact ⟨s.out⟩
  | err => exact s.out.elim
theorem ss_put {o i e : EM} (s : SatX (fun x h1 => Y x v h1) (e v h) fun x h1 => SatX (fun x h1 => Y x v h1) (o v h1) fun a h2 => SatX (fun x h1 => Y x v h1) (i v h2) fun k h3 => PutTo a k x h3 (N v)) : SatSX Y (sPut o i e v h) N T B G := by
  have : SatX (fun x h1 => Y x v h1) ((e v h).bind (fun x h1 => (o v h1).bind fun o h2 => (i v h2).bind fun i h3 => match putIx o i x h3 with | some h4 => R.ok () h4 | none => .err)) fun _ h4 => N v h4 :=
    SatX.bind (s.imp fun _ _ z => SatX.bind (z.imp fun _ _ y => SatX.bind (y.imp fun a h w => by
      unfold PutTo at w
      split at w
      · exact ⟨w⟩
      · exact w.elim)))
  unfold sPut
  generalize (e v h).bind (fun x h1 => (o v h1).bind fun o h2 => (i v h2).bind fun i h3 => match putIx o i x h3 with | some h4 => R.ok () h4 | none => .err) = r at this ⊢
  cases r with
  | ok _ _ => exact ⟨this.out⟩
  | exc _ _ => exact ⟨this.out⟩
  | err => exact this.out.elim
/-- raise -/
theorem ss_rs0 {c : Str} (q : Y (.exn c []) v h) : SatSX Y (sRs0 c v h) N T B G := ⟨q⟩
theorem ss_rs1 {c f : Str} {e : EM} (s : SatX (fun x h1 => Y x v h1) (e v h) fun d h1 => Y (.exn c [(f, d)]) v h1) : SatSX Y (sRs1 c f e v h) N T B G := by
  unfold sRs1
  generalize e v h = o at s
  cases o with
  | ok _ _ => exact ⟨s.out⟩
  | exc _ _ => exact ⟨s.out⟩
  | err => exact s.out.elim
/-- try -/
theorem ss_try {b : SM} {t : Str → Bool} {k : D → SM} (s : SatSX (fun x v1 h1 => ∃ c fs, x = .exn c fs ∧ (t c = true → SatS (k x v1 h1) N T B G) ∧ (t c = false → Y x v1 h1)) (b v h) N T B G) : SatSX Y (sTry b t k v h) N T B G := by
  unfold sTry
  generalize b v h = o at s
  cases o with
  | nx _ _ => exact ⟨s.out⟩
  | rt _ _ => exact ⟨s.out⟩
  | bk _ _ => exact ⟨s.out⟩
  | ct _ _ => exact ⟨s.out⟩
  | exc x v1 h1 =>
    obtain ⟨c, fs, rfl, h2, h3⟩ := s.out
    simp only
    cases ht : t c with
    | true =>
      have := h2 ht
      simp only [if_true]
      generalize k (.exn c fs) v1 h1 = o at this
      cases o with
      | exc _ _ _ => exact this.out.elim
      | err => exact this.out.elim
      | nx _ _ => exact ⟨this.out⟩
      | rt _ _ => exact ⟨this.out⟩
      | bk _ _ => exact ⟨this.out⟩
      | ct _ _ => exact ⟨this.out⟩
    | false => exact ⟨h3 ht⟩
  | err => exact s.out.elim
theorem ss_kAs {i : Nat} {k : SM} {x : D} (s : SatS (k (v.set i (some x)) h) (fun v1 h1 => N (v1.set i none) h1) T (fun v1 h1 => B (v1.set i none) h1) (fun v1 h1 => G (v1.set i none) h1)) : SatS (kAs i k x v h) N T B G := by
  unfold kAs
  generalize k (v.set i (some x)) h = o at s
  cases o with
  | nx _ _ => exact ⟨s.out⟩
  | rt _ _ => exact ⟨s.out⟩
  | bk _ _ => exact ⟨s.out⟩
  | ct _ _ => exact ⟨s.out⟩
  | exc _ _ _ => exact s.out.elim
  | err => exact s.out.elim
/-! by places -/
theorem sa_V0 {d : D} {r : Ev} (q : Q d h) : SatX X (eV 0 (some d :: r) h) Q := ⟨q⟩
theorem sa_V1 {x0 : Option D} {d : D} {r : Ev} (q : Q d h) : SatX X (eV 1 (x0 :: some d :: r) h) Q := ⟨q⟩
theorem sa_V2 {x0 x1 : Option D} {d : D} {r : Ev} (q : Q d h) : SatX X (eV 2 (x0 :: x1 :: some d :: r) h) Q := ⟨q⟩
theorem sa_V3 {x0 x1 x2 : Option D} {d : D} {r : Ev} (q : Q d h) : SatX X (eV 3 (x0 :: x1 :: x2 :: some d :: r) h) Q := ⟨q⟩
theorem sa_V4 {x0 x1 x2 x3 : Option D} {d : D} {r : Ev} (q : Q d h) : SatX X (eV 4 (x0 :: x1 :: x2 :: x3 :: some d :: r) h) Q := ⟨q⟩
theorem sa_V5 {x0 x1 x2 x3 x4 : Option D} {d : D} {r : Ev} (q : Q d h) : SatX X (eV 5 (x0 :: x1 :: x2 :: x3 :: x4 :: some d :: r) h) Q := ⟨q⟩
theorem sa_V6 {x0 x1 x2 x3 x4 x5 : Option D} {d : D} {r : Ev} (q : Q d h) : SatX X (eV 6 (x0 :: x1 :: x2 :: x3 :: x4 :: x5 :: some d :: r) h) Q := ⟨q⟩
theorem sa_V7 {x0 x1 x2 x3 x4 x5 x6 : Option D} {d : D} {r : Ev} (q : Q d h) : SatX X (eV 7 (x0 :: x1 :: x2 :: x3 :: x4 :: x5 :: x6 :: some d :: r) h) Q := ⟨q⟩
theorem sa_V8 {x0 x1 x2 x3 x4 x5 x6 x7 : Option D} {d : D} {r : Ev} (q : Q d h) : SatX X (eV 8 (x0 :: x1 :: x2 :: x3 :: x4 :: x5 :: x6 :: x7 :: some d :: r) h) Q := ⟨q⟩
theorem sa_V9 {x0 x1 x2 x3 x4 x5 x6 x7 x8 : Option D} {d : D} {r : Ev} (q : Q d h) : SatX X (eV 9 (x0 :: x1 :: x2 :: x3 :: x4 :: x5 :: x6 :: x7 :: x8 :: some d :: r) h) Q := ⟨q⟩
theorem sa_V10 {x0 x1 x2 x3 x4 x5 x6 x7 x8 x9 : Option D} {d : D} {r : Ev} (q : Q d h) : SatX X (eV 10 (x0 :: x1 :: x2 :: x3 :: x4 :: x5 :: x6 :: x7 :: x8 :: x9 :: some d :: r) h) Q := ⟨q⟩
theorem sa_V11 {x0 x1 x2 x3 x4 x5 x6 x7 x8 x9 x10 : Option D} {d : D} {r : Ev} (q : Q d h) : SatX X (eV 11 (x0 :: x1 :: x2 :: x3 :: x4 :: x5 :: x6 :: x7 :: x8 :: x9 :: x10 :: some d :: r) h) Q := ⟨q⟩
theorem sa_V12 {x0 x1 x2 x3 x4 x5 x6 x7 x8 x9 x10 x11 : Option D} {d : D} {r : Ev} (q : Q d h) : SatX X (eV 12 (x0 :: x1 :: x2 :: x3 :: x4 :: x5 :: x6 :: x7 :: x8 :: x9 :: x10 :: x11 :: some d :: r) h) Q := ⟨q⟩
theorem sa_V13 {x0 x1 x2 x3 x4 x5 x6 x7 x8 x9 x10 x11 x12 : Option D} {d : D} {r : Ev} (q : Q d h) : SatX X (eV 13 (x0 :: x1 :: x2 :: x3 :: x4 :: x5 :: x6 :: x7 :: x8 :: x9 :: x10 :: x11 :: x12 :: some d :: r) h) Q := ⟨q⟩
theorem sa_V14 {x0 x1 x2 x3 x4 x5 x6 x7 x8 x9 x10 x11 x12 x13 : Option D} {d : D} {r : Ev} (q : Q d h) : SatX X (eV 14 (x0 :: x1 :: x2 :: x3 :: x4 :: x5 :: x6 :: x7 :: x8 :: x9 :: x10 :: x11 :: x12 :: x13 :: some d :: r) h) Q := ⟨q⟩
theorem sa_V15 {x0 x1 x2 x3 x4 x5 x6 x7 x8 x9 x10 x11 x12 x13 x14 : Option D} {d : D} {r : Ev} (q : Q d h) : SatX X (eV 15 (x0 :: x1 :: x2 :: x3 :: x4 :: x5 :: x6 :: x7 :: x8 :: x9 :: x10 :: x11 :: x12 :: x13 :: x14 :: some d :: r) h) Q := ⟨q⟩
theorem ss_asg0 {x0 : Option D} {r : Ev} {e : EM} (s : SatX (fun x h1 => Y x (x0 :: r) h1) (e (x0 :: r) h) fun d h1 => N (some d :: r) h1) : SatSX Y (sAsg (gN 0) e (x0 :: r) h) N T B G := ss_asg s
theorem ss_asg1 {x0 x1 : Option D} {r : Ev} {e : EM} (s : SatX (fun x h1 => Y x (x0 :: x1 :: r) h1) (e (x0 :: x1 :: r) h) fun d h1 => N (x0 :: some d :: r) h1) : SatSX Y (sAsg (gN 1) e (x0 :: x1 :: r) h) N T B G := ss_asg s
theorem ss_asg2 {x0 x1 x2 : Option D} {r : Ev} {e : EM} (s : SatX (fun x h1 => Y x (x0 :: x1 :: x2 :: r) h1) (e (x0 :: x1 :: x2 :: r) h) fun d h1 => N (x0 :: x1 :: some d :: r) h1) : SatSX Y (sAsg (gN 2) e (x0 :: x1 :: x2 :: r) h) N T B G := ss_asg s
theorem ss_asg3 {x0 x1 x2 x3 : Option D} {r : Ev} {e : EM} (s : SatX (fun x h1 => Y x (x0 :: x1 :: x2 :: x3 :: r) h1) (e (x0 :: x1 :: x2 :: x3 :: r) h) fun d h1 => N (x0 :: x1 :: x2 :: some d :: r) h1) : SatSX Y (sAsg (gN 3) e (x0 :: x1 :: x2 :: x3 :: r) h) N T B G := ss_asg s
theorem ss_asg4 {x0 x1 x2 x3 x4 : Option D} {r : Ev} {e : EM} (s : SatX (fun x h1 => Y x (x0 :: x1 :: x2 :: x3 :: x4 :: r) h1) (e (x0 :: x1 :: x2 :: x3 :: x4 :: r) h) fun d h1 => N (x0 :: x1 :: x2 :: x3 :: some d :: r) h1) : SatSX Y (sAsg (gN 4) e (x0 :: x1 :: x2 :: x3 :: x4 :: r) h) N T B G := ss_asg s
theorem ss_asg5 {x0 x1 x2 x3 x4 x5 : Option D} {r : Ev} {e : EM} (s : SatX (fun x h1 => Y x (x0 :: x1 :: x2 :: x3 :: x4 :: x5 :: r) h1) (e (x0 :: x1 :: x2 :: x3 :: x4 :: x5 :: r) h) fun d h1 => N (x0 :: x1 :: x2 :: x3 :: x4 :: some d :: r) h1) : SatSX Y (sAsg (gN 5) e (x0 :: x1 :: x2 :: x3 :: x4 :: x5 :: r) h) N T B G := ss_asg s
theorem ss_asg6 {x0 x1 x2 x3 x4 x5 x6 : Option D} {r : Ev} {e : EM} (s : SatX (fun x h1 => Y x (x0 :: x1 :: x2 :: x3 :: x4 :: x5 :: x6 :: r) h1) (e (x0 :: x1 :: x2 :: x3 :: x4 :: x5 :: x6 :: r) h) fun d h1 => N (x0 :: x1 :: x2 :: x3 :: x4 :: x5 :: some d :: r) h1) : SatSX Y (sAsg (gN 6) e (x0 :: x1 :: x2 :: x3 :: x4 :: x5 :: x6 :: r) h) N T B G := ss_asg s
theorem ss_asg7 {x0 x1 x2 x3 x4 x5 x6 x7 : Option D} {r : Ev} {e : EM} (s : SatX (fun x h1 => Y x (x0 :: x1 :: x2 :: x3 :: x4 :: x5 :: x6 :: x7 :: r) h1) (e (x0 :: x1 :: x2 :: x3 :: x4 :: x5 :: x6 :: x7 :: r) h) fun d h1 => N (x0 :: x1 :: x2 :: x3 :: x4 :: x5 :: x6 :: some d :: r) h1) : SatSX Y (sAsg (gN 7) e (x0 :: x1 :: x2 :: x3 :: x4 :: x5 :: x6 :: x7 :: r) h) N T B G := ss_asg s
theorem ss_asg8 {x0 x1 x2 x3 x4 x5 x6 x7 x8 : Option D} {r : Ev} {e : EM} (s : SatX (fun x h1 => Y x (x0 :: x1 :: x2 :: x3 :: x4 :: x5 :: x6 :: x7 :: x8 :: r) h1) (e (x0 :: x1 :: x2 :: x3 :: x4 :: x5 :: x6 :: x7 :: x8 :: r) h) fun d h1 => N (x0 :: x1 :: x2 :: x3 :: x4 :: x5 :: x6 :: x7 :: some d :: r) h1) : SatSX Y (sAsg (gN 8) e (x0 :: x1 :: x2 :: x3 :: x4 :: x5 :: x6 :: x7 :: x8 :: r) h) N T B G := ss_asg s
theorem ss_asg9 {x0 x1 x2 x3 x4 x5 x6 x7 x8 x9 : Option D} {r : Ev} {e : EM} (s : SatX (fun x h1 => Y x (x0 :: x1 :: x2 :: x3 :: x4 :: x5 :: x6 :: x7 :: x8 :: x9 :: r) h1) (e (x0 :: x1 :: x2 :: x3 :: x4 :: x5 :: x6 :: x7 :: x8 :: x9 :: r) h) fun d h1 => N (x0 :: x1 :: x2 :: x3 :: x4 :: x5 :: x6 :: x7 :: x8 :: some d :: r) h1) : SatSX Y (sAsg (gN 9) e (x0 :: x1 :: x2 :: x3 :: x4 :: x5 :: x6 :: x7 :: x8 :: x9 :: r) h) N T B G := ss_asg s
theorem ss_asg10 {x0 x1 x2 x3 x4 x5 x6 x7 x8 x9 x10 : Option D} {r : Ev} {e : EM} (s : SatX (fun x h1 => Y x (x0 :: x1 :: x2 :: x3 :: x4 :: x5 :: x6 :: x7 :: x8 :: x9 :: x10 :: r) h1) (e (x0 :: x1 :: x2 :: x3 :: x4 :: x5 :: x6 :: x7 :: x8 :: x9 :: x10 :: r) h) fun d h1 => N (x0 :: x1 :: x2 :: x3 :: x4 :: x5 :: x6 :: x7 :: x8 :: x9 :: some d :: r) h1) : SatSX Y (sAsg (gN 10) e (x0 :: x1 :: x2 :: x3 :: x4 :: x5 :: x6 :: x7 :: x8 :: x9 :: x10 :: r) h) N T B G := ss_asg s
theorem ss_asg11 {x0 x1 x2 x3 x4 x5 x6 x7 x8 x9 x10 x11 : Option D} {r : Ev} {e : EM} (s : SatX (fun x h1 => Y x (x0 :: x1 :: x2 :: x3 :: x4 :: x5 :: x6 :: x7 :: x8 :: x9 :: x10 :: x11 :: r) h1) (e (x0 :: x1 :: x2 :: x3 :: x4 :: x5 :: x6 :: x7 :: x8 :: x9 :: x10 :: x11 :: r) h) fun d h1 => N (x0 :: x1 :: x2 :: x3 :: x4 :: x5 :: x6 :: x7 :: x8 :: x9 :: x10 :: some d :: r) h1) : SatSX Y (sAsg (gN 11) e (x0 :: x1 :: x2 :: x3 :: x4 :: x5 :: x6 :: x7 :: x8 :: x9 :: x10 :: x11 :: r) h) N T B G := ss_asg s
theorem ss_asg12 {x0 x1 x2 x3 x4 x5 x6 x7 x8 x9 x10 x11 x12 : Option D} {r : Ev} {e : EM} (s : SatX (fun x h1 => Y x (x0 :: x1 :: x2 :: x3 :: x4 :: x5 :: x6 :: x7 :: x8 :: x9 :: x10 :: x11 :: x12 :: r) h1) (e (x0 :: x1 :: x2 :: x3 :: x4 :: x5 :: x6 :: x7 :: x8 :: x9 :: x10 :: x11 :: x12 :: r) h) fun d h1 => N (x0 :: x1 :: x2 :: x3 :: x4 :: x5 :: x6 :: x7 :: x8 :: x9 :: x10 :: x11 :: some d :: r) h1) : SatSX Y (sAsg (gN 12) e (x0 :: x1 :: x2 :: x3 :: x4 :: x5 :: x6 :: x7 :: x8 :: x9 :: x10 :: x11 :: x12 :: r) h) N T B G := ss_asg s
theorem ss_asg13 {x0 x1 x2 x3 x4 x5 x6 x7 x8 x9 x10 x11 x12 x13 : Option D} {r : Ev} {e : EM} (s : SatX (fun x h1 => Y x (x0 :: x1 :: x2 :: x3 :: x4 :: x5 :: x6 :: x7 :: x8 :: x9 :: x10 :: x11 :: x12 :: x13 :: r) h1) (e (x0 :: x1 :: x2 :: x3 :: x4 :: x5 :: x6 :: x7 :: x8 :: x9 :: x10 :: x11 :: x12 :: x13 :: r) h) fun d h1 => N (x0 :: x1 :: x2 :: x3 :: x4 :: x5 :: x6 :: x7 :: x8 :: x9 :: x10 :: x11 :: x12 :: some d :: r) h1) : SatSX Y (sAsg (gN 13) e (x0 :: x1 :: x2 :: x3 :: x4 :: x5 :: x6 :: x7 :: x8 :: x9 :: x10 :: x11 :: x12 :: x13 :: r) h) N T B G := ss_asg s
theorem ss_asg14 {x0 x1 x2 x3 x4 x5 x6 x7 x8 x9 x10 x11 x12 x13 x14 : Option D} {r : Ev} {e : EM} (s : SatX (fun x h1 => Y x (x0 :: x1 :: x2 :: x3 :: x4 :: x5 :: x6 :: x7 :: x8 :: x9 :: x10 :: x11 :: x12 :: x13 :: x14 :: r) h1) (e (x0 :: x1 :: x2 :: x3 :: x4 :: x5 :: x6 :: x7 :: x8 :: x9 :: x10 :: x11 :: x12 :: x13 :: x14 :: r) h) fun d h1 => N (x0 :: x1 :: x2 :: x3 :: x4 :: x5 :: x6 :: x7 :: x8 :: x9 :: x10 :: x11 :: x12 :: x13 :: some d :: r) h1) : SatSX Y (sAsg (gN 14) e (x0 :: x1 :: x2 :: x3 :: x4 :: x5 :: x6 :: x7 :: x8 :: x9 :: x10 :: x11 :: x12 :: x13 :: x14 :: r) h) N T B G := ss_asg s
theorem ss_asg15 {x0 x1 x2 x3 x4 x5 x6 x7 x8 x9 x10 x11 x12 x13 x14 x15 : Option D} {r : Ev} {e : EM} (s : SatX (fun x h1 => Y x (x0 :: x1 :: x2 :: x3 :: x4 :: x5 :: x6 :: x7 :: x8 :: x9 :: x10 :: x11 :: x12 :: x13 :: x14 :: x15 :: r) h1) (e (x0 :: x1 :: x2 :: x3 :: x4 :: x5 :: x6 :: x7 :: x8 :: x9 :: x10 :: x11 :: x12 :: x13 :: x14 :: x15 :: r) h) fun d h1 => N (x0 :: x1 :: x2 :: x3 :: x4 :: x5 :: x6 :: x7 :: x8 :: x9 :: x10 :: x11 :: x12 :: x13 :: x14 :: some d :: r) h1) : SatSX Y (sAsg (gN 15) e (x0 :: x1 :: x2 :: x3 :: x4 :: x5 :: x6 :: x7 :: x8 :: x9 :: x10 :: x11 :: x12 :: x13 :: x14 :: x15 :: r) h) N T B G := ss_asg s
/-- a for: an invariant over the turn -/
theorem forL_inv {g : TgM} {b : SM} {chk : Hm → Bool} (Inv : Nat → Ev → Hm → Prop) : ∀ (its : List D) (k : Nat) (v : Ev) (h : Hm), Inv k v h →
    (∀ (i : Nat) (x : D) (v : Ev) (h : Hm), its[i]? = some x → Inv (k + i) v h → chk h = true ∧ ∃ v1, g x v h = some v1 ∧ SatSX Y (b v1 h) (Inv (k + i + 1)) T N (Inv (k + i + 1))) → (∀ v h, Inv (k + its.length) v h → chk h = true ∧ N v h) → SatSX Y (forL g b chk its v h) N T B G
  | [], k, v, h, h0, _, hd => by
    have := hd v h h0
    simp only [forL, this.1, if_true]
    exact ⟨this.2⟩
  | x :: xs, k, v, h, h0, hs, hd => by
    obtain ⟨hc, v1, e, s⟩ := hs 0 x v h rfl h0
    simp only [forL, hc, if_true, e]
    have rec_ : ∀ v2 h2, Inv (k + 1) v2 h2 → SatSX Y (forL g b chk xs v2 h2) N T B G := fun v2 h2 z =>
      forL_inv Inv xs (k + 1) v2 h2 z (fun i y v h e hi => by
        have := hs (i + 1) y v h (by simpa using e) (by rw [show k + (i + 1) = k + 1 + i by omega]; exact hi)
        rw [show k + (i + 1) = k + 1 + i by omega] at this
        exact this) (fun v h z => hd v h (by rw [List.length_cons, show k + (xs.length + 1) = k + 1 + xs.length by omega]; exact z))
    generalize b v1 h = o at s ⊢
    cases o with
    | nx v2 h2 => exact rec_ v2 h2 s.out
    | ct v2 h2 => exact rec_ v2 h2 s.out
    | bk v2 h2 => exact ⟨s.out⟩
    | rt _ _ => exact ⟨s.out⟩
    | exc _ _ _ => exact ⟨s.out⟩
    | err => exact s.out.elim
theorem ss_for {g : TgM} {w : Ev → Hm → R Wk} {b : SM} (s : SatX (fun x h1 => Y x v h1) (w v h) fun k h1 => ∃ Inv : Nat → Ev → Hm → Prop, Inv 0 v h1 ∧
    (∀ (i : Nat) (x : D) (v : Ev) (h : Hm), k.its[i]? = some x → Inv i v h → k.chk h = true ∧ ∃ v1, g x v h = some v1 ∧ SatSX Y (b v1 h) (Inv (i + 1)) T N (Inv (i + 1))) ∧ (∀ v h, Inv k.its.length v h → k.chk h = true ∧ N v h)) : SatSX Y (sFor g w b v h) N T B G := by
  unfold sFor
  generalize w v h = o at s
  cases o with
  | exc _ _ => exact ⟨s.out⟩
  | err => exact s.out.elim
  | ok k h1 =>
  obtain ⟨Iv, h0, hs, hd⟩ := s.out
  exact forL_inv Iv k.its 0 v h1 h0 (fun i x v h e hi => by rw [Nat.zero_add] at hi ⊢; exact hs i x v h e hi) (fun v h z => hd v h (by rw [Nat.zero_add] at z; exact z))
/-- a while: an invariant and a number that falls -/
theorem whL_inv {t : TM} {b : SM} (Inv : Ev → Hm → Prop) (mu : Ev → Hm → Nat) (hs : ∀ v h, Inv v h → SatX (fun x h1 => Y x v h1) (t v h) fun c h1 => (c = true → SatSX Y (b v h1) (fun v2 h2 => Inv v2 h2 ∧ mu v2 h2 < mu v h) T N (fun v2 h2 => Inv v2 h2 ∧ mu v2 h2 < mu v h)) ∧ (c = false → N v h1)) :
    ∀ (n : Nat) (v : Ev) (h : Hm), Inv v h → mu v h < n → SatSX Y (whL t b n v h) N T B G
  | 0, v, h, _, hn => by omega
  | n + 1, v, h, hi, hn => by
    have s := hs v h hi
    unfold whL
    generalize t v h = o at s
    cases o with
    | exc _ _ => exact ⟨s.out⟩
    | err => exact s.out.elim
    | ok c h1 =>
    obtain ⟨s1, s2⟩ := s.out
    cases c with
    | false => exact ⟨s2 rfl⟩
    | true =>
      have s2 := s1 rfl
      simp only
      generalize b v h1 = q at s2 ⊢
      cases q with
      | nx v2 h2 => exact whL_inv Inv mu hs n v2 h2 s2.out.1 (by have := s2.out.2; omega)
      | ct v2 h2 => exact whL_inv Inv mu hs n v2 h2 s2.out.1 (by have := s2.out.2; omega)
      | bk v2 h2 => exact ⟨s2.out⟩
      | rt _ _ => exact ⟨s2.out⟩
      | exc _ _ _ => exact ⟨s2.out⟩
      | err => exact s2.out.elim
theorem ss_wh {t : TM} {b : SM} (Inv : Ev → Hm → Prop) (mu : Ev → Hm → Nat) (h0 : Inv v h) (hm : mu v h < 1000000) (hs : ∀ v h, Inv v h → SatX (fun x h1 => Y x v h1) (t v h) fun c h1 => (c = true → SatSX Y (b v h1) (fun v2 h2 => Inv v2 h2 ∧ mu v2 h2 < mu v h) T N (fun v2 h2 => Inv v2 h2 ∧ mu v2 h2 < mu v h)) ∧ (c = false → N v h1)) : SatSX Y (sWh t b v h) N T B G :=
  whL_inv Inv mu hs _ v h h0 hm
/-- a comprehension: an invariant over the turn and the items made -/
theorem lcL_inv {g : TgM} {t : TM} {e : EM} {chk : Hm → Bool} {v0 : Ev} (Inv : Nat → List D → Hm → Prop) {Q : List D → Hm → Prop} : ∀ (its : List D) (k : Nat) (acc : List D) (h : Hm), Inv k acc h →
    (∀ (i : Nat) (x : D) (acc : List D) (h : Hm), its[i]? = some x → Inv (k + i) acc h → chk h = true ∧ ∃ v1, g x v0 h = some v1 ∧ Sat (t v1 h) fun c h1 => (c = true → Sat (e v1 h1) fun y h2 => Inv (k + i + 1) (acc ++ [y]) h2) ∧ (c = false → Inv (k + i + 1) acc h1)) →
    (∀ acc h, Inv (k + its.length) acc h → chk h = true ∧ Q acc h) → SatX X (lcL g t e chk v0 its h) fun ys h1 => Q (acc ++ ys) h1
  | [], k, acc, h, h0, _, hd => by
    have := hd acc h h0
    simp only [lcL, this.1, if_true]
    refine ⟨?_⟩
    show Q (acc ++ []) h
    rw [List.append_nil]; exact this.2
  | x :: xs, k, acc, h, h0, hs, hd => by
    obtain ⟨hc, v1, eg, s⟩ := hs 0 x acc h rfl h0
    simp only [lcL, hc, if_true, eg]
    have rec_ : ∀ acc2 h2, Inv (k + 1) acc2 h2 → SatX X (lcL g t e chk v0 xs h2) fun ys h1 => Q (acc2 ++ ys) h1 := fun acc2 h2 z =>
      lcL_inv Inv xs (k + 1) acc2 h2 z (fun i y acc h e hi => by
        have := hs (i + 1) y acc h (by simpa using e) (by rw [show k + (i + 1) = k + 1 + i by omega]; exact hi)
        rw [show k + (i + 1) = k + 1 + i by omega] at this
        exact this) (fun acc h z => hd acc h (by rw [List.length_cons, show k + (xs.length + 1) = k + 1 + xs.length by omega]; exact z))
    refine SatX.bind ((SatX.nx (X := X) s).imp fun c h1 z => ?_)
    cases c with
    | false => exact rec_ acc h1 (z.2 rfl)
    | true =>
      refine SatX.bind ((SatX.nx (X := X) (z.1 rfl)).imp fun y h2 w => ?_)
      refine SatX.bind ((rec_ (acc ++ [y]) h2 w).imp fun ys h3 q => ?_)
      refine ⟨?_⟩
      show Q (acc ++ (y :: ys)) h3
      rw [List.append_assoc] at q
      exact q
theorem sa_Lc {own : List Nat} {g : TgM} {w : Ev → Hm → R Wk} {t : TM} {e : EM} (s : SatX X (w v h) fun k h1 => k.its.length ≤ 16777215 ∧ ∃ Inv : Nat → List D → Hm → Prop, Inv 0 [] h1 ∧
    (∀ (i : Nat) (x : D) (acc : List D) (h : Hm), k.its[i]? = some x → Inv i acc h → k.chk h = true ∧ ∃ v1, g x (wipeE v own) h = some v1 ∧ Sat (t v1 h) fun c h1 => (c = true → Sat (e v1 h1) fun y h2 => Inv (i + 1) (acc ++ [y]) h2) ∧ (c = false → Inv (i + 1) acc h1)) ∧
    (∀ acc h, Inv k.its.length acc h → k.chk h = true ∧ Q (.lst acc) h)) : SatX X (eLc own g w t e v h) Q := by
  refine SatX.bind (s.imp fun k h1 ⟨hl, Iv, h0, hs, hd⟩ => ?_)
  rw [if_pos hl]
  refine SatX.bind ((lcL_inv (Q := fun acc h => Q (.lst acc) h) Iv k.its 0 [] h1 h0 (fun i x acc h e hi => by rw [Nat.zero_add] at hi ⊢; exact hs i x acc h e hi) (fun acc h z => hd acc h (by rw [Nat.zero_add] at z; exact z))).imp fun ys h2 q => ?_)
  rw [List.nil_append] at q
  exact ⟨q⟩
theorem sa_tYes {Q : Bool → Hm → Prop} (q : Q true h) : SatX X (tYes v h) Q := ⟨q⟩
/-- a comprehension: an invariant over the turn and the items made -/
theorem lcLX_inv {g : TgM} {t : TM} {e : EM} {chk : Hm → Bool} {v0 : Ev} (Inv : Nat → List D → Hm → Prop) {Q : List D → Hm → Prop} : ∀ (its : List D) (k : Nat) (acc : List D) (h : Hm), Inv k acc h →
    (∀ (i : Nat) (x : D) (acc : List D) (h : Hm), its[i]? = some x → Inv (k + i) acc h → chk h = true ∧ ∃ v1, g x v0 h = some v1 ∧ Sat (t v1 h) fun c h1 => (c = true → SatX X (e v1 h1) fun y h2 => Inv (k + i + 1) (acc ++ [y]) h2) ∧ (c = false → Inv (k + i + 1) acc h1)) →
    (∀ acc h, Inv (k + its.length) acc h → chk h = true ∧ Q acc h) → SatX X (lcLX g t e chk v0 its h) fun ys h1 => Q (acc ++ ys) h1
  | [], k, acc, h, h0, _, hd => by
    have := hd acc h h0
    simp only [lcLX, this.1, if_true]
    refine ⟨?_⟩
    show Q (acc ++ []) h
    rw [List.append_nil]; exact this.2
  | x :: xs, k, acc, h, h0, hs, hd => by
    obtain ⟨hc, v1, eg, s⟩ := hs 0 x acc h rfl h0
    simp only [lcLX, hc, if_true, eg]
    have rec_ : ∀ acc2 h2, Inv (k + 1) acc2 h2 → SatX X (lcLX g t e chk v0 xs h2) fun ys h1 => Q (acc2 ++ ys) h1 := fun acc2 h2 z =>
      lcLX_inv Inv xs (k + 1) acc2 h2 z (fun i y acc h e hi => by
        have := hs (i + 1) y acc h (by simpa using e) (by rw [show k + (i + 1) = k + 1 + i by omega]; exact hi)
        rw [show k + (i + 1) = k + 1 + i by omega] at this
        exact this) (fun acc h z => hd acc h (by rw [List.length_cons, show k + (xs.length + 1) = k + 1 + xs.length by omega]; exact z))
    refine SatX.bind ((SatX.nx (X := X) s).imp fun c h1 z => ?_)
    cases c with
    | false => exact rec_ acc h1 (z.2 rfl)
    | true =>
      refine SatX.bind ((z.1 rfl).imp fun y h2 w => ?_)
      refine SatX.bind ((rec_ (acc ++ [y]) h2 w).imp fun ys h3 q => ?_)
      refine ⟨?_⟩
      show Q (acc ++ (y :: ys)) h3
      rw [List.append_assoc] at q
      exact q
theorem sa_LcX {own : List Nat} {g : TgM} {w : Ev → Hm → R Wk} {t : TM} {e : EM} (s : SatX X (w v h) fun k h1 => k.its.length ≤ 16777215 ∧ ∃ Inv : Nat → List D → Hm → Prop, Inv 0 [] h1 ∧
    (∀ (i : Nat) (x : D) (acc : List D) (h : Hm), k.its[i]? = some x → Inv i acc h → k.chk h = true ∧ ∃ v1, g x (wipeE v own) h = some v1 ∧ Sat (t v1 h) fun c h1 => (c = true → SatX X (e v1 h1) fun y h2 => Inv (i + 1) (acc ++ [y]) h2) ∧ (c = false → Inv (i + 1) acc h1)) ∧
    (∀ acc h, Inv k.its.length acc h → k.chk h = true ∧ Q (.lst acc) h)) : SatX X (eLcX own g w t e v h) Q := by
  refine SatX.bind (s.imp fun k h1 ⟨hl, Iv, h0, hs, hd⟩ => ?_)
  rw [if_pos hl]
  refine SatX.bind ((lcLX_inv (Q := fun acc h => Q (.lst acc) h) Iv k.its 0 [] h1 h0 (fun i x acc h e hi => by rw [Nat.zero_add] at hi ⊢; exact hs i x acc h e hi) (fun acc h z => hd acc h (by rw [Nat.zero_add] at z; exact z))).imp fun ys h2 q => ?_)
  rw [List.nil_append] at q
  exact ⟨q⟩
/-- a def -/
theorem sa_fn {np nl : Nat} {b : SM} {ds : List D} (hl : ds.length = np) (s : SatS (b (ds.map some ++ List.replicate (nl - np) none) h) (fun _ h1 => Q .non h1) Q) : SatX X (fn0 np nl b ds h) Q := by
  unfold fn0 fn
  rw [if_pos hl]
  generalize b (ds.map some ++ List.replicate (nl - np) none) h = o at s
  cases o with
  | nx _ _ => exact ⟨s.out⟩
  | rt _ _ => exact ⟨s.out⟩
  | bk _ _ => exact s.out.elim
  | ct _ _ => exact s.out.elim
  | exc _ _ _ => exact s.out.elim
  | err => exact s.out.elim
/-- a def that may raise -/
theorem sa_fnX {np nl : Nat} {b : SM} {ds : List D} (hl : ds.length = np) (s : SatSX (fun x _ h1 => X x h1) (b (ds.map some ++ List.replicate (nl - np) none) h) (fun _ h1 => Q .non h1) Q (fun _ _ => False) (fun _ _ => False)) : SatX X (fn np nl b ds h) Q := by
  unfold fn
  rw [if_pos hl]
  generalize b (ds.map some ++ List.replicate (nl - np) none) h = o at s
  cases o with
  | nx _ _ => exact ⟨s.out⟩
  | rt _ _ => exact ⟨s.out⟩
  | bk _ _ => exact s.out.elim
  | ct _ _ => exact s.out.elim
  | exc _ _ _ => exact ⟨s.out⟩
  | err => exact s.out.elim
theorem sa_tr {f : FM} {ds : List D} (s : SatX (fun x h1 => D.cl h.length x = true ∧ trOk h h1 h.length = true ∧ X x (h1.take h.length)) (f ds h) fun d h1 => D.cl h.length d = true ∧ trOk h h1 h.length = true ∧ Q d (h1.take h.length)) : SatX X (tr f ds h) Q := by
  unfold tr
  generalize f ds h = o at s
  cases o with
  | ok d h1 =>
    obtain ⟨s1, s2, s3⟩ := s.out
    simp only [s1, s2, Bool.and_self, if_true]
    exact ⟨s3⟩
  | exc d h1 =>
    obtain ⟨s1, s2, s3⟩ := s.out
    simp only [s1, s2, Bool.and_self, if_true]
    exact ⟨s3⟩
  | err => exact s.out.elim
end
end Dn

/-! Sop: what the operations come to. -/
set_option Elab.async false
set_option linter.all false
set_option maxRecDepth 100000
set_option maxHeartbeats 4000000
namespace Dn
open PySem L2
section
variable {Q : D → Hm → Prop} {v : Ev} {h : Hm} {X : D → Hm → Prop} {Y : D → Ev → Hm → Prop}
theorem so_add {a b : Int} (q : Q (.int (a + b)) h) : SatX X (opAdd (.int a) (.int b) h) Q := ⟨q⟩
theorem so_addS {a b : Str} (hl : a.length + b.length ≤ 16777216) (q : Q (.str (a ++ b)) h) : SatX X (opAdd (.str a) (.str b) h) Q := by
  show SatX X (if a.length + b.length ≤ 16777216 then _ else _) Q
  rw [if_pos hl]; exact ⟨q⟩
theorem so_addT {a b : List D} (hl : a.length + b.length ≤ 16777216) (q : Q (.tup (a ++ b)) h) : SatX X (opAdd (.tup a) (.tup b) h) Q := by
  show SatX X (if a.length + b.length ≤ 16777216 then _ else _) Q
  rw [if_pos hl]; exact ⟨q⟩
theorem so_addL {a b : List D} (hl : a.length + b.length ≤ 16777216) (q : Q (.lst (a ++ b)) h) : SatX X (opAdd (.lst a) (.lst b) h) Q := by
  show SatX X (if a.length + b.length ≤ 16777216 then _ else _) Q
  rw [if_pos hl]; exact ⟨q⟩
theorem so_sub {a b : Int} (q : Q (.int (a - b)) h) : SatX X (opSub (.int a) (.int b) h) Q := ⟨q⟩
theorem so_mul {a b : Int} (hb : mulOk a b = true) (q : Q (.int (a * b)) h) : SatX X (opMul (.int a) (.int b) h) Q := by
  show SatX X (if mulOk a b = true then _ else _) Q
  rw [if_pos hb]; exact ⟨q⟩
theorem so_mulS {x : Str} {n : Int} (hb : -1000000 ≤ n ∧ n ≤ 1000000 ∧ x.length * n.toNat ≤ 1000000) (q : Q (.str (repStr x n)) h) : SatX X (opMul (.str x) (.int n) h) Q := by
  show SatX X (if _ then _ else _) Q
  rw [if_pos hb]; exact ⟨q⟩
theorem so_mulL {x : List D} {n : Int} (hb : -1000000 ≤ n ∧ n ≤ 1000000 ∧ x.length * n.toNat ≤ 16777216) (q : Q (.lst (List.replicate n.toNat x).flatten) h) : SatX X (opMul (.lst x) (.int n) h) Q := by
  show SatX X (if _ then _ else _) Q
  rw [if_pos hb]; exact ⟨q⟩
theorem so_mod {a b : Int} (hb : 0 < b) (q : Q (.int (a % b)) h) : SatX X (opMod (.int a) (.int b) h) Q := by
  show SatX X (if 0 < b then _ else _) Q
  rw [if_pos hb]; exact ⟨q⟩
theorem so_divW {a b : Int} (hb : 0 < b ∧ b < 1267650600228229401496703205376) (q : Q (.int (a / b)) h) : SatX X (opDiv (.int a) (.int b) h) Q := by
  show SatX X (if 0 < b ∧ b < 1267650600228229401496703205376 then _ else _) Q
  rw [if_pos hb]; exact ⟨q⟩
theorem so_div {a b : Int} (hb : 0 < b ∧ b < 1073741824) (q : Q (.int (a / b)) h) : SatX X (opDiv (.int a) (.int b) h) Q := so_divW ⟨hb.1, Int.lt_trans hb.2 (by decide)⟩ q
theorem so_pow {a b : Int} (hb : 0 ≤ b ∧ b ≤ 1000000 ∧ -(2 ^ 63) < a ∧ a < 2 ^ 64) (q : Q (.int (a ^ b.toNat)) h) : SatX X (opPow (.int a) (.int b) h) Q := by
  show SatX X (if _ then _ else _) Q
  rw [if_pos hb]; exact ⟨q⟩
theorem so_neg {a : Int} (q : Q (.int (-a)) h) : SatX X (opNeg (.int a) h) Q := ⟨q⟩
theorem so_lt {a b : Int} (q : Q (.bl (decide (a < b))) h) : SatX X (opLt (.int a) (.int b) h) Q := ⟨q⟩
theorem so_le {a b : Int} (q : Q (.bl (decide (a ≤ b))) h) : SatX X (opLe (.int a) (.int b) h) Q := ⟨q⟩
theorem so_gt {a b : Int} (q : Q (.bl (decide (b < a))) h) : SatX X (opGt (.int a) (.int b) h) Q := ⟨q⟩
theorem so_ge {a b : Int} (q : Q (.bl (decide (b ≤ a))) h) : SatX X (opGe (.int a) (.int b) h) Q := ⟨q⟩
theorem so_eqI {a b : Int} (q : Q (.bl (decide (a = b))) h) : SatX X (opEq (.int a) (.int b) h) Q := by
  refine ⟨show Q (.bl (D.eqb (.int a) (.int b))) h from ?_⟩
  rw [show D.eqb (.int a) (.int b) = decide (a = b) by simp [D.eqb, Bool.beq_eq_decide_eq]]; exact q
theorem so_neI {a b : Int} (q : Q (.bl (!decide (a = b))) h) : SatX X (opNe (.int a) (.int b) h) Q := by
  refine ⟨show Q (.bl (!D.eqb (.int a) (.int b))) h from ?_⟩
  rw [show D.eqb (.int a) (.int b) = decide (a = b) by simp [D.eqb, Bool.beq_eq_decide_eq]]; exact q
theorem so_eqS {a b : Str} (q : Q (.bl (decide (a = b))) h) : SatX X (opEq (.str a) (.str b) h) Q := by
  refine ⟨show Q (.bl (D.eqb (.str a) (.str b))) h from ?_⟩
  rw [show D.eqb (.str a) (.str b) = decide (a = b) by simp [D.eqb, Bool.beq_eq_decide_eq]]; exact q
theorem so_neS {a b : Str} (q : Q (.bl (!decide (a = b))) h) : SatX X (opNe (.str a) (.str b) h) Q := by
  refine ⟨show Q (.bl (!D.eqb (.str a) (.str b))) h from ?_⟩
  rw [show D.eqb (.str a) (.str b) = decide (a = b) by simp [D.eqb, Bool.beq_eq_decide_eq]]; exact q
theorem so_eqB {a b : Bool} (q : Q (.bl (a == b)) h) : SatX X (opEq (.bl a) (.bl b) h) Q := ⟨q⟩
theorem so_neB {a b : Bool} (q : Q (.bl (!(a == b))) h) : SatX X (opNe (.bl a) (.bl b) h) Q := ⟨q⟩
/-- == of data -/
theorem so_eqD {x y : D} (hs : scalD x y = false) (h1 : D.okN 64 (dr h x) = true) (h2 : D.okN 64 (dr h y) = true) (q : Q (.bl (D.eqb (dr h x) (dr h y))) h) : SatX X (opEq x y h) Q := by
  unfold opEq
  rw [hs, h1, h2]; exact ⟨q⟩
theorem so_neD {x y : D} (hs : scalD x y = false) (h1 : D.okN 64 (dr h x) = true) (h2 : D.okN 64 (dr h y) = true) (q : Q (.bl (!D.eqb (dr h x) (dr h y))) h) : SatX X (opNe x y h) Q := by
  unfold opNe
  rw [hs, h1, h2]; exact ⟨q⟩
theorem so_isN {x : D} (q : Q (.bl (D.eqb x .non)) h) : SatX X (opIsN x .non h) Q := by
  cases x <;> exact ⟨q⟩
theorem so_notN {x : D} (q : Q (.bl (!D.eqb x .non)) h) : SatX X (opNotN x .non h) Q := by
  cases x <;> exact ⟨q⟩
theorem so_inF {x : D} {l : List D} (hf : (flatD x && l.all flatD) = true) (q : Q (.bl (l.any fun z => D.eqb z x)) h) : SatX X (opIn x (.lst l) h) Q := by
  show SatX X (if (flatD x && l.all flatD) = true then _ else _) Q
  rw [if_pos hf]; exact ⟨by simpa [SatP] using q⟩
theorem so_notInF {x : D} {l : List D} (hf : (flatD x && l.all flatD) = true) (q : Q (.bl (!l.any fun z => D.eqb z x)) h) : SatX X (opNotIn x (.lst l) h) Q := by
  show SatX X (if (flatD x && l.all flatD) = true then _ else _) Q
  rw [if_pos hf]; exact ⟨by simpa [SatP] using q⟩
theorem so_inR {x : D} {n : Nat} {l : List D} (e : h[n]? = some (.lst l)) (hf : (flatD x && l.all flatD) = true) (q : Q (.bl (l.any fun z => D.eqb z x)) h) : SatX X (opIn x (.ref n) h) Q := by
  unfold opIn inD items
  simp only [e, hf, if_true]
  exact ⟨by simpa [SatP] using q⟩
theorem so_notInR {x : D} {n : Nat} {l : List D} (e : h[n]? = some (.lst l)) (hf : (flatD x && l.all flatD) = true) (q : Q (.bl (!l.any fun z => D.eqb z x)) h) : SatX X (opNotIn x (.ref n) h) Q := by
  unfold opNotIn inD items
  simp only [e, hf, if_true]
  exact ⟨by simpa [SatP] using q⟩
/-! subscripts -/
theorem so_ixL {l : List D} {i : Int} {d : D} (e : atI l i = some d) (q : Q d h) : SatX X (opIx (.lst l) (.int i) h) Q := by
  simp only [opIx, lsOf, e]; exact ⟨q⟩
theorem so_ixT {l : List D} {i : Int} {d : D} (e : atI l i = some d) (q : Q d h) : SatX X (opIx (.tup l) (.int i) h) Q := by
  simp only [opIx, e]; exact ⟨q⟩
theorem so_ixR {n : Nat} {l : List D} {i : Int} {d : D} (e0 : h[n]? = some (.lst l)) (e : atI l i = some d) (q : Q d h) : SatX X (opIx (.ref n) (.int i) h) Q := by
  simp only [opIx, lsOf, e0, e]; exact ⟨q⟩
theorem so_ixS {x : Str} {i : Int} {c : Nat} (hl : x.length ≤ 16777216) (e : atI x.cps.toList i = some c) (q : Q (.str ⟨#[c]⟩) h) : SatX X (opIx (.str x) (.int i) h) Q := by
  simp only [opIx, hl, e, if_true]; exact ⟨q⟩
theorem so_ixC {ns : List Int} {i : Int} {k : Int} (e : atI ns i = some k) (q : Q (.int k) h) : SatX X (opIx (.scr ns) (.int i) h) Q := by
  simp only [opIx, e]; exact ⟨q⟩
theorem atI_in {α : Type} {l : List α} {i : Int} (h0 : 0 ≤ i) (h1 : i < l.length) : ∃ x, atI l i = some x ∧ x ∈ l ∧ l[i.toNat]? = some x := by
  have hn : i.toNat < l.length := by omega
  have : atI l i = some (l[i.toNat]) := by
    unfold atI ixN
    rw [if_pos h0, if_pos h1]
    simp
  exact ⟨_, this, List.getElem_mem _, List.getElem?_eq_getElem hn⟩
theorem atI_last {α : Type} {l : List α} {x : α} : atI (l ++ [x]) (-1) = some x := by
  unfold atI ixN
  rw [if_neg (by decide), if_pos (by simp; omega)]
  simp only [Option.bind_some, List.length_append, List.length_cons, List.length_nil]
  rw [show ((-1 : Int) + ((l.length + (0 + 1) : Nat) : Int)).toNat = l.length by omega]
  simp
/-! builtins -/
theorem so_len {l : List D} (q : Q (.int l.length) h) : SatX X (bLen [.lst l] h) Q := ⟨q⟩
theorem so_lenT {l : List D} (q : Q (.int l.length) h) : SatX X (bLen [.tup l] h) Q := ⟨q⟩
theorem so_lenC {l : List Int} (q : Q (.int l.length) h) : SatX X (bLen [.scr l] h) Q := ⟨q⟩
theorem so_lenR {n : Nat} {l : List D} (e : h[n]? = some (.lst l)) (q : Q (.int l.length) h) : SatX X (bLen [.ref n] h) Q := by
  simp only [bLen, lsOf, e]; exact ⟨q⟩
theorem so_lenS {x : Str} (hl : x.length ≤ 16777216) (q : Q (.int x.length) h) : SatX X (bLen [.str x] h) Q := by
  simp only [bLen, hl, if_true]; exact ⟨q⟩
theorem so_max {a b : Int} (q : Q (.int (max a b)) h) : SatX X (bMax [.int a, .int b] h) Q := ⟨q⟩
theorem so_min {a b : Int} (q : Q (.int (min a b)) h) : SatX X (bMin [.int a, .int b] h) Q := ⟨q⟩
theorem so_minL {ns : List Int} (hl : 0 < ns.length) (q : Q (.int (mnL ns)) h) : SatX X (bMin [.lst (ns.map D.int)] h) Q := by
  simp only [bMin, lsOf, intsOf_map, hl, if_true]; exact ⟨q⟩
theorem so_maxL {ns : List Int} (hl : 0 < ns.length) (q : Q (.int (mxL ns)) h) : SatX X (bMax [.lst (ns.map D.int)] h) Q := by
  simp only [bMax, lsOf, intsOf_map, hl, if_true]; exact ⟨q⟩
theorem so_sum {ns : List Int} (q : Q (.int ns.sum) h) : SatX X (bSum [.lst (ns.map D.int)] h) Q := by
  simp only [bSum, lsOf, intsOf_map]; exact ⟨q⟩
theorem so_all {ns : List Bool} (q : Q (.bl (ns.all id)) h) : SatX X (bAll [.lst (ns.map D.bl)] h) Q := by
  simp only [bAll, lsOf, blsOf_map]; exact ⟨q⟩
theorem so_any {ns : List Bool} (q : Q (.bl (ns.any id)) h) : SatX X (bAny [.lst (ns.map D.bl)] h) Q := by
  simp only [bAny, lsOf, blsOf_map]; exact ⟨q⟩
theorem so_intI {a : Int} (q : Q (.int a) h) : SatX X (bInt [.int a] h) Q := ⟨q⟩
theorem so_intB {b : Bool} (q : Q (.int (if b then 1 else 0)) h) : SatX X (bInt [.bl b] h) Q := ⟨q⟩
theorem so_str {a : Int} (hb : a.natAbs < 2 ^ 64) (q : Q (.str (strI a)) h) : SatX X (bStr [.int a] h) Q := by
  simp only [bStr, hb, if_true]; exact ⟨q⟩
theorem so_list {l : List D} (q : Q (.lst l) h) : SatX X (bList [.lst l] h) Q := ⟨q⟩
theorem so_listT {l : List D} (q : Q (.lst l) h) : SatX X (bList [.tup l] h) Q := ⟨q⟩
theorem so_listR {n : Nat} {l : List D} (e : h[n]? = some (.lst l)) (q : Q (.lst l) h) : SatX X (bList [.ref n] h) Q := by
  simp only [bList, lsOf, e]; exact ⟨q⟩
theorem so_listN {l : List D} (q : Q (.ref h.length) (h ++ [.lst l])) : SatX X (bListN [.lst l] h) Q := ⟨q⟩
theorem so_tuple {l : List D} (q : Q (.tup l) h) : SatX X (bTuple [.lst l] h) Q := ⟨q⟩
theorem so_tupleT {l : List D} (q : Q (.tup l) h) : SatX X (bTuple [.tup l] h) Q := ⟨q⟩
theorem so_tupleR {n : Nat} {l : List D} (e : h[n]? = some (.lst l)) (q : Q (.tup l) h) : SatX X (bTuple [.ref n] h) Q := by
  simp only [bTuple, lsOf, e]; exact ⟨q⟩
theorem so_isi {T t : String} {d : D} (e : tyD h d = some t) (q : Q (.bl (isTy t T)) h) : SatX X (isi T d h) Q := by
  simp only [isi, e]; exact ⟨q⟩
theorem so_join {a : Str} {ys : List Str} (hl : (ys.map (·.length)).sum + ys.length * a.length ≤ 16777216) (q : Q (.str (Str.join a ys)) h) : SatX X (mJoin (.str a) [.lst (ys.map D.str)] h) Q := by
  simp only [mJoin, items, strsOf_map, hl, if_true]; exact ⟨q⟩
theorem so_append {n : Nat} {l : List D} {x : D} (e : h[n]? = some (.lst l)) (hl : l.length < 16777216) (q : Q .non (h.set n (.lst (l ++ [x])))) : SatX X (mAppend (.ref n) [x] h) Q := by
  simp only [mAppend, e, hl, if_true]; exact ⟨q⟩
theorem so_pop0 {n : Nat} {l : List D} {x : D} (e : h[n]? = some (.lst (x :: l))) (q : Q x (h.set n (.lst l))) : SatX X (mPop (.ref n) [.int 0] h) Q := by
  simp only [mPop, e]; exact ⟨q⟩
theorem so_fz {n : Nat} {l : List D} (e : h[n]? = some (.lst l)) (q : Q (.lst l) (h.set n .dead)) : SatX X (fz (.ref n) h) Q := by
  simp only [fz, e]; exact ⟨q⟩
theorem so_slL {l : List D} {lo hi : Option Int} (q : Q (.lst (cutD l lo hi)) h) : SatX X (opSl (.lst l) lo hi h) Q := ⟨q⟩
theorem so_slT {l : List D} {lo hi : Option Int} (q : Q (.tup (cutD l lo hi)) h) : SatX X (opSl (.tup l) lo hi h) Q := ⟨q⟩
theorem so_slS {x : Str} {lo hi : Option Int} (hl : x.length ≤ 16777216) (q : Q (.str (cutS x lo hi)) h) : SatX X (opSl (.str x) lo hi h) Q := by
  simp only [opSl, hl, if_true]; exact ⟨q⟩
theorem so_slR {n : Nat} {l : List D} {lo hi : Option Int} (e : h[n]? = some (.lst l)) (q : Q (.lst (cutD l lo hi)) h) : SatX X (opSl (.ref n) lo hi h) Q := by
  simp only [opSl, lsOf, e]; exact ⟨q⟩
theorem so_slN {n : Nat} {l : List D} {lo hi : Option Int} (e : h[n]? = some (.lst l)) (q : Q (.ref h.length) (h ++ [.lst (cutD l lo hi)])) : SatX X (opSlN (.ref n) lo hi h) Q := by
  simp only [opSlN, lsOf, e]; exact ⟨q⟩
theorem so_wkL {l : List D} {Q : Wk → Hm → Prop} (q : Q ⟨l, fun _ => true⟩ h) : SatX X (wkOf (.lst l) h) Q := ⟨q⟩
theorem so_wkT {l : List D} {Q : Wk → Hm → Prop} (q : Q ⟨l, fun _ => true⟩ h) : SatX X (wkOf (.tup l) h) Q := ⟨q⟩
theorem so_wkS {x : Str} {Q : Wk → Hm → Prop} (q : Q ⟨x.cps.toList.map fun c => .str ⟨#[c]⟩, fun _ => true⟩ h) : SatX X (wkOf (.str x) h) Q := ⟨q⟩
theorem so_wkR {n : Nat} {l : List D} {Q : Wk → Hm → Prop} (e : h[n]? = some (.lst l)) (q : Q ⟨l, fun h' => match h'[n]? with | some o => HD.beq o (.lst l) | none => false⟩ h) : SatX X (wkOf (.ref n) h) Q := by
  simp only [wkOf, e]; exact ⟨q⟩
theorem chkR {n : Nat} {l : List D} {h' : Hm} (e : h'[n]? = some (.lst l)) : (match h'[n]? with | some o => HD.beq o (.lst l) | none => false) = true := by
  rw [e]; exact HD.beq_refl _
theorem so_ixL0 {x0 : D} {r : List D} (q : Q x0 h) : SatX X (opIx (.lst (x0 :: r)) (.int 0) h) Q := so_ixL (by
  unfold L2.atI L2.ixN
  rw [if_pos (by decide), if_pos (by simp only [List.length_cons]; omega)]
  rfl) q
theorem so_ixT0 {x0 : D} {r : List D} (q : Q x0 h) : SatX X (opIx (.tup (x0 :: r)) (.int 0) h) Q := so_ixT (by
  unfold L2.atI L2.ixN
  rw [if_pos (by decide), if_pos (by simp only [List.length_cons]; omega)]
  rfl) q
theorem so_ixL1 {x0 x1 : D} {r : List D} (q : Q x1 h) : SatX X (opIx (.lst (x0 :: x1 :: r)) (.int 1) h) Q := so_ixL (by
  unfold L2.atI L2.ixN
  rw [if_pos (by decide), if_pos (by simp only [List.length_cons]; omega)]
  rfl) q
theorem so_ixT1 {x0 x1 : D} {r : List D} (q : Q x1 h) : SatX X (opIx (.tup (x0 :: x1 :: r)) (.int 1) h) Q := so_ixT (by
  unfold L2.atI L2.ixN
  rw [if_pos (by decide), if_pos (by simp only [List.length_cons]; omega)]
  rfl) q
theorem so_ixL2 {x0 x1 x2 : D} {r : List D} (q : Q x2 h) : SatX X (opIx (.lst (x0 :: x1 :: x2 :: r)) (.int 2) h) Q := so_ixL (by
  unfold L2.atI L2.ixN
  rw [if_pos (by decide), if_pos (by simp only [List.length_cons]; omega)]
  rfl) q
theorem so_ixT2 {x0 x1 x2 : D} {r : List D} (q : Q x2 h) : SatX X (opIx (.tup (x0 :: x1 :: x2 :: r)) (.int 2) h) Q := so_ixT (by
  unfold L2.atI L2.ixN
  rw [if_pos (by decide), if_pos (by simp only [List.length_cons]; omega)]
  rfl) q
theorem so_ixL3 {x0 x1 x2 x3 : D} {r : List D} (q : Q x3 h) : SatX X (opIx (.lst (x0 :: x1 :: x2 :: x3 :: r)) (.int 3) h) Q := so_ixL (by
  unfold L2.atI L2.ixN
  rw [if_pos (by decide), if_pos (by simp only [List.length_cons]; omega)]
  rfl) q
theorem so_ixT3 {x0 x1 x2 x3 : D} {r : List D} (q : Q x3 h) : SatX X (opIx (.tup (x0 :: x1 :: x2 :: x3 :: r)) (.int 3) h) Q := so_ixT (by
  unfold L2.atI L2.ixN
  rw [if_pos (by decide), if_pos (by simp only [List.length_cons]; omega)]
  rfl) q
theorem so_ixL4 {x0 x1 x2 x3 x4 : D} {r : List D} (q : Q x4 h) : SatX X (opIx (.lst (x0 :: x1 :: x2 :: x3 :: x4 :: r)) (.int 4) h) Q := so_ixL (by
  unfold L2.atI L2.ixN
  rw [if_pos (by decide), if_pos (by simp only [List.length_cons]; omega)]
  rfl) q
theorem so_ixT4 {x0 x1 x2 x3 x4 : D} {r : List D} (q : Q x4 h) : SatX X (opIx (.tup (x0 :: x1 :: x2 :: x3 :: x4 :: r)) (.int 4) h) Q := so_ixT (by
  unfold L2.atI L2.ixN
  rw [if_pos (by decide), if_pos (by simp only [List.length_cons]; omega)]
  rfl) q
theorem so_ixL5 {x0 x1 x2 x3 x4 x5 : D} {r : List D} (q : Q x5 h) : SatX X (opIx (.lst (x0 :: x1 :: x2 :: x3 :: x4 :: x5 :: r)) (.int 5) h) Q := so_ixL (by
  unfold L2.atI L2.ixN
  rw [if_pos (by decide), if_pos (by simp only [List.length_cons]; omega)]
  rfl) q
theorem so_ixT5 {x0 x1 x2 x3 x4 x5 : D} {r : List D} (q : Q x5 h) : SatX X (opIx (.tup (x0 :: x1 :: x2 :: x3 :: x4 :: x5 :: r)) (.int 5) h) Q := so_ixT (by
  unfold L2.atI L2.ixN
  rw [if_pos (by decide), if_pos (by simp only [List.length_cons]; omega)]
  rfl) q
theorem so_ixR0 {n : Nat} {x0 : D} {r : List D} (e : h[n]? = some (.lst (x0 :: r))) (q : Q x0 h) : SatX X (opIx (.ref n) (.int 0) h) Q := so_ixR e (by
  unfold L2.atI L2.ixN
  rw [if_pos (by decide), if_pos (by simp only [List.length_cons]; omega)]
  rfl) q
theorem so_ixR1 {n : Nat} {x0 x1 : D} {r : List D} (e : h[n]? = some (.lst (x0 :: x1 :: r))) (q : Q x1 h) : SatX X (opIx (.ref n) (.int 1) h) Q := so_ixR e (by
  unfold L2.atI L2.ixN
  rw [if_pos (by decide), if_pos (by simp only [List.length_cons]; omega)]
  rfl) q
theorem so_ixR2 {n : Nat} {x0 x1 x2 : D} {r : List D} (e : h[n]? = some (.lst (x0 :: x1 :: x2 :: r))) (q : Q x2 h) : SatX X (opIx (.ref n) (.int 2) h) Q := so_ixR e (by
  unfold L2.atI L2.ixN
  rw [if_pos (by decide), if_pos (by simp only [List.length_cons]; omega)]
  rfl) q
theorem so_ixP {l : List D} {i : Int} (P : D → Prop) (hP : ∀ d ∈ l, P d) (h0 : 0 ≤ i) (h1 : i < l.length) (q : ∀ d, P d → Q d h) : SatX X (opIx (.lst l) (.int i) h) Q := by
  obtain ⟨x, e, hx, _⟩ := atI_in h0 h1
  exact so_ixL e (q x (hP x hx))
/-- an item of a list of ints within bounds -/
def IntIn (lo hi : Int) (d : D) : Prop := ∃ k, d = .int k ∧ lo ≤ k ∧ k ≤ hi
theorem IntIn.mk {lo hi k : Int} (h1 : lo ≤ k) (h2 : k ≤ hi) : IntIn lo hi (.int k) := ⟨k, rfl, h1, h2⟩
theorem all_nil {P : D → Prop} : ∀ d ∈ ([] : List D), P d := fun _ h => nomatch h
theorem all_cons {P : D → Prop} {x : D} {l : List D} (a : P x) (b : ∀ d ∈ l, P d) : ∀ d ∈ x :: l, P d := List.forall_mem_cons.mpr ⟨a, b⟩
theorem so_put {n : Nat} {l : List D} {k : Int} {j : Nat} {x : D} {P : Hm → Prop} (e : h[n]? = some (.lst l)) (ej : L2.ixN l.length k = some j) (q : P (h.set n (.lst (l.set j x)))) : PutTo (.ref n) (.int k) x h P := by
  unfold PutTo
  simp only [putIx, e, ej, Option.map_some]
  exact q
theorem mulOkL {a b : Int} (h : -(2 ^ 64) < a ∧ a < 2 ^ 64) : mulOk a b = true := by
  simp only [mulOk, Bool.or_eq_true, Bool.and_eq_true, decide_eq_true_eq]; exact .inl h
theorem mulOkR {a b : Int} (h : -(2 ^ 64) < b ∧ b < 2 ^ 64) : mulOk a b = true := by
  simp only [mulOk, Bool.or_eq_true, Bool.and_eq_true, decide_eq_true_eq]; exact .inr h
theorem so_isiI_tuple {a : Int} (q : Q (.bl false) h) : SatX X (isi "tuple" (.int a) h) Q := so_isi (t := "int") rfl (by rw [show isTy "int" "tuple" = false by decide]; exact q)
theorem so_isiI_list {a : Int} (q : Q (.bl false) h) : SatX X (isi "list" (.int a) h) Q := so_isi (t := "int") rfl (by rw [show isTy "int" "list" = false by decide]; exact q)
theorem so_isiI_str {a : Int} (q : Q (.bl false) h) : SatX X (isi "str" (.int a) h) Q := so_isi (t := "int") rfl (by rw [show isTy "int" "str" = false by decide]; exact q)
theorem so_isiI_bool {a : Int} (q : Q (.bl false) h) : SatX X (isi "bool" (.int a) h) Q := so_isi (t := "int") rfl (by rw [show isTy "int" "bool" = false by decide]; exact q)
theorem so_isiI_int {a : Int} (q : Q (.bl true) h) : SatX X (isi "int" (.int a) h) Q := so_isi (t := "int") rfl (by rw [show isTy "int" "int" = true by decide]; exact q)
theorem so_isiS_tuple {a : Str} (q : Q (.bl false) h) : SatX X (isi "tuple" (.str a) h) Q := so_isi (t := "str") rfl (by rw [show isTy "str" "tuple" = false by decide]; exact q)
theorem so_isiS_list {a : Str} (q : Q (.bl false) h) : SatX X (isi "list" (.str a) h) Q := so_isi (t := "str") rfl (by rw [show isTy "str" "list" = false by decide]; exact q)
theorem so_isiS_str {a : Str} (q : Q (.bl true) h) : SatX X (isi "str" (.str a) h) Q := so_isi (t := "str") rfl (by rw [show isTy "str" "str" = true by decide]; exact q)
theorem so_isiS_bool {a : Str} (q : Q (.bl false) h) : SatX X (isi "bool" (.str a) h) Q := so_isi (t := "str") rfl (by rw [show isTy "str" "bool" = false by decide]; exact q)
theorem so_isiS_int {a : Str} (q : Q (.bl false) h) : SatX X (isi "int" (.str a) h) Q := so_isi (t := "str") rfl (by rw [show isTy "str" "int" = false by decide]; exact q)
theorem so_isiB_tuple {a : Bool} (q : Q (.bl false) h) : SatX X (isi "tuple" (.bl a) h) Q := so_isi (t := "bool") rfl (by rw [show isTy "bool" "tuple" = false by decide]; exact q)
theorem so_isiB_list {a : Bool} (q : Q (.bl false) h) : SatX X (isi "list" (.bl a) h) Q := so_isi (t := "bool") rfl (by rw [show isTy "bool" "list" = false by decide]; exact q)
theorem so_isiB_str {a : Bool} (q : Q (.bl false) h) : SatX X (isi "str" (.bl a) h) Q := so_isi (t := "bool") rfl (by rw [show isTy "bool" "str" = false by decide]; exact q)
theorem so_isiB_bool {a : Bool} (q : Q (.bl true) h) : SatX X (isi "bool" (.bl a) h) Q := so_isi (t := "bool") rfl (by rw [show isTy "bool" "bool" = true by decide]; exact q)
theorem so_isiB_int {a : Bool} (q : Q (.bl true) h) : SatX X (isi "int" (.bl a) h) Q := so_isi (t := "bool") rfl (by rw [show isTy "bool" "int" = true by decide]; exact q)
theorem so_isiN_tuple  (q : Q (.bl false) h) : SatX X (isi "tuple" (.non) h) Q := so_isi (t := "NoneType") rfl (by rw [show isTy "NoneType" "tuple" = false by decide]; exact q)
theorem so_isiN_list  (q : Q (.bl false) h) : SatX X (isi "list" (.non) h) Q := so_isi (t := "NoneType") rfl (by rw [show isTy "NoneType" "list" = false by decide]; exact q)
theorem so_isiN_str  (q : Q (.bl false) h) : SatX X (isi "str" (.non) h) Q := so_isi (t := "NoneType") rfl (by rw [show isTy "NoneType" "str" = false by decide]; exact q)
theorem so_isiN_bool  (q : Q (.bl false) h) : SatX X (isi "bool" (.non) h) Q := so_isi (t := "NoneType") rfl (by rw [show isTy "NoneType" "bool" = false by decide]; exact q)
theorem so_isiN_int  (q : Q (.bl false) h) : SatX X (isi "int" (.non) h) Q := so_isi (t := "NoneType") rfl (by rw [show isTy "NoneType" "int" = false by decide]; exact q)
theorem so_isiT_tuple {a : List D} (q : Q (.bl true) h) : SatX X (isi "tuple" (.tup a) h) Q := so_isi (t := "tuple") rfl (by rw [show isTy "tuple" "tuple" = true by decide]; exact q)
theorem so_isiT_list {a : List D} (q : Q (.bl false) h) : SatX X (isi "list" (.tup a) h) Q := so_isi (t := "tuple") rfl (by rw [show isTy "tuple" "list" = false by decide]; exact q)
theorem so_isiT_str {a : List D} (q : Q (.bl false) h) : SatX X (isi "str" (.tup a) h) Q := so_isi (t := "tuple") rfl (by rw [show isTy "tuple" "str" = false by decide]; exact q)
theorem so_isiT_bool {a : List D} (q : Q (.bl false) h) : SatX X (isi "bool" (.tup a) h) Q := so_isi (t := "tuple") rfl (by rw [show isTy "tuple" "bool" = false by decide]; exact q)
theorem so_isiT_int {a : List D} (q : Q (.bl false) h) : SatX X (isi "int" (.tup a) h) Q := so_isi (t := "tuple") rfl (by rw [show isTy "tuple" "int" = false by decide]; exact q)
theorem so_isiL_tuple {a : List D} (q : Q (.bl false) h) : SatX X (isi "tuple" (.lst a) h) Q := so_isi (t := "list") rfl (by rw [show isTy "list" "tuple" = false by decide]; exact q)
theorem so_isiL_list {a : List D} (q : Q (.bl true) h) : SatX X (isi "list" (.lst a) h) Q := so_isi (t := "list") rfl (by rw [show isTy "list" "list" = true by decide]; exact q)
theorem so_isiL_str {a : List D} (q : Q (.bl false) h) : SatX X (isi "str" (.lst a) h) Q := so_isi (t := "list") rfl (by rw [show isTy "list" "str" = false by decide]; exact q)
theorem so_isiL_bool {a : List D} (q : Q (.bl false) h) : SatX X (isi "bool" (.lst a) h) Q := so_isi (t := "list") rfl (by rw [show isTy "list" "bool" = false by decide]; exact q)
theorem so_isiL_int {a : List D} (q : Q (.bl false) h) : SatX X (isi "int" (.lst a) h) Q := so_isi (t := "list") rfl (by rw [show isTy "list" "int" = false by decide]; exact q)
theorem so_isiR {n : Nat} {l : List D} {T : String} (e : h[n]? = some (.lst l)) (q : Q (.bl (isTy "list" T)) h) : SatX X (isi T (.ref n) h) Q := so_isi (t := "list") (by simp only [tyD, e]) q
theorem rcR {n : Nat} {l : List D} (e : h[n]? = some (.lst l)) : isRc "list" (.ref n) h = true := by
  simp [isRc, lsOf, e]
/-- a for over a list that nobody changes -/
theorem ss_forL {g : TgM} {w : Ev → Hm → R Wk} {b : SM} {N : Ev → Hm → Prop} {T : D → Hm → Prop} {B G : Ev → Hm → Prop} {l : List D} (Inv : Nat → Ev → Hm → Prop) (hw : SatX (fun x h1 => Y x v h1) (w v h) fun k h1 => k = ⟨l, fun _ => true⟩ ∧ h1 = h) (h0 : Inv 0 v h)
    (hs : ∀ (i : Nat) (x : D) (v : Ev) (h : Hm), l[i]? = some x → Inv i v h → ∃ v1, g x v h = some v1 ∧ SatSX Y (b v1 h) (Inv (i + 1)) T N (Inv (i + 1))) (hd : ∀ v h, Inv l.length v h → N v h) : SatSX Y (sFor g w b v h) N T B G := by
  refine ss_for (hw.imp ?_)
  rintro _ _ ⟨rfl, rfl⟩
  exact ⟨Inv, h0, fun i x v h e hi => ⟨rfl, hs i x v h e hi⟩, fun v h z => ⟨rfl, hd v h z⟩⟩
/-- a for over the numbers below n -/
theorem ss_forR {k : Nat} {w : Ev → Hm → R Wk} {b : SM} {N : Ev → Hm → Prop} {T : D → Hm → Prop} {B G : Ev → Hm → Prop} (n : Nat) (Inv : Nat → Ev → Hm → Prop) (hw : SatX (fun x h1 => Y x v h1) (w v h) fun k h1 => k = ⟨(List.range n).map fun (i : Nat) => .int (i : Int), fun _ => true⟩ ∧ h1 = h) (h0 : Inv 0 v h)
    (hs : ∀ (i : Nat) (v : Ev) (h : Hm), i < n → Inv i v h → SatSX Y (b (v.set k (some (.int i))) h) (Inv (i + 1)) T N (Inv (i + 1))) (hd : ∀ v h, Inv n v h → N v h) : SatSX Y (sFor (gN k) w b v h) N T B G := by
  refine ss_forL Inv hw h0 (fun i x v h e hi => ?_) (fun v h z => hd v h (by simpa using z))
  have hn : i < n := by
    have := (List.getElem?_eq_some_iff.mp e).1
    simpa using this
  have hx : x = .int i := by
    simp [hn] at e; exact e.symm
  subst hx
  exact ⟨_, rfl, hs i v h hn hi⟩
end
end Dn

/-! LibA: bowls, draws, words, likeness. -/
set_option Elab.async false
set_option linter.all false
set_option maxRecDepth 100000
set_option maxHeartbeats 4000000
namespace Lw
open PySem Dn
local macro_rules | `(tactic| sizeOf_list_dec) => `(tactic| with_reducible (first
  | refine sa_V0 ?_ | refine sa_V1 ?_ | refine sa_V2 ?_ | refine sa_V3 ?_ | refine sa_V4 ?_ | refine sa_V5 ?_ | refine sa_V6 ?_ | refine sa_V7 ?_ | refine sa_V8 ?_ | refine sa_V9 ?_ | refine sa_V10 ?_ | refine sa_V11 ?_ | refine sa_V12 ?_ | refine sa_V13 ?_ | refine sa_V14 ?_ | refine sa_V15 ?_ | refine sa_C ?_ | refine sa_B ?_ | refine sa_U ?_ | refine sa_F ?_ | refine sa_aN ?_ | refine sa_aC ?_ | refine sa_tup ?_ | refine sa_lst ?_ | refine sa_new ?_ | refine sa_tE ?_ | refine sa_If ?_ | refine sa_And ?_ | refine sa_Or ?_ | refine sa_Not ?_ | refine sa_tAnd ?_ | refine sa_tOr ?_ | refine sa_tNot ?_ | refine sa_chain ?_ | refine sa_M ?_ | refine sa_Sl ?_ | refine sa_SlN ?_ | refine sa_pN ?_ | refine sa_pE ?_ | refine sa_wE ?_ | refine sa_wR1 ?_ | refine sa_wR2 ?_ | refine sa_tYes ?_ | refine ss_nx ?_ | refine ss_seq ?_ | refine ss_asg0 ?_ | refine ss_asg1 ?_ | refine ss_asg2 ?_ | refine ss_asg3 ?_ | refine ss_asg4 ?_ | refine ss_asg5 ?_ | refine ss_asg6 ?_ | refine ss_asg7 ?_ | refine ss_asg8 ?_ | refine ss_asg9 ?_ | refine ss_asg10 ?_ | refine ss_asg11 ?_ | refine ss_asg12 ?_ | refine ss_asg13 ?_ | refine ss_asg14 ?_ | refine ss_asg15 ?_ | refine ss_expr ?_ | refine ss_ret ?_ | refine ss_retN ?_ | refine ss_if ?_ | refine ss_put ?_ | refine ss_bk ?_ | refine ss_ct ?_ | refine so_add ?_ | refine so_sub ?_ | refine so_lt ?_ | refine so_le ?_ | refine so_gt ?_ | refine so_ge ?_ | refine so_eqI ?_ | refine so_neI ?_ | refine so_eqS ?_ | refine so_neS ?_ | refine so_eqB ?_ | refine so_neB ?_ | refine so_isN ?_ | refine so_notN ?_ | refine so_len ?_ | refine so_lenT ?_ | refine so_lenC ?_ | refine so_max ?_ | refine so_min ?_ | refine so_intI ?_ | refine so_intB ?_ | refine so_ixL0 ?_ | refine so_ixL1 ?_ | refine so_ixL2 ?_ | refine so_ixL3 ?_ | refine so_ixL4 ?_ | refine so_ixL5 ?_ | refine so_ixT0 ?_ | refine so_ixT1 ?_ | refine so_ixT2 ?_ | refine so_ixT3 ?_ | refine so_ixT4 ?_ | refine so_ixT5 ?_
  | refine so_isiI_tuple ?_ | refine so_isiI_list ?_ | refine so_isiI_str ?_ | refine so_isiI_bool ?_ | refine so_isiI_int ?_ | refine so_isiS_tuple ?_ | refine so_isiS_list ?_ | refine so_isiS_str ?_ | refine so_isiS_bool ?_ | refine so_isiS_int ?_ | refine so_isiB_tuple ?_ | refine so_isiB_list ?_ | refine so_isiB_str ?_ | refine so_isiB_bool ?_ | refine so_isiB_int ?_ | refine so_isiN_tuple ?_ | refine so_isiN_list ?_ | refine so_isiN_str ?_ | refine so_isiN_bool ?_ | refine so_isiN_int ?_ | refine so_isiT_tuple ?_ | refine so_isiT_list ?_ | refine so_isiT_str ?_ | refine so_isiT_bool ?_ | refine so_isiT_int ?_ | refine so_isiL_tuple ?_ | refine so_isiL_list ?_ | refine so_isiL_str ?_ | refine so_isiL_bool ?_ | refine so_isiL_int ?_
  | refine so_mod (by decide) ?_ | refine so_mul (mulOkL (by decide)) ?_ | refine so_div (by decide) ?_ | refine so_ixR0 (by assumption) ?_ | refine so_ixR1 (by assumption) ?_ | refine so_ixR2 (by assumption) ?_ | refine so_lenR (by assumption) ?_
  | (refine so_addL (by simp only [List.length_append, List.length_cons, List.length_nil]; omega) ?_; try simp only [List.cons_append, List.nil_append])
  | refine Exists.intro _ (And.intro rfl ?_)
  | refine And.intro (show _ ≤ 16777216 by simp only [List.length_cons, List.length_nil]; omega) ?_))
local macro_rules | `(tactic| array_get_dec) => `(tactic| repeat sizeOf_list_dec)
def m_law_bowl_b : SM :=
  (sSeq (sAsg (gN 2) (eB opAdd (eB opMul (eC (.int 611953)) (eV 1)) (eC (.int 31337))))
  (sSeq (sIf (tE (eB opLt (eV 1) (eF bLen (aC (eV 0) aN)))) (sAsg (gN 2) (eB opIx (eV 0) (eV 1))) sNx)
  (sSeq (sAsg (gN 3) (eC (.int 0)))
  (sSeq (sIf (tE (eB opGe (eV 2) (eB opPow (eC (.int 10)) (eC (.int 18))))) (sAsg (gN 3) (eB opSub (eV 2) (eB opPow (eC (.int 10)) (eC (.int 18))))) sNx)
  (sRet (eNew (aC (eV 3) (aC (eB opAdd (eB opMod (eV 2) (eC (.int 2305843009213693951))) (eB opMul (eC (.int 57)) (eV 1))) (aC (eC (.int 0)) aN)))))))))
def m_law_bowl : FM := fn0 2 4 m_law_bowl_b
def m_law_spoon_b : SM :=
  (sSeq (sIf (tE (eB opGe (eB opIx (eV 0) (eC (.int 0))) (eV 1))) (sSeq (sAsg (gN 6) (eB opMod (eB opIx (eV 0) (eC (.int 0))) (eV 1)))
  (sSeq (sPut (eV 0) (eC (.int 0)) (eB opDiv (eB opIx (eV 0) (eC (.int 0))) (eV 1)))
  (sRet (eV 6)))) sNx)
  (sSeq (sPut (eV 0) (eC (.int 2)) (eB opAdd (eB opIx (eV 0) (eC (.int 2))) (eC (.int 1))))
  (sSeq (sAsg (gN 2) (eLst (aC (eC (.int 2147483489)) (aC (eC (.int 2147483477)) (aC (eC (.int 2147483423)) (aC (eC (.int 2147483399)) (aC (eC (.int 2147483353)) (aC (eC (.int 2147483323)) (aC (eC (.int 2147483269)) aN)))))))))
  (sSeq (sAsg (gN 2) (eB opAdd (eV 2) (eLst (aC (eC (.int 2147483249)) aN))))
  (sSeq (sAsg (gN 3) (eB opIx (eV 2) (eB opMod (eB opIx (eV 0) (eC (.int 2))) (eC (.int 8)))))
  (sSeq (sAsg (gN 4) (eB opAdd (eB opMul (eB opMod (eB opIx (eV 0) (eC (.int 1))) (eV 3)) (eB opAdd (eB opMul (eC (.int 2)) (eB opIx (eV 0) (eC (.int 2)))) (eC (.int 3)))) (eB opMul (eC (.int 6151)) (eB opIx (eV 0) (eC (.int 2))))))
  (sSeq (sAsg (gN 4) (eB opMod (eB opPow (eV 4) (eC (.int 3))) (eV 3)))
  (sSeq (sAsg (gN 5) (eB opAdd (eB opAdd (eB opMul (eV 4) (eV 4)) (eB opMod (eB opIx (eV 0) (eC (.int 1))) (eC (.int 999983)))) (eB opIx (eV 0) (eC (.int 2)))))
  (sRet (eB opMod (eB opDiv (eB opMod (eB opPow (eV 5) (eC (.int 5))) (eB opIx (eV 2) (eB opMod (eB opAdd (eB opIx (eV 0) (eC (.int 2))) (eC (.int 5))) (eC (.int 8))))) (eC (.int 11))) (eV 1)))))))))))
def m_law_spoon : FM := fn0 2 7 m_law_spoon_b
def m_law_word_b : SM :=
  (sSeq (sAsg (gN 1) (eF m_law_spoon (aC (eV 0) (aC (eC (.int 5)) aN))))
  (sSeq (sAsg (gN 2) (eB opIx (eLst (aC (eC (.int 1)) (aC (eC (.int 2)) (aC (eC (.int 3)) (aC (eC (.int 12)) (aC (eB opAdd (eC (.int 1)) (eF m_law_spoon (aC (eV 0) (aC (eC (.int 12)) aN)))) aN)))))) (eV 1)))
  (sRet (eM "str" mJoin (eC (.str (Str.ofString ""))) (aC (eLc [3] (gN 3) (wR1 (eV 2)) tYes (eB opIx (eC (.str (Str.ofString "abcdefghijklmnopqrstuvwxyz"))) (eF m_law_spoon (aC (eV 0) (aC (eC (.int 26)) aN))))) aN)))))
def m_law_word : FM := fn0 1 4 m_law_word_b
/-- a bowl: three numbers; the last one counts, B more draws may come -/
structure Bowl (h : Hm) (n : Nat) (B : Nat) (a b c : Int) : Prop where
  at_ : h[n]? = some (.lst [.int a, .int b, .int c])
  a0 : 0 ≤ a
  b0 : 0 ≤ b
  c0 : 0 ≤ c
  cB : c + B ≤ 1000000000
theorem spoon0 {h : Hm} {n B : Nat} {a b c many : Int} {Q : D → Hm → Prop} (w : Bowl h n (B + 1) a b c) (h1 : 1 ≤ many) (h2 : many < 1073741824)
    (q : ∀ v a' c', 0 ≤ v → v < many → Bowl (h.set n (.lst [.int a', .int b, .int c'])) n B a' b c' → Q (.int v) (h.set n (.lst [.int a', .int b, .int c']))) : Sat (m_law_spoon [.ref n, .int many] h) Q := by
  obtain ⟨e, a0, b0, c0, cB⟩ := w
  have hn : n < h.length := (List.getElem?_eq_some_iff.mp e).1
  refine sa_fn rfl ?_
  unfold m_law_spoon_b
  simp only [List.map_cons, List.map_nil, List.replicate, Nat.reduceSub, List.cons_append, List.nil_append]
  array_get_dec
  refine ⟨fun hc => ?_, fun hc => ?_⟩
  · have hc : many ≤ a := by simpa using hc
    array_get_dec
    refine so_mod (by omega) ?_
    array_get_dec
    refine so_div ⟨by omega, h2⟩ ?_
    array_get_dec
    refine so_put (j := 0) e rfl ?_
    simp only [List.set_cons_zero]
    array_get_dec
    refine q _ _ _ (Int.emod_nonneg _ (by omega)) (Int.emod_lt_of_pos _ (by omega)) ⟨List.getElem?_set_self hn, Int.ediv_nonneg a0 (by omega), b0, c0, by omega⟩
  · array_get_dec
    refine so_put (j := 2) e rfl ?_
    simp only [List.set_cons_zero, List.set_cons_succ]
    have e2 : (h.set n (.lst [.int a, .int b, .int (c + 1)]))[n]? = some (.lst [.int a, .int b, .int (c + 1)]) := List.getElem?_set_self hn
    generalize hh : h.set n (.lst [.int a, .int b, .int (c + 1)]) = h' at e2
    array_get_dec
    refine so_ixP (IntIn 2147483200 2147483700) (by
      repeat refine all_cons (.mk (by decide) (by decide)) ?_
      exact all_nil) (Int.emod_nonneg _ (by decide)) (Int.emod_lt_of_pos _ (by decide)) ?_
    rintro _ ⟨p, rfl, p1, p2⟩
    array_get_dec
    refine so_mod (by omega) ?_
    array_get_dec
    have m1 : 0 ≤ b % p := Int.emod_nonneg _ (by omega)
    have m2 : b % p < p := Int.emod_lt_of_pos _ (by omega)
    refine so_mul (mulOkL ⟨by omega, by omega⟩) ?_
    array_get_dec
    have k1 : 0 ≤ b % p * (2 * (c + 1) + 3) := Int.mul_nonneg m1 (by omega)
    have k2 : b % p * (2 * (c + 1) + 3) ≤ 2147483700 * 2000000003 := Int.mul_le_mul (by omega) (by omega) (by omega) (by decide)
    generalize b % p * (2 * (c + 1) + 3) = t at k1 k2 ⊢
    refine so_pow ⟨by decide, by decide, by omega, by omega⟩ ?_
    array_get_dec
    refine so_mod (by omega) ?_
    array_get_dec
    have u1 : 0 ≤ (t + 6151 * (c + 1)) ^ (3 : Int).toNat % p := Int.emod_nonneg _ (by omega)
    have u2 : (t + 6151 * (c + 1)) ^ (3 : Int).toNat % p < p := Int.emod_lt_of_pos _ (by omega)
    generalize (t + 6151 * (c + 1)) ^ (3 : Int).toNat % p = u at u1 u2 ⊢
    refine so_mul (mulOkL ⟨by omega, by omega⟩) ?_
    array_get_dec
    have w1 : 0 ≤ u * u := Int.mul_nonneg u1 u1
    have w2 : u * u ≤ 2147483700 * 2147483700 := Int.mul_le_mul (by omega) (by omega) u1 (by decide)
    generalize u * u = uu at w1 w2 ⊢
    have x1 : 0 ≤ b % 999983 := Int.emod_nonneg _ (by decide)
    have x2 : b % 999983 < 999983 := Int.emod_lt_of_pos _ (by decide)
    generalize b % 999983 = bb at x1 x2 ⊢
    refine so_pow ⟨by decide, by decide, by omega, by omega⟩ ?_
    array_get_dec
    refine so_ixP (IntIn 2147483200 2147483700) (by
      repeat refine all_cons (.mk (by decide) (by decide)) ?_
      exact all_nil) (Int.emod_nonneg _ (by decide)) (Int.emod_lt_of_pos _ (by decide)) ?_
    rintro _ ⟨p', rfl, p3, p4⟩
    refine so_mod (by omega) ?_
    array_get_dec
    refine so_mod (by omega) ?_
    subst hh
    exact q _ _ _ (Int.emod_nonneg _ (by omega)) (Int.emod_lt_of_pos _ (by omega)) ⟨e2, a0, b0, by omega, by omega⟩

def Bow (n B : Nat) (h : Hm) : Prop := ∃ a b c, Bowl h n B a b c
theorem Bow.le {n B B' : Nat} {h : Hm} (w : Bow n B h) (hb : B' ≤ B) : Bow n B' h := by
  obtain ⟨a, b, c, w⟩ := w
  exact ⟨a, b, c, w.at_, w.a0, w.b0, w.c0, by have := w.cB; omega⟩
theorem Bow.lt {n B : Nat} {h : Hm} (w : Bow n B h) : n < h.length := by
  obtain ⟨a, b, c, w⟩ := w
  exact (List.getElem?_eq_some_iff.mp w.at_).1
/-- draws were made of the bowl at n, nothing else is changed -/
structure Drew (n B : Nat) (h h' : Hm) : Prop where
  bow : Bow n B h'
  len : h'.length = h.length
  keep : ∀ m, m ≠ n → h'[m]? = h[m]?
theorem Drew.trans {n B B' : Nat} {h h1 h2 : Hm} (a : Drew n B h h1) (b : Drew n B' h1 h2) : Drew n B' h h2 := ⟨b.bow, b.len.trans a.len, fun m hm => (b.keep m hm).trans (a.keep m hm)⟩
theorem Drew.refl {n B : Nat} {h : Hm} (a : Bow n B h) : Drew n B h h := ⟨a, rfl, fun _ _ => rfl⟩
theorem Drew.at {n B : Nat} {h h' : Hm} (a : Drew n B h h') {m : Nat} {o : HD} (hm : m ≠ n) (e : h[m]? = some o) : h'[m]? = some o := (a.keep m hm).trans e
theorem Drew.le {n B B' : Nat} {h h' : Hm} (a : Drew n B h h') (hb : B' ≤ B) : Drew n B' h h' := ⟨a.bow.le hb, a.len, a.keep⟩
theorem spoon {n B : Nat} {h : Hm} {many : Int} {Q : D → Hm → Prop} (w : Bow n (B + 1) h) (h1 : 1 ≤ many) (h2 : many < 1073741824) (q : ∀ v h', 0 ≤ v → v < many → Drew n B h h' → Q (.int v) h') : Sat (m_law_spoon [.ref n, .int many] h) Q := by
  obtain ⟨a, b, c, w⟩ := w
  exact spoon0 w h1 h2 fun v a' c' v0 v1 w' => q v _ v0 v1 ⟨⟨a', b, c', w'⟩, by simp, fun m hm => List.getElem?_set_ne (Ne.symm hm)⟩

theorem spoon0W {h : Hm} {n B : Nat} {a b c many : Int} {Q : D → Hm → Prop} (w : Bowl h n (B + 1) a b c) (h1 : 1 ≤ many) (h2 : many < 1267650600228229401496703205376)
    (q : ∀ v a' c', 0 ≤ v → v < many → Bowl (h.set n (.lst [.int a', .int b, .int c'])) n B a' b c' → Q (.int v) (h.set n (.lst [.int a', .int b, .int c']))) : Sat (m_law_spoon [.ref n, .int many] h) Q := by
  obtain ⟨e, a0, b0, c0, cB⟩ := w
  have hn : n < h.length := (List.getElem?_eq_some_iff.mp e).1
  refine sa_fn rfl ?_
  unfold m_law_spoon_b
  simp only [List.map_cons, List.map_nil, List.replicate, Nat.reduceSub, List.cons_append, List.nil_append]
  array_get_dec
  refine ⟨fun hc => ?_, fun hc => ?_⟩
  · have hc : many ≤ a := by simpa using hc
    array_get_dec
    refine so_mod (by omega) ?_
    array_get_dec
    refine so_divW ⟨by omega, h2⟩ ?_
    array_get_dec
    refine so_put (j := 0) e rfl ?_
    simp only [List.set_cons_zero]
    array_get_dec
    refine q _ _ _ (Int.emod_nonneg _ (by omega)) (Int.emod_lt_of_pos _ (by omega)) ⟨List.getElem?_set_self hn, Int.ediv_nonneg a0 (by omega), b0, c0, by omega⟩
  · array_get_dec
    refine so_put (j := 2) e rfl ?_
    simp only [List.set_cons_zero, List.set_cons_succ]
    have e2 : (h.set n (.lst [.int a, .int b, .int (c + 1)]))[n]? = some (.lst [.int a, .int b, .int (c + 1)]) := List.getElem?_set_self hn
    generalize hh : h.set n (.lst [.int a, .int b, .int (c + 1)]) = h' at e2
    array_get_dec
    refine so_ixP (IntIn 2147483200 2147483700) (by
      repeat refine all_cons (.mk (by decide) (by decide)) ?_
      exact all_nil) (Int.emod_nonneg _ (by decide)) (Int.emod_lt_of_pos _ (by decide)) ?_
    rintro _ ⟨p, rfl, p1, p2⟩
    array_get_dec
    refine so_mod (by omega) ?_
    array_get_dec
    have m1 : 0 ≤ b % p := Int.emod_nonneg _ (by omega)
    have m2 : b % p < p := Int.emod_lt_of_pos _ (by omega)
    refine so_mul (mulOkL ⟨by omega, by omega⟩) ?_
    array_get_dec
    have k1 : 0 ≤ b % p * (2 * (c + 1) + 3) := Int.mul_nonneg m1 (by omega)
    have k2 : b % p * (2 * (c + 1) + 3) ≤ 2147483700 * 2000000003 := Int.mul_le_mul (by omega) (by omega) (by omega) (by decide)
    generalize b % p * (2 * (c + 1) + 3) = t at k1 k2 ⊢
    refine so_pow ⟨by decide, by decide, by omega, by omega⟩ ?_
    array_get_dec
    refine so_mod (by omega) ?_
    array_get_dec
    have u1 : 0 ≤ (t + 6151 * (c + 1)) ^ (3 : Int).toNat % p := Int.emod_nonneg _ (by omega)
    have u2 : (t + 6151 * (c + 1)) ^ (3 : Int).toNat % p < p := Int.emod_lt_of_pos _ (by omega)
    generalize (t + 6151 * (c + 1)) ^ (3 : Int).toNat % p = u at u1 u2 ⊢
    refine so_mul (mulOkL ⟨by omega, by omega⟩) ?_
    array_get_dec
    have w1 : 0 ≤ u * u := Int.mul_nonneg u1 u1
    have w2 : u * u ≤ 2147483700 * 2147483700 := Int.mul_le_mul (by omega) (by omega) u1 (by decide)
    generalize u * u = uu at w1 w2 ⊢
    have x1 : 0 ≤ b % 999983 := Int.emod_nonneg _ (by decide)
    have x2 : b % 999983 < 999983 := Int.emod_lt_of_pos _ (by decide)
    generalize b % 999983 = bb at x1 x2 ⊢
    refine so_pow ⟨by decide, by decide, by omega, by omega⟩ ?_
    array_get_dec
    refine so_ixP (IntIn 2147483200 2147483700) (by
      repeat refine all_cons (.mk (by decide) (by decide)) ?_
      exact all_nil) (Int.emod_nonneg _ (by decide)) (Int.emod_lt_of_pos _ (by decide)) ?_
    rintro _ ⟨p', rfl, p3, p4⟩
    refine so_mod (by omega) ?_
    array_get_dec
    refine so_mod (by omega) ?_
    subst hh
    exact q _ _ _ (Int.emod_nonneg _ (by omega)) (Int.emod_lt_of_pos _ (by omega)) ⟨e2, a0, b0, by omega, by omega⟩

theorem spoonW {n B : Nat} {h : Hm} {many : Int} {Q : D → Hm → Prop} (w : Bow n (B + 1) h) (h1 : 1 ≤ many) (h2 : many < 1267650600228229401496703205376) (q : ∀ v h', 0 ≤ v → v < many → Drew n B h h' → Q (.int v) h') : Sat (m_law_spoon [.ref n, .int many] h) Q := by
  obtain ⟨a, b, c, w⟩ := w
  exact spoon0W w h1 h2 fun v a' c' v0 v1 w' => q v _ v0 v1 ⟨⟨a', b, c', w'⟩, by simp, fun m hm => List.getElem?_set_ne (Ne.symm hm)⟩

/-! ### a bowl is made -/
theorem bowl_new {h : Hm} {ns : List Int} {k : Int} {Q : D → Hm → Prop} (h0 : 0 ≤ k) (q : ∀ h', Bow h.length 1000000000 h' → h'.length = h.length + 1 → (∀ m, m < h.length → h'[m]? = h[m]?) → Q (.ref h.length) h') : Sat (m_law_bowl [.scr ns, .int k] h) Q := by
  have fin : ∀ cell rest : Int, 0 ≤ rest → Q (.ref h.length) (h ++ [.lst [.int rest, .int (cell % 2305843009213693951 + 57 * k), .int 0]]) := fun cell rest hr =>
    q _ ⟨rest, cell % 2305843009213693951 + 57 * k, 0, by simp, hr, by have := Int.emod_nonneg cell (show (2305843009213693951 : Int) ≠ 0 by decide); omega, by decide, by decide⟩ (by simp) (fun m hm => List.getElem?_append_left hm)
  have go : ∀ (cell : Int), SatS (sSeq (sAsg (gN 3) (eC (.int 0)))
      (sSeq (sIf (tE (eB opGe (eV 2) (eB opPow (eC (.int 10)) (eC (.int 18))))) (sAsg (gN 3) (eB opSub (eV 2) (eB opPow (eC (.int 10)) (eC (.int 18))))) sNx)
      (sRet (eNew (aC (eV 3) (aC (eB opAdd (eB opMod (eV 2) (eC (.int 2305843009213693951))) (eB opMul (eC (.int 57)) (eV 1))) (aC (eC (.int 0)) aN)))))) [some (.scr ns), some (.int k), some (.int cell), none] h) (fun _ h1 => Q .non h1) Q := fun cell => by
    array_get_dec
    refine so_pow ⟨by decide, by decide, by decide, by decide⟩ ?_
    array_get_dec
    refine ⟨fun hc => ?_, fun hc => ?_⟩
    · array_get_dec
      refine so_pow ⟨by decide, by decide, by decide, by decide⟩ ?_
      array_get_dec
      refine fin cell _ ?_
      have : (10 : Int) ^ (18 : Int).toNat ≤ cell := of_decide_eq_true hc
      omega
    · array_get_dec
      exact fin cell 0 (by decide)
  refine sa_fn rfl ?_
  unfold m_law_bowl_b
  simp only [List.map_cons, List.map_nil, List.replicate, Nat.reduceSub, List.cons_append, List.nil_append]
  array_get_dec
  refine ⟨fun hc => ?_, fun hc => ?_⟩
  · array_get_dec
    have hc : k < ns.length := of_decide_eq_true hc
    obtain ⟨x, e, _⟩ := atI_in (l := ns) h0 hc
    refine so_ixC e ?_
    exact go x
  · exact ss_nx (go _)

/-! ### words -/
/-- the signs of a text -/
def S (l : List Nat) : Str := ⟨l.toArray⟩
theorem S_of (w : Str) : w = S w.cps.toList := by cases w; simp [S]
theorem S_len (l : List Nat) : (S l).length = l.length := by simp [S, Str.length]
theorem S_inj {a b : List Nat} (h : S a = S b) : a = b := by
  unfold S at h
  injection h with h
  simpa using congrArg Array.toList h
def small (c : Nat) : Prop := 97 ≤ c ∧ c ≤ 122
/-- a word -/
def IsW (w : Str) : Prop := ∃ l, w = S l ∧ 1 ≤ l.length ∧ l.length ≤ 12 ∧ ∀ c ∈ l, small c
theorem IsW.len {w : Str} (h : IsW w) : 1 ≤ w.length ∧ w.length ≤ 12 := by
  obtain ⟨l, rfl, h1, h2, _⟩ := h
  rw [S_len]; exact ⟨h1, h2⟩
theorem strOk_S {l : List Nat} (h : ∀ c ∈ l, c < 1114112) : PyData.strOk (S l) = true := by
  unfold PyData.strOk S
  rw [Array.all_eq_true_iff_forall_mem]
  intro c hc
  exact decide_eq_true (h c (by simpa using hc))
theorem IsW.ok {w : Str} (h : IsW w) : PyData.strOk w = true := by
  obtain ⟨l, rfl, h1, h2, h3⟩ := h
  exact strOk_S fun c hc => by have := h3 c hc; unfold small at this; omega
theorem join_S (ls : List (List Nat)) : Str.join (Str.ofString "") (ls.map S) = S ls.flatten := by
  have h : ∀ ls : List (List Nat), TL.joinL [] ls = ls.flatten := by
    intro ls
    induction ls with
    | nil => rfl
    | cons a r ih =>
      cases r with
      | nil => simp [TL.joinL]
      | cons b r => simp only [TL.joinL, List.nil_append]; rw [ih]; rfl
  have e := TL.tl_join (Str.ofString "") (ls.map S)
  have e0 : TL.tl (Str.ofString "") = [] := by decide +kernel
  rw [e0, List.map_map, h] at e
  have e2 : ls.map (TL.tl ∘ S) = ls := by
    rw [List.map_congr_left (g := id) fun x _ => by simp [TL.tl, S], List.map_id]
  rw [e2] at e
  rw [S_of (Str.join _ _)]
  exact congrArg S e
theorem abc_at {i : Int} (h0 : 0 ≤ i) (h1 : i < 26) : ∃ c : Nat, L2.atI (Str.ofString "abcdefghijklmnopqrstuvwxyz").cps.toList i = some c ∧ small c := by
  have e : (Str.ofString "abcdefghijklmnopqrstuvwxyz").cps.toList = [97,98,99,100,101,102,103,104,105,106,107,108,109,110,111,112,113,114,115,116,117,118,119,120,121,122] := by decide +kernel
  rw [e]
  obtain ⟨x, e1, hx, _⟩ := atI_in (l := [97,98,99,100,101,102,103,104,105,106,107,108,109,110,111,112,113,114,115,116,117,118,119,120,121,122]) h0 (by simpa using h1)
  refine ⟨x, e1, ?_⟩
  simp only [List.mem_cons, List.not_mem_nil, or_false] at hx
  unfold small
  omega
theorem abc_len : (Str.ofString "abcdefghijklmnopqrstuvwxyz").length = 26 := by decide +kernel
/-- letters drawn -/
theorem letters_lc {own : List Nat} {k : Nat} {B nb size : Nat} {v : Ev} {h : Hm} {Q : D → Hm → Prop} {w : Ev → Hm → R Wk} {e : EM} (hw : Sat (w v h) fun k h1 => k = ⟨(List.range size).map fun (i : Nat) => .int (i : Int), fun _ => true⟩ ∧ h1 = h) (hs : size ≤ 1000) (hb : Bow nb (B + size) h)
    (he : ∀ (d : D) (T : Nat) (h' : Hm) (P : D → Hm → Prop), Bow nb (T + 1) h' → (∀ c h2, small c → Drew nb T h' h2 → P (.str (S [c])) h2) → Sat (e ((wipeE v own).set k (some d)) h') P)
    (q : ∀ (l : List Nat) (h' : Hm), l.length = size → (∀ c ∈ l, small c) → Drew nb B h h' → Q (.lst (l.map fun c => .str (S [c]))) h') :
    Sat (eLc own (gN k) w tYes e v h) Q := by
  refine sa_Lc (hw.imp ?_)
  rintro _ _ ⟨rfl, rfl⟩
  refine ⟨by simp; omega, fun i acc h' => ∃ l : List Nat, acc = l.map (fun c => .str (S [c])) ∧ l.length = i ∧ (∀ c ∈ l, small c) ∧ Drew nb (B + (size - i)) _ h', ⟨[], rfl, rfl, (fun _ z => nomatch z), Drew.refl (by simpa using hb)⟩, ?_, ?_⟩
  · rintro i x acc h' hx ⟨l, rfl, hl, hsm, hd⟩
    have hi : i < size := by
      have := (List.getElem?_eq_some_iff.mp hx).1
      simpa using this
    refine ⟨rfl, _, rfl, sa_tYes ⟨fun _ => ?_, fun z => nomatch z⟩⟩
    refine he x (B + (size - (i + 1))) h' _ (hd.bow.le (by omega)) fun c h2 hc hd2 => ?_
    refine ⟨l ++ [c], by simp, by simp [hl], fun z hz => ?_, hd.trans hd2⟩
    rcases List.mem_append.mp hz with hz | hz
    · exact hsm z hz
    · rw [List.mem_singleton.mp hz]; exact hc
  · rintro acc h' ⟨l, rfl, hl, hsm, hd⟩
    have hl : l.length = size := by simpa using hl
    exact ⟨rfl, q l h' hl hsm (hd.le (by omega))⟩
theorem flat1 (l : List Nat) : (l.map fun c => [c]).flatten = l := by
  induction l with
  | nil => rfl
  | cons a r ih => simp [ih]
theorem so_joinL {l : List Nat} {h : Hm} {Q : D → Hm → Prop} (hl : l.length ≤ 1000) (q : Q (.str (S l)) h) : Sat (mJoin (.str (Str.ofString "")) [.lst (l.map fun c => .str (S [c]))] h) Q := by
  have e : (l.map fun c => D.str (S [c])) = ((l.map fun c => [c]).map S).map D.str := by simp
  rw [e]
  have e1 : ((l.map fun c => [c]).map S).map (fun x => x.length) = l.map fun _ => 1 := by
    rw [List.map_map, List.map_map]
    exact List.map_congr_left fun c _ => S_len [c]
  have e2 : (Str.ofString "").length = 0 := by decide +kernel
  have e3 : (l.map fun _ => 1).sum = l.length := by simp [List.map_const']
  refine so_join (by rw [e1, e2, e3]; omega) ?_
  rw [join_S, flat1]
  exact q
theorem word {n B : Nat} {h : Hm} {Q : D → Hm → Prop} (w : Bow n (B + 20) h) (q : ∀ x h', IsW x → Drew n B h h' → Q (.str x) h') : Sat (m_law_word [.ref n] h) Q := by
  refine sa_fn rfl ?_
  unfold m_law_word_b
  simp only [List.map_cons, List.map_nil, List.replicate, Nat.reduceSub, List.cons_append, List.nil_append]
  array_get_dec
  refine spoon w (by decide) (by decide) fun way h1 w0 w1 d1 => ?_
  array_get_dec
  refine spoon d1.bow (by decide) (by decide) fun s0 h2 s1 s2 d2 => ?_
  array_get_dec
  refine so_ixP (IntIn 1 12) (by
    refine all_cons (.mk (by decide) (by decide)) (all_cons (.mk (by decide) (by decide)) (all_cons (.mk (by decide) (by decide)) (all_cons (.mk (by decide) (by decide)) (all_cons (.mk (by omega) (by omega)) all_nil))))) w0 (by simpa using w1) ?_
  rintro _ ⟨size, rfl, z1, z2⟩
  array_get_dec
  refine ⟨rfl, ?_⟩
  array_get_dec
  refine letters_lc (B := B) (nb := n) (size := size.toNat) (Q := fun x h2 => Sat (aN _ h2) fun xs h2 => Sat (mJoin (.str (Str.ofString "")) (x :: xs) h2) Q) (by
    array_get_dec
    exact ⟨by omega, by omega, rfl, rfl⟩) (by omega) ((d1.trans d2).bow.le (by omega)) ?_ ?_
  · intro d T h' P hb' k
    refine sa_B (sa_C ?_)
    simp only [wipeE, List.foldr, List.set_cons_zero, List.set_cons_succ]
    array_get_dec
    refine spoon hb' (by decide) (by decide) fun v h3 v0 v1 d3 => ?_
    obtain ⟨c, ec, hc⟩ := abc_at v0 v1
    refine so_ixS (by rw [abc_len]; decide) ec ?_
    exact k c h3 hc d3
  · intro l h3 hl hsm d3
    array_get_dec
    refine so_joinL (by omega) (q _ _ ⟨l, rfl, by omega, by omega, hsm⟩ ((d1.trans d2).trans d3))
end Lw

/-! LibB: likeness. -/
set_option Elab.async false
set_option linter.all false
set_option maxRecDepth 100000
set_option maxHeartbeats 4000000
namespace Lw
open PySem Dn
local macro_rules | `(tactic| sizeOf_list_dec) => `(tactic| with_reducible (first
  | refine sa_V0 ?_ | refine sa_V1 ?_ | refine sa_V2 ?_ | refine sa_V3 ?_ | refine sa_V4 ?_ | refine sa_V5 ?_ | refine sa_V6 ?_ | refine sa_V7 ?_ | refine sa_V8 ?_ | refine sa_V9 ?_ | refine sa_V10 ?_ | refine sa_V11 ?_ | refine sa_V12 ?_ | refine sa_V13 ?_ | refine sa_V14 ?_ | refine sa_V15 ?_ | refine sa_C ?_ | refine sa_B ?_ | refine sa_U ?_ | refine sa_F ?_ | refine sa_aN ?_ | refine sa_aC ?_ | refine sa_tup ?_ | refine sa_lst ?_ | refine sa_new ?_ | refine sa_tE ?_ | refine sa_If ?_ | refine sa_And ?_ | refine sa_Or ?_ | refine sa_Not ?_ | refine sa_tAnd ?_ | refine sa_tOr ?_ | refine sa_tNot ?_ | refine sa_chain ?_ | refine sa_M ?_ | refine sa_Sl ?_ | refine sa_SlN ?_ | refine sa_pN ?_ | refine sa_pE ?_ | refine sa_wE ?_ | refine sa_wR1 ?_ | refine sa_wR2 ?_ | refine sa_tYes ?_ | refine ss_nx ?_ | refine ss_seq ?_ | refine ss_asg0 ?_ | refine ss_asg1 ?_ | refine ss_asg2 ?_ | refine ss_asg3 ?_ | refine ss_asg4 ?_ | refine ss_asg5 ?_ | refine ss_asg6 ?_ | refine ss_asg7 ?_ | refine ss_asg8 ?_ | refine ss_asg9 ?_ | refine ss_asg10 ?_ | refine ss_asg11 ?_ | refine ss_asg12 ?_ | refine ss_asg13 ?_ | refine ss_asg14 ?_ | refine ss_asg15 ?_ | refine ss_expr ?_ | refine ss_ret ?_ | refine ss_retN ?_ | refine ss_if ?_ | refine ss_put ?_ | refine ss_bk ?_ | refine ss_ct ?_ | refine so_add ?_ | refine so_sub ?_ | refine so_lt ?_ | refine so_le ?_ | refine so_gt ?_ | refine so_ge ?_ | refine so_eqI ?_ | refine so_neI ?_ | refine so_eqS ?_ | refine so_neS ?_ | refine so_eqB ?_ | refine so_neB ?_ | refine so_isN ?_ | refine so_notN ?_ | refine so_len ?_ | refine so_lenT ?_ | refine so_lenC ?_ | refine so_max ?_ | refine so_min ?_ | refine so_intI ?_ | refine so_intB ?_ | refine so_ixL0 ?_ | refine so_ixL1 ?_ | refine so_ixL2 ?_ | refine so_ixL3 ?_ | refine so_ixL4 ?_ | refine so_ixL5 ?_ | refine so_ixT0 ?_ | refine so_ixT1 ?_ | refine so_ixT2 ?_ | refine so_ixT3 ?_ | refine so_ixT4 ?_ | refine so_ixT5 ?_
  | refine so_isiI_tuple ?_ | refine so_isiI_list ?_ | refine so_isiI_str ?_ | refine so_isiI_bool ?_ | refine so_isiI_int ?_ | refine so_isiS_tuple ?_ | refine so_isiS_list ?_ | refine so_isiS_str ?_ | refine so_isiS_bool ?_ | refine so_isiS_int ?_ | refine so_isiB_tuple ?_ | refine so_isiB_list ?_ | refine so_isiB_str ?_ | refine so_isiB_bool ?_ | refine so_isiB_int ?_ | refine so_isiN_tuple ?_ | refine so_isiN_list ?_ | refine so_isiN_str ?_ | refine so_isiN_bool ?_ | refine so_isiN_int ?_ | refine so_isiT_tuple ?_ | refine so_isiT_list ?_ | refine so_isiT_str ?_ | refine so_isiT_bool ?_ | refine so_isiT_int ?_ | refine so_isiL_tuple ?_ | refine so_isiL_list ?_ | refine so_isiL_str ?_ | refine so_isiL_bool ?_ | refine so_isiL_int ?_
  | refine so_mod (by decide) ?_ | refine so_mul (mulOkL (by decide)) ?_ | refine so_div (by decide) ?_ | refine so_ixR0 (by assumption) ?_ | refine so_ixR1 (by assumption) ?_ | refine so_ixR2 (by assumption) ?_ | refine so_lenR (by assumption) ?_
  | (refine so_addL (by simp only [List.length_append, List.length_cons, List.length_nil]; omega) ?_; try simp only [List.cons_append, List.nil_append])
  | refine Exists.intro _ (And.intro rfl ?_)
  | refine And.intro (show _ ≤ 16777216 by simp only [List.length_cons, List.length_nil]; omega) ?_))
local macro_rules | `(tactic| array_get_dec) => `(tactic| repeat sizeOf_list_dec)
def m_law_same_b (n : Nat) (m_law_samer : FM) : SM :=
  (sSeq (sAsg (gN 2) (eLst (aC (eU (isi "tuple") (eV 0)) (aC (eU (isi "list") (eV 0)) (aC (eU (isi "str") (eV 0)) (aC (eU (isi "bool") (eV 0)) aN))))))
  (sSeq (sAsg (gN 2) (eB opAdd (eV 2) (eLst (aC (eB opIsN (eV 0) (eC .non)) aN))))
  (sSeq (sAsg (gN 3) (eLst (aC (eU (isi "tuple") (eV 1)) (aC (eU (isi "list") (eV 1)) (aC (eU (isi "str") (eV 1)) aN)))))
  (sSeq (sAsg (gN 3) (eB opAdd (eV 3) (eLst (aC (eU (isi "bool") (eV 1)) aN))))
  (sSeq (sIf (tE (eB opNe (eV 2) (eB opAdd (eV 3) (eLst (aC (eB opIsN (eV 1) (eC .non)) aN))))) (sRet (eC (.bl false))) sNx)
  (sSeq (sIf (tAnd (tNot (tE (eB opIx (eV 2) (eC (.int 0))))) (tNot (tE (eB opIx (eV 2) (eC (.int 1)))))) (sRet (eB opEq (eV 0) (eV 1))) sNx)
  (sSeq (sIf (tE (eB opNe (eF bLen (aC (eV 0) aN)) (eF bLen (aC (eV 1) aN)))) (sRet (eC (.bl false))) sNx)
  (sRet (eB opNotIn (eC (.bl false)) (eLc [4] (gN 4) (wR1 (eF bLen (aC (eV 0) aN))) tYes (eF m_law_samer (aC (eB opIx (eV 0) (eV 4)) (aC (eB opIx (eV 1) (eV 4)) aN)))))))))))))
def m_law_same : Nat → FM
  | 0 => fun _ _ => .err
  | n + 1 => fn0 2 5 (m_law_same_b n (m_law_same n))

/-! ### likeness -/
/-- plain data, less than n deep -/
def Pl : Nat → D → Prop
  | 0, _ => False
  | _ + 1, .non => True
  | _ + 1, .bl _ => True
  | _ + 1, .int _ => True
  | _ + 1, .str _ => True
  | n + 1, .tup l => l.length ≤ 16777215 ∧ ∀ x ∈ l, Pl n x
  | n + 1, .lst l => l.length ≤ 16777215 ∧ ∀ x ∈ l, Pl n x
  | _, _ => False
theorem atI_nat {α : Type} {l : List α} {i : Nat} {x : α} (e : l[i]? = some x) : L2.atI l (i : Int) = some x := by
  have hi := (List.getElem?_eq_some_iff.mp e).1
  unfold L2.atI L2.ixN
  rw [if_pos (by omega), if_pos (by omega)]
  simpa using e
theorem same : ∀ (n : Nat) (d : D) (h : Hm) (Q : D → Hm → Prop), Pl n d → Q (.bl true) h → Sat (m_law_same n [d, d] h) Q
  | 0, d, h, Q, p, q => p.elim
  | n + 1, d, h, Q, p, q => by
    refine sa_fn rfl ?_
    unfold m_law_same_b
    simp only [List.map_cons, List.map_nil, List.replicate, Nat.reduceSub, List.cons_append, List.nil_append]
    have lc : ∀ (l : List D) (o : D) (v : Ev), l.length ≤ 16777215 → (∀ x ∈ l, Pl n x) → v.length = 5 → v[0]? = some (some o) → v[1]? = some (some o) → (∀ h' : Hm, ∀ P : D → Hm → Prop, P (.int l.length) h' → Sat (bLen [o] h') P) →
      (∀ (i : Nat) (h' : Hm) (x : D) (P : D → Hm → Prop), l[i]? = some x → P x h' → Sat (opIx o (.int i) h') P) →
      Sat (eLc [4] (gN 4) (wR1 (eF bLen (aC (eV 0) aN))) tYes (eF (m_law_same n) (aC (eB opIx (eV 0) (eV 4)) (aC (eB opIx (eV 1) (eV 4)) aN))) v h) fun y h2 => Sat (opNotIn (.bl false) y h2) Q := by
      intro l o v hl hp hv e0 e1 hlen hix
      match v, hv with
      | [a, b, c, d, e], _ =>
        simp only [List.getElem?_cons_zero, List.getElem?_cons_succ, Option.some.injEq] at e0 e1
        subst e0; subst e1
        refine sa_Lc ?_
        array_get_dec
        refine hlen _ _ ⟨_, rfl, by omega, by omega, ?_⟩
        refine ⟨by simp; omega, fun i acc h' => acc = List.replicate i (.bl true) ∧ h' = h, ⟨rfl, rfl⟩, ?_, ?_⟩
        · rintro i x acc h' hx ⟨rfl, rfl⟩
          have hi : i < l.length := by
            have := (List.getElem?_eq_some_iff.mp hx).1
            simpa using this
          have hxe : x = .int i := by
            simp [hi] at hx; exact hx.symm
          subst hxe
          refine ⟨rfl, _, rfl, ?_⟩
          simp only [wipeE, List.foldr, List.set_cons_zero, List.set_cons_succ]
          array_get_dec
          refine ⟨fun _ => ?_, fun z => nomatch z⟩
          array_get_dec
          have ex : l[i]? = some l[i] := List.getElem?_eq_getElem hi
          refine hix i _ _ _ ex ?_
          array_get_dec
          refine hix i _ _ _ ex ?_
          array_get_dec
          refine same n _ _ _ (hp _ (List.getElem_mem hi)) ⟨?_, rfl⟩
          rw [List.replicate_succ']
        · rintro acc h' ⟨rfl, rfl⟩
          refine ⟨rfl, so_notInF ?_ ?_⟩
          · simp [flatD]
          · have e : ((List.replicate ((List.range ((l.length : Int)).toNat).map fun (i : Nat) => D.int (i : Int)).length (D.bl true)).any fun z => D.eqb z (.bl false)) = false := by
              rw [List.any_eq_false]
              intro z hz
              rw [List.eq_of_mem_replicate hz]
              decide
            rw [e]; exact q
    cases d with
    | ref _ => exact p.elim
    | exn _ _ => exact p.elim
    | scr _ => exact p.elim
    | int i =>
      array_get_dec
      refine so_neD rfl rfl rfl ?_
      refine ⟨_, rfl, fun hc => ?_, fun _ => ?_⟩
      · simp [dr, lsOf, D.eqb, D.eqbL] at hc
      array_get_dec
      refine ⟨fun _ => ?_, fun hc => nomatch hc⟩
      array_get_dec
      refine ⟨fun _ => ?_, fun hc => nomatch hc⟩
      array_get_dec
      simpa using q
    | str x =>
      array_get_dec
      refine so_neD rfl rfl rfl ?_
      refine ⟨_, rfl, fun hc => ?_, fun _ => ?_⟩
      · simp [dr, lsOf, D.eqb, D.eqbL] at hc
      array_get_dec
      refine ⟨fun _ => ?_, fun hc => nomatch hc⟩
      array_get_dec
      refine ⟨fun _ => ?_, fun hc => nomatch hc⟩
      array_get_dec
      simpa using q
    | bl b =>
      array_get_dec
      refine so_neD rfl rfl rfl ?_
      refine ⟨_, rfl, fun hc => ?_, fun _ => ?_⟩
      · simp [dr, lsOf, D.eqb, D.eqbL] at hc
      array_get_dec
      refine ⟨fun _ => ?_, fun hc => nomatch hc⟩
      array_get_dec
      refine ⟨fun _ => ?_, fun hc => nomatch hc⟩
      array_get_dec
      simpa using q
    | non =>
      array_get_dec
      refine so_neD rfl rfl rfl ?_
      refine ⟨_, rfl, fun hc => ?_, fun _ => ?_⟩
      · simp [dr, lsOf, D.eqb, D.eqbL] at hc
      array_get_dec
      refine ⟨fun _ => ?_, fun hc => nomatch hc⟩
      array_get_dec
      refine ⟨fun _ => ?_, fun hc => nomatch hc⟩
      array_get_dec
      exact ⟨by simpa [opEq, scalD, D.eqb, SatP] using q⟩
    | tup l =>
      array_get_dec
      refine so_neD rfl rfl rfl ?_
      refine ⟨_, rfl, fun hc => ?_, fun _ => ?_⟩
      · simp [dr, lsOf, D.eqb, D.eqbL] at hc
      array_get_dec
      refine ⟨(fun hc => nomatch hc), fun _ => ?_⟩
      array_get_dec
      refine ⟨(fun hc => nomatch hc), fun _ => ?_⟩
      array_get_dec
      refine ⟨fun hc => ?_, fun _ => ?_⟩
      · simp at hc
      show SatS _ _ _ _ _
      with_reducible refine ss_nx ?_
      with_reducible refine ss_ret ?_
      with_reducible refine sa_B ?_
      with_reducible refine sa_C ?_
      have p : l.length ≤ 16777215 ∧ ∀ x ∈ l, Pl n x := by unfold Pl at p; exact p
      have k1 : ∀ h' : Hm, ∀ P : D → Hm → Prop, P (.int l.length) h' → Sat (bLen [.tup l] h') P := fun h' P z => so_lenT z
      have k2 : ∀ (i : Nat) (h' : Hm) (x : D) (P : D → Hm → Prop), l[i]? = some x → P x h' → Sat (opIx (.tup l) (.int i) h') P := fun i h' x P ex z => so_ixT (atI_nat ex) z
      have k3 := fun (v : Ev) e0 e1 e2 => lc l (.tup l) v p.1 p.2 e0 e1 e2 k1 k2
      with_reducible refine k3 _ ?_ ?_ ?_
      all_goals rfl
    | lst l =>
      array_get_dec
      refine so_neD rfl rfl rfl ?_
      refine ⟨_, rfl, fun hc => ?_, fun _ => ?_⟩
      · simp [dr, lsOf, D.eqb, D.eqbL] at hc
      array_get_dec
      refine ⟨fun _ => ?_, fun hc => nomatch hc⟩
      array_get_dec
      refine ⟨(fun hc => nomatch hc), fun _ => ?_⟩
      array_get_dec
      refine ⟨fun hc => ?_, fun _ => ?_⟩
      · simp at hc
      show SatS _ _ _ _ _
      with_reducible refine ss_nx ?_
      with_reducible refine ss_ret ?_
      with_reducible refine sa_B ?_
      with_reducible refine sa_C ?_
      have p : l.length ≤ 16777215 ∧ ∀ x ∈ l, Pl n x := by unfold Pl at p; exact p
      have k1 : ∀ h' : Hm, ∀ P : D → Hm → Prop, P (.int l.length) h' → Sat (bLen [.lst l] h') P := fun h' P z => so_len z
      have k2 : ∀ (i : Nat) (h' : Hm) (x : D) (P : D → Hm → Prop), l[i]? = some x → P x h' → Sat (opIx (.lst l) (.int i) h') P := fun i h' x P ex z => so_ixL (atI_nat ex) z
      have k3 := fun (v : Ev) e0 e1 e2 => lc l (.lst l) v p.1 p.2 e0 e1 e2 k1 k2
      with_reducible refine k3 _ ?_ ?_ ?_
      all_goals rfl
end Lw

/-! LibC: deeds, items, letters, their texts and prices. -/
set_option Elab.async false
set_option linter.all false
set_option maxRecDepth 100000
set_option maxHeartbeats 4000000
namespace Lw
open PySem Dn
local macro_rules | `(tactic| sizeOf_list_dec) => `(tactic| with_reducible (first
  | refine sa_V0 ?_ | refine sa_V1 ?_ | refine sa_V2 ?_ | refine sa_V3 ?_ | refine sa_V4 ?_ | refine sa_V5 ?_ | refine sa_V6 ?_ | refine sa_V7 ?_ | refine sa_V8 ?_ | refine sa_V9 ?_ | refine sa_V10 ?_ | refine sa_V11 ?_ | refine sa_V12 ?_ | refine sa_V13 ?_ | refine sa_V14 ?_ | refine sa_V15 ?_ | refine sa_C ?_ | refine sa_B ?_ | refine sa_U ?_ | refine sa_F ?_ | refine sa_aN ?_ | refine sa_aC ?_ | refine sa_tup ?_ | refine sa_lst ?_ | refine sa_new ?_ | refine sa_tE ?_ | refine sa_If ?_ | refine sa_And ?_ | refine sa_Or ?_ | refine sa_Not ?_ | refine sa_tAnd ?_ | refine sa_tOr ?_ | refine sa_tNot ?_ | refine sa_chain ?_ | refine sa_M ?_ | refine sa_Sl ?_ | refine sa_SlN ?_ | refine sa_pN ?_ | refine sa_pE ?_ | refine sa_wE ?_ | refine sa_wR1 ?_ | refine sa_wR2 ?_ | refine sa_tYes ?_ | refine ss_nx ?_ | refine ss_seq ?_ | refine ss_asg0 ?_ | refine ss_asg1 ?_ | refine ss_asg2 ?_ | refine ss_asg3 ?_ | refine ss_asg4 ?_ | refine ss_asg5 ?_ | refine ss_asg6 ?_ | refine ss_asg7 ?_ | refine ss_asg8 ?_ | refine ss_asg9 ?_ | refine ss_asg10 ?_ | refine ss_asg11 ?_ | refine ss_asg12 ?_ | refine ss_asg13 ?_ | refine ss_asg14 ?_ | refine ss_asg15 ?_ | refine ss_expr ?_ | refine ss_ret ?_ | refine ss_retN ?_ | refine ss_if ?_ | refine ss_put ?_ | refine ss_bk ?_ | refine ss_ct ?_ | refine so_add ?_ | refine so_sub ?_ | refine so_lt ?_ | refine so_le ?_ | refine so_gt ?_ | refine so_ge ?_ | refine so_eqI ?_ | refine so_neI ?_ | refine so_eqS ?_ | refine so_neS ?_ | refine so_eqB ?_ | refine so_neB ?_ | refine so_isN ?_ | refine so_notN ?_ | refine so_len ?_ | refine so_lenT ?_ | refine so_lenC ?_ | refine so_max ?_ | refine so_min ?_ | refine so_intI ?_ | refine so_intB ?_ | refine so_ixL0 ?_ | refine so_ixL1 ?_ | refine so_ixL2 ?_ | refine so_ixL3 ?_ | refine so_ixL4 ?_ | refine so_ixL5 ?_ | refine so_ixT0 ?_ | refine so_ixT1 ?_ | refine so_ixT2 ?_ | refine so_ixT3 ?_ | refine so_ixT4 ?_ | refine so_ixT5 ?_
  | refine so_isiI_tuple ?_ | refine so_isiI_list ?_ | refine so_isiI_str ?_ | refine so_isiI_bool ?_ | refine so_isiI_int ?_ | refine so_isiS_tuple ?_ | refine so_isiS_list ?_ | refine so_isiS_str ?_ | refine so_isiS_bool ?_ | refine so_isiS_int ?_ | refine so_isiB_tuple ?_ | refine so_isiB_list ?_ | refine so_isiB_str ?_ | refine so_isiB_bool ?_ | refine so_isiB_int ?_ | refine so_isiN_tuple ?_ | refine so_isiN_list ?_ | refine so_isiN_str ?_ | refine so_isiN_bool ?_ | refine so_isiN_int ?_ | refine so_isiT_tuple ?_ | refine so_isiT_list ?_ | refine so_isiT_str ?_ | refine so_isiT_bool ?_ | refine so_isiT_int ?_ | refine so_isiL_tuple ?_ | refine so_isiL_list ?_ | refine so_isiL_str ?_ | refine so_isiL_bool ?_ | refine so_isiL_int ?_
  | refine so_mod (by decide) ?_ | refine so_mul (mulOkL (by decide)) ?_ | refine so_div (by decide) ?_ | refine so_ixR0 (by assumption) ?_ | refine so_ixR1 (by assumption) ?_ | refine so_ixR2 (by assumption) ?_ | refine so_lenR (by assumption) ?_
  | (refine so_addL (by simp only [List.length_append, List.length_cons, List.length_nil]; omega) ?_; try simp only [List.cons_append, List.nil_append])
  | refine Exists.intro _ (And.intro rfl ?_)
  | refine And.intro (show _ ≤ 16777216 by simp only [List.length_cons, List.length_nil]; omega) ?_))
local macro_rules | `(tactic| array_get_dec) => `(tactic| repeat sizeOf_list_dec)
def m_deed_text_b : SM :=
  (sSeq (sIf (tE (eB opEq (eB opIx (eV 0) (eC (.int 0))) (eC (.str (Str.ofString "put"))))) (sRet (eB opAdd (eC (.str (Str.ofString "+"))) (eB opIx (eV 0) (eC (.int 1))))) sNx)
  (sRet (eB opAdd (eIf (tE (eB opEq (eB opIx (eV 0) (eC (.int 0))) (eC (.str (Str.ofString "again"))))) (eC (.str (Str.ofString "*"))) (eC (.str (Str.ofString "=")))) (eF bStr (aC (eB opIx (eV 0) (eC (.int 1))) aN)))))
def m_deed_text : FM := fn0 1 1 m_deed_text_b
def m_item_text_b : SM :=
  (sRet (eIf (tE (eB opEq (eB opIx (eV 0) (eC (.int 0))) (eC (.str (Str.ofString "word"))))) (eB opIx (eV 0) (eC (.int 1))) (eF bStr (aC (eB opIx (eV 0) (eC (.int 1))) aN))))
def m_item_text : FM := fn0 1 1 m_item_text_b
def m_deed_price_b : SM :=
  (sRet (eB opAdd (eF bLen (aC (eF m_deed_text (aC (eV 0) aN)) aN)) (eC (.int 1))))
def m_deed_price : FM := fn0 1 1 m_deed_price_b
def m_item_price_b : SM :=
  (sRet (eB opAdd (eF bLen (aC (eF m_item_text (aC (eV 0) aN)) aN)) (eC (.int 1))))
def m_item_price : FM := fn0 1 1 m_item_price_b
def m_letter_price_b : SM :=
  (sRet (eF bSum (aC (eLc [1] (gN 1) (wE (eB opIx (eV 0) (eC (.int 1)))) tYes (eF m_item_price (aC (eV 1) aN))) aN)))
def m_letter_price : FM := fn0 1 2 m_letter_price_b
def m_law_good_b : SM :=
  (sSeq (sAsg (gN 1) (eF m_law_spoon (aC (eV 0) (aC (eC (.int 3)) aN))))
  (sSeq (sAsg (gN 2) (eB opIx (eLst (aC (eF m_law_spoon (aC (eV 0) (aC (eC (.int 201)) aN))) (aC (eC (.int 0)) (aC (eC (.int 200)) (aC (eC (.int 1)) (aC (eC (.int 999)) (aC (eB opAdd (eC (.int 1)) (eF m_law_spoon (aC (eV 0) (aC (eC (.int 999)) aN)))) aN))))))) (eF m_law_spoon (aC (eV 0) (aC (eC (.int 6)) aN)))))
  (sSeq (sIf (tE (eB opEq (eV 1) (eC (.int 0)))) (sRet (eTup (aC (eC (.str (Str.ofString "put"))) (aC (eF m_law_word (aC (eV 0) aN)) aN)))) sNx)
  (sSeq (sIf (tE (eB opEq (eV 1) (eC (.int 1)))) (sRet (eTup (aC (eC (.str (Str.ofString "again"))) (aC (eF bMax (aC (eC (.int 1)) (aC (eV 2) aN))) aN)))) sNx)
  (sRet (eTup (aC (eC (.str (Str.ofString "room"))) (aC (eF bMin (aC (eC (.int 200)) (aC (eV 2) aN))) aN))))))))
def m_law_good : FM := fn0 1 3 m_law_good_b
def m_law_letter_b : SM :=
  (sSeq (sAsg (gN 1) (eF m_law_spoon (aC (eV 0) (aC (eC (.int 5)) aN))))
  (sSeq (sAsg (gN 2) (eB opIx (eLst (aC (eC (.int 1)) (aC (eC (.int 8)) (aC (eB opAdd (eC (.int 1)) (eF m_law_spoon (aC (eV 0) (aC (eC (.int 8)) aN)))) aN)))) (eF m_law_spoon (aC (eV 0) (aC (eC (.int 3)) aN)))))
  (sSeq (sAsg (gN 3) (eB opIx (eLst (aC (eC (.int 0)) (aC (eC (.int 1)) (aC (eC (.int 20000)) (aC (eF m_law_spoon (aC (eV 0) (aC (eC (.int 20001)) aN))) (aC (eF m_law_spoon (aC (eV 0) (aC (eC (.int 30)) aN))) aN)))))) (eV 1)))
  (sSeq (sAsg (gN 4) (eNew aN))
  (sSeq (sFor (gN 5) (wR1 (eV 2)) (sSeq (sAsg (gN 6) (eF m_law_spoon (aC (eV 0) (aC (eC (.int 3)) aN))))
  (sSeq (sAsg (gN 7) (eLst (aC (eC (.int 1)) (aC (eV 3) (aC (eB opAdd (eC (.int 1)) (eF m_law_spoon (aC (eV 0) (aC (eF bMax (aC (eC (.int 1)) (aC (eV 3) aN))) aN)))) aN)))))
  (sSeq (sAsg (gN 7) (eB opAdd (eV 7) (eLst (aC (eB opAdd (eC (.int 1)) (eF m_law_spoon (aC (eV 0) (aC (eF bMax (aC (eC (.int 1)) (aC (eF bMin (aC (eV 3) (aC (eC (.int 12)) aN))) aN))) aN)))) aN))))
  (sIf (tOr (tE (eB opEq (eV 6) (eC (.int 0)))) (tE (eB opEq (eV 3) (eC (.int 0))))) (sExpr (eM "list" mAppend (eV 4) (aC (eTup (aC (eC (.str (Str.ofString "word"))) (aC (eF m_law_word (aC (eV 0) aN)) aN))) aN))) (sExpr (eM "list" mAppend (eV 4) (aC (eTup (aC (eC (.str (Str.ofString "by"))) (aC (eB opIx (eV 7) (eF m_law_spoon (aC (eV 0) (aC (eC (.int 4)) aN)))) aN))) aN))))))))
  (sRet (eTup (aC (eV 3) (aC (eF bTuple (aC (eV 4) aN)) aN)))))))))
def m_law_letter : FM := tr (fn0 1 8 m_law_letter_b)
def m_law_signs_b : SM :=
  (sSeq (sIf (tE (eU (isi "str") (eV 0))) (sRet (eF bLen (aC (eV 0) aN))) sNx)
  (sSeq (sAsg (gN 1) (eC (.int 1)))
  (sSeq (sWh (tE (eB opGt (eV 0) (eC (.int 9)))) (sSeq (sAsg (gN 0) (eB opDiv (eV 0) (eC (.int 10))))
  (sAsg (gN 1) (eB opAdd (eV 1) (eC (.int 1))))))
  (sRet (eV 1)))))
def m_law_signs : FM := fn0 1 2 m_law_signs_b

/-! ### texts of numbers -/
/-- how many signs a number's text has -/
def dg (n : Nat) : Nat := (Nat.toDigits 10 n).length
theorem dg_lt {n : Nat} (h : n < 10) : dg n = 1 := by unfold dg; rw [Nat.toDigits_of_lt_base h]; rfl
theorem dg_ge {n : Nat} (h : 10 ≤ n) : dg n = dg (n / 10) + 1 := by unfold dg; rw [Nat.toDigits_of_base_le (by decide) h]; simp
theorem dg_le : ∀ n : Nat, dg n ≤ n + 1 := by
  intro n
  induction n using Nat.strongRecOn with
  | _ n ih =>
    by_cases h : n < 10
    · rw [dg_lt h]; omega
    · rw [dg_ge (by omega)]; have := ih (n / 10) (by omega); omega
theorem strI_S (n : Nat) : strI (n : Int) = S (TL.numL n) := TL.ext_tl (TL.tl_num n)
theorem dg_numL (n : Nat) : dg n = (TL.numL n).length := by unfold dg TL.numL; rw [List.length_map]
theorem S_app (a b : List Nat) : S a ++ S b = S (a ++ b) := TL.ext_tl (by rw [TL.tl_append]; rfl)
theorem app_len (a b : Str) : (a ++ b).length = a.length + b.length := by
  rw [S_of a, S_of b, S_app, S_len, S_len, S_len, List.length_append]
theorem strI_len {n : Int} (h : 0 ≤ n) : (strI n).length = dg n.toNat := by
  obtain ⟨m, rfl⟩ := Int.eq_ofNat_of_zero_le h
  rw [strI_S, S_len, dg_numL]; rfl
theorem dg_small {n : Nat} (h : n < 1000000) : dg n ≤ 6 := by
  rw [dg_numL]; exact TL.numL_len (by decide) h

/-! ### deeds and items -/
inductive IsDeed : D → Prop
  | put (w : Str) (h : IsW w) : IsDeed (.tup [.str (Str.ofString "put"), .str w])
  | again (n : Int) (h0 : 1 ≤ n) (h1 : n ≤ 999) : IsDeed (.tup [.str (Str.ofString "again"), .int n])
  | room (n : Int) (h0 : 0 ≤ n) (h1 : n ≤ 200) : IsDeed (.tup [.str (Str.ofString "room"), .int n])
inductive IsItem : D → Prop
  | word (w : Str) (h : IsW w) : IsItem (.tup [.str (Str.ofString "word"), .str w])
  | by_ (n : Int) (h0 : 1 ≤ n) (h1 : n ≤ 20000) : IsItem (.tup [.str (Str.ofString "by"), .int n])
/-- how many signs a word or a number has -/
def sgn : D → Nat
  | .str w => w.length
  | .int n => dg n.toNat
  | _ => 0
theorem len1 : (Str.ofString "+").length = 1 ∧ (Str.ofString "*").length = 1 ∧ (Str.ofString "=").length = 1 := by decide +kernel
theorem ne_put : decide (Str.ofString "put" = Str.ofString "put") = true ∧ decide (Str.ofString "again" = Str.ofString "put") = false ∧ decide (Str.ofString "room" = Str.ofString "put") = false ∧ decide (Str.ofString "again" = Str.ofString "again") = true ∧ decide (Str.ofString "room" = Str.ofString "again") = false := by decide +kernel
theorem ne_word : decide (Str.ofString "word" = Str.ofString "word") = true ∧ decide (Str.ofString "by" = Str.ofString "word") = false := by decide +kernel
def pay : D → D
  | .tup [_, b] => b
  | _ => .non
theorem sgn_int {n : Int} (h0 : 0 ≤ n) (h1 : n < 1000000) : sgn (.int n) ≤ 12 := by
  have := dg_small (n := n.toNat) (by omega)
  show dg n.toNat ≤ 12
  omega
theorem IsDeed.sgn {d : D} (i : IsDeed d) : sgn (pay d) ≤ 12 := by
  cases i with
  | put w hw => exact hw.len.2
  | again n h0 h1 => exact sgn_int (by omega) (by omega)
  | room n h0 h1 => exact sgn_int (by omega) (by omega)
theorem IsItem.sgn {d : D} (i : IsItem d) : sgn (pay d) ≤ 12 := by
  cases i with
  | word w hw => exact hw.len.2
  | by_ n h0 h1 => exact sgn_int (by omega) (by omega)
/-- a deed's text -/
theorem deed_text {d : D} {h : Hm} {Q : D → Hm → Prop} (i : IsDeed d) (q : ∀ y : Str, y.length = 1 + sgn (pay d) → Q (.str y) h) : Sat (m_deed_text [d] h) Q := by
  refine sa_fn rfl ?_
  unfold m_deed_text_b
  simp only [List.map_cons, List.map_nil, List.replicate, Nat.reduceSub, List.cons_append, List.nil_append]
  cases i with
  | put w hw =>
    array_get_dec
    refine ⟨fun _ => ?_, fun hc => by simp [ne_put] at hc⟩
    array_get_dec
    have := hw.len
    exact so_addS (by rw [len1.1]; omega) (q _ (by rw [app_len, len1.1]; rfl))
  | again n h0 h1 =>
    array_get_dec
    refine ⟨fun hc => by simp [ne_put] at hc, fun _ => ?_⟩
    array_get_dec
    have e := strI_len (n := n) (by omega)
    have e2 := dg_small (n := n.toNat) (by omega)
    refine ⟨fun _ => ?_, fun hc => by simp [ne_put] at hc⟩
    array_get_dec
    refine so_str (by omega) ?_
    exact so_addS (by rw [len1.2.1]; omega) (q _ (by rw [app_len, len1.2.1, e]; rfl))
  | room n h0 h1 =>
    array_get_dec
    refine ⟨fun hc => by simp [ne_put] at hc, fun _ => ?_⟩
    array_get_dec
    have e := strI_len (n := n) (by omega)
    have e2 := dg_small (n := n.toNat) (by omega)
    refine ⟨fun hc => by simp [ne_put] at hc, fun _ => ?_⟩
    array_get_dec
    refine so_str (by omega) ?_
    exact so_addS (by rw [len1.2.2]; omega) (q _ (by rw [app_len, len1.2.2, e]; rfl))
theorem deed_price {d : D} {h : Hm} {Q : D → Hm → Prop} (i : IsDeed d) (q : Q (.int (2 + sgn (pay d))) h) : Sat (m_deed_price [d] h) Q := by
  refine sa_fn rfl ?_
  unfold m_deed_price_b
  simp only [List.map_cons, List.map_nil, List.replicate, Nat.reduceSub, List.cons_append, List.nil_append]
  array_get_dec
  refine deed_text i fun y hy => ?_
  array_get_dec
  have := i.sgn
  refine so_lenS (by omega) ?_
  array_get_dec
  rw [show ((y.length : Int) + 1) = 2 + sgn (pay d) by omega]
  exact q
theorem item_text {d : D} {h : Hm} {Q : D → Hm → Prop} (i : IsItem d) (q : ∀ y : Str, y.length = sgn (pay d) → Q (.str y) h) : Sat (m_item_text [d] h) Q := by
  refine sa_fn rfl ?_
  unfold m_item_text_b
  simp only [List.map_cons, List.map_nil, List.replicate, Nat.reduceSub, List.cons_append, List.nil_append]
  cases i with
  | word w hw =>
    array_get_dec
    refine ⟨fun _ => ?_, fun hc => by simp [ne_word] at hc⟩
    array_get_dec
    exact q _ rfl
  | by_ n h0 h1 =>
    array_get_dec
    refine ⟨fun hc => by simp [ne_word] at hc, fun _ => ?_⟩
    array_get_dec
    refine so_str (by omega) ?_
    exact q _ (strI_len (by omega))
theorem item_price {d : D} {h : Hm} {Q : D → Hm → Prop} (i : IsItem d) (q : Q (.int (1 + sgn (pay d))) h) : Sat (m_item_price [d] h) Q := by
  refine sa_fn rfl ?_
  unfold m_item_price_b
  simp only [List.map_cons, List.map_nil, List.replicate, Nat.reduceSub, List.cons_append, List.nil_append]
  array_get_dec
  refine item_text i fun y hy => ?_
  array_get_dec
  have := i.sgn
  refine so_lenS (by omega) ?_
  array_get_dec
  rw [show ((y.length : Int) + 1) = 1 + sgn (pay d) by omega]
  exact q
/-- a comprehension whose elements change nothing -/
theorem sa_LcMap {own : List Nat} {k : Nat} {w : Ev → Hm → R Wk} {e : EM} {v : Ev} {h : Hm} {Q : D → Hm → Prop} {l : List D} (f : D → D) (hl : l.length ≤ 16777215) (hw : Sat (w v h) fun k h1 => k = ⟨l, fun _ => true⟩ ∧ h1 = h)
    (he : ∀ x ∈ l, ∀ P : D → Hm → Prop, P (f x) h → Sat (e ((wipeE v own).set k (some x)) h) P) (q : Q (.lst (l.map f)) h) : Sat (eLc own (gN k) w tYes e v h) Q := by
  refine sa_Lc (hw.imp ?_)
  rintro _ _ ⟨rfl, rfl⟩
  refine ⟨hl, fun i acc h' => acc = (l.take i).map f ∧ h' = _, ⟨rfl, rfl⟩, ?_, ?_⟩
  · rintro i x acc h' hx ⟨rfl, rfl⟩
    refine ⟨rfl, _, rfl, sa_tYes ⟨fun _ => ?_, fun z => nomatch z⟩⟩
    refine he x (List.mem_of_getElem? hx) _ ⟨?_, rfl⟩
    rw [List.take_add_one, hx]
    simp
  · rintro acc h' ⟨rfl, rfl⟩
    refine ⟨rfl, ?_⟩
    rw [List.take_length]
    exact q
/-- a letter: a room and items -/
inductive IsLetter : D → Prop
  | mk (r : Int) (l : List D) (h0 : 0 ≤ r) (h1 : r ≤ 20000) (h2 : 1 ≤ l.length) (h3 : l.length ≤ 8) (h4 : ∀ x ∈ l, IsItem x) : IsLetter (.tup [.int r, .tup l])
def priceL (l : List D) : Int := (l.map fun d => (1 : Int) + sgn (pay d)).sum
theorem letter_price {r : D} {l : List D} {h : Hm} {Q : D → Hm → Prop} (h3 : l.length ≤ 1000) (h4 : ∀ x ∈ l, IsItem x) (q : Q (.int (priceL l)) h) : Sat (m_letter_price [.tup [r, .tup l]] h) Q := by
  refine sa_fn rfl ?_
  unfold m_letter_price_b
  simp only [List.map_cons, List.map_nil, List.replicate, Nat.reduceSub, List.cons_append, List.nil_append]
  array_get_dec
  refine sa_LcMap (l := l) (fun d => .int (1 + sgn (pay d))) (by omega) (by
    array_get_dec
    exact so_wkT ⟨rfl, rfl⟩) ?_ ?_
  · intro x hx P p
    simp only [wipeE, List.foldr, List.set_cons_zero, List.set_cons_succ]
    array_get_dec
    exact item_price (h4 x hx) p
  · array_get_dec
    rw [show (l.map fun d => D.int (1 + sgn (pay d))) = (l.map fun d => (1 : Int) + sgn (pay d)).map D.int by simp]
    exact so_sum q

/-! ### draws of deeds and letters -/
theorem good {n B : Nat} {h : Hm} {Q : D → Hm → Prop} (w : Bow n (B + 30) h) (q : ∀ d h', IsDeed d → Drew n B h h' → Q d h') : Sat (m_law_good [.ref n] h) Q := by
  refine sa_fn rfl ?_
  unfold m_law_good_b
  simp only [List.map_cons, List.map_nil, List.replicate, Nat.reduceSub, List.cons_append, List.nil_append]
  array_get_dec
  refine spoon w (by decide) (by decide) fun k h1 k0 k1 d1 => ?_
  array_get_dec
  refine spoon d1.bow (by decide) (by decide) fun a h2 a0 a1 d2 => ?_
  array_get_dec
  refine spoon d2.bow (by decide) (by decide) fun b h3 b0 b1 d3 => ?_
  array_get_dec
  refine spoon d3.bow (by decide) (by decide) fun c h4 c0 c1 d4 => ?_
  array_get_dec
  refine so_ixP (IntIn 0 999) (by
    repeat refine all_cons (.mk (by omega) (by omega)) ?_
    exact all_nil) c0 (by simpa using c1) ?_
  rintro _ ⟨m, rfl, m0, m1⟩
  array_get_dec
  have dd := ((d1.trans d2).trans d3).trans d4
  refine ⟨fun _ => ?_, fun _ => ?_⟩
  · array_get_dec
    refine word (B := B) (dd.bow.le (by omega)) fun x h5 hx d5 => ?_
    array_get_dec
    exact q _ _ (.put x hx) (dd.trans d5)
  · array_get_dec
    refine ⟨fun _ => ?_, fun _ => ?_⟩
    · array_get_dec
      exact q _ _ (.again _ (by omega) (by omega)) (dd.le (by omega))
    · array_get_dec
      exact q _ _ (.room _ (by omega) (by omega)) (dd.le (by omega))
/-- draws of the bowl at n, new places beyond -/
structure DrewX (n B : Nat) (h h' : Hm) : Prop where
  bow : Bow n B h'
  lt : n < h.length
  len : h.length ≤ h'.length
  keep : ∀ m, m < h.length → m ≠ n → h'[m]? = h[m]?
theorem Drew.lt {n B : Nat} {h h' : Hm} (d : Drew n B h h') : n < h.length := by have := d.bow.lt; rw [d.len] at this; exact this
theorem Drew.x {n B : Nat} {h h' : Hm} (d : Drew n B h h') : DrewX n B h h' := ⟨d.bow, d.lt, Nat.le_of_eq d.len.symm, fun m _ hm => d.keep m hm⟩
theorem DrewX.then {n B B' : Nat} {h h1 h2 : Hm} (a : DrewX n B h h1) (b : Drew n B' h1 h2) : DrewX n B' h h2 := ⟨b.bow, a.lt, by rw [b.len]; exact a.len, fun m h0 hm => (b.keep m hm).trans (a.keep m h0 hm)⟩
theorem DrewX.le {n B B' : Nat} {h h' : Hm} (a : DrewX n B h h') (hb : B' ≤ B) : DrewX n B' h h' := ⟨a.bow.le hb, a.lt, a.len, a.keep⟩
theorem Bow.of_at {n B : Nat} {h h' : Hm} (w : Bow n B h) (e : h'[n]? = h[n]?) : Bow n B h' := by
  obtain ⟨a, b, c, w⟩ := w
  exact ⟨a, b, c, e.trans w.at_, w.a0, w.b0, w.c0, w.cB⟩
theorem DrewX.put {n B : Nat} {h h' : Hm} {k : Nat} {o : HD} (a : DrewX n B h h') (hk : h.length ≤ k) : DrewX n B h (h'.set k o) :=
  ⟨a.bow.of_at (List.getElem?_set_ne (by have := a.lt; omega)), a.lt, by rw [List.length_set]; exact a.len, fun m hm hn => by rw [List.getElem?_set_ne (by omega)]; exact a.keep m hm hn⟩
theorem DrewX.push {n B : Nat} {h h' : Hm} {o : HD} (a : DrewX n B h h') : DrewX n B h (h' ++ [o]) :=
  ⟨a.bow.of_at (List.getElem?_append_left (by have := a.lt; have := a.len; omega)), a.lt, by rw [List.length_append]; have := a.len; omega, fun m hm hn => by rw [List.getElem?_append_left (by have := a.len; omega)]; exact a.keep m hm hn⟩
theorem trOk_of {N : Nat} : ∀ {h h1 : Hm}, h.length ≤ h1.length → (∀ (m : Nat) (o p : HD), h[m]? = some o → h1[m]? = some p → (p = o ∨ HD.cl N p = true)) → trOk h h1 N = true
  | [], _, _, _ => rfl
  | o :: r, [], hl, _ => by simp at hl
  | o :: r, p :: s, hl, hk => by
    unfold trOk
    rw [trOk_of (h := r) (h1 := s) (by simpa using hl) fun m o' p' e1 e2 => hk (m + 1) o' p' (by simpa using e1) (by simpa using e2), Bool.and_true]
    rcases hk 0 o p rfl rfl with e | e
    · rw [e, HD.beq_refl]; rfl
    · rw [e]; simp
theorem Bow.cl {n B N : Nat} {h : Hm} {p : HD} (w : Bow n B h) (e : h[n]? = some p) : HD.cl N p = true := by
  obtain ⟨a, b, c, w⟩ := w
  rw [w.at_] at e
  injection e with e
  subst e
  rfl
/-- what goes when a def ends that drew -/
theorem DrewX.tr {n B : Nat} {h h' : Hm} (a : DrewX n B h h') : trOk h h' h.length = true ∧ Drew n B h (h'.take h.length) := by
  refine ⟨trOk_of a.len fun m o p e1 e2 => ?_, ?_, ?_, fun m hm => ?_⟩
  · by_cases hm : m = n
    · subst hm; exact .inr (a.bow.cl e2)
    · have := a.keep m ((List.getElem?_eq_some_iff.mp e1).1) hm
      rw [e1, e2] at this
      injection this with this
      exact .inl this
  · exact a.bow.of_at (List.getElem?_take_of_lt a.lt)
  · rw [List.length_take]; have := a.len; omega
  · by_cases hl : m < h.length
    · rw [List.getElem?_take_of_lt hl]; exact a.keep m hl hm
    · rw [List.getElem?_eq_none (l := h) (by omega), List.getElem?_eq_none (by simp only [List.length_take]; omega)]
theorem clL_all {N : Nat} : ∀ {l : List D}, (∀ x ∈ l, D.cl N x = true) → D.clL N l = true
  | [], _ => rfl
  | x :: r, h => by
    unfold D.clL
    rw [h x (by simp), clL_all fun y hy => h y (by simp [hy])]; rfl
theorem IsItem.cl {d : D} {N : Nat} (i : IsItem d) : D.cl N d = true := by
  cases i <;> rfl
theorem IsLetter.cl {d : D} {N : Nat} (i : IsLetter d) : D.cl N d = true := by
  cases i with
  | mk r l _ _ _ _ h4 =>
    simp only [D.cl, D.clL, Bool.true_and, Bool.and_true]
    exact clL_all fun x hx => (h4 x hx).cl
theorem letter {n B : Nat} {h : Hm} {Q : D → Hm → Prop} (w : Bow n (B + 300) h) (q : ∀ d h', IsLetter d → Drew n B h h' → Q d h') : Sat (m_law_letter [.ref n] h) Q := by
  refine sa_tr (sa_fn rfl ?_)
  unfold m_law_letter_b
  simp only [List.map_cons, List.map_nil, List.replicate, Nat.reduceSub, List.cons_append, List.nil_append]
  array_get_dec
  refine spoon w (by decide) (by decide) fun k h1 k0 k1 d1 => ?_
  array_get_dec
  refine spoon d1.bow (by decide) (by decide) fun a h2 a0 a1 d2 => ?_
  array_get_dec
  refine spoon d2.bow (by decide) (by decide) fun b h3 b0 b1 d3 => ?_
  array_get_dec
  refine so_ixP (IntIn 1 8) (by
    repeat refine all_cons (.mk (by omega) (by omega)) ?_
    exact all_nil) b0 (by simpa using b1) ?_
  rintro _ ⟨len, rfl, l0, l1⟩
  array_get_dec
  refine spoon d3.bow (by decide) (by decide) fun c h4 c0 c1 d4 => ?_
  array_get_dec
  refine spoon d4.bow (by decide) (by decide) fun e h5 e0 e1 d5 => ?_
  array_get_dec
  refine so_ixP (IntIn 0 20000) (by
    repeat refine all_cons (.mk (by omega) (by omega)) ?_
    exact all_nil) k0 (by simpa using k1) ?_
  rintro _ ⟨room, rfl, r0, r1⟩
  array_get_dec
  have dd := ((((d1.trans d2).trans d3).trans d4).trans d5).x
  have d0 : DrewX n (B + 295) h (h5 ++ [.lst []]) := dd.push
  have ee : (h5 ++ [HD.lst []])[h5.length]? = some (.lst []) := by simp
  have hL : h.length ≤ h5.length := dd.len
  generalize h5 ++ [HD.lst []] = h6 at d0 ee
  generalize h5.length = L at ee hL
  refine ss_forR len.toNat (fun i v h' => ∃ l x5 x6 x7, v = [some (.ref n), some (.int k), some (.int len), some (.int room), some (.ref L), x5, x6, x7] ∧ h'[L]? = some (.lst l) ∧ l.length = i ∧ (∀ x ∈ l, IsItem x) ∧ DrewX n (B + 295 - 30 * i) h h') (by
    array_get_dec
    exact ⟨by omega, by omega, rfl, rfl⟩) ⟨_, _, _, _, rfl, ee, rfl, (fun _ z => nomatch z), d0⟩ ?_ ?_
  · rintro i v h' hi ⟨l, x5, x6, x7, rfl, el, hl, hit, dx⟩
    have hi8 : i < 8 := by omega
    simp only [List.set_cons_zero, List.set_cons_succ]
    array_get_dec
    refine spoon (B := B + 294 - 30 * i) (dx.bow.le (by omega)) (by decide) (by decide) fun p h7 p0 p1 d7 => ?_
    array_get_dec
    refine spoon (B := B + 293 - 30 * i) (d7.bow.le (by omega)) (by omega) (by omega) fun s h8 s0 s1 d8 => ?_
    array_get_dec
    refine spoon (B := B + 292 - 30 * i) (d8.bow.le (by omega)) (by omega) (by omega) fun u h9 u0 u1 d9 => ?_
    array_get_dec
    have d10 := ((dx.then d7).then d8).then d9
    have hLn : L ≠ n := by have := dx.lt; omega
    have el9 := ((d7.trans d8).trans d9).at hLn el
    have fin : ∀ (d : D) (h10 : Hm) (v : Ev), IsItem d → DrewX n (B + 295 - 30 * (i + 1)) h h10 → h10[L]? = some (.lst l) → (∃ x5 x6 x7, v = [some (.ref n), some (.int k), some (.int len), some (.int room), some (.ref L), x5, x6, x7]) →
        ∃ l' x5 x6 x7, v = [some (.ref n), some (.int k), some (.int len), some (.int room), some (.ref L), x5, x6, x7] ∧ (h10.set L (.lst (l ++ [d])))[L]? = some (.lst l') ∧ l'.length = i + 1 ∧ (∀ x ∈ l', IsItem x) ∧ DrewX n (B + 295 - 30 * (i + 1)) h (h10.set L (.lst (l ++ [d]))) := by
      rintro d h10 v hd dx e10 ⟨x5, x6, x7, rfl⟩
      refine ⟨l ++ [d], x5, x6, x7, rfl, List.getElem?_set_self (List.getElem?_eq_some_iff.mp e10).1, by simp [hl], fun x hx => ?_, dx.put hL⟩
      rcases List.mem_append.mp hx with hx | hx
      · exact hit x hx
      · rw [List.mem_singleton.mp hx]; exact hd
    refine ⟨fun _ => ?w1, fun _ => ⟨fun _ => ?w2, fun hc => nomatch hc⟩⟩
    case w1 =>
      array_get_dec
      refine ⟨fun _ => ?w3, fun hr => ?w4⟩
      case w4 =>
        have hr : ¬ room = 0 := of_decide_eq_false hr
        array_get_dec
        refine ⟨rcR (by assumption), ?_⟩
        array_get_dec
        refine spoon (B := B + 291 - 30 * i) (d10.bow.le (by omega)) (by decide) (by decide) fun z h11 z0 z1 d11 => ?_
        array_get_dec
        refine so_ixP (IntIn 1 20000) (by
          repeat refine all_cons (.mk (by omega) (by omega)) ?_
          exact all_nil) z0 (by simpa using z1) ?_
        rintro _ ⟨nn, rfl, n0, n1⟩
        array_get_dec
        have e11 := d11.at hLn el9
        refine so_append e11 (by omega) ?_
        exact fin _ _ _ (.by_ nn n0 n1) ((d10.then d11).le (by omega)) e11 ⟨_, _, _, rfl⟩
      all_goals
        array_get_dec
        refine ⟨rcR (by assumption), ?_⟩
        array_get_dec
        refine word (B := B + 265 - 30 * i) (d10.bow.le (by omega)) fun z h11 hz d11 => ?_
        array_get_dec
        have e11 := d11.at hLn el9
        refine so_append e11 (by omega) ?_
        exact fin _ _ _ (.word z hz) ((d10.then d11).le (by omega)) e11 ⟨_, _, _, rfl⟩
    all_goals
      array_get_dec
      refine ⟨rcR (by assumption), ?_⟩
      array_get_dec
      refine word (B := B + 265 - 30 * i) (d10.bow.le (by omega)) fun z h11 hz d11 => ?_
      array_get_dec
      have e11 := d11.at hLn el9
      refine so_append e11 (by omega) ?_
      exact fin _ _ _ (.word z hz) ((d10.then d11).le (by omega)) e11 ⟨_, _, _, rfl⟩
  · rintro v h' ⟨l, x5, x6, x7, rfl, el, hl, hit, dx⟩
    array_get_dec
    refine so_tupleR el ?_
    array_get_dec
    have il : IsLetter (.tup [.int room, .tup l]) := .mk room l r0 r1 (by omega) (by omega) hit
    exact ⟨il.cl, dx.tr.1, q _ _ il (dx.tr.2.le (by omega))⟩

/-! ### signs of a word, of a number -/
theorem signs {d : D} {h : Hm} {Q : D → Hm → Prop} (hd : (∃ w, d = .str w ∧ w.length ≤ 1000) ∨ ∃ n : Int, d = .int n ∧ 0 ≤ n ∧ n < 1000000) (q : Q (.int (sgn d)) h) : Sat (m_law_signs [d] h) Q := by
  refine sa_fn rfl ?_
  unfold m_law_signs_b
  simp only [List.map_cons, List.map_nil, List.replicate, Nat.reduceSub, List.cons_append, List.nil_append]
  rcases hd with ⟨w, rfl, hw⟩ | ⟨n, rfl, h0, h1⟩
  · array_get_dec
    refine ⟨fun _ => ?_, fun hc => nomatch hc⟩
    array_get_dec
    exact so_lenS (by omega) q
  · array_get_dec
    refine ⟨(fun hc => nomatch hc), fun _ => ?_⟩
    array_get_dec
    refine ss_wh (fun v h' => ∃ m c : Int, v = [some (.int m), some (.int c)] ∧ h' = h ∧ 0 ≤ m ∧ m < 1000000 ∧ c + dg m.toNat = 1 + dg n.toNat) (fun v _ => match v with
      | some (.int m) :: _ => m.toNat
      | _ => 0) ⟨n, 1, rfl, rfl, h0, h1, rfl⟩ (show n.toNat < 1000000 by omega) ?_
    rintro v h' ⟨m, c, rfl, rfl, m0, m1, hc⟩
    array_get_dec
    refine ⟨fun hm => ?_, fun hm => ?_⟩
    · have hm : 9 < m := of_decide_eq_true hm
      array_get_dec
      have e := dg_ge (n := m.toNat) (by omega)
      have e2 : (m / 10).toNat = m.toNat / 10 := by omega
      refine ⟨⟨_, _, rfl, rfl, by omega, by omega, by rw [e2]; omega⟩, ?_⟩
      show (m / 10).toNat < m.toNat
      omega
    · have hm : ¬ 9 < m := of_decide_eq_false hm
      array_get_dec
      have e := dg_lt (n := m.toNat) (by omega)
      have e2 : c = sgn (.int n) := by
        show c = ((dg n.toNat : Nat) : Int)
        omega
      rw [e2]
      exact q
theorem IsDeed.pay_ok {d : D} (i : IsDeed d) : (∃ w, pay d = .str w ∧ w.length ≤ 1000) ∨ ∃ n : Int, pay d = .int n ∧ 0 ≤ n ∧ n < 1000000 := by
  cases i with
  | put w hw => exact .inl ⟨w, rfl, by have := hw.len; omega⟩
  | again n h0 h1 => exact .inr ⟨n, rfl, by omega, by omega⟩
  | room n h0 h1 => exact .inr ⟨n, rfl, by omega, by omega⟩
theorem IsItem.pay_ok {d : D} (i : IsItem d) : (∃ w, pay d = .str w ∧ w.length ≤ 1000) ∨ ∃ n : Int, pay d = .int n ∧ 0 ≤ n ∧ n < 1000000 := by
  cases i with
  | word w hw => exact .inl ⟨w, rfl, by have := hw.len; omega⟩
  | by_ n h0 h1 => exact .inr ⟨n, rfl, by omega, by omega⟩
theorem IsDeed.shape {d : D} (i : IsDeed d) : ∃ a, d = .tup [a, pay d] := by
  cases i <;> exact ⟨_, rfl⟩
theorem IsItem.shape {d : D} (i : IsItem d) : ∃ a, d = .tup [a, pay d] := by
  cases i <;> exact ⟨_, rfl⟩
theorem same_int {i : Int} {n : Nat} {h : Hm} {Q : D → Hm → Prop} (q : Q (.bl true) h) : Sat (m_law_same (n + 1) [.int i, .int i] h) Q := same (n + 1) _ _ _ trivial q
end Lw

/-! LibD: unlike words. -/
set_option Elab.async false
set_option linter.all false
set_option maxRecDepth 100000
set_option maxHeartbeats 4000000
namespace Lw
open PySem Dn
local macro_rules | `(tactic| sizeOf_list_dec) => `(tactic| with_reducible (first
  | refine sa_V0 ?_ | refine sa_V1 ?_ | refine sa_V2 ?_ | refine sa_V3 ?_ | refine sa_V4 ?_ | refine sa_V5 ?_ | refine sa_V6 ?_ | refine sa_V7 ?_ | refine sa_V8 ?_ | refine sa_V9 ?_ | refine sa_V10 ?_ | refine sa_V11 ?_ | refine sa_V12 ?_ | refine sa_V13 ?_ | refine sa_V14 ?_ | refine sa_V15 ?_ | refine sa_C ?_ | refine sa_B ?_ | refine sa_U ?_ | refine sa_F ?_ | refine sa_aN ?_ | refine sa_aC ?_ | refine sa_tup ?_ | refine sa_lst ?_ | refine sa_new ?_ | refine sa_tE ?_ | refine sa_If ?_ | refine sa_And ?_ | refine sa_Or ?_ | refine sa_Not ?_ | refine sa_tAnd ?_ | refine sa_tOr ?_ | refine sa_tNot ?_ | refine sa_chain ?_ | refine sa_M ?_ | refine sa_Sl ?_ | refine sa_SlN ?_ | refine sa_pN ?_ | refine sa_pE ?_ | refine sa_wE ?_ | refine sa_wR1 ?_ | refine sa_wR2 ?_ | refine sa_tYes ?_ | refine ss_nx ?_ | refine ss_seq ?_ | refine ss_asg0 ?_ | refine ss_asg1 ?_ | refine ss_asg2 ?_ | refine ss_asg3 ?_ | refine ss_asg4 ?_ | refine ss_asg5 ?_ | refine ss_asg6 ?_ | refine ss_asg7 ?_ | refine ss_asg8 ?_ | refine ss_asg9 ?_ | refine ss_asg10 ?_ | refine ss_asg11 ?_ | refine ss_asg12 ?_ | refine ss_asg13 ?_ | refine ss_asg14 ?_ | refine ss_asg15 ?_ | refine ss_expr ?_ | refine ss_ret ?_ | refine ss_retN ?_ | refine ss_if ?_ | refine ss_put ?_ | refine ss_bk ?_ | refine ss_ct ?_ | refine so_add ?_ | refine so_sub ?_ | refine so_lt ?_ | refine so_le ?_ | refine so_gt ?_ | refine so_ge ?_ | refine so_eqI ?_ | refine so_neI ?_ | refine so_eqS ?_ | refine so_neS ?_ | refine so_eqB ?_ | refine so_neB ?_ | refine so_isN ?_ | refine so_notN ?_ | refine so_len ?_ | refine so_lenT ?_ | refine so_lenC ?_ | refine so_max ?_ | refine so_min ?_ | refine so_intI ?_ | refine so_intB ?_ | refine so_ixL0 ?_ | refine so_ixL1 ?_ | refine so_ixL2 ?_ | refine so_ixL3 ?_ | refine so_ixL4 ?_ | refine so_ixL5 ?_ | refine so_ixT0 ?_ | refine so_ixT1 ?_ | refine so_ixT2 ?_ | refine so_ixT3 ?_ | refine so_ixT4 ?_ | refine so_ixT5 ?_
  | refine so_isiI_tuple ?_ | refine so_isiI_list ?_ | refine so_isiI_str ?_ | refine so_isiI_bool ?_ | refine so_isiI_int ?_ | refine so_isiS_tuple ?_ | refine so_isiS_list ?_ | refine so_isiS_str ?_ | refine so_isiS_bool ?_ | refine so_isiS_int ?_ | refine so_isiB_tuple ?_ | refine so_isiB_list ?_ | refine so_isiB_str ?_ | refine so_isiB_bool ?_ | refine so_isiB_int ?_ | refine so_isiN_tuple ?_ | refine so_isiN_list ?_ | refine so_isiN_str ?_ | refine so_isiN_bool ?_ | refine so_isiN_int ?_ | refine so_isiT_tuple ?_ | refine so_isiT_list ?_ | refine so_isiT_str ?_ | refine so_isiT_bool ?_ | refine so_isiT_int ?_ | refine so_isiL_tuple ?_ | refine so_isiL_list ?_ | refine so_isiL_str ?_ | refine so_isiL_bool ?_ | refine so_isiL_int ?_
  | refine so_mod (by decide) ?_ | refine so_mul (mulOkL (by decide)) ?_ | refine so_div (by decide) ?_ | refine so_ixR0 (by assumption) ?_ | refine so_ixR1 (by assumption) ?_ | refine so_ixR2 (by assumption) ?_ | refine so_lenR (by assumption) ?_
  | (refine so_addL (by simp only [List.length_append, List.length_cons, List.length_nil]; omega) ?_; try simp only [List.cons_append, List.nil_append])
  | refine Exists.intro _ (And.intro rfl ?_)
  | refine And.intro (show _ ≤ 16777216 by simp only [List.length_cons, List.length_nil]; omega) ?_))
local macro_rules | `(tactic| array_get_dec) => `(tactic| repeat sizeOf_list_dec)
def m_law_unlike_b : SM :=
  (sSeq (sAsg (gN 2) (eC (.str (Str.ofString "abcdefghijklmnopqrstuvwxyz"))))
  (sSeq (sAsg (gN 3) (eNew aN))
  (sSeq (sFor (gN 4) (wR1 (eV 1)) (sSeq (sAsg (gN 5) (eF m_law_spoon (aC (eV 0) (aC (eC (.int 4)) aN))))
  (sSeq (sAsg (gN 6) (eF m_law_word (aC (eV 0) aN)))
  (sSeq (sIf (tAnd (tE (eB opEq (eV 5) (eC (.int 1)))) (tE (eB opNe (eV 3) (eLst aN)))) (sAsg (gN 6) (eSl (eB opIx (eV 3) (eU opNeg (eC (.int 1)))) pN (pE (eB opAdd (eC (.int 1)) (eF m_law_spoon (aC (eV 0) (aC (eF bLen (aC (eB opIx (eV 3) (eU opNeg (eC (.int 1)))) aN)) aN))))))) sNx)
  (sSeq (sIf (tAnd (tE (eB opEq (eV 5) (eC (.int 2)))) (tE (eB opNe (eV 3) (eLst aN)))) (sSeq (sAsg (gN 8) (eF m_law_spoon (aC (eV 0) (aC (eF bLen (aC (eB opIx (eV 3) (eU opNeg (eC (.int 1)))) aN)) aN))))
  (sAsg (gN 6) (eB opAdd (eB opAdd (eSl (eB opIx (eV 3) (eU opNeg (eC (.int 1)))) pN (pE (eV 8))) (eB opIx (eV 6) (eC (.int 0)))) (eSl (eB opIx (eV 3) (eU opNeg (eC (.int 1)))) (pE (eB opAdd (eV 8) (eC (.int 1)))) pN)))) sNx)
  (sSeq (sAsg (gN 7) (eLc [8] (gN 8) (wR1 (eB opAdd (eF bLen (aC (eV 3) aN)) (eC (.int 1)))) tYes (eSl (eB opAdd (eB opAdd (eV 6) (eB opIx (eV 2) (eB opDiv (eV 8) (eC (.int 26))))) (eB opIx (eV 2) (eB opMod (eV 8) (eC (.int 26))))) (pE (eU opNeg (eC (.int 12)))) pN)))
  (sExpr (eM "list" mAppend (eV 3) (aC (eB opIx (eLc [9] (gN 9) (wE (eB opAdd (eLst (aC (eV 6) aN)) (eV 7))) (tE (eB opNotIn (eV 9) (eV 3))) (eV 9)) (eC (.int 0))) aN)))))))))
  (sRet (eU fz (eV 3))))))
def m_law_unlike : FM := tr (fn0 2 10 m_law_unlike_b)

/-! ### cuts of texts -/
theorem cutS_S (l : List Nat) (lo hi : Option Int) : L2.cutS (S l) lo hi = S ((l.drop (HT.sIx l.length 0 lo)).take (HT.sIx l.length l.length hi - HT.sIx l.length 0 lo)) := by
  unfold L2.cutS
  rw [S_len]
  rfl
theorem sIx_pos {n d : Nat} {i : Int} (h : 0 ≤ i) : HT.sIx n d (some i) = min i.toNat n := by
  show (if i < 0 then (i + (n : Int)).toNat else min i.toNat n) = _
  rw [if_neg (by omega)]
theorem sIx_neg {n d : Nat} {i : Int} (h : i < 0) : HT.sIx n d (some i) = (i + n).toNat := by
  show (if i < 0 then (i + (n : Int)).toNat else min i.toNat n) = _
  rw [if_pos h]
theorem cut_to {l : List Nat} {i : Int} (h : 0 ≤ i) : L2.cutS (S l) none (some i) = S (l.take i.toNat) := by
  rw [cutS_S, sIx_pos h]
  show S ((l.drop 0).take _) = _
  congr 1
  rw [List.drop_zero, show HT.sIx l.length 0 none = 0 from rfl, Nat.sub_zero]
  by_cases hk : i.toNat ≤ l.length
  · rw [Nat.min_eq_left hk]
  · rw [Nat.min_eq_right (by omega), List.take_length, List.take_of_length_le (by omega)]
theorem cut_from {l : List Nat} {i : Int} (h : 0 ≤ i) : L2.cutS (S l) (some i) none = S (l.drop i.toNat) := by
  rw [cutS_S, sIx_pos h, show HT.sIx l.length l.length none = l.length from rfl]
  congr 1
  by_cases hk : i.toNat ≤ l.length
  · rw [Nat.min_eq_left hk, List.take_of_length_le (by simp)]
  · rw [Nat.min_eq_right (by omega), List.drop_of_length_le (by omega), List.drop_of_length_le (by omega)]; simp
theorem cut_last {l : List Nat} {i : Int} (h : i < 0) : L2.cutS (S l) (some i) none = S (l.drop (i + l.length).toNat) := by
  rw [cutS_S, sIx_neg h, show HT.sIx l.length l.length none = l.length from rfl]
  congr 1
  rw [List.take_of_length_le (by simp)]
theorem IsW.mk' {l : List Nat} (h1 : 1 ≤ l.length) (h2 : l.length ≤ 12) (h3 : ∀ c ∈ l, small c) : IsW (S l) := ⟨l, rfl, h1, h2, h3⟩
theorem abc_exact {i : Int} (h0 : 0 ≤ i) (h1 : i < 26) : L2.atI (Str.ofString "abcdefghijklmnopqrstuvwxyz").cps.toList i = some (97 + i.toNat) := by
  have e : (Str.ofString "abcdefghijklmnopqrstuvwxyz").cps.toList = (List.range 26).map (97 + ·) := by decide +kernel
  rw [e]
  obtain ⟨k, rfl⟩ := Int.eq_ofNat_of_zero_le h0
  refine atI_nat ?_
  have hk : k < 26 := by omega
  simp [hk]
/-- a list that may change, of texts, is not empty -/
theorem so_neNil {n : Nat} {h : Hm} {ws : List Str} {Q : D → Hm → Prop} (e : h[n]? = some (.lst (ws.map D.str))) (hw : ∀ w ∈ ws, PyData.strOk w = true) (q : Q (.bl (!ws.isEmpty)) h) : Sat (opNe (.ref n) (.lst []) h) Q := by
  have hd : dr h (.ref n) = .lst (ws.map D.str) := by simp [dr, lsOf, e]
  have hk : ∀ ws : List Str, (∀ w ∈ ws, PyData.strOk w = true) → D.okL 63 (ws.map D.str) = true := by
    intro ws
    induction ws with
    | nil => intro _; rfl
    | cons a r ih =>
      intro hw
      simp only [List.map_cons, D.okL, D.okN, Bool.and_eq_true]
      exact ⟨hw a (by simp), ih fun w hw' => hw w (by simp [hw'])⟩
  refine so_neD rfl (by rw [hd]; exact hk ws hw) rfl ?_
  rw [hd, show dr h (.lst []) = .lst [] from rfl]
  cases ws with
  | nil => exact q
  | cons a r => exact q
theorem flat_strs (ws : List Str) : (ws.map D.str).all flatD = true := by
  rw [List.all_eq_true]
  intro x hx
  obtain ⟨w, _, rfl⟩ := List.mem_map.mp hx
  rfl
theorem any_strs (ws : List Str) (x : Str) : ((ws.map D.str).any fun z => D.eqb z (.str x)) = decide (x ∈ ws) := by
  induction ws with
  | nil => rfl
  | cons a r ih =>
    rw [List.map_cons, List.any_cons, ih]
    by_cases h : a = x
    · subst h; simp [D.eqb]
    · have : ¬ x = a := fun e => h e.symm
      simp [D.eqb, h, this]
/-- one more text in a list that may change -/
theorem so_inStr {n : Nat} {h : Hm} {ws : List Str} {x : Str} {Q : D → Hm → Prop} (e : h[n]? = some (.lst (ws.map D.str))) (q : Q (.bl (decide (x ∈ ws))) h) : Sat (opIn (.str x) (.ref n) h) Q :=
  so_inR e (by rw [flat_strs]; rfl) (by rw [any_strs]; exact q)
theorem so_notInStr {n : Nat} {h : Hm} {ws : List Str} {x : Str} {Q : D → Hm → Prop} (e : h[n]? = some (.lst (ws.map D.str))) (q : Q (.bl (!decide (x ∈ ws))) h) : Sat (opNotIn (.str x) (.ref n) h) Q :=
  so_notInR e (by rw [flat_strs]; rfl) (by rw [any_strs]; exact q)
/-- a comprehension with a question whose parts change nothing -/
theorem sa_LcFil {own : List Nat} {k : Nat} {w : Ev → Hm → R Wk} {t : TM} {e : EM} {v : Ev} {h : Hm} {Q : D → Hm → Prop} {l : List D} (p : D → Bool) (f : D → D) (hl : l.length ≤ 16777215) (hw : Sat (w v h) fun k h1 => k = ⟨l, fun _ => true⟩ ∧ h1 = h)
    (ht : ∀ x ∈ l, ∀ P : Bool → Hm → Prop, P (p x) h → Sat (t ((wipeE v own).set k (some x)) h) P) (he : ∀ x ∈ l, ∀ P : D → Hm → Prop, P (f x) h → Sat (e ((wipeE v own).set k (some x)) h) P) (q : Q (.lst ((l.filter p).map f)) h) : Sat (eLc own (gN k) w t e v h) Q := by
  refine sa_Lc (hw.imp ?_)
  rintro _ _ ⟨rfl, rfl⟩
  refine ⟨hl, fun i acc h' => acc = ((l.take i).filter p).map f ∧ h' = _, ⟨rfl, rfl⟩, ?_, ?_⟩
  · rintro i x acc h' hx ⟨rfl, rfl⟩
    have hm := List.mem_of_getElem? hx
    refine ⟨rfl, _, rfl, ht x hm _ ⟨fun hp => ?_, fun hp => ?_⟩⟩
    · refine he x hm _ ⟨?_, rfl⟩
      rw [List.take_add_one, hx]
      simp [hp]
    · refine ⟨?_, rfl⟩
      rw [List.take_add_one, hx]
      simp [hp]
  · rintro acc h' ⟨rfl, rfl⟩
    refine ⟨rfl, ?_⟩
    rw [List.take_length]
    exact q
/-- the spare words -/
def spareL (l : List Nat) (at_ : Nat) : List Nat := (l ++ [97 + at_ / 26] ++ [97 + at_ % 26]).drop (l.length + 2 - 12)
theorem spare_ok {l : List Nat} {a : Nat} (h1 : 1 ≤ l.length) (h3 : ∀ c ∈ l, small c) (ha : a < 676) : IsW (S (spareL l a)) := by
  refine .mk' ?_ ?_ ?_
  · simp [spareL]; omega
  · simp [spareL]; omega
  · intro c hc
    have hc := List.mem_of_mem_drop hc
    rcases List.mem_append.mp hc with hc | hc
    · rcases List.mem_append.mp hc with hc | hc
      · exact h3 c hc
      · rw [List.mem_singleton.mp hc]; unfold small; omega
    · rw [List.mem_singleton.mp hc]; unfold small; omega
theorem spare_inj {l : List Nat} {a b : Nat} (h : spareL l a = spareL l b) : a = b := by
  unfold spareL at h
  rw [List.append_assoc, List.append_assoc, List.drop_append_of_le_length (by omega), List.drop_append_of_le_length (by omega)] at h
  have := List.append_cancel_left h
  simp only [List.cons_append, List.nil_append, List.cons.injEq, and_true] at this
  omega

def spares (l : List Nat) (m : Nat) : List Str := (List.range m).map fun k => S (spareL l k)
theorem spares_nodup (l : List Nat) (m : Nat) : (spares l m).Nodup := by
  unfold spares
  rw [List.nodup_iff_pairwise_ne]
  refine List.Pairwise.map _ (fun a b hab e => hab (spare_inj (S_inj e))) (List.nodup_iff_pairwise_ne.mp List.nodup_range)
/-- one of the spare words is new -/
theorem fresh (l : List Nat) (ws : List Str) (w : Str) : ∃ x rest, (w :: spares l (ws.length + 1)).filter (fun z => !decide (z ∈ ws)) = x :: rest ∧ x ∉ ws ∧ x ∈ w :: spares l (ws.length + 1) := by
  have h1 : ∃ z ∈ spares l (ws.length + 1), z ∉ ws := by
    refine Classical.byContradiction fun hc => ?_
    have hs : spares l (ws.length + 1) ⊆ ws := fun z hz => Classical.byContradiction fun hn => hc ⟨z, hz, hn⟩
    have := List.Nodup.length_le_of_subset (spares_nodup l (ws.length + 1)) hs
    simp [spares] at this
    omega
  obtain ⟨z, hz, hn⟩ := h1
  have hm : z ∈ (w :: spares l (ws.length + 1)).filter (fun z => !decide (z ∈ ws)) := List.mem_filter.mpr ⟨by simp [hz], by simp [hn]⟩
  cases hf : (w :: spares l (ws.length + 1)).filter (fun z => !decide (z ∈ ws)) with
  | nil => rw [hf] at hm; exact nomatch hm
  | cons x rest =>
    have hx : x ∈ (w :: spares l (ws.length + 1)).filter (fun z => !decide (z ∈ ws)) := by rw [hf]; simp
    have := List.mem_filter.mp hx
    exact ⟨x, rest, rfl, by simpa using this.2, this.1⟩
def notIn (ws : List Str) : D → Bool
  | .str w => !decide (w ∈ ws)
  | _ => false
theorem notIn_filter (ws l : List Str) : ((l.map D.str).filter (notIn ws)).map id = (l.filter fun z => !decide (z ∈ ws)).map D.str := by
  rw [List.map_id, List.filter_map]
  rfl
def Words (ws : List Str) : Prop := ∀ w ∈ ws, IsW w
theorem Words.snoc {ws : List Str} {w : Str} (h : Words ws) (hw : IsW w) : Words (ws ++ [w]) := fun x hx => by
  rcases List.mem_append.mp hx with hx | hx
  · exact h x hx
  · rw [List.mem_singleton.mp hx]; exact hw
theorem Words.ok {ws : List Str} (h : Words ws) : ∀ w ∈ ws, PyData.strOk w = true := fun w hw => (h w hw).ok
theorem last_of {α : Type} {l : List α} (h : l ≠ []) : ∃ l' x, l = l' ++ [x] := ⟨l.dropLast, l.getLast h, (List.dropLast_concat_getLast h).symm⟩
theorem so_ixLast {n : Nat} {h : Hm} {ws : List Str} {x : Str} {Q : D → Hm → Prop} (e : h[n]? = some (.lst ((ws ++ [x]).map D.str))) (q : Q (.str x) h) : Sat (opIx (.ref n) (.int (-1)) h) Q := so_ixR e (by rw [List.map_append]; exact atI_last) q
theorem unlike {n B : Nat} {many : Int} {h : Hm} {Q : D → Hm → Prop} (hm0 : 0 ≤ many) (hm : many ≤ 600) (w : Bow n (B + 30 * many.toNat) h) (q : ∀ ws h', ws.length = many.toNat → Words ws → ws.Nodup → Drew n B h h' → Q (.lst (ws.map D.str)) h') : Sat (m_law_unlike [.ref n, .int many] h) Q := by
  refine sa_tr (sa_fn rfl ?_)
  unfold m_law_unlike_b
  simp only [List.map_cons, List.map_nil, List.replicate, Nat.reduceSub, List.cons_append, List.nil_append]
  array_get_dec
  have d0 : DrewX n (B + 30 * many.toNat) h (h ++ [.lst []]) := (Drew.refl w).x.push
  have ee : (h ++ [HD.lst []])[h.length]? = some (.lst (([] : List Str).map D.str)) := by simp
  generalize h ++ [HD.lst []] = h6 at d0 ee
  refine ss_forR many.toNat (fun i v h' => ∃ (ws : List Str) (x4 x5 x6 x7 x8 x9 : Option D), v = [some (.ref n), some (.int many), some (.str (Str.ofString "abcdefghijklmnopqrstuvwxyz")), some (.ref h.length), x4, x5, x6, x7, x8, x9] ∧ h'[h.length]? = some (.lst (ws.map D.str)) ∧ ws.length = i ∧ Words ws ∧ ws.Nodup ∧ DrewX n (B + 30 * (many.toNat - i)) h h') (by
    array_get_dec
    exact ⟨by omega, by omega, rfl, rfl⟩) ⟨[], _, _, _, _, _, _, rfl, ee, rfl, (fun _ z => nomatch z), List.nodup_nil, d0⟩ ?_ ?_
  · rintro i v h' hi ⟨ws, x4, x5, x6, x7, x8, x9, rfl, el, hl, hws, hnd, dx⟩
    simp only [List.set_cons_zero, List.set_cons_succ]
    array_get_dec
    refine spoon (B := B + 30 * (many.toNat - (i + 1)) + 29) (dx.bow.le (by omega)) (by decide) (by decide) fun way h1 p0 p1 d1 => ?_
    array_get_dec
    refine word (B := B + 30 * (many.toNat - (i + 1)) + 9) (d1.bow.le (by omega)) fun w0 h2 hw0 d2 => ?_
    array_get_dec
    have hLn : h.length ≠ n := by have := dx.lt; omega
    have el2 := (d1.trans d2).at hLn el
    have dx2 := (dx.then d1).then d2
    clear d1 d2 el dx
    obtain ⟨l0, rfl, a0, b0, c0⟩ := hw0
    have fin : ∀ (l : List Nat) (h4 : Hm) (x8 x9 : Option D), 1 ≤ l.length → l.length ≤ 12 → (∀ c ∈ l, small c) → DrewX n (B + 30 * (many.toNat - (i + 1))) h h4 → h4[h.length]? = some (.lst (ws.map D.str)) → ∀ (T : D → Hm → Prop) (Bk Gk : Ev → Hm → Prop), SatS ((sSeq (sAsg (gN 7) (eLc [8] (gN 8) (wR1 (eB opAdd (eF bLen (aC (eV 3) aN)) (eC (.int 1)))) tYes (eSl (eB opAdd (eB opAdd (eV 6) (eB opIx (eV 2) (eB opDiv (eV 8) (eC (.int 26))))) (eB opIx (eV 2) (eB opMod (eV 8) (eC (.int 26))))) (pE (eU opNeg (eC (.int 12)))) pN)))
  (sExpr (eM "list" mAppend (eV 3) (aC (eB opIx (eLc [9] (gN 9) (wE (eB opAdd (eLst (aC (eV 6) aN)) (eV 7))) (tE (eB opNotIn (eV 9) (eV 3))) (eV 9)) (eC (.int 0))) aN))))
        [some (.ref n), some (.int many), some (.str (Str.ofString "abcdefghijklmnopqrstuvwxyz")), some (.ref h.length), some (.int i), some (.int way), some (.str (S l)), x7, x8, x9] h4) (fun v h' => ∃ (ws : List Str) (x4 x5 x6 x7 x8 x9 : Option D), v = [some (.ref n), some (.int many), some (.str (Str.ofString "abcdefghijklmnopqrstuvwxyz")), some (.ref h.length), x4, x5, x6, x7, x8, x9] ∧ h'[h.length]? = some (.lst (ws.map D.str)) ∧ ws.length = i + 1 ∧ Words ws ∧ ws.Nodup ∧ DrewX n (B + 30 * (many.toNat - (i + 1))) h h') T Bk Gk := by
      intro l h4 x8 x9 l1 l2 l3 d4 e4 T Bk Gk
      array_get_dec
      refine sa_LcMap (l := (List.range (ws.length + 1)).map fun (k : Nat) => .int (k : Int)) (fun x => match x with
        | .int k => .str (S (spareL l k.toNat))
        | _ => .non) (by simp; omega) (by
          array_get_dec
          refine ⟨by omega, by simp; omega, ?_, rfl⟩
          simp) ?_ ?_
      · intro x hx P p
        obtain ⟨k, hk, rfl⟩ := List.mem_map.mp hx
        have hk : k < ws.length + 1 := by simpa using hk
        simp only [wipeE, List.foldr, List.set_cons_zero, List.set_cons_succ]
        array_get_dec
        refine so_ixS (by rw [abc_len]; decide) (abc_exact (i := (k : Int) / 26) (by omega) (by omega)) ?_
        rw [show (⟨#[97 + ((k : Int) / 26).toNat]⟩ : Str) = S [97 + k / 26] by
          have : ((k : Int) / 26).toNat = k / 26 := by omega
          rw [this]; rfl]
        refine so_addS (by rw [S_len, S_len]; simp; omega) ?_
        rw [S_app]
        array_get_dec
        refine so_ixS (by rw [abc_len]; decide) (abc_exact (i := (k : Int) % 26) (by omega) (by omega)) ?_
        rw [show (⟨#[97 + ((k : Int) % 26).toNat]⟩ : Str) = S [97 + k % 26] by
          have : ((k : Int) % 26).toNat = k % 26 := by omega
          rw [this]; rfl]
        refine so_addS (by rw [S_len, S_len]; simp; omega) ?_
        rw [S_app]
        array_get_dec
        refine so_neg ?_
        refine ⟨_, rfl, ?_⟩
        array_get_dec
        refine so_slS (by rw [S_len]; simp; omega) ?_
        rw [cut_last (by decide)]
        have e : (-12 + (((l ++ [97 + k / 26] ++ [97 + k % 26]).length : Nat) : Int)).toNat = l.length + 2 - 12 := by
          simp; omega
        rw [show -(12 : Int) = -12 from rfl, e]
        exact p
      · array_get_dec
        have es : ((List.range (ws.length + 1)).map fun (k : Nat) => D.int (k : Int)).map (fun x => match x with
          | .int k => .str (S (spareL l k.toNat))
          | _ => .non) = (spares l (ws.length + 1)).map D.str := by
          simp [spares]
        rw [es]
        have e4' := e4
        refine ⟨rcR e4, ?_⟩
        array_get_dec
        refine sa_LcFil (l := (S l :: spares l (ws.length + 1)).map D.str) (notIn ws) id (by simp [spares]; omega) (by
          array_get_dec
          refine so_addL (by simp [spares]; omega) ?_
          exact so_wkL ⟨rfl, rfl⟩) ?_ ?_ ?_
        · intro x hx P p
          obtain ⟨z, hz, rfl⟩ := List.mem_map.mp hx
          simp only [wipeE, List.foldr, List.set_cons_zero, List.set_cons_succ]
          array_get_dec
          exact so_notInStr e4 ⟨_, rfl, p⟩
        · intro x hx P p
          simp only [wipeE, List.foldr, List.set_cons_zero, List.set_cons_succ]
          array_get_dec
          exact p
        · rw [notIn_filter]
          obtain ⟨x, rest, ef, hx1, hx2⟩ := fresh l ws (S l)
          rw [ef, List.map_cons]
          array_get_dec
          refine so_append e4 (by simp; omega) ?_
          refine ⟨ws ++ [x], _, _, _, _, _, _, rfl, ?_, by simp [hl], hws.snoc ?_, ?_, d4.put (Nat.le_refl _)⟩
          · rw [List.getElem?_set_self (List.getElem?_eq_some_iff.mp e4).1, List.map_append]; rfl
          · rcases List.mem_cons.mp hx2 with e | e
            · rw [e]; exact .mk' l1 l2 l3
            · obtain ⟨k, hk, rfl⟩ := List.mem_map.mp e
              have hk : k < ws.length + 1 := by simpa using hk
              exact spare_ok l1 l3 (by omega)
          · rw [List.nodup_append]
            refine ⟨hnd, by simp, fun a ha b hb e => ?_⟩
            rw [List.mem_singleton.mp hb] at e
            exact hx1 (e ▸ ha)
    have hemp : (!ws.isEmpty) = true → ∃ ws' l', ws = ws' ++ [S l'] ∧ 1 ≤ l'.length ∧ l'.length ≤ 12 ∧ ∀ c ∈ l', small c := by
      intro he
      obtain ⟨ws', x, e⟩ := last_of (l := ws) (by intro e; rw [e] at he; exact nomatch he)
      obtain ⟨l', rfl, q1, q2, q3⟩ := hws x (by rw [e]; simp)
      exact ⟨ws', l', e, q1, q2, q3⟩
    -- the third way
    have mid : ∀ (l : List Nat) (h4 : Hm), 1 ≤ l.length → l.length ≤ 12 → (∀ c ∈ l, small c) → DrewX n (B + 30 * (many.toNat - (i + 1)) + 4) h h4 → h4[h.length]? = some (.lst (ws.map D.str)) → ∀ (T : D → Hm → Prop) (Bk Gk : Ev → Hm → Prop), SatS ((sSeq (sIf (tAnd (tE (eB opEq (eV 5) (eC (.int 2)))) (tE (eB opNe (eV 3) (eLst aN)))) (sSeq (sAsg (gN 8) (eF m_law_spoon (aC (eV 0) (aC (eF bLen (aC (eB opIx (eV 3) (eU opNeg (eC (.int 1)))) aN)) aN))))
  (sAsg (gN 6) (eB opAdd (eB opAdd (eSl (eB opIx (eV 3) (eU opNeg (eC (.int 1)))) pN (pE (eV 8))) (eB opIx (eV 6) (eC (.int 0)))) (eSl (eB opIx (eV 3) (eU opNeg (eC (.int 1)))) (pE (eB opAdd (eV 8) (eC (.int 1)))) pN)))) sNx)
  (sSeq (sAsg (gN 7) (eLc [8] (gN 8) (wR1 (eB opAdd (eF bLen (aC (eV 3) aN)) (eC (.int 1)))) tYes (eSl (eB opAdd (eB opAdd (eV 6) (eB opIx (eV 2) (eB opDiv (eV 8) (eC (.int 26))))) (eB opIx (eV 2) (eB opMod (eV 8) (eC (.int 26))))) (pE (eU opNeg (eC (.int 12)))) pN)))
  (sExpr (eM "list" mAppend (eV 3) (aC (eB opIx (eLc [9] (gN 9) (wE (eB opAdd (eLst (aC (eV 6) aN)) (eV 7))) (tE (eB opNotIn (eV 9) (eV 3))) (eV 9)) (eC (.int 0))) aN)))))
        [some (.ref n), some (.int many), some (.str (Str.ofString "abcdefghijklmnopqrstuvwxyz")), some (.ref h.length), some (.int i), some (.int way), some (.str (S l)), x7, x8, x9] h4) (fun v h' => ∃ (ws : List Str) (x4 x5 x6 x7 x8 x9 : Option D), v = [some (.ref n), some (.int many), some (.str (Str.ofString "abcdefghijklmnopqrstuvwxyz")), some (.ref h.length), x4, x5, x6, x7, x8, x9] ∧ h'[h.length]? = some (.lst (ws.map D.str)) ∧ ws.length = i + 1 ∧ Words ws ∧ ws.Nodup ∧ DrewX n (B + 30 * (many.toNat - (i + 1))) h h') T Bk Gk := by
      intro l h4 l1 l2 l3 d4 e4 T Bk Gk
      array_get_dec
      have none_ : ∀ v h, SatS (sNx v h) (fun v' h' => v' = v ∧ h' = h) T := fun v h => ⟨rfl, rfl⟩
      refine ⟨fun _ => ?_, fun _ => ⟨(fun hc => nomatch hc), fun _ => ?_⟩⟩
      · array_get_dec
        refine so_neNil e4 hws.ok ?_
        refine ⟨_, rfl, ?_⟩
        refine ⟨fun he => ?_, fun _ => ?_⟩
        · obtain ⟨ws', l', e, q1, q2, q3⟩ := hemp he
          array_get_dec
          refine so_neg ?_
          have e4' := e4
          rw [e] at e4'
          refine so_ixLast e4' ?_
          array_get_dec
          refine so_lenS (by rw [S_len]; omega) ?_
          array_get_dec
          refine spoon (B := B + 30 * (many.toNat - (i + 1)) + 3) d4.bow (by rw [S_len]; omega) (by rw [S_len]; omega) fun at_ h5 t0 t1 d5 => ?_
          rw [S_len] at t1
          have e5 := d5.at hLn e4
          have e5' := e5
          rw [e] at e5'
          array_get_dec
          refine so_neg ?_
          refine so_ixLast e5' ?_
          array_get_dec
          refine so_slS (by rw [S_len]; omega) ?_
          rw [cut_to t0]
          array_get_dec
          obtain ⟨c, ec, hc, _⟩ := atI_in (l := l) (i := 0) (by decide) (by omega)
          refine so_ixS (by rw [S_len]; omega) ec ?_
          rw [show (⟨#[c]⟩ : Str) = S [c] from rfl]
          refine so_addS (by rw [S_len, S_len]; simp; omega) ?_
          rw [S_app]
          array_get_dec
          refine so_neg ?_
          refine so_ixLast e5' ?_
          array_get_dec
          refine so_slS (by rw [S_len]; omega) ?_
          rw [cut_from (by omega)]
          refine so_addS (by rw [S_len, S_len]; simp; omega) ?_
          rw [S_app]
          have hlen : (l'.take at_.toNat ++ [c] ++ l'.drop (at_ + 1).toNat).length = l'.length := by
            simp; omega
          refine fin _ h5 _ _ (by rw [hlen]; exact q1) (by rw [hlen]; exact q2) (fun z hz => ?_) ((d4.then d5).le (by omega)) e5 T _ _
          rcases List.mem_append.mp hz with hz | hz
          · rcases List.mem_append.mp hz with hz | hz
            · exact q3 z (List.mem_of_mem_take hz)
            · rw [List.mem_singleton.mp hz]; exact l3 c hc
          · exact q3 z (List.mem_of_mem_drop hz)
        · exact ss_nx (fin l h4 _ _ l1 l2 l3 (d4.le (by omega)) e4 T _ _)
      · exact ss_nx (fin l h4 _ _ l1 l2 l3 (d4.le (by omega)) e4 T _ _)
    refine ⟨fun _ => ?_, fun _ => ⟨(fun hc => nomatch hc), fun _ => ?_⟩⟩
    · array_get_dec
      refine so_neNil el2 hws.ok ?_
      refine ⟨_, rfl, ?_⟩
      refine ⟨fun he => ?_, fun _ => ?_⟩
      · obtain ⟨ws', l', e, q1, q2, q3⟩ := hemp he
        array_get_dec
        refine so_neg ?_
        have e4' := el2
        rw [e] at e4'
        refine so_ixLast e4' ?_
        array_get_dec
        refine so_neg ?_
        refine so_ixLast e4' ?_
        array_get_dec
        refine so_lenS (by rw [S_len]; omega) ?_
        array_get_dec
        refine spoon (B := B + 30 * (many.toNat - (i + 1)) + 8) dx2.bow (by rw [S_len]; omega) (by rw [S_len]; omega) fun at_ h5 t0 t1 d5 => ?_
        rw [S_len] at t1
        array_get_dec
        refine so_slS (by rw [S_len]; omega) ?_
        rw [cut_to (by omega)]
        have ht : (l'.take (1 + at_).toNat).length = (1 + at_).toNat := by rw [List.length_take]; omega
        exact mid _ h5 (by omega) (by omega) (fun z hz => q3 z (List.mem_of_mem_take hz)) ((dx2.then d5).le (by omega)) (d5.at hLn el2) _ _ _
      · exact ss_nx (mid l0 h2 a0 b0 c0 (dx2.le (by omega)) el2 _ _ _)
    · exact ss_nx (mid l0 h2 a0 b0 c0 (dx2.le (by omega)) el2 _ _ _)
  · rintro v h' ⟨ws, x4, x5, x6, x7, x8, x9, rfl, el, hl, hws, hnd, dx⟩
    array_get_dec
    refine so_fz el ?_
    have dx3 := dx.put (o := .dead) (k := h.length) (Nat.le_refl _)
    refine ⟨?_, dx3.tr.1, q _ _ hl hws hnd (dx3.tr.2.le (B' := B) (by omega))⟩
    simp only [D.cl]
    refine clL_all fun x hx => ?_
    obtain ⟨w, _, rfl⟩ := List.mem_map.mp hx
    rfl
end Lw

/-! LibE: hits of a row at a room. -/
set_option Elab.async false
set_option linter.all false
set_option maxRecDepth 100000
set_option maxHeartbeats 4000000
namespace Lw
open PySem Dn
local macro_rules | `(tactic| sizeOf_list_dec) => `(tactic| with_reducible (first
  | refine sa_V0 ?_ | refine sa_V1 ?_ | refine sa_V2 ?_ | refine sa_V3 ?_ | refine sa_V4 ?_ | refine sa_V5 ?_ | refine sa_V6 ?_ | refine sa_V7 ?_ | refine sa_V8 ?_ | refine sa_V9 ?_ | refine sa_V10 ?_ | refine sa_V11 ?_ | refine sa_V12 ?_ | refine sa_V13 ?_ | refine sa_V14 ?_ | refine sa_V15 ?_ | refine sa_C ?_ | refine sa_B ?_ | refine sa_U ?_ | refine sa_F ?_ | refine sa_aN ?_ | refine sa_aC ?_ | refine sa_tup ?_ | refine sa_lst ?_ | refine sa_new ?_ | refine sa_tE ?_ | refine sa_If ?_ | refine sa_And ?_ | refine sa_Or ?_ | refine sa_Not ?_ | refine sa_tAnd ?_ | refine sa_tOr ?_ | refine sa_tNot ?_ | refine sa_chain ?_ | refine sa_M ?_ | refine sa_Sl ?_ | refine sa_SlN ?_ | refine sa_pN ?_ | refine sa_pE ?_ | refine sa_wE ?_ | refine sa_wR1 ?_ | refine sa_wR2 ?_ | refine sa_tYes ?_ | refine ss_nx ?_ | refine ss_seq ?_ | refine ss_asg0 ?_ | refine ss_asg1 ?_ | refine ss_asg2 ?_ | refine ss_asg3 ?_ | refine ss_asg4 ?_ | refine ss_asg5 ?_ | refine ss_asg6 ?_ | refine ss_asg7 ?_ | refine ss_asg8 ?_ | refine ss_asg9 ?_ | refine ss_asg10 ?_ | refine ss_asg11 ?_ | refine ss_asg12 ?_ | refine ss_asg13 ?_ | refine ss_asg14 ?_ | refine ss_asg15 ?_ | refine ss_expr ?_ | refine ss_ret ?_ | refine ss_retN ?_ | refine ss_if ?_ | refine ss_put ?_ | refine ss_bk ?_ | refine ss_ct ?_ | refine so_add ?_ | refine so_sub ?_ | refine so_lt ?_ | refine so_le ?_ | refine so_gt ?_ | refine so_ge ?_ | refine so_eqI ?_ | refine so_neI ?_ | refine so_eqS ?_ | refine so_neS ?_ | refine so_eqB ?_ | refine so_neB ?_ | refine so_isN ?_ | refine so_notN ?_ | refine so_len ?_ | refine so_lenT ?_ | refine so_lenC ?_ | refine so_max ?_ | refine so_min ?_ | refine so_intI ?_ | refine so_intB ?_ | refine so_ixL0 ?_ | refine so_ixL1 ?_ | refine so_ixL2 ?_ | refine so_ixL3 ?_ | refine so_ixL4 ?_ | refine so_ixL5 ?_ | refine so_ixT0 ?_ | refine so_ixT1 ?_ | refine so_ixT2 ?_ | refine so_ixT3 ?_ | refine so_ixT4 ?_ | refine so_ixT5 ?_
  | refine so_isiI_tuple ?_ | refine so_isiI_list ?_ | refine so_isiI_str ?_ | refine so_isiI_bool ?_ | refine so_isiI_int ?_ | refine so_isiS_tuple ?_ | refine so_isiS_list ?_ | refine so_isiS_str ?_ | refine so_isiS_bool ?_ | refine so_isiS_int ?_ | refine so_isiB_tuple ?_ | refine so_isiB_list ?_ | refine so_isiB_str ?_ | refine so_isiB_bool ?_ | refine so_isiB_int ?_ | refine so_isiN_tuple ?_ | refine so_isiN_list ?_ | refine so_isiN_str ?_ | refine so_isiN_bool ?_ | refine so_isiN_int ?_ | refine so_isiT_tuple ?_ | refine so_isiT_list ?_ | refine so_isiT_str ?_ | refine so_isiT_bool ?_ | refine so_isiT_int ?_ | refine so_isiL_tuple ?_ | refine so_isiL_list ?_ | refine so_isiL_str ?_ | refine so_isiL_bool ?_ | refine so_isiL_int ?_
  | refine so_mod (by decide) ?_ | refine so_mul (mulOkL (by decide)) ?_ | refine so_div (by decide) ?_ | refine so_ixR0 (by assumption) ?_ | refine so_ixR1 (by assumption) ?_ | refine so_ixR2 (by assumption) ?_ | refine so_lenR (by assumption) ?_
  | (refine so_addL (by simp only [List.length_append, List.length_cons, List.length_nil]; omega) ?_; try simp only [List.cons_append, List.nil_append])
  | refine Exists.intro _ (And.intro rfl ?_)
  | refine And.intro (show _ ≤ 16777216 by simp only [List.length_cons, List.length_nil]; omega) ?_))
local macro_rules | `(tactic| array_get_dec) => `(tactic| repeat sizeOf_list_dec)
def m_weight_b : SM :=
  (sRet (eB opAdd (eF bLen (aC (eV 0) aN)) (eC (.int 2))))
def m_weight : FM := fn0 1 1 m_weight_b
def m_hits_b : SM :=
  (sSeq (sAsg (gN 2) (eNew aN))
  (sSeq (sAsg (gN 3) (eC (.int 0)))
  (sSeq (sAsg (gN 4) (eC (.int 0)))
  (sSeq (sFor (gN 5) (wE (eV 1)) (sIf (tE (eB opIn (eV 5) (eV 2))) (sAsg (gN 4) (eB opAdd (eV 4) (eC (.int 1)))) (sIf (tE (eB opLe (eF m_weight (aC (eV 5) aN)) (eV 0))) (sSeq (sWh (tE (eB opGt (eB opAdd (eV 3) (eF m_weight (aC (eV 5) aN))) (eV 0))) (sAsg (gN 3) (eB opSub (eV 3) (eF m_weight (aC (eM "list" mPop (eV 2) (aC (eC (.int 0)) aN)) aN)))))
  (sSeq (sExpr (eM "list" mAppend (eV 2) (aC (eV 5) aN)))
  (sAsg (gN 3) (eB opAdd (eV 3) (eF m_weight (aC (eV 5) aN)))))) sNx)))
  (sRet (eV 4))))))
def m_hits : FM := tr (fn0 2 6 m_hits_b)
def m_law_hits_b : SM :=
  (sSeq (sAsg (gN 2) (eNew aN))
  (sSeq (sAsg (gN 3) (eC (.int 0)))
  (sSeq (sAsg (gN 4) (eC (.int 0)))
  (sSeq (sFor (gN 5) (wE (eV 1)) (sIf (tE (eB opIn (eV 5) (eV 2))) (sAsg (gN 4) (eB opAdd (eV 4) (eC (.int 1)))) (sIf (tE (eB opLe (eB opAdd (eF bLen (aC (eV 5) aN)) (eC (.int 2))) (eV 0))) (sSeq (sExpr (eM "list" mAppend (eV 2) (aC (eV 5) aN)))
  (sSeq (sAsg (gN 3) (eB opAdd (eB opAdd (eV 3) (eF bLen (aC (eV 5) aN))) (eC (.int 2))))
  (sWh (tE (eB opGt (eV 3) (eV 0))) (sSeq (sAsg (gN 3) (eB opSub (eB opSub (eV 3) (eF bLen (aC (eB opIx (eV 2) (eC (.int 0))) aN))) (eC (.int 2))))
  (sAsg (gN 2) (eSlN (eV 2) (pE (eC (.int 1))) pN)))))) sNx)))
  (sRet (eV 4))))))
def m_law_hits : FM := tr (fn0 2 6 m_law_hits_b)

/-! ### what the kept words weigh -/
def wt (w : Str) : Int := w.length + 2
def sumW : List Str → Int
  | [] => 0
  | a :: r => wt a + sumW r
theorem sumW_app (a b : List Str) : sumW (a ++ b) = sumW a + sumW b := by
  induction a with
  | nil => simp [sumW]
  | cons x r ih => simp only [List.cons_append, sumW, ih]; omega
def fit (room x : Int) : List Str → List Str
  | [] => []
  | a :: r => if room < sumW (a :: r) + x then fit room x r else a :: r
theorem fit_cons {room x : Int} {a : Str} {r : List Str} (h : room < sumW (a :: r) + x) : fit room x (a :: r) = fit room x r := by
  rw [fit, if_pos h]
theorem fit_stop {room x : Int} {k : List Str} (h : ¬ room < sumW k + x) : fit room x k = k := by
  cases k with
  | nil => rfl
  | cons a r => rw [fit, if_neg h]
theorem fit_sub {room x : Int} : ∀ {k : List Str} {w : Str}, w ∈ fit room x k → w ∈ k
  | [], _, h => h
  | a :: r, w, h => by
    rw [fit] at h
    split at h
    · exact List.mem_cons_of_mem _ (fit_sub h)
    · exact h
theorem fit_len {room x : Int} : ∀ {k : List Str}, (fit room x k).length ≤ k.length
  | [] => Nat.le_refl _
  | a :: r => by
    rw [fit]
    split
    · have := fit_len (room := room) (x := x) (k := r); simp; omega
    · exact Nat.le_refl _
def hitF (room : Int) (s : List Str × Nat) (w : Str) : List Str × Nat :=
  if w ∈ s.1 then (s.1, s.2 + 1) else if wt w ≤ room then (fit room (wt w) s.1 ++ [w], s.2) else s
def hitsS (room : Int) (row : List Str) : List Str × Nat := row.foldl (hitF room) ([], 0)
def hitsF (room : Int) (row : List Str) : Int := (hitsS room row).2
theorem hitsS_snoc (room : Int) (row : List Str) (w : Str) : hitsS room (row ++ [w]) = hitF room (hitsS room row) w := by
  unfold hitsS; rw [List.foldl_append]; rfl
theorem hitF_sub {room : Int} {s : List Str × Nat} {w x : Str} (h : x ∈ (hitF room s w).1) : x ∈ s.1 ∨ x = w := by
  unfold hitF at h
  split at h
  · exact .inl h
  · split at h
    · rcases List.mem_append.mp h with h | h
      · exact .inl (fit_sub h)
      · exact .inr (List.mem_singleton.mp h)
    · exact .inl h
theorem hitF_len {room : Int} {s : List Str × Nat} {w : Str} : (hitF room s w).1.length ≤ s.1.length + 1 := by
  unfold hitF
  split
  · simp
  · split
    · have := fit_len (room := room) (x := wt w) (k := s.1); simp; omega
    · simp
theorem trOk_app (N : Nat) : ∀ (h r : Hm), trOk h (h ++ r) N = true
  | [], _ => rfl
  | o :: h, r => by
    simp only [List.cons_append, trOk, HD.beq_refl, trOk_app N h r, Bool.true_or, Bool.and_self]
theorem weight {w : Str} {h : Hm} {Q : D → Hm → Prop} (hw : w.length ≤ 1000) (q : Q (.int (wt w)) h) : Sat (m_weight [.str w] h) Q := by
  refine sa_fn rfl ?_
  unfold m_weight_b
  simp only [List.map_cons, List.map_nil, List.replicate, Nat.reduceSub, List.cons_append, List.nil_append]
  array_get_dec
  refine so_lenS (by omega) ?_
  array_get_dec
  exact q
def Short (ws : List Str) : Prop := ∀ w ∈ ws, w.length ≤ 1000
theorem Words.short {ws : List Str} (h : Words ws) : Short ws := fun w hw => by have := (h w hw).len; omega
theorem hits {room : Int} {row : List Str} {h : Hm} {Q : D → Hm → Prop} (hr : Short row) (hl : row.length ≤ 1000) (q : Q (.int (hitsF room row)) h) : Sat (m_hits [.int room, .lst (row.map D.str)] h) Q := by
  refine sa_tr (sa_fn rfl ?_)
  unfold m_hits_b
  simp only [List.map_cons, List.map_nil, List.replicate, Nat.reduceSub, List.cons_append, List.nil_append]
  array_get_dec
  refine ss_forL (l := row.map D.str) (fun i v h' => ∃ x5, h' = h ++ [.lst ((hitsS room (row.take i)).1.map D.str)] ∧ (hitsS room (row.take i)).1.length ≤ i ∧ Short (hitsS room (row.take i)).1 ∧
      v = [some (.int room), some (.lst (row.map D.str)), some (.ref h.length), some (.int (sumW (hitsS room (row.take i)).1)), some (.int (hitsS room (row.take i)).2), x5]) (by
    array_get_dec
    exact so_wkL ⟨rfl, rfl⟩) ⟨_, rfl, Nat.le_refl _, (fun _ z => nomatch z), rfl⟩ ?_ ?_
  · rintro i x v h' hx ⟨x5, rfl, hl5, hs5, rfl⟩
    obtain ⟨w, hw, rfl⟩ : ∃ w, row[i]? = some w ∧ x = .str w := by
      rw [List.getElem?_map] at hx
      cases hrw : row[i]? with
      | none => rw [hrw] at hx; exact nomatch hx
      | some w => rw [hrw] at hx; exact ⟨w, rfl, by injection hx with hx; exact hx.symm⟩
    have hwl := hr w (List.mem_of_getElem? hw)
    have hi : i < row.length := (List.getElem?_eq_some_iff.mp hw).1
    have et : row.take (i + 1) = row.take i ++ [w] := by rw [List.take_add_one, hw]; rfl
    rw [et, hitsS_snoc]
    generalize hitsS room (row.take i) = s at hl5 hs5 ⊢
    refine ⟨_, rfl, ?_⟩
    simp only [List.set_cons_zero, List.set_cons_succ]
    have e0 : ∀ k : List Str, (h ++ [HD.lst (k.map D.str)])[h.length]? = some (.lst (k.map D.str)) := fun k => by simp
    array_get_dec
    refine so_inStr (e0 _) ?_
    refine ⟨_, rfl, fun hc => ?_, fun hc => ?_⟩
    · have hc : w ∈ s.1 := of_decide_eq_true hc
      array_get_dec
      unfold hitF
      rw [if_pos hc]
      exact ⟨_, rfl, by show s.1.length ≤ i + 1; omega, hs5, rfl⟩
    · have hc : ¬ w ∈ s.1 := of_decide_eq_false hc
      array_get_dec
      refine weight hwl ?_
      array_get_dec
      refine ⟨fun hc2 => ?_, fun hc2 => ?_⟩
      · have hc2 : wt w ≤ room := of_decide_eq_true hc2
        array_get_dec
        refine ss_wh (fun v h' => ∃ k : List Str, h' = h ++ [.lst (k.map D.str)] ∧ fit room (wt w) k = fit room (wt w) s.1 ∧ (∀ z ∈ k, z ∈ s.1) ∧
          v = [some (.int room), some (.lst (row.map D.str)), some (.ref h.length), some (.int (sumW k)), some (.int s.2), some (.str w)]) (fun _ h' => match h'[h.length]? with
            | some (.lst l) => l.length
            | _ => 0) ⟨s.1, rfl, rfl, fun _ z => z, rfl⟩ (by simp only [e0, List.length_map]; omega) ?_
        rintro v h' ⟨k, rfl, ek, hk, rfl⟩
        array_get_dec
        refine weight hwl ?_
        array_get_dec
        refine ⟨fun hc3 => ?_, fun hc3 => ?_⟩
        · have hc3 : room < sumW k + wt w := of_decide_eq_true hc3
          cases k with
          | nil => simp only [sumW] at hc3; omega
          | cons a r =>
            array_get_dec
            refine ⟨rcR (e0 _), ?_⟩
            array_get_dec
            refine so_pop0 (x := .str a) (l := r.map D.str) (e0 (a :: r)) ?_
            array_get_dec
            refine weight (hs5 a (hk a (by simp))) ?_
            array_get_dec
            refine ⟨⟨r, by simp, by rw [← ek, fit_cons hc3], fun z hz => hk z (by simp [hz]), ?_⟩, ?_⟩
            · rw [show sumW (a :: r) - wt a = sumW r by simp only [sumW]; omega]
            · simp
        · have hc3 : ¬ room < sumW k + wt w := of_decide_eq_false hc3
          array_get_dec
          refine ⟨rcR (e0 _), ?_⟩
          array_get_dec
          refine so_append (e0 k) (by
            have := fit_len (room := room) (x := wt w) (k := s.1)
            rw [← ek, fit_stop hc3] at this
            simp; omega) ?_
          array_get_dec
          refine weight hwl ?_
          array_get_dec
          have eh : hitF room s w = (k ++ [w], s.2) := by
            unfold hitF
            rw [if_neg hc, if_pos hc2, ← ek, fit_stop hc3]
          have hlen : (k ++ [w]).length ≤ s.1.length + 1 := by
            have := hitF_len (room := room) (s := s) (w := w)
            rw [eh] at this; exact this
          rw [eh]
          refine ⟨some (.str w), by simp, by show (k ++ [w]).length ≤ i + 1; omega, fun z hz => ?_, ?_⟩
          · rcases List.mem_append.mp hz with hz | hz
            · exact hs5 z (hk z hz)
            · rw [List.mem_singleton.mp hz]; exact hwl
          · rw [sumW_app]
            simp [sumW]
      · have hc2 : ¬ wt w ≤ room := of_decide_eq_false hc2
        array_get_dec
        unfold hitF
        rw [if_neg hc, if_neg hc2]
        exact ⟨_, rfl, by omega, hs5, rfl⟩
  · rintro v h' ⟨x5, rfl, hl5, hs5, rfl⟩
    array_get_dec
    rw [List.length_map, List.take_length]
    refine ⟨rfl, trOk_app _ _ _, ?_⟩
    rw [List.take_left']
    · exact q
    · rfl

theorem cutD_from {l : List D} {i : Int} (h : 0 ≤ i) : cutD l (some i) none = l.drop i.toNat := by
  unfold cutD
  rw [sIx_pos h, show HT.sIx l.length l.length none = l.length from rfl]
  by_cases hk : i.toNat ≤ l.length
  · rw [Nat.min_eq_left hk, List.take_of_length_le (by simp)]
  · rw [Nat.min_eq_right (by omega), List.drop_of_length_le (by omega), List.drop_of_length_le (by omega)]; simp
theorem cutD_to {l : List D} {i : Int} (h : 0 ≤ i) : cutD l none (some i) = l.take i.toNat := by
  unfold cutD
  rw [sIx_pos h, show HT.sIx l.length 0 none = 0 from rfl, Nat.sub_zero, List.drop_zero]
  by_cases hk : i.toNat ≤ l.length
  · rw [Nat.min_eq_left hk]
  · rw [Nat.min_eq_right (by omega), List.take_length, List.take_of_length_le (by omega)]
theorem law_hits {room : Int} {row : List Str} {h : Hm} {Q : D → Hm → Prop} (hr : Short row) (hl : row.length ≤ 1000) (q : Q (.int (hitsF room row)) h) : Sat (m_law_hits [.int room, .lst (row.map D.str)] h) Q := by
  refine sa_tr (sa_fn rfl ?_)
  unfold m_law_hits_b
  simp only [List.map_cons, List.map_nil, List.replicate, Nat.reduceSub, List.cons_append, List.nil_append]
  array_get_dec
  refine ss_forL (l := row.map D.str) (fun i v h' => ∃ (x5 : Option D) (ex : Hm) (m : Nat), h' = h ++ ex ∧ h'[m]? = some (.lst ((hitsS room (row.take i)).1.map D.str)) ∧ (hitsS room (row.take i)).1.length ≤ i ∧ Short (hitsS room (row.take i)).1 ∧ h.length ≤ m ∧
      v = [some (.int room), some (.lst (row.map D.str)), some (.ref m), some (.int (sumW (hitsS room (row.take i)).1)), some (.int (hitsS room (row.take i)).2), x5]) (by
    array_get_dec
    exact so_wkL ⟨rfl, rfl⟩) ⟨_, _, h.length, rfl, by simp [hitsS], Nat.le_refl _, (fun _ z => nomatch z), Nat.le_refl _, rfl⟩ ?_ ?_
  · rintro i x v h' hx ⟨x5, ex, m, rfl, e0, hl5, hs5, hm, rfl⟩
    obtain ⟨w, hw, rfl⟩ : ∃ w, row[i]? = some w ∧ x = .str w := by
      rw [List.getElem?_map] at hx
      cases hrw : row[i]? with
      | none => rw [hrw] at hx; exact nomatch hx
      | some w => rw [hrw] at hx; exact ⟨w, rfl, by injection hx with hx; exact hx.symm⟩
    have hwl := hr w (List.mem_of_getElem? hw)
    have hi : i < row.length := (List.getElem?_eq_some_iff.mp hw).1
    have et : row.take (i + 1) = row.take i ++ [w] := by rw [List.take_add_one, hw]; rfl
    rw [et, hitsS_snoc]
    generalize hitsS room (row.take i) = s at e0 hl5 hs5 ⊢
    refine ⟨_, rfl, ?_⟩
    simp only [List.set_cons_zero, List.set_cons_succ]
    array_get_dec
    refine so_inStr e0 ?_
    refine ⟨_, rfl, fun hc => ?_, fun hc => ?_⟩
    · have hc : w ∈ s.1 := of_decide_eq_true hc
      array_get_dec
      unfold hitF
      rw [if_pos hc]
      exact ⟨_, ex, m, rfl, e0, by show s.1.length ≤ i + 1; omega, hs5, hm, rfl⟩
    · have hc : ¬ w ∈ s.1 := of_decide_eq_false hc
      array_get_dec
      refine so_lenS (by omega) ?_
      array_get_dec
      refine ⟨fun hc2 => ?_, fun hc2 => ?_⟩
      · have hc2 : wt w ≤ room := of_decide_eq_true hc2
        array_get_dec
        refine ⟨rcR e0, ?_⟩
        array_get_dec
        refine so_append e0 (by simp; omega) ?_
        array_get_dec
        refine so_lenS (by omega) ?_
        array_get_dec
        have e1 : ((h ++ ex).set m (.lst (s.1.map D.str ++ [.str w])))[m]? = some (.lst ((s.1 ++ [w]).map D.str)) := by
          rw [List.getElem?_set_self (List.getElem?_eq_some_iff.mp e0).1, List.map_append]; rfl
        have e2 : (h ++ ex).set m (.lst (s.1.map D.str ++ [.str w])) = h ++ ex.set (m - h.length) (.lst (s.1.map D.str ++ [.str w])) := by
          rw [List.set_append_right _ _ hm]
        rw [e2] at e1 ⊢
        generalize ex.set (m - h.length) (.lst (s.1.map D.str ++ [.str w])) = ex2 at e1 ⊢
        refine ss_wh (fun v h' => ∃ (k : List Str) (ex : Hm) (m : Nat), h' = h ++ ex ∧ h'[m]? = some (.lst ((k ++ [w]).map D.str)) ∧ h.length ≤ m ∧ fit room (wt w) k = fit room (wt w) s.1 ∧ (∀ z ∈ k, z ∈ s.1) ∧ k.length ≤ s.1.length ∧
          v = [some (.int room), some (.lst (row.map D.str)), some (.ref m), some (.int (sumW k + wt w)), some (.int s.2), some (.str w)]) (fun v h' => match v with
            | _ :: _ :: some (.ref m) :: _ => (match h'[m]? with
              | some (.lst l) => l.length
              | _ => 0)
            | _ => 0) ⟨s.1, ex2, m, rfl, e1, hm, rfl, (fun _ z => z), Nat.le_refl _, by rw [show sumW s.1 + (w.length : Int) + 2 = sumW s.1 + wt w by unfold wt; omega]⟩ (by simp only [e1, List.length_map, List.length_append, List.length_cons, List.length_nil]; omega) ?_
        rintro v h' ⟨k, ex3, m3, rfl, e3, hm3, ek, hk, hkl, rfl⟩
        array_get_dec
        refine ⟨fun hc3 => ?_, fun hc3 => ?_⟩
        · have hc3 : room < sumW k + wt w := of_decide_eq_true hc3
          cases k with
          | nil => simp only [sumW] at hc3; omega
          | cons a r =>
            have e3' := e3
            simp only [List.cons_append, List.map_cons] at e3'
            array_get_dec
            have ha := hs5 a (hk a (by simp))
            refine so_lenS (by omega) ?_
            array_get_dec
            refine so_slN e3 ?_
            have ec : cutD ((a :: r ++ [w]).map D.str) (some 1) none = (r ++ [w]).map D.str := cutD_from (by decide)
            rw [ec]
            refine ⟨⟨r, ex3 ++ [.lst ((r ++ [w]).map D.str)], (h ++ ex3).length, by rw [List.append_assoc], by simp, by simp, by rw [← ek, fit_cons hc3], fun z hz => hk z (by simp [hz]), by simp at hkl; omega, ?_⟩, ?_⟩
            · rw [show sumW (a :: r) + wt w - (a.length : Int) - 2 = sumW r + wt w by simp only [sumW, wt]; omega]
            · simp [e3]
        · have hc3 : ¬ room < sumW k + wt w := of_decide_eq_false hc3
          have eh : hitF room s w = (k ++ [w], s.2) := by
            unfold hitF
            rw [if_neg hc, if_pos hc2, ← ek, fit_stop hc3]
          rw [eh]
          refine ⟨some (.str w), ex3, m3, rfl, e3, by show (k ++ [w]).length ≤ i + 1; simp; omega, fun z hz => ?_, hm3, ?_⟩
          · rcases List.mem_append.mp hz with hz | hz
            · exact hs5 z (hk z hz)
            · rw [List.mem_singleton.mp hz]; exact hwl
          · rw [sumW_app]
            simp [sumW]
      · have hc2 : ¬ wt w ≤ room := of_decide_eq_false hc2
        array_get_dec
        unfold hitF
        rw [if_neg hc, if_neg hc2]
        exact ⟨_, ex, m, rfl, e0, by omega, hs5, hm, rfl⟩
  · rintro v h' ⟨x5, ex, m, rfl, e0, hl5, hs5, hm, rfl⟩
    array_get_dec
    rw [List.length_map, List.take_length]
    refine ⟨rfl, trOk_app _ _ _, ?_⟩
    rw [List.take_left']
    · exact q
    · rfl
end Lw

/-! LibF: rows of words, numbers of all rooms. -/
set_option Elab.async false
set_option linter.all false
set_option maxRecDepth 100000
set_option maxHeartbeats 4000000
namespace Lw
open PySem Dn
local macro_rules | `(tactic| sizeOf_list_dec) => `(tactic| with_reducible (first
  | refine sa_V0 ?_ | refine sa_V1 ?_ | refine sa_V2 ?_ | refine sa_V3 ?_ | refine sa_V4 ?_ | refine sa_V5 ?_ | refine sa_V6 ?_ | refine sa_V7 ?_ | refine sa_V8 ?_ | refine sa_V9 ?_ | refine sa_V10 ?_ | refine sa_V11 ?_ | refine sa_V12 ?_ | refine sa_V13 ?_ | refine sa_V14 ?_ | refine sa_V15 ?_ | refine sa_C ?_ | refine sa_B ?_ | refine sa_U ?_ | refine sa_F ?_ | refine sa_aN ?_ | refine sa_aC ?_ | refine sa_tup ?_ | refine sa_lst ?_ | refine sa_new ?_ | refine sa_tE ?_ | refine sa_If ?_ | refine sa_And ?_ | refine sa_Or ?_ | refine sa_Not ?_ | refine sa_tAnd ?_ | refine sa_tOr ?_ | refine sa_tNot ?_ | refine sa_chain ?_ | refine sa_M ?_ | refine sa_Sl ?_ | refine sa_SlN ?_ | refine sa_pN ?_ | refine sa_pE ?_ | refine sa_wE ?_ | refine sa_wR1 ?_ | refine sa_wR2 ?_ | refine sa_tYes ?_ | refine ss_nx ?_ | refine ss_seq ?_ | refine ss_asg0 ?_ | refine ss_asg1 ?_ | refine ss_asg2 ?_ | refine ss_asg3 ?_ | refine ss_asg4 ?_ | refine ss_asg5 ?_ | refine ss_asg6 ?_ | refine ss_asg7 ?_ | refine ss_asg8 ?_ | refine ss_asg9 ?_ | refine ss_asg10 ?_ | refine ss_asg11 ?_ | refine ss_asg12 ?_ | refine ss_asg13 ?_ | refine ss_asg14 ?_ | refine ss_asg15 ?_ | refine ss_expr ?_ | refine ss_ret ?_ | refine ss_retN ?_ | refine ss_if ?_ | refine ss_put ?_ | refine ss_bk ?_ | refine ss_ct ?_ | refine so_add ?_ | refine so_sub ?_ | refine so_lt ?_ | refine so_le ?_ | refine so_gt ?_ | refine so_ge ?_ | refine so_eqI ?_ | refine so_neI ?_ | refine so_eqS ?_ | refine so_neS ?_ | refine so_eqB ?_ | refine so_neB ?_ | refine so_isN ?_ | refine so_notN ?_ | refine so_len ?_ | refine so_lenT ?_ | refine so_lenC ?_ | refine so_max ?_ | refine so_min ?_ | refine so_intI ?_ | refine so_intB ?_ | refine so_ixL0 ?_ | refine so_ixL1 ?_ | refine so_ixL2 ?_ | refine so_ixL3 ?_ | refine so_ixL4 ?_ | refine so_ixL5 ?_ | refine so_ixT0 ?_ | refine so_ixT1 ?_ | refine so_ixT2 ?_ | refine so_ixT3 ?_ | refine so_ixT4 ?_ | refine so_ixT5 ?_
  | refine so_isiI_tuple ?_ | refine so_isiI_list ?_ | refine so_isiI_str ?_ | refine so_isiI_bool ?_ | refine so_isiI_int ?_ | refine so_isiS_tuple ?_ | refine so_isiS_list ?_ | refine so_isiS_str ?_ | refine so_isiS_bool ?_ | refine so_isiS_int ?_ | refine so_isiB_tuple ?_ | refine so_isiB_list ?_ | refine so_isiB_str ?_ | refine so_isiB_bool ?_ | refine so_isiB_int ?_ | refine so_isiN_tuple ?_ | refine so_isiN_list ?_ | refine so_isiN_str ?_ | refine so_isiN_bool ?_ | refine so_isiN_int ?_ | refine so_isiT_tuple ?_ | refine so_isiT_list ?_ | refine so_isiT_str ?_ | refine so_isiT_bool ?_ | refine so_isiT_int ?_ | refine so_isiL_tuple ?_ | refine so_isiL_list ?_ | refine so_isiL_str ?_ | refine so_isiL_bool ?_ | refine so_isiL_int ?_
  | refine so_mod (by decide) ?_ | refine so_mul (mulOkL (by decide)) ?_ | refine so_div (by decide) ?_ | refine so_ixR0 (by assumption) ?_ | refine so_ixR1 (by assumption) ?_ | refine so_ixR2 (by assumption) ?_ | refine so_lenR (by assumption) ?_
  | (refine so_addL (by simp only [List.length_append, List.length_cons, List.length_nil]; omega) ?_; try simp only [List.cons_append, List.nil_append])
  | refine Exists.intro _ (And.intro rfl ?_)
  | refine And.intro (show _ ≤ 16777216 by simp only [List.length_cons, List.length_nil]; omega) ?_))
local macro_rules | `(tactic| array_get_dec) => `(tactic| repeat sizeOf_list_dec)
def m_by_rooms_b : SM :=
  (sRet (eLc [1] (gN 1) (wR1 (eB opAdd (eC (.int 200)) (eC (.int 1)))) tYes (eF m_hits (aC (eV 1) (aC (eV 0) aN)))))
def m_by_rooms : FM := fn0 1 2 m_by_rooms_b
def m_odd_rooms_b : SM :=
  (sSeq (sAsg (gN 1) (eF m_by_rooms (aC (eV 0) aN)))
  (sSeq (sFor (gN 2) (wR1 (eB opAdd (eC (.int 200)) (eC (.int 1)))) (sIf (tE (eB opLt (eF bMin (aC (eSl (eV 1) (pE (eV 2)) pN) aN)) (eB opIx (eV 1) (eV 2)))) (sSeq (sAsg (gN 3) (eLc [4] (gN 4) (wR2 (eV 2) (eB opAdd (eC (.int 200)) (eC (.int 1)))) (tE (eB opLt (eB opIx (eV 1) (eV 4)) (eB opIx (eV 1) (eV 2)))) (eV 4)))
  (sRet (eTup (aC (eV 2) (aC (eB opIx (eV 3) (eC (.int 0))) aN))))) sNx))
  (sRet (eC .non))))
def m_odd_rooms : FM := fn0 1 5 m_odd_rooms_b

/-- the numbers of all rooms -/
def nums (row : List Str) : List Int := (List.range 201).map fun (k : Nat) => hitsF (k : Int) row
theorem nums_at {row : List Str} {k : Nat} (h : k < 201) : (nums row)[k]? = some (hitsF (k : Int) row) := by
  unfold nums
  simp [h]
theorem nums_len (row : List Str) : (nums row).length = 201 := by simp [nums]
theorem by_rooms {row : List Str} {h : Hm} {Q : D → Hm → Prop} (hr : Short row) (hl : row.length ≤ 1000) (q : Q (.lst ((nums row).map D.int)) h) : Sat (m_by_rooms [.lst (row.map D.str)] h) Q := by
  refine sa_fn rfl ?_
  unfold m_by_rooms_b
  simp only [List.map_cons, List.map_nil, List.replicate, Nat.reduceSub, List.cons_append, List.nil_append]
  array_get_dec
  refine sa_LcMap (l := (List.range 201).map fun (k : Nat) => .int (k : Int)) (fun x => match x with
    | .int k => .int (hitsF k row)
    | _ => .non) (by simp) (by
      array_get_dec
      exact ⟨by omega, by omega, rfl, rfl⟩) ?_ ?_
  · intro x hx P p
    obtain ⟨k, hk, rfl⟩ := List.mem_map.mp hx
    simp only [wipeE, List.foldr, List.set_cons_zero, List.set_cons_succ]
    array_get_dec
    exact hits hr hl p
  · have e : ((List.range 201).map fun (k : Nat) => D.int (k : Int)).map (fun x => match x with
      | .int k => .int (hitsF k row)
      | _ => .non) = (nums row).map D.int := by
      unfold nums
      rw [List.map_map, List.map_map]
      rfl
    rw [e]
    exact q
/-- the first odd rooms -/
def IsOdd (f : Nat → Int) (d : D) : Prop :=
  (d = .non ∧ ∀ l m, l < m → m < 201 → ¬ f m < f l) ∨
  ∃ l m : Nat, d = .tup [.int l, .int m] ∧ l < m ∧ m < 201 ∧ f m < f l ∧ (∀ l', l' < l → ∀ m', l' < m' → m' < 201 → ¬ f m' < f l') ∧ ∀ m', l < m' → m' < m → ¬ f m' < f l
theorem IsOdd.uniq {f : Nat → Int} {d d' : D} (a : IsOdd f d) (b : IsOdd f d') : d = d' := by
  rcases a with ⟨rfl, a⟩ | ⟨l, m, rfl, a1, a2, a3, a4, a5⟩ <;> rcases b with ⟨rfl, b⟩ | ⟨l', m', rfl, b1, b2, b3, b4, b5⟩
  · rfl
  · exact (a l' m' b1 b2 b3).elim
  · exact (b l m a1 a2 a3).elim
  · have e1 : l = l' := by
      rcases Nat.lt_trichotomy l l' with h | h | h
      · exact (b4 l h m a1 a2 a3).elim
      · exact h
      · exact (a4 l' h m' b1 b2 b3).elim
    subst e1
    have e2 : m = m' := by
      rcases Nat.lt_trichotomy m m' with h | h | h
      · exact (b5 m a1 h a3).elim
      · exact h
      · exact (a5 m' b1 h b3).elim
    subst e2
    rfl
theorem IsOdd.pl {f : Nat → Int} {d : D} (a : IsOdd f d) : Pl 10 d := by
  rcases a with ⟨rfl, _⟩ | ⟨l, m, rfl, _⟩
  · trivial
  · refine ⟨by simp only [List.length_cons, List.length_nil]; omega, fun x hx => ?_⟩
    simp only [List.mem_cons, List.not_mem_nil, or_false] at hx
    rcases hx with rfl | rfl <;> trivial
theorem so_ixI {ns : List Int} {i : Int} {k : Int} {h : Hm} {Q : D → Hm → Prop} (h0 : 0 ≤ i) (e : ns[i.toNat]? = some k) (q : Q (.int k) h) : Sat (opIx (.lst (ns.map D.int)) (.int i) h) Q := by
  obtain ⟨j, rfl⟩ := Int.eq_ofNat_of_zero_le h0
  exact so_ixL (atI_nat (by rw [List.getElem?_map]; simp at e; rw [e]; rfl)) q
theorem range_filter {n : Nat} {p : Nat → Bool} (h : ∃ k, k < n ∧ p k = true) : ∃ x rest, (List.range n).filter p = x :: rest ∧ x < n ∧ p x = true ∧ ∀ y, y < x → p y = false := by
  obtain ⟨k, hk, hp⟩ := h
  have hm : k ∈ (List.range n).filter p := List.mem_filter.mpr ⟨List.mem_range.mpr hk, hp⟩
  cases hf : (List.range n).filter p with
  | nil => rw [hf] at hm; exact nomatch hm
  | cons x rest =>
    have h1 : ((List.range n).filter p).head? = some x := by rw [hf]; rfl
    rw [List.head?_filter, List.find?_range_eq_some] at h1
    exact ⟨x, rest, rfl, List.mem_range.mp h1.2.1, h1.1, fun y hy => by simpa using h1.2.2 y hy⟩
theorem odd_rooms {row : List Str} {h : Hm} {Q : D → Hm → Prop} (hr : Short row) (hl : row.length ≤ 1000) (q : ∀ d, IsOdd (fun k => hitsF (k : Int) row) d → Q d h) : Sat (m_odd_rooms [.lst (row.map D.str)] h) Q := by
  refine sa_fn rfl ?_
  unfold m_odd_rooms_b
  simp only [List.map_cons, List.map_nil, List.replicate, Nat.reduceSub, List.cons_append, List.nil_append]
  array_get_dec
  refine by_rooms hr hl ?_
  array_get_dec
  refine ss_forR 201 (fun i v h' => h' = h ∧ (∃ x2 x3 x4, v = [some (.lst (row.map D.str)), some (.lst ((nums row).map D.int)), x2, x3, x4]) ∧ ∀ l, l < i → ∀ m, l < m → m < 201 → ¬ hitsF (m : Int) row < hitsF (l : Int) row) (by
    array_get_dec
    exact ⟨by omega, by omega, rfl, rfl⟩) ⟨rfl, ⟨_, _, _, rfl⟩, fun _ z => by omega⟩ ?_ ?_
  · rintro i v h' hi ⟨rfl, ⟨x2, x3, x4, rfl⟩, hI⟩
    simp only [List.set_cons_zero, List.set_cons_succ]
    array_get_dec
    refine so_slL ?_
    rw [cutD_from (by omega), ← List.map_drop]
    array_get_dec
    have hpos : 0 < ((nums row).drop (i : Int).toNat).length := by rw [List.length_drop, nums_len]; omega
    refine so_minL hpos ?_
    array_get_dec
    with_reducible refine so_ixI (by omega) (nums_at (by omega)) ?_
    array_get_dec
    obtain ⟨m1, m2⟩ := mnL_mem hpos
    refine ⟨fun hc => ?_, fun hc => ?_⟩
    · have hc := of_decide_eq_true hc
      array_get_dec
      refine sa_LcFil (l := (List.range (201 - i)).map fun (k : Nat) => .int ((i : Int) + (k : Int))) (fun x => match x with
        | .int k => decide (hitsF k row < hitsF (i : Int) row)
        | _ => false) id (by simp; omega) (by
          array_get_dec
          refine ⟨_, _, rfl, rfl, by omega, ?_, rfl⟩
          rw [show (200 + 1 - (i : Int)).toNat = 201 - i by omega]) ?_ ?_ ?_
      · intro x hx P p
        obtain ⟨k, hk, rfl⟩ := List.mem_map.mp hx
        have hk : k < 201 - i := by simpa using hk
        simp only [wipeE, List.foldr, List.set_cons_zero, List.set_cons_succ]
        array_get_dec
        refine so_ixI (i := (i : Int) + (k : Int)) (by omega) (nums_at (k := ((i : Int) + (k : Int)).toNat) (by omega)) ?_
        array_get_dec
        refine so_ixI (i := (i : Int)) (by omega) (nums_at (by omega)) ?_
        array_get_dec
        rw [show ((((i : Int) + k).toNat : Nat) : Int) = (i : Int) + k by omega, show ((((i : Int)).toNat : Nat) : Int) = (i : Int) by omega]
        exact p
      · intro x hx P p
        obtain ⟨k, hk, rfl⟩ := List.mem_map.mp hx
        simp only [wipeE, List.foldr, List.set_cons_zero, List.set_cons_succ]
        array_get_dec
        exact p
      · rw [List.map_id, List.filter_map]
        obtain ⟨m3, hm3, e3⟩ := List.getElem_of_mem m1
        obtain ⟨x, rest, ef, x1, x2, x3⟩ := range_filter (n := 201 - i) (p := (fun x : D => match x with
          | .int k => decide (hitsF k row < hitsF (i : Int) row)
          | _ => false) ∘ fun (k : Nat) => .int ((i : Int) + (k : Int))) (by
            have hm4 : m3 < 201 - i := by rw [List.length_drop, nums_len] at hm3; omega
            refine ⟨m3, hm4, ?_⟩
            rw [List.getElem_drop] at e3
            have e5 := nums_at (row := row) (k := i + m3) (by omega)
            rw [List.getElem?_eq_getElem (by rw [nums_len]; omega)] at e5
            injection e5 with e5
            have e6 : (nums row)[(i : Int).toNat + m3]'(by rw [nums_len]; omega) = hitsF ((i : Int) + (m3 : Int)) row := by
              simpa using e5
            rw [e6] at e3
            show decide (hitsF ((i : Int) + (m3 : Int)) row < hitsF (i : Int) row) = true
            rw [show ((((i : Int)).toNat : Nat) : Int) = (i : Int) by omega] at hc
            rw [e3]
            exact decide_eq_true hc)
        rw [ef, List.map_cons]
        array_get_dec
        have x2 : hitsF ((i : Int) + (x : Int)) row < hitsF (i : Int) row := of_decide_eq_true x2
        refine q _ (.inr ⟨i, i + x, rfl, ?_, by omega, x2, hI, fun m' h1 h2 => ?_⟩)
        · refine Nat.lt_add_of_pos_right (Nat.pos_of_ne_zero fun e => ?_)
          subst e
          simp at x2
        · have := x3 (m' - i) (by omega)
          have := of_decide_eq_false this
          rw [show ((i : Int) + ((m' - i : Nat) : Int)) = (m' : Int) by omega] at this
          exact this
    · have hc := of_decide_eq_false hc
      refine ss_nx ⟨rfl, ⟨_, _, _, rfl⟩, fun l hl2 m hlm hm => ?_⟩
      by_cases e : l = i
      · subst e
        have := m2 (hitsF (m : Int) row) (List.mem_of_getElem? (i := m - l) (by
          rw [List.getElem?_drop, show ((l : Int).toNat + (m - l)) = m by omega]
          exact nums_at hm))
        rw [show ((((l : Int)).toNat : Nat) : Int) = (l : Int) by omega] at hc
        omega
      · exact hI l (by omega) m hlm hm
  · rintro v h' ⟨rfl, ⟨x2, x3, x4, rfl⟩, hI⟩
    array_get_dec
    exact q _ (.inl ⟨rfl, fun l m hlm hm => hI l (by omega) m hlm hm⟩)
end Lw

/-! LibG: rows of words drawn. -/
set_option Elab.async false
set_option linter.all false
set_option maxRecDepth 100000
set_option maxHeartbeats 4000000
namespace Lw
open PySem Dn
local macro_rules | `(tactic| sizeOf_list_dec) => `(tactic| with_reducible (first
  | refine sa_V0 ?_ | refine sa_V1 ?_ | refine sa_V2 ?_ | refine sa_V3 ?_ | refine sa_V4 ?_ | refine sa_V5 ?_ | refine sa_V6 ?_ | refine sa_V7 ?_ | refine sa_V8 ?_ | refine sa_V9 ?_ | refine sa_V10 ?_ | refine sa_V11 ?_ | refine sa_V12 ?_ | refine sa_V13 ?_ | refine sa_V14 ?_ | refine sa_V15 ?_ | refine sa_C ?_ | refine sa_B ?_ | refine sa_U ?_ | refine sa_F ?_ | refine sa_aN ?_ | refine sa_aC ?_ | refine sa_tup ?_ | refine sa_lst ?_ | refine sa_new ?_ | refine sa_tE ?_ | refine sa_If ?_ | refine sa_And ?_ | refine sa_Or ?_ | refine sa_Not ?_ | refine sa_tAnd ?_ | refine sa_tOr ?_ | refine sa_tNot ?_ | refine sa_chain ?_ | refine sa_M ?_ | refine sa_Sl ?_ | refine sa_SlN ?_ | refine sa_pN ?_ | refine sa_pE ?_ | refine sa_wE ?_ | refine sa_wR1 ?_ | refine sa_wR2 ?_ | refine sa_tYes ?_ | refine ss_nx ?_ | refine ss_seq ?_ | refine ss_asg0 ?_ | refine ss_asg1 ?_ | refine ss_asg2 ?_ | refine ss_asg3 ?_ | refine ss_asg4 ?_ | refine ss_asg5 ?_ | refine ss_asg6 ?_ | refine ss_asg7 ?_ | refine ss_asg8 ?_ | refine ss_asg9 ?_ | refine ss_asg10 ?_ | refine ss_asg11 ?_ | refine ss_asg12 ?_ | refine ss_asg13 ?_ | refine ss_asg14 ?_ | refine ss_asg15 ?_ | refine ss_expr ?_ | refine ss_ret ?_ | refine ss_retN ?_ | refine ss_if ?_ | refine ss_put ?_ | refine ss_bk ?_ | refine ss_ct ?_ | refine so_add ?_ | refine so_sub ?_ | refine so_lt ?_ | refine so_le ?_ | refine so_gt ?_ | refine so_ge ?_ | refine so_eqI ?_ | refine so_neI ?_ | refine so_eqS ?_ | refine so_neS ?_ | refine so_eqB ?_ | refine so_neB ?_ | refine so_isN ?_ | refine so_notN ?_ | refine so_len ?_ | refine so_lenT ?_ | refine so_lenC ?_ | refine so_max ?_ | refine so_min ?_ | refine so_intI ?_ | refine so_intB ?_ | refine so_ixL0 ?_ | refine so_ixL1 ?_ | refine so_ixL2 ?_ | refine so_ixL3 ?_ | refine so_ixL4 ?_ | refine so_ixL5 ?_ | refine so_ixT0 ?_ | refine so_ixT1 ?_ | refine so_ixT2 ?_ | refine so_ixT3 ?_ | refine so_ixT4 ?_ | refine so_ixT5 ?_
  | refine so_isiI_tuple ?_ | refine so_isiI_list ?_ | refine so_isiI_str ?_ | refine so_isiI_bool ?_ | refine so_isiI_int ?_ | refine so_isiS_tuple ?_ | refine so_isiS_list ?_ | refine so_isiS_str ?_ | refine so_isiS_bool ?_ | refine so_isiS_int ?_ | refine so_isiB_tuple ?_ | refine so_isiB_list ?_ | refine so_isiB_str ?_ | refine so_isiB_bool ?_ | refine so_isiB_int ?_ | refine so_isiN_tuple ?_ | refine so_isiN_list ?_ | refine so_isiN_str ?_ | refine so_isiN_bool ?_ | refine so_isiN_int ?_ | refine so_isiT_tuple ?_ | refine so_isiT_list ?_ | refine so_isiT_str ?_ | refine so_isiT_bool ?_ | refine so_isiT_int ?_ | refine so_isiL_tuple ?_ | refine so_isiL_list ?_ | refine so_isiL_str ?_ | refine so_isiL_bool ?_ | refine so_isiL_int ?_
  | refine so_mod (by decide) ?_ | refine so_mul (mulOkL (by decide)) ?_ | refine so_div (by decide) ?_ | refine so_ixR0 (by assumption) ?_ | refine so_ixR1 (by assumption) ?_ | refine so_ixR2 (by assumption) ?_ | refine so_lenR (by assumption) ?_
  | (refine so_addL (by simp only [List.length_append, List.length_cons, List.length_nil]; omega) ?_; try simp only [List.cons_append, List.nil_append])
  | refine Exists.intro _ (And.intro rfl ?_)
  | refine And.intro (show _ ≤ 16777216 by simp only [List.length_cons, List.length_nil]; omega) ?_))
local macro_rules | `(tactic| array_get_dec) => `(tactic| repeat sizeOf_list_dec)
def m_law_edge_b : SM :=
  (sSeq (sAsg (gN 4) (eC (.str (Str.ofString "abcdefghijklmnopqrstuvwxyzabcdefghijklmnopqrstuvwxyz"))))
  (sSeq (sIf (tE (eB opEq (eV 1) (eC (.int 0)))) (sSeq (sAsg (gN 8) (eB opAdd (eC (.int 1)) (eF m_law_spoon (aC (eV 0) (aC (eC (.int 3)) aN)))))
  (sSeq (sAsg (gN 7) (eLst aN))
  (sSeq (sFor (gN 9) (wE (eB opMul (eLst (aC (eC (.int 0)) (aC (eC (.int 1)) (aC (eC (.int 2)) (aC (eC (.int 3)) (aC (eC (.int 0)) (aC (eC (.int 1)) (aC (eC (.int 4)) (aC (eC (.int 0)) (aC (eC (.int 1)) (aC (eC (.int 2)) (aC (eC (.int 3)) (aC (eC (.int 4)) aN))))))))))))) (eC (.int 4)))) (sSeq (sAsg (gN 11) (eSl (eV 4) (pE (eB opAdd (eV 3) (eB opMul (eV 8) (eV 9)))) pN))
  (sAsg (gN 7) (eB opAdd (eV 7) (eLc [12] (gN 12) (wE (eSl (eV 11) pN (pE (eV 8)))) tYes (eB opMul (eV 12) (eV 2)))))))
  (sRet (eSl (eV 7) (pE (eF m_law_spoon (aC (eV 0) (aC (eC (.int 12)) aN)))) pN))))) sNx)
  (sSeq (sIf (tE (eB opEq (eV 1) (eC (.int 1)))) (sSeq (sAsg (gN 2) (eB opIx (eLst (aC (eV 2) (aC (eB opAdd (eC (.int 8)) (eF m_law_spoon (aC (eV 0) (aC (eC (.int 5)) aN)))) aN))) (eF m_law_spoon (aC (eV 0) (aC (eC (.int 2)) aN)))))
  (sSeq (sAsg (gN 10) (eF bMin (aC (eC (.int 26)) (aC (eB opAdd (eB opDiv (eC (.int 200)) (eB opAdd (eV 2) (eC (.int 2)))) (eF m_law_spoon (aC (eV 0) (aC (eC (.int 2)) aN)))) aN))))
  (sRet (eLc [9] (gN 9) (wR1 (eC (.int 40))) tYes (eB opMul (eB opIx (eV 4) (eB opAdd (eV 3) (eB opMod (eV 9) (eV 10)))) (eV 2)))))) sNx)
  (sSeq (sAsg (gN 5) (eLc [9] (gN 9) (wR1 (eC (.int 9))) tYes (eB opMul (eB opIx (eV 4) (eB opAdd (eV 3) (eV 9))) (eC (.int 12)))))
  (sSeq (sAsg (gN 6) (eLc [9] (gN 9) (wR1 (eC (.int 21))) tYes (eB opMul (eB opIx (eV 4) (eB opAdd (eV 3) (eV 9))) (eC (.int 11)))))
  (sSeq (sAsg (gN 7) (eB opAdd (eB opAdd (eSl (eV 5) pN (pE (eC (.int 5)))) (eSl (eV 6) pN (pE (eC (.int 10))))) (eSl (eV 5) pN (pE (eC (.int 1))))))
  (sSeq (sAsg (gN 7) (eB opAdd (eB opAdd (eV 7) (eSl (eV 5) (pE (eC (.int 5))) pN)) (eSl (eV 5) pN (pE (eC (.int 1))))))
  (sSeq (sAsg (gN 7) (eB opAdd (eB opAdd (eV 7) (eSl (eV 6) (pE (eC (.int 10))) pN)) (eSl (eV 5) (pE (eC (.int 5))) pN)))
  (sRet (eSl (eV 7) (pE (eF m_law_spoon (aC (eV 0) (aC (eC (.int 2)) aN)))) pN))))))))))
def m_law_edge : FM := fn0 4 13 m_law_edge_b
def m_law_row_b : SM :=
  (sSeq (sAsg (gN 2) (eF m_law_spoon (aC (eV 0) (aC (eC (.int 8)) aN))))
  (sSeq (sAsg (gN 3) (eB opMul (eF m_law_spoon (aC (eV 0) (aC (eC (.int 2)) aN))) (eV 1)))
  (sSeq (sAsg (gN 4) (eB opIx (eLst (aC (eC (.int 40)) (aC (eF m_law_spoon (aC (eV 0) (aC (eC (.int 41)) aN))) (aC (eF m_law_spoon (aC (eV 0) (aC (eC (.int 13)) aN))) aN)))) (eF m_law_spoon (aC (eV 0) (aC (eC (.int 3)) aN)))))
  (sSeq (sAsg (gN 5) (eB opIx (eLst (aC (eC (.int 12)) (aC (eC (.int 1)) (aC (eC (.int 2)) (aC (eB opAdd (eC (.int 1)) (eF m_law_spoon (aC (eV 0) (aC (eC (.int 12)) aN)))) aN))))) (eF m_law_spoon (aC (eV 0) (aC (eC (.int 4)) aN)))))
  (sSeq (sIf (tE (eB opLt (eV 2) (eC (.int 3)))) (sRet (eSl (eF m_law_edge (aC (eV 0) (aC (eV 2) (aC (eV 5) (aC (eF m_law_spoon (aC (eV 0) (aC (eC (.int 26)) aN))) aN))))) pN (pE (eV 4)))) sNx)
  (sSeq (sAsg (gN 6) (eF m_law_unlike (aC (eV 0) (aC (eB opAdd (eC (.int 1)) (eF m_law_spoon (aC (eV 0) (aC (eB opIx (eLst (aC (eC (.int 8)) (aC (eC (.int 40)) aN))) (eV 3)) aN)))) aN))))
  (sSeq (sIf (tE (eB opEq (eV 2) (eC (.int 3)))) (sRet (eLc [8] (gN 8) (wR1 (eV 4)) tYes (eB opIx (eV 6) (eB opMod (eV 8) (eF bLen (aC (eV 6) aN)))))) sNx)
  (sRet (eLc [7] (gN 7) (wR1 (eV 4)) tYes (eB opIx (eV 6) (eF m_law_spoon (aC (eV 0) (aC (eF bLen (aC (eV 6) aN)) aN)))))))))))))
def m_law_row : FM := fn0 2 9 m_law_row_b

def WdD (d : D) : Prop := ∃ w, d = .str w ∧ IsW w
theorem wds {ys : List D} (h : ∀ y ∈ ys, WdD y) : ∃ ws, ys = ws.map D.str ∧ Words ws := by
  induction ys with
  | nil => exact ⟨[], rfl, fun _ z => nomatch z⟩
  | cons y r ih =>
    obtain ⟨ws, rfl, hw⟩ := ih fun z hz => h z (by simp [hz])
    obtain ⟨w, rfl, hy⟩ := h y (by simp)
    refine ⟨w :: ws, rfl, fun z hz => ?_⟩
    rcases List.mem_cons.mp hz with e | e
    · rw [e]; exact hy
    · exact hw z e
/-- a comprehension whose elements change nothing -/
theorem sa_LcP {own : List Nat} {k : Nat} {w : Ev → Hm → R Wk} {e : EM} {v : Ev} {h : Hm} {Q : D → Hm → Prop} {l : List D} (P : D → Prop) (hl : l.length ≤ 16777215) (hw : Sat (w v h) fun k h1 => k = ⟨l, fun _ => true⟩ ∧ h1 = h)
    (he : ∀ x ∈ l, ∀ R : D → Hm → Prop, (∀ y, P y → R y h) → Sat (e ((wipeE v own).set k (some x)) h) R) (q : ∀ ys, ys.length = l.length → (∀ y ∈ ys, P y) → Q (.lst ys) h) : Sat (eLc own (gN k) w tYes e v h) Q := by
  refine sa_Lc (hw.imp ?_)
  rintro _ _ ⟨rfl, rfl⟩
  refine ⟨hl, fun i acc h' => acc.length = i ∧ (∀ y ∈ acc, P y) ∧ h' = _, ⟨rfl, (fun _ z => nomatch z), rfl⟩, ?_, ?_⟩
  · rintro i x acc h' hx ⟨hi, hp, rfl⟩
    refine ⟨rfl, _, rfl, sa_tYes ⟨fun _ => ?_, fun z => nomatch z⟩⟩
    refine he x (List.mem_of_getElem? hx) _ fun y hy => ⟨by simp [hi], fun z hz => ?_, rfl⟩
    rcases List.mem_append.mp hz with hz | hz
    · exact hp z hz
    · rw [List.mem_singleton.mp hz]; exact hy
  · rintro acc h' ⟨hi, hp, rfl⟩
    exact ⟨rfl, q acc hi hp⟩
/-- a comprehension whose elements draw -/
theorem sa_LcDraw {own : List Nat} {k : Nat} {w : Ev → Hm → R Wk} {e : EM} {v : Ev} {h : Hm} {Q : D → Hm → Prop} {l : List D} {nb B : Nat} (c : Nat) (P : D → Prop) (hl : l.length ≤ 16777215) (hw : Sat (w v h) fun k h1 => k = ⟨l, fun _ => true⟩ ∧ h1 = h) (hb : Bow nb (B + c * l.length) h)
    (he : ∀ x ∈ l, ∀ (T : Nat) (h' : Hm) (R : D → Hm → Prop), Bow nb (T + c) h' → (∀ y h2, P y → Drew nb T h' h2 → R y h2) → Sat (e ((wipeE v own).set k (some x)) h') R) (q : ∀ ys h', ys.length = l.length → (∀ y ∈ ys, P y) → Drew nb B h h' → Q (.lst ys) h') : Sat (eLc own (gN k) w tYes e v h) Q := by
  refine sa_Lc (hw.imp ?_)
  rintro _ _ ⟨rfl, rfl⟩
  refine ⟨hl, fun i acc h' => acc.length = i ∧ (∀ y ∈ acc, P y) ∧ Drew nb (B + c * (l.length - i)) _ h', ⟨rfl, (fun _ z => nomatch z), Drew.refl hb⟩, ?_, ?_⟩
  · rintro i x acc h' hx ⟨hi, hp, hd⟩
    have hil : i < l.length := (List.getElem?_eq_some_iff.mp hx).1
    refine ⟨rfl, _, rfl, sa_tYes ⟨fun _ => ?_, fun z => nomatch z⟩⟩
    have eb : B + c * (l.length - i) = B + c * (l.length - (i + 1)) + c := by
      rw [show l.length - i = l.length - (i + 1) + 1 by omega, Nat.mul_succ]; omega
    refine he x (List.mem_of_getElem? hx) (B + c * (l.length - (i + 1))) h' _ (by rw [← eb]; exact hd.bow) fun y h2 hy hd2 => ⟨by simp [hi], fun z hz => ?_, hd.trans hd2⟩
    rcases List.mem_append.mp hz with hz | hz
    · exact hp z hz
    · rw [List.mem_singleton.mp hz]; exact hy
  · rintro acc h' ⟨hi, hp, hd⟩
    exact ⟨rfl, q acc h' hi hp (hd.le (by omega))⟩
def L52 : List Nat := (List.range 26).map (97 + ·) ++ (List.range 26).map (97 + ·)
theorem letters52 : Str.ofString "abcdefghijklmnopqrstuvwxyzabcdefghijklmnopqrstuvwxyz" = S L52 := by decide +kernel
theorem L52_small : ∀ c ∈ L52, small c := by
  unfold small
  decide
theorem L52_len : L52.length = 52 := by decide
theorem repS (c : Nat) (n : Int) : repStr (S [c]) n = S (List.replicate n.toNat c) := by
  unfold repStr S
  congr 2
  induction n.toNat with
  | zero => rfl
  | succ k ih => rw [List.replicate_succ, List.flatten_cons, ih]; rfl
theorem rep_w {c : Nat} {n : Int} (hc : small c) (h1 : 1 ≤ n) (h2 : n ≤ 12) : IsW (S (List.replicate n.toNat c)) :=
  .mk' (by simp; omega) (by simp; omega) fun z hz => by rw [List.eq_of_mem_replicate hz]; exact hc
theorem so_rep {c : Nat} {n : Int} {h : Hm} {Q : D → Hm → Prop} (hc : small c) (h1 : 1 ≤ n) (h2 : n ≤ 12) (q : ∀ d, WdD d → Q d h) : Sat (opMul (.str (S [c])) (.int n) h) Q := by
  refine so_mulS ⟨by omega, by omega, by rw [S_len]; simp; omega⟩ ?_
  rw [repS]
  exact q _ ⟨_, rfl, rep_w hc h1 h2⟩
theorem so_letter {i : Int} {h : Hm} {Q : D → Hm → Prop} (h0 : 0 ≤ i) (h1 : i < 52) (q : ∀ c, small c → Q (.str (S [c])) h) : Sat (opIx (.str (S L52)) (.int i) h) Q := by
  obtain ⟨c, ec, hc, _⟩ := atI_in (l := L52) h0 (by rw [L52_len]; omega)
  exact so_ixS (by rw [S_len, L52_len]; decide) ec (q c (L52_small c hc))
theorem w_to {ws : List Str} {i : Int} (h0 : 0 ≤ i) : cutD (ws.map D.str) none (some i) = (ws.take i.toNat).map D.str := by rw [cutD_to h0, ← List.map_take]
theorem so_wTo {ws : List Str} {i : Int} {h : Hm} {Q : D → Hm → Prop} (h0 : 0 ≤ i) (q : Q (.lst ((ws.take i.toNat).map D.str)) h) : Sat (opSl (.lst (ws.map D.str)) none (some i) h) Q := so_slL (by rw [cutD_to h0, ← List.map_take]; exact q)
theorem so_wFrom {ws : List Str} {i : Int} {h : Hm} {Q : D → Hm → Prop} (h0 : 0 ≤ i) (q : Q (.lst ((ws.drop i.toNat).map D.str)) h) : Sat (opSl (.lst (ws.map D.str)) (some i) none h) Q := so_slL (by rw [cutD_from h0, ← List.map_drop]; exact q)
theorem so_wAdd {a b : List Str} {h : Hm} {Q : D → Hm → Prop} (hl : a.length + b.length ≤ 16777216) (q : Q (.lst ((a ++ b).map D.str)) h) : Sat (opAdd (.lst (a.map D.str)) (.lst (b.map D.str)) h) Q := so_addL (by simpa using hl) (by rw [← List.map_append]; exact q)
theorem Words.app {a b : List Str} (ha : Words a) (hb : Words b) : Words (a ++ b) := fun z hz => by
  rcases List.mem_append.mp hz with hz | hz
  · exact ha z hz
  · exact hb z hz
theorem Words.take {a : List Str} {k : Nat} (ha : Words a) : Words (a.take k) := fun z hz => ha z (List.mem_of_mem_take hz)
theorem Words.drop {a : List Str} {k : Nat} (ha : Words a) : Words (a.drop k) := fun z hz => ha z (List.mem_of_mem_drop hz)
theorem edge {n B : Nat} {way size first : Int} {h : Hm} {Q : D → Hm → Prop} (w : Bow n (B + 20) h) (s1 : 1 ≤ size) (s2 : size ≤ 12) (f0 : 0 ≤ first) (f1 : first < 26) (q : ∀ ws h', Words ws → ws.length ≤ 200 → Drew n B h h' → Q (.lst (ws.map D.str)) h') : Sat (m_law_edge [.ref n, .int way, .int size, .int first] h) Q := by
  refine sa_fn rfl ?_
  unfold m_law_edge_b
  simp only [List.map_cons, List.map_nil, List.replicate, Nat.reduceSub, List.cons_append, List.nil_append, letters52]
  array_get_dec
  refine ⟨fun _ => ?_, fun _ => ?_⟩
  · array_get_dec
    refine spoon w (by decide) (by decide) fun g0 h1 g1 g2 d1 => ?_
    array_get_dec
    refine ss_forL (l := (List.replicate (4 : Int).toNat [D.int 0, .int 1, .int 2, .int 3, .int 0, .int 1, .int 4, .int 0, .int 1, .int 2, .int 3, .int 4]).flatten) (fun i v h' => h' = h1 ∧ ∃ (ws : List Str) (x9 x10 x11 x12 : Option D), Words ws ∧ ws.length ≤ 3 * i ∧ v = [some (.ref n), some (.int way), some (.int size), some (.int first), some (.str (S L52)), none, none, some (.lst (ws.map D.str)), some (.int (1 + g0)), x9, x10, x11, x12]) (by
      array_get_dec
      refine so_mulL (by decide) ?_
      exact so_wkL ⟨rfl, rfl⟩) ⟨rfl, [], _, _, _, _, (fun _ z => nomatch z), Nat.le_refl _, rfl⟩ ?_ ?_
    · rintro i x v h' hx ⟨rfl, ws, x9, x10, x11, x12, hws, hl, rfl⟩
      have hx2 : IntIn 0 4 x := by
        have hm := List.mem_of_getElem? hx
        have hall : ∀ d ∈ (List.replicate (4 : Int).toNat [D.int 0, .int 1, .int 2, .int 3, .int 0, .int 1, .int 4, .int 0, .int 1, .int 2, .int 3, .int 4]).flatten, IntIn 0 4 d := by
          intro d hd
          obtain ⟨l, hl, hdl⟩ := List.mem_flatten.mp hd
          rw [List.eq_of_mem_replicate hl] at hdl
          revert d
          suffices ∀ d ∈ [D.int 0, .int 1, .int 2, .int 3, .int 0, .int 1, .int 4, .int 0, .int 1, .int 2, .int 3, .int 4], IntIn 0 4 d from fun d _ hd => this d hd
          repeat refine all_cons (.mk (by decide) (by decide)) ?_
          exact all_nil
        exact hall x hm
      have hi : i < 48 := by
        have := (List.getElem?_eq_some_iff.mp hx).1
        simpa using this
      obtain ⟨at_, rfl, t0, t1⟩ := hx2
      refine ⟨_, rfl, ?_⟩
      simp only [List.set_cons_zero, List.set_cons_succ]
      array_get_dec
      refine so_mul (mulOkL ⟨by omega, by omega⟩) ?_
      array_get_dec
      refine so_slS (by rw [S_len, L52_len]; decide) ?_
      have hmul : 0 ≤ (1 + g0) * at_ := Int.mul_nonneg (by omega) t0
      rw [cut_from (by omega)]
      array_get_dec
      refine sa_LcP (l := ((L52.drop (first + (1 + g0) * at_).toNat).take (1 + g0).toNat).map fun c => .str (S [c])) WdD (by simp; omega) (by
        array_get_dec
        refine so_slS (by rw [S_len, List.length_drop, L52_len]; omega) ?_
        rw [cut_to (by omega)]
        exact so_wkS ⟨rfl, rfl⟩) ?_ ?_
      · intro x hx R r
        obtain ⟨c, hc, rfl⟩ := List.mem_map.mp hx
        simp only [wipeE, List.foldr, List.set_cons_zero, List.set_cons_succ]
        array_get_dec
        exact so_rep (L52_small c (List.mem_of_mem_drop (List.mem_of_mem_take hc))) s1 s2 r
      · intro ys hy hp
        obtain ⟨ws2, rfl, hw2⟩ := wds hp
        have hl2 : ws2.length ≤ 3 := by
          have : ws2.length = min (1 + g0).toNat (L52.length - (first + (1 + g0) * at_).toNat) := by simpa using hy
          omega
        refine so_addL (by simp; omega) ?_
        rw [← List.map_append]
        refine ⟨rfl, ws ++ ws2, _, _, _, _, fun z hz => ?_, by simp; omega, rfl⟩
        rcases List.mem_append.mp hz with hz | hz
        · exact hws z hz
        · exact hw2 z hz
    · rintro v h' ⟨rfl, ws, x9, x10, x11, x12, hws, hl, rfl⟩
      have hl : ws.length ≤ 144 := by simpa using hl
      array_get_dec
      refine spoon d1.bow (by decide) (by decide) fun k h2 k1 k2 d2 => ?_
      refine ⟨_, rfl, ?_⟩
      array_get_dec
      refine so_slL ?_
      rw [cutD_from k1, ← List.map_drop]
      exact q _ _ (fun z hz => hws z (List.mem_of_mem_drop hz)) (by simp; omega) ((d1.trans d2).le (by omega))
  · array_get_dec
    refine ⟨fun _ => ?_, fun _ => ?_⟩
    · array_get_dec
      refine spoon w (by decide) (by decide) fun g0 h1 g1 g2 d1 => ?_
      array_get_dec
      refine spoon d1.bow (by decide) (by decide) fun k0 h2 k1 k2 d2 => ?_
      array_get_dec
      refine so_ixP (IntIn 1 12) (by
        repeat refine all_cons (.mk (by omega) (by omega)) ?_
        exact all_nil) k1 (by simpa using k2) ?_
      rintro _ ⟨sz, rfl, z1, z2⟩
      array_get_dec
      refine so_div ⟨by omega, by omega⟩ ?_
      array_get_dec
      refine spoon d2.bow (by decide) (by decide) fun j0 h3 j1 j2 d3 => ?_
      array_get_dec
      have hq : 1 ≤ 200 / (sz + 2) := Int.le_ediv_of_mul_le (by omega) (by omega)
      generalize 200 / (sz + 2) = qq at hq
      refine sa_LcP (l := (List.range (40 : Int).toNat).map fun (k : Nat) => .int (k : Int)) WdD (by simp) (by
        array_get_dec
        exact ⟨by omega, by omega, rfl, rfl⟩) ?_ ?_
      · intro x hx R r
        obtain ⟨k, hk, rfl⟩ := List.mem_map.mp hx
        simp only [wipeE, List.foldr, List.set_cons_zero, List.set_cons_succ]
        array_get_dec
        have m0 : 0 < min 26 (qq + j0) := by omega
        refine so_mod m0 ?_
        array_get_dec
        have e1 := Int.emod_nonneg (k : Int) (show min 26 (qq + j0) ≠ 0 by omega)
        have e2 := Int.emod_lt_of_pos (k : Int) m0
        refine so_letter (by omega) (by omega) fun c hc => ?_
        array_get_dec
        exact so_rep hc z1 z2 r
      · intro ys hy hp
        obtain ⟨ws2, rfl, hw2⟩ := wds hp
        refine q ws2 h3 hw2 ?_ (((d1.trans d2).trans d3).le (by omega))
        have : ws2.length = 40 := by simpa using hy
        omega
    · array_get_dec
      refine sa_LcP (l := (List.range (9 : Int).toNat).map fun (k : Nat) => .int (k : Int)) WdD (by simp) (by
        array_get_dec
        exact ⟨by omega, by omega, rfl, rfl⟩) ?_ ?_
      · intro x hx R r
        obtain ⟨k, hk, rfl⟩ := List.mem_map.mp hx
        have hk : k < 9 := by simpa using hk
        simp only [wipeE, List.foldr, List.set_cons_zero, List.set_cons_succ]
        array_get_dec
        refine so_letter (by omega) (by omega) fun c hc => ?_
        array_get_dec
        exact so_rep hc (by decide) (by decide) r
      intro ys hy hp
      obtain ⟨twelve, rfl, w12⟩ := wds hp
      have l12 : twelve.length = 9 := by simpa using hy
      array_get_dec
      refine sa_LcP (l := (List.range (21 : Int).toNat).map fun (k : Nat) => .int (k : Int)) WdD (by simp) (by
        array_get_dec
        exact ⟨by omega, by omega, rfl, rfl⟩) ?_ ?_
      · intro x hx R r
        obtain ⟨k, hk, rfl⟩ := List.mem_map.mp hx
        have hk : k < 21 := by simpa using hk
        simp only [wipeE, List.foldr, List.set_cons_zero, List.set_cons_succ]
        array_get_dec
        refine so_letter (by omega) (by omega) fun c hc => ?_
        array_get_dec
        exact so_rep hc (by decide) (by decide) r
      intro ys hy hp
      obtain ⟨eleven, rfl, w11⟩ := wds hp
      have l11 : eleven.length = 21 := by simpa using hy
      array_get_dec
      refine so_wTo (by decide) ?_
      array_get_dec
      refine so_wTo (by decide) ?_
      refine so_wAdd (by simp; omega) ?_
      array_get_dec
      refine so_wTo (by decide) ?_
      refine so_wAdd (by simp; omega) ?_
      array_get_dec
      refine so_wFrom (by decide) ?_
      refine so_wAdd (by simp; omega) ?_
      array_get_dec
      refine so_wTo (by decide) ?_
      refine so_wAdd (by simp; omega) ?_
      array_get_dec
      refine so_wFrom (by decide) ?_
      refine so_wAdd (by simp; omega) ?_
      array_get_dec
      refine so_wFrom (by decide) ?_
      refine so_wAdd (by simp; omega) ?_
      array_get_dec
      refine spoon w (by decide) (by decide) fun g0 h1 g1 g2 d1 => ?_
      refine ⟨_, rfl, ?_⟩
      array_get_dec
      refine so_wFrom g1 ?_
      exact q _ _ (((((((w12.take).app w11.take).app w12.take).app w12.drop).app w12.take).app w11.drop).app w12.drop).drop (by simp; omega) (d1.le (by omega))
theorem row {n B : Nat} {great : Int} {h : Hm} {Q : D → Hm → Prop} (hg : 0 ≤ great ∧ great ≤ 1) (w : Bow n (B + 2000) h) (q : ∀ ws h', Words ws → ws.length ≤ 200 → Drew n B h h' → Q (.lst (ws.map D.str)) h') : Sat (m_law_row [.ref n, .int great] h) Q := by
  refine sa_fn rfl ?_
  unfold m_law_row_b
  simp only [List.map_cons, List.map_nil, List.replicate, Nat.reduceSub, List.cons_append, List.nil_append]
  array_get_dec
  refine spoon w (by decide) (by decide) fun way h1 a1 a2 d1 => ?_
  array_get_dec
  refine spoon d1.bow (by decide) (by decide) fun k0 h2 b1 b2 d2 => ?_
  array_get_dec
  refine so_mul (mulOkL ⟨by omega, by omega⟩) ?_
  have hk : 0 ≤ k0 * great ∧ k0 * great ≤ 1 := by
    have h3 : k0 = 0 ∨ k0 = 1 := by omega
    rcases h3 with e | e <;> subst e <;> omega
  generalize k0 * great = kind at hk
  array_get_dec
  refine spoon d2.bow (by decide) (by decide) fun p1 h3 c1 c2 d3 => ?_
  array_get_dec
  refine spoon d3.bow (by decide) (by decide) fun p2 h4 e1 e2 d4 => ?_
  array_get_dec
  refine spoon d4.bow (by decide) (by decide) fun p3 h5 f1 f2 d5 => ?_
  array_get_dec
  refine so_ixP (IntIn 0 40) (by
    repeat refine all_cons (.mk (by omega) (by omega)) ?_
    exact all_nil) f1 (by simpa using f2) ?_
  rintro _ ⟨many, rfl, m1, m2⟩
  array_get_dec
  refine spoon d5.bow (by decide) (by decide) fun p4 h6 g1 g2 d6 => ?_
  array_get_dec
  refine spoon d6.bow (by decide) (by decide) fun p5 h7 i1 i2 d7 => ?_
  array_get_dec
  refine so_ixP (IntIn 1 12) (by
    repeat refine all_cons (.mk (by omega) (by omega)) ?_
    exact all_nil) i1 (by simpa using i2) ?_
  rintro _ ⟨size, rfl, z1, z2⟩
  array_get_dec
  have dd := (((((d1.trans d2).trans d3).trans d4).trans d5).trans d6).trans d7
  refine ⟨fun _ => ?_, fun _ => ?_⟩
  · array_get_dec
    refine spoon d7.bow (by decide) (by decide) fun p6 h8 j1 j2 d8 => ?_
    array_get_dec
    refine edge (B := B) (d8.bow.le (by omega)) z1 z2 j1 j2 fun ws h9 hw hl d9 => ?_
    array_get_dec
    refine so_slL ?_
    rw [w_to m1]
    exact q _ _ hw.take (by simp; omega) ((dd.trans d8).trans d9)
  · array_get_dec
    refine so_ixP (IntIn 8 40) (by
      repeat refine all_cons (.mk (by omega) (by omega)) ?_
      exact all_nil) hk.1 (by simp; omega) ?_
    rintro _ ⟨top, rfl, t1, t2⟩
    array_get_dec
    refine spoon d7.bow (by omega) (by omega) fun p6 h8 j1 j2 d8 => ?_
    array_get_dec
    refine unlike (B := B + 50) (by omega) (by omega) (d8.bow.le (by omega)) fun ws h9 hl hw hnd d9 => ?_
    array_get_dec
    have hwd : ∀ d ∈ ws.map D.str, WdD d := fun d hd => by
      obtain ⟨z, hz, rfl⟩ := List.mem_map.mp hd
      exact ⟨z, rfl, hw z hz⟩
    have hlen : (ws.map D.str).length = (1 + p6).toNat := by rw [List.length_map]; exact hl
    generalize ws.map D.str = ds at hwd hlen
    refine ⟨fun _ => ?_, fun _ => ?_⟩
    · array_get_dec
      refine sa_LcP (l := (List.range many.toNat).map fun (k : Nat) => .int (k : Int)) WdD (by simp; omega) (by
        array_get_dec
        exact ⟨by omega, by omega, rfl, rfl⟩) ?_ ?_
      · intro x hx R r
        obtain ⟨k, hk, rfl⟩ := List.mem_map.mp hx
        simp only [wipeE, List.foldr, List.set_cons_zero, List.set_cons_succ]
        array_get_dec
        have m0 : (0 : Int) < (ds.length : Int) := by omega
        refine so_mod m0 ?_
        exact so_ixP WdD hwd (Int.emod_nonneg _ (by omega)) (Int.emod_lt_of_pos _ m0) r
      · intro ys hy hp
        obtain ⟨ws2, rfl, hw2⟩ := wds hp
        refine q ws2 h9 hw2 ?_ (((dd.trans d8).trans d9).le (by omega))
        have : ws2.length = many.toNat := by simpa using hy
        omega
    · array_get_dec
      refine sa_LcDraw (l := (List.range many.toNat).map fun (k : Nat) => .int (k : Int)) (nb := n) (B := B) 1 WdD (by simp; omega) (by
        array_get_dec
        exact ⟨by omega, by omega, rfl, rfl⟩) (d9.bow.le (by simp; omega)) ?_ ?_
      · intro x hx T h' R hb r
        obtain ⟨k, hk, rfl⟩ := List.mem_map.mp hx
        simp only [wipeE, List.foldr, List.set_cons_zero, List.set_cons_succ]
        array_get_dec
        refine spoon hb (by omega) (by omega) fun p7 h10 l1 l2 d10 => ?_
        exact so_ixP WdD hwd l1 l2 fun y hy => r y _ hy d10
      · intro ys h10 hy hp d10
        obtain ⟨ws2, rfl, hw2⟩ := wds hp
        refine q ws2 h10 hw2 ?_ ((dd.trans d8).trans d9 |>.trans d10)
        have : ws2.length = many.toNat := by simpa using hy
        omega
theorem okL_strs {ws : List Str} (hw : ∀ w ∈ ws, PyData.strOk w = true) : D.okL 63 (ws.map D.str) = true := by
  induction ws with
  | nil => rfl
  | cons a r ih =>
    simp only [List.map_cons, D.okL, D.okN, Bool.and_eq_true]
    exact ⟨hw a (by simp), ih fun w hw' => hw w (by simp [hw'])⟩
theorem eqbL_strs (ws : List Str) : D.eqbL (ws.map D.str) (ws.map D.str) = true := by
  induction ws with
  | nil => rfl
  | cons a r ih => simp [D.eqbL, D.eqb, ih]
theorem so_neWords {ws : List Str} {h : Hm} {Q : D → Hm → Prop} (hw : Words ws) (q : Q (.bl false) h) : Sat (opNe (.lst (ws.map D.str)) (.lst (ws.map D.str)) h) Q := by
  refine so_neD rfl (okL_strs hw.ok) (okL_strs hw.ok) ?_
  rw [show D.eqb (dr h (.lst (ws.map D.str))) (dr h (.lst (ws.map D.str))) = true from eqbL_strs ws]
  exact q
end Lw

/-! LibH: likeness of lists that may change. -/
set_option Elab.async false
set_option linter.all false
set_option maxRecDepth 100000
set_option maxHeartbeats 4000000
namespace Lw
open PySem Dn
local macro_rules | `(tactic| sizeOf_list_dec) => `(tactic| with_reducible (first
  | refine sa_V0 ?_ | refine sa_V1 ?_ | refine sa_V2 ?_ | refine sa_V3 ?_ | refine sa_V4 ?_ | refine sa_V5 ?_ | refine sa_V6 ?_ | refine sa_V7 ?_ | refine sa_V8 ?_ | refine sa_V9 ?_ | refine sa_V10 ?_ | refine sa_V11 ?_ | refine sa_V12 ?_ | refine sa_V13 ?_ | refine sa_V14 ?_ | refine sa_V15 ?_ | refine sa_C ?_ | refine sa_B ?_ | refine sa_U ?_ | refine sa_F ?_ | refine sa_aN ?_ | refine sa_aC ?_ | refine sa_tup ?_ | refine sa_lst ?_ | refine sa_new ?_ | refine sa_tE ?_ | refine sa_If ?_ | refine sa_And ?_ | refine sa_Or ?_ | refine sa_Not ?_ | refine sa_tAnd ?_ | refine sa_tOr ?_ | refine sa_tNot ?_ | refine sa_chain ?_ | refine sa_M ?_ | refine sa_Sl ?_ | refine sa_SlN ?_ | refine sa_pN ?_ | refine sa_pE ?_ | refine sa_wE ?_ | refine sa_wR1 ?_ | refine sa_wR2 ?_ | refine sa_tYes ?_ | refine ss_nx ?_ | refine ss_seq ?_ | refine ss_asg0 ?_ | refine ss_asg1 ?_ | refine ss_asg2 ?_ | refine ss_asg3 ?_ | refine ss_asg4 ?_ | refine ss_asg5 ?_ | refine ss_asg6 ?_ | refine ss_asg7 ?_ | refine ss_asg8 ?_ | refine ss_asg9 ?_ | refine ss_asg10 ?_ | refine ss_asg11 ?_ | refine ss_asg12 ?_ | refine ss_asg13 ?_ | refine ss_asg14 ?_ | refine ss_asg15 ?_ | refine ss_expr ?_ | refine ss_ret ?_ | refine ss_retN ?_ | refine ss_if ?_ | refine ss_put ?_ | refine ss_bk ?_ | refine ss_ct ?_ | refine so_add ?_ | refine so_sub ?_ | refine so_lt ?_ | refine so_le ?_ | refine so_gt ?_ | refine so_ge ?_ | refine so_eqI ?_ | refine so_neI ?_ | refine so_eqS ?_ | refine so_neS ?_ | refine so_eqB ?_ | refine so_neB ?_ | refine so_isN ?_ | refine so_notN ?_ | refine so_len ?_ | refine so_lenT ?_ | refine so_lenC ?_ | refine so_max ?_ | refine so_min ?_ | refine so_intI ?_ | refine so_intB ?_ | refine so_ixL0 ?_ | refine so_ixL1 ?_ | refine so_ixL2 ?_ | refine so_ixL3 ?_ | refine so_ixL4 ?_ | refine so_ixL5 ?_ | refine so_ixT0 ?_ | refine so_ixT1 ?_ | refine so_ixT2 ?_ | refine so_ixT3 ?_ | refine so_ixT4 ?_ | refine so_ixT5 ?_
  | refine so_isiI_tuple ?_ | refine so_isiI_list ?_ | refine so_isiI_str ?_ | refine so_isiI_bool ?_ | refine so_isiI_int ?_ | refine so_isiS_tuple ?_ | refine so_isiS_list ?_ | refine so_isiS_str ?_ | refine so_isiS_bool ?_ | refine so_isiS_int ?_ | refine so_isiB_tuple ?_ | refine so_isiB_list ?_ | refine so_isiB_str ?_ | refine so_isiB_bool ?_ | refine so_isiB_int ?_ | refine so_isiN_tuple ?_ | refine so_isiN_list ?_ | refine so_isiN_str ?_ | refine so_isiN_bool ?_ | refine so_isiN_int ?_ | refine so_isiT_tuple ?_ | refine so_isiT_list ?_ | refine so_isiT_str ?_ | refine so_isiT_bool ?_ | refine so_isiT_int ?_ | refine so_isiL_tuple ?_ | refine so_isiL_list ?_ | refine so_isiL_str ?_ | refine so_isiL_bool ?_ | refine so_isiL_int ?_
  | refine so_mod (by decide) ?_ | refine so_mul (mulOkL (by decide)) ?_ | refine so_div (by decide) ?_ | refine so_ixR0 (by assumption) ?_ | refine so_ixR1 (by assumption) ?_ | refine so_ixR2 (by assumption) ?_ | refine so_lenR (by assumption) ?_
  | (refine so_addL (by simp only [List.length_append, List.length_cons, List.length_nil]; omega) ?_; try simp only [List.cons_append, List.nil_append])
  | refine Exists.intro _ (And.intro rfl ?_)
  | refine And.intro (show _ ≤ 16777216 by simp only [List.length_cons, List.length_nil]; omega) ?_))
local macro_rules | `(tactic| array_get_dec) => `(tactic| repeat sizeOf_list_dec)
/-- d is a list with these items -/
def IsL (h : Hm) (d : D) (l : List D) : Prop := d = .lst l ∨ ∃ n, d = .ref n ∧ h[n]? = some (.lst l)
section
variable {h : Hm} {d : D} {l : List D} {Q : D → Hm → Prop}
theorem IsL.isi (e : IsL h d l) {T : String} (q : Q (.bl (isTy "list" T)) h) : Sat (isi T d h) Q := by
  rcases e with rfl | ⟨n, rfl, e⟩
  · exact so_isi (t := "list") rfl q
  · exact so_isiR e q
theorem IsL.ituple (e : IsL h d l) (q : Q (.bl false) h) : Sat (Dn.isi "tuple" d h) Q := e.isi (by rw [show isTy "list" "tuple" = false by decide]; exact q)
theorem IsL.ilist (e : IsL h d l) (q : Q (.bl true) h) : Sat (Dn.isi "list" d h) Q := e.isi (by rw [show isTy "list" "list" = true by decide]; exact q)
theorem IsL.istr (e : IsL h d l) (q : Q (.bl false) h) : Sat (Dn.isi "str" d h) Q := e.isi (by rw [show isTy "list" "str" = false by decide]; exact q)
theorem IsL.ibool (e : IsL h d l) (q : Q (.bl false) h) : Sat (Dn.isi "bool" d h) Q := e.isi (by rw [show isTy "list" "bool" = false by decide]; exact q)
theorem IsL.non (e : IsL h d l) : D.eqb d .non = false := by
  rcases e with rfl | ⟨n, rfl, e⟩ <;> rfl
theorem IsL.len (e : IsL h d l) (q : Q (.int l.length) h) : Sat (bLen [d] h) Q := by
  rcases e with rfl | ⟨n, rfl, e⟩
  · exact so_len q
  · exact so_lenR e q
theorem IsL.ix (e : IsL h d l) {i : Nat} {x : D} (ex : l[i]? = some x) (q : Q x h) : Sat (opIx d (.int i) h) Q := by
  rcases e with rfl | ⟨n, rfl, e⟩
  · exact so_ixL (atI_nat ex) q
  · exact so_ixR e (atI_nat ex) q
end
theorem same_lst {n : Nat} {l : List D} {d1 d2 : D} {h : Hm} {Q : D → Hm → Prop} (e1 : IsL h d1 l) (e2 : IsL h d2 l) (hl : l.length ≤ 16777215) (hp : ∀ x ∈ l, Pl n x) (q : Q (.bl true) h) : Sat (m_law_same (n + 1) [d1, d2] h) Q := by
  refine sa_fn rfl ?_
  unfold m_law_same_b
  simp only [List.map_cons, List.map_nil, List.replicate, Nat.reduceSub, List.cons_append, List.nil_append]
  array_get_dec
  refine e1.ituple ?_
  array_get_dec
  refine e1.ilist ?_
  array_get_dec
  refine e1.istr ?_
  array_get_dec
  refine e1.ibool ?_
  array_get_dec
  refine e2.ituple ?_
  array_get_dec
  refine e2.ilist ?_
  array_get_dec
  refine e2.istr ?_
  array_get_dec
  refine e2.ibool ?_
  array_get_dec
  rw [e1.non, e2.non]
  refine so_neD rfl rfl rfl ?_
  refine ⟨_, rfl, fun hc => ?_, fun _ => ?_⟩
  · simp [dr, lsOf, D.eqb, D.eqbL] at hc
  array_get_dec
  refine ⟨fun _ => ?_, fun hc => nomatch hc⟩
  array_get_dec
  refine ⟨(fun hc => nomatch hc), fun _ => ?_⟩
  array_get_dec
  refine e1.len ?_
  array_get_dec
  refine e2.len ?_
  array_get_dec
  refine ⟨fun hc => ?_, fun _ => ?_⟩
  · simp at hc
  array_get_dec
  refine sa_Lc ?_
  array_get_dec
  refine e1.len ⟨_, rfl, by omega, by omega, ?_⟩
  refine ⟨by simp; omega, fun i acc h' => acc = List.replicate i (.bl true) ∧ h' = h, ⟨rfl, rfl⟩, ?_, ?_⟩
  · rintro i x acc h' hx ⟨rfl, rfl⟩
    have hi : i < l.length := by
      have := (List.getElem?_eq_some_iff.mp hx).1
      simpa using this
    have hxe : x = .int i := by
      simp [hi] at hx; exact hx.symm
    subst hxe
    refine ⟨rfl, _, rfl, ?_⟩
    simp only [wipeE, List.foldr, List.set_cons_zero, List.set_cons_succ]
    array_get_dec
    refine ⟨fun _ => ?_, fun z => nomatch z⟩
    array_get_dec
    have ex : l[i]? = some l[i] := List.getElem?_eq_getElem hi
    refine e1.ix ex ?_
    array_get_dec
    refine e2.ix ex ?_
    array_get_dec
    refine same n _ _ _ (hp _ (List.getElem_mem hi)) ⟨?_, rfl⟩
    rw [List.replicate_succ']
  · rintro acc h' ⟨rfl, rfl⟩
    refine ⟨rfl, so_notInF ?_ ?_⟩
    · simp [flatD]
    · have e : ((List.replicate ((List.range ((l.length : Int)).toNat).map fun (i : Nat) => D.int (i : Int)).length (D.bl true)).any fun z => D.eqb z (.bl false)) = false := by
        rw [List.any_eq_false]
        intro z hz
        rw [List.eq_of_mem_replicate hz]
        decide
      rw [e]; exact q
end Lw

/-! LibI: books. -/
set_option Elab.async false
set_option linter.all false
set_option maxRecDepth 100000
set_option maxHeartbeats 4000000
namespace Lw
open PySem Dn
local macro_rules | `(tactic| sizeOf_list_dec) => `(tactic| with_reducible (first
  | refine sa_V0 ?_ | refine sa_V1 ?_ | refine sa_V2 ?_ | refine sa_V3 ?_ | refine sa_V4 ?_ | refine sa_V5 ?_ | refine sa_V6 ?_ | refine sa_V7 ?_ | refine sa_V8 ?_ | refine sa_V9 ?_ | refine sa_V10 ?_ | refine sa_V11 ?_ | refine sa_V12 ?_ | refine sa_V13 ?_ | refine sa_V14 ?_ | refine sa_V15 ?_ | refine sa_C ?_ | refine sa_B ?_ | refine sa_U ?_ | refine sa_F ?_ | refine sa_aN ?_ | refine sa_aC ?_ | refine sa_tup ?_ | refine sa_lst ?_ | refine sa_new ?_ | refine sa_tE ?_ | refine sa_If ?_ | refine sa_And ?_ | refine sa_Or ?_ | refine sa_Not ?_ | refine sa_tAnd ?_ | refine sa_tOr ?_ | refine sa_tNot ?_ | refine sa_chain ?_ | refine sa_M ?_ | refine sa_Sl ?_ | refine sa_SlN ?_ | refine sa_pN ?_ | refine sa_pE ?_ | refine sa_wE ?_ | refine sa_wR1 ?_ | refine sa_wR2 ?_ | refine sa_tYes ?_ | refine ss_nx ?_ | refine ss_seq ?_ | refine ss_asg0 ?_ | refine ss_asg1 ?_ | refine ss_asg2 ?_ | refine ss_asg3 ?_ | refine ss_asg4 ?_ | refine ss_asg5 ?_ | refine ss_asg6 ?_ | refine ss_asg7 ?_ | refine ss_asg8 ?_ | refine ss_asg9 ?_ | refine ss_asg10 ?_ | refine ss_asg11 ?_ | refine ss_asg12 ?_ | refine ss_asg13 ?_ | refine ss_asg14 ?_ | refine ss_asg15 ?_ | refine ss_expr ?_ | refine ss_ret ?_ | refine ss_retN ?_ | refine ss_if ?_ | refine ss_put ?_ | refine ss_bk ?_ | refine ss_ct ?_ | refine so_add ?_ | refine so_sub ?_ | refine so_lt ?_ | refine so_le ?_ | refine so_gt ?_ | refine so_ge ?_ | refine so_eqI ?_ | refine so_neI ?_ | refine so_eqS ?_ | refine so_neS ?_ | refine so_eqB ?_ | refine so_neB ?_ | refine so_isN ?_ | refine so_notN ?_ | refine so_len ?_ | refine so_lenT ?_ | refine so_lenC ?_ | refine so_max ?_ | refine so_min ?_ | refine so_intI ?_ | refine so_intB ?_ | refine so_ixL0 ?_ | refine so_ixL1 ?_ | refine so_ixL2 ?_ | refine so_ixL3 ?_ | refine so_ixL4 ?_ | refine so_ixL5 ?_ | refine so_ixT0 ?_ | refine so_ixT1 ?_ | refine so_ixT2 ?_ | refine so_ixT3 ?_ | refine so_ixT4 ?_ | refine so_ixT5 ?_
  | refine so_isiI_tuple ?_ | refine so_isiI_list ?_ | refine so_isiI_str ?_ | refine so_isiI_bool ?_ | refine so_isiI_int ?_ | refine so_isiS_tuple ?_ | refine so_isiS_list ?_ | refine so_isiS_str ?_ | refine so_isiS_bool ?_ | refine so_isiS_int ?_ | refine so_isiB_tuple ?_ | refine so_isiB_list ?_ | refine so_isiB_str ?_ | refine so_isiB_bool ?_ | refine so_isiB_int ?_ | refine so_isiN_tuple ?_ | refine so_isiN_list ?_ | refine so_isiN_str ?_ | refine so_isiN_bool ?_ | refine so_isiN_int ?_ | refine so_isiT_tuple ?_ | refine so_isiT_list ?_ | refine so_isiT_str ?_ | refine so_isiT_bool ?_ | refine so_isiT_int ?_ | refine so_isiL_tuple ?_ | refine so_isiL_list ?_ | refine so_isiL_str ?_ | refine so_isiL_bool ?_ | refine so_isiL_int ?_
  | refine so_mod (by decide) ?_ | refine so_mul (mulOkL (by decide)) ?_ | refine so_div (by decide) ?_ | refine so_ixR0 (by assumption) ?_ | refine so_ixR1 (by assumption) ?_ | refine so_ixR2 (by assumption) ?_ | refine so_lenR (by assumption) ?_
  | (refine so_addL (by simp only [List.length_append, List.length_cons, List.length_nil]; omega) ?_; try simp only [List.cons_append, List.nil_append])
  | refine Exists.intro _ (And.intro rfl ?_)
  | refine And.intro (show _ ≤ 16777216 by simp only [List.length_cons, List.length_nil]; omega) ?_))
local macro_rules | `(tactic| array_get_dec) => `(tactic| repeat sizeOf_list_dec)
def m_weight_of_b : SM :=
  (sRet (eF bSum (aC (eLc [1] (gN 1) (wE (eV 0)) tYes (eF m_weight (aC (eV 1) aN))) aN)))
def m_weight_of : FM := fn0 1 2 m_weight_of_b
def m_next_number_b : SM :=
  (sRet (eB opAdd (eB opIx (eV 0) (eC (.int 1))) (eF bLen (aC (eB opIx (eV 0) (eC (.int 2))) aN))))
def m_next_number : FM := fn0 1 1 m_next_number_b
def m_left_in_b : SM :=
  (sSeq (sAsg (gN 3) (eC (.int 0)))
  (sSeq (sAsg (gN 4) (eF m_weight_of (aC (eV 2) aN)))
  (sSeq (sWh (tE (eB opGt (eV 4) (eV 0))) (sSeq (sAsg (gN 4) (eB opSub (eV 4) (eF m_weight (aC (eB opIx (eV 2) (eV 3)) aN))))
  (sAsg (gN 3) (eB opAdd (eV 3) (eC (.int 1))))))
  (sRet (eTup (aC (eV 0) (aC (eB opAdd (eV 1) (eV 3)) (aC (eSl (eV 2) (pE (eV 3)) pN) aN))))))))
def m_left_in : FM := fn0 3 5 m_left_in_b
def m_law_heavy_b : SM :=
  (sRet (eF bSum (aC (eLc [1] (gN 1) (wE (eV 0)) tYes (eB opAdd (eF bLen (aC (eV 1) aN)) (eC (.int 2)))) aN)))
def m_law_heavy : FM := fn0 1 2 m_law_heavy_b
def m_law_fitted_b : SM :=
  (sSeq (sAsg (gN 3) (eC (.int 0)))
  (sSeq (sWh (tE (eB opGt (eF m_law_heavy (aC (eSl (eV 2) (pE (eV 3)) pN) aN)) (eV 0))) (sAsg (gN 3) (eB opAdd (eV 3) (eC (.int 1)))))
  (sRet (eTup (aC (eV 0) (aC (eB opAdd (eV 1) (eV 3)) (aC (eF bTuple (aC (eSl (eV 2) (pE (eV 3)) pN) aN)) aN)))))))
def m_law_fitted : FM := fn0 3 4 m_law_fitted_b

/-- a book's value -/
def bookD (room first : Int) (ws : List Str) : D := .tup [.int room, .int first, .tup (ws.map D.str)]
theorem sum_wt (ws : List Str) : (ws.map wt).sum = sumW ws := by
  induction ws with
  | nil => rfl
  | cons a r ih => simp only [List.map_cons, List.sum_cons, sumW, ih]
/-- what stays of the words in the room -/
def stay (room : Int) (ws : List Str) : List Str := fit room 0 ws
theorem fit_drop (room x : Int) : ∀ ws : List Str, fit room x ws = ws.drop (ws.length - (fit room x ws).length)
  | [] => rfl
  | a :: r => by
    rw [fit]
    split
    · have h1 := fit_drop room x r
      have h2 := fit_len (room := room) (x := x) (k := r)
      rw [List.length_cons, show r.length + 1 - (fit room x r).length = (r.length - (fit room x r).length) + 1 by omega, List.drop_succ_cons]
      exact h1
    · simp
theorem weight_of {t : List D → D} {ws : List Str} {h : Hm} {Q : D → Hm → Prop} (ht : t = D.tup ∨ t = D.lst) (hs : Short ws) (hl : ws.length ≤ 16777215) (q : Q (.int (sumW ws)) h) : Sat (m_weight_of [t (ws.map D.str)] h) Q := by
  refine sa_fn rfl ?_
  unfold m_weight_of_b
  simp only [List.map_cons, List.map_nil, List.replicate, Nat.reduceSub, List.cons_append, List.nil_append]
  array_get_dec
  refine sa_LcMap (l := ws.map D.str) (fun x => match x with
    | .str w => .int (wt w)
    | _ => .non) (by simpa using hl) (by
      array_get_dec
      rcases ht with rfl | rfl
      · exact so_wkT ⟨rfl, rfl⟩
      · exact so_wkL ⟨rfl, rfl⟩) ?_ ?_
  · intro x hx P p
    obtain ⟨w, hw, rfl⟩ := List.mem_map.mp hx
    simp only [wipeE, List.foldr, List.set_cons_zero, List.set_cons_succ]
    array_get_dec
    exact weight (hs w hw) p
  · array_get_dec
    rw [show (ws.map D.str).map (fun x => match x with
      | .str w => .int (wt w)
      | _ => .non) = (ws.map wt).map D.int by simp]
    exact so_sum (by rw [sum_wt]; exact q)
theorem next_number {room first : Int} {ws : List Str} {h : Hm} {Q : D → Hm → Prop} (q : Q (.int (first + ws.length)) h) : Sat (m_next_number [bookD room first ws] h) Q := by
  refine sa_fn rfl ?_
  unfold m_next_number_b bookD
  simp only [List.map_cons, List.map_nil, List.replicate, Nat.reduceSub, List.cons_append, List.nil_append]
  array_get_dec
  rw [List.length_map]
  exact q
theorem cutT_from {ws : List Str} {g : Nat} : cutD (ws.map D.str) (some (g : Int)) none = (ws.drop g).map D.str := by
  rw [cutD_from (by omega), ← List.map_drop]; rfl
theorem left_in {room first : Int} {ws : List Str} {h : Hm} {Q : D → Hm → Prop} (h0 : 0 ≤ room) (hs : Short ws) (hl : ws.length ≤ 100000) (q : Q (bookD room (first + ((ws.length - (stay room ws).length : Nat) : Int)) (stay room ws)) h) : Sat (m_left_in [.int room, .int first, .tup (ws.map D.str)] h) Q := by
  refine sa_fn rfl ?_
  unfold m_left_in_b
  simp only [List.map_cons, List.map_nil, List.replicate, Nat.reduceSub, List.cons_append, List.nil_append]
  array_get_dec
  refine weight_of (.inl rfl) hs (by omega) ?_
  array_get_dec
  refine ss_wh (fun v h' => ∃ g : Nat, h' = h ∧ g ≤ ws.length ∧ fit room 0 (ws.drop g) = stay room ws ∧ v = [some (.int room), some (.int first), some (.tup (ws.map D.str)), some (.int g), some (.int (sumW (ws.drop g)))]) (fun v _ => match v with
    | _ :: _ :: _ :: some (.int g) :: _ => ws.length - g.toNat
    | _ => 0) ⟨0, rfl, Nat.zero_le _, rfl, rfl⟩ (by show ws.length - (0 : Int).toNat < 1000000; omega) ?_
  rintro v h' ⟨g, rfl, hg, hf, rfl⟩
  array_get_dec
  refine ⟨fun hc => ?_, fun hc => ?_⟩
  · have hc : room < sumW (ws.drop g) := of_decide_eq_true hc
    have hlt : g < ws.length := by
      refine Nat.lt_of_le_of_ne hg fun e => ?_
      rw [e, List.drop_length] at hc
      simp only [sumW] at hc
      omega
    have ed : ws.drop g = ws[g] :: ws.drop (g + 1) := List.drop_eq_getElem_cons hlt
    array_get_dec
    refine so_ixT (d := .str ws[g]) (atI_nat (by rw [List.getElem?_map, List.getElem?_eq_getElem hlt]; rfl)) ?_
    array_get_dec
    refine weight (hs _ (List.getElem_mem hlt)) ?_
    array_get_dec
    refine ⟨⟨g + 1, rfl, by omega, ?_, ?_⟩, ?_⟩
    · rw [← hf, ed, fit_cons (by rw [← ed]; omega)]
    · rw [show sumW (ws.drop g) - wt ws[g] = sumW (ws.drop (g + 1)) by rw [ed]; simp only [sumW]; omega]
      rfl
    · show ws.length - ((g : Int) + 1).toNat < ws.length - (g : Int).toNat
      omega
  · have hc : ¬ room < sumW (ws.drop g) := of_decide_eq_false hc
    have hst : stay room ws = ws.drop g := by rw [← hf, fit_stop (by omega)]
    array_get_dec
    refine so_slT ?_
    rw [cutT_from]
    array_get_dec
    rw [hst] at q
    rw [List.length_drop, show ws.length - (ws.length - g) = g by omega] at q
    exact q
theorem heavy {t : List D → D} {ws : List Str} {h : Hm} {Q : D → Hm → Prop} (ht : t = D.tup ∨ t = D.lst) (hs : Short ws) (hl : ws.length ≤ 16777215) (q : Q (.int (sumW ws)) h) : Sat (m_law_heavy [t (ws.map D.str)] h) Q := by
  refine sa_fn rfl ?_
  unfold m_law_heavy_b
  simp only [List.map_cons, List.map_nil, List.replicate, Nat.reduceSub, List.cons_append, List.nil_append]
  array_get_dec
  refine sa_LcMap (l := ws.map D.str) (fun x => match x with
    | .str w => .int (wt w)
    | _ => .non) (by simpa using hl) (by
      array_get_dec
      rcases ht with rfl | rfl
      · exact so_wkT ⟨rfl, rfl⟩
      · exact so_wkL ⟨rfl, rfl⟩) ?_ ?_
  · intro x hx P p
    obtain ⟨w, hw, rfl⟩ := List.mem_map.mp hx
    simp only [wipeE, List.foldr, List.set_cons_zero, List.set_cons_succ]
    array_get_dec
    have := hs w hw
    refine so_lenS (by omega) ?_
    array_get_dec
    exact p
  · array_get_dec
    rw [show (ws.map D.str).map (fun x => match x with
      | .str w => .int (wt w)
      | _ => .non) = (ws.map wt).map D.int by simp]
    exact so_sum (by rw [sum_wt]; exact q)
theorem Short.drop {ws : List Str} (h : Short ws) (g : Nat) : Short (ws.drop g) := fun w hw => h w (List.mem_of_mem_drop hw)
theorem fitted {room first : Int} {ws : List Str} {h : Hm} {Q : D → Hm → Prop} (h0 : 0 ≤ room) (hs : Short ws) (hl : ws.length ≤ 100000) (q : Q (bookD room (first + ((ws.length - (stay room ws).length : Nat) : Int)) (stay room ws)) h) : Sat (m_law_fitted [.int room, .int first, .tup (ws.map D.str)] h) Q := by
  refine sa_fn rfl ?_
  unfold m_law_fitted_b
  simp only [List.map_cons, List.map_nil, List.replicate, Nat.reduceSub, List.cons_append, List.nil_append]
  array_get_dec
  refine ss_wh (fun v h' => ∃ g : Nat, h' = h ∧ g ≤ ws.length ∧ fit room 0 (ws.drop g) = stay room ws ∧ v = [some (.int room), some (.int first), some (.tup (ws.map D.str)), some (.int g)]) (fun v _ => match v with
    | _ :: _ :: _ :: some (.int g) :: _ => ws.length - g.toNat
    | _ => 0) ⟨0, rfl, Nat.zero_le _, rfl, rfl⟩ (by show ws.length - (0 : Int).toNat < 1000000; omega) ?_
  rintro v h' ⟨g, rfl, hg, hf, rfl⟩
  array_get_dec
  refine so_slT ?_
  rw [cutT_from]
  array_get_dec
  refine heavy (.inl rfl) (hs.drop g) (by simp; omega) ?_
  array_get_dec
  refine ⟨fun hc => ?_, fun hc => ?_⟩
  · have hc : room < sumW (ws.drop g) := of_decide_eq_true hc
    have hlt : g < ws.length := by
      refine Nat.lt_of_le_of_ne hg fun e => ?_
      rw [e, List.drop_length] at hc
      simp only [sumW] at hc
      omega
    have ed : ws.drop g = ws[g] :: ws.drop (g + 1) := List.drop_eq_getElem_cons hlt
    array_get_dec
    refine ⟨⟨g + 1, rfl, by omega, ?_, rfl⟩, ?_⟩
    · rw [← hf, ed, fit_cons (by rw [← ed]; omega)]
    · show ws.length - ((g : Int) + 1).toNat < ws.length - (g : Int).toNat
      omega
  · have hc : ¬ room < sumW (ws.drop g) := of_decide_eq_false hc
    have hst : stay room ws = ws.drop g := by rw [← hf, fit_stop (by omega)]
    array_get_dec
    refine so_slT ?_
    rw [cutT_from]
    array_get_dec
    refine so_tupleT ?_
    array_get_dec
    rw [hst] at q
    rw [List.length_drop, show ws.length - (ws.length - g) = g by omega] at q
    exact q
/-- a word put behind: the room less the new word's weight -/
theorem stay_put {room : Int} {w : Str} (hw : wt w ≤ room) : ∀ ws : List Str, stay (room - wt w) ws ++ [w] = stay room (ws ++ [w])
  | [] => by
    show [w] = stay room [w]
    unfold stay
    rw [fit_stop (by simp only [sumW]; omega)]
  | a :: r => by
    have ih := stay_put hw r
    unfold stay at ih ⊢
    by_cases hc : room - wt w < sumW (a :: r) + 0
    · rw [fit_cons hc, ih, List.cons_append, fit_cons]
      rw [← List.cons_append, sumW_app]; simp only [sumW] at hc ⊢; omega
    · rw [fit_stop hc, fit_stop]
      rw [sumW_app]; simp only [sumW] at hc ⊢; omega
end Lw

/-! LibJ: deeds done, where they can be. -/
set_option Elab.async false
set_option linter.all false
set_option maxRecDepth 100000
set_option maxHeartbeats 4000000
namespace Lw
open PySem Dn
local macro_rules | `(tactic| sizeOf_list_dec) => `(tactic| with_reducible (first
  | refine sa_V0 ?_ | refine sa_V1 ?_ | refine sa_V2 ?_ | refine sa_V3 ?_ | refine sa_V4 ?_ | refine sa_V5 ?_ | refine sa_V6 ?_ | refine sa_V7 ?_ | refine sa_V8 ?_ | refine sa_V9 ?_ | refine sa_V10 ?_ | refine sa_V11 ?_ | refine sa_V12 ?_ | refine sa_V13 ?_ | refine sa_V14 ?_ | refine sa_V15 ?_ | refine sa_C ?_ | refine sa_B ?_ | refine sa_U ?_ | refine sa_F ?_ | refine sa_aN ?_ | refine sa_aC ?_ | refine sa_tup ?_ | refine sa_lst ?_ | refine sa_new ?_ | refine sa_tE ?_ | refine sa_If ?_ | refine sa_And ?_ | refine sa_Or ?_ | refine sa_Not ?_ | refine sa_tAnd ?_ | refine sa_tOr ?_ | refine sa_tNot ?_ | refine sa_chain ?_ | refine sa_M ?_ | refine sa_Sl ?_ | refine sa_SlN ?_ | refine sa_pN ?_ | refine sa_pE ?_ | refine sa_wE ?_ | refine sa_wR1 ?_ | refine sa_wR2 ?_ | refine sa_tYes ?_ | refine ss_nx ?_ | refine ss_seq ?_ | refine ss_asg0 ?_ | refine ss_asg1 ?_ | refine ss_asg2 ?_ | refine ss_asg3 ?_ | refine ss_asg4 ?_ | refine ss_asg5 ?_ | refine ss_asg6 ?_ | refine ss_asg7 ?_ | refine ss_asg8 ?_ | refine ss_asg9 ?_ | refine ss_asg10 ?_ | refine ss_asg11 ?_ | refine ss_asg12 ?_ | refine ss_asg13 ?_ | refine ss_asg14 ?_ | refine ss_asg15 ?_ | refine ss_expr ?_ | refine ss_ret ?_ | refine ss_retN ?_ | refine ss_if ?_ | refine ss_put ?_ | refine ss_bk ?_ | refine ss_ct ?_ | refine so_add ?_ | refine so_sub ?_ | refine so_lt ?_ | refine so_le ?_ | refine so_gt ?_ | refine so_ge ?_ | refine so_eqI ?_ | refine so_neI ?_ | refine so_eqS ?_ | refine so_neS ?_ | refine so_eqB ?_ | refine so_neB ?_ | refine so_isN ?_ | refine so_notN ?_ | refine so_len ?_ | refine so_lenT ?_ | refine so_lenC ?_ | refine so_max ?_ | refine so_min ?_ | refine so_intI ?_ | refine so_intB ?_ | refine so_ixL0 ?_ | refine so_ixL1 ?_ | refine so_ixL2 ?_ | refine so_ixL3 ?_ | refine so_ixL4 ?_ | refine so_ixL5 ?_ | refine so_ixT0 ?_ | refine so_ixT1 ?_ | refine so_ixT2 ?_ | refine so_ixT3 ?_ | refine so_ixT4 ?_ | refine so_ixT5 ?_
  | refine so_isiI_tuple ?_ | refine so_isiI_list ?_ | refine so_isiI_str ?_ | refine so_isiI_bool ?_ | refine so_isiI_int ?_ | refine so_isiS_tuple ?_ | refine so_isiS_list ?_ | refine so_isiS_str ?_ | refine so_isiS_bool ?_ | refine so_isiS_int ?_ | refine so_isiB_tuple ?_ | refine so_isiB_list ?_ | refine so_isiB_str ?_ | refine so_isiB_bool ?_ | refine so_isiB_int ?_ | refine so_isiN_tuple ?_ | refine so_isiN_list ?_ | refine so_isiN_str ?_ | refine so_isiN_bool ?_ | refine so_isiN_int ?_ | refine so_isiT_tuple ?_ | refine so_isiT_list ?_ | refine so_isiT_str ?_ | refine so_isiT_bool ?_ | refine so_isiT_int ?_ | refine so_isiL_tuple ?_ | refine so_isiL_list ?_ | refine so_isiL_str ?_ | refine so_isiL_bool ?_ | refine so_isiL_int ?_
  | refine so_mod (by decide) ?_ | refine so_mul (mulOkL (by decide)) ?_ | refine so_div (by decide) ?_ | refine so_ixR0 (by assumption) ?_ | refine so_ixR1 (by assumption) ?_ | refine so_ixR2 (by assumption) ?_ | refine so_lenR (by assumption) ?_
  | (refine so_addL (by simp only [List.length_append, List.length_cons, List.length_nil]; omega) ?_; try simp only [List.cons_append, List.nil_append])
  | refine Exists.intro _ (And.intro rfl ?_)
  | refine And.intro (show _ ≤ 16777216 by simp only [List.length_cons, List.length_nil]; omega) ?_))
local macro_rules | `(tactic| array_get_dec) => `(tactic| repeat sizeOf_list_dec)
def m_word_at_b : SM :=
  (sSeq (sAsg (gN 2) (eB opSub (eV 1) (eB opIx (eV 0) (eC (.int 1)))))
  (sSeq (sIf (tNot (tE (eChain opLe opLt (eC (.int 0)) (eV 2) (eF bLen (aC (eB opIx (eV 0) (eC (.int 2))) aN))))) sErr sNx)
  (sRet (eB opIx (eB opIx (eV 0) (eC (.int 2))) (eV 2)))))
def m_word_at : FM := fn0 2 3 m_word_at_b
def m_put_in_b : SM :=
  (sSeq (sAsg (gT [3, 4, 5]) (eV 0))
  (sSeq (sIf (tE (eB opGt (eF m_weight (aC (eV 1) aN)) (eV 3))) sErr sNx)
  (sSeq (sAsg (gN 2) (eF m_left_in (aC (eB opSub (eV 3) (eF m_weight (aC (eV 1) aN))) (aC (eV 4) (aC (eV 5) aN)))))
  (sRet (eTup (aC (eV 3) (aC (eB opIx (eV 2) (eC (.int 1))) (aC (eB opAdd (eB opIx (eV 2) (eC (.int 2))) (eTup (aC (eV 1) aN))) aN))))))))
def m_put_in : FM := fn0 2 6 m_put_in_b
def m_done_b : SM :=
  (sSeq (sIf (tE (eB opEq (eB opIx (eV 1) (eC (.int 0))) (eC (.str (Str.ofString "put"))))) (sRet (eF m_put_in (aC (eV 0) (aC (eB opIx (eV 1) (eC (.int 1))) aN)))) sNx)
  (sSeq (sIf (tE (eB opEq (eB opIx (eV 1) (eC (.int 0))) (eC (.str (Str.ofString "again"))))) (sRet (eF m_put_in (aC (eV 0) (aC (eF m_word_at (aC (eV 0) (aC (eB opSub (eF m_next_number (aC (eV 0) aN)) (eB opIx (eV 1) (eC (.int 1)))) aN))) aN)))) sNx)
  (sRet (eF m_left_in (aC (eB opIx (eV 1) (eC (.int 1))) (aC (eB opIx (eV 0) (eC (.int 1))) (aC (eB opIx (eV 0) (eC (.int 2))) aN)))))))
def m_done : FM := fn0 2 2 m_done_b
def m_law_behind_b : SM :=
  (sSeq (sAsg (gT [3, 4, 5]) (eV 0))
  (sSeq (sIf (tE (eB opEq (eB opIx (eV 1) (eC (.int 0))) (eC (.str (Str.ofString "room"))))) (sRet (eF m_law_fitted (aC (eB opIx (eV 1) (eC (.int 1))) (aC (eV 4) (aC (eV 5) aN))))) sNx)
  (sSeq (sAsg (gN 2) (eB opIx (eV 1) (eC (.int 1))))
  (sSeq (sIf (tE (eB opEq (eB opIx (eV 1) (eC (.int 0))) (eC (.str (Str.ofString "again"))))) (sSeq (sIf (tNot (tE (eChain opLe opLt (eC (.int 0)) (eB opSub (eF bLen (aC (eV 5) aN)) (eB opIx (eV 1) (eC (.int 1)))) (eF bLen (aC (eV 5) aN))))) (sRet (eB opSub (eB opAdd (eV 4) (eF bLen (aC (eV 5) aN))) (eB opIx (eV 1) (eC (.int 1))))) sNx)
  (sAsg (gN 2) (eB opIx (eV 5) (eB opSub (eF bLen (aC (eV 5) aN)) (eB opIx (eV 1) (eC (.int 1))))))) sNx)
  (sSeq (sIf (tE (eB opGt (eB opAdd (eF bLen (aC (eV 2) aN)) (eC (.int 2))) (eV 3))) (sRet (eC (.str (Str.ofString "room")))) sNx)
  (sRet (eF m_law_fitted (aC (eV 3) (aC (eV 4) (aC (eB opAdd (eV 5) (eTup (aC (eV 2) aN))) aN))))))))))
def m_law_behind : FM := fn0 2 6 m_law_behind_b

/-- a book behind a word put, behind a room changed -/
def bookS (room first : Int) (ws : List Str) : D := bookD room (first + ((ws.length - (stay room ws).length : Nat) : Int)) (stay room ws)
theorem word_at {room first : Int} {ws : List Str} {k : Int} {w : Str} {h : Hm} {Q : D → Hm → Prop} (h0 : 0 ≤ k) (e : ws[k.toNat]? = some w) (q : Q (.str w) h) : Sat (m_word_at [bookD room first ws, .int (first + k)] h) Q := by
  refine sa_fn rfl ?_
  unfold m_word_at_b bookD
  simp only [List.map_cons, List.map_nil, List.replicate, Nat.reduceSub, List.cons_append, List.nil_append]
  have hk := (List.getElem?_eq_some_iff.mp e).1
  array_get_dec
  rw [show first + k - first = k by omega]
  refine ⟨fun _ => ?_, fun hc => absurd h0 (of_decide_eq_false hc)⟩
  array_get_dec
  rw [List.length_map]
  refine ⟨fun hc => ?_, fun _ => ?_⟩
  · have : (!decide (k < (ws.length : Int))) = true := hc
    simp at this
    omega
  array_get_dec
  obtain ⟨j, rfl⟩ := Int.eq_ofNat_of_zero_le h0
  refine so_ixT (d := .str w) (atI_nat ?_) q
  rw [List.getElem?_map]
  simp at e
  rw [e]; rfl
theorem put_in {room first : Int} {ws : List Str} {w : Str} {h : Hm} {Q : D → Hm → Prop} (hs : Short ws) (hl : ws.length ≤ 100000) (hw : w.length ≤ 1000) (hr : wt w ≤ room) (q : Q (bookS room first (ws ++ [w])) h) : Sat (m_put_in [bookD room first ws, .str w] h) Q := by
  refine sa_fn rfl ?_
  unfold m_put_in_b bookD
  simp only [List.map_cons, List.map_nil, List.replicate, Nat.reduceSub, List.cons_append, List.nil_append]
  with_reducible refine ss_seq ?_
  refine ss_asgT (sa_V0 ⟨_, _, rfl, rfl, ?_⟩)
  simp only [List.set_cons_zero, List.set_cons_succ]
  array_get_dec
  refine weight hw ?_
  array_get_dec
  refine ⟨fun hc => ?_, fun _ => ?_⟩
  · have := of_decide_eq_true hc
    omega
  array_get_dec
  refine weight hw ?_
  array_get_dec
  refine left_in (by omega) hs hl ?_
  unfold bookD
  array_get_dec
  refine so_addT (by simp; have := fit_len (room := room - wt w) (x := 0) (k := ws); unfold stay; omega) ?_
  array_get_dec
  have e := stay_put hr ws
  have el : (stay room (ws ++ [w])).length = (stay (room - wt w) ws).length + 1 := by rw [← e]; simp
  unfold bookS bookD at q
  rw [← e] at q
  rw [show ((ws ++ [w]).length - (stay (room - wt w) ws ++ [w]).length) = ws.length - (stay (room - wt w) ws).length by simp] at q
  rw [List.map_append] at q
  exact q

/-- the deeds that can be done, and what stands before words go -/
inductive Can (room : Int) (ws : List Str) : D → Int → List Str → Prop
  | put (w : Str) (h : IsW w) (hr : wt w ≤ room) : Can room ws (.tup [.str (Str.ofString "put"), .str w]) room (ws ++ [w])
  | again (n : Int) (w : Str) (h0 : 1 ≤ n) (h1 : n ≤ ws.length) (e : ws[((ws.length : Int) - n).toNat]? = some w) (hr : wt w ≤ room) : Can room ws (.tup [.str (Str.ofString "again"), .int n]) room (ws ++ [w])
  | room (n : Int) (h0 : 0 ≤ n) (h1 : n ≤ 200) : Can room ws (.tup [.str (Str.ofString "room"), .int n]) n ws
theorem ne_room : decide (Str.ofString "put" = Str.ofString "room") = false ∧ decide (Str.ofString "again" = Str.ofString "room") = false ∧ decide (Str.ofString "room" = Str.ofString "room") = true ∧ decide (Str.ofString "put" = Str.ofString "again") = false := by decide +kernel
theorem done {room first r' : Int} {ws ws' : List Str} {d : D} {h : Hm} {Q : D → Hm → Prop} (c : Can room ws d r' ws') (h0 : 0 ≤ room) (hs : Short ws) (hl : ws.length ≤ 100000) (q : Q (bookS r' first ws') h) : Sat (m_done [bookD room first ws, d] h) Q := by
  refine sa_fn rfl ?_
  unfold m_done_b
  simp only [List.map_cons, List.map_nil, List.replicate, Nat.reduceSub, List.cons_append, List.nil_append]
  cases c with
  | put w hw hr =>
    array_get_dec
    refine ⟨fun _ => ?_, fun hc => by simp [ne_put] at hc⟩
    array_get_dec
    have := hw.len
    exact put_in hs hl (by omega) hr q
  | again n w h1 h2 e hr =>
    array_get_dec
    refine ⟨fun hc => by simp [ne_put] at hc, fun _ => ?_⟩
    array_get_dec
    refine ⟨fun _ => ?_, fun hc => by simp [ne_put] at hc⟩
    array_get_dec
    refine next_number ?_
    array_get_dec
    rw [show first + (ws.length : Int) - n = first + ((ws.length : Int) - n) by omega]
    refine word_at (by omega) e ?_
    array_get_dec
    exact put_in hs hl (hs w (List.mem_of_getElem? e)) hr q
  | room n h1 h2 =>
    array_get_dec
    refine ⟨fun hc => by simp [ne_put] at hc, fun _ => ?_⟩
    array_get_dec
    refine ⟨fun hc => by simp [ne_put] at hc, fun _ => ?_⟩
    unfold bookD
    array_get_dec
    exact left_in h1 hs hl q
/-- the law's own word on a deed: what can be done, or why not -/
theorem behind {room first : Int} {ws : List Str} {d : D} {h : Hm} {Q : D → Hm → Prop} (i : IsDeed d) (h0 : 0 ≤ room) (hs : Short ws) (hl : ws.length ≤ 90000)
    (q1 : ∀ r' ws', Can room ws d r' ws' → Q (bookS r' first ws') h) (q2 : ∀ n : Int, (∀ r' ws', ¬ Can room ws d r' ws') → Q (.int n) h) (q3 : (∀ r' ws', ¬ Can room ws d r' ws') → Q (.str (Str.ofString "room")) h) : Sat (m_law_behind [bookD room first ws, d] h) Q := by
  refine sa_fn rfl ?_
  unfold m_law_behind_b bookD
  simp only [List.map_cons, List.map_nil, List.replicate, Nat.reduceSub, List.cons_append, List.nil_append]
  with_reducible refine ss_seq ?_
  refine ss_asgT (sa_V0 ⟨_, _, rfl, rfl, ?_⟩)
  simp only [List.set_cons_zero, List.set_cons_succ]
  cases i with
  | room n h1 h2 =>
    array_get_dec
    refine ⟨fun _ => ?_, fun hc => by simp [ne_room] at hc⟩
    array_get_dec
    exact fitted h1 hs (by omega) (q1 _ _ (.room n h1 h2))
  | put w hw =>
    array_get_dec
    refine ⟨fun hc => by simp [ne_room] at hc, fun _ => ?_⟩
    array_get_dec
    refine ⟨fun hc => by simp [ne_room] at hc, fun _ => ?_⟩
    array_get_dec
    have hw2 := hw.len
    refine so_lenS (by omega) ?_
    array_get_dec
    refine ⟨fun hc => ?_, fun hc => ?_⟩
    · have hc : room < wt w := of_decide_eq_true hc
      array_get_dec
      refine q3 fun r' ws' c => ?_
      cases c with
      | put _ _ hr => omega
    · have hc : ¬ room < wt w := of_decide_eq_false hc
      array_get_dec
      refine so_addT (by simp; omega) ?_
      array_get_dec
      rw [show ws.map D.str ++ [.str w] = (ws ++ [w]).map D.str by simp]
      refine fitted h0 (fun z hz => ?_) (by simp; omega) (q1 _ _ (.put w hw (by omega)))
      rcases List.mem_append.mp hz with hz | hz
      · exact hs z hz
      · rw [List.mem_singleton.mp hz]; omega
  | again n h1 h2 =>
    array_get_dec
    refine ⟨fun hc => by simp [ne_room] at hc, fun _ => ?_⟩
    array_get_dec
    refine ⟨fun _ => ?_, fun hc => by simp [ne_put] at hc⟩
    array_get_dec
    rw [List.length_map]
    refine ⟨fun hc => ?_, fun hc => ?_⟩
    · have hc : 0 ≤ (ws.length : Int) - n := of_decide_eq_true hc
      array_get_dec
      rw [List.length_map]
      refine ⟨fun hc2 => ?_, fun _ => ?_⟩
      · simp at hc2
        omega
      array_get_dec
      rw [List.length_map]
      have hlt : ((ws.length : Int) - n).toNat < ws.length := by omega
      have e : ws[((ws.length : Int) - n).toNat]? = some ws[((ws.length : Int) - n).toNat] := List.getElem?_eq_getElem hlt
      generalize ws[((ws.length : Int) - n).toNat] = w at e
      have hw := hs w (List.mem_of_getElem? e)
      refine so_ixT (d := .str w) (by
        have := atI_nat (l := ws.map D.str) (i := ((ws.length : Int) - n).toNat) (x := .str w) (by rw [List.getElem?_map, e]; rfl)
        rw [show ((((ws.length : Int) - n).toNat : Nat) : Int) = (ws.length : Int) - n by omega] at this
        exact this) ?_
      array_get_dec
      refine so_lenS (by omega) ?_
      array_get_dec
      refine ⟨fun hc => ?_, fun hc => ?_⟩
      · have hc : room < wt w := of_decide_eq_true hc
        array_get_dec
        refine q3 fun r' ws' c => ?_
        cases c with
        | again _ w' _ _ e' hr =>
          rw [e] at e'
          injection e' with e'
          subst e'
          omega
      · have hc : ¬ room < wt w := of_decide_eq_false hc
        array_get_dec
        refine so_addT (by simp; omega) ?_
        array_get_dec
        rw [show ws.map D.str ++ [.str w] = (ws ++ [w]).map D.str by simp]
        refine fitted h0 (fun z hz => ?_) (by simp; omega) (q1 _ _ (.again n w h1 (by omega) e (by omega)))
        rcases List.mem_append.mp hz with hz | hz
        · exact hs z hz
        · rw [List.mem_singleton.mp hz]; exact hw
    · have hc : ¬ 0 ≤ (ws.length : Int) - n := of_decide_eq_false hc
      array_get_dec
      refine ⟨fun _ => ?_, fun hc => nomatch hc⟩
      array_get_dec
      refine q2 _ fun r' ws' c => ?_
      cases c with
      | again _ _ _ hle _ _ => omega
end Lw

/-! LibK: books and deeds drawn. -/
set_option Elab.async false
set_option linter.all false
set_option maxRecDepth 100000
set_option maxHeartbeats 4000000
namespace Lw
open PySem Dn
local macro_rules | `(tactic| sizeOf_list_dec) => `(tactic| with_reducible (first
  | refine sa_V0 ?_ | refine sa_V1 ?_ | refine sa_V2 ?_ | refine sa_V3 ?_ | refine sa_V4 ?_ | refine sa_V5 ?_ | refine sa_V6 ?_ | refine sa_V7 ?_ | refine sa_V8 ?_ | refine sa_V9 ?_ | refine sa_V10 ?_ | refine sa_V11 ?_ | refine sa_V12 ?_ | refine sa_V13 ?_ | refine sa_V14 ?_ | refine sa_V15 ?_ | refine sa_C ?_ | refine sa_B ?_ | refine sa_U ?_ | refine sa_F ?_ | refine sa_aN ?_ | refine sa_aC ?_ | refine sa_tup ?_ | refine sa_lst ?_ | refine sa_new ?_ | refine sa_tE ?_ | refine sa_If ?_ | refine sa_And ?_ | refine sa_Or ?_ | refine sa_Not ?_ | refine sa_tAnd ?_ | refine sa_tOr ?_ | refine sa_tNot ?_ | refine sa_chain ?_ | refine sa_M ?_ | refine sa_Sl ?_ | refine sa_SlN ?_ | refine sa_pN ?_ | refine sa_pE ?_ | refine sa_wE ?_ | refine sa_wR1 ?_ | refine sa_wR2 ?_ | refine sa_tYes ?_ | refine ss_nx ?_ | refine ss_seq ?_ | refine ss_asg0 ?_ | refine ss_asg1 ?_ | refine ss_asg2 ?_ | refine ss_asg3 ?_ | refine ss_asg4 ?_ | refine ss_asg5 ?_ | refine ss_asg6 ?_ | refine ss_asg7 ?_ | refine ss_asg8 ?_ | refine ss_asg9 ?_ | refine ss_asg10 ?_ | refine ss_asg11 ?_ | refine ss_asg12 ?_ | refine ss_asg13 ?_ | refine ss_asg14 ?_ | refine ss_asg15 ?_ | refine ss_expr ?_ | refine ss_ret ?_ | refine ss_retN ?_ | refine ss_if ?_ | refine ss_put ?_ | refine ss_bk ?_ | refine ss_ct ?_ | refine so_add ?_ | refine so_sub ?_ | refine so_lt ?_ | refine so_le ?_ | refine so_gt ?_ | refine so_ge ?_ | refine so_eqI ?_ | refine so_neI ?_ | refine so_eqS ?_ | refine so_neS ?_ | refine so_eqB ?_ | refine so_neB ?_ | refine so_isN ?_ | refine so_notN ?_ | refine so_len ?_ | refine so_lenT ?_ | refine so_lenC ?_ | refine so_max ?_ | refine so_min ?_ | refine so_intI ?_ | refine so_intB ?_ | refine so_ixL0 ?_ | refine so_ixL1 ?_ | refine so_ixL2 ?_ | refine so_ixL3 ?_ | refine so_ixL4 ?_ | refine so_ixL5 ?_ | refine so_ixT0 ?_ | refine so_ixT1 ?_ | refine so_ixT2 ?_ | refine so_ixT3 ?_ | refine so_ixT4 ?_ | refine so_ixT5 ?_
  | refine so_isiI_tuple ?_ | refine so_isiI_list ?_ | refine so_isiI_str ?_ | refine so_isiI_bool ?_ | refine so_isiI_int ?_ | refine so_isiS_tuple ?_ | refine so_isiS_list ?_ | refine so_isiS_str ?_ | refine so_isiS_bool ?_ | refine so_isiS_int ?_ | refine so_isiB_tuple ?_ | refine so_isiB_list ?_ | refine so_isiB_str ?_ | refine so_isiB_bool ?_ | refine so_isiB_int ?_ | refine so_isiN_tuple ?_ | refine so_isiN_list ?_ | refine so_isiN_str ?_ | refine so_isiN_bool ?_ | refine so_isiN_int ?_ | refine so_isiT_tuple ?_ | refine so_isiT_list ?_ | refine so_isiT_str ?_ | refine so_isiT_bool ?_ | refine so_isiT_int ?_ | refine so_isiL_tuple ?_ | refine so_isiL_list ?_ | refine so_isiL_str ?_ | refine so_isiL_bool ?_ | refine so_isiL_int ?_
  | refine so_mod (by decide) ?_ | refine so_mul (mulOkL (by decide)) ?_ | refine so_div (by decide) ?_ | refine so_ixR0 (by assumption) ?_ | refine so_ixR1 (by assumption) ?_ | refine so_ixR2 (by assumption) ?_ | refine so_lenR (by assumption) ?_
  | (refine so_addL (by simp only [List.length_append, List.length_cons, List.length_nil]; omega) ?_; try simp only [List.cons_append, List.nil_append])
  | refine Exists.intro _ (And.intro rfl ?_)
  | refine And.intro (show _ ≤ 16777216 by simp only [List.length_cons, List.length_nil]; omega) ?_))
local macro_rules | `(tactic| array_get_dec) => `(tactic| repeat sizeOf_list_dec)
def m_law_book_b : SM :=
  (sSeq (sAsg (gN 2) (eF m_law_spoon (aC (eV 0) (aC (eC (.int 6)) aN))))
  (sSeq (sAsg (gN 3) (eB opIx (eLst (aC (eC (.int 0)) (aC (eC (.int 3)) (aC (eC (.int 200)) (aC (eF m_law_spoon (aC (eV 0) (aC (eC (.int 201)) aN))) (aC (eB opAdd (eC (.int 14)) (eF m_law_spoon (aC (eV 0) (aC (eC (.int 60)) aN)))) (aC (eB opAdd (eC (.int 3)) (eF m_law_spoon (aC (eV 0) (aC (eC (.int 20)) aN)))) aN))))))) (eV 2)))
  (sSeq (sAsg (gN 4) (eB opIx (eLst (aC (eC (.int 0)) (aC (eC (.int 9999)) (aC (eF m_law_spoon (aC (eV 0) (aC (eC (.int 10000)) aN))) (aC (eF m_law_spoon (aC (eV 0) (aC (eC (.int 9)) aN))) aN))))) (eF m_law_spoon (aC (eV 0) (aC (eC (.int 4)) aN)))))
  (sSeq (sAsg (gN 5) (eB opSub (eV 3) (eB opIx (eLst (aC (eC (.int 0)) (aC (eF m_law_spoon (aC (eV 0) (aC (eB opAdd (eV 3) (eC (.int 1))) aN))) aN))) (eF m_law_spoon (aC (eV 0) (aC (eC (.int 2)) aN))))))
  (sSeq (sAsg (gN 6) (eNew aN))
  (sSeq (sFor (gN 7) (wR1 (eF m_law_spoon (aC (eV 0) (aC (eB opIx (eLst (aC (eC (.int 5)) (aC (eC (.int 70)) aN))) (eF m_law_spoon (aC (eV 0) (aC (eC (.int 2)) aN)))) aN)))) (sSeq (sAsg (gN 8) (eB opIx (eV 1) (eF m_law_spoon (aC (eV 0) (aC (eF bLen (aC (eV 1) aN)) aN)))))
  (sIf (tE (eB opLe (eB opAdd (eF bLen (aC (eV 8) aN)) (eC (.int 2))) (eV 5))) (sSeq (sExpr (eM "list" mAppend (eV 6) (aC (eV 8) aN)))
  (sAsg (gN 5) (eB opSub (eB opSub (eV 5) (eF bLen (aC (eV 8) aN))) (eC (.int 2))))) sNx)))
  (sRet (eTup (aC (eV 3) (aC (eV 4) (aC (eF bTuple (aC (eV 6) aN)) aN)))))))))))
def m_law_book : FM := tr (fn0 2 9 m_law_book_b)
def m_law_deed_b : SM :=
  (sSeq (sAsg (gN 3) (eF m_law_spoon (aC (eV 0) (aC (eC (.int 10)) aN))))
  (sSeq (sAsg (gN 4) (eB opIx (eV 2) (eF m_law_spoon (aC (eV 0) (aC (eF bLen (aC (eV 2) aN)) aN)))))
  (sSeq (sAsg (gN 5) (eF bLen (aC (eB opIx (eV 1) (eC (.int 2))) aN)))
  (sSeq (sIf (tE (eB opLt (eV 3) (eC (.int 5)))) (sRet (eTup (aC (eC (.str (Str.ofString "put"))) (aC (eV 4) aN)))) sNx)
  (sSeq (sIf (tE (eB opLt (eV 3) (eC (.int 8)))) (sSeq (sAsg (gN 7) (eLst (aC (eB opAdd (eC (.int 1)) (eF m_law_spoon (aC (eV 0) (aC (eF bMax (aC (eC (.int 1)) (aC (eV 5) aN))) aN)))) (aC (eB opAdd (eC (.int 1)) (eF m_law_spoon (aC (eV 0) (aC (eB opAdd (eV 5) (eC (.int 2))) aN)))) aN))))
  (sRet (eTup (aC (eC (.str (Str.ofString "again"))) (aC (eB opIx (eV 7) (eF bInt (aC (eB opEq (eV 3) (eC (.int 7))) aN))) aN))))) sNx)
  (sSeq (sIf (tE (eB opEq (eV 3) (eC (.int 8)))) (sSeq (sAsg (gN 8) (eLst (aC (eC (.int 999)) (aC (eB opAdd (eC (.int 1)) (eF m_law_spoon (aC (eV 0) (aC (eC (.int 999)) aN)))) (aC (eB opAdd (eV 5) (eC (.int 1))) aN)))))
  (sRet (eTup (aC (eC (.str (Str.ofString "again"))) (aC (eB opIx (eV 8) (eF m_law_spoon (aC (eV 0) (aC (eC (.int 3)) aN)))) aN))))) sNx)
  (sSeq (sAsg (gN 6) (eLst (aC (eF m_law_spoon (aC (eV 0) (aC (eC (.int 201)) aN))) (aC (eF bMax (aC (eC (.int 0)) (aC (eB opSub (eB opIx (eV 1) (eC (.int 0))) (eF m_law_spoon (aC (eV 0) (aC (eC (.int 12)) aN)))) aN))) (aC (eB opIx (eV 1) (eC (.int 0))) aN)))))
  (sRet (eTup (aC (eC (.str (Str.ofString "room"))) (aC (eB opIx (eV 6) (eF m_law_spoon (aC (eV 0) (aC (eC (.int 3)) aN)))) aN)))))))))))
def m_law_deed : FM := fn0 3 9 m_law_deed_b

theorem ss_forW {g : TgM} {w : Ev → Hm → R Wk} {b : SM} {v : Ev} {h : Hm} {N : Ev → Hm → Prop} {T : D → Hm → Prop} {Bk G : Ev → Hm → Prop} (s : Sat (w v h) fun k h1 => SatS (forL g b k.chk k.its v h1) N T Bk G) : SatS (sFor g w b v h) N T Bk G := by
  unfold sFor
  obtain ⟨k, h1, ek, q⟩ := s.get
  rw [ek]
  exact q
theorem ss_forN {k : Nat} {b : SM} {v : Ev} {h : Hm} {N : Ev → Hm → Prop} {T : D → Hm → Prop} {Bk G : Ev → Hm → Prop} (n : Nat) (Inv : Nat → Ev → Hm → Prop) (h0 : Inv 0 v h)
    (hs : ∀ (i : Nat) (v : Ev) (h : Hm), i < n → Inv i v h → SatS (b (v.set k (some (.int i))) h) (Inv (i + 1)) T N (Inv (i + 1))) (hd : ∀ v h, Inv n v h → N v h) : SatS (forL (gN k) b (fun _ => true) ((List.range n).map fun (i : Nat) => .int (i : Int)) v h) N T Bk G := by
  refine forL_inv Inv _ 0 v h h0 (fun i x v h e hi => ?_) (fun v h z => ⟨rfl, hd v h (by simpa using z)⟩)
  have hn : i < n := by
    have := (List.getElem?_eq_some_iff.mp e).1
    simpa using this
  have hx : x = .int i := by
    rw [List.getElem?_map, List.getElem?_range hn] at e
    injection e with e
    exact e.symm
  subst hx
  rw [Nat.zero_add] at hi ⊢
  exact ⟨rfl, _, rfl, hs i v h hn hi⟩
theorem sumW_ge (ws : List Str) : 2 * (ws.length : Int) ≤ sumW ws := by
  induction ws with
  | nil => exact Int.le_refl _
  | cons a r ih => simp only [List.length_cons, sumW, wt]; omega
theorem strs_cl {ws : List Str} {N : Nat} : D.clL N (ws.map D.str) = true := clL_all fun x hx => by
  obtain ⟨w, _, rfl⟩ := List.mem_map.mp hx
  rfl
theorem so_someWord {ws : List Str} {i : Int} {h : Hm} {Q : D → Hm → Prop} (h0 : 0 ≤ i) (h1 : i < ws.length) (q : ∀ w, w ∈ ws → Q (.str w) h) : Sat (opIx (.lst (ws.map D.str)) (.int i) h) Q := by
  refine so_ixP (fun d => ∃ w, w ∈ ws ∧ d = .str w) (fun d hd => ?_) h0 (by simpa using h1) ?_
  · obtain ⟨w, hw, rfl⟩ := List.mem_map.mp hd
    exact ⟨w, hw, rfl⟩
  · rintro _ ⟨w, hw, rfl⟩
    exact q w hw
theorem book {n B : Nat} {some_ : List Str} {h : Hm} {Q : D → Hm → Prop} (hsome : Words some_) (hpos : 1 ≤ some_.length) (hlen : some_.length ≤ 1000) (w : Bow n (B + 100) h)
    (q : ∀ room first ws h', 0 ≤ room → room ≤ 200 → 0 ≤ first → first ≤ 9999 → Words ws → sumW ws ≤ room → (∀ z ∈ ws, z ∈ some_) → Drew n B h h' → Q (bookD room first ws) h') : Sat (m_law_book [.ref n, .lst (some_.map D.str)] h) Q := by
  refine sa_tr (sa_fn rfl ?_)
  unfold m_law_book_b
  simp only [List.map_cons, List.map_nil, List.replicate, Nat.reduceSub, List.cons_append, List.nil_append]
  array_get_dec
  refine spoon w (by decide) (by decide) fun way h1 a1 a2 d1 => ?_
  array_get_dec
  refine spoon d1.bow (by decide) (by decide) fun p2 h2 b1 b2 d2 => ?_
  array_get_dec
  refine spoon d2.bow (by decide) (by decide) fun p3 h3 c1 c2 d3 => ?_
  array_get_dec
  refine spoon d3.bow (by decide) (by decide) fun p4 h4 e1 e2 d4 => ?_
  array_get_dec
  refine so_ixP (IntIn 0 200) (by
    repeat refine all_cons (.mk (by omega) (by omega)) ?_
    exact all_nil) a1 (by simpa using a2) ?_
  rintro _ ⟨room, rfl, r1, r2⟩
  array_get_dec
  refine spoon d4.bow (by decide) (by decide) fun p5 h5 f1 f2 d5 => ?_
  array_get_dec
  refine spoon d5.bow (by decide) (by decide) fun p6 h6 g1 g2 d6 => ?_
  array_get_dec
  refine spoon d6.bow (by decide) (by decide) fun p7 h7 i1 i2 d7 => ?_
  array_get_dec
  refine so_ixP (IntIn 0 9999) (by
    repeat refine all_cons (.mk (by omega) (by omega)) ?_
    exact all_nil) i1 (by simpa using i2) ?_
  rintro _ ⟨first, rfl, j1, j2⟩
  array_get_dec
  refine spoon d7.bow (by omega) (by omega) fun p8 h8 k1 k2 d8 => ?_
  array_get_dec
  refine spoon d8.bow (by decide) (by decide) fun p9 h9 l1 l2 d9 => ?_
  array_get_dec
  refine so_ixP (IntIn 0 room) (by
    repeat refine all_cons (.mk (by omega) (by omega)) ?_
    exact all_nil) l1 (by simpa using l2) ?_
  rintro _ ⟨cut, rfl, m1, m2⟩
  array_get_dec
  have dd := ((((((((d1.trans d2).trans d3).trans d4).trans d5).trans d6).trans d7).trans d8).trans d9).x.push (o := .lst [])
  have ee : (h9 ++ [HD.lst []])[h9.length]? = some (.lst (([] : List Str).map D.str)) := by simp
  have hL : h.length ≤ h9.length := (((((((((d1.trans d2).trans d3).trans d4).trans d5).trans d6).trans d7).trans d8).trans d9).x).len
  clear d1 d2 d3 d4 d5 d6 d7 d8 d9
  generalize h9 ++ [HD.lst []] = h10 at dd ee
  generalize h9.length = L at ee hL
  have hLn : L ≠ n := by have := dd.lt; omega
  refine ss_forW ?_
  array_get_dec
  refine spoon (B := B + 90) (dd.bow.le (by omega)) (by decide) (by decide) fun p11 h11 n1 n2 d11 => ?_
  array_get_dec
  refine so_ixP (IntIn 5 70) (by
    repeat refine all_cons (.mk (by omega) (by omega)) ?_
    exact all_nil) n1 (by simpa using n2) ?_
  rintro _ ⟨top, rfl, t1, t2⟩
  array_get_dec
  refine spoon (B := B + 80) (d11.bow.le (by omega)) (by omega) (by omega) fun size h12 s1 s2 d12 => ?_
  array_get_dec
  refine ⟨by omega, by omega, ?_⟩
  have d0 := (dd.then d11).then d12
  have e0 := (d11.trans d12).at hLn ee
  refine ss_forN size.toNat (fun i v h' => ∃ (ws : List Str) (x7 x8 : Option D), v = [some (.ref n), some (.lst (some_.map D.str)), some (.int way), some (.int room), some (.int first), some (.int (room - cut - sumW ws)), some (.ref L), x7, x8] ∧ h'[L]? = some (.lst (ws.map D.str)) ∧ ws.length ≤ i ∧ (∀ z ∈ ws, z ∈ some_) ∧ sumW ws ≤ room - cut ∧ DrewX n (B + 80 - i) h h') ⟨[], none, none, by rw [show room - cut - sumW ([] : List Str) = room - cut by simp only [sumW]; omega], e0, Nat.le_refl _, (fun _ z => nomatch z), by simp only [sumW]; omega, d0.le (by omega)⟩ ?_ ?_
  · rintro i v h' hi ⟨ws, x7, x8, rfl, el, hl, hsub, hsum, dx⟩
    simp only [List.set_cons_zero, List.set_cons_succ]
    array_get_dec
    rw [List.length_map]
    refine spoon (B := B + 80 - (i + 1)) (dx.bow.le (by omega)) (by omega) (by omega) fun p13 h13 u1 u2 d13 => ?_
    refine so_someWord u1 u2 fun z hz => ?_
    have hzl := (hsome z hz).len
    have el13 := d13.at hLn el
    have dx13 := dx.then d13
    array_get_dec
    refine so_lenS (by omega) ?_
    array_get_dec
    refine ⟨fun hc => ?_, fun hc => ?_⟩
    · have hc : wt z ≤ room - cut - sumW ws := of_decide_eq_true hc
      array_get_dec
      refine ⟨rcR el13, ?_⟩
      array_get_dec
      refine so_append el13 (by simp; omega) ?_
      array_get_dec
      refine so_lenS (by omega) ?_
      array_get_dec
      refine ⟨ws ++ [z], some (.int i), some (.str z), ?_, ?_, by simp; omega, fun y hy => ?_, ?_, dx13.put hL⟩
      · rw [sumW_app]
        simp only [sumW, wt]
        rw [show room - cut - (sumW ws + ((z.length : Int) + 2 + 0)) = room - cut - sumW ws - (z.length : Int) - 2 by omega]
      · rw [List.getElem?_set_self (List.getElem?_eq_some_iff.mp el13).1, List.map_append]; rfl
      · rcases List.mem_append.mp hy with hy | hy
        · exact hsub y hy
        · rw [List.mem_singleton.mp hy]; exact hz
      · rw [sumW_app]; simp only [sumW]; omega
    · array_get_dec
      exact ⟨ws, _, _, rfl, el13, by omega, hsub, hsum, dx13⟩
  · rintro v h' ⟨ws, x7, x8, rfl, el, hl, hsub, hsum, dx⟩
    array_get_dec
    refine so_tupleR el ?_
    array_get_dec
    refine ⟨?_, dx.tr.1, q room first ws _ r1 r2 j1 j2 (fun z hz => hsome z (hsub z hz)) (by omega) hsub (dx.tr.2.le (by omega))⟩
    simp [D.cl, D.clL, strs_cl]
theorem deed {n B : Nat} {some_ ws : List Str} {room first : Int} {h : Hm} {Q : D → Hm → Prop} (hsome : Words some_) (hpos : 1 ≤ some_.length) (hlen : some_.length ≤ 1000) (h0 : 0 ≤ room) (hr : room ≤ 200) (hl : ws.length ≤ 900) (w : Bow n (B + 20) h)
    (q : ∀ d h', IsDeed d → Drew n B h h' → Q d h') : Sat (m_law_deed [.ref n, bookD room first ws, .lst (some_.map D.str)] h) Q := by
  refine sa_fn rfl ?_
  unfold m_law_deed_b bookD
  simp only [List.map_cons, List.map_nil, List.replicate, Nat.reduceSub, List.cons_append, List.nil_append]
  array_get_dec
  refine spoon w (by decide) (by decide) fun way h1 a1 a2 d1 => ?_
  array_get_dec
  rw [List.length_map]
  refine spoon d1.bow (by omega) (by omega) fun p2 h2 b1 b2 d2 => ?_
  refine so_someWord b1 b2 fun z hz => ?_
  have dd := d1.trans d2
  array_get_dec
  rw [List.length_map]
  refine ⟨fun _ => ?_, fun _ => ?_⟩
  · array_get_dec
    exact q _ _ (.put z (hsome z hz)) (dd.le (by omega))
  · array_get_dec
    refine ⟨fun _ => ?_, fun _ => ?_⟩
    · array_get_dec
      refine spoon d2.bow (by omega) (by omega) fun p3 h3 c1 c2 d3 => ?_
      array_get_dec
      refine spoon d3.bow (by omega) (by omega) fun p4 h4 e1 e2 d4 => ?_
      array_get_dec
      refine so_ixP (IntIn 1 999) (by
        repeat refine all_cons (.mk (by omega) (by omega)) ?_
        exact all_nil) (by split <;> decide) (by split <;> simp) ?_
      rintro _ ⟨m, rfl, m1, m2⟩
      array_get_dec
      exact q _ _ (.again m m1 m2) (((dd.trans d3).trans d4).le (by omega))
    · array_get_dec
      refine ⟨fun _ => ?_, fun _ => ?_⟩
      · array_get_dec
        refine spoon d2.bow (by decide) (by decide) fun p3 h3 c1 c2 d3 => ?_
        array_get_dec
        refine spoon d3.bow (by decide) (by decide) fun p4 h4 e1 e2 d4 => ?_
        array_get_dec
        refine so_ixP (IntIn 1 999) (by
          repeat refine all_cons (.mk (by omega) (by omega)) ?_
          exact all_nil) e1 (by simpa using e2) ?_
        rintro _ ⟨m, rfl, m1, m2⟩
        array_get_dec
        exact q _ _ (.again m m1 m2) (((dd.trans d3).trans d4).le (by omega))
      · array_get_dec
        refine spoon d2.bow (by decide) (by decide) fun p3 h3 c1 c2 d3 => ?_
        array_get_dec
        refine spoon d3.bow (by decide) (by decide) fun p4 h4 e1 e2 d4 => ?_
        array_get_dec
        refine spoon d4.bow (by decide) (by decide) fun p5 h5 f1 f2 d5 => ?_
        array_get_dec
        refine so_ixP (IntIn 0 200) (by
          repeat refine all_cons (.mk (by omega) (by omega)) ?_
          exact all_nil) f1 (by simpa using f2) ?_
        rintro _ ⟨m, rfl, m1, m2⟩
        array_get_dec
        exact q _ _ (.room m m1 m2) ((((dd.trans d3).trans d4).trans d5).le (by omega))
end Lw

/-! LibL: the fewest that must go. -/
set_option Elab.async false
set_option linter.all false
set_option maxRecDepth 100000
set_option maxHeartbeats 4000000
namespace Lw
open PySem Dn
local macro_rules | `(tactic| sizeOf_list_dec) => `(tactic| with_reducible (first
  | refine sa_V0 ?_ | refine sa_V1 ?_ | refine sa_V2 ?_ | refine sa_V3 ?_ | refine sa_V4 ?_ | refine sa_V5 ?_ | refine sa_V6 ?_ | refine sa_V7 ?_ | refine sa_V8 ?_ | refine sa_V9 ?_ | refine sa_V10 ?_ | refine sa_V11 ?_ | refine sa_V12 ?_ | refine sa_V13 ?_ | refine sa_V14 ?_ | refine sa_V15 ?_ | refine sa_C ?_ | refine sa_B ?_ | refine sa_U ?_ | refine sa_F ?_ | refine sa_aN ?_ | refine sa_aC ?_ | refine sa_tup ?_ | refine sa_lst ?_ | refine sa_new ?_ | refine sa_tE ?_ | refine sa_If ?_ | refine sa_And ?_ | refine sa_Or ?_ | refine sa_Not ?_ | refine sa_tAnd ?_ | refine sa_tOr ?_ | refine sa_tNot ?_ | refine sa_chain ?_ | refine sa_M ?_ | refine sa_Sl ?_ | refine sa_SlN ?_ | refine sa_pN ?_ | refine sa_pE ?_ | refine sa_wE ?_ | refine sa_wR1 ?_ | refine sa_wR2 ?_ | refine sa_tYes ?_ | refine ss_nx ?_ | refine ss_seq ?_ | refine ss_asg0 ?_ | refine ss_asg1 ?_ | refine ss_asg2 ?_ | refine ss_asg3 ?_ | refine ss_asg4 ?_ | refine ss_asg5 ?_ | refine ss_asg6 ?_ | refine ss_asg7 ?_ | refine ss_asg8 ?_ | refine ss_asg9 ?_ | refine ss_asg10 ?_ | refine ss_asg11 ?_ | refine ss_asg12 ?_ | refine ss_asg13 ?_ | refine ss_asg14 ?_ | refine ss_asg15 ?_ | refine ss_expr ?_ | refine ss_ret ?_ | refine ss_retN ?_ | refine ss_if ?_ | refine ss_put ?_ | refine ss_bk ?_ | refine ss_ct ?_ | refine so_add ?_ | refine so_sub ?_ | refine so_lt ?_ | refine so_le ?_ | refine so_gt ?_ | refine so_ge ?_ | refine so_eqI ?_ | refine so_neI ?_ | refine so_eqS ?_ | refine so_neS ?_ | refine so_eqB ?_ | refine so_neB ?_ | refine so_isN ?_ | refine so_notN ?_ | refine so_len ?_ | refine so_lenT ?_ | refine so_lenC ?_ | refine so_max ?_ | refine so_min ?_ | refine so_intI ?_ | refine so_intB ?_ | refine so_ixL0 ?_ | refine so_ixL1 ?_ | refine so_ixL2 ?_ | refine so_ixL3 ?_ | refine so_ixL4 ?_ | refine so_ixL5 ?_ | refine so_ixT0 ?_ | refine so_ixT1 ?_ | refine so_ixT2 ?_ | refine so_ixT3 ?_ | refine so_ixT4 ?_ | refine so_ixT5 ?_
  | refine so_isiI_tuple ?_ | refine so_isiI_list ?_ | refine so_isiI_str ?_ | refine so_isiI_bool ?_ | refine so_isiI_int ?_ | refine so_isiS_tuple ?_ | refine so_isiS_list ?_ | refine so_isiS_str ?_ | refine so_isiS_bool ?_ | refine so_isiS_int ?_ | refine so_isiB_tuple ?_ | refine so_isiB_list ?_ | refine so_isiB_str ?_ | refine so_isiB_bool ?_ | refine so_isiB_int ?_ | refine so_isiN_tuple ?_ | refine so_isiN_list ?_ | refine so_isiN_str ?_ | refine so_isiN_bool ?_ | refine so_isiN_int ?_ | refine so_isiT_tuple ?_ | refine so_isiT_list ?_ | refine so_isiT_str ?_ | refine so_isiT_bool ?_ | refine so_isiT_int ?_ | refine so_isiL_tuple ?_ | refine so_isiL_list ?_ | refine so_isiL_str ?_ | refine so_isiL_bool ?_ | refine so_isiL_int ?_
  | refine so_mod (by decide) ?_ | refine so_mul (mulOkL (by decide)) ?_ | refine so_div (by decide) ?_ | refine so_ixR0 (by assumption) ?_ | refine so_ixR1 (by assumption) ?_ | refine so_ixR2 (by assumption) ?_ | refine so_lenR (by assumption) ?_
  | (refine so_addL (by simp only [List.length_append, List.length_cons, List.length_nil]; omega) ?_; try simp only [List.cons_append, List.nil_append])
  | refine Exists.intro _ (And.intro rfl ?_)
  | refine And.intro (show _ ≤ 16777216 by simp only [List.length_cons, List.length_nil]; omega) ?_))
local macro_rules | `(tactic| array_get_dec) => `(tactic| repeat sizeOf_list_dec)
def m_law_fewest_b : SM :=
  (sSeq (sAsg (gN 2) (eC (.int 0)))
  (sSeq (sFor (gN 3) (wR1 (eF bLen (aC (eV 1) aN))) (sSeq (sAsg (gN 2) (eB opAdd (eB opAdd (eV 2) (eF bLen (aC (eB opIx (eV 1) (eB opSub (eB opSub (eF bLen (aC (eV 1) aN)) (eC (.int 1))) (eV 3))) aN))) (eC (.int 2))))
  (sIf (tE (eB opGt (eV 2) (eV 0))) (sRet (eB opSub (eF bLen (aC (eV 1) aN)) (eV 3))) sNx)))
  (sRet (eC (.int 0)))))
def m_law_fewest : FM := fn0 2 4 m_law_fewest_b

theorem wt_pos (w : Str) : 0 < wt w := by unfold wt; omega
theorem sumW_drop_le : ∀ (ws : List Str) (g : Nat), sumW (ws.drop g) ≤ sumW ws
  | ws, 0 => Int.le_refl _
  | [], g + 1 => Int.le_refl _
  | a :: r, g + 1 => by
    have := sumW_drop_le r g
    have := wt_pos a
    simp only [List.drop_succ_cons, sumW]
    omega
theorem stay_eq {room : Int} : ∀ (ws : List Str) (g : Nat), sumW (ws.drop g) ≤ room → (g = 0 ∨ room < sumW (ws.drop (g - 1))) → stay room ws = ws.drop g
  | [], g, _, _ => by simp [stay, fit]
  | a :: r, g, h1, h2 => by
    unfold stay
    by_cases hc : room < sumW (a :: r) + 0
    · rw [fit_cons hc]
      cases g with
      | zero => simp only [List.drop_zero] at h1; omega
      | succ g =>
        rw [List.drop_succ_cons] at h1 ⊢
        refine stay_eq r g h1 ?_
        cases g with
        | zero => exact .inl rfl
        | succ g =>
          rcases h2 with h2 | h2
          · exact nomatch h2
          · exact .inr (by simpa using h2)
    · rw [fit_stop hc]
      rcases h2 with rfl | h2
      · rfl
      · have := sumW_drop_le (a :: r) (g - 1)
        omega
theorem stay_ok {room : Int} (h0 : 0 ≤ room) : ∀ ws : List Str, sumW (stay room ws) ≤ room
  | [] => by simpa [stay, fit, sumW] using h0
  | a :: r => by
    unfold stay
    by_cases hc : room < sumW (a :: r) + 0
    · rw [fit_cons hc]; exact stay_ok h0 r
    · rw [fit_stop hc]; omega
/-- how many must go -/
def gmin (room : Int) (ws : List Str) : Nat := ws.length - (stay room ws).length
theorem stay_gmin (room : Int) (ws : List Str) : stay room ws = ws.drop (gmin room ws) := fit_drop room 0 ws
theorem gmin_lt {room : Int} : ∀ ws : List Str, gmin room ws = 0 ∨ room < sumW (ws.drop (gmin room ws - 1))
  | [] => .inl rfl
  | a :: r => by
    by_cases hc : room < sumW (a :: r) + 0
    · have e : gmin room (a :: r) = gmin room r + 1 := by
        unfold gmin stay
        rw [fit_cons hc]
        have := fit_len (room := room) (x := 0) (k := r)
        simp; omega
      rw [e]
      refine .inr ?_
      rcases gmin_lt (room := room) r with h | h
      · rw [h]; simp only [Nat.zero_add, Nat.sub_self, List.drop_zero]; omega
      · cases hg : gmin room r with
        | zero => simp only [Nat.zero_add, Nat.sub_self, List.drop_zero]; omega
        | succ g =>
          rw [hg] at h
          simpa using h
    · refine .inl ?_
      unfold gmin stay
      rw [fit_stop hc]; omega
theorem gmin_le (room : Int) (ws : List Str) : gmin room ws ≤ ws.length := Nat.sub_le _ _
theorem gmin_of {room : Int} {ws : List Str} {g : Nat} (hg : g ≤ ws.length) (h1 : sumW (ws.drop g) ≤ room) (h2 : g = 0 ∨ room < sumW (ws.drop (g - 1))) : gmin room ws = g := by
  unfold gmin
  rw [stay_eq ws g h1 h2, List.length_drop]
  omega
theorem stay_drop {room : Int} (h0 : 0 ≤ room) (ws : List Str) (g0 : Nat) : stay room (ws.drop g0) = ws.drop (max g0 (gmin room ws)) := by
  have h1 : sumW (ws.drop (gmin room ws)) ≤ room := by rw [← stay_gmin]; exact stay_ok h0 ws
  have h2 := gmin_lt (room := room) ws
  by_cases hc : gmin room ws ≤ g0
  · rw [Nat.max_eq_left hc, stay_eq (ws.drop g0) 0 _ (.inl rfl)]
    · rfl
    · have := sumW_drop_le (ws.drop (gmin room ws)) (g0 - gmin room ws)
      rw [List.drop_drop, show gmin room ws + (g0 - gmin room ws) = g0 by omega] at this
      rw [List.drop_zero]
      omega
  · rw [Nat.max_eq_right (by omega), stay_eq (ws.drop g0) (gmin room ws - g0) _ _, List.drop_drop, show g0 + (gmin room ws - g0) = gmin room ws by omega]
    · rw [List.drop_drop, show g0 + (gmin room ws - g0) = gmin room ws by omega]; exact h1
    · refine .inr ?_
      rw [List.drop_drop, show g0 + (gmin room ws - g0 - 1) = gmin room ws - 1 by omega]
      rcases h2 with h2 | h2
      · omega
      · exact h2
theorem fewest {room : Int} {ws : List Str} {L : Nat} {h : Hm} {Q : D → Hm → Prop} (h0 : 0 ≤ room) (hs : Short ws) (hl : ws.length ≤ 100000) (e : h[L]? = some (.lst (ws.map D.str))) (q : Q (.int (gmin room ws)) h) : Sat (m_law_fewest [.int room, .ref L] h) Q := by
  refine sa_fn rfl ?_
  unfold m_law_fewest_b
  simp only [List.map_cons, List.map_nil, List.replicate, Nat.reduceSub, List.cons_append, List.nil_append]
  array_get_dec
  refine ss_forR ws.length (fun i v h' => h' = h ∧ sumW (ws.drop (ws.length - i)) ≤ room ∧ ∃ x3, v = [some (.int room), some (.ref L), some (.int (sumW (ws.drop (ws.length - i)))), x3]) (by
    array_get_dec
    refine ⟨by omega, by simp; omega, ?_, rfl⟩
    simp) ⟨rfl, by simpa [sumW] using h0, none, by simp [sumW]⟩ ?_ ?_
  · rintro i v h' hi ⟨rfl, hsum, x3, rfl⟩
    simp only [List.set_cons_zero, List.set_cons_succ]
    have hlt : ws.length - (i + 1) < ws.length := by omega
    have ed : ws.drop (ws.length - (i + 1)) = ws[ws.length - (i + 1)] :: ws.drop (ws.length - i) := by
      rw [List.drop_eq_getElem_cons hlt, show ws.length - (i + 1) + 1 = ws.length - i by omega]
    have hw := hs _ (List.getElem_mem hlt)
    array_get_dec
    rw [List.length_map]
    refine so_ixR (d := .str ws[ws.length - (i + 1)]) e (by
      have := atI_nat (l := ws.map D.str) (i := ws.length - (i + 1)) (x := .str ws[ws.length - (i + 1)]) (by rw [List.getElem?_map, List.getElem?_eq_getElem hlt]; rfl)
      rw [show ((ws.length - (i + 1) : Nat) : Int) = (ws.length : Int) - 1 - (i : Int) by omega] at this
      exact this) ?_
    array_get_dec
    refine so_lenS (by omega) ?_
    array_get_dec
    have es : sumW (ws.drop (ws.length - i)) + (ws[ws.length - (i + 1)].length : Int) + 2 = sumW (ws.drop (ws.length - (i + 1))) := by
      rw [ed]; simp only [sumW, wt]; omega
    rw [es]
    refine ⟨fun hc => ?_, fun hc => ?_⟩
    · have hc := of_decide_eq_true hc
      array_get_dec
      rw [List.length_map]
      have eg : gmin room ws = ws.length - i := gmin_of (by omega) hsum (.inr (by rw [show ws.length - i - 1 = ws.length - (i + 1) by omega]; exact hc))
      rw [eg] at q
      rw [show ((ws.length : Int) - (i : Int)) = ((ws.length - i : Nat) : Int) by omega]
      exact q
    · have hc := of_decide_eq_false hc
      exact ss_nx ⟨rfl, by omega, _, rfl⟩
  · rintro v h' ⟨rfl, hsum, x3, rfl⟩
    array_get_dec
    have eg : gmin room ws = 0 := gmin_of (Nat.zero_le _) (by simpa using hsum) (.inl rfl)
    rw [eg] at q
    exact q
end Lw

/-! LibM: newest, all_done, likeness of plain data. -/
set_option Elab.async false
set_option linter.all false
set_option maxRecDepth 100000
set_option maxHeartbeats 4000000
namespace Lw
open PySem Dn
local macro_rules | `(tactic| sizeOf_list_dec) => `(tactic| with_reducible (first
  | refine sa_V0 ?_ | refine sa_V1 ?_ | refine sa_V2 ?_ | refine sa_V3 ?_ | refine sa_V4 ?_ | refine sa_V5 ?_ | refine sa_V6 ?_ | refine sa_V7 ?_ | refine sa_V8 ?_ | refine sa_V9 ?_ | refine sa_V10 ?_ | refine sa_V11 ?_ | refine sa_V12 ?_ | refine sa_V13 ?_ | refine sa_V14 ?_ | refine sa_V15 ?_ | refine sa_C ?_ | refine sa_B ?_ | refine sa_U ?_ | refine sa_F ?_ | refine sa_aN ?_ | refine sa_aC ?_ | refine sa_tup ?_ | refine sa_lst ?_ | refine sa_new ?_ | refine sa_tE ?_ | refine sa_If ?_ | refine sa_And ?_ | refine sa_Or ?_ | refine sa_Not ?_ | refine sa_tAnd ?_ | refine sa_tOr ?_ | refine sa_tNot ?_ | refine sa_chain ?_ | refine sa_M ?_ | refine sa_Sl ?_ | refine sa_SlN ?_ | refine sa_pN ?_ | refine sa_pE ?_ | refine sa_wE ?_ | refine sa_wR1 ?_ | refine sa_wR2 ?_ | refine sa_tYes ?_ | refine ss_nx ?_ | refine ss_seq ?_ | refine ss_asg0 ?_ | refine ss_asg1 ?_ | refine ss_asg2 ?_ | refine ss_asg3 ?_ | refine ss_asg4 ?_ | refine ss_asg5 ?_ | refine ss_asg6 ?_ | refine ss_asg7 ?_ | refine ss_asg8 ?_ | refine ss_asg9 ?_ | refine ss_asg10 ?_ | refine ss_asg11 ?_ | refine ss_asg12 ?_ | refine ss_asg13 ?_ | refine ss_asg14 ?_ | refine ss_asg15 ?_ | refine ss_expr ?_ | refine ss_ret ?_ | refine ss_retN ?_ | refine ss_if ?_ | refine ss_put ?_ | refine ss_bk ?_ | refine ss_ct ?_ | refine so_add ?_ | refine so_sub ?_ | refine so_lt ?_ | refine so_le ?_ | refine so_gt ?_ | refine so_ge ?_ | refine so_eqI ?_ | refine so_neI ?_ | refine so_eqS ?_ | refine so_neS ?_ | refine so_eqB ?_ | refine so_neB ?_ | refine so_isN ?_ | refine so_notN ?_ | refine so_len ?_ | refine so_lenT ?_ | refine so_lenC ?_ | refine so_max ?_ | refine so_min ?_ | refine so_intI ?_ | refine so_intB ?_ | refine so_ixL0 ?_ | refine so_ixL1 ?_ | refine so_ixL2 ?_ | refine so_ixL3 ?_ | refine so_ixL4 ?_ | refine so_ixL5 ?_ | refine so_ixT0 ?_ | refine so_ixT1 ?_ | refine so_ixT2 ?_ | refine so_ixT3 ?_ | refine so_ixT4 ?_ | refine so_ixT5 ?_
  | refine so_isiI_tuple ?_ | refine so_isiI_list ?_ | refine so_isiI_str ?_ | refine so_isiI_bool ?_ | refine so_isiI_int ?_ | refine so_isiS_tuple ?_ | refine so_isiS_list ?_ | refine so_isiS_str ?_ | refine so_isiS_bool ?_ | refine so_isiS_int ?_ | refine so_isiB_tuple ?_ | refine so_isiB_list ?_ | refine so_isiB_str ?_ | refine so_isiB_bool ?_ | refine so_isiB_int ?_ | refine so_isiN_tuple ?_ | refine so_isiN_list ?_ | refine so_isiN_str ?_ | refine so_isiN_bool ?_ | refine so_isiN_int ?_ | refine so_isiT_tuple ?_ | refine so_isiT_list ?_ | refine so_isiT_str ?_ | refine so_isiT_bool ?_ | refine so_isiT_int ?_ | refine so_isiL_tuple ?_ | refine so_isiL_list ?_ | refine so_isiL_str ?_ | refine so_isiL_bool ?_ | refine so_isiL_int ?_
  | refine so_mod (by decide) ?_ | refine so_mul (mulOkL (by decide)) ?_ | refine so_div (by decide) ?_ | refine so_ixR0 (by assumption) ?_ | refine so_ixR1 (by assumption) ?_ | refine so_ixR2 (by assumption) ?_ | refine so_lenR (by assumption) ?_
  | (refine so_addL (by simp only [List.length_append, List.length_cons, List.length_nil]; omega) ?_; try simp only [List.cons_append, List.nil_append])
  | refine Exists.intro _ (And.intro rfl ?_)
  | refine And.intro (show _ ≤ 16777216 by simp only [List.length_cons, List.length_nil]; omega) ?_))
local macro_rules | `(tactic| array_get_dec) => `(tactic| repeat sizeOf_list_dec)

def m_newest_b : SM :=
  (sSeq (sAsg (gN 2) (eLc [3, 4] (gT [3, 4]) (wEnT (eB opIx (eV 0) (eC (.int 2)))) (tE (eB opEq (eV 4) (eV 1))) (eB opAdd (eB opIx (eV 0) (eC (.int 1))) (eV 3))))
  (sRet (eIf (tE (eB opNe (eV 2) (eLst aN))) (eB opIx (eV 2) (eU opNeg (eC (.int 1)))) (eC .non))))
def m_newest : FM := fn0 2 5 m_newest_b
def m_all_done_b : SM :=
  (sSeq (sFor (gN 2) (wE (eV 1)) (sAsg (gN 0) (eF m_done (aC (eV 0) (aC (eV 2) aN)))))
  (sRet (eV 0)))
def m_all_done : FM := fn0 2 3 m_all_done_b

mutual
theorem D.eqb_ok : ∀ (n : Nat) (d : D), D.okN n d = true → D.eqb d d = true
  | _, .non, _ => rfl
  | _, .bl b, _ => by simp [D.eqb]
  | _, .int i, _ => by simp [D.eqb]
  | _, .str x, _ => by simp [D.eqb]
  | 0, .tup _, h => by simp [D.okN] at h
  | 0, .lst _, h => by simp [D.okN] at h
  | n + 1, .tup l, h => D.eqbL_ok n l (by simpa [D.okN] using h)
  | n + 1, .lst l, h => D.eqbL_ok n l (by simpa [D.okN] using h)
  | _, .ref _, h => by simp [D.okN] at h
  | _, .exn _ _, h => by simp [D.okN] at h
  | _, .scr _, h => by simp [D.okN] at h
theorem D.eqbL_ok : ∀ (n : Nat) (l : List D), D.okL n l = true → D.eqbL l l = true
  | _, [], _ => rfl
  | n, x :: xs, h => by
    simp only [D.okL, Bool.and_eq_true] at h
    simp only [D.eqbL, D.eqb_ok n x h.1, D.eqbL_ok n xs h.2, Bool.and_self]
end
section
variable {X : D → Hm → Prop} {h : Hm} {Q : D → Hm → Prop}
theorem so_eqSame {x y : D} (hs : scalD x y = false) (e : dr h x = dr h y) (hk : D.okN 64 (dr h y) = true) (q : Q (.bl true) h) : SatX X (opEq x y h) Q := by
  refine so_eqD hs (e ▸ hk) hk ?_
  rw [e, D.eqb_ok _ _ hk]; exact q
theorem so_neSame {x y : D} (hs : scalD x y = false) (e : dr h x = dr h y) (hk : D.okN 64 (dr h y) = true) (q : Q (.bl false) h) : SatX X (opNe x y h) Q := by
  refine so_neD hs (e ▸ hk) hk ?_
  rw [e, D.eqb_ok _ _ hk]; exact q
theorem so_neLit0 {l : List D} (hok : D.okL 63 l = true) (q : Q (.bl (!l.isEmpty)) h) : SatX X (opNe (.lst l) (.lst []) h) Q := by
  refine so_neD rfl hok rfl ?_
  rw [show dr h (.lst l) = .lst l from rfl, show dr h (.lst []) = .lst [] from rfl]
  cases l with
  | nil => exact q
  | cons a r => exact q
theorem so_neTup0 {l : List D} (hok : D.okL 63 l = true) (q : Q (.bl (!l.isEmpty)) h) : SatX X (opNe (.tup l) (.tup []) h) Q := by
  refine so_neD rfl hok rfl ?_
  rw [show dr h (.tup l) = .tup l from rfl, show dr h (.tup []) = .tup [] from rfl]
  cases l with
  | nil => exact q
  | cons a r => exact q
theorem sa_wEnT {e : EM} {v : Ev} {Q : Wk → Hm → Prop} (s : SatX X (e v h) fun x h1 => SatX X (wEnumTOf x h1) Q) : SatX X (wEnT e v h) Q := SatX.bind s
theorem so_enTT {l : List D} {Q : Wk → Hm → Prop} (q : Q ⟨enumL l, fun _ => true⟩ h) : SatX X (wEnumTOf (.tup l) h) Q := ⟨q⟩
end
theorem okL_ints {n : Nat} : ∀ ns : List Int, D.okL n (ns.map D.int) = true
  | [] => by cases n <;> rfl
  | a :: r => by cases n <;> simp [D.okL, D.okN, okL_ints r]
theorem okL_strsN {n : Nat} {ws : List Str} (hw : ∀ w ∈ ws, PyData.strOk w = true) : D.okL n (ws.map D.str) = true := by
  induction ws with
  | nil => cases n <;> rfl
  | cons a r ih =>
    have h1 : D.okN n (.str a) = true := by
      have := hw a (by simp)
      cases n <;> simpa [D.okN] using this
    simp only [List.map_cons, D.okL, h1, Bool.true_and]
    exact ih fun w hw' => hw w (by simp [hw'])
theorem book_ok {room first : Int} {ws : List Str} {n : Nat} (hw : Words ws) : D.okN (n + 2) (bookD room first ws) = true := by
  simp [bookD, D.okN, D.okL, okL_strsN hw.ok]
section
variable {X : D → Hm → Prop} {room first : Int} {ws : List Str} {h : Hm} {Q : D → Hm → Prop}
theorem so_bk0 (q : Q (.int room) h) : SatX X (opIx (bookD room first ws) (.int 0) h) Q := so_ixT0 q
theorem so_bk1 (q : Q (.int first) h) : SatX X (opIx (bookD room first ws) (.int 1) h) Q := so_ixT1 q
theorem so_bk2 (q : Q (.tup (ws.map D.str)) h) : SatX X (opIx (bookD room first ws) (.int 2) h) Q := so_ixT2 q
end
/-- where a word stands -/
def plc (w : Str) : Int → List Str → List Int
  | _, [] => []
  | k, a :: r => if a = w then k :: plc w (k + 1) r else plc w (k + 1) r
theorem plc_snoc (w : Str) : ∀ (k : Int) (ws : List Str) (x : Str), plc w k (ws ++ [x]) = plc w k ws ++ (if x = w then [k + ws.length] else [])
  | k, [], x => by simp [plc]
  | k, a :: r, x => by
    have := plc_snoc w (k + 1) r x
    simp only [List.cons_append, plc, this, List.length_cons]
    have e : k + 1 + (r.length : Int) = k + ((r.length + 1 : Nat) : Int) := by omega
    rw [e]
    split <;> simp
theorem plc_nil {w : Str} : ∀ (k : Int) (ws : List Str), plc w k ws = [] ↔ w ∉ ws
  | k, [] => by simp [plc]
  | k, a :: r => by
    have := plc_nil (w := w) (k + 1) r
    simp only [plc]
    split
    · rename_i e; simp [e]
    · rename_i e
      rw [this]
      simp only [List.mem_cons, not_or]
      exact ⟨fun h => ⟨fun h2 => e h2.symm, h⟩, fun h => h.2⟩
theorem plc_len (w : Str) : ∀ (k : Int) (ws : List Str), (plc w k ws).length ≤ ws.length
  | k, [] => Nat.le_refl _
  | k, a :: r => by
    have := plc_len w (k + 1) r
    simp only [plc, List.length_cons]
    split
    · simp; omega
    · omega
def newD (first : Int) (ws : List Str) (w : Str) : D := match (plc w first ws).getLast? with
  | some n => .int n
  | none => .non
theorem newD_snoc {first : Int} {ws : List Str} {w : Str} : newD first (ws ++ [w]) w = .int (first + ws.length) := by
  unfold newD
  rw [plc_snoc, if_pos rfl, List.getLast?_append]
  rfl
theorem newD_none {first : Int} {ws : List Str} {w : Str} (h : w ∉ ws) : newD first ws w = .non := by
  unfold newD
  rw [(plc_nil first ws).mpr h]; rfl
theorem newD_some {first : Int} {ws : List Str} {w : Str} (h : w ∈ ws) : ∃ n, newD first ws w = .int n := by
  unfold newD
  cases e : (plc w first ws).getLast? with
  | none =>
    rw [List.getLast?_eq_none_iff] at e
    exact absurd h ((plc_nil first ws).mp e)
  | some n => exact ⟨n, rfl⟩
theorem newest {room first : Int} {ws : List Str} {w : Str} {h : Hm} {Q : D → Hm → Prop} (hl : ws.length ≤ 100000) (q : Q (newD first ws w) h) : Sat (m_newest [bookD room first ws, .str w] h) Q := by
  refine sa_fn rfl ?_
  unfold m_newest_b bookD
  simp only [List.map_cons, List.map_nil, List.replicate, Nat.reduceSub, List.cons_append, List.nil_append]
  array_get_dec
  refine sa_Lc ?_
  refine sa_wEnT ?_
  array_get_dec
  refine so_enTT ?_
  refine ⟨by simp [enumL]; omega, fun i acc h' => acc = (plc w first (ws.take i)).map D.int ∧ h' = h, ⟨rfl, rfl⟩, ?_, ?_⟩
  · rintro i x acc h' hx ⟨rfl, rfl⟩
    have hi : i < ws.length := by
      have := (List.getElem?_eq_some_iff.mp hx).1
      simpa [enumL] using this
    have hxe : x = .tup [.int i, .str ws[i]] := by
      have hx : (enumL (ws.map D.str))[i]? = some x := hx
      unfold enumL at hx
      rw [List.getElem?_mapIdx, List.getElem?_map, List.getElem?_eq_getElem hi] at hx
      injection hx with hx
      exact hx.symm
    subst hxe
    have et : ws.take (i + 1) = ws.take i ++ [ws[i]] := by rw [List.take_add_one, List.getElem?_eq_getElem hi]; rfl
    have el : ((ws.take i).length : Int) = i := by rw [List.length_take, Nat.min_eq_left (Nat.le_of_lt hi)]
    refine ⟨rfl, _, rfl, ?_⟩
    simp only [wipeE, List.foldr, List.set_cons_zero, List.set_cons_succ]
    array_get_dec
    rw [et, plc_snoc, el]
    refine ⟨fun hc => ?_, fun hc => ?_⟩
    · have hc : ws[i] = w := of_decide_eq_true hc
      array_get_dec
      rw [if_pos hc, List.map_append]
      exact ⟨rfl, rfl⟩
    · have hc : ¬ ws[i] = w := of_decide_eq_false hc
      rw [if_neg hc, List.append_nil]
      exact ⟨rfl, rfl⟩
  · rintro acc h' ⟨rfl, rfl⟩
    refine ⟨rfl, ?_⟩
    have e : (enumL (ws.map D.str)).length = ws.length := by simp [enumL]
    rw [show ws.take (enumL (ws.map D.str)).length = ws by rw [e, List.take_length]]
    have hpl := plc_len w first ws
    unfold newD at q
    array_get_dec
    refine so_neLit0 (okL_ints _) ?_
    refine ⟨_, rfl, fun hc => ?_, fun hc => ?_⟩
    · have hc : plc w first ws ≠ [] := fun e => by rw [e] at hc; exact nomatch hc
      obtain ⟨l', n, el⟩ := last_of hc
      rw [el] at q ⊢
      array_get_dec
      refine so_neg ?_
      refine so_ixL (d := .int n) (by rw [List.map_append]; exact atI_last) ?_
      rw [List.getLast?_append] at q
      exact q
    · have hc : plc w first ws = [] := by
        cases e : plc w first ws with
        | nil => rfl
        | cons a r => rw [e] at hc; exact nomatch hc
      rw [hc] at q
      array_get_dec
      exact q
/-- deeds done one behind the other -/
theorem all_done {ds : List D} {d : D} {h : Hm} {Q : D → Hm → Prop} (hd : d = .lst ds ∨ ∃ n, d = .ref n ∧ h[n]? = some (.lst ds)) (bk : Nat → D) (hs : ∀ i x, ds[i]? = some x → ∀ P : D → Hm → Prop, P (bk (i + 1)) h → Sat (m_done [bk i, x] h) P) (q : Q (bk ds.length) h) : Sat (m_all_done [bk 0, d] h) Q := by
  refine sa_fn rfl ?_
  unfold m_all_done_b
  simp only [List.map_cons, List.map_nil, List.replicate, Nat.reduceSub, List.cons_append, List.nil_append]
  array_get_dec
  have key : Sat (wkOf d h) fun k h1 => k.its = ds ∧ k.chk h = true ∧ h1 = h := by
    rcases hd with rfl | ⟨n, rfl, e⟩
    · exact so_wkL ⟨rfl, rfl, rfl⟩
    · exact so_wkR e ⟨rfl, chkR e, rfl⟩
  refine ss_for (sa_wE (sa_V1 (key.imp ?_)))
  rintro k _ ⟨rfl, hc, rfl⟩
  refine ⟨fun i v h' => h' = _ ∧ ∃ x2, v = [some (bk i), some d, x2], ⟨rfl, _, rfl⟩, ?_, ?_⟩
  · rintro i x v h' hx ⟨rfl, x2, rfl⟩
    refine ⟨hc, _, rfl, ?_⟩
    simp only [List.set_cons_zero, List.set_cons_succ]
    array_get_dec
    refine hs i x hx _ ?_
    exact ⟨rfl, _, rfl⟩
  · rintro v h' ⟨rfl, x2, rfl⟩
    refine ⟨hc, ?_⟩
    array_get_dec
    exact q
end Lw

/-! LibR: reeds: draws, words, books, likeness (the second family of drawings). -/
set_option Elab.async false
set_option linter.all false
set_option maxRecDepth 100000
set_option maxHeartbeats 4000000
namespace Lw
open PySem Dn
local macro_rules | `(tactic| sizeOf_list_dec) => `(tactic| with_reducible (first
  | refine sa_V0 ?_ | refine sa_V1 ?_ | refine sa_V2 ?_ | refine sa_V3 ?_ | refine sa_V4 ?_ | refine sa_V5 ?_ | refine sa_V6 ?_ | refine sa_V7 ?_ | refine sa_V8 ?_ | refine sa_V9 ?_ | refine sa_V10 ?_ | refine sa_V11 ?_ | refine sa_V12 ?_ | refine sa_V13 ?_ | refine sa_V14 ?_ | refine sa_V15 ?_ | refine sa_C ?_ | refine sa_B ?_ | refine sa_U ?_ | refine sa_F ?_ | refine sa_aN ?_ | refine sa_aC ?_ | refine sa_tup ?_ | refine sa_lst ?_ | refine sa_new ?_ | refine sa_tE ?_ | refine sa_If ?_ | refine sa_And ?_ | refine sa_Or ?_ | refine sa_Not ?_ | refine sa_tAnd ?_ | refine sa_tOr ?_ | refine sa_tNot ?_ | refine sa_chain ?_ | refine sa_M ?_ | refine sa_Sl ?_ | refine sa_SlN ?_ | refine sa_pN ?_ | refine sa_pE ?_ | refine sa_wE ?_ | refine sa_wR1 ?_ | refine sa_wR2 ?_ | refine sa_tYes ?_ | refine ss_nx ?_ | refine ss_seq ?_ | refine ss_asg0 ?_ | refine ss_asg1 ?_ | refine ss_asg2 ?_ | refine ss_asg3 ?_ | refine ss_asg4 ?_ | refine ss_asg5 ?_ | refine ss_asg6 ?_ | refine ss_asg7 ?_ | refine ss_asg8 ?_ | refine ss_asg9 ?_ | refine ss_asg10 ?_ | refine ss_asg11 ?_ | refine ss_asg12 ?_ | refine ss_asg13 ?_ | refine ss_asg14 ?_ | refine ss_asg15 ?_ | refine ss_expr ?_ | refine ss_ret ?_ | refine ss_retN ?_ | refine ss_if ?_ | refine ss_put ?_ | refine ss_bk ?_ | refine ss_ct ?_ | refine so_add ?_ | refine so_sub ?_ | refine so_lt ?_ | refine so_le ?_ | refine so_gt ?_ | refine so_ge ?_ | refine so_eqI ?_ | refine so_neI ?_ | refine so_eqS ?_ | refine so_neS ?_ | refine so_eqB ?_ | refine so_neB ?_ | refine so_isN ?_ | refine so_notN ?_ | refine so_len ?_ | refine so_lenT ?_ | refine so_lenC ?_ | refine so_max ?_ | refine so_min ?_ | refine so_intI ?_ | refine so_intB ?_ | refine so_ixL0 ?_ | refine so_ixL1 ?_ | refine so_ixL2 ?_ | refine so_ixL3 ?_ | refine so_ixL4 ?_ | refine so_ixL5 ?_ | refine so_ixT0 ?_ | refine so_ixT1 ?_ | refine so_ixT2 ?_ | refine so_ixT3 ?_ | refine so_ixT4 ?_ | refine so_ixT5 ?_
  | refine so_isiI_tuple ?_ | refine so_isiI_list ?_ | refine so_isiI_str ?_ | refine so_isiI_bool ?_ | refine so_isiI_int ?_ | refine so_isiS_tuple ?_ | refine so_isiS_list ?_ | refine so_isiS_str ?_ | refine so_isiS_bool ?_ | refine so_isiS_int ?_ | refine so_isiB_tuple ?_ | refine so_isiB_list ?_ | refine so_isiB_str ?_ | refine so_isiB_bool ?_ | refine so_isiB_int ?_ | refine so_isiN_tuple ?_ | refine so_isiN_list ?_ | refine so_isiN_str ?_ | refine so_isiN_bool ?_ | refine so_isiN_int ?_ | refine so_isiT_tuple ?_ | refine so_isiT_list ?_ | refine so_isiT_str ?_ | refine so_isiT_bool ?_ | refine so_isiT_int ?_ | refine so_isiL_tuple ?_ | refine so_isiL_list ?_ | refine so_isiL_str ?_ | refine so_isiL_bool ?_ | refine so_isiL_int ?_
  | refine so_mod (by decide) ?_ | refine so_mul (mulOkL (by decide)) ?_ | refine so_div (by decide) ?_ | refine so_ixR0 (by assumption) ?_ | refine so_ixR1 (by assumption) ?_ | refine so_ixR2 (by assumption) ?_ | refine so_lenR (by assumption) ?_
  | (refine so_addL (by simp only [List.length_append, List.length_cons, List.length_nil]; omega) ?_; try simp only [List.cons_append, List.nil_append])
  | refine Exists.intro _ (And.intro rfl ?_)
  | refine And.intro (show _ ≤ 16777216 by simp only [List.length_cons, List.length_nil]; omega) ?_))
local macro_rules | `(tactic| array_get_dec) => `(tactic| repeat sizeOf_list_dec)
def m_law_reed_b : SM :=
  (sSeq (sAsg (gN 2) (eB opAdd (eB opMul (eC (.int 104729)) (eV 1)) (eC (.int 8191))))
  (sSeq (sIf (tE (eB opLt (eV 1) (eF bLen (aC (eV 0) aN)))) (sAsg (gN 2) (eB opIx (eV 0) (eV 1))) sNx)
  (sSeq (sAsg (gN 3) (eC (.int 0)))
  (sSeq (sIf (tE (eB opGe (eV 2) (eB opPow (eC (.int 10)) (eC (.int 18))))) (sAsg (gN 3) (eB opSub (eV 2) (eB opPow (eC (.int 10)) (eC (.int 18))))) sNx)
  (sRet (eNew (aC (eV 3) (aC (eB opAdd (eB opMod (eV 2) (eC (.int 2305843009213693951))) (eB opMul (eC (.int 31)) (eV 1))) (aC (eC (.int 0)) aN)))))))))
def m_law_reed : FM := fn0 2 4 m_law_reed_b
def m_law_sip_b : SM :=
  (sSeq (sIf (tE (eB opGe (eB opIx (eV 0) (eC (.int 0))) (eV 1))) (sSeq (sAsg (gN 6) (eB opMod (eB opIx (eV 0) (eC (.int 0))) (eV 1)))
  (sSeq (sPut (eV 0) (eC (.int 0)) (eB opDiv (eB opIx (eV 0) (eC (.int 0))) (eV 1)))
  (sRet (eV 6)))) sNx)
  (sSeq (sPut (eV 0) (eC (.int 2)) (eB opAdd (eB opIx (eV 0) (eC (.int 2))) (eC (.int 1))))
  (sSeq (sAsg (gN 2) (eLst (aC (eC (.int 2147483647)) (aC (eC (.int 2147483629)) (aC (eC (.int 2147483587)) (aC (eC (.int 2147483579)) (aC (eC (.int 2147483563)) (aC (eC (.int 2147483549)) (aC (eC (.int 2147483543)) (aC (eC (.int 2147483497)) aN))))))))))
  (sSeq (sAsg (gN 3) (eB opIx (eV 2) (eB opMod (eB opIx (eV 0) (eC (.int 2))) (eC (.int 8)))))
  (sSeq (sAsg (gN 4) (eB opAdd (eB opMul (eB opMod (eB opIx (eV 0) (eC (.int 1))) (eV 3)) (eB opAdd (eB opMul (eC (.int 2)) (eB opIx (eV 0) (eC (.int 2)))) (eC (.int 1)))) (eB opMul (eC (.int 7919)) (eB opIx (eV 0) (eC (.int 2))))))
  (sSeq (sAsg (gN 4) (eB opMod (eB opPow (eV 4) (eC (.int 3))) (eV 3)))
  (sSeq (sAsg (gN 5) (eB opAdd (eB opAdd (eB opMul (eV 4) (eV 4)) (eB opMod (eB opIx (eV 0) (eC (.int 1))) (eC (.int 1000003)))) (eB opIx (eV 0) (eC (.int 2)))))
  (sRet (eB opMod (eB opDiv (eB opMod (eB opPow (eV 5) (eC (.int 5))) (eB opIx (eV 2) (eB opMod (eB opAdd (eB opIx (eV 0) (eC (.int 2))) (eC (.int 3))) (eC (.int 8))))) (eC (.int 7))) (eV 1))))))))))
def m_law_sip : FM := fn0 2 7 m_law_sip_b
def m_law_words_b : SM :=
  (sSeq (sAsg (gN 2) (eC (.str (Str.ofString "abcdefghijklmnopqrstuvwxyz"))))
  (sSeq (sAsg (gN 3) (eNew aN))
  (sSeq (sWh (tE (eB opLt (eF bLen (aC (eV 3) aN)) (eV 1))) (sSeq (sAsg (gN 4) (eF m_law_sip (aC (eV 0) (aC (eC (.int 7)) aN))))
  (sSeq (sAsg (gN 5) (eB opIx (eLst (aC (eC (.int 1)) (aC (eC (.int 2)) (aC (eC (.int 3)) (aC (eB opAdd (eC (.int 1)) (eF m_law_sip (aC (eV 0) (aC (eC (.int 12)) aN)))) (aC (eC (.int 12)) (aC (eC (.int 4)) (aC (eC (.int 5)) aN)))))))) (eV 4)))
  (sSeq (sAsg (gN 6) (eM "str" mJoin (eC (.str (Str.ofString ""))) (aC (eLc [9] (gN 9) (wR1 (eV 5)) tYes (eB opIx (eV 2) (eF m_law_sip (aC (eV 0) (aC (eC (.int 26)) aN))))) aN)))
  (sSeq (sIf (tAnd (tE (eB opGt (eV 4) (eC (.int 4)))) (tE (eB opNe (eV 3) (eLst aN)))) (sSeq (sAsg (gN 8) (eF m_law_sip (aC (eV 0) (aC (eF bLen (aC (eB opIx (eV 3) (eU opNeg (eC (.int 1)))) aN)) aN))))
  (sAsg (gN 6) (eB opIx (eLst (aC (eB opAdd (eB opAdd (eSl (eB opIx (eV 3) (eU opNeg (eC (.int 1)))) pN (pE (eV 8))) (eB opIx (eV 6) (eC (.int 0)))) (eSl (eB opIx (eV 3) (eU opNeg (eC (.int 1)))) (pE (eB opAdd (eV 8) (eC (.int 1)))) pN)) (aC (eSl (eB opAdd (eB opIx (eV 3) (eU opNeg (eC (.int 1)))) (eV 6)) pN (pE (eC (.int 12)))) aN))) (eB opSub (eV 4) (eC (.int 5)))))) sNx)
  (sSeq (sAsg (gN 7) (eLc [8] (gN 8) (wR1 (eB opAdd (eF bLen (aC (eV 3) aN)) (eC (.int 1)))) tYes (eSl (eB opAdd (eB opAdd (eV 6) (eB opIx (eV 2) (eB opDiv (eV 8) (eC (.int 26))))) (eB opIx (eV 2) (eB opMod (eV 8) (eC (.int 26))))) (pE (eU opNeg (eC (.int 12)))) pN)))
  (sExpr (eM "list" mAppend (eV 3) (aC (eB opIx (eLc [10] (gN 10) (wE (eB opAdd (eLst (aC (eV 6) aN)) (eV 7))) (tE (eB opNotIn (eV 10) (eV 3))) (eV 10)) (eC (.int 0))) aN)))))))))
  (sRet (eU fz (eV 3))))))
def m_law_words : FM := tr (fn0 2 11 m_law_words_b)
def m_law_weight_b : SM :=
  (sRet (eF bSum (aC (eLc [1] (gN 1) (wE (eV 0)) tYes (eB opAdd (eF bLen (aC (eV 1) aN)) (eC (.int 2)))) aN)))
def m_law_weight : FM := fn0 1 2 m_law_weight_b
def m_law_fit_b : SM :=
  (sSeq (sAsg (gN 3) (eC (.int 0)))
  (sSeq (sWh (tE (eB opGt (eF m_law_weight (aC (eSl (eV 2) (pE (eV 3)) pN) aN)) (eV 0))) (sAsg (gN 3) (eB opAdd (eV 3) (eC (.int 1)))))
  (sRet (eTup (aC (eV 0) (aC (eB opAdd (eV 1) (eV 3)) (aC (eF bTuple (aC (eSl (eV 2) (pE (eV 3)) pN) aN)) aN)))))))
def m_law_fit : FM := fn0 3 4 m_law_fit_b
def m_law_book_r_b : SM :=
  (sSeq (sAsg (gN 2) (eF m_law_sip (aC (eV 0) (aC (eC (.int 4)) aN))))
  (sSeq (sAsg (gN 3) (eF m_law_sip (aC (eV 0) (aC (eC (.int 4)) aN))))
  (sSeq (sAsg (gN 4) (eF m_law_sip (aC (eV 0) (aC (eB opIx (eLst (aC (eC (.int 4)) (aC (eC (.int 9)) (aC (eC (.int 25)) (aC (eC (.int 70)) aN))))) (eF m_law_sip (aC (eV 0) (aC (eC (.int 4)) aN)))) aN))))
  (sSeq (sAsg (gN 5) (eB opIx (eLst (aC (eF m_law_sip (aC (eV 0) (aC (eC (.int 201)) aN))) (aC (eF m_law_sip (aC (eV 0) (aC (eC (.int 30)) aN))) (aC (eC (.int 200)) (aC (eB opAdd (eC (.int 14)) (eF m_law_sip (aC (eV 0) (aC (eC (.int 60)) aN)))) aN))))) (eV 2)))
  (sSeq (sAsg (gN 6) (eB opIx (eLst (aC (eC (.int 0)) (aC (eC (.int 0)) (aC (eF m_law_sip (aC (eV 0) (aC (eC (.int 30)) aN))) (aC (eF m_law_sip (aC (eV 0) (aC (eC (.int 9800)) aN))) aN))))) (eV 3)))
  (sRet (eF m_law_fit (aC (eV 5) (aC (eV 6) (aC (eLc [7] (gN 7) (wR1 (eV 4)) tYes (eB opIx (eV 1) (eF m_law_sip (aC (eV 0) (aC (eF bLen (aC (eV 1) aN)) aN))))) aN))))))))))
def m_law_book_r : FM := fn0 2 8 m_law_book_r_b
def m_law_same_r_b (n : Nat) (m_law_same_rr : FM) : SM :=
  (sSeq (sIf (tE (eU (isi2 "tuple" "list") (eV 1))) (sSeq (sIf (tOr (tE (eB opNe (eU (isi "tuple") (eV 0)) (eU (isi "tuple") (eV 1)))) (tE (eB opNe (eU (isi "list") (eV 0)) (eU (isi "list") (eV 1))))) (sRet (eC (.bl false))) sNx)
  (sRet (eAnd (eB opEq (eF bLen (aC (eV 0) aN)) (eF bLen (aC (eV 1) aN))) (eF bAll (aC (eLc [2, 3] (gT [2, 3]) (wZip (eV 0) (eV 1)) tYes (eF m_law_same_rr (aC (eV 2) (aC (eV 3) aN)))) aN))))) sNx)
  (sSeq (sIf (tE (eB opIsN (eV 1) (eC .non))) (sRet (eB opIsN (eV 0) (eC .non))) sNx)
  (sSeq (sIf (tE (eU (isi "bool") (eV 1))) (sRet (eAnd (eU (isi "bool") (eV 0)) (eB opEq (eV 0) (eV 1)))) sNx)
  (sSeq (sIf (tE (eU (isi "int") (eV 1))) (sRet (eAnd (eU (isi "int") (eV 0)) (eAnd (eNot (eU (isi "bool") (eV 0))) (eB opEq (eV 0) (eV 1))))) sNx)
  (sRet (eAnd (eU (isi "str") (eV 0)) (eB opEq (eV 0) (eV 1))))))))
def m_law_same_r : Nat → FM
  | 0 => fun _ _ => .err
  | n + 1 => fn0 2 4 (m_law_same_r_b n (m_law_same_r n))
theorem sip0 {h : Hm} {n B : Nat} {a b c many : Int} {Q : D → Hm → Prop} (w : Bowl h n (B + 1) a b c) (h1 : 1 ≤ many) (h2 : many < 1073741824)
    (q : ∀ v a' c', 0 ≤ v → v < many → Bowl (h.set n (.lst [.int a', .int b, .int c'])) n B a' b c' → Q (.int v) (h.set n (.lst [.int a', .int b, .int c']))) : Sat (m_law_sip [.ref n, .int many] h) Q := by
  obtain ⟨e, a0, b0, c0, cB⟩ := w
  have hn : n < h.length := (List.getElem?_eq_some_iff.mp e).1
  refine sa_fn rfl ?_
  unfold m_law_sip_b
  simp only [List.map_cons, List.map_nil, List.replicate, Nat.reduceSub, List.cons_append, List.nil_append]
  array_get_dec
  refine ⟨fun hc => ?_, fun hc => ?_⟩
  · have hc : many ≤ a := by simpa using hc
    array_get_dec
    refine so_mod (by omega) ?_
    array_get_dec
    refine so_div ⟨by omega, h2⟩ ?_
    array_get_dec
    refine so_put (j := 0) e rfl ?_
    simp only [List.set_cons_zero]
    array_get_dec
    refine q _ _ _ (Int.emod_nonneg _ (by omega)) (Int.emod_lt_of_pos _ (by omega)) ⟨List.getElem?_set_self hn, Int.ediv_nonneg a0 (by omega), b0, c0, by omega⟩
  · array_get_dec
    refine so_put (j := 2) e rfl ?_
    simp only [List.set_cons_zero, List.set_cons_succ]
    have e2 : (h.set n (.lst [.int a, .int b, .int (c + 1)]))[n]? = some (.lst [.int a, .int b, .int (c + 1)]) := List.getElem?_set_self hn
    generalize hh : h.set n (.lst [.int a, .int b, .int (c + 1)]) = h' at e2
    array_get_dec
    refine so_ixP (IntIn 2147483200 2147483700) (by
      repeat refine all_cons (.mk (by decide) (by decide)) ?_
      exact all_nil) (Int.emod_nonneg _ (by decide)) (Int.emod_lt_of_pos _ (by decide)) ?_
    rintro _ ⟨p, rfl, p1, p2⟩
    array_get_dec
    refine so_mod (by omega) ?_
    array_get_dec
    have m1 : 0 ≤ b % p := Int.emod_nonneg _ (by omega)
    have m2 : b % p < p := Int.emod_lt_of_pos _ (by omega)
    refine so_mul (mulOkL ⟨by omega, by omega⟩) ?_
    array_get_dec
    have k1 : 0 ≤ b % p * (2 * (c + 1) + 1) := Int.mul_nonneg m1 (by omega)
    have k2 : b % p * (2 * (c + 1) + 1) ≤ 2147483700 * 2000000003 := Int.mul_le_mul (by omega) (by omega) (by omega) (by decide)
    generalize b % p * (2 * (c + 1) + 1) = t at k1 k2 ⊢
    refine so_pow ⟨by decide, by decide, by omega, by omega⟩ ?_
    array_get_dec
    refine so_mod (by omega) ?_
    array_get_dec
    have u1 : 0 ≤ (t + 7919 * (c + 1)) ^ (3 : Int).toNat % p := Int.emod_nonneg _ (by omega)
    have u2 : (t + 7919 * (c + 1)) ^ (3 : Int).toNat % p < p := Int.emod_lt_of_pos _ (by omega)
    generalize (t + 7919 * (c + 1)) ^ (3 : Int).toNat % p = u at u1 u2 ⊢
    refine so_mul (mulOkL ⟨by omega, by omega⟩) ?_
    array_get_dec
    have w1 : 0 ≤ u * u := Int.mul_nonneg u1 u1
    have w2 : u * u ≤ 2147483700 * 2147483700 := Int.mul_le_mul (by omega) (by omega) u1 (by decide)
    generalize u * u = uu at w1 w2 ⊢
    have x1 : 0 ≤ b % 1000003 := Int.emod_nonneg _ (by decide)
    have x2 : b % 1000003 < 1000003 := Int.emod_lt_of_pos _ (by decide)
    generalize b % 1000003 = bb at x1 x2 ⊢
    refine so_pow ⟨by decide, by decide, by omega, by omega⟩ ?_
    array_get_dec
    refine so_ixP (IntIn 2147483200 2147483700) (by
      repeat refine all_cons (.mk (by decide) (by decide)) ?_
      exact all_nil) (Int.emod_nonneg _ (by decide)) (Int.emod_lt_of_pos _ (by decide)) ?_
    rintro _ ⟨p', rfl, p3, p4⟩
    refine so_mod (by omega) ?_
    array_get_dec
    refine so_mod (by omega) ?_
    subst hh
    exact q _ _ _ (Int.emod_nonneg _ (by omega)) (Int.emod_lt_of_pos _ (by omega)) ⟨e2, a0, b0, by omega, by omega⟩

theorem sip {n B : Nat} {h : Hm} {many : Int} {Q : D → Hm → Prop} (w : Bow n (B + 1) h) (h1 : 1 ≤ many) (h2 : many < 1073741824) (q : ∀ v h', 0 ≤ v → v < many → Drew n B h h' → Q (.int v) h') : Sat (m_law_sip [.ref n, .int many] h) Q := by
  obtain ⟨a, b, c, w⟩ := w
  exact sip0 w h1 h2 fun v a' c' v0 v1 w' => q v _ v0 v1 ⟨⟨a', b, c', w'⟩, by simp, fun m hm => List.getElem?_set_ne (Ne.symm hm)⟩

/-! ### a bowl is made -/
theorem reed_new {h : Hm} {ns : List Int} {k : Int} {Q : D → Hm → Prop} (h0 : 0 ≤ k) (q : ∀ h', Bow h.length 1000000000 h' → h'.length = h.length + 1 → (∀ m, m < h.length → h'[m]? = h[m]?) → Q (.ref h.length) h') : Sat (m_law_reed [.scr ns, .int k] h) Q := by
  have fin : ∀ cell rest : Int, 0 ≤ rest → Q (.ref h.length) (h ++ [.lst [.int rest, .int (cell % 2305843009213693951 + 31 * k), .int 0]]) := fun cell rest hr =>
    q _ ⟨rest, cell % 2305843009213693951 + 31 * k, 0, by simp, hr, by have := Int.emod_nonneg cell (show (2305843009213693951 : Int) ≠ 0 by decide); omega, by decide, by decide⟩ (by simp) (fun m hm => List.getElem?_append_left hm)
  have go : ∀ (cell : Int), SatS (sSeq (sAsg (gN 3) (eC (.int 0)))
      (sSeq (sIf (tE (eB opGe (eV 2) (eB opPow (eC (.int 10)) (eC (.int 18))))) (sAsg (gN 3) (eB opSub (eV 2) (eB opPow (eC (.int 10)) (eC (.int 18))))) sNx)
      (sRet (eNew (aC (eV 3) (aC (eB opAdd (eB opMod (eV 2) (eC (.int 2305843009213693951))) (eB opMul (eC (.int 31)) (eV 1))) (aC (eC (.int 0)) aN)))))) [some (.scr ns), some (.int k), some (.int cell), none] h) (fun _ h1 => Q .non h1) Q := fun cell => by
    array_get_dec
    refine so_pow ⟨by decide, by decide, by decide, by decide⟩ ?_
    array_get_dec
    refine ⟨fun hc => ?_, fun hc => ?_⟩
    · array_get_dec
      refine so_pow ⟨by decide, by decide, by decide, by decide⟩ ?_
      array_get_dec
      refine fin cell _ ?_
      have : (10 : Int) ^ (18 : Int).toNat ≤ cell := of_decide_eq_true hc
      omega
    · array_get_dec
      exact fin cell 0 (by decide)
  refine sa_fn rfl ?_
  unfold m_law_reed_b
  simp only [List.map_cons, List.map_nil, List.replicate, Nat.reduceSub, List.cons_append, List.nil_append]
  array_get_dec
  refine ⟨fun hc => ?_, fun hc => ?_⟩
  · array_get_dec
    have hc : k < ns.length := of_decide_eq_true hc
    obtain ⟨x, e, _⟩ := atI_in (l := ns) h0 hc
    refine so_ixC e ?_
    exact go x
  · exact ss_nx (go _)


theorem lweight {t : List D → D} {ws : List Str} {h : Hm} {Q : D → Hm → Prop} (ht : t = D.tup ∨ t = D.lst) (hs : Short ws) (hl : ws.length ≤ 16777215) (q : Q (.int (sumW ws)) h) : Sat (m_law_weight [t (ws.map D.str)] h) Q := by
  refine sa_fn rfl ?_
  unfold m_law_weight_b
  simp only [List.map_cons, List.map_nil, List.replicate, Nat.reduceSub, List.cons_append, List.nil_append]
  array_get_dec
  refine sa_LcMap (l := ws.map D.str) (fun x => match x with
    | .str w => .int (wt w)
    | _ => .non) (by simpa using hl) (by
      array_get_dec
      rcases ht with rfl | rfl
      · exact so_wkT ⟨rfl, rfl⟩
      · exact so_wkL ⟨rfl, rfl⟩) ?_ ?_
  · intro x hx P p
    obtain ⟨w, hw, rfl⟩ := List.mem_map.mp hx
    simp only [wipeE, List.foldr, List.set_cons_zero, List.set_cons_succ]
    array_get_dec
    have := hs w hw
    refine so_lenS (by omega) ?_
    array_get_dec
    exact p
  · array_get_dec
    rw [show (ws.map D.str).map (fun x => match x with
      | .str w => .int (wt w)
      | _ => .non) = (ws.map wt).map D.int by simp]
    exact so_sum (by rw [sum_wt]; exact q)
theorem lfit {room first : Int} {ws : List Str} {h : Hm} {Q : D → Hm → Prop} (h0 : 0 ≤ room) (hs : Short ws) (hl : ws.length ≤ 100000) (q : Q (bookD room (first + ((ws.length - (stay room ws).length : Nat) : Int)) (stay room ws)) h) : Sat (m_law_fit [.int room, .int first, .lst (ws.map D.str)] h) Q := by
  refine sa_fn rfl ?_
  unfold m_law_fit_b
  simp only [List.map_cons, List.map_nil, List.replicate, Nat.reduceSub, List.cons_append, List.nil_append]
  array_get_dec
  refine ss_wh (fun v h' => ∃ g : Nat, h' = h ∧ g ≤ ws.length ∧ fit room 0 (ws.drop g) = stay room ws ∧ v = [some (.int room), some (.int first), some (.lst (ws.map D.str)), some (.int g)]) (fun v _ => match v with
    | _ :: _ :: _ :: some (.int g) :: _ => ws.length - g.toNat
    | _ => 0) ⟨0, rfl, Nat.zero_le _, rfl, rfl⟩ (by show ws.length - (0 : Int).toNat < 1000000; omega) ?_
  rintro v h' ⟨g, rfl, hg, hf, rfl⟩
  array_get_dec
  refine so_slL ?_
  rw [cutT_from]
  array_get_dec
  refine lweight (.inr rfl) (hs.drop g) (by simp; omega) ?_
  array_get_dec
  refine ⟨fun hc => ?_, fun hc => ?_⟩
  · have hc : room < sumW (ws.drop g) := of_decide_eq_true hc
    have hlt : g < ws.length := by
      refine Nat.lt_of_le_of_ne hg fun e => ?_
      rw [e, List.drop_length] at hc
      simp only [sumW] at hc
      omega
    have ed : ws.drop g = ws[g] :: ws.drop (g + 1) := List.drop_eq_getElem_cons hlt
    array_get_dec
    refine ⟨⟨g + 1, rfl, by omega, ?_, rfl⟩, ?_⟩
    · rw [← hf, ed, fit_cons (by rw [← ed]; omega)]
    · show ws.length - ((g : Int) + 1).toNat < ws.length - (g : Int).toNat
      omega
  · have hc : ¬ room < sumW (ws.drop g) := of_decide_eq_false hc
    have hst : stay room ws = ws.drop g := by rw [← hf, fit_stop (by omega)]
    array_get_dec
    refine so_slL ?_
    rw [cutT_from]
    array_get_dec
    refine so_tuple ?_
    array_get_dec
    rw [hst] at q
    rw [List.length_drop, show ws.length - (ws.length - g) = g by omega] at q
    exact q


theorem words_tail {n B K : Nat} {many way size : Int} {ws : List Str} {l : List Nat} {h h4 : Hm} {x7 x8 x9 x10 : Option D} {N : Ev → Hm → Prop} {T : D → Hm → Prop} {Bk Gk : Ev → Hm → Prop} (hl : ws.length ≤ 600) (l1 : 1 ≤ l.length) (l2 : l.length ≤ 12) (l3 : ∀ c ∈ l, small c) (d4 : DrewX n K h h4) (e4 : h4[h.length]? = some (.lst (ws.map D.str)))
    (hN : ∀ x7 x8 x9 x10 x h5, IsW x → x ∉ ws → DrewX n K h h5 → h5[h.length]? = some (.lst ((ws ++ [x]).map D.str)) → N [some (.ref n), some (.int many), some (.str (Str.ofString "abcdefghijklmnopqrstuvwxyz")), some (.ref h.length), some (.int way), some (.int size), some (.str (S l)), x7, x8, x9, x10] h5) :
    SatS ((sSeq (sAsg (gN 7) (eLc [8] (gN 8) (wR1 (eB opAdd (eF bLen (aC (eV 3) aN)) (eC (.int 1)))) tYes (eSl (eB opAdd (eB opAdd (eV 6) (eB opIx (eV 2) (eB opDiv (eV 8) (eC (.int 26))))) (eB opIx (eV 2) (eB opMod (eV 8) (eC (.int 26))))) (pE (eU opNeg (eC (.int 12)))) pN)))
  (sExpr (eM "list" mAppend (eV 3) (aC (eB opIx (eLc [10] (gN 10) (wE (eB opAdd (eLst (aC (eV 6) aN)) (eV 7))) (tE (eB opNotIn (eV 10) (eV 3))) (eV 10)) (eC (.int 0))) aN))))
      [some (.ref n), some (.int many), some (.str (Str.ofString "abcdefghijklmnopqrstuvwxyz")), some (.ref h.length), some (.int way), some (.int size), some (.str (S l)), x7, x8, x9, x10] h4) N T Bk Gk := by
  array_get_dec
  refine sa_LcMap (l := (List.range (ws.length + 1)).map fun (k : Nat) => .int (k : Int)) (fun x => match x with
    | .int k => .str (S (spareL l k.toNat))
    | _ => .non) (by simp; omega) (by
      array_get_dec
      refine ⟨by omega, by simp; omega, ?_, rfl⟩
      simp) ?_ ?_
  · intro x hx P p
    obtain ⟨k, hk, rfl⟩ := List.mem_map.mp hx
    have hk : k < ws.length + 1 := by simpa using hk
    simp only [wipeE, List.foldr, List.set_cons_zero, List.set_cons_succ]
    array_get_dec
    refine so_ixS (by rw [abc_len]; decide) (abc_exact (i := (k : Int) / 26) (by omega) (by omega)) ?_
    rw [show (⟨#[97 + ((k : Int) / 26).toNat]⟩ : Str) = S [97 + k / 26] by
      have : ((k : Int) / 26).toNat = k / 26 := by omega
      rw [this]; rfl]
    refine so_addS (by rw [S_len, S_len]; simp; omega) ?_
    rw [S_app]
    array_get_dec
    refine so_ixS (by rw [abc_len]; decide) (abc_exact (i := (k : Int) % 26) (by omega) (by omega)) ?_
    rw [show (⟨#[97 + ((k : Int) % 26).toNat]⟩ : Str) = S [97 + k % 26] by
      have : ((k : Int) % 26).toNat = k % 26 := by omega
      rw [this]; rfl]
    refine so_addS (by rw [S_len, S_len]; simp; omega) ?_
    rw [S_app]
    array_get_dec
    refine so_neg ?_
    refine ⟨_, rfl, ?_⟩
    array_get_dec
    refine so_slS (by rw [S_len]; simp; omega) ?_
    rw [cut_last (by decide)]
    have e : (-12 + (((l ++ [97 + k / 26] ++ [97 + k % 26]).length : Nat) : Int)).toNat = l.length + 2 - 12 := by
      simp; omega
    rw [show -(12 : Int) = -12 from rfl, e]
    exact p
  · array_get_dec
    have es : ((List.range (ws.length + 1)).map fun (k : Nat) => D.int (k : Int)).map (fun x => match x with
      | .int k => .str (S (spareL l k.toNat))
      | _ => .non) = (spares l (ws.length + 1)).map D.str := by
      simp [spares]
    rw [es]
    have e4' := e4
    refine ⟨rcR e4, ?_⟩
    array_get_dec
    refine sa_LcFil (l := (S l :: spares l (ws.length + 1)).map D.str) (notIn ws) id (by simp [spares]; omega) (by
      array_get_dec
      refine so_addL (by simp [spares]; omega) ?_
      exact so_wkL ⟨rfl, rfl⟩) ?_ ?_ ?_
    · intro x hx P p
      obtain ⟨z, hz, rfl⟩ := List.mem_map.mp hx
      simp only [wipeE, List.foldr, List.set_cons_zero, List.set_cons_succ]
      array_get_dec
      exact so_notInStr e4 ⟨_, rfl, p⟩
    · intro x hx P p
      simp only [wipeE, List.foldr, List.set_cons_zero, List.set_cons_succ]
      array_get_dec
      exact p
    · rw [notIn_filter]
      obtain ⟨x, rest, ef, hx1, hx2⟩ := fresh l ws (S l)
      rw [ef, List.map_cons]
      array_get_dec
      refine so_append e4 (by simp; omega) ?_
      refine hN _ _ _ _ x _ ?_ hx1 (d4.put (Nat.le_refl _)) ?_
      · rcases List.mem_cons.mp hx2 with e | e
        · rw [e]; exact .mk' l1 l2 l3
        · obtain ⟨k, hk, rfl⟩ := List.mem_map.mp e
          have hk : k < ws.length + 1 := by simpa using hk
          exact spare_ok l1 l3 (by omega)
      · rw [List.getElem?_set_self (List.getElem?_eq_some_iff.mp e4).1, List.map_append]; rfl
/-- words drawn, all unlike -/
theorem words {n B : Nat} {many : Int} {h : Hm} {Q : D → Hm → Prop} (hm0 : 0 ≤ many) (hm : many ≤ 600) (w : Bow n (B + 30 * many.toNat) h) (q : ∀ ws h', ws.length = many.toNat → Words ws → ws.Nodup → Drew n B h h' → Q (.lst (ws.map D.str)) h') : Sat (m_law_words [.ref n, .int many] h) Q := by
  refine sa_tr (sa_fn rfl ?_)
  unfold m_law_words_b
  simp only [List.map_cons, List.map_nil, List.replicate, Nat.reduceSub, List.cons_append, List.nil_append]
  array_get_dec
  have d0 : DrewX n (B + 30 * many.toNat) h (h ++ [.lst []]) := (Drew.refl w).x.push
  have ee : (h ++ [HD.lst []])[h.length]? = some (.lst (([] : List Str).map D.str)) := by simp
  generalize h ++ [HD.lst []] = h6 at d0 ee
  refine ss_wh (fun v h' => ∃ (ws : List Str) (x4 x5 x6 x7 x8 x9 x10 : Option D), v = [some (.ref n), some (.int many), some (.str (Str.ofString "abcdefghijklmnopqrstuvwxyz")), some (.ref h.length), x4, x5, x6, x7, x8, x9, x10] ∧ h'[h.length]? = some (.lst (ws.map D.str)) ∧ ws.length ≤ many.toNat ∧ Words ws ∧ ws.Nodup ∧ DrewX n (B + 30 * (many.toNat - ws.length)) h h') (fun _ h' => match h'[h.length]? with
    | some (.lst l) => many.toNat - l.length
    | _ => 0) ⟨[], _, _, _, _, _, _, _, rfl, ee, Nat.zero_le _, (fun _ z => nomatch z), List.nodup_nil, d0⟩ (by simp only [ee]; simp; omega) ?_
  rintro v h' ⟨ws, x4, x5, x6, x7, x8, x9, x10, rfl, el, hl, hws, hnd, dx⟩
  array_get_dec
  rw [List.length_map]
  refine ⟨fun hc => ?_, fun hc => ?_⟩
  · have hc : (ws.length : Int) < many := of_decide_eq_true hc
    array_get_dec
    refine sip (B := B + 30 * (many.toNat - (ws.length + 1)) + 29) (dx.bow.le (by omega)) (by decide) (by decide) fun way h1 p0 p1 d1 => ?_
    array_get_dec
    refine sip (B := B + 30 * (many.toNat - (ws.length + 1)) + 28) (d1.bow.le (by omega)) (by decide) (by decide) fun s0 h2 s1 s2 d2 => ?_
    array_get_dec
    refine so_ixP (IntIn 1 12) (by
      repeat refine all_cons (.mk (by omega) (by omega)) ?_
      exact all_nil) p0 (by simpa using p1) ?_
    rintro _ ⟨size, rfl, z1, z2⟩
    array_get_dec
    refine ⟨rfl, ?_⟩
    array_get_dec
    have hLn : h.length ≠ n := by have := dx.lt; omega
    have el2 := (d1.trans d2).at hLn el
    have dx2 := (dx.then d1).then d2
    refine letters_lc (B := B + 30 * (many.toNat - (ws.length + 1)) + 9) (nb := n) (size := size.toNat) (Q := fun x h2 => Sat (aN _ h2) fun xs h2 => Sat (mJoin (.str (Str.ofString "")) (x :: xs) h2) _) (by
      array_get_dec
      exact ⟨by omega, by omega, rfl, rfl⟩) (by omega) (dx2.bow.le (by omega)) ?_ ?_
    · intro d T h' P hb' k
      refine sa_B (sa_V2 ?_)
      simp only [wipeE, List.foldr, List.set_cons_zero, List.set_cons_succ]
      array_get_dec
      refine sip hb' (by decide) (by decide) fun v h3 v0 v1 d3 => ?_
      obtain ⟨c, ec, hc⟩ := abc_at v0 v1
      refine so_ixS (by rw [abc_len]; decide) ec ?_
      exact k c h3 hc d3
    intro l0 h3 hl0 c0 d3
    have a0 : 1 ≤ l0.length := by omega
    have b0 : l0.length ≤ 12 := by omega
    array_get_dec
    refine so_joinL (by omega) ?_
    have el3 := d3.at hLn el2
    have dx3 := dx2.then d3
    have hmu : (match h'[h.length]? with
      | some (HD.lst l) => many.toNat - l.length
      | _ => 0) = many.toNat - ws.length := by simp only [el, List.length_map]
    rw [hmu]
    clear d1 d2 d3 el dx el2 dx2 hmu
    have hN : ∀ (l : List Nat) x7 x8 x9 x10 x h5, IsW x → x ∉ ws → DrewX n (B + 30 * (many.toNat - (ws.length + 1))) h h5 → h5[h.length]? = some (.lst ((ws ++ [x]).map D.str)) → (∃ (ws : List Str) (x4 x5 x6 x7_1 x8_1 x9_1 x10_1 : Option D), [some (D.ref n), some (D.int many), some (D.str (Str.ofString "abcdefghijklmnopqrstuvwxyz")), some (D.ref h.length), some (D.int way), some (D.int size), some (D.str (S l)), x7, x8, x9, x10] = [some (.ref n), some (.int many), some (.str (Str.ofString "abcdefghijklmnopqrstuvwxyz")), some (.ref h.length), x4, x5, x6, x7_1, x8_1, x9_1, x10_1] ∧ h5[h.length]? = some (.lst (ws.map D.str)) ∧ ws.length ≤ many.toNat ∧ Words ws ∧ ws.Nodup ∧ DrewX n (B + 30 * (many.toNat - ws.length)) h h5) ∧ (match h5[h.length]? with
      | some (HD.lst l) => many.toNat - l.length
      | _ => 0) < many.toNat - ws.length := by
      intro l x7 x8 x9 x10 x h5 hx hxn d5 e5
      refine ⟨⟨ws ++ [x], _, _, _, _, _, _, _, rfl, e5, by simp; omega, hws.snoc hx, ?_, by rw [List.length_append]; exact d5⟩, ?_⟩
      · rw [List.nodup_append]
        refine ⟨hnd, by simp, fun a ha b hb e => ?_⟩
        rw [List.mem_singleton.mp hb] at e
        exact hxn (e ▸ ha)
      · simp only [e5, List.length_map, List.length_append, List.length_cons, List.length_nil]
        exact Nat.sub_lt_sub_left (by omega) (by omega)
    have hemp : (!ws.isEmpty) = true → ∃ ws' l', ws = ws' ++ [S l'] ∧ 1 ≤ l'.length ∧ l'.length ≤ 12 ∧ ∀ c ∈ l', small c := by
      intro he
      obtain ⟨ws', x, e⟩ := last_of (l := ws) (by intro e; rw [e] at he; exact nomatch he)
      obtain ⟨l', rfl, q1, q2, q3⟩ := hws x (by rw [e]; simp)
      exact ⟨ws', l', e, q1, q2, q3⟩
    array_get_dec
    refine ⟨fun hw4 => ?_, fun _ => ⟨(fun hc => nomatch hc), fun _ => ?_⟩⟩
    · have hw4 : 4 < way := of_decide_eq_true hw4
      array_get_dec
      refine so_neNil el3 hws.ok ?_
      refine ⟨_, rfl, ?_⟩
      refine ⟨fun he => ?_, fun _ => ?_⟩
      · obtain ⟨ws', l', e, q1, q2, q3⟩ := hemp he
        array_get_dec
        refine so_neg ?_
        have e4' := el3
        rw [e] at e4'
        refine so_ixLast e4' ?_
        array_get_dec
        refine so_lenS (by rw [S_len]; omega) ?_
        array_get_dec
        refine sip (B := B + 30 * (many.toNat - (ws.length + 1)) + 3) (dx3.bow.le (by omega)) (by rw [S_len]; omega) (by rw [S_len]; omega) fun at_ h5 t0 t1 d5 => ?_
        rw [S_len] at t1
        have e5 := d5.at hLn el3
        have e5' := e5
        rw [e] at e5'
        array_get_dec
        refine so_neg ?_
        refine so_ixLast e5' ?_
        array_get_dec
        refine so_slS (by rw [S_len]; omega) ?_
        rw [cut_to t0]
        array_get_dec
        obtain ⟨c, ec, hc, _⟩ := atI_in (l := l0) (i := 0) (by decide) (by omega)
        refine so_ixS (by rw [S_len]; omega) ec ?_
        rw [show (⟨#[c]⟩ : Str) = S [c] from rfl]
        refine so_addS (by rw [S_len, S_len]; simp; omega) ?_
        rw [S_app]
        array_get_dec
        refine so_neg ?_
        refine so_ixLast e5' ?_
        array_get_dec
        refine so_slS (by rw [S_len]; omega) ?_
        rw [cut_from (by omega)]
        refine so_addS (by rw [S_len, S_len]; simp; omega) ?_
        rw [S_app]
        array_get_dec
        refine so_neg ?_
        refine so_ixLast e5' ?_
        array_get_dec
        refine so_addS (by rw [S_len, S_len]; omega) ?_
        rw [S_app]
        array_get_dec
        refine so_slS (by rw [S_len]; simp; omega) ?_
        rw [cut_to (by decide)]
        array_get_dec
        have hlen : (l'.take at_.toNat ++ [c] ++ l'.drop (at_ + 1).toNat).length = l'.length := by
          simp; omega
        refine so_ixP (fun d => ∃ l : List Nat, d = .str (S l) ∧ 1 ≤ l.length ∧ l.length ≤ 12 ∧ ∀ c ∈ l, small c) (by
          refine all_cons ⟨_, rfl, by rw [hlen]; exact q1, by rw [hlen]; exact q2, fun z hz => ?_⟩ (all_cons ⟨_, rfl, by simp; omega, by simp; omega, fun z hz => ?_⟩ all_nil)
          · rcases List.mem_append.mp hz with hz | hz
            · rcases List.mem_append.mp hz with hz | hz
              · exact q3 z (List.mem_of_mem_take hz)
              · rw [List.mem_singleton.mp hz]; exact c0 c hc
            · exact q3 z (List.mem_of_mem_drop hz)
          · rcases List.mem_append.mp (List.mem_of_mem_take hz) with hz | hz
            · exact q3 z hz
            · exact c0 z hz) (by omega) (by simp; omega) ?_
        rintro _ ⟨l, rfl, l1, l2, l3⟩
        exact words_tail (B := B) (by omega) l1 l2 l3 ((dx3.then d5).le (by omega)) e5 (hN l)
      · exact ss_nx (words_tail (B := B) (by omega) a0 b0 c0 (dx3.le (by omega)) el3 (hN l0))
    · exact ss_nx (words_tail (B := B) (by omega) a0 b0 c0 (dx3.le (by omega)) el3 (hN l0))
  · have hc : ¬ (ws.length : Int) < many := of_decide_eq_false hc
    array_get_dec
    refine so_fz el ?_
    have dx3 := dx.put (o := .dead) (k := h.length) (Nat.le_refl _)
    refine ⟨?_, dx3.tr.1, q _ _ (by omega) hws hnd (dx3.tr.2.le (B' := B) (by omega))⟩
    simp only [D.cl]
    exact strs_cl


theorem strs_of : ∀ {ys : List D} {some_ : List Str}, (∀ y ∈ ys, ∃ w, w ∈ some_ ∧ y = .str w) → ∃ ws : List Str, ys = ws.map D.str ∧ ∀ z ∈ ws, z ∈ some_
  | [], _, _ => ⟨[], rfl, fun _ z => nomatch z⟩
  | y :: ys, some_, h => by
    obtain ⟨w, hw, rfl⟩ := h y (by simp)
    obtain ⟨ws, rfl, h2⟩ := strs_of (ys := ys) (some_ := some_) fun z hz => h z (by simp [hz])
    refine ⟨w :: ws, rfl, fun z hz => ?_⟩
    rcases List.mem_cons.mp hz with rfl | hz
    · exact hw
    · exact h2 z hz
/-- a book drawn -/
theorem rbook {n B : Nat} {some_ : List Str} {h : Hm} {Q : D → Hm → Prop} (hsome : Words some_) (hpos : 1 ≤ some_.length) (hlen : some_.length ≤ 1000) (w : Bow n (B + 100) h)
    (q : ∀ (room first : Int) (ws : List Str) (h' : Hm), 0 ≤ room → room ≤ 200 → 0 ≤ first → first + ws.length ≤ 9900 → Words ws → sumW ws ≤ room → (∀ z ∈ ws, z ∈ some_) → Drew n B h h' → Q (bookD room first ws) h') : Sat (m_law_book_r [.ref n, .lst (some_.map D.str)] h) Q := by
  refine sa_fn rfl ?_
  unfold m_law_book_r_b
  simp only [List.map_cons, List.map_nil, List.replicate, Nat.reduceSub, List.cons_append, List.nil_append]
  array_get_dec
  refine sip w (by decide) (by decide) fun way h1 a1 a2 d1 => ?_
  array_get_dec
  refine sip d1.bow (by decide) (by decide) fun far h2 b1 b2 d2 => ?_
  array_get_dec
  refine sip d2.bow (by decide) (by decide) fun p3 h3 c1 c2 d3 => ?_
  refine so_ixP (IntIn 4 70) (by
    repeat refine all_cons (.mk (by omega) (by omega)) ?_
    exact all_nil) c1 (by simpa using c2) ?_
  rintro _ ⟨top, rfl, t1, t2⟩
  array_get_dec
  refine sip d3.bow (by omega) (by omega) fun many h4 e1 e2 d4 => ?_
  array_get_dec
  refine sip d4.bow (by decide) (by decide) fun p5 h5 f1 f2 d5 => ?_
  array_get_dec
  refine sip d5.bow (by decide) (by decide) fun p6 h6 g1 g2 d6 => ?_
  array_get_dec
  refine sip d6.bow (by decide) (by decide) fun p7 h7 i1 i2 d7 => ?_
  array_get_dec
  refine so_ixP (IntIn 0 200) (by
    repeat refine all_cons (.mk (by omega) (by omega)) ?_
    exact all_nil) a1 (by simpa using a2) ?_
  rintro _ ⟨room, rfl, r1, r2⟩
  array_get_dec
  refine sip d7.bow (by decide) (by decide) fun p8 h8 j1 j2 d8 => ?_
  array_get_dec
  refine sip d8.bow (by decide) (by decide) fun p9 h9 k1 k2 d9 => ?_
  array_get_dec
  refine so_ixP (IntIn 0 9799) (by
    repeat refine all_cons (.mk (by omega) (by omega)) ?_
    exact all_nil) b1 (by simpa using b2) ?_
  rintro _ ⟨first, rfl, l1, l2⟩
  array_get_dec
  have dd := (((((((d1.trans d2).trans d3).trans d4).trans d5).trans d6).trans d7).trans d8).trans d9
  refine sa_LcDraw (l := (List.range many.toNat).map fun (i : Nat) => .int (i : Int)) (nb := n) (B := B) 1 (fun y => ∃ w, w ∈ some_ ∧ y = .str w) (by simp; omega) (by
    array_get_dec
    exact ⟨by omega, by omega, rfl, rfl⟩) (dd.bow.le (by simp; omega)) ?_ ?_
  · intro x hx T h' R wb k
    simp only [wipeE, List.foldr, List.set_cons_zero, List.set_cons_succ]
    array_get_dec
    rw [List.length_map]
    refine sip wb (by omega) (by omega) fun u h10 u1 u2 d10 => ?_
    refine so_someWord u1 u2 fun z hz => ?_
    exact k _ _ ⟨z, hz, rfl⟩ d10
  · intro ys h10 hyl hy d10
    obtain ⟨ws, rfl, hws⟩ := strs_of hy
    have hyl : ws.length = many.toNat := by simpa using hyl
    have hW : Words ws := fun z hz => hsome z (hws z hz)
    array_get_dec
    refine lfit r1 hW.short (by omega) ?_
    have l3 := fit_len (room := room) (x := 0) (k := ws)
    refine q _ _ _ _ r1 r2 (by omega) ?_ (fun z hz => hW z (fit_sub hz)) (stay_ok r1 ws) (fun z hz => hws z (fit_sub hz)) (dd.trans d10)
    unfold stay
    omega
/-! ### likeness -/
section
variable {X : D → Hm → Prop} {h : Hm}
theorem so_isi2 {T U t : String} {d : D} {Q : D → Hm → Prop} (e : tyD h d = some t) (q : Q (.bl (isTy t T || isTy t U)) h) : SatX X (isi2 T U d h) Q := by
  unfold isi2; rw [e]; exact ⟨q⟩
theorem sa_wZip {a b : EM} {v : Ev} {Q : Wk → Hm → Prop} (s : SatX X (a v h) fun x h1 => SatX X (b v h1) fun y h2 => SatX X (wZipOf x y h2) Q) : SatX X (wZip a b v h) Q := SatX.bind (s.imp fun _ _ z => SatX.bind z)
end
theorem zipL_same (l : List D) {i : Nat} {x : D} (e : (zipL l l)[i]? = some x) : ∃ y, l[i]? = some y ∧ x = .tup [y, y] := by
  unfold zipL at e
  rw [List.getElem?_zipWith] at e
  cases hy : l[i]? with
  | none => rw [hy] at e; exact nomatch e
  | some y => rw [hy] at e; injection e with e; exact ⟨y, rfl, e.symm⟩
theorem zipL_len (l : List D) : (zipL l l).length = l.length := by simp [zipL]
theorem same_seq {n : Nat} {d1 d2 : D} {l : List D} {bt bl : Bool} {h : Hm} {Q : D → Hm → Prop} (i2 : ∀ P : D → Hm → Prop, P (.bl true) h → Sat (isi2 "tuple" "list" d2 h) P)
    (t1 : ∀ P : D → Hm → Prop, P (.bl bt) h → Sat (isi "tuple" d1 h) P) (t2 : ∀ P : D → Hm → Prop, P (.bl bt) h → Sat (isi "tuple" d2 h) P) (l1 : ∀ P : D → Hm → Prop, P (.bl bl) h → Sat (isi "list" d1 h) P) (l2 : ∀ P : D → Hm → Prop, P (.bl bl) h → Sat (isi "list" d2 h) P)
    (n1 : ∀ P : D → Hm → Prop, P (.int l.length) h → Sat (bLen [d1] h) P) (n2 : ∀ P : D → Hm → Prop, P (.int l.length) h → Sat (bLen [d2] h) P) (z : ∃ chk : Hm → Bool, chk h = true ∧ ∀ P : Wk → Hm → Prop, P ⟨zipL l l, chk⟩ h → Sat (wZipOf d1 d2 h) P)
    (hl : l.length ≤ 16777215) (hp : ∀ x ∈ l, ∀ P : D → Hm → Prop, P (.bl true) h → Sat (m_law_same_r n [x, x] h) P) (q : Q (.bl true) h) : Sat (m_law_same_r (n + 1) [d1, d2] h) Q := by
  refine sa_fn rfl ?_
  unfold m_law_same_r_b
  simp only [List.map_cons, List.map_nil, List.replicate, Nat.reduceSub, List.cons_append, List.nil_append]
  array_get_dec
  refine i2 _ ?_
  array_get_dec
  refine ⟨fun _ => ?_, fun hc => nomatch hc⟩
  array_get_dec
  refine t1 _ ?_
  array_get_dec
  refine t2 _ ?_
  array_get_dec
  rw [beq_self_eq_true]
  refine ⟨fun _ => ?_, fun hc => nomatch hc⟩
  array_get_dec
  refine l1 _ ?_
  array_get_dec
  refine l2 _ ?_
  array_get_dec
  rw [beq_self_eq_true]
  refine ⟨(fun hc => nomatch hc), fun _ => ?_⟩
  array_get_dec
  refine n1 _ ?_
  array_get_dec
  refine n2 _ ?_
  array_get_dec
  rw [decide_eq_true rfl]
  refine ⟨fun _ => ?_, fun hc => nomatch hc⟩
  array_get_dec
  obtain ⟨chk, hchk, hz⟩ := z
  refine sa_Lc (sa_wZip ?_)
  array_get_dec
  refine hz _ ?_
  refine ⟨by rw [zipL_len]; exact hl, fun i acc h' => acc = List.replicate i (.bl true) ∧ h' = h, ⟨rfl, rfl⟩, ?_, ?_⟩
  · rintro i x acc h' hx ⟨rfl, rfl⟩
    obtain ⟨y, hy, rfl⟩ := zipL_same l hx
    refine ⟨hchk, _, rfl, ?_⟩
    simp only [wipeE, List.foldr, List.set_cons_zero, List.set_cons_succ]
    array_get_dec
    refine ⟨fun _ => ?_, fun z => nomatch z⟩
    array_get_dec
    refine hp _ (List.mem_of_getElem? hy) _ ⟨?_, rfl⟩
    rw [List.replicate_succ']
  · rintro acc h' ⟨rfl, rfl⟩
    refine ⟨hchk, ?_⟩
    array_get_dec
    rw [show List.replicate (zipL l l).length (D.bl true) = (List.replicate (zipL l l).length true).map D.bl by simp]
    refine so_all ?_
    rw [show (List.replicate (zipL l l).length true).all id = true by simp]
    exact q
theorem same_r : ∀ (n : Nat) (d : D) (h : Hm) (Q : D → Hm → Prop), Pl n d → Q (.bl true) h → Sat (m_law_same_r n [d, d] h) Q
  | 0, d, h, Q, p, q => p.elim
  | n + 1, d, h, Q, p, q => by
    cases d with
    | ref _ => exact p.elim
    | exn _ _ => exact p.elim
    | scr _ => exact p.elim
    | tup l =>
      have p : l.length ≤ 16777215 ∧ ∀ x ∈ l, Pl n x := by unfold Pl at p; exact p
      exact same_seq (l := l) (bt := true) (bl := false) (fun P z => so_isi2 (t := "tuple") rfl z) (fun P z => so_isiT_tuple z) (fun P z => so_isiT_tuple z) (fun P z => so_isiT_list z) (fun P z => so_isiT_list z) (fun P z => so_lenT z) (fun P z => so_lenT z) ⟨fun _ => true, rfl, fun P z => ⟨z⟩⟩ p.1 (fun x hx P z => same_r n x h P (p.2 x hx) z) q
    | lst l =>
      have p : l.length ≤ 16777215 ∧ ∀ x ∈ l, Pl n x := by unfold Pl at p; exact p
      exact same_seq (l := l) (bt := false) (bl := true) (fun P z => so_isi2 (t := "list") rfl z) (fun P z => so_isiL_tuple z) (fun P z => so_isiL_tuple z) (fun P z => so_isiL_list z) (fun P z => so_isiL_list z) (fun P z => so_len z) (fun P z => so_len z) ⟨fun _ => true, rfl, fun P z => ⟨z⟩⟩ p.1 (fun x hx P z => same_r n x h P (p.2 x hx) z) q
    | int i =>
      refine sa_fn rfl ?_
      unfold m_law_same_r_b
      simp only [List.map_cons, List.map_nil, List.replicate, Nat.reduceSub, List.cons_append, List.nil_append]
      array_get_dec
      refine so_isi2 (t := "int") rfl ?_
      array_get_dec
      refine ⟨(fun hc => nomatch hc), fun _ => ?_⟩
      array_get_dec
      refine ⟨(fun hc => nomatch hc), fun _ => ?_⟩
      array_get_dec
      refine ⟨(fun hc => nomatch hc), fun _ => ?_⟩
      array_get_dec
      refine ⟨fun _ => ?_, fun hc => nomatch hc⟩
      array_get_dec
      refine ⟨fun _ => ?_, fun hc => nomatch hc⟩
      array_get_dec
      refine ⟨fun _ => ?_, fun hc => nomatch hc⟩
      array_get_dec
      rw [decide_eq_true rfl]
      exact q
    | str x =>
      refine sa_fn rfl ?_
      unfold m_law_same_r_b
      simp only [List.map_cons, List.map_nil, List.replicate, Nat.reduceSub, List.cons_append, List.nil_append]
      array_get_dec
      refine so_isi2 (t := "str") rfl ?_
      array_get_dec
      refine ⟨(fun hc => nomatch hc), fun _ => ?_⟩
      array_get_dec
      refine ⟨(fun hc => nomatch hc), fun _ => ?_⟩
      array_get_dec
      refine ⟨(fun hc => nomatch hc), fun _ => ?_⟩
      array_get_dec
      refine ⟨(fun hc => nomatch hc), fun _ => ?_⟩
      array_get_dec
      refine ⟨fun _ => ?_, fun hc => nomatch hc⟩
      array_get_dec
      rw [decide_eq_true rfl]
      exact q
    | bl b =>
      refine sa_fn rfl ?_
      unfold m_law_same_r_b
      simp only [List.map_cons, List.map_nil, List.replicate, Nat.reduceSub, List.cons_append, List.nil_append]
      array_get_dec
      refine so_isi2 (t := "bool") rfl ?_
      array_get_dec
      refine ⟨(fun hc => nomatch hc), fun _ => ?_⟩
      array_get_dec
      refine ⟨(fun hc => nomatch hc), fun _ => ?_⟩
      array_get_dec
      refine ⟨fun _ => ?_, fun hc => nomatch hc⟩
      array_get_dec
      refine ⟨fun _ => ?_, fun hc => nomatch hc⟩
      array_get_dec
      rw [beq_self_eq_true]
      exact q
    | non =>
      refine sa_fn rfl ?_
      unfold m_law_same_r_b
      simp only [List.map_cons, List.map_nil, List.replicate, Nat.reduceSub, List.cons_append, List.nil_append]
      array_get_dec
      refine so_isi2 (t := "NoneType") rfl ?_
      array_get_dec
      refine ⟨(fun hc => nomatch hc), fun _ => ?_⟩
      array_get_dec
      refine ⟨fun _ => ?_, fun hc => nomatch hc⟩
      array_get_dec
      exact q
/-- lists, one of them one that may change -/
theorem same_rL {n m : Nat} {l : List D} {h : Hm} {Q : D → Hm → Prop} (e : h[m]? = some (.lst l)) (hl : l.length ≤ 16777215) (hp : ∀ x ∈ l, Pl n x) (q : Q (.bl true) h) : Sat (m_law_same_r (n + 1) [.lst l, .ref m] h) Q := by
  have il : IsL h (.ref m) l := .inr ⟨m, rfl, e⟩
  have ty : tyD h (.ref m) = some "list" := by simp [tyD, e]
  exact same_seq (l := l) (bt := false) (bl := true) (fun P z => so_isi2 (t := "list") ty z) (fun P z => so_isiL_tuple z) (fun P z => il.ituple z) (fun P z => so_isiL_list z) (fun P z => il.ilist z) (fun P z => so_len z) (fun P z => il.len z) ⟨_, chkR e, fun P z => by
    unfold wZipOf; simp only [e]; exact ⟨z⟩⟩ hl (fun x hx P z => same_r n x h P (hp x hx) z) q
theorem same_lR {n m : Nat} {l : List D} {h : Hm} {Q : D → Hm → Prop} (e : h[m]? = some (.lst l)) (hl : l.length ≤ 16777215) (hp : ∀ x ∈ l, Pl n x) (q : Q (.bl true) h) : Sat (m_law_same_r (n + 1) [.ref m, .lst l] h) Q := by
  have il : IsL h (.ref m) l := .inr ⟨m, rfl, e⟩
  have ty : tyD h (.ref m) = some "list" := by simp [tyD, e]
  exact same_seq (l := l) (bt := false) (bl := true) (fun P z => so_isi2 (t := "list") rfl z) (fun P z => il.ituple z) (fun P z => so_isiL_tuple z) (fun P z => il.ilist z) (fun P z => so_isiL_list z) (fun P z => il.len z) (fun P z => so_len z) ⟨_, chkR e, fun P z => by
    unfold wZipOf; simp only [e]; exact ⟨z⟩⟩ hl (fun x hx P z => same_r n x h P (hp x hx) z) q
end Lw

/-! LibS: letters: what they are, written, named, read, refused. -/
set_option Elab.async false
set_option linter.all false
set_option maxRecDepth 100000
set_option maxHeartbeats 4000000
namespace Lw
open PySem Dn
local macro_rules | `(tactic| sizeOf_list_dec) => `(tactic| with_reducible (first
  | refine sa_V0 ?_ | refine sa_V1 ?_ | refine sa_V2 ?_ | refine sa_V3 ?_ | refine sa_V4 ?_ | refine sa_V5 ?_ | refine sa_V6 ?_ | refine sa_V7 ?_ | refine sa_V8 ?_ | refine sa_V9 ?_ | refine sa_V10 ?_ | refine sa_V11 ?_ | refine sa_V12 ?_ | refine sa_V13 ?_ | refine sa_V14 ?_ | refine sa_V15 ?_ | refine sa_C ?_ | refine sa_B ?_ | refine sa_U ?_ | refine sa_F ?_ | refine sa_aN ?_ | refine sa_aC ?_ | refine sa_tup ?_ | refine sa_lst ?_ | refine sa_new ?_ | refine sa_tE ?_ | refine sa_If ?_ | refine sa_And ?_ | refine sa_Or ?_ | refine sa_Not ?_ | refine sa_tAnd ?_ | refine sa_tOr ?_ | refine sa_tNot ?_ | refine sa_chain ?_ | refine sa_M ?_ | refine sa_Sl ?_ | refine sa_SlN ?_ | refine sa_pN ?_ | refine sa_pE ?_ | refine sa_wE ?_ | refine sa_wR1 ?_ | refine sa_wR2 ?_ | refine sa_tYes ?_ | refine ss_nx ?_ | refine ss_seq ?_ | refine ss_asg0 ?_ | refine ss_asg1 ?_ | refine ss_asg2 ?_ | refine ss_asg3 ?_ | refine ss_asg4 ?_ | refine ss_asg5 ?_ | refine ss_asg6 ?_ | refine ss_asg7 ?_ | refine ss_asg8 ?_ | refine ss_asg9 ?_ | refine ss_asg10 ?_ | refine ss_asg11 ?_ | refine ss_asg12 ?_ | refine ss_asg13 ?_ | refine ss_asg14 ?_ | refine ss_asg15 ?_ | refine ss_expr ?_ | refine ss_ret ?_ | refine ss_retN ?_ | refine ss_if ?_ | refine ss_put ?_ | refine ss_bk ?_ | refine ss_ct ?_ | refine so_add ?_ | refine so_sub ?_ | refine so_lt ?_ | refine so_le ?_ | refine so_gt ?_ | refine so_ge ?_ | refine so_eqI ?_ | refine so_neI ?_ | refine so_eqS ?_ | refine so_neS ?_ | refine so_eqB ?_ | refine so_neB ?_ | refine so_isN ?_ | refine so_notN ?_ | refine so_len ?_ | refine so_lenT ?_ | refine so_lenC ?_ | refine so_max ?_ | refine so_min ?_ | refine so_intI ?_ | refine so_intB ?_ | refine so_ixL0 ?_ | refine so_ixL1 ?_ | refine so_ixL2 ?_ | refine so_ixL3 ?_ | refine so_ixL4 ?_ | refine so_ixL5 ?_ | refine so_ixT0 ?_ | refine so_ixT1 ?_ | refine so_ixT2 ?_ | refine so_ixT3 ?_ | refine so_ixT4 ?_ | refine so_ixT5 ?_
  | refine so_isiI_tuple ?_ | refine so_isiI_list ?_ | refine so_isiI_str ?_ | refine so_isiI_bool ?_ | refine so_isiI_int ?_ | refine so_isiS_tuple ?_ | refine so_isiS_list ?_ | refine so_isiS_str ?_ | refine so_isiS_bool ?_ | refine so_isiS_int ?_ | refine so_isiB_tuple ?_ | refine so_isiB_list ?_ | refine so_isiB_str ?_ | refine so_isiB_bool ?_ | refine so_isiB_int ?_ | refine so_isiN_tuple ?_ | refine so_isiN_list ?_ | refine so_isiN_str ?_ | refine so_isiN_bool ?_ | refine so_isiN_int ?_ | refine so_isiT_tuple ?_ | refine so_isiT_list ?_ | refine so_isiT_str ?_ | refine so_isiT_bool ?_ | refine so_isiT_int ?_ | refine so_isiL_tuple ?_ | refine so_isiL_list ?_ | refine so_isiL_str ?_ | refine so_isiL_bool ?_ | refine so_isiL_int ?_
  | refine so_mod (by decide) ?_ | refine so_mul (mulOkL (by decide)) ?_ | refine so_div (by decide) ?_ | refine so_ixR0 (by assumption) ?_ | refine so_ixR1 (by assumption) ?_ | refine so_ixR2 (by assumption) ?_ | refine so_lenR (by assumption) ?_
  | (refine so_addL (by simp only [List.length_append, List.length_cons, List.length_nil]; omega) ?_; try simp only [List.cons_append, List.nil_append])
  | refine Exists.intro _ (And.intro rfl ?_)
  | refine And.intro (show _ ≤ 16777216 by simp only [List.length_cons, List.length_nil]; omega) ?_))
local macro_rules | `(tactic| array_get_dec) => `(tactic| repeat sizeOf_list_dec)
def m_is_between_b : SM :=
  (sRet (eAnd (eU (isi "int") (eV 0)) (eAnd (eNot (eU (isi "bool") (eV 0))) (eChain opLe opLe (eV 1) (eV 0) (eV 2)))))
def m_is_between : FM := fn0 3 3 m_is_between_b
def m_is_word_b : SM :=
  (sRet (eAnd (eU (isi "str") (eV 0)) (eAnd (eChain opLe opLe (eC (.int 1)) (eF bLen (aC (eV 0) aN)) (eC (.int 12))) (eF bAll (aC (eLc [1] (gN 1) (wE (eV 0)) tYes (eB opIn (eV 1) (eC (.str (Str.ofString "abcdefghijklmnopqrstuvwxyz"))))) aN)))))
def m_is_word : FM := fn0 1 2 m_is_word_b
def m_word_at_r_b : SM :=
  (sSeq (sAsg (gN 2) (eB opSub (eV 1) (eB opIx (eV 0) (eC (.int 1)))))
  (sSeq (sIf (tNot (tE (eChain opLe opLt (eC (.int 0)) (eV 2) (eF bLen (aC (eB opIx (eV 0) (eC (.int 2))) aN))))) (sRs1 "NoWord" "number" (eV 1)) sNx)
  (sRet (eB opIx (eB opIx (eV 0) (eC (.int 2))) (eV 2)))))
def m_word_at_r : FM := fn 2 3 m_word_at_r_b
def m_is_item_b : SM :=
  (sSeq (sIf (tOr (tNot (tE (eU (isi "tuple") (eV 1)))) (tE (eB opNe (eF bLen (aC (eV 1) aN)) (eC (.int 2))))) (sRet (eC (.bl false))) sNx)
  (sSeq (sIf (tE (eB opEq (eB opIx (eV 1) (eC (.int 0))) (eC (.str (Str.ofString "word"))))) (sRet (eF m_is_word (aC (eB opIx (eV 1) (eC (.int 1))) aN))) sNx)
  (sRet (eAnd (eB opEq (eB opIx (eV 1) (eC (.int 0))) (eC (.str (Str.ofString "by")))) (eF m_is_between (aC (eB opIx (eV 1) (eC (.int 1))) (aC (eC (.int 1)) (aC (eV 0) aN))))))))
def m_is_item : FM := fn0 2 2 m_is_item_b
def m_is_letter_b : SM :=
  (sSeq (sIf (tOr (tNot (tE (eU (isi "tuple") (eV 0)))) (tOr (tE (eB opNe (eF bLen (aC (eV 0) aN)) (eC (.int 2)))) (tNot (tE (eF m_is_between (aC (eB opIx (eV 0) (eC (.int 0))) (aC (eC (.int 0)) (aC (eC (.int 20000)) aN)))))))) (sRet (eC (.bl false))) sNx)
  (sSeq (sIf (tOr (tNot (tE (eU (isi "tuple") (eB opIx (eV 0) (eC (.int 1)))))) (tNot (tE (eChain opLe opLe (eC (.int 1)) (eF bLen (aC (eB opIx (eV 0) (eC (.int 1))) aN)) (eC (.int 8)))))) (sRet (eC (.bl false))) sNx)
  (sRet (eF bAll (aC (eLc [1] (gN 1) (wE (eB opIx (eV 0) (eC (.int 1)))) tYes (eF m_is_item (aC (eB opIx (eV 0) (eC (.int 0))) (aC (eV 1) aN)))) aN)))))
def m_is_letter : FM := fn0 1 2 m_is_letter_b
def m_named_b : SM :=
  (sRet (eLc [1] (gN 1) (wE (eB opIx (eV 0) (eC (.int 1)))) (tE (eB opEq (eB opIx (eV 1) (eC (.int 0))) (eC (.str (Str.ofString "by"))))) (eB opSub (eB opIx (eV 0) (eC (.int 0))) (eB opIx (eV 1) (eC (.int 1))))))
def m_named : FM := fn0 1 2 m_named_b
def m_item_of_b : SM :=
  (sSeq (sIf (tE (eU (isi "str") (eV 1))) (sRet (eTup (aC (eC (.str (Str.ofString "word"))) (aC (eV 1) aN)))) sNx)
  (sRet (eTup (aC (eC (.str (Str.ofString "by"))) (aC (eB opSub (eV 0) (eV 1)) aN)))))
def m_item_of : FM := fn0 2 2 m_item_of_b
def m_written_b : SM :=
  (sSeq (sAsg (gN 2) (eC (.int 0)))
  (sSeq (sFor (gN 3) (wE (eV 1)) (sIf (tNot (tE (eU (isi "str") (eV 3)))) (sSeq (sExpr (eF m_word_at_r (aC (eV 0) (aC (eV 3) aN))))
  (sAsg (gN 2) (eF bMax (aC (eV 2) (aC (eB opAdd (eV 3) (eC (.int 1))) aN))))) sNx))
  (sRet (eTup (aC (eV 2) (aC (eF bTuple (aC (eLc [3] (gN 3) (wE (eV 1)) tYes (eF m_item_of (aC (eV 2) (aC (eV 3) aN)))) aN)) aN))))))
def m_written : FM := fn 2 4 m_written_b
def m_word_of_b : SM :=
  (sSeq (sIf (tE (eB opEq (eB opIx (eV 2) (eC (.int 0))) (eC (.str (Str.ofString "word"))))) (sRet (eB opIx (eV 2) (eC (.int 1)))) sNx)
  (sRet (eF m_word_at_r (aC (eV 0) (aC (eB opSub (eV 1) (eB opIx (eV 2) (eC (.int 1)))) aN)))))
def m_word_of : FM := fn 3 3 m_word_of_b
def m_read_b : SM :=
  (sSeq (sIf (tE (eB opGt (eB opIx (eV 1) (eC (.int 0))) (eF m_next_number (aC (eV 0) aN)))) (sRs1 "Wait" "need" (eB opIx (eV 1) (eC (.int 0)))) sNx)
  (sRet (eLcX [2] (gN 2) (wE (eB opIx (eV 1) (eC (.int 1)))) tYes (eF m_word_of (aC (eV 0) (aC (eB opIx (eV 1) (eC (.int 0))) (aC (eV 2) aN)))))))
def m_read : FM := fn 2 3 m_read_b
def m_law_kind_b : SM :=
  (sSeq (sAsg (gN 1) (eLst (aC (eU (isX ["NoWord"]) (eV 0)) (aC (eU (isX ["Wait"]) (eV 0)) (aC (eU (isX ["NoRoom"]) (eV 0)) (aC (eU (isX ["Held"]) (eV 0)) aN))))))
  (sSeq (sAsg (gN 1) (eB opAdd (eV 1) (eLst (aC (eU (isX ["NoTalk"]) (eV 0)) (aC (eU (isX ["NoDeed"]) (eV 0)) aN)))))
  (sSeq (sIf (tOr (tE (eB opNe (eM "list" mCount (eV 1) (aC (eC (.bl true)) aN)) (eC (.int 1)))) (tOr (tE (eU (isX ["NoRow", "NoText"]) (eV 0))) (tNot (tE (eU (isX ["ValueError"]) (eV 0)))))) (sRet (eTup (aC (eC (.str (Str.ofString "odd"))) aN))) sNx)
  (sSeq (sIf (tE (eB opIx (eV 1) (eC (.int 0)))) (sRet (eTup (aC (eC (.str (Str.ofString "word"))) (aC (eU (xFld "number") (eV 0)) aN)))) sNx)
  (sSeq (sIf (tE (eB opIx (eV 1) (eC (.int 1)))) (sRet (eTup (aC (eC (.str (Str.ofString "wait"))) (aC (eU (xFld "need") (eV 0)) aN)))) sNx)
  (sSeq (sIf (tE (eB opIx (eV 1) (eC (.int 2)))) (sRet (eTup (aC (eC (.str (Str.ofString "room"))) aN))) sNx)
  (sSeq (sIf (tE (eB opIx (eV 1) (eC (.int 3)))) (sRet (eTup (aC (eC (.str (Str.ofString "held"))) (aC (eU (xFld "number") (eV 0)) aN)))) sNx)
  (sRet (eIf (tE (eB opIx (eV 1) (eC (.int 4)))) (eTup (aC (eC (.str (Str.ofString "talk"))) (aC (eU (xFld "talk") (eV 0)) aN))) (eTup (aC (eC (.str (Str.ofString "deed"))) (aC (eU (xFld "many") (eV 0)) aN))))))))))))
def m_law_kind : FM := fn0 1 2 m_law_kind_b
def m_law_names_b : SM :=
  (sSeq (sAsg (gN 3) (eNew aN))
  (sSeq (sFor (gN 4) (wR1 (eB opAdd (eC (.int 1)) (eF m_law_sip (aC (eV 0) (aC (eC (.int 8)) aN))))) (sSeq (sAsg (gN 5) (eF m_law_sip (aC (eV 0) (aC (eC (.int 3)) aN))))
  (sSeq (sAsg (gN 6) (eF m_law_sip (aC (eV 0) (aC (eF bMax (aC (eC (.int 1)) (aC (eF bLen (aC (eB opIx (eV 1) (eC (.int 2))) aN)) aN))) aN))))
  (sSeq (sAsg (gN 7) (eB opIx (eV 2) (eF m_law_sip (aC (eV 0) (aC (eF bLen (aC (eV 2) aN)) aN)))))
  (sIf (tAnd (tE (eB opGt (eV 5) (eC (.int 0)))) (tE (eB opNe (eB opIx (eV 1) (eC (.int 2))) (eTup aN)))) (sExpr (eM "list" mAppend (eV 3) (aC (eB opAdd (eB opIx (eV 1) (eC (.int 1))) (eV 6)) aN))) (sExpr (eM "list" mAppend (eV 3) (aC (eV 7) aN))))))))
  (sRet (eU fz (eV 3)))))
def m_law_names : FM := tr (fn0 3 8 m_law_names_b)

abbrev NoWordX (k : Int) : D := .exn "NoWord" [("number", .int k)]
abbrev WaitX (k : Int) : D := .exn "Wait" [("need", .int k)]
theorem word_at_r {X : D → Hm → Prop} {room first : Int} {ws : List Str} {k : Int} {h : Hm} {Q : D → Hm → Prop} (q1 : ∀ w, first ≤ k → ws[(k - first).toNat]? = some w → Q (.str w) h) (q2 : ¬ (first ≤ k ∧ k < first + ws.length) → X (NoWordX k) h) : SatX X (m_word_at_r [bookD room first ws, .int k] h) Q := by
  refine sa_fnX rfl ?_
  unfold m_word_at_r_b bookD
  simp only [List.map_cons, List.map_nil, List.replicate, Nat.reduceSub, List.cons_append, List.nil_append]
  array_get_dec
  refine ⟨fun hc => ?_, fun hc => ?_⟩
  · have hc : 0 ≤ k - first := of_decide_eq_true hc
    array_get_dec
    rw [List.length_map]
    refine ⟨fun hc2 => ?_, fun hc2 => ?_⟩
    · have hc2 : (!decide (k - first < (ws.length : Int))) = true := hc2
      simp at hc2
      refine ss_rs1 (sa_V1 ?_)
      exact q2 (by omega)
    · have hc2 : (!decide (k - first < (ws.length : Int))) = false := hc2
      simp at hc2
      have hlt : (k - first).toNat < ws.length := by omega
      have e : ws[(k - first).toNat]? = some ws[(k - first).toNat] := List.getElem?_eq_getElem hlt
      generalize ws[(k - first).toNat] = w at e
      array_get_dec
      refine so_ixT (d := .str w) ?_ (q1 w (by omega) e)
      have := atI_nat (l := ws.map D.str) (i := (k - first).toNat) (x := .str w) (by rw [List.getElem?_map, e]; rfl)
      rw [show (((k - first).toNat : Nat) : Int) = k - first by omega] at this
      exact this
  · have hc : ¬ 0 ≤ k - first := of_decide_eq_false hc
    array_get_dec
    refine ⟨fun _ => ?_, fun hc => nomatch hc⟩
    refine ss_rs1 (sa_V1 ?_)
    exact q2 (by omega)

/-! ### what is a letter -/
theorem is_between {k a b : Int} {h : Hm} {Q : D → Hm → Prop} (h1 : a ≤ k) (h2 : k ≤ b) (q : Q (.bl true) h) : Sat (m_is_between [.int k, .int a, .int b] h) Q := by
  refine sa_fn rfl ?_
  unfold m_is_between_b
  simp only [List.map_cons, List.map_nil, List.replicate, Nat.reduceSub, List.cons_append, List.nil_append]
  array_get_dec
  refine ⟨fun _ => ?_, fun hc => nomatch hc⟩
  array_get_dec
  refine ⟨fun _ => ?_, fun hc => nomatch hc⟩
  array_get_dec
  rw [decide_eq_true h1]
  refine ⟨fun _ => ?_, fun hc => nomatch hc⟩
  array_get_dec
  rw [decide_eq_true h2]
  exact q
theorem abc_list : (Str.ofString "abcdefghijklmnopqrstuvwxyz").cps.toList = List.range' 97 26 := by decide +kernel
theorem so_inSign {c : Nat} {z : Str} {X : D → Hm → Prop} {h : Hm} {Q : D → Hm → Prop} (q : Q (.bl (decide (c ∈ z.cps.toList))) h) : SatX X (opIn (.str ⟨#[c]⟩) (.str z) h) Q := by
  refine ⟨?_⟩
  show Q (.bl (false ^^ decide (c ∈ z.cps.toList))) h
  rw [Bool.false_xor]; exact q
theorem map_true (l : List D) : (l.map fun _ => D.bl true) = (List.replicate l.length true).map D.bl := by
  induction l with
  | nil => rfl
  | cons a r ih => simp [ih, List.replicate_succ]
theorem all_rep (n : Nat) : (List.replicate n true).all id = true := by simp
theorem is_word {w : Str} {h : Hm} {Q : D → Hm → Prop} (hw : IsW w) (q : Q (.bl true) h) : Sat (m_is_word [.str w] h) Q := by
  obtain ⟨l, rfl, l1, l2, l3⟩ := hw
  refine sa_fn rfl ?_
  unfold m_is_word_b
  simp only [List.map_cons, List.map_nil, List.replicate, Nat.reduceSub, List.cons_append, List.nil_append]
  array_get_dec
  refine ⟨fun _ => ?_, fun hc => nomatch hc⟩
  array_get_dec
  refine so_lenS (by rw [S_len]; omega) ?_
  rw [S_len]
  array_get_dec
  rw [decide_eq_true (show (1 : Int) ≤ (l.length : Int) by omega)]
  refine ⟨fun _ => ?_, fun hc => nomatch hc⟩
  array_get_dec
  rw [decide_eq_true (show (l.length : Int) ≤ 12 by omega)]
  refine ⟨fun _ => ?_, fun hc => nomatch hc⟩
  array_get_dec
  refine sa_LcMap (l := l.map fun c => .str ⟨#[c]⟩) (fun _ => .bl true) (by simp; omega) (by
    array_get_dec
    exact so_wkS ⟨rfl, rfl⟩) ?_ ?_
  · intro x hx P p
    obtain ⟨c, hc, rfl⟩ := List.mem_map.mp hx
    simp only [wipeE, List.foldr, List.set_cons_zero, List.set_cons_succ]
    array_get_dec
    refine so_inSign ?_
    have := l3 c hc
    unfold small at this
    rw [decide_eq_true (by rw [abc_list]; simp; omega)]
    exact p
  · array_get_dec
    rw [map_true]
    refine so_all ?_
    rw [all_rep]
    exact q
/-- items of a letter that needs r words -/
inductive IsIt (r : Int) : D → Prop
  | word (w : Str) (h : IsW w) : IsIt r (.tup [.str (Str.ofString "word"), .str w])
  | by_ (n : Int) (h0 : 1 ≤ n) (h1 : n ≤ r) : IsIt r (.tup [.str (Str.ofString "by"), .int n])
theorem ne_by : decide (Str.ofString "by" = Str.ofString "by") = true ∧ decide (Str.ofString "word" = Str.ofString "by") = false := by decide +kernel
theorem len2 (a b : D) : (!decide ((([a, b] : List D).length : Int) = 2)) = false := by simp
theorem is_item {r : Int} {d : D} {h : Hm} {Q : D → Hm → Prop} (i : IsIt r d) (q : Q (.bl true) h) : Sat (m_is_item [.int r, d] h) Q := by
  refine sa_fn rfl ?_
  unfold m_is_item_b
  simp only [List.map_cons, List.map_nil, List.replicate, Nat.reduceSub, List.cons_append, List.nil_append]
  cases i with
  | word w hw =>
    array_get_dec
    refine ⟨fun _ => ?_, fun hc => nomatch hc⟩
    array_get_dec
    rw [len2]
    refine ⟨(fun hc => nomatch hc), fun _ => ?_⟩
    array_get_dec
    rw [ne_word.1]
    refine ⟨fun _ => ?_, fun hc => nomatch hc⟩
    array_get_dec
    exact is_word hw q
  | by_ n h0 h1 =>
    array_get_dec
    refine ⟨fun _ => ?_, fun hc => nomatch hc⟩
    array_get_dec
    rw [len2]
    refine ⟨(fun hc => nomatch hc), fun _ => ?_⟩
    array_get_dec
    rw [ne_word.2]
    refine ⟨(fun hc => nomatch hc), fun _ => ?_⟩
    array_get_dec
    rw [ne_by.1]
    refine ⟨fun _ => ?_, fun hc => nomatch hc⟩
    array_get_dec
    exact is_between h0 h1 q
theorem is_letter {r : Int} {l : List D} {h : Hm} {Q : D → Hm → Prop} (h0 : 0 ≤ r) (h1 : r ≤ 20000) (l1 : 1 ≤ l.length) (l2 : l.length ≤ 8) (hi : ∀ x ∈ l, IsIt r x) (q : Q (.bl true) h) : Sat (m_is_letter [.tup [.int r, .tup l]] h) Q := by
  refine sa_fn rfl ?_
  unfold m_is_letter_b
  simp only [List.map_cons, List.map_nil, List.replicate, Nat.reduceSub, List.cons_append, List.nil_append]
  array_get_dec
  refine ⟨fun _ => ?_, fun hc => nomatch hc⟩
  array_get_dec
  rw [len2]
  refine ⟨fun _ => ?_, fun hc => nomatch hc⟩
  array_get_dec
  refine is_between h0 h1 ?_
  array_get_dec
  refine ⟨(fun hc => nomatch hc), fun _ => ?_⟩
  array_get_dec
  refine ⟨fun _ => ?_, fun hc => nomatch hc⟩
  array_get_dec
  rw [decide_eq_true (show (1 : Int) ≤ (l.length : Int) by omega)]
  refine ⟨fun _ => ?_, fun hc => nomatch hc⟩
  array_get_dec
  rw [decide_eq_true (show (l.length : Int) ≤ 8 by omega)]
  refine ⟨(fun hc => nomatch hc), fun _ => ?_⟩
  array_get_dec
  refine sa_LcMap (l := l) (fun _ => .bl true) (by omega) (by
    array_get_dec
    exact so_wkT ⟨rfl, rfl⟩) ?_ ?_
  · intro x hx P p
    simp only [wipeE, List.foldr, List.set_cons_zero, List.set_cons_succ]
    array_get_dec
    exact is_item (hi x hx) p
  · array_get_dec
    rw [map_true]
    refine so_all ?_
    rw [all_rep]
    exact q
/-! ### the numbers that a letter names -/
def isBy : D → Bool
  | .tup [_, .int _] => true
  | _ => false
def numOf (r : Int) : D → D
  | .tup [_, .int n] => .int (r - n)
  | _ => .non
theorem named {r r' : Int} {l : List D} {h : Hm} {Q : D → Hm → Prop} (hl : l.length ≤ 1000) (hi : ∀ x ∈ l, IsIt r' x) (q : Q (.lst ((l.filter isBy).map (numOf r))) h) : Sat (m_named [.tup [.int r, .tup l]] h) Q := by
  refine sa_fn rfl ?_
  unfold m_named_b
  simp only [List.map_cons, List.map_nil, List.replicate, Nat.reduceSub, List.cons_append, List.nil_append]
  array_get_dec
  have key : ∀ x ∈ l, ∀ P : Bool → Hm → Prop, P (isBy x) h → Sat (tE (eB opEq (eB opIx (eV 1) (eC (.int 0))) (eC (.str (Str.ofString "by")))) [some (.tup [.int r, .tup l]), some x] h) P := by
    intro x hx P p
    cases hi x hx with
    | word w hw =>
      array_get_dec
      rw [ne_by.2]
      exact p
    | by_ n h0 h1 =>
      array_get_dec
      rw [ne_by.1]
      exact p
  refine sa_Lc ?_
  array_get_dec
  refine so_wkT ?_
  refine ⟨by show l.length ≤ 16777215; omega, fun i acc h' => acc = ((l.take i).filter isBy).map (numOf r) ∧ h' = h, ⟨rfl, rfl⟩, ?_, ?_⟩
  · rintro i x acc h' hx ⟨rfl, rfl⟩
    have hx : l[i]? = some x := hx
    have hm := List.mem_of_getElem? hx
    refine ⟨rfl, _, rfl, ?_⟩
    simp only [wipeE, List.foldr, List.set_cons_zero, List.set_cons_succ]
    rw [List.take_add_one, hx]
    refine key x hm _ ⟨fun hp => ?_, fun hp => ?_⟩
    · cases hi x hm with
      | word w hw => exact nomatch hp
      | by_ n h0 h1 =>
        array_get_dec
        refine ⟨?_, rfl⟩
        rw [List.filter_append, List.map_append]
        rfl
    · refine ⟨?_, rfl⟩
      rw [List.filter_append, List.map_append]
      simp [hp]
  · rintro acc h' ⟨rfl, rfl⟩
    refine ⟨rfl, ?_⟩
    rw [List.take_length]
    exact q
/-! ### letters written -/
def isStr : D → Bool
  | .str _ => true
  | _ => false
def isNum : D → Bool
  | .int _ => true
  | _ => false
def need1 (a : Int) : D → Int
  | .int k => max a (k + 1)
  | _ => a
def needOf (ns : List D) : Int := ns.foldl need1 0
def itemF (need : Int) : D → D
  | .int k => .tup [.str (Str.ofString "by"), .int (need - k)]
  | d => .tup [.str (Str.ofString "word"), d]
def writtenF (ns : List D) : D := .tup [.int (needOf ns), .tup (ns.map (itemF (needOf ns)))]
/-- names: words and numbers -/
def IsN (d : D) : Prop := (∃ w, d = .str w) ∨ ∃ k, d = .int k
def okN1 (first : Int) (n : Nat) : D → Bool
  | .int k => decide (first ≤ k ∧ k < first + n)
  | _ => true
theorem item_of {need : Int} {d : D} {h : Hm} {Q : D → Hm → Prop} (hd : IsN d) (q : Q (itemF need d) h) : Sat (m_item_of [.int need, d] h) Q := by
  refine sa_fn rfl ?_
  unfold m_item_of_b
  simp only [List.map_cons, List.map_nil, List.replicate, Nat.reduceSub, List.cons_append, List.nil_append]
  rcases hd with ⟨w, rfl⟩ | ⟨k, rfl⟩
  · array_get_dec
    refine ⟨fun _ => ?_, fun hc => nomatch hc⟩
    array_get_dec
    exact q
  · array_get_dec
    refine ⟨(fun hc => nomatch hc), fun _ => ?_⟩
    array_get_dec
    exact q
theorem head_bad {p : D → Bool} {l : List D} {i : Nat} {x : D} (h1 : ∀ y ∈ l.take i, p y = true) (e : l[i]? = some x) (h2 : p x = false) : (l.filter fun d => !p d).head? = some x := by
  have hi := (List.getElem?_eq_some_iff.mp e)
  obtain ⟨hlt, hx⟩ := hi
  rw [← List.take_append_drop i l, List.filter_append, List.drop_eq_getElem_cons hlt, hx, List.filter_cons]
  have : (l.take i).filter (fun d => !p d) = [] := by
    rw [List.filter_eq_nil_iff]
    intro y hy
    simp [h1 y hy]
  rw [this]
  simp [h2]
theorem written {X : D → Hm → Prop} {room first : Int} {ws : List Str} {ns : List D} {h : Hm} {Q : D → Hm → Prop} (hl : ns.length ≤ 1000) (hn : ∀ d ∈ ns, IsN d) (q1 : (∀ d ∈ ns, okN1 first ws.length d = true) → Q (writtenF ns) h) (q2 : ∀ k, (ns.filter fun d => !okN1 first ws.length d).head? = some (.int k) → X (NoWordX k) h) : SatX X (m_written [bookD room first ws, .lst ns] h) Q := by
  refine sa_fnX rfl ?_
  unfold m_written_b
  simp only [List.map_cons, List.map_nil, List.replicate, Nat.reduceSub, List.cons_append, List.nil_append]
  array_get_dec
  refine ss_forL (l := ns) (fun i v h' => h' = h ∧ (∀ d ∈ ns.take i, okN1 first ws.length d = true) ∧ ∃ x3, v = [some (bookD room first ws), some (.lst ns), some (.int (needOf (ns.take i))), x3]) (by
    array_get_dec
    exact so_wkL ⟨rfl, rfl⟩) ⟨rfl, (fun _ z => nomatch z), _, rfl⟩ ?_ ?_
  · rintro i x v h' hx ⟨rfl, hok, x3, rfl⟩
    have et : ns.take (i + 1) = ns.take i ++ [x] := by rw [List.take_add_one, hx]; rfl
    have en : needOf (ns.take (i + 1)) = need1 (needOf (ns.take i)) x := by
      unfold needOf; rw [et, List.foldl_append]; rfl
    have hm := List.mem_of_getElem? hx
    refine ⟨_, rfl, ?_⟩
    simp only [List.set_cons_zero, List.set_cons_succ]
    rcases hn x hm with ⟨w, rfl⟩ | ⟨k, rfl⟩
    · array_get_dec
      refine ⟨(fun hc => nomatch hc), fun _ => ?_⟩
      refine ss_nx ⟨rfl, fun d hd => ?_, _, by rw [en]; rfl⟩
      rw [et] at hd
      rcases List.mem_append.mp hd with hd | hd
      · exact hok d hd
      · rw [List.mem_singleton.mp hd]; rfl
    · array_get_dec
      refine ⟨fun _ => ?_, fun hc => nomatch hc⟩
      array_get_dec
      refine word_at_r (fun w h1 e => ?_) (fun hb => ?_)
      · array_get_dec
        have hb : okN1 first ws.length (.int k) = true := by
          have := (List.getElem?_eq_some_iff.mp e).1
          exact decide_eq_true (by omega)
        refine ⟨rfl, fun d hd => ?_, _, by rw [en]; rfl⟩
        rw [et] at hd
        rcases List.mem_append.mp hd with hd | hd
        · exact hok d hd
        · rw [List.mem_singleton.mp hd]; exact hb
      · exact q2 k (head_bad hok hx (decide_eq_false hb))
  · rintro v h' ⟨rfl, hok, x3, rfl⟩
    rw [List.take_length] at hok
    rw [List.take_length]
    array_get_dec
    refine SatX.w (sa_LcMap (l := ns) (itemF (needOf ns)) (by omega) (by
      array_get_dec
      exact so_wkL ⟨rfl, rfl⟩) ?_ ?_)
    · intro x hx P p
      simp only [wipeE, List.foldr, List.set_cons_zero, List.set_cons_succ]
      array_get_dec
      exact item_of (hn x hx) p
    · array_get_dec
      refine so_tuple ?_
      array_get_dec
      exact q1 hok
theorem need_ge : ∀ (ns : List D) (a : Int), a ≤ ns.foldl need1 a ∧ ∀ k, .int k ∈ ns → k + 1 ≤ ns.foldl need1 a
  | [], a => ⟨Int.le_refl _, fun _ h => nomatch h⟩
  | d :: r, a => by
    obtain ⟨h1, h2⟩ := need_ge r (need1 a d)
    rw [List.foldl_cons]
    have h3 : a ≤ need1 a d := by cases d <;> simp only [need1] <;> omega
    refine ⟨by omega, fun k hk => ?_⟩
    rcases List.mem_cons.mp hk with rfl | hk
    · simp only [need1] at h1 ⊢; omega
    · exact h2 k hk
theorem need_le {b : Int} : ∀ (ns : List D) (a : Int), a ≤ b → (∀ k, .int k ∈ ns → k + 1 ≤ b) → ns.foldl need1 a ≤ b
  | [], a, h, _ => h
  | d :: r, a, h, hk => by
    rw [List.foldl_cons]
    refine need_le r _ ?_ fun k h => hk k (by simp [h])
    cases d <;> simp only [need1] <;> try exact h
    have := hk _ (List.mem_cons_self ..)
    omega
theorem item_by {need : Int} {d : D} (hd : IsN d) : isBy (itemF need d) = isNum d ∧ (isNum d = true → numOf need (itemF need d) = d) := by
  rcases hd with ⟨w, rfl⟩ | ⟨k, rfl⟩
  · exact ⟨rfl, fun h => nomatch h⟩
  · refine ⟨rfl, fun _ => ?_⟩
    simp only [itemF, numOf]
    congr 1
    omega
theorem named_written {need : Int} : ∀ {ns : List D}, (∀ d ∈ ns, IsN d) → ((ns.map (itemF need)).filter isBy).map (numOf need) = ns.filter isNum
  | [], _ => rfl
  | d :: r, h => by
    have ih := named_written (need := need) (ns := r) fun d hd => h d (by simp [hd])
    obtain ⟨e1, e2⟩ := item_by (need := need) (h d (by simp))
    rw [List.map_cons, List.filter_cons, List.filter_cons, e1]
    split
    · rename_i hc
      rw [List.map_cons, ih, e2 hc]
    · exact ih
/-- names drawn of a book: words of a list, numbers of the book's words -/
def IsName (first : Int) (n : Nat) (d : D) : Prop := (∃ w, IsW w ∧ d = .str w) ∨ ∃ k : Int, first ≤ k ∧ k < first + n ∧ d = .int k
theorem IsName.n {first : Int} {n : Nat} {d : D} (h : IsName first n d) : IsN d := by
  rcases h with ⟨w, _, rfl⟩ | ⟨k, _, _, rfl⟩
  · exact .inl ⟨_, rfl⟩
  · exact .inr ⟨_, rfl⟩
theorem IsName.ok {first : Int} {n : Nat} {d : D} (h : IsName first n d) : okN1 first n d = true := by
  rcases h with ⟨w, _, rfl⟩ | ⟨k, h1, h2, rfl⟩
  · rfl
  · exact decide_eq_true ⟨h1, h2⟩
theorem IsName.cl {first : Int} {n N : Nat} {d : D} (h : IsName first n d) : D.cl N d = true := by
  rcases h with ⟨w, _, rfl⟩ | ⟨k, h1, h2, rfl⟩ <;> rfl
theorem IsName.oks {first : Int} {n m : Nat} : ∀ {ns : List D}, (∀ d ∈ ns, IsName first n d) → D.okL m ns = true
  | [], _ => by cases m <;> rfl
  | d :: r, h => by
    have ih := IsName.oks (m := m) (ns := r) fun d hd => h d (by simp [hd])
    have : D.okN m d = true := by
      rcases h d (by simp) with ⟨w, hw, rfl⟩ | ⟨k, _, _, rfl⟩
      · have := hw.ok
        cases m <;> simpa [D.okN] using this
      · cases m <;> rfl
    simp only [D.okL, this, ih, Bool.and_self]
theorem need_bounds {first : Int} {n : Nat} {ns : List D} (h0 : 0 ≤ first) (h : ∀ d ∈ ns, IsName first n d) : 0 ≤ needOf ns ∧ needOf ns ≤ first + n ∧ ∀ k, .int k ∈ ns → k + 1 ≤ needOf ns := by
  obtain ⟨h1, h2⟩ := need_ge ns 0
  refine ⟨h1, need_le ns 0 (by omega) fun k hk => ?_, h2⟩
  rcases h _ hk with ⟨w, _, e⟩ | ⟨k', a, b, e⟩
  · exact nomatch e
  · injection e with e; omega
theorem items_ok {first : Int} {n : Nat} {ns : List D} (h0 : 0 ≤ first) (h : ∀ d ∈ ns, IsName first n d) : ∀ x ∈ ns.map (itemF (needOf ns)), IsIt (needOf ns) x := by
  intro x hx
  obtain ⟨d, hd, rfl⟩ := List.mem_map.mp hx
  obtain ⟨h1, h2, h3⟩ := need_bounds h0 h
  rcases h d hd with ⟨w, hw, rfl⟩ | ⟨k, a, b, rfl⟩
  · exact .word w hw
  · have := h3 k hd
    exact .by_ _ (by omega) (by omega)
theorem names_step {n B : Nat} {some_ ws : List Str} {room first : Int} {l : Nat} {ns : List D} {x4 x5 x6 x7 : Option D} {h' : Hm} {N : Ev → Hm → Prop} {T : D → Hm → Prop} {Bk G : Ev → Hm → Prop} (hsome : Words some_) (hpos : 1 ≤ some_.length) (hlen : some_.length ≤ 1000) (hws : Words ws) (hwl : ws.length ≤ 1000) (hln : l ≠ n) (el : h'[l]? = some (.lst ns)) (hnl : ns.length ≤ 1000) (w : Bow n (B + 10) h')
    (q : ∀ d h2 x4 x5 x6 x7, IsName first ws.length d → Drew n B h' h2 → N [some (.ref n), some (bookD room first ws), some (.lst (some_.map D.str)), some (.ref l), x4, x5, x6, x7] (h2.set l (.lst (ns ++ [d])))) :
    SatS ((sSeq (sAsg (gN 5) (eF m_law_sip (aC (eV 0) (aC (eC (.int 3)) aN))))
  (sSeq (sAsg (gN 6) (eF m_law_sip (aC (eV 0) (aC (eF bMax (aC (eC (.int 1)) (aC (eF bLen (aC (eB opIx (eV 1) (eC (.int 2))) aN)) aN))) aN))))
  (sSeq (sAsg (gN 7) (eB opIx (eV 2) (eF m_law_sip (aC (eV 0) (aC (eF bLen (aC (eV 2) aN)) aN)))))
  (sIf (tAnd (tE (eB opGt (eV 5) (eC (.int 0)))) (tE (eB opNe (eB opIx (eV 1) (eC (.int 2))) (eTup aN)))) (sExpr (eM "list" mAppend (eV 3) (aC (eB opAdd (eB opIx (eV 1) (eC (.int 1))) (eV 6)) aN))) (sExpr (eM "list" mAppend (eV 3) (aC (eV 7) aN)))))))
      [some (.ref n), some (bookD room first ws), some (.lst (some_.map D.str)), some (.ref l), x4, x5, x6, x7] h') N T Bk G := by
  array_get_dec
  refine sip (B := B + 9) w (by decide) (by decide) fun way h1 a1 a2 d1 => ?_
  array_get_dec
  refine so_bk2 ?_
  array_get_dec
  rw [List.length_map]
  refine sip (B := B + 8) d1.bow (by omega) (by omega) fun at_ h2 b1 b2 d2 => ?_
  array_get_dec
  rw [List.length_map]
  refine sip (B := B) (d2.bow.le (by omega)) (by omega) (by omega) fun p h3 c1 c2 d3 => ?_
  refine so_someWord c1 c2 fun z hz => ?_
  have dd := (d1.trans d2).trans d3
  have e3 := dd.at hln el
  array_get_dec
  have other : ∀ (T : D → Hm → Prop) (Bk G : Ev → Hm → Prop), SatS ((sExpr (eM "list" mAppend (eV 3) (aC (eV 7) aN))) [some (.ref n), some (bookD room first ws), some (.lst (some_.map D.str)), some (.ref l), x4, some (.int way), some (.int at_), some (.str z)] h3) N T Bk G := by
    intro T Bk G
    array_get_dec
    refine ⟨rcR e3, ?_⟩
    array_get_dec
    refine so_append e3 (by omega) ?_
    exact q _ h3 _ _ _ _ (.inl ⟨z, hsome z hz, rfl⟩) dd
  refine ⟨fun _ => ?_, fun _ => ⟨(fun hc => nomatch hc), fun _ => other _ _ _⟩⟩
  array_get_dec
  refine so_bk2 ?_
  array_get_dec
  refine so_neTup0 (okL_strsN hws.ok) ?_
  refine ⟨_, rfl, ?_⟩
  refine ⟨fun hc => ?_, fun _ => other _ _ _⟩
  have hp : 1 ≤ ws.length := by
    cases ws with
    | nil => exact nomatch hc
    | cons a r => simp
  array_get_dec
  refine ⟨rcR e3, ?_⟩
  array_get_dec
  refine so_bk1 ?_
  array_get_dec
  refine so_append e3 (by omega) ?_
  exact q _ h3 _ _ _ _ (.inr ⟨_, by omega, by omega, rfl⟩) dd
theorem names {n B : Nat} {some_ ws : List Str} {room first : Int} {h : Hm} {Q : D → Hm → Prop} (hsome : Words some_) (hpos : 1 ≤ some_.length) (hlen : some_.length ≤ 1000) (hws : Words ws) (hwl : ws.length ≤ 1000) (w : Bow n (B + 200) h)
    (q : ∀ (ns : List D) (h' : Hm), 1 ≤ ns.length → ns.length ≤ 8 → (∀ d ∈ ns, IsName first ws.length d) → Drew n B h h' → Q (.lst ns) h') : Sat (m_law_names [.ref n, bookD room first ws, .lst (some_.map D.str)] h) Q := by
  refine sa_tr (sa_fn rfl ?_)
  unfold m_law_names_b
  simp only [List.map_cons, List.map_nil, List.replicate, Nat.reduceSub, List.cons_append, List.nil_append]
  array_get_dec
  have d0 : DrewX n (B + 200) h (h ++ [.lst []]) := (Drew.refl w).x.push
  have ee : (h ++ [HD.lst []])[h.length]? = some (.lst []) := by simp
  have hLn : h.length ≠ n := by have := d0.lt; omega
  generalize h ++ [HD.lst []] = h6 at d0 ee
  refine ss_forW ?_
  array_get_dec
  refine sip (B := B + 190) (d0.bow.le (by omega)) (by decide) (by decide) fun many h7 a1 a2 d7 => ?_
  array_get_dec
  refine ⟨by omega, by omega, ?_⟩
  refine ss_forN (1 + many).toNat (fun i v h' => ∃ (ns : List D) (x4 x5 x6 x7 : Option D), v = [some (.ref n), some (bookD room first ws), some (.lst (some_.map D.str)), some (.ref h.length), x4, x5, x6, x7] ∧ h'[h.length]? = some (.lst ns) ∧ ns.length = i ∧ (∀ d ∈ ns, IsName first ws.length d) ∧ DrewX n (B + 190 - 10 * i) h h') ⟨[], _, _, _, _, rfl, d7.at hLn ee, rfl, (fun _ z => nomatch z), (d0.then d7).le (by omega)⟩ ?_ ?_
  · rintro i v h' hi ⟨ns, x4, x5, x6, x7, rfl, el, hl, hns, dx⟩
    simp only [List.set_cons_zero, List.set_cons_succ]
    refine names_step (B := B + 190 - 10 * (i + 1)) hsome hpos hlen hws hwl hLn el (by omega) (dx.bow.le (by omega)) ?_
    intro d h2 y4 y5 y6 y7 hd d2
    refine ⟨ns ++ [d], _, _, _, _, rfl, ?_, by simp [hl], fun z hz => ?_, (dx.then d2).put (Nat.le_refl _)⟩
    · rw [List.getElem?_set_self (List.getElem?_eq_some_iff.mp (d2.at hLn el)).1]
    · rcases List.mem_append.mp hz with hz | hz
      · exact hns z hz
      · rw [List.mem_singleton.mp hz]; exact hd
  · rintro v h' ⟨ns, x4, x5, x6, x7, rfl, el, hl, hns, dx⟩
    array_get_dec
    refine so_fz el ?_
    have dx3 := dx.put (o := .dead) (k := h.length) (Nat.le_refl _)
    refine ⟨?_, dx3.tr.1, q ns _ (by omega) (by omega) hns (dx3.tr.2.le (B' := B) (by omega))⟩
    simp only [D.cl]
    exact clL_all fun x hx => (hns x hx).cl
/-! ### letters read -/
def rd1 (first : Int) (ws : List Str) (need : Int) : D → Except Int D
  | .tup [_, .int n] => match ws[(need - n - first).toNat]? with
    | some w => if first ≤ need - n then .ok (.str w) else .error (need - n)
    | none => .error (need - n)
  | .tup [_, x] => .ok x
  | _ => .ok .non
def rd (first : Int) (ws : List Str) (need : Int) : List D → Except Int (List D)
  | [] => .ok []
  | x :: r => match rd1 first ws need x with
    | .error k => .error k
    | .ok y => match rd first ws need r with
      | .error k => .error k
      | .ok ys => .ok (y :: ys)
theorem rd_app {first : Int} {ws : List Str} {need : Int} : ∀ (a b : List D), rd first ws need (a ++ b) = match rd first ws need a with
    | .error k => .error k
    | .ok ys => match rd first ws need b with
      | .error k => .error k
      | .ok zs => .ok (ys ++ zs)
  | [], b => by
    simp only [List.nil_append, rd]
    cases rd first ws need b <;> rfl
  | x :: r, b => by
    have ih := rd_app (first := first) (ws := ws) (need := need) r b
    simp only [List.cons_append, rd, ih]
    cases rd1 first ws need x with
    | error k => rfl
    | ok y =>
      simp only
      cases rd first ws need r with
      | error k => rfl
      | ok ys =>
        simp only
        cases rd first ws need b <;> rfl
theorem rd_snoc {first : Int} {ws : List Str} {need : Int} {l : List D} {ys : List D} {i : Nat} {x : D} (e : rd first ws need (l.take i) = .ok ys) (hx : l[i]? = some x) : (∀ y, rd1 first ws need x = .ok y → rd first ws need (l.take (i + 1)) = .ok (ys ++ [y])) ∧ ∀ k, rd1 first ws need x = .error k → rd first ws need l = .error k := by
  have et : l.take (i + 1) = l.take i ++ [x] := by rw [List.take_add_one, hx]; rfl
  refine ⟨fun y h => ?_, fun k h => ?_⟩
  · rw [et, rd_app, e]
    simp only [rd, h]
  · have hlt := (List.getElem?_eq_some_iff.mp hx)
    obtain ⟨hlt, hx⟩ := hlt
    rw [← List.take_append_drop i l, rd_app, e, List.drop_eq_getElem_cons hlt, hx]
    simp only [rd, h]
theorem word_of {X : D → Hm → Prop} {room first need r : Int} {ws : List Str} {d : D} {h : Hm} {Q : D → Hm → Prop} (hd : IsIt r d) (q1 : ∀ y, rd1 first ws need d = .ok y → Q y h) (q2 : ∀ k, rd1 first ws need d = .error k → X (NoWordX k) h) : SatX X (m_word_of [bookD room first ws, .int need, d] h) Q := by
  refine sa_fnX rfl ?_
  unfold m_word_of_b
  simp only [List.map_cons, List.map_nil, List.replicate, Nat.reduceSub, List.cons_append, List.nil_append]
  cases hd with
  | word w hw =>
    array_get_dec
    rw [ne_word.1]
    refine ⟨fun _ => ?_, fun hc => nomatch hc⟩
    array_get_dec
    exact q1 _ rfl
  | by_ n h0 h1 =>
    array_get_dec
    rw [ne_word.2]
    refine ⟨(fun hc => nomatch hc), fun _ => ?_⟩
    array_get_dec
    refine word_at_r (fun w h1 e => ?_) (fun hb => ?_)
    · refine q1 _ ?_
      simp only [rd1, e]
      rw [if_pos h1]
    · refine q2 _ ?_
      simp only [rd1]
      split
      · rename_i w e
        have := (List.getElem?_eq_some_iff.mp e).1
        rw [if_neg (by omega)]
      · rfl
theorem read {X : D → Hm → Prop} {room first need r : Int} {ws : List Str} {l : List D} {h : Hm} {Q : D → Hm → Prop} (hl : l.length ≤ 1000) (hi : ∀ x ∈ l, IsIt r x) (q1 : need ≤ first + ws.length → ∀ ys, rd first ws need l = .ok ys → Q (.lst ys) h) (q2 : need ≤ first + ws.length → ∀ k, rd first ws need l = .error k → X (NoWordX k) h) (q3 : first + ws.length < need → X (WaitX need) h) : SatX X (m_read [bookD room first ws, .tup [.int need, .tup l]] h) Q := by
  refine sa_fnX rfl ?_
  unfold m_read_b
  simp only [List.map_cons, List.map_nil, List.replicate, Nat.reduceSub, List.cons_append, List.nil_append]
  array_get_dec
  refine SatX.w (next_number ?_)
  array_get_dec
  refine ⟨fun hc => ?_, fun hc => ?_⟩
  · refine ss_rs1 ?_
    array_get_dec
    exact q3 (of_decide_eq_true hc)
  · have hc : ¬ first + (ws.length : Int) < need := of_decide_eq_false hc
    array_get_dec
    refine sa_LcX ?_
    array_get_dec
    refine so_wkT ?_
    refine ⟨by show l.length ≤ 16777215; omega, fun i acc h' => rd first ws need (l.take i) = .ok acc ∧ h' = h, ⟨rfl, rfl⟩, ?_, ?_⟩
    · rintro i x acc h' hx ⟨e, rfl⟩
      have hx : l[i]? = some x := hx
      obtain ⟨s1, s2⟩ := rd_snoc e hx
      refine ⟨rfl, _, rfl, ?_⟩
      simp only [wipeE, List.foldr, List.set_cons_zero, List.set_cons_succ]
      array_get_dec
      refine ⟨fun _ => ?_, fun z => nomatch z⟩
      array_get_dec
      refine word_of (hi x (List.mem_of_getElem? hx)) (fun y hy => ⟨s1 y hy, rfl⟩) fun k hk => q2 (by omega) k (s2 k hk)
    · rintro acc h' ⟨e, rfl⟩
      have e : rd first ws need (l.take l.length) = .ok acc := e
      rw [List.take_length] at e
      exact ⟨rfl, q1 (by omega) acc e⟩
/-! ### the kinds of what is refused -/
theorem so_isX {X : D → Hm → Prop} {Ts : List Str} {c : Str} {fs : List (Str × D)} {h : Hm} {Q : D → Hm → Prop} {b : Bool} (e : (Ts.any fun T => xIs c T) = b) (q : Q (.bl b) h) : SatX X (isX Ts (.exn c fs) h) Q := ⟨by show Q (.bl (Ts.any fun T => xIs c T)) h; rw [e]; exact q⟩
theorem so_xFld1 {X : D → Hm → Prop} {c f : Str} {x : D} {h : Hm} {Q : D → Hm → Prop} (q : Q x h) : SatX X (xFld f (.exn c [(f, x)]) h) Q := by
  unfold xFld
  simp only [List.lookup_cons_self]
  exact ⟨q⟩
theorem so_countB {X : D → Hm → Prop} {l : List Bool} {h : Hm} {Q : D → Hm → Prop} (q : Q (.int (l.count true : Nat)) h) : SatX X (mCount (.lst (l.map D.bl)) [.bl true] h) Q := by
  have e1 : ∀ l : List Bool, D.okL 63 (l.map D.bl) = true := fun l => by
    induction l with
    | nil => rfl
    | cons a r ih => simp only [List.map_cons, D.okL, D.okN, Bool.true_and]; exact ih
  have e2 : ∀ l : List Bool, (l.map D.bl).countP (fun z => D.eqb z (.bl true)) = l.count true := fun l => by
    induction l with
    | nil => rfl
    | cons a r ih => simp only [List.map_cons, List.countP_cons, ih, List.count_cons, D.eqb]; cases a <;> rfl
  unfold mCount
  simp only [lsOf, e1, D.okN, Bool.and_self, if_true, e2]
  exact ⟨q⟩
theorem kind_word {k : Int} {h : Hm} {Q : D → Hm → Prop} (q : Q (.tup [.str (Str.ofString "word"), .int k]) h) : Sat (m_law_kind [NoWordX k] h) Q := by
  refine sa_fn rfl ?_
  unfold m_law_kind_b
  simp only [List.map_cons, List.map_nil, List.replicate, Nat.reduceSub, List.cons_append, List.nil_append]
  array_get_dec
  refine so_isX (b := true) (by decide +kernel) ?_
  array_get_dec
  refine so_isX (b := false) (by decide +kernel) ?_
  array_get_dec
  refine so_isX (b := false) (by decide +kernel) ?_
  array_get_dec
  refine so_isX (b := false) (by decide +kernel) ?_
  array_get_dec
  refine so_isX (b := false) (by decide +kernel) ?_
  array_get_dec
  refine so_isX (b := false) (by decide +kernel) ?_
  array_get_dec
  refine ⟨rfl, ?_⟩
  array_get_dec
  refine so_countB (l := [true, false, false, false, false, false]) ?_
  array_get_dec
  rw [show (!decide ((([true, false, false, false, false, false].count true : Nat) : Int) = 1)) = false by decide]
  refine ⟨fun _ => ?_, fun hc => nomatch hc⟩
  array_get_dec
  refine so_isX (b := false) (by decide +kernel) ?_
  array_get_dec
  refine ⟨fun _ => ?_, fun hc => nomatch hc⟩
  array_get_dec
  refine so_isX (b := true) (by decide +kernel) ?_
  array_get_dec
  refine ⟨(fun hc => nomatch hc), fun _ => ?_⟩
  array_get_dec
  refine ⟨fun _ => ?_, fun hc => nomatch hc⟩
  array_get_dec
  refine so_xFld1 ?_
  array_get_dec
  exact q
theorem kind_wait {k : Int} {h : Hm} {Q : D → Hm → Prop} (q : Q (.tup [.str (Str.ofString "wait"), .int k]) h) : Sat (m_law_kind [WaitX k] h) Q := by
  refine sa_fn rfl ?_
  unfold m_law_kind_b
  simp only [List.map_cons, List.map_nil, List.replicate, Nat.reduceSub, List.cons_append, List.nil_append]
  array_get_dec
  refine so_isX (b := false) (by decide +kernel) ?_
  array_get_dec
  refine so_isX (b := true) (by decide +kernel) ?_
  array_get_dec
  refine so_isX (b := false) (by decide +kernel) ?_
  array_get_dec
  refine so_isX (b := false) (by decide +kernel) ?_
  array_get_dec
  refine so_isX (b := false) (by decide +kernel) ?_
  array_get_dec
  refine so_isX (b := false) (by decide +kernel) ?_
  array_get_dec
  refine ⟨rfl, ?_⟩
  array_get_dec
  refine so_countB (l := [false, true, false, false, false, false]) ?_
  array_get_dec
  rw [show (!decide ((([false, true, false, false, false, false].count true : Nat) : Int) = 1)) = false by decide]
  refine ⟨fun _ => ?_, fun hc => nomatch hc⟩
  array_get_dec
  refine so_isX (b := false) (by decide +kernel) ?_
  array_get_dec
  refine ⟨fun _ => ?_, fun hc => nomatch hc⟩
  array_get_dec
  refine so_isX (b := true) (by decide +kernel) ?_
  array_get_dec
  refine ⟨(fun hc => nomatch hc), fun _ => ?_⟩
  array_get_dec
  refine ⟨(fun hc => nomatch hc), fun _ => ?_⟩
  array_get_dec
  refine ⟨fun _ => ?_, fun hc => nomatch hc⟩
  array_get_dec
  refine so_xFld1 ?_
  array_get_dec
  exact q
end Lw

/-! LibT: lives, deeds drawn and done. -/
set_option Elab.async false
set_option linter.all false
set_option maxRecDepth 100000
set_option maxHeartbeats 4000000
namespace Lw
open PySem Dn
local macro_rules | `(tactic| sizeOf_list_dec) => `(tactic| with_reducible (first
  | refine sa_V0 ?_ | refine sa_V1 ?_ | refine sa_V2 ?_ | refine sa_V3 ?_ | refine sa_V4 ?_ | refine sa_V5 ?_ | refine sa_V6 ?_ | refine sa_V7 ?_ | refine sa_V8 ?_ | refine sa_V9 ?_ | refine sa_V10 ?_ | refine sa_V11 ?_ | refine sa_V12 ?_ | refine sa_V13 ?_ | refine sa_V14 ?_ | refine sa_V15 ?_ | refine sa_C ?_ | refine sa_B ?_ | refine sa_U ?_ | refine sa_F ?_ | refine sa_aN ?_ | refine sa_aC ?_ | refine sa_tup ?_ | refine sa_lst ?_ | refine sa_new ?_ | refine sa_tE ?_ | refine sa_If ?_ | refine sa_And ?_ | refine sa_Or ?_ | refine sa_Not ?_ | refine sa_tAnd ?_ | refine sa_tOr ?_ | refine sa_tNot ?_ | refine sa_chain ?_ | refine sa_M ?_ | refine sa_Sl ?_ | refine sa_SlN ?_ | refine sa_pN ?_ | refine sa_pE ?_ | refine sa_wE ?_ | refine sa_wR1 ?_ | refine sa_wR2 ?_ | refine sa_tYes ?_ | refine ss_nx ?_ | refine ss_seq ?_ | refine ss_asg0 ?_ | refine ss_asg1 ?_ | refine ss_asg2 ?_ | refine ss_asg3 ?_ | refine ss_asg4 ?_ | refine ss_asg5 ?_ | refine ss_asg6 ?_ | refine ss_asg7 ?_ | refine ss_asg8 ?_ | refine ss_asg9 ?_ | refine ss_asg10 ?_ | refine ss_asg11 ?_ | refine ss_asg12 ?_ | refine ss_asg13 ?_ | refine ss_asg14 ?_ | refine ss_asg15 ?_ | refine ss_expr ?_ | refine ss_ret ?_ | refine ss_retN ?_ | refine ss_if ?_ | refine ss_put ?_ | refine ss_bk ?_ | refine ss_ct ?_ | refine so_add ?_ | refine so_sub ?_ | refine so_lt ?_ | refine so_le ?_ | refine so_gt ?_ | refine so_ge ?_ | refine so_eqI ?_ | refine so_neI ?_ | refine so_eqS ?_ | refine so_neS ?_ | refine so_eqB ?_ | refine so_neB ?_ | refine so_isN ?_ | refine so_notN ?_ | refine so_len ?_ | refine so_lenT ?_ | refine so_lenC ?_ | refine so_max ?_ | refine so_min ?_ | refine so_intI ?_ | refine so_intB ?_ | refine so_ixL0 ?_ | refine so_ixL1 ?_ | refine so_ixL2 ?_ | refine so_ixL3 ?_ | refine so_ixL4 ?_ | refine so_ixL5 ?_ | refine so_ixT0 ?_ | refine so_ixT1 ?_ | refine so_ixT2 ?_ | refine so_ixT3 ?_ | refine so_ixT4 ?_ | refine so_ixT5 ?_
  | refine so_isiI_tuple ?_ | refine so_isiI_list ?_ | refine so_isiI_str ?_ | refine so_isiI_bool ?_ | refine so_isiI_int ?_ | refine so_isiS_tuple ?_ | refine so_isiS_list ?_ | refine so_isiS_str ?_ | refine so_isiS_bool ?_ | refine so_isiS_int ?_ | refine so_isiB_tuple ?_ | refine so_isiB_list ?_ | refine so_isiB_str ?_ | refine so_isiB_bool ?_ | refine so_isiB_int ?_ | refine so_isiN_tuple ?_ | refine so_isiN_list ?_ | refine so_isiN_str ?_ | refine so_isiN_bool ?_ | refine so_isiN_int ?_ | refine so_isiT_tuple ?_ | refine so_isiT_list ?_ | refine so_isiT_str ?_ | refine so_isiT_bool ?_ | refine so_isiT_int ?_ | refine so_isiL_tuple ?_ | refine so_isiL_list ?_ | refine so_isiL_str ?_ | refine so_isiL_bool ?_ | refine so_isiL_int ?_
  | refine so_mod (by decide) ?_ | refine so_mul (mulOkL (by decide)) ?_ | refine so_div (by decide) ?_ | refine so_ixR0 (by assumption) ?_ | refine so_ixR1 (by assumption) ?_ | refine so_ixR2 (by assumption) ?_ | refine so_lenR (by assumption) ?_
  | (refine so_addL (by simp only [List.length_append, List.length_cons, List.length_nil]; omega) ?_; try simp only [List.cons_append, List.nil_append])
  | refine Exists.intro _ (And.intro rfl ?_)
  | refine And.intro (show _ ≤ 16777216 by simp only [List.length_cons, List.length_nil]; omega) ?_))
local macro_rules | `(tactic| array_get_dec) => `(tactic| repeat sizeOf_list_dec)
def m_lives_b : SM :=
  (sSeq (sAsg (gN 2) eDct)
  (sSeq (sFor (gN 3) (wR2 (eB opIx (eV 0) (eC (.int 1))) (eF m_next_number (aC (eV 0) aN))) (sPut (eV 2) (eV 3) (eNew (aC (eF m_word_at (aC (eV 0) (aC (eV 3) aN))) (aC (eC (.int 0)) (aC (eC .non) aN))))))
  (sSeq (sFor (gT [4, 5]) (wEnT (eV 1)) (sSeq (sAsg (gN 6) (eF m_done (aC (eV 0) (aC (eV 5) aN))))
  (sSeq (sFor (gN 3) (wR2 (eF m_next_number (aC (eV 0) aN)) (eF m_next_number (aC (eV 6) aN))) (sPut (eV 2) (eV 3) (eNew (aC (eF m_word_at (aC (eV 6) (aC (eV 3) aN))) (aC (eB opAdd (eV 4) (eC (.int 1))) (aC (eC .non) aN))))))
  (sSeq (sFor (gN 3) (wR2 (eB opIx (eV 0) (eC (.int 1))) (eB opIx (eV 6) (eC (.int 1)))) (sPut (eB opIx (eV 2) (eV 3)) (eC (.int 2)) (eB opAdd (eV 4) (eC (.int 1)))))
  (sAsg (gN 0) (eV 6))))))
  (sRet (eLc [3] (gN 3) (wE (eF bSorted (aC (eV 2) aN))) tYes (eTup (aC (eV 3) (aC (eB opIx (eB opIx (eV 2) (eV 3)) (eC (.int 0))) (aC (eB opIx (eB opIx (eV 2) (eV 3)) (eC (.int 1))) (aC (eB opIx (eB opIx (eV 2) (eV 3)) (eC (.int 2))) aN))))))))))
def m_lives : FM := tr (fn0 2 7 m_lives_b)
def m_law_done_b : SM :=
  (sSeq (sAsg (gT [3, 4, 5]) (eV 0))
  (sSeq (sIf (tE (eB opEq (eB opIx (eV 1) (eC (.int 0))) (eC (.str (Str.ofString "room"))))) (sRet (eF m_law_fit (aC (eB opIx (eV 1) (eC (.int 1))) (aC (eV 4) (aC (eF bList (aC (eV 5) aN)) aN))))) sNx)
  (sSeq (sIf (tAnd (tE (eB opEq (eB opIx (eV 1) (eC (.int 0))) (eC (.str (Str.ofString "again"))))) (tE (eB opGt (eB opIx (eV 1) (eC (.int 1))) (eF bLen (aC (eV 5) aN))))) (sRet (eC (.str (Str.ofString "word")))) sNx)
  (sSeq (sAsg (gN 2) (eB opIx (eV 1) (eC (.int 1))))
  (sSeq (sIf (tE (eB opEq (eB opIx (eV 1) (eC (.int 0))) (eC (.str (Str.ofString "again"))))) (sAsg (gN 2) (eB opIx (eV 5) (eB opSub (eF bLen (aC (eV 5) aN)) (eB opIx (eV 1) (eC (.int 1)))))) sNx)
  (sSeq (sIf (tE (eB opGt (eB opAdd (eF bLen (aC (eV 2) aN)) (eC (.int 2))) (eV 3))) (sRet (eC (.str (Str.ofString "room")))) sNx)
  (sRet (eF m_law_fit (aC (eV 3) (aC (eV 4) (aC (eB opAdd (eF bList (aC (eV 5) aN)) (eLst (aC (eV 2) aN))) aN)))))))))))
def m_law_done : FM := fn0 2 6 m_law_done_b
def m_law_deed_r_b : SM :=
  (sSeq (sAsg (gN 3) (eF m_law_sip (aC (eV 0) (aC (eC (.int 10)) aN))))
  (sSeq (sAsg (gN 4) (eB opAdd (eC (.int 1)) (eF m_law_sip (aC (eV 0) (aC (eF bMax (aC (eC (.int 1)) (aC (eF bLen (aC (eB opIx (eV 1) (eC (.int 2))) aN)) aN))) aN)))))
  (sSeq (sAsg (gN 5) (eB opIx (eV 2) (eF m_law_sip (aC (eV 0) (aC (eF bLen (aC (eV 2) aN)) aN)))))
  (sSeq (sIf (tE (eB opGt (eV 3) (eC (.int 8)))) (sRet (eTup (aC (eC (.str (Str.ofString "room"))) (aC (eB opIx (eLst (aC (eF m_law_sip (aC (eV 0) (aC (eC (.int 201)) aN))) (aC (eF bMax (aC (eC (.int 0)) (aC (eB opSub (eB opIx (eV 1) (eC (.int 0))) (eF m_law_sip (aC (eV 0) (aC (eC (.int 20)) aN)))) aN))) aN))) (eF m_law_sip (aC (eV 0) (aC (eC (.int 2)) aN)))) aN)))) sNx)
  (sSeq (sIf (tAnd (tE (eB opGt (eV 3) (eC (.int 5)))) (tE (eB opNe (eB opIx (eV 1) (eC (.int 2))) (eTup aN)))) (sRet (eTup (aC (eC (.str (Str.ofString "again"))) (aC (eV 4) aN)))) sNx)
  (sSeq (sIf (tE (eB opLe (eB opAdd (eF bLen (aC (eV 5) aN)) (eC (.int 2))) (eB opIx (eV 1) (eC (.int 0))))) (sRet (eTup (aC (eC (.str (Str.ofString "put"))) (aC (eV 5) aN)))) sNx)
  (sRet (eTup (aC (eC (.str (Str.ofString "room"))) (aC (eB opAdd (eC (.int 14)) (eF m_law_sip (aC (eV 0) (aC (eC (.int 187)) aN)))) aN))))))))))
def m_law_deed_r : FM := fn0 3 6 m_law_deed_r_b
def m_law_deeds_b : SM :=
  (sSeq (sAsg (gN 4) (eNew aN))
  (sSeq (sFor (gN 5) (wR1 (eV 3)) (sSeq (sExpr (eM "list" mAppend (eV 4) (aC (eF m_law_deed_r (aC (eV 0) (aC (eV 1) (aC (eV 2) aN)))) aN)))
  (sAsg (gN 1) (eF m_law_done (aC (eV 1) (aC (eB opIx (eV 4) (eU opNeg (eC (.int 1)))) aN))))))
  (sRet (eU fz (eV 4)))))
def m_law_deeds : FM := tr (fn0 4 6 m_law_deeds_b)


/-! ### dicts -/
section
variable {X : D → Hm → Prop} {h : Hm} {v : Ev}
theorem sa_dct {Q : D → Hm → Prop} (q : Q (.ref h.length) (h ++ [.dct []])) : SatX X (eDct v h) Q := ⟨q⟩
theorem so_ixK {n : Nat} {l : List (D × D)} {i d : D} {k : L2.Key} {Q : D → Hm → Prop} (e : h[n]? = some (.dct l)) (hk : keyD i = some k) (hv : dVal k l = some d) (q : Q d h) : SatX X (opIx (.ref n) i h) Q := by
  have e1 : lsOf h (.ref n) = none := by simp [lsOf, e]
  have e2 : dcOf h (.ref n) = some l := by simp [dcOf, e]
  have e3 : ixD (.ref n) i h = .ok d h := by unfold ixD; simp only [e2, hk, hv]
  have e4 : opIx (.ref n) i h = .ok d h := by
    cases i with
    | int x => unfold opIx; simp only [e1]; exact e3
    | _ => exact e3
  rw [e4]; exact ⟨q⟩
theorem so_putK {n : Nat} {l : List (D × D)} {i x : D} {k : L2.Key} {P : Hm → Prop} (e : h[n]? = some (.dct l)) (hl : l.length < 16777216) (hk : keyD i = some k) (q : P (h.set n (.dct (dPut i k x l)))) : PutTo (.ref n) i x h P := by
  unfold PutTo putIx
  simp only [e, hk, if_pos hl, Option.map_some]
  exact q
theorem so_sortedK {n : Nat} {l : List (D × D)} {ns : List Int} {Q : D → Hm → Prop} (e : h[n]? = some (.dct l)) (hk : l.map (·.1) = ns.map D.int) (q : Q (.lst ((srt ns).map D.int)) h) : SatX X (bSorted [.ref n] h) Q := by
  have e1 : lsOf h (.ref n) = none := by simp [lsOf, e]
  have e2 : dcOf h (.ref n) = some l := by simp [dcOf, e]
  unfold bSorted
  simp only [e1, e2, hk, intsOf_map]
  exact ⟨q⟩
theorem so_sortedL {d : D} {ns : List Int} {Q : D → Hm → Prop} (e : lsOf h d = some (ns.map D.int)) (q : Q (.lst ((srt ns).map D.int)) h) : SatX X (bSorted [d] h) Q := by
  unfold bSorted
  simp only [e, intsOf_map]
  exact ⟨q⟩
end
/-- numbers from f on, places from a on -/
def dl : Int → Nat → Nat → List (D × D)
  | _, _, 0 => []
  | f, a, n + 1 => (.int f, .ref a) :: dl (f + 1) (a + 1) n
def asc : Int → Nat → List Int
  | _, 0 => []
  | f, n + 1 => f :: asc (f + 1) n
theorem dl_len : ∀ (f : Int) (a n : Nat), (dl f a n).length = n
  | _, _, 0 => rfl
  | f, a, n + 1 => by simp [dl, dl_len]
theorem dl_snoc : ∀ (f : Int) (a n : Nat), dl f a (n + 1) = dl f a n ++ [(.int (f + n), .ref (a + n))]
  | f, a, 0 => by simp [dl]
  | f, a, n + 1 => by
    rw [dl, dl_snoc (f + 1) (a + 1) n, dl, List.cons_append]
    rw [show f + 1 + (n : Int) = f + ((n + 1 : Nat) : Int) by omega, show a + 1 + n = a + (n + 1) by omega]
theorem dl_keys : ∀ (f : Int) (a n : Nat), (dl f a n).map (·.1) = (asc f n).map D.int
  | _, _, 0 => rfl
  | f, a, n + 1 => by simp only [dl, asc, List.map_cons, dl_keys]
theorem asc_ge : ∀ (f : Int) (n : Nat), ∀ x ∈ asc f n, f ≤ x
  | _, 0, x, h => nomatch h
  | f, n + 1, x, h => by
    rcases List.mem_cons.mp h with rfl | h
    · exact Int.le_refl _
    · have := asc_ge (f + 1) n x h; omega
theorem asc_pw : ∀ (f : Int) (n : Nat), (asc f n).Pairwise (· ≤ ·)
  | _, 0 => .nil
  | f, n + 1 => List.pairwise_cons.mpr ⟨fun x h => by have := asc_ge (f + 1) n x h; omega, asc_pw (f + 1) n⟩
theorem asc_srt (f : Int) (n : Nat) : srt (asc f n) = asc f n := (srt_of (.refl _) (asc_pw f n)).symm
theorem asc_at : ∀ (f : Int) (n i : Nat), (asc f n)[i]? = if i < n then some (f + i) else none
  | _, 0, i => by simp [asc]
  | f, n + 1, 0 => by simp [asc]
  | f, n + 1, i + 1 => by
    rw [asc, List.getElem?_cons_succ, asc_at (f + 1) n i]
    by_cases h : i < n
    · rw [if_pos h, if_pos (by omega)]
      congr 1
      omega
    · rw [if_neg h, if_neg (by omega)]
theorem dl_val : ∀ (f : Int) (a n i : Nat), i < n → dVal (.inl (f + (i : Int))) (dl f a n) = some (.ref (a + i))
  | _, _, 0, i, h => by omega
  | f, a, n + 1, 0, h => dVal_pos (by simp [keyD])
  | f, a, n + 1, i + 1, h => by
    have ih := dl_val (f + 1) (a + 1) n i (by omega)
    rw [show f + ((i + 1 : Nat) : Int) = f + 1 + (i : Int) by omega]
    refine (dVal_neg ?_).trans (ih.trans ?_)
    · intro e
      injection (show some (Sum.inl f : L2.Key) = some _ from e) with e
      injection e with e
      omega
    · rw [show a + 1 + i = a + (i + 1) by omega]
theorem dl_new : ∀ (f : Int) (a n : Nat) (x : Int), f + n ≤ x → dVal (.inl x) (dl f a n) = none
  | _, _, 0, _, _ => rfl
  | f, a, n + 1, x, h => by
    refine (dVal_neg ?_).trans (dl_new (f + 1) (a + 1) n x (by omega))
    intro e
    injection (show some (Sum.inl f : L2.Key) = some _ from e) with e
    injection e with e
    omega
/-! ### rows of lives -/
structure Row where
  w : Str
  b : Nat
  g : Option Nat
def gD : Option Nat → D
  | none => .non
  | some n => .int n
def rowO (r : Row) : HD := .lst [.str r.w, .int r.b, gD r.g]
/-- the heap while lives runs -/
def hpL (h : Hm) (f : Int) (R : List Row) : Hm := h ++ (.dct (dl f (h.length + 1) R.length) :: R.map rowO)
theorem hpL_len {h : Hm} {f : Int} {R : List Row} : (hpL h f R).length = h.length + 1 + R.length := by
  simp [hpL]; omega
theorem hpL_d {h : Hm} {f : Int} {R : List Row} : (hpL h f R)[h.length]? = some (.dct (dl f (h.length + 1) R.length)) := by
  simp [hpL]
theorem hpL_at {h : Hm} {f : Int} {R : List Row} {i : Nat} {r : Row} (e : R[i]? = some r) : (hpL h f R)[h.length + 1 + i]? = some (rowO r) := by
  unfold hpL
  rw [List.getElem?_append_right (by omega), show h.length + 1 + i - h.length = i + 1 by omega, List.getElem?_cons_succ, List.getElem?_map, e]
  rfl
theorem hpL_new {h : Hm} {f : Int} {R : List Row} {r : Row} : (hpL h f R ++ [rowO r]).set h.length (.dct (dPut (.int (f + R.length)) (.inl (f + R.length)) (.ref (hpL h f R).length) (dl f (h.length + 1) R.length))) = hpL h f (R ++ [r]) := by
  unfold dPut
  rw [dl_new f (h.length + 1) R.length _ (Int.le_refl _)]
  simp only [Option.isSome_none, Bool.false_eq_true, if_false]
  rw [hpL_len, ← dl_snoc]
  unfold hpL
  rw [List.append_assoc, List.set_append_right _ _ (Nat.le_refl _), Nat.sub_self]
  simp
theorem hpL_set {h : Hm} {f : Int} {R : List Row} {i : Nat} {r : Row} : (hpL h f R).set (h.length + 1 + i) (rowO r) = hpL h f (R.set i r) := by
  unfold hpL
  rw [List.set_append_right _ _ (by omega), show h.length + 1 + i - h.length = i + 1 by omega, List.set_cons_succ, List.map_set, List.length_set]
/-! ### deeds done one behind the other -/
structure St where
  room : Int
  first : Int
  ws : List Str
def St.bk (s : St) : D := bookD s.room s.first s.ws
def nextS (s : St) (r' : Int) (ws' : List Str) : St := ⟨r', s.first + ((ws'.length - (stay r' ws').length : Nat) : Int), stay r' ws'⟩
theorem nextS_bk (s : St) (r' : Int) (ws' : List Str) : (nextS s r' ws').bk = bookS r' s.first ws' := rfl
structure RunOf (ds : List D) (st : Nat → St) : Prop where
  step : ∀ i d, ds[i]? = some d → ∃ r' ws', Can (st i).room (st i).ws d r' ws' ∧ st (i + 1) = nextS (st i) r' ws'
  ok : ∀ i, i ≤ ds.length → 0 ≤ (st i).room ∧ (st i).room ≤ 200 ∧ Words (st i).ws ∧ sumW (st i).ws ≤ (st i).room
def kOf (st : Nat → St) (c : Nat) : Nat := ((st c).first - (st 0).first).toNat
def nOf (st : Nat → St) (c : Nat) : Nat := kOf st c + (st c).ws.length
structure LivesOf (n : Nat) (st : Nat → St) (R : List Row) : Prop where
  fst : ∀ c, c ≤ n → (st c).first = (st 0).first + kOf st c
  len : R.length = nOf st n
  mono : ∀ c, c ≤ n → kOf st c ≤ kOf st n ∧ nOf st c ≤ nOf st n
  words : ∀ c, c ≤ n → (st c).ws = ((R.map (·.w)).take (nOf st c)).drop (kOf st c)
  born : ∀ (i : Nat) (r : Row), R[i]? = some r → ∀ c, c ≤ n → (r.b ≤ c ↔ i < nOf st c)
  gone : ∀ (i : Nat) (r : Row), R[i]? = some r → ∀ c, c ≤ n → ((∃ g, r.g = some g ∧ g ≤ c) ↔ i < kOf st c)
  bn : ∀ (i : Nat) (r : Row), R[i]? = some r → r.b ≤ n
  gn : ∀ (i : Nat) (r : Row) (g : Nat), R[i]? = some r → r.g = some g → g ≤ n
  over : ∀ (i : Nat) (r : Row) (g : Nat), R[i]? = some r → r.g = some g → (st g).room < sumW (((R.map (·.w)).take (nOf st g)).drop i)
  wds : Words (R.map (·.w))
def mark (k j t : Nat) (R : List Row) : List Row := R.mapIdx fun i r => if k ≤ i ∧ i < k + j then ⟨r.w, r.b, some t⟩ else r
theorem mark_len (k j t : Nat) (R : List Row) : (mark k j t R).length = R.length := by simp [mark]
theorem mark_zero (k t : Nat) (R : List Row) : mark k 0 t R = R := by
  unfold mark
  apply List.ext_getElem?
  intro i
  rw [List.getElem?_mapIdx]
  cases R[i]? with
  | none => rfl
  | some r => simp; omega
theorem mark_at (k j t : Nat) (R : List Row) (i : Nat) : (mark k j t R)[i]? = (R[i]?).map fun r => if k ≤ i ∧ i < k + j then ⟨r.w, r.b, some t⟩ else r := by
  unfold mark
  rw [List.getElem?_mapIdx]
theorem mark_succ {k j t : Nat} {R : List Row} {r : Row} (e : R[k + j]? = some r) : (mark k j t R).set (k + j) ⟨r.w, r.b, some t⟩ = mark k (j + 1) t R := by
  apply List.ext_getElem?
  intro i
  rw [List.getElem?_set, mark_at, mark_at, mark_len]
  by_cases h : k + j = i
  · subst h
    have hlt := (List.getElem?_eq_some_iff.mp e).1
    rw [if_pos rfl, if_pos hlt, e]
    simp
  · rw [if_neg h]
    cases R[i]? with
    | none => rfl
    | some r' =>
      simp only [Option.map_some]
      congr 1
      by_cases h1 : k ≤ i ∧ i < k + j
      · rw [if_pos h1, if_pos (by omega)]
      · rw [if_neg h1, if_neg (by omega)]
theorem mark_w (k j t : Nat) (R : List Row) : (mark k j t R).map (·.w) = R.map (·.w) := by
  apply List.ext_getElem?
  intro i
  rw [List.getElem?_map, List.getElem?_map, mark_at]
  cases R[i]? with
  | none => rfl
  | some r =>
    simp only [Option.map_some]
    congr 1
    split <;> rfl
/-- a new row -/
theorem lives_put {h : Hm} {f : Int} {R : List Row} {w : Str} {b : Nat} {num : Int} {N : Ev → Hm → Prop} {T : D → Hm → Prop} {Bk G : Ev → Hm → Prop} (v : Ev) (eb : EM) (ea : EM) (e2 : v[2]? = some (some (.ref h.length))) (e3 : v[3]? = some (some (.int num))) (hnum : num = f + R.length) (hR : R.length ≤ 1000000)
    (ha : ∀ P : D → Hm → Prop, P (.str w) (hpL h f R) → Sat (ea v (hpL h f R)) P) (hb : ∀ P : D → Hm → Prop, P (.int b) (hpL h f R) → Sat (eb v (hpL h f R)) P) (q : N v (hpL h f (R ++ [⟨w, b, none⟩]))) :
    SatS (sPut (eV 2) (eV 3) (eNew (aC ea (aC eb (aC (eC .non) aN)))) v (hpL h f R)) N T Bk G := by
  with_reducible refine ss_put ?_
  with_reducible refine sa_new ?_
  with_reducible refine sa_aC ?_
  refine ha _ ?_
  with_reducible refine sa_aC ?_
  refine hb _ ?_
  array_get_dec
  refine sa_V e2 (sa_V e3 ?_)
  have e0 : (hpL h f R ++ [HD.lst [.str w, .int b, .non]])[h.length]? = some (.dct (dl f (h.length + 1) R.length)) := by
    rw [List.getElem?_append_left (by rw [hpL_len]; omega)]; exact hpL_d
  refine so_putK (k := .inl num) e0 (by rw [dl_len]; omega) rfl ?_
  subst hnum
  have := hpL_new (h := h) (f := f) (R := R) (r := ⟨w, b, none⟩)
  rw [show ([HD.lst [.str w, .int b, .non]] : List HD) = [rowO ⟨w, b, none⟩] from rfl, this]
  exact q
theorem run_fst {ds : List D} {st : Nat → St} (hr : RunOf ds st) : ∀ c, c ≤ ds.length → (st c).first = (st 0).first + kOf st c ∧ (st 0).first ≤ (st c).first
  | 0, _ => by unfold kOf; omega
  | c + 1, h => by
    obtain ⟨i1, i2⟩ := run_fst hr c (by omega)
    obtain ⟨r', ws', hc, e⟩ := hr.step c ds[c] (List.getElem?_eq_getElem (by omega))
    have : (st (c + 1)).first = (st c).first + ((ws'.length - (stay r' ws').length : Nat) : Int) := by rw [e]; rfl
    unfold kOf
    omega
theorem rows_w (b : Nat) (ws : List Str) : (ws.map fun w => (⟨w, b, none⟩ : Row)).map (·.w) = ws := by rw [List.map_map]; exact List.map_id _
theorem lives_first {s : St} {st : Nat → St} (e : st 0 = s) (hW : Words s.ws) : LivesOf 0 st (s.ws.map fun w => ⟨w, 0, none⟩) := by
  have hk : kOf st 0 = 0 := by unfold kOf; omega
  have hn : nOf st 0 = s.ws.length := by unfold nOf; rw [hk, e]; omega
  have h0 : ∀ c, c ≤ 0 → c = 0 := fun c h => by omega
  refine ⟨fun c h => ?_, ?_, fun c h => ?_, fun c h => ?_, fun i r hi c h => ?_, fun i r hi c h => ?_, fun i r hi => ?_, fun i r g hi hg => ?_, fun i r g hi hg => ?_, by rw [rows_w]; exact hW⟩
  · rw [h0 c h, hk]; simp
  · rw [hn]; simp
  · rw [h0 c h]; exact ⟨Nat.le_refl _, Nat.le_refl _⟩
  · rw [h0 c h, hn, hk, e, rows_w, List.take_length]; rfl
  all_goals
    rw [List.getElem?_map] at hi
    cases hw : s.ws[i]? with
    | none => rw [hw] at hi; exact nomatch hi
    | some w =>
      rw [hw] at hi
      injection hi with hi
      subst hi
      have hlt := (List.getElem?_eq_some_iff.mp hw).1
      first
        | (rw [h0 c h, hn]; simp; omega)
        | (rw [h0 c h, hk]; simp)
        | exact Nat.le_refl _
        | exact nomatch hg
theorem lives_step {n : Nat} {st : Nat → St} {R : List Row} {r' : Int} {ws' : List Str} (L : LivesOf n st R) (e : st (n + 1) = nextS (st n) r' ws') (hws : ws' = (st n).ws ∨ ∃ w, ws' = (st n).ws ++ [w]) (hW : Words ws') :
    LivesOf (n + 1) st (mark (kOf st n) (kOf st (n + 1) - kOf st n) (n + 1) (R ++ (ws'.drop (st n).ws.length).map fun w => ⟨w, n + 1, none⟩)) := by
  have hf : (st (n + 1)).first = (st n).first + ((ws'.length - (stay r' ws').length : Nat) : Int) := by rw [e]; rfl
  have hw : (st (n + 1)).ws = stay r' ws' := by rw [e]; rfl
  have hfn := L.fst n (Nat.le_refl _)
  have hsl : (stay r' ws').length ≤ ws'.length := fit_len
  have hk : kOf st (n + 1) = kOf st n + (ws'.length - (stay r' ws').length) := by unfold kOf at hfn ⊢; omega
  have hN : nOf st (n + 1) = kOf st n + ws'.length := by unfold nOf; rw [hk, hw]; omega
  have hNn : nOf st n = kOf st n + (st n).ws.length := rfl
  have hge : (st n).ws.length ≤ ws'.length ∧ ws'.take (st n).ws.length = (st n).ws := by
    rcases hws with h | ⟨w, h⟩
    · rw [h]; exact ⟨Nat.le_refl _, List.take_length⟩
    · rw [h]; exact ⟨by simp, by simp⟩
  have hRl := L.len
  have hst : stay r' ws' = ws'.drop (ws'.length - (stay r' ws').length) := fit_drop r' 0 ws'
  have hww : (R.map (·.w)).drop (kOf st n) = (st n).ws := by
    have := L.words n (Nat.le_refl _)
    rw [List.take_of_length_le (by simp; omega)] at this
    exact this.symm
  have hfr := rows_w (n + 1) (ws'.drop (st n).ws.length)
  have hfl : (ws'.drop (st n).ws.length).length = ws'.length - (st n).ws.length := List.length_drop ..
  generalize hF : ((ws'.drop (st n).ws.length).map fun w => (⟨w, n + 1, none⟩ : Row)) = F at hfr ⊢
  have hFl : F.length = ws'.length - (st n).ws.length := by rw [← hF, List.length_map, hfl]
  have hFat : ∀ (i : Nat) (r : Row), F[i]? = some r → r.b = n + 1 ∧ r.g = none := fun i r hi => by
    rw [← hF, List.getElem?_map] at hi
    cases hw' : (ws'.drop (st n).ws.length)[i]? with
    | none => rw [hw'] at hi; exact nomatch hi
    | some w => rw [hw'] at hi; injection hi with hi; subst hi; exact ⟨rfl, rfl⟩
  have old : ∀ c, c ≤ n → kOf st c ≤ kOf st n ∧ nOf st c ≤ nOf st n := L.mono
  have hc : ∀ c, c ≤ n + 1 → c ≤ n ∨ c = n + 1 := fun c h => by omega
  have at_ : ∀ (i : Nat) (r : Row), (mark (kOf st n) (kOf st (n + 1) - kOf st n) (n + 1) (R ++ F))[i]? = some r → ∃ r0, ((R[i]? = some r0 ∧ i < R.length) ∨ (R.length ≤ i ∧ r0.b = n + 1 ∧ r0.g = none)) ∧ i < R.length + F.length ∧ r = if kOf st n ≤ i ∧ i < kOf st n + (kOf st (n + 1) - kOf st n) then ⟨r0.w, r0.b, some (n + 1)⟩ else r0 := fun i r hi => by
    rw [mark_at] at hi
    cases h0 : (R ++ F)[i]? with
    | none => rw [h0] at hi; exact nomatch hi
    | some r0 =>
      rw [h0] at hi
      injection hi with hi
      have hlt := (List.getElem?_eq_some_iff.mp h0).1
      rw [List.length_append] at hlt
      refine ⟨r0, ?_, hlt, hi.symm⟩
      by_cases hlt2 : i < R.length
      · rw [List.getElem?_append_left hlt2] at h0
        exact .inl ⟨h0, hlt2⟩
      · rw [List.getElem?_append_right (by omega)] at h0
        exact .inr ⟨by omega, hFat _ _ h0⟩
  refine ⟨fun c h => ?_, ?_, fun c h => ?_, fun c h => ?_, fun i r hi c h => ?_, fun i r hi c h => ?_, fun i r hi => ?_, fun i r g hi hg => ?_, fun i r g hi hg => ?_, ?_⟩
  · rcases hc c h with h | rfl
    · exact L.fst c h
    · omega
  · rw [mark_len, List.length_append]; omega
  · rcases hc c h with h | rfl
    · have := old c h; omega
    · omega
  · rw [mark_w, List.map_append, hfr]
    rcases hc c h with h | rfl
    · have := old c h
      rw [List.take_append_of_le_length (by rw [List.length_map]; omega)]
      exact L.words c h
    · rw [List.take_of_length_le (by rw [List.length_append, List.length_map]; omega), hk, ← List.drop_drop, List.drop_append_of_le_length (by rw [List.length_map]; omega), hww, hw]
      rw [show (st n).ws ++ ws'.drop (st n).ws.length = ws' by
        have := List.take_append_drop (st n).ws.length ws'
        rw [hge.2] at this
        exact this]
      exact hst
  · obtain ⟨r0, h0, hlt, er⟩ := at_ i r hi
    have hb : r.b = r0.b := by rw [er]; split <;> rfl
    rw [hb]
    rcases h0 with ⟨h0, hlt2⟩ | ⟨hge2, hb0, _⟩
    · rcases hc c h with h | rfl
      · exact L.born i r0 h0 c h
      · have := L.bn i r0 h0
        exact ⟨fun _ => by omega, fun _ => by omega⟩
    · rw [hb0]
      rcases hc c h with h | rfl
      · have := old c h
        exact ⟨fun h => by omega, fun h => by omega⟩
      · exact ⟨fun _ => by omega, fun _ => Nat.le_refl _⟩
  · obtain ⟨r0, h0, hlt, er⟩ := at_ i r hi
    by_cases hm : kOf st n ≤ i ∧ i < kOf st n + (kOf st (n + 1) - kOf st n)
    · rw [if_pos hm] at er
      rw [er]
      rcases hc c h with h | rfl
      · have := old c h
        refine ⟨fun ⟨g, e1, e2⟩ => ?_, fun h => by omega⟩
        injection e1 with e1
        omega
      · exact ⟨fun _ => by omega, fun _ => ⟨n + 1, rfl, Nat.le_refl _⟩⟩
    · rw [if_neg hm] at er
      subst er
      rcases h0 with ⟨h0, hlt2⟩ | ⟨hge2, _, hg0⟩
      · rcases hc c h with h | rfl
        · exact L.gone i r h0 c h
        · have l1 := L.gone i r h0 n (Nat.le_refl _)
          refine ⟨fun ⟨g, e1, e2⟩ => ?_, fun h => ?_⟩
          · have := L.gn i r g h0 e1
            have := l1.mp ⟨g, e1, this⟩
            omega
          · obtain ⟨g, e1, e2⟩ := l1.mpr (by omega)
            exact ⟨g, e1, by omega⟩
      · rw [hg0]
        refine ⟨(fun ⟨g, e1, _⟩ => nomatch e1), fun h2 => ?_⟩
        rcases hc c h with h | rfl
        · have := old c h; omega
        · omega
  · obtain ⟨r0, h0, hlt, er⟩ := at_ i r hi
    have hb : r.b = r0.b := by rw [er]; split <;> rfl
    rw [hb]
    rcases h0 with ⟨h0, _⟩ | ⟨_, hb0, _⟩
    · have := L.bn i r0 h0; omega
    · omega
  · obtain ⟨r0, h0, hlt, er⟩ := at_ i r hi
    by_cases hm : kOf st n ≤ i ∧ i < kOf st n + (kOf st (n + 1) - kOf st n)
    · rw [if_pos hm] at er
      rw [er] at hg
      injection hg with hg
      omega
    · rw [if_neg hm] at er
      subst er
      rcases h0 with ⟨h0, _⟩ | ⟨_, _, hg0⟩
      · have := L.gn i r g h0 hg; omega
      · rw [hg0] at hg; exact nomatch hg
  · obtain ⟨r0, h0, hlt, er⟩ := at_ i r hi
    rw [mark_w, List.map_append, hfr]
    by_cases hm : kOf st n ≤ i ∧ i < kOf st n + (kOf st (n + 1) - kOf st n)
    · rw [if_pos hm] at er
      rw [er] at hg
      injection hg with hg
      subst hg
      obtain ⟨j, rfl⟩ : ∃ j, i = kOf st n + j := ⟨i - kOf st n, by omega⟩
      rw [List.take_of_length_le (by rw [List.length_append, List.length_map]; omega), ← List.drop_drop, List.drop_append_of_le_length (by rw [List.length_map]; omega), hww]
      rw [show (st n).ws ++ ws'.drop (st n).ws.length = ws' by
        have := List.take_append_drop (st n).ws.length ws'
        rw [hge.2] at this
        exact this]
      have hr2 : (st (n + 1)).room = r' := by rw [e]; rfl
      rw [hr2]
      rcases gmin_lt (room := r') ws' with h1 | h1
      · unfold gmin at h1; omega
      · have hgm : gmin r' ws' = ws'.length - (stay r' ws').length := rfl
        have := sumW_drop_le (ws'.drop j) (gmin r' ws' - 1 - j)
        rw [List.drop_drop, show j + (gmin r' ws' - 1 - j) = gmin r' ws' - 1 by omega] at this
        omega
    · rw [if_neg hm] at er
      subst er
      rcases h0 with ⟨h0, _⟩ | ⟨_, _, hg0⟩
      · have hgn := L.gn i r g h0 hg
        have := (old g hgn).2
        rw [List.take_append_of_le_length (by rw [List.length_map]; omega)]
        exact L.over i r g h0 hg
      · rw [hg0] at hg; exact nomatch hg
  · rw [mark_w, List.map_append, hfr]
    intro z hz
    rcases List.mem_append.mp hz with hz | hz
    · exact L.wds z hz
    · exact hW z (List.mem_of_mem_drop hz)
/-- marks on the rows that go -/
theorem lives_mark {h : Hm} {f : Int} {R : List Row} {k t : Nat} {v : Ev} {num : Int} {j : Nat} {r : Row} {N : Ev → Hm → Prop} {T : D → Hm → Prop} {Bk G : Ev → Hm → Prop} (e2 : v[2]? = some (some (.ref h.length))) (e3 : v[3]? = some (some (.int num))) (e4 : v[4]? = some (some (.int t))) (hnum : num = f + ((k + j : Nat) : Int)) (hr : R[k + j]? = some r)
    (q : N v (hpL h f (mark k (j + 1) (t + 1) R))) : SatS (sPut (eB opIx (eV 2) (eV 3)) (eC (.int 2)) (eB opAdd (eV 4) (eC (.int 1))) v (hpL h f (mark k j (t + 1) R))) N T Bk G := by
  have hlt := (List.getElem?_eq_some_iff.mp hr).1
  with_reducible refine ss_put ?_
  with_reducible refine sa_B ?_
  refine sa_V e4 ?_
  array_get_dec
  refine sa_V e2 ?_
  with_reducible refine sa_V e3 ?_
  have hm : (mark k j (t + 1) R)[k + j]? = some r := by
    rw [mark_at, hr]
    simp
  refine so_ixK (k := .inl num) hpL_d rfl (by rw [hnum]; exact dl_val _ _ _ _ (by rw [mark_len]; exact hlt)) ?_
  array_get_dec
  refine so_put (j := 2) (hpL_at hm) rfl ?_
  rw [show ([D.str r.w, .int r.b, gD r.g].set 2 (.int ((t : Int) + 1))) = [.str r.w, .int r.b, gD (some (t + 1))] from rfl, show HD.lst [.str r.w, .int r.b, gD (some (t + 1))] = rowO ⟨r.w, r.b, some (t + 1)⟩ from rfl, hpL_set, mark_succ hr]
  exact q
def rowsV (f : Int) (R : List Row) : List D := R.mapIdx fun i r => .tup [.int (f + i), .str r.w, .int r.b, gD r.g]
theorem can_ws {room : Int} {ws : List Str} {d : D} {r' : Int} {ws' : List Str} (c : Can room ws d r' ws') : ws' = ws ∨ ∃ w, ws' = ws ++ [w] ∧ wt w ≤ r' := by
  cases c with
  | put w h hr => exact .inr ⟨w, rfl, hr⟩
  | again n w h0 h1 e hr => exact .inr ⟨w, rfl, hr⟩
  | room n h0 h1 => exact .inl rfl
theorem can_words {room : Int} {ws : List Str} {d : D} {r' : Int} {ws' : List Str} (h : Words ws) (c : Can room ws d r' ws') : Words ws' := by
  cases c with
  | put w hw hr => exact h.snoc hw
  | again n w h0 h1 e hr => exact h.snoc (h w (List.mem_of_getElem? e))
  | room n h0 h1 => exact h
theorem stay_last {r' : Int} {ws : List Str} {w : Str} (h : wt w ≤ r') : ∃ k, stay r' (ws ++ [w]) = k ++ [w] ∧ k.length ≤ ws.length := by
  refine ⟨stay (r' - wt w) ws, (stay_put h ws).symm, fit_len⟩
theorem run_len {ds : List D} {st : Nat → St} (hrun : RunOf ds st) : ∀ c, c ≤ ds.length → nOf st c ≤ 200 + c * 300 + (st 0).ws.length := by
  intro c hc
  induction c with
  | zero => unfold nOf kOf; simp
  | succ c ih =>
    have i := ih (by omega)
    obtain ⟨r', ws', hcan, e⟩ := hrun.step c ds[c] (List.getElem?_eq_getElem (by omega))
    obtain ⟨h1, h2⟩ := run_fst hrun c (by omega)
    have hw : (st (c + 1)).ws = stay r' ws' := by rw [e]; rfl
    have hff : (st (c + 1)).first = (st c).first + ((ws'.length - (stay r' ws').length : Nat) : Int) := by rw [e]; rfl
    have hsl : (stay r' ws').length ≤ ws'.length := fit_len
    have hwl : ws'.length ≤ (st c).ws.length + 1 := by
      rcases can_ws hcan with e | ⟨w, e, _⟩
      · rw [e]; omega
      · rw [e]; simp
    unfold nOf kOf at i ⊢
    rw [hw]
    omega
theorem lives {ds : List D} {st : Nat → St} {h : Hm} {Q : D → Hm → Prop} (hrun : RunOf ds st) (hl : ds.length ≤ 1000) (f0 : 0 ≤ (st 0).first) (f1 : (st 0).first ≤ 20000) (q : ∀ R, LivesOf ds.length st R → Q (.lst (rowsV (st 0).first R)) h) : Sat (m_lives [(st 0).bk, .lst ds] h) Q := by
  refine sa_tr (sa_fn rfl ?_)
  unfold m_lives_b
  simp only [List.map_cons, List.map_nil, List.replicate, Nat.reduceSub, List.cons_append, List.nil_append]
  obtain ⟨r0, r1, hW0, hS0⟩ := hrun.ok 0 (Nat.zero_le _)
  have hlen0 := sumW_ge (st 0).ws
  generalize hf : (st 0).first = f
  have lenN : ∀ c, c ≤ ds.length → nOf st c ≤ 200 + c * 300 + (st 0).ws.length := by
    intro c hc
    induction c with
    | zero => unfold nOf kOf; simp
    | succ c ih =>
      have i := ih (by omega)
      obtain ⟨r', ws', hcan, e⟩ := hrun.step c ds[c] (List.getElem?_eq_getElem (by omega))
      obtain ⟨h1, h2⟩ := run_fst hrun c (by omega)
      have hw : (st (c + 1)).ws = stay r' ws' := by rw [e]; rfl
      have hff : (st (c + 1)).first = (st c).first + ((ws'.length - (stay r' ws').length : Nat) : Int) := by rw [e]; rfl
      have hsl : (stay r' ws').length ≤ ws'.length := fit_len
      have hwl : ws'.length ≤ (st c).ws.length + 1 := by
        rcases can_ws hcan with e | ⟨w, e, _⟩
        · rw [e]; omega
        · rw [e]; simp
      unfold nOf kOf at i ⊢
      rw [hw]
      omega
  have fstN : ∀ c, c ≤ ds.length → (st c).first = f + kOf st c := fun c hc => by rw [← hf]; exact (run_fst hrun c hc).1
  have kN : ∀ c, kOf st c ≤ nOf st c := fun c => Nat.le_add_right ..
  with_reducible refine ss_seq ?_
  with_reducible refine ss_asg2 (sa_dct ?_)
  rw [show h ++ [HD.dct []] = hpL h f (((st 0).ws.take 0).map fun w => ⟨w, 0, none⟩) from rfl]
  with_reducible refine ss_seq ?_
  refine ss_forL (l := (List.range (st 0).ws.length).map fun (k : Nat) => .int (f + (k : Int))) (fun j v h' => ∃ x3, h' = hpL h f (((st 0).ws.take j).map fun w => ⟨w, 0, none⟩) ∧ v = [some (st 0).bk, some (.lst ds), some (.ref h.length), x3, none, none, none]) (by
    array_get_dec
    unfold St.bk
    refine so_bk1 ?_
    array_get_dec
    refine next_number ?_
    rw [hf] at f0 f1 ⊢
    refine ⟨_, _, rfl, rfl, by omega, ?_, rfl⟩
    rw [show (f + ((st 0).ws.length : Int) - f).toNat = (st 0).ws.length by omega]) ⟨_, rfl, rfl⟩ ?_ ?_
  · rintro j x v h' hx ⟨x3, rfl, rfl⟩
    have hj : j < (st 0).ws.length := by
      have := (List.getElem?_eq_some_iff.mp hx).1
      simpa using this
    have hxe : x = .int (f + (j : Int)) := by
      rw [List.getElem?_map, List.getElem?_range hj] at hx
      injection hx with hx
      exact hx.symm
    subst hxe
    have ew : (st 0).ws[j]? = some (st 0).ws[j] := List.getElem?_eq_getElem hj
    refine ⟨_, rfl, ?_⟩
    simp only [List.set_cons_zero, List.set_cons_succ]
    refine lives_put (w := (st 0).ws[j]) (b := 0) (num := f + (j : Int)) _ _ _ rfl rfl (by simp; omega) (by simp; omega) (fun P p => ?_) (fun P p => sa_C p) ⟨_, ?_, rfl⟩
    · array_get_dec
      unfold St.bk
      rw [show D.int (f + (j : Int)) = D.int ((st 0).first + (j : Int)) by rw [hf]]
      exact word_at (k := (j : Int)) (w := (st 0).ws[j]) (by omega) (by rw [Int.toNat_natCast]; exact ew) p
    · rw [List.take_add_one, ew, List.map_append]; rfl
  rintro v h' ⟨x3, rfl, rfl⟩
  rw [List.length_map, List.length_range, List.take_length]
  with_reducible refine ss_seq ?_
  refine ss_forL (l := enumL ds) (fun t v h' => ∃ (R : List Row) (x3 x4 x5 x6 : Option D), LivesOf t st R ∧ h' = hpL h f R ∧ v = [some (st t).bk, some (.lst ds), some (.ref h.length), x3, x4, x5, x6]) (by
    refine sa_wEnT ?_
    array_get_dec
    exact ⟨rfl, rfl⟩) ⟨_, _, _, _, _, lives_first rfl hW0, rfl, rfl⟩ ?_ ?_
  · rintro t x v h' hx ⟨R, x3, x4, x5, x6, L, rfl, rfl⟩
    have ht : t < ds.length := by
      have := (List.getElem?_eq_some_iff.mp hx).1
      simpa [enumL] using this
    have hxe : x = .tup [.int t, ds[t]] := by
      unfold enumL at hx
      rw [List.getElem?_mapIdx, List.getElem?_eq_getElem ht] at hx
      injection hx with hx
      exact hx.symm
    subst hxe
    obtain ⟨r', ws', hcan, es⟩ := hrun.step t ds[t] (List.getElem?_eq_getElem ht)
    obtain ⟨s0, s1, hWt, hSt⟩ := hrun.ok t (by omega)
    have hlt := sumW_ge (st t).ws
    have L2 := lives_step L es (by
      rcases can_ws hcan with e | ⟨w, e, _⟩
      · exact .inl e
      · exact .inr ⟨w, e⟩) (can_words hWt hcan)
    have hRl := L.len
    have hR2 := L2.len
    have hN1 := lenN t (by omega)
    have hN2 := lenN (t + 1) (by omega)
    have hf1 := fstN t (by omega)
    have hf2 := fstN (t + 1) (by omega)
    have hk1 := kN t
    have hk2 := kN (t + 1)
    have hmono := (L2.mono t (by omega)).1
    have hw2 : (st (t + 1)).ws = stay r' ws' := by rw [es]; rfl
    have hwl2 : (st (t + 1)).ws.length = (stay r' ws').length := by rw [hw2]
    have hff : (st (t + 1)).first = (st t).first + ((ws'.length - (stay r' ws').length : Nat) : Int) := by rw [es]; rfl
    have hsl : (stay r' ws').length ≤ ws'.length := fit_len
    have hst : stay r' ws' = ws'.drop (ws'.length - (stay r' ws').length) := fit_drop r' 0 ws'
    have hbk : bookS r' (st t).first ws' = (st (t + 1)).bk := by rw [es]; rfl
    rw [mark_len, List.length_append, List.length_map, List.length_drop] at hR2
    refine ⟨_, rfl, ?_⟩
    simp only [List.set_cons_zero, List.set_cons_succ]
    with_reducible refine ss_seq ?_
    with_reducible refine ss_asg6 ?_
    array_get_dec
    refine done hcan s0 hWt.short (by omega) ?_
    rw [hbk]
    with_reducible refine ss_seq ?_
    refine ss_forL (l := (List.range (ws'.length - (st t).ws.length)).map fun (k : Nat) => .int ((st t).first + (st t).ws.length + (k : Int))) (fun j v h' => ∃ x3, h' = hpL h f (R ++ ((ws'.drop (st t).ws.length).take j).map fun w => ⟨w, t + 1, none⟩) ∧ v = [some (st t).bk, some (.lst ds), some (.ref h.length), x3, some (.int t), some ds[t], some (st (t + 1)).bk]) (by
      array_get_dec
      unfold St.bk
      refine next_number ?_
      array_get_dec
      refine next_number ?_
      refine ⟨_, _, rfl, rfl, by omega, ?_, rfl⟩
      rw [hw2, show ((st (t + 1)).first + ((stay r' ws').length : Int) - ((st t).first + ((st t).ws.length : Int))).toNat = ws'.length - (st t).ws.length by omega]) ⟨_, by simp, rfl⟩ ?_ ?_
    · rintro j x v h' hx ⟨x3, rfl, rfl⟩
      have hj : j < ws'.length - (st t).ws.length := by
        have := (List.getElem?_eq_some_iff.mp hx).1
        simpa using this
      have hxe : x = .int ((st t).first + (st t).ws.length + (j : Int)) := by
        rw [List.getElem?_map, List.getElem?_range hj] at hx
        injection hx with hx
        exact hx.symm
      subst hxe
      obtain ⟨w, ew', hwr⟩ : ∃ w, ws' = (st t).ws ++ [w] ∧ wt w ≤ r' := by
        rcases can_ws hcan with e | ⟨w, e, hw⟩
        · rw [e] at hj; omega
        · exact ⟨w, e, hw⟩
      have hj0 : j = 0 := by rw [ew'] at hj; simp at hj; omega
      subst hj0
      obtain ⟨kk, ek, hkk⟩ := stay_last (ws := (st t).ws) hwr
      have hw'l : ws'.length = (st t).ws.length + 1 := by rw [ew']; simp
      rw [← ew'] at ek
      have hsl1 : (stay r' ws').length = kk.length + 1 := by rw [ek]; simp
      have ewd : (ws'.drop (st t).ws.length) = [w] := by rw [ew']; simp
      refine ⟨_, rfl, ?_⟩
      simp only [List.set_cons_zero, List.set_cons_succ]
      rw [List.take_zero, List.map_nil, List.append_nil]
      refine lives_put (w := w) (b := t + 1) (num := (st t).first + (st t).ws.length + ((0 : Nat) : Int)) _ _ _ rfl rfl (by rw [hf1, hRl]; unfold nOf; omega) (by omega) (fun P p => ?_) (fun P p => ?_) ⟨_, ?_, rfl⟩
      · array_get_dec
        unfold St.bk
        rw [show (st t).first + ((st t).ws.length : Int) + ((0 : Nat) : Int) = (st (t + 1)).first + ((kk.length : Nat) : Int) by omega]
        refine word_at (k := (kk.length : Int)) (w := w) (by omega) ?_ p
        rw [Int.toNat_natCast, hw2, ek]
        simp
      · array_get_dec
        exact p
      · rw [ewd]; rfl
    rintro v h' ⟨x3, rfl, rfl⟩
    rw [List.length_map, List.length_range, List.take_of_length_le (by rw [List.length_drop]; omega)]
    generalize hF : ((ws'.drop (st t).ws.length).map fun w => (⟨w, t + 1, none⟩ : Row)) = F at L2 ⊢
    have hFl : F.length = ws'.length - (st t).ws.length := by rw [← hF, List.length_map, List.length_drop]
    with_reducible refine ss_seq ?_
    refine ss_forL (l := (List.range (kOf st (t + 1) - kOf st t)).map fun (k : Nat) => .int ((st t).first + (k : Int))) (fun j v h' => ∃ x3, h' = hpL h f (mark (kOf st t) j (t + 1) (R ++ F)) ∧ v = [some (st t).bk, some (.lst ds), some (.ref h.length), x3, some (.int t), some ds[t], some (st (t + 1)).bk]) (by
      array_get_dec
      unfold St.bk
      refine so_bk1 ?_
      array_get_dec
      refine so_bk1 ?_
      refine ⟨_, _, rfl, rfl, by omega, ?_, rfl⟩
      rw [show ((st (t + 1)).first - (st t).first).toNat = kOf st (t + 1) - kOf st t by omega]) ⟨_, by rw [mark_zero], rfl⟩ ?_ ?_
    · rintro j x v h' hx ⟨x3, rfl, rfl⟩
      have hj : j < kOf st (t + 1) - kOf st t := by
        have := (List.getElem?_eq_some_iff.mp hx).1
        simpa using this
      have hxe : x = .int ((st t).first + (j : Int)) := by
        rw [List.getElem?_map, List.getElem?_range hj] at hx
        injection hx with hx
        exact hx.symm
      subst hxe
      refine ⟨_, rfl, ?_⟩
      simp only [List.set_cons_zero, List.set_cons_succ]
      have hlt2 : kOf st t + j < (R ++ F).length := by rw [List.length_append]; omega
      refine lives_mark (t := t) (num := (st t).first + (j : Int)) (r := (R ++ F)[kOf st t + j]) rfl rfl rfl (by omega) (List.getElem?_eq_getElem hlt2) ⟨_, rfl, rfl⟩
    rintro v h' ⟨x3, rfl, rfl⟩
    rw [List.length_map, List.length_range]
    array_get_dec
    exact ⟨_, _, _, _, _, L2, rfl, rfl⟩
  · rintro v h' ⟨R, x3, x4, x5, x6, L, rfl, rfl⟩
    have hel : (enumL ds).length = ds.length := by simp [enumL]
    rw [hel] at L ⊢
    have hRl := L.len
    have hN := lenN _ (Nat.le_refl _)
    array_get_dec
    refine sa_Lc ?_
    array_get_dec
    refine so_sortedK hpL_d (dl_keys _ _ _) ?_
    rw [asc_srt]
    refine so_wkL ?_
    have hal : ∀ (f : Int) (n : Nat), (asc f n).length = n := fun f n => by
      induction n generalizing f with
      | zero => rfl
      | succ n ih => simp [asc, ih]
    have hrl : (rowsV f R).length = R.length := by simp [rowsV]
    refine ⟨by simp [hal]; omega, fun i acc h' => acc = (rowsV f R).take i ∧ h' = hpL h f R, ⟨rfl, rfl⟩, ?_, ?_⟩
    · rintro i x acc h' hx ⟨rfl, rfl⟩
      have hx : ((asc f R.length).map D.int)[i]? = some x := hx
      rw [List.getElem?_map, asc_at] at hx
      have hi : i < R.length := by
        refine Classical.byContradiction fun hn => ?_
        rw [if_neg hn] at hx
        exact nomatch hx
      rw [if_pos hi] at hx
      injection hx with hx
      subst hx
      have er : R[i]? = some R[i] := List.getElem?_eq_getElem hi
      generalize R[i] = r at er
      have dv := dl_val f (h.length + 1) R.length i hi
      refine ⟨rfl, _, rfl, ?_⟩
      simp only [wipeE, List.foldr, List.set_cons_zero, List.set_cons_succ]
      array_get_dec
      refine ⟨fun _ => ?_, fun z => nomatch z⟩
      array_get_dec
      refine so_ixK (k := .inl (f + (i : Int))) hpL_d rfl dv ?_
      array_get_dec
      refine so_ixR0 (hpL_at er) ?_
      array_get_dec
      refine so_ixK (k := .inl (f + (i : Int))) hpL_d rfl dv ?_
      array_get_dec
      refine so_ixR1 (hpL_at er) ?_
      array_get_dec
      refine so_ixK (k := .inl (f + (i : Int))) hpL_d rfl dv ?_
      array_get_dec
      refine so_ixR2 (hpL_at er) ?_
      array_get_dec
      refine ⟨?_, rfl⟩
      have : (rowsV f R)[i]? = some (.tup [.int (f + (i : Int)), .str r.w, .int r.b, gD r.g]) := by
        unfold rowsV
        rw [List.getElem?_mapIdx, er]
        rfl
      rw [List.take_add_one, this]
      rfl
    · rintro acc h' ⟨rfl, rfl⟩
      refine ⟨rfl, ?_⟩
      have e1 : (rowsV f R).take ((asc f R.length).map D.int).length = rowsV f R := List.take_of_length_le (by rw [List.length_map, hal, hrl]; omega)
      show D.cl h.length (.lst ((rowsV f R).take ((asc f R.length).map D.int).length)) = true ∧ _
      rw [e1]
      refine ⟨?_, trOk_app _ _ _, ?_⟩
      · simp only [D.cl]
        refine clL_all fun x hx => ?_
        unfold rowsV at hx
        obtain ⟨i, hi, rfl⟩ := List.mem_mapIdx.mp hx
        have : ∀ g, D.cl h.length (gD g) = true := fun g => by cases g <;> rfl
        simp [D.cl, D.clL, this]
      · rw [show (hpL h f R).take h.length = h by simp [hpL]]
        rw [hf] at q
        exact q R L
/-! ### deeds drawn and done by the law -/
theorem law_done {room first r' : Int} {ws ws' : List Str} {d : D} {h : Hm} {Q : D → Hm → Prop} (c : Can room ws d r' ws') (h0 : 0 ≤ room) (hs : Short ws) (hl : ws.length ≤ 90000) (q : Q (bookS r' first ws') h) : Sat (m_law_done [bookD room first ws, d] h) Q := by
  refine sa_fn rfl ?_
  unfold m_law_done_b
  simp only [List.map_cons, List.map_nil, List.replicate, Nat.reduceSub, List.cons_append, List.nil_append]
  with_reducible refine ss_seq ?_
  refine ss_asgT (sa_V0 ⟨_, _, rfl, rfl, ?_⟩)
  simp only [List.set_cons_zero, List.set_cons_succ]
  have put : ∀ (w : Str) (N : Ev → Hm → Prop) (Bk G : Ev → Hm → Prop) (x1 x2 : Option D), w.length ≤ 1000 → wt w ≤ room → Q (bookS room first (ws ++ [w])) h → SatS ((sSeq (sIf (tE (eB opGt (eB opAdd (eF bLen (aC (eV 2) aN)) (eC (.int 2))) (eV 3))) (sRet (eC (.str (Str.ofString "room")))) sNx)
  (sRet (eF m_law_fit (aC (eV 3) (aC (eV 4) (aC (eB opAdd (eF bList (aC (eV 5) aN)) (eLst (aC (eV 2) aN))) aN)))))) [x1, x2, some (.str w), some (.int room), some (.int first), some (.tup (ws.map D.str))] h) N Q Bk G := by
    intro w N Bk G x1 x2 hw hr q
    have hwt : wt w = (w.length : Int) + 2 := rfl
    array_get_dec
    refine so_lenS (by omega) ?_
    array_get_dec
    rw [decide_eq_false (show ¬ room < (w.length : Int) + 2 by omega)]
    refine ⟨(fun hc => nomatch hc), fun _ => ?_⟩
    array_get_dec
    refine so_listT ?_
    array_get_dec
    refine so_addL (by simp; omega) ?_
    array_get_dec
    rw [show ws.map D.str ++ [.str w] = (ws ++ [w]).map D.str by simp]
    refine lfit h0 (fun z hz => ?_) (by simp; omega) q
    rcases List.mem_append.mp hz with hz | hz
    · exact hs z hz
    · rw [List.mem_singleton.mp hz]; exact hw
  cases c with
  | put w hw hr =>
    have := hw.len
    array_get_dec
    refine ⟨fun hc => by simp [ne_room] at hc, fun _ => ?_⟩
    array_get_dec
    refine ⟨fun hc => by simp [ne_room] at hc, fun _ => ?_⟩
    array_get_dec
    refine ⟨fun hc => by simp [ne_room] at hc, fun _ => ?_⟩
    with_reducible refine ss_nx ?_
    exact put w _ _ _ _ _ (by omega) hr q
  | again n w h1 h2 e hr =>
    array_get_dec
    refine ⟨fun hc => by simp [ne_room] at hc, fun _ => ?_⟩
    array_get_dec
    refine ⟨fun _ => ?_, fun hc => by simp [ne_put] at hc⟩
    array_get_dec
    rw [List.length_map, decide_eq_false (show ¬ (ws.length : Int) < n by omega)]
    refine ⟨(fun hc => nomatch hc), fun _ => ?_⟩
    array_get_dec
    refine ⟨fun _ => ?_, fun hc => by simp [ne_put] at hc⟩
    array_get_dec
    rw [List.length_map]
    refine so_ixT (d := .str w) (by
      have := atI_nat (l := ws.map D.str) (i := ((ws.length : Int) - n).toNat) (x := .str w) (by rw [List.getElem?_map, e]; rfl)
      rw [show ((((ws.length : Int) - n).toNat : Nat) : Int) = (ws.length : Int) - n by omega] at this
      exact this) ?_
    exact put w _ _ _ _ _ (hs w (List.mem_of_getElem? e)) hr q
  | room n h1 h2 =>
    array_get_dec
    refine ⟨fun _ => ?_, fun hc => by simp [ne_room] at hc⟩
    array_get_dec
    refine so_listT ?_
    array_get_dec
    exact lfit h1 hs (by omega) q
theorem wt_le_sum : ∀ {ws : List Str} {w : Str}, w ∈ ws → wt w ≤ sumW ws
  | a :: r, w, h => by
    have := wt_pos a
    have := sumW_ge r
    simp only [sumW]
    rcases List.mem_cons.mp h with rfl | h
    · omega
    · have := wt_le_sum h
      omega
theorem law_deed_r {n B : Nat} {some_ ws : List Str} {room first : Int} {h : Hm} {Q : D → Hm → Prop} (hsome : Words some_) (hpos : 1 ≤ some_.length) (hlen : some_.length ≤ 1000) (h0 : 0 ≤ room) (hr : room ≤ 200) (hws : Words ws) (hsum : sumW ws ≤ room) (w : Bow n (B + 20) h)
    (q : ∀ d h', (∃ r' ws', Can room ws d r' ws') → Drew n B h h' → Q d h') : Sat (m_law_deed_r [.ref n, bookD room first ws, .lst (some_.map D.str)] h) Q := by
  have hl := sumW_ge ws
  refine sa_fn rfl ?_
  unfold m_law_deed_r_b bookD
  simp only [List.map_cons, List.map_nil, List.replicate, Nat.reduceSub, List.cons_append, List.nil_append]
  array_get_dec
  refine sip w (by decide) (by decide) fun way h1 a1 a2 d1 => ?_
  array_get_dec
  rw [List.length_map]
  refine sip d1.bow (by omega) (by omega) fun at_ h2 b1 b2 d2 => ?_
  array_get_dec
  rw [List.length_map]
  refine sip d2.bow (by omega) (by omega) fun p h3 c1 c2 d3 => ?_
  refine so_someWord c1 c2 fun z hz => ?_
  have dd := (d1.trans d2).trans d3
  have hz2 := hsome z hz
  have hzl := hz2.len
  array_get_dec
  refine ⟨fun _ => ?_, fun _ => ?_⟩
  · array_get_dec
    refine sip d3.bow (by decide) (by decide) fun p1 h4 e1 e2 d4 => ?_
    array_get_dec
    refine sip d4.bow (by decide) (by decide) fun p2 h5 f1 f2 d5 => ?_
    array_get_dec
    refine sip d5.bow (by decide) (by decide) fun p3 h6 g1 g2 d6 => ?_
    refine so_ixP (IntIn 0 200) (by
      repeat refine all_cons (.mk (by omega) (by omega)) ?_
      exact all_nil) g1 (by simpa using g2) ?_
    rintro _ ⟨m, rfl, m1, m2⟩
    array_get_dec
    exact q _ _ ⟨_, _, .room m m1 m2⟩ ((((dd.trans d4).trans d5).trans d6).le (by omega))
  · have last : ∀ (N : Ev → Hm → Prop) (Bk G : Ev → Hm → Prop), SatS ((sSeq (sIf (tE (eB opLe (eB opAdd (eF bLen (aC (eV 5) aN)) (eC (.int 2))) (eB opIx (eV 1) (eC (.int 0))))) (sRet (eTup (aC (eC (.str (Str.ofString "put"))) (aC (eV 5) aN)))) sNx)
  (sRet (eTup (aC (eC (.str (Str.ofString "room"))) (aC (eB opAdd (eC (.int 14)) (eF m_law_sip (aC (eV 0) (aC (eC (.int 187)) aN)))) aN))))) [some (.ref n), some (.tup [.int room, .int first, .tup (ws.map D.str)]), some (.lst (some_.map D.str)), some (.int way), some (.int (1 + at_)), some (.str z)] h3) N Q Bk G := by
      intro N Bk G
      array_get_dec
      refine so_lenS (by omega) ?_
      array_get_dec
      refine ⟨fun hc => ?_, fun _ => ?_⟩
      · have hc : (z.length : Int) + 2 ≤ room := of_decide_eq_true hc
        array_get_dec
        exact q _ _ ⟨_, _, .put z hz2 hc⟩ (dd.le (by omega))
      · array_get_dec
        refine sip d3.bow (by decide) (by decide) fun p1 h4 e1 e2 d4 => ?_
        array_get_dec
        exact q _ _ ⟨_, _, .room _ (by omega) (by omega)⟩ ((dd.trans d4).le (by omega))
    array_get_dec
    refine ⟨fun _ => ?_, fun _ => ⟨(fun hc => nomatch hc), fun _ => ?_⟩⟩
    · array_get_dec
      refine so_neTup0 (okL_strsN hws.ok) ?_
      refine ⟨_, rfl, ?_⟩
      refine ⟨fun hc => ?_, fun _ => ?_⟩
      · have hp : 1 ≤ ws.length := by
          cases ws with
          | nil => exact nomatch hc
          | cons a r => simp
        array_get_dec
        have hlt : ((ws.length : Int) - (1 + at_)).toNat < ws.length := by omega
        have e : ws[((ws.length : Int) - (1 + at_)).toNat]? = some ws[((ws.length : Int) - (1 + at_)).toNat] := List.getElem?_eq_getElem hlt
        have := wt_le_sum (List.getElem_mem hlt)
        exact q _ _ ⟨_, _, .again (1 + at_) _ (by omega) (by omega) e (by omega)⟩ (dd.le (by omega))
      · exact ss_nx (last _ _ _)
    · exact ss_nx (last _ _ _)
def OkS (s : St) : Prop := 0 ≤ s.room ∧ s.room ≤ 200 ∧ Words s.ws ∧ sumW s.ws ≤ s.room
theorem next_ok {s : St} {d : D} {r' : Int} {ws' : List Str} (ok : OkS s) (c : Can s.room s.ws d r' ws') : OkS (nextS s r' ws') := by
  obtain ⟨o1, o2, o3, o4⟩ := ok
  have key : 0 ≤ r' ∧ r' ≤ 200 ∧ Words ws' := by
    cases c with
    | put w h hr => exact ⟨o1, o2, o3.snoc h⟩
    | again n w h0 h1 e hr => exact ⟨o1, o2, o3.snoc (o3 w (List.mem_of_getElem? e))⟩
    | room n h0 h1 => exact ⟨h0, h1, o3⟩
  exact ⟨key.1, key.2.1, fun z hz => key.2.2 z (fit_sub hz), stay_ok key.1 ws'⟩
theorem can_cl {room : Int} {ws : List Str} {d : D} {r' : Int} {ws' : List Str} {N : Nat} (c : Can room ws d r' ws') : D.cl N d = true := by cases c <;> rfl
theorem run_snoc {ds : List D} {st : Nat → St} {d : D} {r' : Int} {ws' : List Str} (hr : RunOf ds st) (c : Can (st ds.length).room (st ds.length).ws d r' ws') : RunOf (ds ++ [d]) (fun i => if i ≤ ds.length then st i else nextS (st ds.length) r' ws') := by
  refine ⟨fun i x hx => ?_, fun i hi => ?_⟩
  · by_cases h : i < ds.length
    · rw [List.getElem?_append_left h] at hx
      obtain ⟨r1, w1, c1, e1⟩ := hr.step i x hx
      refine ⟨r1, w1, ?_, ?_⟩
      · simp only [if_pos (Nat.le_of_lt h)]; exact c1
      · simp only [if_pos (Nat.le_of_lt h), if_pos (show i + 1 ≤ ds.length from h)]; exact e1
    · have hi : i = ds.length := by
        have := (List.getElem?_eq_some_iff.mp hx).1
        rw [List.length_append] at this
        simp at this
        omega
      subst hi
      rw [List.getElem?_append_right (Nat.le_refl _), Nat.sub_self] at hx
      injection hx with hx
      subst hx
      refine ⟨r', ws', ?_, ?_⟩
      · simp only [if_pos (Nat.le_refl _)]; exact c
      · simp only [if_pos (Nat.le_refl ds.length), if_neg (show ¬ ds.length + 1 ≤ ds.length by omega)]
  · by_cases h : i ≤ ds.length
    · simp only [if_pos h]; exact hr.ok i h
    · simp only [if_neg h]
      exact next_ok (hr.ok _ (Nat.le_refl _)) c
theorem law_deeds {n B : Nat} {some_ : List Str} {s : St} {many : Int} {h : Hm} {Q : D → Hm → Prop} (hsome : Words some_) (hpos : 1 ≤ some_.length) (hlen : some_.length ≤ 1000) (ok : OkS s) (m0 : 0 ≤ many) (m1 : many ≤ 900) (w : Bow n (B + 20 * many.toNat) h)
    (q : ∀ (ds : List D) (st : Nat → St) (h' : Hm), ds.length = many.toNat → st 0 = s → RunOf ds st → Drew n B h h' → Q (.lst ds) h') : Sat (m_law_deeds [.ref n, s.bk, .lst (some_.map D.str), .int many] h) Q := by
  refine sa_tr (sa_fn rfl ?_)
  unfold m_law_deeds_b
  simp only [List.map_cons, List.map_nil, List.replicate, Nat.reduceSub, List.cons_append, List.nil_append]
  array_get_dec
  have d0 : DrewX n (B + 20 * many.toNat) h (h ++ [.lst []]) := (Drew.refl w).x.push
  have ee : (h ++ [HD.lst []])[h.length]? = some (.lst []) := by simp
  have hLn : h.length ≠ n := by have := d0.lt; omega
  generalize h ++ [HD.lst []] = h6 at d0 ee
  refine ss_forR many.toNat (fun i v h' => ∃ (ds : List D) (st : Nat → St) (x5 : Option D), v = [some (.ref n), some (st i).bk, some (.lst (some_.map D.str)), some (.int many), some (.ref h.length), x5] ∧ h'[h.length]? = some (.lst ds) ∧ ds.length = i ∧ st 0 = s ∧ RunOf ds st ∧ DrewX n (B + 20 * (many.toNat - i)) h h') (by
    array_get_dec
    exact ⟨by omega, by omega, rfl, rfl⟩) ⟨[], fun _ => s, _, rfl, ee, rfl, rfl, ⟨(fun i d hd => nomatch hd), fun i _ => ok⟩, d0⟩ ?_ ?_
  · rintro i v h' hi ⟨ds, st, x5, rfl, el, hl, hs0, hr, dx⟩
    simp only [List.set_cons_zero, List.set_cons_succ]
    subst hl
    obtain ⟨o1, o2, o3, o4⟩ := hr.ok ds.length (Nat.le_refl _)
    have hwl := sumW_ge (st ds.length).ws
    array_get_dec
    refine ⟨rcR el, ?_⟩
    array_get_dec
    refine law_deed_r (B := B + 20 * (many.toNat - (ds.length + 1))) hsome hpos hlen o1 o2 o3 o4 (dx.bow.le (by omega)) fun d h2 ⟨r', ws', c⟩ d2 => ?_
    have e2 := d2.at hLn el
    have hlt := (List.getElem?_eq_some_iff.mp e2).1
    array_get_dec
    refine so_append e2 (by omega) ?_
    have e3 : (h2.set h.length (.lst (ds ++ [d])))[h.length]? = some (.lst (ds ++ [d])) := List.getElem?_set_self hlt
    array_get_dec
    refine so_neg ?_
    refine so_ixR e3 atI_last ?_
    array_get_dec
    refine law_done c o1 o3.short (by omega) ?_
    refine ⟨ds ++ [d], _, some (.int ds.length), ?_, e3, by simp, ?_, run_snoc hr c, (dx.then d2).put (Nat.le_refl _)⟩
    · simp only [if_neg (show ¬ ds.length + 1 ≤ ds.length by omega)]
      rfl
    · simp only [if_pos (Nat.zero_le _)]; exact hs0
  · rintro v h' ⟨ds, st, x5, rfl, el, hl, hs0, hr, dx⟩
    array_get_dec
    refine so_fz el ?_
    have dx3 := dx.put (o := .dead) (k := h.length) (Nat.le_refl _)
    refine ⟨?_, dx3.tr.1, q ds st _ hl hs0 hr (dx3.tr.2.le (B' := B) (by omega))⟩
    simp only [D.cl]
    refine clL_all fun x hx => ?_
    obtain ⟨i, hi⟩ := List.getElem?_of_mem hx
    obtain ⟨r', ws', c, _⟩ := hr.step i x hi
    exact can_cl c
/-! ### rows read -/
def rowD (f : Int) (r : Row) : D := .tup [.int f, .str r.w, .int r.b, gD r.g]
theorem rowsV_nil (f : Int) : rowsV f [] = [] := rfl
theorem rowsV_cons (f : Int) (r : Row) (R : List Row) : rowsV f (r :: R) = rowD f r :: rowsV (f + 1) R := by
  unfold rowsV rowD
  rw [List.mapIdx_cons]
  refine congr (congrArg List.cons ?_) ?_
  · simp
  · refine congrArg (fun g => List.mapIdx g R) ?_
    funext i r
    rw [show f + ((i + 1 : Nat) : Int) = f + 1 + (i : Int) by omega]
theorem rowsV_len (f : Int) (R : List Row) : (rowsV f R).length = R.length := by simp [rowsV]
theorem rowsV_at {f : Int} {R : List Row} {i : Nat} {x : D} (h : (rowsV f R)[i]? = some x) : ∃ r, R[i]? = some r ∧ x = rowD (f + i) r := by
  unfold rowsV at h
  rw [List.getElem?_mapIdx] at h
  cases e : R[i]? with
  | none => rw [e] at h; exact nomatch h
  | some r => rw [e] at h; injection h with h; exact ⟨r, rfl, h.symm⟩
theorem rowsV_mem {f : Int} {R : List Row} {x : D} (h : x ∈ rowsV f R) : ∃ i r, R[i]? = some r ∧ x = rowD (f + (i : Nat)) r := by
  obtain ⟨i, hi⟩ := List.getElem?_of_mem h
  obtain ⟨r, h1, h2⟩ := rowsV_at hi
  exact ⟨i, r, h1, h2⟩
theorem rowsV_take : ∀ (f : Int) (R : List Row) (n : Nat), (rowsV f R).take n = rowsV f (R.take n)
  | f, [], n => by simp [rowsV]
  | f, r :: R, 0 => by simp [rowsV]
  | f, r :: R, n + 1 => by rw [rowsV_cons, List.take_succ_cons, List.take_succ_cons, rowsV_cons, rowsV_take]
theorem rowsV_drop : ∀ (f : Int) (R : List Row) (n : Nat), (rowsV f R).drop n = rowsV (f + n) (R.drop n)
  | f, [], n => by simp [rowsV]
  | f, r :: R, 0 => by simp
  | f, r :: R, n + 1 => by
    rw [rowsV_cons, List.drop_succ_cons, List.drop_succ_cons, rowsV_drop (f + 1) R n]
    rw [show f + 1 + (n : Int) = f + ((n + 1 : Nat) : Int) by omega]
theorem filter_range {α : Type} : ∀ (l : List α) (a b : Nat) (p : α → Bool), (∀ i x, l[i]? = some x → p x = decide (a ≤ i ∧ i < b)) → l.filter p = (l.take b).drop a
  | [], a, b, p, h => by simp
  | x :: l, a, 0, p, h => by
    rw [List.take_zero, List.drop_nil]
    rw [List.filter_eq_nil_iff]
    intro y hy
    obtain ⟨i, hi⟩ := List.getElem?_of_mem hy
    rw [h i y hi]
    simp
  | x :: l, 0, b + 1, p, h => by
    have h0 := h 0 x rfl
    have ih := filter_range l 0 b p fun i y hy => by
      rw [h (i + 1) y hy]
      congr 1
      simp
    rw [List.filter_cons, h0, List.take_succ_cons, ih]
    simp
  | x :: l, a + 1, b + 1, p, h => by
    have h0 := h 0 x rfl
    have ih := filter_range l a b p fun i y hy => by
      rw [h (i + 1) y hy]
      congr 1
      simp
    rw [List.filter_cons, h0, List.take_succ_cons, List.drop_succ_cons, ih]
    simp
def fst0 : D → D
  | .tup (x :: _) => x
  | _ => .non
theorem rowsV_fst : ∀ (f : Int) (R : List Row), (rowsV f R).map fst0 = (asc f R.length).map D.int
  | _, [] => rfl
  | f, r :: R => by
    rw [rowsV_cons, List.map_cons, rowsV_fst (f + 1) R]
    rfl
theorem asc_fold : ∀ (f : Int) (n : Nat), (asc f n).foldl max (f - 1) = f + n - 1
  | f, 0 => by simp [asc]
  | f, n + 1 => by
    have ih := asc_fold (f + 1) n
    rw [asc, List.foldl_cons, show max (f - 1) f = f + 1 - 1 by omega, ih]
    omega
def pairsV : Int → List Str → List D
  | _, [] => []
  | f, w :: r => .tup [.int f, .str w] :: pairsV (f + 1) r
theorem pairsV_snoc : ∀ (f : Int) (l : List Str) (w : Str), pairsV f (l ++ [w]) = pairsV f l ++ [.tup [.int (f + l.length), .str w]]
  | f, [], w => by simp [pairsV]
  | f, a :: l, w => by
    rw [List.cons_append, pairsV, pairsV_snoc (f + 1) l w, pairsV, List.cons_append, List.length_cons]
    rw [show f + 1 + (l.length : Int) = f + ((l.length + 1 : Nat) : Int) by omega]
def cut2 : D → D
  | .tup l => .tup (l.take 2)
  | _ => .non
theorem rowsV_cut : ∀ (f : Int) (R : List Row), (rowsV f R).map cut2 = pairsV f (R.map (·.w))
  | _, [] => rfl
  | f, r :: R => by
    rw [rowsV_cons, List.map_cons, rowsV_cut (f + 1) R]
    rfl
theorem pairsV_ok {n : Nat} : ∀ (f : Int) {ws : List Str}, Words ws → D.okL (n + 1) (pairsV f ws) = true
  | _, [], _ => rfl
  | f, w :: r, h => by
    have ih := pairsV_ok (n := n) (f + 1) (ws := r) fun z hz => h z (by simp [hz])
    have hw := (h w (by simp)).ok
    have : D.okN (n + 1) (.tup [.int f, .str w]) = true := by
      show D.okL n [.int f, .str w] = true
      cases n <;> simp [D.okL, D.okN, hw]
    simp only [pairsV, D.okL, this, ih, Bool.and_self]
def pW (w : Str) : D → Bool
  | .tup [_, .str x, _, _] => decide (x = w)
  | _ => false
theorem rowsV_plc (w : Str) : ∀ (f : Int) (R : List Row), ((rowsV f R).filter (pW w)).map fst0 = (plc w f (R.map (·.w))).map D.int
  | _, [] => rfl
  | f, r :: R => by
    have ih := rowsV_plc w (f + 1) R
    rw [rowsV_cons, List.filter_cons, List.map_cons, plc]
    by_cases h : r.w = w
    · rw [if_pos (show pW w (rowD f r) = true from decide_eq_true h), if_pos h, List.map_cons, List.map_cons, ih]
      rfl
    · rw [if_neg (show ¬ pW w (rowD f r) = true from fun e => h (of_decide_eq_true e)), if_neg h, ih]
def pB (c : Nat) : D → Bool
  | .tup [_, _, .int b, _] => decide (b ≤ c)
  | _ => false
def pS (c : Nat) : D → Bool
  | .tup [_, _, .int b, .int g] => decide (b ≤ c) && decide ((c : Int) < g)
  | .tup [_, _, .int b, _] => decide (b ≤ c)
  | _ => false
theorem rows_born {n : Nat} {st : Nat → St} {R : List Row} {f : Int} (L : LivesOf n st R) {c : Nat} (hc : c ≤ n) : (rowsV f R).filter (pB c) = rowsV f (R.take (nOf st c)) := by
  rw [← rowsV_take]
  refine (filter_range _ 0 (nOf st c) _ fun i x hx => ?_).trans (List.drop_zero)
  obtain ⟨r, h1, rfl⟩ := rowsV_at hx
  have := L.born i r h1 c hc
  show decide ((r.b : Int) ≤ (c : Int)) = _
  simp only [decide_eq_decide]
  omega
theorem rows_stand {n : Nat} {st : Nat → St} {R : List Row} {f : Int} (L : LivesOf n st R) {c : Nat} (hc : c ≤ n) : (rowsV f R).filter (pS c) = rowsV (f + kOf st c) ((R.take (nOf st c)).drop (kOf st c)) := by
  rw [← rowsV_drop, ← rowsV_take]
  refine filter_range _ (kOf st c) (nOf st c) _ fun i x hx => ?_
  obtain ⟨r, h1, rfl⟩ := rowsV_at hx
  have hb := L.born i r h1 c hc
  have hg := L.gone i r h1 c hc
  cases e : r.g with
  | none =>
    show pS c (.tup [.int (f + i), .str r.w, .int r.b, gD r.g]) = _
    rw [e]
    show decide ((r.b : Int) ≤ (c : Int)) = _
    simp only [decide_eq_decide]
    rw [e] at hg
    have : ¬ i < kOf st c := fun h => by obtain ⟨g, e1, _⟩ := hg.mpr h; exact nomatch e1
    clear hg
    omega
  | some g =>
    show pS c (.tup [.int (f + i), .str r.w, .int r.b, gD r.g]) = _
    rw [e]
    show (decide ((r.b : Int) ≤ (c : Int)) && decide ((c : Int) < (g : Int))) = _
    rw [← Bool.decide_and]
    simp only [decide_eq_decide]
    rw [e] at hg
    have : g ≤ c ↔ i < kOf st c := ⟨fun h => hg.mp ⟨g, rfl, h⟩, fun h => by obtain ⟨g', e1, e2⟩ := hg.mpr h; injection e1 with e1; omega⟩
    clear hg
    omega
end Lw

/-! LibV: deeds that may be refused. -/
set_option Elab.async false
set_option linter.all false
set_option maxRecDepth 100000
set_option maxHeartbeats 4000000
namespace Lw
open PySem Dn
local macro_rules | `(tactic| sizeOf_list_dec) => `(tactic| with_reducible (first
  | refine sa_V0 ?_ | refine sa_V1 ?_ | refine sa_V2 ?_ | refine sa_V3 ?_ | refine sa_V4 ?_ | refine sa_V5 ?_ | refine sa_V6 ?_ | refine sa_V7 ?_ | refine sa_V8 ?_ | refine sa_V9 ?_ | refine sa_V10 ?_ | refine sa_V11 ?_ | refine sa_V12 ?_ | refine sa_V13 ?_ | refine sa_V14 ?_ | refine sa_V15 ?_ | refine sa_C ?_ | refine sa_B ?_ | refine sa_U ?_ | refine sa_F ?_ | refine sa_aN ?_ | refine sa_aC ?_ | refine sa_tup ?_ | refine sa_lst ?_ | refine sa_new ?_ | refine sa_tE ?_ | refine sa_If ?_ | refine sa_And ?_ | refine sa_Or ?_ | refine sa_Not ?_ | refine sa_tAnd ?_ | refine sa_tOr ?_ | refine sa_tNot ?_ | refine sa_chain ?_ | refine sa_M ?_ | refine sa_Sl ?_ | refine sa_SlN ?_ | refine sa_pN ?_ | refine sa_pE ?_ | refine sa_wE ?_ | refine sa_wR1 ?_ | refine sa_wR2 ?_ | refine sa_tYes ?_ | refine ss_nx ?_ | refine ss_seq ?_ | refine ss_asg0 ?_ | refine ss_asg1 ?_ | refine ss_asg2 ?_ | refine ss_asg3 ?_ | refine ss_asg4 ?_ | refine ss_asg5 ?_ | refine ss_asg6 ?_ | refine ss_asg7 ?_ | refine ss_asg8 ?_ | refine ss_asg9 ?_ | refine ss_asg10 ?_ | refine ss_asg11 ?_ | refine ss_asg12 ?_ | refine ss_asg13 ?_ | refine ss_asg14 ?_ | refine ss_asg15 ?_ | refine ss_expr ?_ | refine ss_ret ?_ | refine ss_retN ?_ | refine ss_if ?_ | refine ss_put ?_ | refine ss_bk ?_ | refine ss_ct ?_ | refine so_add ?_ | refine so_sub ?_ | refine so_lt ?_ | refine so_le ?_ | refine so_gt ?_ | refine so_ge ?_ | refine so_eqI ?_ | refine so_neI ?_ | refine so_eqS ?_ | refine so_neS ?_ | refine so_eqB ?_ | refine so_neB ?_ | refine so_isN ?_ | refine so_notN ?_ | refine so_len ?_ | refine so_lenT ?_ | refine so_lenC ?_ | refine so_max ?_ | refine so_min ?_ | refine so_intI ?_ | refine so_intB ?_ | refine so_ixL0 ?_ | refine so_ixL1 ?_ | refine so_ixL2 ?_ | refine so_ixL3 ?_ | refine so_ixL4 ?_ | refine so_ixL5 ?_ | refine so_ixT0 ?_ | refine so_ixT1 ?_ | refine so_ixT2 ?_ | refine so_ixT3 ?_ | refine so_ixT4 ?_ | refine so_ixT5 ?_
  | refine so_isiI_tuple ?_ | refine so_isiI_list ?_ | refine so_isiI_str ?_ | refine so_isiI_bool ?_ | refine so_isiI_int ?_ | refine so_isiS_tuple ?_ | refine so_isiS_list ?_ | refine so_isiS_str ?_ | refine so_isiS_bool ?_ | refine so_isiS_int ?_ | refine so_isiB_tuple ?_ | refine so_isiB_list ?_ | refine so_isiB_str ?_ | refine so_isiB_bool ?_ | refine so_isiB_int ?_ | refine so_isiN_tuple ?_ | refine so_isiN_list ?_ | refine so_isiN_str ?_ | refine so_isiN_bool ?_ | refine so_isiN_int ?_ | refine so_isiT_tuple ?_ | refine so_isiT_list ?_ | refine so_isiT_str ?_ | refine so_isiT_bool ?_ | refine so_isiT_int ?_ | refine so_isiL_tuple ?_ | refine so_isiL_list ?_ | refine so_isiL_str ?_ | refine so_isiL_bool ?_ | refine so_isiL_int ?_
  | refine so_mod (by decide) ?_ | refine so_mul (mulOkL (by decide)) ?_ | refine so_div (by decide) ?_ | refine so_ixR0 (by assumption) ?_ | refine so_ixR1 (by assumption) ?_ | refine so_ixR2 (by assumption) ?_ | refine so_lenR (by assumption) ?_
  | (refine so_addL (by simp only [List.length_append, List.length_cons, List.length_nil]; omega) ?_; try simp only [List.cons_append, List.nil_append])
  | refine Exists.intro _ (And.intro rfl ?_)
  | refine And.intro (show _ ≤ 16777216 by simp only [List.length_cons, List.length_nil]; omega) ?_))
local macro_rules | `(tactic| array_get_dec) => `(tactic| repeat sizeOf_list_dec)
def m_put_in_r_b : SM :=
  (sSeq (sAsg (gT [3, 4, 5]) (eV 0))
  (sSeq (sIf (tE (eB opGt (eF m_weight (aC (eV 1) aN)) (eV 3))) (sRs0 "NoRoom") sNx)
  (sSeq (sAsg (gN 2) (eF m_left_in (aC (eB opSub (eV 3) (eF m_weight (aC (eV 1) aN))) (aC (eV 4) (aC (eV 5) aN)))))
  (sRet (eTup (aC (eV 3) (aC (eB opIx (eV 2) (eC (.int 1))) (aC (eB opAdd (eB opIx (eV 2) (eC (.int 2))) (eTup (aC (eV 1) aN))) aN))))))))
def m_put_in_r : FM := fn 2 6 m_put_in_r_b
def m_done_r_b : SM :=
  (sSeq (sIf (tE (eB opEq (eB opIx (eV 1) (eC (.int 0))) (eC (.str (Str.ofString "put"))))) (sRet (eF m_put_in_r (aC (eV 0) (aC (eB opIx (eV 1) (eC (.int 1))) aN)))) sNx)
  (sSeq (sIf (tE (eB opEq (eB opIx (eV 1) (eC (.int 0))) (eC (.str (Str.ofString "again"))))) (sRet (eF m_put_in_r (aC (eV 0) (aC (eF m_word_at_r (aC (eV 0) (aC (eB opSub (eF m_next_number (aC (eV 0) aN)) (eB opIx (eV 1) (eC (.int 1)))) aN))) aN)))) sNx)
  (sRet (eF m_left_in (aC (eB opIx (eV 1) (eC (.int 1))) (aC (eB opIx (eV 0) (eC (.int 1))) (aC (eB opIx (eV 0) (eC (.int 2))) aN)))))))
def m_done_r : FM := fn 2 2 m_done_r_b
def m_lives_r_b : SM :=
  (sSeq (sAsg (gN 2) eDct)
  (sSeq (sFor (gN 3) (wR2 (eB opIx (eV 0) (eC (.int 1))) (eF m_next_number (aC (eV 0) aN))) (sPut (eV 2) (eV 3) (eNew (aC (eF m_word_at_r (aC (eV 0) (aC (eV 3) aN))) (aC (eC (.int 0)) (aC (eC .non) aN))))))
  (sSeq (sFor (gT [4, 5]) (wEnT (eV 1)) (sSeq (sAsg (gN 6) (eF m_done_r (aC (eV 0) (aC (eV 5) aN))))
  (sSeq (sFor (gN 3) (wR2 (eF m_next_number (aC (eV 0) aN)) (eF m_next_number (aC (eV 6) aN))) (sPut (eV 2) (eV 3) (eNew (aC (eF m_word_at_r (aC (eV 6) (aC (eV 3) aN))) (aC (eB opAdd (eV 4) (eC (.int 1))) (aC (eC .non) aN))))))
  (sSeq (sFor (gN 3) (wR2 (eB opIx (eV 0) (eC (.int 1))) (eB opIx (eV 6) (eC (.int 1)))) (sPut (eB opIx (eV 2) (eV 3)) (eC (.int 2)) (eB opAdd (eV 4) (eC (.int 1)))))
  (sAsg (gN 0) (eV 6))))))
  (sRet (eLc [3] (gN 3) (wE (eF bSorted (aC (eV 2) aN))) tYes (eTup (aC (eV 3) (aC (eB opIx (eB opIx (eV 2) (eV 3)) (eC (.int 0))) (aC (eB opIx (eB opIx (eV 2) (eV 3)) (eC (.int 1))) (aC (eB opIx (eB opIx (eV 2) (eV 3)) (eC (.int 2))) aN))))))))))
def m_lives_r : FM := tr (fn 2 7 m_lives_r_b)

abbrev NoRoomX : D := .exn "NoRoom" []
theorem put_in_r {X : D → Hm → Prop} {room first : Int} {ws : List Str} {w : Str} {h : Hm} {Q : D → Hm → Prop} (h0 : 0 ≤ room) (hs : Short ws) (hl : ws.length ≤ 100000) (hw : w.length ≤ 1000) (q1 : wt w ≤ room → Q (bookS room first (ws ++ [w])) h) (q2 : room < wt w → X NoRoomX h) : SatX X (m_put_in_r [bookD room first ws, .str w] h) Q := by
  refine sa_fnX rfl ?_
  unfold m_put_in_r_b bookD
  simp only [List.map_cons, List.map_nil, List.replicate, Nat.reduceSub, List.cons_append, List.nil_append]
  with_reducible refine ss_seq ?_
  refine ss_asgT (sa_V0 ⟨_, _, rfl, rfl, ?_⟩)
  simp only [List.set_cons_zero, List.set_cons_succ]
  array_get_dec
  refine SatX.w (weight hw ?_)
  array_get_dec
  refine ⟨fun hc => ?_, fun hc => ?_⟩
  · have hc := of_decide_eq_true hc
    exact ss_rs0 (q2 hc)
  have hr : wt w ≤ room := by
    have := of_decide_eq_false hc
    omega
  have q := q1 hr
  array_get_dec
  refine SatX.w (weight hw ?_)
  array_get_dec
  refine SatX.w (left_in (by omega) hs hl ?_)
  unfold bookD
  array_get_dec
  refine so_addT (by simp; have := fit_len (room := room - wt w) (x := 0) (k := ws); unfold stay; omega) ?_
  array_get_dec
  have e := stay_put hr ws
  have el : (stay room (ws ++ [w])).length = (stay (room - wt w) ws).length + 1 := by rw [← e]; simp
  unfold bookS bookD at q
  rw [← e] at q
  rw [show ((ws ++ [w]).length - (stay (room - wt w) ws ++ [w]).length) = ws.length - (stay (room - wt w) ws).length by simp] at q
  rw [List.map_append] at q
  exact q
theorem done_r {X : D → Hm → Prop} {room first r' : Int} {ws ws' : List Str} {d : D} {h : Hm} {Q : D → Hm → Prop} (c : Can room ws d r' ws') (h0 : 0 ≤ room) (hs : Short ws) (hl : ws.length ≤ 100000) (q : Q (bookS r' first ws') h) : SatX X (m_done_r [bookD room first ws, d] h) Q := by
  refine sa_fnX rfl ?_
  unfold m_done_r_b
  simp only [List.map_cons, List.map_nil, List.replicate, Nat.reduceSub, List.cons_append, List.nil_append]
  cases c with
  | put w hw hr =>
    array_get_dec
    refine ⟨fun _ => ?_, fun hc => by simp [ne_put] at hc⟩
    array_get_dec
    have := hw.len
    exact put_in_r h0 hs hl (by omega) (fun _ => q) (fun h => by omega)
  | again n w h1 h2 e hr =>
    array_get_dec
    refine ⟨fun hc => by simp [ne_put] at hc, fun _ => ?_⟩
    array_get_dec
    refine ⟨fun _ => ?_, fun hc => by simp [ne_put] at hc⟩
    array_get_dec
    refine SatX.w (next_number ?_)
    array_get_dec
    refine word_at_r (fun w' hf e' => ?_) (fun hb => by omega)
    rw [show first + (ws.length : Int) - n - first = (ws.length : Int) - n by omega, e] at e'
    injection e' with e'
    subst e'
    array_get_dec
    exact put_in_r h0 hs hl (hs w (List.mem_of_getElem? e)) (fun _ => q) (fun h => by omega)
  | room n h1 h2 =>
    array_get_dec
    refine ⟨fun hc => by simp [ne_put] at hc, fun _ => ?_⟩
    array_get_dec
    refine ⟨fun hc => by simp [ne_put] at hc, fun _ => ?_⟩
    unfold bookD
    array_get_dec
    exact SatX.w (left_in h1 hs hl q)
/-- deeds refused -/
theorem done_heavy {X : D → Hm → Prop} {room first : Int} {ws : List Str} {w : Str} {h : Hm} {Q : D → Hm → Prop} (h0 : 0 ≤ room) (hs : Short ws) (hl : ws.length ≤ 100000) (hw : w.length ≤ 1000) (hr : room < wt w) (q : X NoRoomX h) : SatX X (m_done_r [bookD room first ws, .tup [.str (Str.ofString "put"), .str w]] h) Q := by
  refine sa_fnX rfl ?_
  unfold m_done_r_b
  simp only [List.map_cons, List.map_nil, List.replicate, Nat.reduceSub, List.cons_append, List.nil_append]
  array_get_dec
  refine ⟨fun _ => ?_, fun hc => by simp [ne_put] at hc⟩
  array_get_dec
  exact put_in_r h0 hs hl hw (fun h => by omega) (fun _ => q)
theorem done_far {X : D → Hm → Prop} {room first n : Int} {ws : List Str} {h : Hm} {Q : D → Hm → Prop} (hn : (ws.length : Int) < n) (q : X (NoWordX (first + ws.length - n)) h) : SatX X (m_done_r [bookD room first ws, .tup [.str (Str.ofString "again"), .int n]] h) Q := by
  refine sa_fnX rfl ?_
  unfold m_done_r_b
  simp only [List.map_cons, List.map_nil, List.replicate, Nat.reduceSub, List.cons_append, List.nil_append]
  array_get_dec
  refine ⟨fun hc => by simp [ne_put] at hc, fun _ => ?_⟩
  array_get_dec
  refine ⟨fun _ => ?_, fun hc => by simp [ne_put] at hc⟩
  array_get_dec
  refine SatX.w (next_number ?_)
  array_get_dec
  exact word_at_r (fun w hf e => by
    have := (List.getElem?_eq_some_iff.mp e).1
    omega) (fun _ => q)
/-- a new row -/
theorem lives_putX {Y : D → Ev → Hm → Prop} {h : Hm} {f : Int} {R : List Row} {w : Str} {b : Nat} {num : Int} {N : Ev → Hm → Prop} {T : D → Hm → Prop} {Bk G : Ev → Hm → Prop} (v : Ev) (eb : EM) (ea : EM) (e2 : v[2]? = some (some (.ref h.length))) (e3 : v[3]? = some (some (.int num))) (hnum : num = f + R.length) (hR : R.length ≤ 1000000)
    (ha : ∀ P : D → Hm → Prop, P (.str w) (hpL h f R) → SatX (fun x h1 => Y x v h1) (ea v (hpL h f R)) P) (hb : ∀ P : D → Hm → Prop, P (.int b) (hpL h f R) → SatX (fun x h1 => Y x v h1) (eb v (hpL h f R)) P) (q : N v (hpL h f (R ++ [⟨w, b, none⟩]))) :
    SatSX Y (sPut (eV 2) (eV 3) (eNew (aC ea (aC eb (aC (eC .non) aN)))) v (hpL h f R)) N T Bk G := by
  with_reducible refine ss_put ?_
  with_reducible refine sa_new ?_
  with_reducible refine sa_aC ?_
  refine ha _ ?_
  with_reducible refine sa_aC ?_
  refine hb _ ?_
  array_get_dec
  refine sa_V e2 (sa_V e3 ?_)
  have e0 : (hpL h f R ++ [HD.lst [.str w, .int b, .non]])[h.length]? = some (.dct (dl f (h.length + 1) R.length)) := by
    rw [List.getElem?_append_left (by rw [hpL_len]; omega)]; exact hpL_d
  refine so_putK (k := .inl num) e0 (by rw [dl_len]; omega) rfl ?_
  subst hnum
  have := hpL_new (h := h) (f := f) (R := R) (r := ⟨w, b, none⟩)
  rw [show ([HD.lst [.str w, .int b, .non]] : List HD) = [rowO ⟨w, b, none⟩] from rfl, this]
  exact q
/-- marks on the rows that go -/
theorem lives_markX {Y : D → Ev → Hm → Prop} {h : Hm} {f : Int} {R : List Row} {k t : Nat} {v : Ev} {num : Int} {j : Nat} {r : Row} {N : Ev → Hm → Prop} {T : D → Hm → Prop} {Bk G : Ev → Hm → Prop} (e2 : v[2]? = some (some (.ref h.length))) (e3 : v[3]? = some (some (.int num))) (e4 : v[4]? = some (some (.int t))) (hnum : num = f + ((k + j : Nat) : Int)) (hr : R[k + j]? = some r)
    (q : N v (hpL h f (mark k (j + 1) (t + 1) R))) : SatSX Y (sPut (eB opIx (eV 2) (eV 3)) (eC (.int 2)) (eB opAdd (eV 4) (eC (.int 1))) v (hpL h f (mark k j (t + 1) R))) N T Bk G := by
  have hlt := (List.getElem?_eq_some_iff.mp hr).1
  with_reducible refine ss_put ?_
  with_reducible refine sa_B ?_
  refine sa_V e4 ?_
  array_get_dec
  refine sa_V e2 ?_
  with_reducible refine sa_V e3 ?_
  have hm : (mark k j (t + 1) R)[k + j]? = some r := by
    rw [mark_at, hr]
    simp
  refine so_ixK (k := .inl num) hpL_d rfl (by rw [hnum]; exact dl_val _ _ _ _ (by rw [mark_len]; exact hlt)) ?_
  array_get_dec
  refine so_put (j := 2) (hpL_at hm) rfl ?_
  rw [show ([D.str r.w, .int r.b, gD r.g].set 2 (.int ((t : Int) + 1))) = [.str r.w, .int r.b, gD (some (t + 1))] from rfl, show HD.lst [.str r.w, .int r.b, gD (some (t + 1))] = rowO ⟨r.w, r.b, some (t + 1)⟩ from rfl, hpL_set, mark_succ hr]
  exact q
theorem word_atX {X : D → Hm → Prop} {room first : Int} {ws : List Str} {k : Int} {w : Str} {h : Hm} {Q : D → Hm → Prop} (h0 : 0 ≤ k) (e : ws[k.toNat]? = some w) (q : Q (.str w) h) : SatX X (m_word_at_r [bookD room first ws, .int (first + k)] h) Q := by
  have hlt := (List.getElem?_eq_some_iff.mp e).1
  refine word_at_r (fun w' hf e' => ?_) (fun hb => by omega)
  rw [show first + k - first = k by omega, e] at e'
  injection e' with e'
  subst e'
  exact q
theorem lives_bad {X : D → Hm → Prop} {pre post : List D} {bad e : D} {st : Nat → St} {h : Hm} {Q : D → Hm → Prop} (hrun : RunOf pre st) (hl : pre.length ≤ 1000) (f0 : 0 ≤ (st 0).first) (f1 : (st 0).first ≤ 20000) (he : ∀ N, D.cl N e = true) (hbad : ∀ (h : Hm) (Y : D → Hm → Prop) (Q : D → Hm → Prop), Y e h → SatX Y (m_done_r [(st pre.length).bk, bad] h) Q) (q : X e h) : SatX X (m_lives_r [(st 0).bk, .lst (pre ++ bad :: post)] h) Q := by
  refine sa_tr (sa_fnX rfl ?_)
  unfold m_lives_r_b
  simp only [List.map_cons, List.map_nil, List.replicate, Nat.reduceSub, List.cons_append, List.nil_append]
  obtain ⟨r0, r1, hW0, hS0⟩ := hrun.ok 0 (Nat.zero_le _)
  have hlen0 := sumW_ge (st 0).ws
  have hdl : (pre ++ bad :: post).length = pre.length + 1 + post.length := by simp; omega
  have hpre : ∀ (t : Nat) (ht : t < (pre ++ bad :: post).length), t < pre.length → pre[t]? = some (pre ++ bad :: post)[t] := fun t ht h => by
    rw [← List.getElem?_eq_getElem ht, List.getElem?_append_left h]
  have hbd : ∀ (ht : pre.length < (pre ++ bad :: post).length), (pre ++ bad :: post)[pre.length] = bad := fun ht => by simp
  generalize pre ++ bad :: post = ds at *
  generalize hf : (st 0).first = f
  have lenN := run_len hrun
  have fstN : ∀ c, c ≤ pre.length → (st c).first = f + kOf st c := fun c hc => by rw [← hf]; exact (run_fst hrun c hc).1
  have kN : ∀ c, kOf st c ≤ nOf st c := fun c => Nat.le_add_right ..
  with_reducible refine ss_seq ?_
  with_reducible refine ss_asg2 (sa_dct ?_)
  rw [show h ++ [HD.dct []] = hpL h f (((st 0).ws.take 0).map fun w => ⟨w, 0, none⟩) from rfl]
  with_reducible refine ss_seq ?_
  refine ss_forL (l := (List.range (st 0).ws.length).map fun (k : Nat) => .int (f + (k : Int))) (fun j v h' => ∃ x3, h' = hpL h f (((st 0).ws.take j).map fun w => ⟨w, 0, none⟩) ∧ v = [some (st 0).bk, some (.lst ds), some (.ref h.length), x3, none, none, none]) (by
    array_get_dec
    unfold St.bk
    refine so_bk1 ?_
    array_get_dec
    refine SatX.w (next_number ?_)
    rw [hf] at f0 f1 ⊢
    refine ⟨_, _, rfl, rfl, by omega, ?_, rfl⟩
    rw [show (f + ((st 0).ws.length : Int) - f).toNat = (st 0).ws.length by omega]) ⟨_, rfl, rfl⟩ ?_ ?_
  · rintro j x v h' hx ⟨x3, rfl, rfl⟩
    have hj : j < (st 0).ws.length := by
      have := (List.getElem?_eq_some_iff.mp hx).1
      simpa using this
    have hxe : x = .int (f + (j : Int)) := by
      rw [List.getElem?_map, List.getElem?_range hj] at hx
      injection hx with hx
      exact hx.symm
    subst hxe
    have ew : (st 0).ws[j]? = some (st 0).ws[j] := List.getElem?_eq_getElem hj
    refine ⟨_, rfl, ?_⟩
    simp only [List.set_cons_zero, List.set_cons_succ]
    refine lives_putX (w := (st 0).ws[j]) (b := 0) (num := f + (j : Int)) _ _ _ rfl rfl (by simp; omega) (by simp; omega) (fun P p => ?_) (fun P p => sa_C p) ⟨_, ?_, rfl⟩
    · array_get_dec
      unfold St.bk
      rw [show D.int (f + (j : Int)) = D.int ((st 0).first + (j : Int)) by rw [hf]]
      exact word_atX (k := (j : Int)) (w := (st 0).ws[j]) (by omega) (by rw [Int.toNat_natCast]; exact ew) p
    · rw [List.take_add_one, ew, List.map_append]; rfl
  rintro v h' ⟨x3, rfl, rfl⟩
  rw [List.length_map, List.length_range, List.take_length]
  with_reducible refine ss_seq ?_
  refine ss_forL (l := enumL ds) (fun t v h' => ∃ (R : List Row) (x3 x4 x5 x6 : Option D), t ≤ pre.length ∧ LivesOf t st R ∧ h' = hpL h f R ∧ v = [some (st t).bk, some (.lst ds), some (.ref h.length), x3, x4, x5, x6]) (by
    refine sa_wEnT ?_
    array_get_dec
    exact ⟨rfl, rfl⟩) ⟨_, _, _, _, _, Nat.zero_le _, lives_first rfl hW0, rfl, rfl⟩ ?_ ?_
  · rintro t x v h' hx ⟨R, x3, x4, x5, x6, htp, L, rfl, rfl⟩
    have ht : t < ds.length := by
      have := (List.getElem?_eq_some_iff.mp hx).1
      simpa [enumL] using this
    have hxe : x = .tup [.int t, ds[t]] := by
      unfold enumL at hx
      rw [List.getElem?_mapIdx, List.getElem?_eq_getElem ht] at hx
      injection hx with hx
      exact hx.symm
    subst hxe
    by_cases htl : t < pre.length
    case neg =>
      have : t = pre.length := by omega
      subst this
      refine ⟨_, rfl, ?_⟩
      simp only [List.set_cons_zero, List.set_cons_succ]
      with_reducible refine ss_seq ?_
      with_reducible refine ss_asg6 ?_
      array_get_dec
      rw [hbd ht]
      refine hbad _ _ _ ⟨he _, trOk_app _ _ _, ?_⟩
      rw [show (hpL h f R).take h.length = h by simp [hpL]]
      exact q
    obtain ⟨r', ws', hcan, es⟩ := hrun.step t ds[t] (hpre t ht htl)
    obtain ⟨s0, s1, hWt, hSt⟩ := hrun.ok t (by omega)
    have hlt := sumW_ge (st t).ws
    have L2 := lives_step L es (by
      rcases can_ws hcan with e | ⟨w, e, _⟩
      · exact .inl e
      · exact .inr ⟨w, e⟩) (can_words hWt hcan)
    have hRl := L.len
    have hR2 := L2.len
    have hN1 := lenN t (by omega)
    have hN2 := lenN (t + 1) (by omega)
    have hf1 := fstN t (by omega)
    have hf2 := fstN (t + 1) (by omega)
    have hk1 := kN t
    have hk2 := kN (t + 1)
    have hmono := (L2.mono t (by omega)).1
    have hw2 : (st (t + 1)).ws = stay r' ws' := by rw [es]; rfl
    have hwl2 : (st (t + 1)).ws.length = (stay r' ws').length := by rw [hw2]
    have hff : (st (t + 1)).first = (st t).first + ((ws'.length - (stay r' ws').length : Nat) : Int) := by rw [es]; rfl
    have hsl : (stay r' ws').length ≤ ws'.length := fit_len
    have hst : stay r' ws' = ws'.drop (ws'.length - (stay r' ws').length) := fit_drop r' 0 ws'
    have hbk : bookS r' (st t).first ws' = (st (t + 1)).bk := by rw [es]; rfl
    rw [mark_len, List.length_append, List.length_map, List.length_drop] at hR2
    refine ⟨_, rfl, ?_⟩
    simp only [List.set_cons_zero, List.set_cons_succ]
    with_reducible refine ss_seq ?_
    with_reducible refine ss_asg6 ?_
    array_get_dec
    refine done_r hcan s0 hWt.short (by omega) ?_
    rw [hbk]
    with_reducible refine ss_seq ?_
    refine ss_forL (l := (List.range (ws'.length - (st t).ws.length)).map fun (k : Nat) => .int ((st t).first + (st t).ws.length + (k : Int))) (fun j v h' => ∃ x3, h' = hpL h f (R ++ ((ws'.drop (st t).ws.length).take j).map fun w => ⟨w, t + 1, none⟩) ∧ v = [some (st t).bk, some (.lst ds), some (.ref h.length), x3, some (.int t), some ds[t], some (st (t + 1)).bk]) (by
      array_get_dec
      unfold St.bk
      refine SatX.w (next_number ?_)
      array_get_dec
      refine SatX.w (next_number ?_)
      refine ⟨_, _, rfl, rfl, by omega, ?_, rfl⟩
      rw [hw2, show ((st (t + 1)).first + ((stay r' ws').length : Int) - ((st t).first + ((st t).ws.length : Int))).toNat = ws'.length - (st t).ws.length by omega]) ⟨_, by simp, rfl⟩ ?_ ?_
    · rintro j x v h' hx ⟨x3, rfl, rfl⟩
      have hj : j < ws'.length - (st t).ws.length := by
        have := (List.getElem?_eq_some_iff.mp hx).1
        simpa using this
      have hxe : x = .int ((st t).first + (st t).ws.length + (j : Int)) := by
        rw [List.getElem?_map, List.getElem?_range hj] at hx
        injection hx with hx
        exact hx.symm
      subst hxe
      obtain ⟨w, ew', hwr⟩ : ∃ w, ws' = (st t).ws ++ [w] ∧ wt w ≤ r' := by
        rcases can_ws hcan with e | ⟨w, e, hw⟩
        · rw [e] at hj; omega
        · exact ⟨w, e, hw⟩
      have hj0 : j = 0 := by rw [ew'] at hj; simp at hj; omega
      subst hj0
      obtain ⟨kk, ek, hkk⟩ := stay_last (ws := (st t).ws) hwr
      have hw'l : ws'.length = (st t).ws.length + 1 := by rw [ew']; simp
      rw [← ew'] at ek
      have hsl1 : (stay r' ws').length = kk.length + 1 := by rw [ek]; simp
      have ewd : (ws'.drop (st t).ws.length) = [w] := by rw [ew']; simp
      refine ⟨_, rfl, ?_⟩
      simp only [List.set_cons_zero, List.set_cons_succ]
      rw [List.take_zero, List.map_nil, List.append_nil]
      refine lives_putX (w := w) (b := t + 1) (num := (st t).first + (st t).ws.length + ((0 : Nat) : Int)) _ _ _ rfl rfl (by rw [hf1, hRl]; unfold nOf; omega) (by omega) (fun P p => ?_) (fun P p => ?_) ⟨_, ?_, rfl⟩
      · array_get_dec
        unfold St.bk
        rw [show (st t).first + ((st t).ws.length : Int) + ((0 : Nat) : Int) = (st (t + 1)).first + ((kk.length : Nat) : Int) by omega]
        refine word_atX (k := (kk.length : Int)) (w := w) (by omega) ?_ p
        rw [Int.toNat_natCast, hw2, ek]
        simp
      · array_get_dec
        exact p
      · rw [ewd]; rfl
    rintro v h' ⟨x3, rfl, rfl⟩
    rw [List.length_map, List.length_range, List.take_of_length_le (by rw [List.length_drop]; omega)]
    generalize hF : ((ws'.drop (st t).ws.length).map fun w => (⟨w, t + 1, none⟩ : Row)) = F at L2 ⊢
    have hFl : F.length = ws'.length - (st t).ws.length := by rw [← hF, List.length_map, List.length_drop]
    with_reducible refine ss_seq ?_
    refine ss_forL (l := (List.range (kOf st (t + 1) - kOf st t)).map fun (k : Nat) => .int ((st t).first + (k : Int))) (fun j v h' => ∃ x3, h' = hpL h f (mark (kOf st t) j (t + 1) (R ++ F)) ∧ v = [some (st t).bk, some (.lst ds), some (.ref h.length), x3, some (.int t), some ds[t], some (st (t + 1)).bk]) (by
      array_get_dec
      unfold St.bk
      refine so_bk1 ?_
      array_get_dec
      refine so_bk1 ?_
      refine ⟨_, _, rfl, rfl, by omega, ?_, rfl⟩
      rw [show ((st (t + 1)).first - (st t).first).toNat = kOf st (t + 1) - kOf st t by omega]) ⟨_, by rw [mark_zero], rfl⟩ ?_ ?_
    · rintro j x v h' hx ⟨x3, rfl, rfl⟩
      have hj : j < kOf st (t + 1) - kOf st t := by
        have := (List.getElem?_eq_some_iff.mp hx).1
        simpa using this
      have hxe : x = .int ((st t).first + (j : Int)) := by
        rw [List.getElem?_map, List.getElem?_range hj] at hx
        injection hx with hx
        exact hx.symm
      subst hxe
      refine ⟨_, rfl, ?_⟩
      simp only [List.set_cons_zero, List.set_cons_succ]
      have hlt2 : kOf st t + j < (R ++ F).length := by rw [List.length_append]; omega
      refine lives_markX (t := t) (num := (st t).first + (j : Int)) (r := (R ++ F)[kOf st t + j]) rfl rfl rfl (by omega) (List.getElem?_eq_getElem hlt2) ⟨_, rfl, rfl⟩
    rintro v h' ⟨x3, rfl, rfl⟩
    rw [List.length_map, List.length_range]
    array_get_dec
    exact ⟨_, _, _, _, _, htl, L2, rfl, rfl⟩
  · rintro v h' ⟨R, x3, x4, x5, x6, htp, L, rfl, rfl⟩
    have hel : (enumL ds).length = ds.length := by simp [enumL]
    rw [hel] at htp
    omega
end Lw

/-! LibX: texts in order, each once. -/
set_option Elab.async false
set_option linter.all false
set_option maxRecDepth 100000
set_option maxHeartbeats 4000000
namespace Lw
open PySem Dn
/-- sorted(set(ws)) -/
def ssT (ws : List Str) : List Str := srtT (ddT ws)
theorem ssT_mem {ws : List Str} {k : Str} : k ∈ ssT ws ↔ k ∈ ws := (srtT_perm _).mem_iff.trans ddT_mem
theorem ssT_nodup (ws : List Str) : (ssT ws).Nodup := (srtT_perm _).nodup_iff.mpr (ddT_nodup ws)
theorem ssT_len (ws : List Str) : (ssT ws).length ≤ ws.length := by
  rw [ssT, (srtT_perm _).length_eq]
  exact ddT_len ws
section
variable {X : D → Hm → Prop} {h : Hm}
theorem so_sset {ws : List Str} {Q : D → Hm → Prop} (hl : ws.length ≤ 4000) (q : Q (.lst ((ssT ws).map D.str)) h) : SatX X (bSSet [.lst (ws.map D.str)] h) Q := by
  unfold bSSet
  simp only [lsOf, strsOf_map, if_pos (show ws.length < 4095 by omega)]
  exact ⟨q⟩
end
end Lw

/-! LibY: what a refusal is, by its class alone (the law's own look at it). -/
set_option Elab.async false
set_option linter.all false
set_option maxRecDepth 100000
set_option maxHeartbeats 4000000
namespace Lw
open PySem Dn
def m_law_kind_r_b : SM :=
  (sSeq (sIf (tE (eB opIsN (eV 1) (eC .non))) (sRet (eTup (aC (eC (.str (Str.ofString "told"))) (aC (eV 2) aN)))) sNx)
  (sSeq (sAsg (gN 4) (eLst (aC (eU (isX ["NoRoom"]) (eV 1)) (aC (eU (isX ["NoRow"]) (eV 1)) (aC (eU (isX ["NoWord"]) (eV 1)) aN)))))
  (sSeq (sAsg (gN 4) (eB opAdd (eV 4) (eLst (aC (eU (isX ["Wait"]) (eV 1)) (aC (eU (isX ["NoText"]) (eV 1)) (aC (eU (isX ["Held"]) (eV 1)) aN))))))
  (sSeq (sAsg (gN 4) (eB opAdd (eV 4) (eLst (aC (eU (isX ["NoTalk"]) (eV 1)) (aC (eU (isX ["NoDeed"]) (eV 1)) aN)))))
  (sSeq (sIf (tOr (tE (eB opNe (eM "list" mCount (eV 4) (aC (eC (.bl true)) aN)) (eC (.int 1)))) (tNot (tE (eU (isX ["ValueError"]) (eV 1))))) (sRet (eTup (aC (eC (.str (Str.ofString "odd"))) aN))) sNx)
  (sSeq (sIf (tOr (tE (eB opIx (eV 4) (eC (.int 2)))) (tE (eB opIx (eV 4) (eC (.int 5))))) (sRet (eTup (aC (eB opIx (eLst (aC (eC (.str (Str.ofString "word"))) (aC (eC (.str (Str.ofString "held"))) aN))) (eF bInt (aC (eB opIx (eV 4) (eC (.int 5))) aN))) (aC (eU (xFld "number") (eV 1)) aN)))) sNx)
  (sSeq (sIf (tOr (tE (eB opIx (eV 4) (eC (.int 3)))) (tE (eB opIx (eV 4) (eC (.int 4))))) (sRet (eIf (tE (eB opIx (eV 4) (eC (.int 3)))) (eTup (aC (eC (.str (Str.ofString "wait"))) (aC (eU (xFld "need") (eV 1)) aN))) (eTup (aC (eC (.str (Str.ofString "text"))) (aC (eU (xFld "at") (eV 1)) aN))))) sNx)
  (sSeq (sIf (tOr (tE (eB opIx (eV 4) (eC (.int 6)))) (tE (eB opIx (eV 4) (eC (.int 7))))) (sRet (eIf (tE (eB opIx (eV 4) (eC (.int 6)))) (eTup (aC (eC (.str (Str.ofString "talk"))) (aC (eU (xFld "talk") (eV 1)) aN))) (eTup (aC (eC (.str (Str.ofString "deed"))) (aC (eU (xFld "many") (eV 1)) aN))))) sNx)
  (sRet (eTup (aC (eB opIx (eLst (aC (eC (.str (Str.ofString "room"))) (aC (eC (.str (Str.ofString "row"))) aN))) (eF bInt (aC (eB opIx (eV 4) (eC (.int 1))) aN))) aN)))))))))))
def m_law_kind_r : (Hm → R D) → Hm → R D := fun ask => fnA 5 (kindB 1 2 3 (fun c => xIs c "BookError") (sAsg (gN 1) (eV 3)) m_law_kind_r_b ask)
/-- how the law names a refusal -/
inductive KindOf : D → D → Prop
  | room : KindOf NoRoomX (.tup [.str (Str.ofString "room")])
  | row : KindOf (.exn "NoRow" []) (.tup [.str (Str.ofString "row")])
  | word (k : Int) : KindOf (NoWordX k) (.tup [.str (Str.ofString "word"), .int k])
  | wait (k : Int) : KindOf (WaitX k) (.tup [.str (Str.ofString "wait"), .int k])
  | text (k : Int) : KindOf (.exn "NoText" [("at", .int k)]) (.tup [.str (Str.ofString "text"), .int k])
  | held (k : Int) : KindOf (.exn "Held" [("number", .int k)]) (.tup [.str (Str.ofString "held"), .int k])
  | talk (k : Int) : KindOf (.exn "NoTalk" [("talk", .int k)]) (.tup [.str (Str.ofString "talk"), .int k])
  | deed (k : Int) : KindOf (.exn "NoDeed" [("many", .int k)]) (.tup [.str (Str.ofString "deed"), .int k])
theorem kind_tail {x d : D} (k : KindOf x d) (h : Hm) : m_law_kind_r_b [none, some x, some .non, none, none] h = .rt d h := by
  cases k <;> kernel_rfl
theorem kind_tailed {d : D} (h : Hm) : m_law_kind_r_b [none, some .non, some d, none, none] h = .rt (.tup [.str (Str.ofString "told"), d]) h := by
  kernel_rfl
theorem kind_exn {x d : D} (k : KindOf x d) : ∃ c fs, x = .exn c fs ∧ xIs c "BookError" = true := by
  cases k <;> exact ⟨_, _, rfl, by decide +kernel⟩
/-- a lambda's outcome, told by the law -/
theorem kind_r {ask : Hm → R D} {h : Hm} {Q : D → Hm → Prop} (s : SatX (fun x h1 => ∃ d, KindOf x d ∧ Q d h1) (ask h) fun d h1 => Q (.tup [.str (Str.ofString "told"), d]) h1) : Sat (m_law_kind_r ask h) Q := by
  obtain ⟨s⟩ := s
  refine ⟨?_⟩
  unfold m_law_kind_r fnA kindB
  simp only [sSeq, sAsg, gN, eC, eAsk, sTry, List.replicate, List.set_cons_succ, List.set_cons_zero]
  cases e : ask h with
  | ok d h1 =>
    rw [e] at s
    simp only [List.set_cons_succ, List.set_cons_zero, kind_tailed]
    exact s
  | exc x h1 =>
    rw [e] at s
    obtain ⟨d, k, q⟩ := s
    obtain ⟨c, fs, rfl, hc⟩ := kind_exn k
    simp only [hc, if_true, kAs, List.set_cons_succ, List.set_cons_zero, eV]
    have e1 : sAsg (gN 1) (eV 3) [none, some D.non, some D.non, some (D.exn c fs), none] h1 = .nx [none, some (.exn c fs), some .non, some (.exn c fs), none] h1 := rfl
    rw [e1]
    have e2 : List.set [none, some (D.exn c fs), some D.non, some (D.exn c fs), none] 3 none = [none, some (.exn c fs), some .non, none, none] := rfl
    simp only [Fl.nox, e2, kind_tail k]
    exact q
  | err => rw [e] at s; exact s.elim
/-- a lambda in the law -/
theorem sa_lam {f : (Hm → R D) → Hm → R D} {body : EM} {v : Ev} {h : Hm} {Y : D → Hm → Prop} {Q : D → Hm → Prop} (s : SatX Y (f (fun h' => body v h') h) Q) : SatX Y (eLam f body v h) Q := s
end Lw

/-! the mirror, printed by den.py -/
set_option Elab.async false
set_option linter.all false
set_option maxRecDepth 100000
set_option maxHeartbeats 8000000
namespace Lw
open PySem Dn
def m_all_done_r_b : SM :=
  (sSeq (sFor (gN 2) (wE (eV 1)) (sAsg (gN 0) (eF m_done_r (aC (eV 0) (aC (eV 2) aN)))))
  (sRet (eV 0)))
def m_all_done_r : FM := fn 2 3 m_all_done_r_b
def m_law_b : SM :=
  (sSeq (sFor (gN 1) (wR1 (eF bMax (aC (eC (.int 2)) (aC (eF bMin (aC (eC (.int 4)) (aC (eF bLen (aC (eV 0) aN)) aN))) aN)))) (sSeq (sAsg (gN 2) (eF m_law_bowl (aC (eV 0) (aC (eV 1) aN))))
  (sSeq (sAsg (gN 3) (eB opIx (eLst (aC (eC (.int 201)) (aC (eF m_law_spoon (aC (eV 2) (aC (eC (.int 200)) aN))) aN))) (eF m_law_spoon (aC (eV 2) (aC (eC (.int 2)) aN)))))
  (sSeq (sAsg (gN 4) (eB opIx (eLst (aC (eF m_law_spoon (aC (eV 2) (aC (eC (.int 201)) aN))) (aC (eC (.int 200)) (aC (eF m_law_spoon (aC (eV 2) (aC (eC (.int 12)) aN))) aN)))) (eF m_law_spoon (aC (eV 2) (aC (eC (.int 3)) aN)))))
  (sSeq (sAsg (gN 5) (eF m_law_unlike (aC (eV 2) (aC (eB opAdd (eC (.int 1)) (eF m_law_spoon (aC (eV 2) (aC (eB opIx (eLst (aC (eC (.int 5)) (aC (eC (.int 60)) aN))) (eF bInt (aC (eB opEq (eV 1) (eC (.int 0))) aN))) aN)))) aN))))
  (sSeq (sAsg (gN 6) (eF m_law_book (aC (eV 2) (aC (eV 5) aN))))
  (sSeq (sAsg (gN 6) (eTup (aC (eB opIx (eV 6) (eC (.int 0))) (aC (eB opAdd (eB opIx (eV 6) (eC (.int 1))) (eB opMul (eC (.int 9000)) (eF bInt (aC (eB opEq (eB opMod (eF bLen (aC (eV 0) aN)) (eC (.int 8))) (eC (.int 5))) aN)))) (aC (eB opIx (eV 6) (eC (.int 2))) aN)))))
  (sSeq (sAsg (gN 7) (eV 6))
  (sSeq (sAsg (gN 8) (eNew aN))
  (sSeq (sAsg (gN 9) (eC .non))
  (sSeq (sFor (gN 10) (wR1 (eV 4)) (sSeq (sAsg (gN 13) (eF m_law_deed (aC (eV 2) (aC (eV 7) (aC (eV 5) aN)))))
  (sSeq (sAsg (gN 14) (eF m_law_behind (aC (eV 7) (aC (eV 13) aN))))
  (sIf (tE (eU (isi "tuple") (eV 14))) (sSeq (sExpr (eM "list" mAppend (eV 8) (aC (eV 13) aN)))
  (sIf (tE (eB opIsN (eV 9) (eC .non))) (sAsg (gN 7) (eV 14)) sNx)) (sIf (tE (eB opGe (eV 10) (eV 3))) (sSeq (sExpr (eM "list" mAppend (eV 8) (aC (eV 13) aN)))
  (sIf (tE (eB opIsN (eV 9) (eC .non))) (sAsg (gN 9) (eIf (tE (eB opEq (eV 14) (eC (.str (Str.ofString "room"))))) (eTup (aC (eC (.str (Str.ofString "room"))) aN)) (eTup (aC (eC (.str (Str.ofString "word"))) (aC (eV 14) aN))))) sNx)) sNx)))))
  (sSeq (sAsg (gN 11) (eIf (tE (eB opIsN (eV 9) (eC .non))) (eTup (aC (eC (.str (Str.ofString "told"))) (aC (eV 7) aN))) (eV 9)))
  (sSeq (sAsg (gN 12) (eF bList (aC (eV 8) aN)))
  (sIf (tOr (tNot (tE (eF (m_law_same 10) (aC (eLam m_law_kind_r (eF m_all_done_r (aC (eV 6) (aC (eV 12) aN)))) (aC (eV 11) aN))))) (tE (eB opNe (eV 12) (eV 8)))) (sRet (eC (.bl false))) sNx))))))))))))))
  (sRet (eC (.bl true))))
def m_law : FM := fn0 1 15 m_law_b
end Lw

/-! the pure law of K09 -/
set_option Elab.async false
set_option linter.all false
set_option maxRecDepth 100000
set_option maxHeartbeats 4000000
namespace Lw
open PySem Dn
local macro_rules | `(tactic| sizeOf_list_dec) => `(tactic| with_reducible (first
  | refine sa_V0 ?_ | refine sa_V1 ?_ | refine sa_V2 ?_ | refine sa_V3 ?_ | refine sa_V4 ?_ | refine sa_V5 ?_ | refine sa_V6 ?_ | refine sa_V7 ?_ | refine sa_V8 ?_ | refine sa_V9 ?_ | refine sa_V10 ?_ | refine sa_V11 ?_ | refine sa_V12 ?_ | refine sa_V13 ?_ | refine sa_V14 ?_ | refine sa_V15 ?_ | refine sa_C ?_ | refine sa_B ?_ | refine sa_U ?_ | refine sa_F ?_ | refine sa_aN ?_ | refine sa_aC ?_ | refine sa_tup ?_ | refine sa_lst ?_ | refine sa_new ?_ | refine sa_tE ?_ | refine sa_If ?_ | refine sa_And ?_ | refine sa_Or ?_ | refine sa_Not ?_ | refine sa_tAnd ?_ | refine sa_tOr ?_ | refine sa_tNot ?_ | refine sa_chain ?_ | refine sa_M ?_ | refine sa_Sl ?_ | refine sa_SlN ?_ | refine sa_pN ?_ | refine sa_pE ?_ | refine sa_wE ?_ | refine sa_wR1 ?_ | refine sa_wR2 ?_ | refine sa_tYes ?_ | refine ss_nx ?_ | refine ss_seq ?_ | refine ss_asg0 ?_ | refine ss_asg1 ?_ | refine ss_asg2 ?_ | refine ss_asg3 ?_ | refine ss_asg4 ?_ | refine ss_asg5 ?_ | refine ss_asg6 ?_ | refine ss_asg7 ?_ | refine ss_asg8 ?_ | refine ss_asg9 ?_ | refine ss_asg10 ?_ | refine ss_asg11 ?_ | refine ss_asg12 ?_ | refine ss_asg13 ?_ | refine ss_asg14 ?_ | refine ss_asg15 ?_ | refine ss_expr ?_ | refine ss_ret ?_ | refine ss_retN ?_ | refine ss_if ?_ | refine ss_put ?_ | refine ss_bk ?_ | refine ss_ct ?_ | refine so_add ?_ | refine so_sub ?_ | refine so_lt ?_ | refine so_le ?_ | refine so_gt ?_ | refine so_ge ?_ | refine so_eqI ?_ | refine so_neI ?_ | refine so_eqS ?_ | refine so_neS ?_ | refine so_eqB ?_ | refine so_neB ?_ | refine so_isN ?_ | refine so_notN ?_ | refine so_len ?_ | refine so_lenT ?_ | refine so_lenC ?_ | refine so_max ?_ | refine so_min ?_ | refine so_intI ?_ | refine so_intB ?_ | refine so_ixL0 ?_ | refine so_ixL1 ?_ | refine so_ixL2 ?_ | refine so_ixL3 ?_ | refine so_ixL4 ?_ | refine so_ixL5 ?_ | refine so_ixT0 ?_ | refine so_ixT1 ?_ | refine so_ixT2 ?_ | refine so_ixT3 ?_ | refine so_ixT4 ?_ | refine so_ixT5 ?_
  | refine so_isiI_tuple ?_ | refine so_isiI_list ?_ | refine so_isiI_str ?_ | refine so_isiI_bool ?_ | refine so_isiI_int ?_ | refine so_isiS_tuple ?_ | refine so_isiS_list ?_ | refine so_isiS_str ?_ | refine so_isiS_bool ?_ | refine so_isiS_int ?_ | refine so_isiB_tuple ?_ | refine so_isiB_list ?_ | refine so_isiB_str ?_ | refine so_isiB_bool ?_ | refine so_isiB_int ?_ | refine so_isiN_tuple ?_ | refine so_isiN_list ?_ | refine so_isiN_str ?_ | refine so_isiN_bool ?_ | refine so_isiN_int ?_ | refine so_isiT_tuple ?_ | refine so_isiT_list ?_ | refine so_isiT_str ?_ | refine so_isiT_bool ?_ | refine so_isiT_int ?_ | refine so_isiL_tuple ?_ | refine so_isiL_list ?_ | refine so_isiL_str ?_ | refine so_isiL_bool ?_ | refine so_isiL_int ?_
  | refine so_mod (by decide) ?_ | refine so_mul (mulOkL (by decide)) ?_ | refine so_div (by decide) ?_ | refine so_ixR0 (by assumption) ?_ | refine so_ixR1 (by assumption) ?_ | refine so_ixR2 (by assumption) ?_ | refine so_lenR (by assumption) ?_
  | (refine so_addL (by simp only [List.length_append, List.length_cons, List.length_nil]; omega) ?_; try simp only [List.cons_append, List.nil_append])
  | refine Exists.intro _ (And.intro rfl ?_)
  | refine And.intro (show _ ≤ 16777216 by simp only [List.length_cons, List.length_nil]; omega) ?_))
local macro_rules | `(tactic| array_get_dec) => `(tactic| repeat sizeOf_list_dec)
theorem okL_app {m : Nat} : ∀ {a b : List D}, D.okL m a = true → D.okL m b = true → D.okL m (a ++ b) = true
  | [], b, _, h => h
  | x :: a, b, h, h2 => by
    simp only [List.cons_append, D.okL, Bool.and_eq_true] at h ⊢
    exact ⟨h.1, okL_app h.2 h2⟩
theorem okL_run {ds : List D} (h : ∀ d ∈ ds, D.okN 63 d = true) : D.okL 63 ds = true := by
  induction ds with
  | nil => rfl
  | cons x r ih =>
    simp only [D.okL, Bool.and_eq_true]
    exact ⟨h x (by simp), ih fun d hd => h d (by simp [hd])⟩
theorem ok_put {w : Str} (hw : IsW w) : D.okN 63 (.tup [.str (Str.ofString "put"), .str w]) = true := by
  have := hw.ok
  have e : PyData.strOk (Str.ofString "put") = true := by decide +kernel
  simp [D.okN, D.okL, this, e]
theorem ok_int (s : Str) (hs : PyData.strOk s = true) (n : Int) : D.okN 63 (.tup [.str s, .int n]) = true := by simp [D.okN, D.okL, hs]

theorem bk_pl {room first : Int} {ws : List Str} {m : Nat} (hl : ws.length ≤ 1000) : Pl (m + 3) (bookD room first ws) := by
  refine ⟨by simp only [List.length_cons, List.length_nil]; omega, fun x hx => ?_⟩
  simp only [List.mem_cons, List.not_mem_nil, or_false] at hx
  rcases hx with rfl | rfl | rfl
  · trivial
  · trivial
  · refine ⟨by simp; omega, fun y hy => ?_⟩
    obtain ⟨w, _, rfl⟩ := List.mem_map.mp hy
    trivial

theorem deed_okN {d : D} (i : IsDeed d) : D.okN 63 d = true := by
  cases i with
  | put w h => exact ok_put h
  | again n h0 h1 => exact ok_int _ (by decide +kernel) _
  | room n h0 h1 => exact ok_int _ (by decide +kernel) _
theorem can_deed {room : Int} {ws : List Str} {d : D} {r' : Int} {ws' : List Str} (c : Can room ws d r' ws') (hl : ws.length ≤ 999) : IsDeed d := by
  cases c with
  | put w h hr => exact .put w h
  | again n w h0 h1 e hr => exact .again n h0 (by omega)
  | room _ h0 h1 => exact .room _ h0 h1
/-- a deed that is refused: how, what the law's reckoning tells, how the law names it -/
inductive Bad (room first : Int) (ws : List Str) : D → D → D → D → Prop
  | heavy (w : Str) (hw : IsW w) (h : room < wt w) : Bad room first ws (.tup [.str (Str.ofString "put"), .str w]) NoRoomX (.str (Str.ofString "room")) (.tup [.str (Str.ofString "room")])
  | heavyA (n : Int) (w : Str) (h1 : 1 ≤ n) (h2 : n ≤ ws.length) (e : ws[((ws.length : Int) - n).toNat]? = some w) (h : room < wt w) : Bad room first ws (.tup [.str (Str.ofString "again"), .int n]) NoRoomX (.str (Str.ofString "room")) (.tup [.str (Str.ofString "room")])
  | far (n : Int) (h : (ws.length : Int) < n) : Bad room first ws (.tup [.str (Str.ofString "again"), .int n]) (NoWordX (first + ws.length - n)) (.int (first + ws.length - n)) (.tup [.str (Str.ofString "word"), .int (first + ws.length - n)])
theorem behind_r {room first : Int} {ws : List Str} {d : D} {h : Hm} {Q : D → Hm → Prop} (i : IsDeed d) (h0 : 0 ≤ room) (hs : Short ws) (hl : ws.length ≤ 90000)
    (q1 : ∀ r' ws', Can room ws d r' ws' → Q (bookS r' first ws') h) (q2 : ∀ x b t, Bad room first ws d x b t → Q b h) : Sat (m_law_behind [bookD room first ws, d] h) Q := by
  refine sa_fn rfl ?_
  unfold m_law_behind_b bookD
  simp only [List.map_cons, List.map_nil, List.replicate, Nat.reduceSub, List.cons_append, List.nil_append]
  with_reducible refine ss_seq ?_
  refine ss_asgT (sa_V0 ⟨_, _, rfl, rfl, ?_⟩)
  simp only [List.set_cons_zero, List.set_cons_succ]
  cases i with
  | room n h1 h2 =>
    array_get_dec
    refine ⟨fun _ => ?_, fun hc => by simp [ne_room] at hc⟩
    array_get_dec
    exact fitted h1 hs (by omega) (q1 _ _ (.room n h1 h2))
  | put w hw =>
    array_get_dec
    refine ⟨fun hc => by simp [ne_room] at hc, fun _ => ?_⟩
    array_get_dec
    refine ⟨fun hc => by simp [ne_room] at hc, fun _ => ?_⟩
    array_get_dec
    have hw2 := hw.len
    refine so_lenS (by omega) ?_
    array_get_dec
    refine ⟨fun hc => ?_, fun hc => ?_⟩
    · have hc : room < wt w := of_decide_eq_true hc
      array_get_dec
      exact q2 _ _ _ (.heavy w hw hc)
    · have hc : ¬ room < wt w := of_decide_eq_false hc
      array_get_dec
      refine so_addT (by simp; omega) ?_
      array_get_dec
      rw [show ws.map D.str ++ [.str w] = (ws ++ [w]).map D.str by simp]
      refine fitted h0 (fun z hz => ?_) (by simp; omega) (q1 _ _ (.put w hw (by omega)))
      rcases List.mem_append.mp hz with hz | hz
      · exact hs z hz
      · rw [List.mem_singleton.mp hz]; omega
  | again n h1 h2 =>
    array_get_dec
    refine ⟨fun hc => by simp [ne_room] at hc, fun _ => ?_⟩
    array_get_dec
    refine ⟨fun _ => ?_, fun hc => by simp [ne_put] at hc⟩
    array_get_dec
    rw [List.length_map]
    refine ⟨fun hc => ?_, fun hc => ?_⟩
    · have hc : 0 ≤ (ws.length : Int) - n := of_decide_eq_true hc
      array_get_dec
      rw [List.length_map]
      refine ⟨fun hc2 => ?_, fun _ => ?_⟩
      · simp at hc2
        omega
      array_get_dec
      rw [List.length_map]
      have hlt : ((ws.length : Int) - n).toNat < ws.length := by omega
      have e : ws[((ws.length : Int) - n).toNat]? = some ws[((ws.length : Int) - n).toNat] := List.getElem?_eq_getElem hlt
      generalize ws[((ws.length : Int) - n).toNat] = w at e
      have hw := hs w (List.mem_of_getElem? e)
      refine so_ixT (d := .str w) (by
        have := atI_nat (l := ws.map D.str) (i := ((ws.length : Int) - n).toNat) (x := .str w) (by rw [List.getElem?_map, e]; rfl)
        rw [show ((((ws.length : Int) - n).toNat : Nat) : Int) = (ws.length : Int) - n by omega] at this
        exact this) ?_
      array_get_dec
      refine so_lenS (by omega) ?_
      array_get_dec
      refine ⟨fun hc => ?_, fun hc => ?_⟩
      · have hc : room < wt w := of_decide_eq_true hc
        array_get_dec
        exact q2 _ _ _ (.heavyA n w h1 (by omega) e hc)
      · have hc : ¬ room < wt w := of_decide_eq_false hc
        array_get_dec
        refine so_addT (by simp; omega) ?_
        array_get_dec
        rw [show ws.map D.str ++ [.str w] = (ws ++ [w]).map D.str by simp]
        refine fitted h0 (fun z hz => ?_) (by simp; omega) (q1 _ _ (.again n w h1 (by omega) e (by omega)))
        rcases List.mem_append.mp hz with hz | hz
        · exact hs z hz
        · rw [List.mem_singleton.mp hz]; exact hw
    · have hc : ¬ 0 ≤ (ws.length : Int) - n := of_decide_eq_false hc
      array_get_dec
      refine ⟨fun _ => ?_, fun hc => nomatch hc⟩
      array_get_dec
      rw [List.length_map]
      exact q2 _ _ (.tup [.str (Str.ofString "word"), .int (first + ws.length - n)]) (Bad.far (room := room) (first := first) (ws := ws) n (by omega))

theorem Bad.kind {room first : Int} {ws : List Str} {d x b t : D} (h : Bad room first ws d x b t) : KindOf x t := by
  cases h with
  | heavy _ _ _ => exact .room
  | heavyA _ _ _ _ _ _ => exact .room
  | far n _ => exact .word _
theorem done_x {X : D → Hm → Prop} {room first : Int} {ws : List Str} {d x b t : D} {h : Hm} {Q : D → Hm → Prop} (bad : Bad room first ws d x b t) (h0 : 0 ≤ room) (hs : Short ws) (hl : ws.length ≤ 100000) (q : X x h) : SatX X (m_done_r [bookD room first ws, d] h) Q := by
  cases bad with
  | heavy w hw hr => exact done_heavy h0 hs hl (by have := hw.len; omega) hr q
  | far n hn => exact done_far hn q
  | heavyA n w h1 h2 e hr =>
    refine sa_fnX rfl ?_
    unfold m_done_r_b
    simp only [List.map_cons, List.map_nil, List.replicate, Nat.reduceSub, List.cons_append, List.nil_append]
    array_get_dec
    refine ⟨fun hc => by simp [ne_put] at hc, fun _ => ?_⟩
    array_get_dec
    refine ⟨fun _ => ?_, fun hc => by simp [ne_put] at hc⟩
    array_get_dec
    refine SatX.w (next_number ?_)
    array_get_dec
    refine word_at_r (fun w' hf e' => ?_) (fun hb => by omega)
    rw [show first + (ws.length : Int) - n - first = (ws.length : Int) - n by omega, e] at e'
    injection e' with e'
    subst e'
    array_get_dec
    exact put_in_r h0 hs hl (hs w (List.mem_of_getElem? e)) (fun h => by omega) (fun _ => q)
theorem wsl {s : St} (ok : OkS s) : s.ws.length ≤ 100 := by
  obtain ⟨h0, h1, _, h3⟩ := ok
  have := sumW_ge s.ws
  omega
theorem all_done_ok {X : D → Hm → Prop} {pre : List D} {st : Nat → St} {h : Hm} {Q : D → Hm → Prop} (hr : RunOf pre st) (hl : pre.length ≤ 1000) (q : Q (st pre.length).bk h) : SatX X (m_all_done_r [(st 0).bk, .lst pre] h) Q := by
  refine sa_fnX rfl ?_
  unfold m_all_done_r_b
  simp only [List.map_cons, List.map_nil, List.replicate, Nat.reduceSub, List.cons_append, List.nil_append]
  with_reducible refine ss_seq ?_
  refine ss_forL (l := pre) (fun i v h' => h' = h ∧ ∃ x2, v = [some (st i).bk, some (.lst pre), x2]) (by
    array_get_dec
    exact so_wkL ⟨rfl, rfl⟩) ⟨rfl, _, rfl⟩ ?_ ?_
  · rintro i x v h' hx ⟨rfl, x2, rfl⟩
    obtain ⟨r', ws', c, es⟩ := hr.step i x hx
    have hi := (List.getElem?_eq_some_iff.mp hx).1
    have ok := hr.ok i (by omega)
    have := wsl ok
    refine ⟨_, rfl, ?_⟩
    simp only [List.set_cons_zero, List.set_cons_succ]
    array_get_dec
    refine done_r c ok.1 ok.2.2.1.short (by omega) ?_
    refine ⟨rfl, some x, ?_⟩
    rw [es, nextS_bk]
  · rintro v h' ⟨rfl, x2, rfl⟩
    array_get_dec
    exact q
theorem all_done_bad {X : D → Hm → Prop} {pre more : List D} {bad x b t : D} {st : Nat → St} {h : Hm} {Q : D → Hm → Prop} (hr : RunOf pre st) (hl : pre.length + more.length ≤ 1000) (hb : Bad (st pre.length).room (st pre.length).first (st pre.length).ws bad x b t) (q : X x h) : SatX X (m_all_done_r [(st 0).bk, .lst (pre ++ bad :: more)] h) Q := by
  refine sa_fnX rfl ?_
  unfold m_all_done_r_b
  simp only [List.map_cons, List.map_nil, List.replicate, Nat.reduceSub, List.cons_append, List.nil_append]
  with_reducible refine ss_seq ?_
  refine ss_forL (l := pre ++ bad :: more) (fun i v h' => h' = h ∧ i ≤ pre.length ∧ ∃ x2, v = [some (st i).bk, some (.lst (pre ++ bad :: more)), x2]) (by
    array_get_dec
    exact so_wkL ⟨rfl, rfl⟩) ⟨rfl, Nat.zero_le _, _, rfl⟩ ?_ ?_
  · rintro i y v h' hx ⟨rfl, hi, x2, rfl⟩
    have ok := hr.ok i hi
    have := wsl ok
    refine ⟨_, rfl, ?_⟩
    simp only [List.set_cons_zero, List.set_cons_succ]
    array_get_dec
    by_cases c : i < pre.length
    · rw [List.getElem?_append_left c] at hx
      obtain ⟨r', ws', c', es⟩ := hr.step i y hx
      refine done_r c' ok.1 ok.2.2.1.short (by omega) ?_
      refine ⟨rfl, by omega, some y, ?_⟩
      rw [es, nextS_bk]
    · have ei : i = pre.length := by omega
      subst ei
      rw [List.getElem?_append_right (Nat.le_refl _), Nat.sub_self] at hx
      injection hx with hx
      subst hx
      exact done_x hb ok.1 ok.2.2.1.short (by omega) q
  · rintro v h' ⟨rfl, hi, x2, rfl⟩
    simp at hi
    omega
/-- what has been told so far, and what is due -/
inductive Due (st : Nat → St) (pre : List D) : List D → D → Prop
  | ok : Due st pre [] .non
  | bad (d x b t : D) (more : List D) (hb : Bad (st pre.length).room (st pre.length).first (st pre.length).ws d x b t) (hm : ∀ y ∈ more, IsDeed y) (hd : IsDeed d) : Due st pre (d :: more) t
theorem bad_pl {room first : Int} {ws : List Str} {d x b t : D} (h : Bad room first ws d x b t) : Pl 10 t := by
  cases h <;> refine ⟨by simp, fun y hy => ?_⟩ <;> simp only [List.mem_cons, List.not_mem_nil, or_false] at hy <;> (try rcases hy with rfl | rfl) <;> (try subst hy) <;> trivial
theorem bad_non {room first : Int} {ws : List Str} {d x b t : D} (h : Bad room first ws d x b t) : D.eqb t .non = false := by cases h <;> rfl
theorem law_pure (ns : List Int) (hn : ns.length ≤ 63) : ∃ h1, m_law [.scr ns] [] = .ok (.bl true) h1 := by
  have s : Sat (m_law [.scr ns] []) fun d _ => d = .bl true := by
    refine sa_fn rfl ?_
    unfold m_law_b
    simp only [List.map_cons, List.map_nil, List.replicate, Nat.reduceSub, List.cons_append, List.nil_append]
    array_get_dec
    refine ss_forR (max 2 (min 4 (ns.length : Int))).toNat (fun i v h => ∃ x1 x2 x3 x4 x5 x6 x7 x8 x9 x10 x11 x12 x13 x14, v = [some (.scr ns), x1, x2, x3, x4, x5, x6, x7, x8, x9, x10, x11, x12, x13, x14]) (by
      array_get_dec
      exact ⟨by omega, by omega, rfl, rfl⟩) ⟨_, _, _, _, _, _, _, _, _, _, _, _, _, _, rfl⟩ ?_ ?_
    · rintro i v h hi ⟨x1, x2, x3, x4, x5, x6, x7, x8, x9, x10, x11, x12, x13, x14, rfl⟩
      simp only [List.set_cons_zero, List.set_cons_succ]
      array_get_dec
      refine bowl_new (by omega) fun h1 w1 _ _ => ?_
      array_get_dec
      refine spoon (B := 999999999) w1 (by decide) (by decide) fun p0 h2 a1 a2 d2 => ?_
      array_get_dec
      refine spoon (B := 999999998) d2.bow (by decide) (by decide) fun p1 h3 b1 b2 d3 => ?_
      array_get_dec
      refine so_ixP (IntIn 0 201) (by
        repeat refine all_cons (.mk (by omega) (by omega)) ?_
        exact all_nil) (by omega) (by simp; omega) ?_
      rintro _ ⟨at_, rfl, t1, t2⟩
      array_get_dec
      refine spoon (B := 999999997) d3.bow (by decide) (by decide) fun p2 h4 c1 c2 d4 => ?_
      array_get_dec
      refine spoon (B := 999999996) d4.bow (by decide) (by decide) fun p3 h5 c3 c4 d5 => ?_
      array_get_dec
      refine spoon (B := 999999995) d5.bow (by decide) (by decide) fun p4 h6 c5 c6 d6 => ?_
      array_get_dec
      refine so_ixP (IntIn 0 200) (by
        repeat refine all_cons (.mk (by omega) (by omega)) ?_
        exact all_nil) (by omega) (by simp; omega) ?_
      rintro _ ⟨many, rfl, m1, m2⟩
      array_get_dec
      refine so_ixP (IntIn 5 60) (by
        repeat refine all_cons (.mk (by omega) (by omega)) ?_
        exact all_nil) (by split <;> decide) (by split <;> simp) ?_
      rintro _ ⟨top, rfl, u1, u2⟩
      array_get_dec
      refine spoon (B := 999999994) d6.bow (by omega) (by omega) fun p5 h7 e1 e2 d7 => ?_
      array_get_dec
      refine unlike (B := 999990000) (by omega) (by omega) (d7.bow.le (by omega)) fun some_ h8 hlen hsome hnd d8 => ?_
      array_get_dec
      refine book (B := 999980000) hsome (by omega) (by omega) (d8.bow.le (by omega)) fun room first0 ws h9 r0 r1 f0 f1 hws hsum _ d9 => ?_
      array_get_dec
      refine so_bk0 ?_
      array_get_dec
      refine so_bk1 ?_
      array_get_dec
      refine so_bk2 ?_
      array_get_dec
      generalize first0 + 9000 * (if decide ((ns.length : Int) % 8 = 5) = true then 1 else 0) = first
      have hb : D.tup [.int room, .int first, .tup (ws.map D.str)] = bookD room first ws := rfl
      rw [hb]
      have w9 : Bow h.length 999980000 (h9 ++ [HD.lst []]) := (d9.x.push).bow
      have e0 : (h9 ++ [HD.lst []])[h9.length]? = some (.lst []) := by simp
      have hLn : h9.length ≠ h.length := by
        have := d9.bow.lt
        have := w1.lt
        rw [d9.len, d8.len, d7.len, d6.len, d5.len, d4.len, d3.len, d2.len]
        omega
      generalize h9 ++ [HD.lst []] = hx at w9 e0
      generalize h9.length = L at e0 hLn
      generalize h.length = nb at *
      have hwl := sumW_ge ws
      refine ss_forR many.toNat (fun j v h' => ∃ (pre post : List D) (st : Nat → St) (ref : D) (x10 x11 x12 x13 x14 : Option D), v = [some (.scr ns), some (.int i), some (.ref nb), some (.int at_), some (.int many), some (.lst (some_.map D.str)), some (bookD room first ws), some (st pre.length).bk, some (.ref L), some ref, x10, x11, x12, x13, x14] ∧
          h'[L]? = some (.lst (pre ++ post)) ∧ Bow nb (999980000 - 20 * j) h' ∧ RunOf pre st ∧ st 0 = ⟨room, first, ws⟩ ∧ pre.length + post.length ≤ j ∧ Due st pre post ref) (by
        array_get_dec
        exact ⟨by omega, by omega, rfl, rfl⟩) ⟨[], [], fun _ => ⟨room, first, ws⟩, .non, _, _, _, _, _, rfl, e0, w9, ⟨fun i d e => by simp at e, fun i _ => ⟨r0, r1, hws, hsum⟩⟩, rfl, Nat.le_refl _, .ok⟩ ?_ ?_
      · rintro j v h' hj ⟨pre, post, st, ref, x10, x11, x12, x13, x14, rfl, el, wj, hrun, hst0, hpl, hdue⟩
        simp only [List.set_cons_zero, List.set_cons_succ]
        have ok := hrun.ok pre.length (Nat.le_refl _)
        have hw100 := wsl ok
        rw [show (st pre.length).bk = bookD (st pre.length).room (st pre.length).first (st pre.length).ws from rfl]
        array_get_dec
        refine deed (B := 999980000 - 20 * (j + 1)) hsome (by omega) (by omega) ok.1 ok.2.1 (by omega) (wj.le (by omega)) fun d h10 hd d10 => ?_
        have el10 := d10.at hLn el
        have Ll : L < h10.length := (List.getElem?_eq_some_iff.mp el10).1
        have hset : ∀ l, (h10.set L (.lst l))[L]? = some (.lst l) := fun l => List.getElem?_set_self Ll
        have wset : ∀ o, Bow nb (999980000 - 20 * (j + 1)) (h10.set L o) := fun o => d10.bow.of_at (List.getElem?_set_ne (by omega))
        array_get_dec
        refine behind_r hd ok.1 ok.2.2.1.short (by omega) (fun r' ws' c => ?_) (fun x b t bad => ?_)
        · have hbk : bookS r' (st pre.length).first ws' = (nextS (st pre.length) r' ws').bk := rfl
          rw [hbk]
          array_get_dec
          refine (show SatX _ (isi "tuple" (bookD _ _ _) _) _ from so_isiT_tuple ?_)
          refine ⟨_, rfl, fun _ => ?_, fun hc => nomatch hc⟩
          array_get_dec
          refine ⟨rcR el10, ?_⟩
          array_get_dec
          refine so_append el10 (by simp; omega) ?_
          cases hdue with
          | ok =>
            array_get_dec
            refine ⟨fun _ => ?_, fun hc => nomatch hc⟩
            array_get_dec
            have hr2 := run_snoc hrun c
            refine ⟨pre ++ [d], [], _, .non, some (.int j), x11, x12, some d, some (nextS (st pre.length) r' ws').bk, ?_, ?_, wset _, hr2, ?_, by simp at hpl ⊢; omega, .ok⟩
            · simp
              rw [if_neg (by omega)]
            · rw [hset]; simp
            · simp [hst0]
          | bad d0 x0 b0 t0 more hb0 hm0 hd0 =>
            array_get_dec
            refine ⟨(fun hc => absurd hc (by rw [bad_non hb0]; decide)), fun _ => ?_⟩
            with_reducible refine ss_nx ?_
            refine ⟨pre, (d0 :: more) ++ [d], st, ref, _, _, _, _, _, rfl, ?_, wset _, hrun, hst0, by simp at hpl ⊢; omega, .bad d0 x0 b0 ref (more ++ [d]) hb0 (fun y hy => ?_) hd0⟩
            · rw [hset]; simp
            · rcases List.mem_append.mp hy with hy | hy
              · exact hm0 y hy
              · rw [List.mem_singleton.mp hy]; exact hd
        · have isi0 : ∀ (Q : D → Hm → Prop), Q (.bl false) h10 → Sat (isi "tuple" b h10) Q := fun Q q => by
            cases bad with
            | heavy _ _ _ => exact ⟨q⟩
            | heavyA _ _ _ _ _ _ => exact ⟨q⟩
            | far _ _ => exact ⟨q⟩
          array_get_dec
          refine isi0 _ ?_
          refine ⟨_, rfl, (fun hc => nomatch hc), fun _ => ?_⟩
          array_get_dec
          refine ⟨fun _ => ?_, fun _ => ?_⟩
          · array_get_dec
            refine ⟨rcR el10, ?_⟩
            array_get_dec
            refine so_append el10 (by simp; omega) ?_
            cases hdue with
            | ok =>
              array_get_dec
              refine ⟨fun _ => ?_, fun hc => nomatch hc⟩
              have bad2 := bad
              cases bad with
              | heavy w hw hr =>
                array_get_dec
                rw [show decide (Str.ofString "room" = Str.ofString "room") = true by simp]
                refine ⟨fun _ => ?_, fun hc => nomatch hc⟩
                array_get_dec
                exact ⟨pre, [_], st, _, some (.int j), x11, x12, some _, some _, rfl, by rw [hset]; simp, wset _, hrun, hst0, by simp at hpl ⊢; omega, .bad _ _ _ _ [] bad2 (fun _ h => nomatch h) hd⟩
              | heavyA n w g1 g2 ge gr =>
                array_get_dec
                rw [show decide (Str.ofString "room" = Str.ofString "room") = true by simp]
                refine ⟨fun _ => ?_, fun hc => nomatch hc⟩
                array_get_dec
                exact ⟨pre, [_], st, _, some (.int j), x11, x12, some _, some _, rfl, by rw [hset]; simp, wset _, hrun, hst0, by simp at hpl ⊢; omega, .bad _ _ _ _ [] bad2 (fun _ h => nomatch h) hd⟩
              | far n hn =>
                array_get_dec
                refine (show SatX _ (opEq (.int _) (.str _) _) _ from ⟨?_⟩)
                show ∃ c, D.bl false = .bl c ∧ _
                refine ⟨_, rfl, (fun hc => nomatch hc), fun _ => ?_⟩
                array_get_dec
                exact ⟨pre, [_], st, _, some (.int j), x11, x12, some _, some _, rfl, by rw [hset]; simp, wset _, hrun, hst0, by simp at hpl ⊢; omega, .bad _ _ _ _ [] bad2 (fun _ h => nomatch h) hd⟩
            | bad d0 x0 b0 t0 more hb0 hm0 hd0 =>
              array_get_dec
              refine ⟨(fun hc => absurd hc (by rw [bad_non hb0]; decide)), fun _ => ?_⟩
              with_reducible refine ss_nx ?_
              refine ⟨pre, (d0 :: more) ++ [d], st, ref, _, _, _, _, _, rfl, ?_, wset _, hrun, hst0, by simp at hpl ⊢; omega, .bad d0 x0 b0 ref (more ++ [d]) hb0 (fun y hy => ?_) hd0⟩
              · rw [hset]; simp
              · rcases List.mem_append.mp hy with hy | hy
                · exact hm0 y hy
                · rw [List.mem_singleton.mp hy]; exact hd
          · with_reducible refine ss_nx ?_
            exact ⟨pre, post, st, ref, _, _, _, _, _, rfl, el10, d10.bow, hrun, hst0, by omega, hdue⟩
      · rintro v h' ⟨pre, post, st, ref, x10, x11, x12, x13, x14, rfl, el, wj, hrun, hst0, hpl, hdue⟩
        have eb0 : bookD room first ws = (st 0).bk := by rw [hst0]; rfl
        rw [eb0]
        have hokl : D.okL 63 (pre ++ post) = true := by
          refine okL_app (okL_run fun d hd => ?_) (okL_run fun d hd => ?_)
          · obtain ⟨k, hk⟩ := List.getElem?_of_mem hd
            obtain ⟨r', ws', c, _⟩ := hrun.step k d hk
            have := wsl (hrun.ok k (by have := (List.getElem?_eq_some_iff.mp hk).1; omega))
            exact deed_okN (can_deed c (by omega))
          · cases hdue with
            | ok => exact nomatch hd
            | bad d0 x0 b0 t0 more hb0 hm0 hd0 =>
              rcases List.mem_cons.mp hd with z | z
              · rw [z]; exact deed_okN hd0
              · exact deed_okN (hm0 _ z)
        have tail : ∀ (h2 : Hm) (x11 : Option D) (N : Ev → Hm → Prop) (T : D → Hm → Prop) (Bk G : Ev → Hm → Prop), h2[L]? = some (.lst (pre ++ post)) → N [some (.scr ns), some (.int i), some (.ref nb), some (.int at_), some (.int many), some (.lst (some_.map D.str)), some (st 0).bk, some (st pre.length).bk, some (.ref L), some ref, x10, x11, some (.lst (pre ++ post)), x13, x14] h2 → True := fun _ _ _ _ _ _ _ _ => trivial
        cases hdue with
        | ok =>
          rw [List.append_nil] at el hokl
          array_get_dec
          refine ⟨fun _ => ?_, fun hc => nomatch hc⟩
          array_get_dec
          refine so_listR el ?_
          array_get_dec
          refine sa_lam ?_
          refine kind_r ?_
          array_get_dec
          refine all_done_ok hrun (by simp at hpl; omega) ?_
          array_get_dec
          have hw100 := wsl (hrun.ok pre.length (Nat.le_refl _))
          refine same 10 _ _ _ ⟨by simp, fun y hy => ?_⟩ ?_
          · simp only [List.mem_cons, List.not_mem_nil, or_false] at hy
            rcases hy with rfl | rfl
            · trivial
            · exact bk_pl (m := 6) (room := (st pre.length).room) (first := (st pre.length).first) (ws := (st pre.length).ws) (by omega)
          array_get_dec
          refine ⟨fun _ => ?_, fun hc => nomatch hc⟩
          array_get_dec
          refine so_neSame rfl (by simp [dr, lsOf, el]) (by simp only [dr, lsOf, el]; exact hokl) ?_
          refine ⟨_, rfl, ?_⟩
          refine ⟨(fun hc => nomatch hc), fun _ => ?_⟩
          with_reducible refine ss_nx ?_
          exact ⟨_, _, _, _, _, _, _, _, _, _, _, _, _, _, rfl⟩
        | bad d0 x0 b0 t0 more hb0 hm0 hd0 =>
          array_get_dec
          refine ⟨(fun hc => absurd hc (by rw [bad_non hb0]; decide)), fun _ => ?_⟩
          array_get_dec
          refine so_listR el ?_
          array_get_dec
          refine sa_lam ?_
          refine kind_r ?_
          array_get_dec
          refine all_done_bad hrun (by simp at hpl; omega) hb0 ?_
          refine ⟨_, hb0.kind, ?_⟩
          array_get_dec
          refine same 10 _ _ _ (bad_pl hb0) ?_
          array_get_dec
          refine ⟨fun _ => ?_, fun hc => nomatch hc⟩
          array_get_dec
          refine so_neSame rfl (by simp [dr, lsOf, el]) (by simp only [dr, lsOf, el]; exact hokl) ?_
          refine ⟨_, rfl, ?_⟩
          refine ⟨(fun hc => nomatch hc), fun _ => ?_⟩
          with_reducible refine ss_nx ?_
          exact ⟨_, _, _, _, _, _, _, _, _, _, _, _, _, _, rfl⟩
    · rintro v h ⟨x1, x2, x3, x4, x5, x6, x7, x8, x9, x10, x11, x12, x13, x14, rfl⟩
      array_get_dec
      rfl
  obtain ⟨d, h1, e, rfl⟩ := s.get
  exact ⟨h1, e⟩
end Lw

/-! the walk, printed by den.py -/
set_option Elab.async false
set_option linter.all false
set_option maxRecDepth 100000
set_option maxHeartbeats 8000000
namespace Lw
open PySem PySem.Spec PyProof.Rows L2 Dn
def top (i : Nat) : Stmt := PySem.Challenge.pw_nickbook_k09_many_deeds.main.body.getD i (.Pass ⟨0, 0, 0, 0⟩)
structure Tx (mg : Str → Option Value) : Prop where
  n_ValueError : mg "ValueError" = none
  n_bool : mg "bool" = none
  n_int : mg "int" = none
  n_isinstance : mg "isinstance" = none
  n_len : mg "len" = none
  n_list : mg "list" = none
  n_max : mg "max" = none
  n_min : mg "min" = none
  n_range : mg "range" = none
  n_str : mg "str" = none
  n_sum : mg "sum" = none
  n_tuple : mg "tuple" = none
  c_WEIGHT_BESIDE : ∃ t, mg "WEIGHT_BESIDE" = some (.int 2 t)
structure Ux (P : Program) (w : World) (K : PySem.W.Frag) (mg : Str → Option Value) (base : Heap) (cl : Str → Option Addr) (tb : List (Addr × Str)) : Prop where
  tab : XTab ⟨K, cl, tb⟩
  n_BookError : XNm mg cl "BookError"
  n_NoRoom : XNm mg cl "NoRoom"
  n_NoRow : XNm mg cl "NoRow"
  n_NoWord : XNm mg cl "NoWord"
  n_Wait : XNm mg cl "Wait"
  n_NoText : XNm mg cl "NoText"
  n_Held : XNm mg cl "Held"
  n_NoTalk : XNm mg cl "NoTalk"
  n_NoDeed : XNm mg cl "NoDeed"
  x_NoRoom : XNo K mg cl "NoRoom"
  x_NoWord : XIn P w K mg base cl "NoWord" "number"
  f_at : ∀ c A, cl c = some A → PySem.W.findIn K (.ref A) "at" = some none
  f_many : ∀ c A, cl c = some A → PySem.W.findIn K (.ref A) "many" = some none
  f_need : ∀ c A, cl c = some A → PySem.W.findIn K (.ref A) "need" = some none
  f_number : ∀ c A, cl c = some A → PySem.W.findIn K (.ref A) "number" = some none
  f_talk : ∀ c A, cl c = some A → PySem.W.findIn K (.ref A) "talk" = some none
section
variable {P : Program} {w : World} {K : PySem.W.Frag} {mg : Str → Option Value} {base : Heap} {cl : Str → Option Addr} {tb : List (Addr × Str)}
abbrev s_NoWord_i : Stmt := inClass (top 4) 0
theorem sc_NoWord_i : FnScope ["self", "number"] ["self", "number"] (defScope s_NoWord_i) := ⟨rfl, rfl, rfl, by decide +kernel, rfl, by decide +kernel, by decide +kernel⟩
theorem ini_NoWord {fI A BA : Addr} {fd : FuncData} (F : Fun K "__init__" "NoWord.__init__" s_NoWord_i fI fd) (X : XCls K A) (hno : PySem.W.findIn K (.ref A) "number" = some none) (B : BIni K mg "BookError" BA) : FnOk P w K mg base CX0 1 fI fd ["self", "number"] (spIni A "number") :=
  F.ok sc_NoWord_i (fun vs H Q E h => by obtain ⟨a, y, e, _⟩ := h; subst e; rfl) fun cdv A outer s H vs Q E hr h => ⟨_, pss_cons (ps_expr (pe_bini rfl B (pa_cons (pv 0) (pa_cons pe_str pa_nil)))) (pss_one (ps_ost (pv 0) (pv 1))), ini_reads X.ox hno rfl h⟩
abbrev s_weight : Stmt := top 12
theorem sc_weight : FnScope ["word"] ["word"] (defScope s_weight) := ⟨rfl, rfl, rfl, by decide +kernel, rfl, by decide +kernel, by decide +kernel⟩
theorem ok_weight {f : Addr} {fd : FuncData} (F : Fun K "weight" "weight" s_weight f fd) (g : mg "weight" = some (.ref f)) (T : Tx mg) (U : Ux P w K mg base cl tb)  : Cal P w K mg base ⟨K, cl, tb⟩ CX0 1 "weight" ["word"] m_weight := by
  have nd := sc_weight.nd
  refine ⟨f, fd, fn_ok0 F sc_weight fun cdv A outer s H E hr => ?_, g, F.kp, (F.binds fun _ _ _ _ _ _ us hl => match us, hl with | [_], _ => rfl)⟩
  have hr0 := hr.mono (Nat.zero_le _)
  exact (dss_one (ds_ret (de_op do_add nox_add (de_callB (db_len rfl) nox_bLen (by rfl) T.n_len bt_len (da_cons (de_var 0) da_nil)) (de_gI (by rfl) T.c_WEIGHT_BESIDE))))
abbrev s_weight_of : Stmt := top 14
theorem sc_weight_of : FnScope ["words", "word"] ["words"] (defScope s_weight_of) := ⟨rfl, rfl, rfl, by decide +kernel, rfl, by decide +kernel, by decide +kernel⟩
theorem ok_weight_of {f : Addr} {fd : FuncData} (F : Fun K "weight_of" "weight_of" s_weight_of f fd) (g : mg "weight_of" = some (.ref f)) (T : Tx mg) (U : Ux P w K mg base cl tb) (c_weight : Cal P w K mg base ⟨K, cl, tb⟩ CX0 1 "weight" ["word"] m_weight) : Cal P w K mg base ⟨K, cl, tb⟩ CX0 2 "weight_of" ["words"] m_weight_of := by
  have nd := sc_weight_of.nd
  refine ⟨f, fd, fn_ok0 F sc_weight_of fun cdv A outer s H E hr => ?_, g, F.kp, (F.binds fun _ _ _ _ _ _ us hl => match us, hl with | [_], _ => rfl)⟩
  have hr0 := hr.mono (Nat.zero_le _)
  exact (dss_one (ds_ret (de_callB (db_sum rfl) nox_bSum (by rfl) T.n_sum bt_sum (da_cons (de_lc rfl nd (own := [("word", 1)]) (blkOk_by (N := ["words", "word"]) (sc := defScope s_weight_of) (by decide +kernel)) (di_e rfl (de_var 0)) (lcg_name (by decide)) (fun _ _ _ _ _ => (pg_name (i := 1) nd rfl (Or.inl rfl))) (fun _ _ _ _ _ => dts_nil) (fun _ _ _ _ _ => (de_callC c_weight hr (by decide) (by rfl) (fun _ => pass0X) (da_cons (de_var 1) da_nil)))) da_nil))))
abbrev s_next_number : Stmt := top 15
theorem sc_next_number : FnScope ["book"] ["book"] (defScope s_next_number) := ⟨rfl, rfl, rfl, by decide +kernel, rfl, by decide +kernel, by decide +kernel⟩
theorem ok_next_number {f : Addr} {fd : FuncData} (F : Fun K "next_number" "next_number" s_next_number f fd) (g : mg "next_number" = some (.ref f)) (T : Tx mg) (U : Ux P w K mg base cl tb)  : Cal P w K mg base ⟨K, cl, tb⟩ CX0 1 "next_number" ["book"] m_next_number := by
  have nd := sc_next_number.nd
  refine ⟨f, fd, fn_ok0 F sc_next_number fun cdv A outer s H E hr => ?_, g, F.kp, (F.binds fun _ _ _ _ _ _ us hl => match us, hl with | [_], _ => rfl)⟩
  have hr0 := hr.mono (Nat.zero_le _)
  exact (dss_one (ds_ret (de_op do_add nox_add (de_ix (do_ix rfl hr0) nox_ix (de_var 0) de_int (fun _ _ => rfl)) (de_callB (db_len rfl) nox_bLen (by rfl) T.n_len bt_len (da_cons (de_ix (do_ix rfl hr0) nox_ix (de_var 0) de_int (fun _ _ => rfl)) da_nil)))))
abbrev s_word_at : Stmt := top 16
theorem sc_word_at : FnScope ["book", "number", "place"] ["book", "number"] (defScope s_word_at) := ⟨rfl, rfl, rfl, by decide +kernel, rfl, by decide +kernel, by decide +kernel⟩
theorem ok_word_at {f : Addr} {fd : FuncData} (F : Fun K "word_at" "word_at" s_word_at f fd) (g : mg "word_at" = some (.ref f)) (T : Tx mg) (U : Ux P w K mg base cl tb)  : Cal P w K mg base ⟨K, cl, tb⟩ CX0 1 "word_at" ["book", "number"] m_word_at := by
  have nd := sc_word_at.nd
  refine ⟨f, fd, fn_ok0 F sc_word_at fun cdv A outer s H E hr => ?_, g, F.kp, (F.binds fun _ _ _ _ _ _ us hl => match us, hl with | [_, _], _ => rfl)⟩
  have hr0 := hr.mono (Nat.zero_le _)
  exact (dss_cons (ds_set (i := 2) nd rfl (Or.inl rfl) (de_op do_sub nox_sub (de_var 1) (de_ix (do_ix rfl hr0) nox_ix (de_var 0) de_int (fun _ _ => rfl))))
  (dss_cons (ds_if (dt_not (dt_chain do_le do_lt nox_le nox_lt de_int (de_var 2) (de_callB (db_len rfl) nox_bLen (by rfl) T.n_len bt_len (da_cons (de_ix (do_ix rfl hr0) nox_ix (de_var 0) de_int (fun _ _ => rfl)) da_nil)))) (dss_one ds_err) dss_nil)
  (dss_one (ds_ret (de_ix (do_ix rfl hr0) nox_ix (de_ix (do_ix rfl hr0) nox_ix (de_var 0) de_int (fun _ _ => rfl)) (de_var 2) (fun _ _ => rfl))))))
abbrev s_word_at_r : Stmt := top 16
theorem sc_word_at_r : FnScope ["book", "number", "place"] ["book", "number"] (defScope s_word_at_r) := ⟨rfl, rfl, rfl, by decide +kernel, rfl, by decide +kernel, by decide +kernel⟩
theorem ok_word_at_r {f : Addr} {fd : FuncData} (F : Fun K "word_at" "word_at" s_word_at_r f fd) (g : mg "word_at" = some (.ref f)) (T : Tx mg) (U : Ux P w K mg base cl tb)  : Cal P w K mg base ⟨K, cl, tb⟩ (L2.CX P w) 3 "word_at" ["book", "number"] m_word_at_r := by
  have nd := sc_word_at_r.nd
  refine ⟨f, fd, fn_okX F sc_word_at_r fun cdv A outer s H E hr tk => ?_, g, F.kp, (F.binds fun _ _ _ _ _ _ us hl => match us, hl with | [_, _], _ => rfl)⟩
  have hr0 := hr.mono (Nat.zero_le _)
  exact (dss_cons (ds_set (i := 2) nd rfl (Or.inl rfl) (de_op do_sub nox_sub (de_var 1) (de_ix (do_ix rfl hr0) nox_ix (de_var 0) de_int (fun _ _ => rfl))))
  (dss_cons (ds_if (dt_not (dt_chain do_le do_lt nox_le nox_lt de_int (de_var 2) (de_callB (db_len rfl) nox_bLen (by rfl) T.n_len bt_len (da_cons (de_ix (do_ix rfl hr0) nox_ix (de_var 0) de_int (fun _ _ => rfl)) da_nil)))) (dss_one (ds_raise1 rfl tk U.x_NoWord hr (by decide) (by rfl) (de_var 1))) dss_nil)
  (dss_one (ds_ret (de_ix (do_ix rfl hr0) nox_ix (de_ix (do_ix rfl hr0) nox_ix (de_var 0) de_int (fun _ _ => rfl)) (de_var 2) (fun _ _ => rfl))))))
abbrev s_left_in : Stmt := top 18
theorem sc_left_in : FnScope ["room", "first", "words", "going", "total"] ["room", "first", "words"] (defScope s_left_in) := ⟨rfl, rfl, rfl, by decide +kernel, rfl, by decide +kernel, by decide +kernel⟩
theorem ok_left_in {f : Addr} {fd : FuncData} (F : Fun K "left_in" "left_in" s_left_in f fd) (g : mg "left_in" = some (.ref f)) (T : Tx mg) (U : Ux P w K mg base cl tb) (c_weight_of : Cal P w K mg base ⟨K, cl, tb⟩ CX0 2 "weight_of" ["words"] m_weight_of) (c_weight : Cal P w K mg base ⟨K, cl, tb⟩ CX0 1 "weight" ["word"] m_weight) : Cal P w K mg base ⟨K, cl, tb⟩ CX0 3 "left_in" ["room", "first", "words"] m_left_in := by
  have nd := sc_left_in.nd
  refine ⟨f, fd, fn_ok0 F sc_left_in fun cdv A outer s H E hr => ?_, g, F.kp, (F.binds fun _ _ _ _ _ _ us hl => match us, hl with | [_, _, _], _ => rfl)⟩
  have hr0 := hr.mono (Nat.zero_le _)
  exact (dss_cons (ds_set (i := 3) nd rfl (Or.inl rfl) de_int)
  (dss_cons (ds_set (i := 4) nd rfl (Or.inl rfl) (de_callC c_weight_of hr (by decide) (by rfl) (fun _ => pass0X) (da_cons (de_var 2) da_nil)))
  (dss_cons (ds_while PassesOwn.never (dt_cmp do_gt nox_gt (de_var 4) (de_var 0) (nomark _)) (dss_cons (ds_set (i := 4) nd rfl (Or.inl rfl) (de_op do_sub nox_sub (de_var 4) (de_callC c_weight hr (by decide) (by rfl) (fun _ => pass0X) (da_cons (de_ix (do_ix rfl hr0) nox_ix (de_var 2) (de_var 3) (fun _ _ => rfl)) da_nil))))
  (dss_one (ds_set (i := 3) nd rfl (Or.inl rfl) (de_op do_add nox_add (de_var 3) de_int)))))
  (dss_one (ds_ret (de_tup (da_cons (de_var 0) (da_cons (de_op do_add nox_add (de_var 1) (de_var 3)) (da_cons (de_sl (de_var 2) (dp_some (de_var 3)) dp_none) da_nil)))))))))
abbrev s_put_in : Stmt := top 19
theorem sc_put_in : FnScope ["book", "word", "kept", "room", "first", "words"] ["book", "word"] (defScope s_put_in) := ⟨rfl, rfl, rfl, by decide +kernel, rfl, by decide +kernel, by decide +kernel⟩
theorem ok_put_in {f : Addr} {fd : FuncData} (F : Fun K "put_in" "put_in" s_put_in f fd) (g : mg "put_in" = some (.ref f)) (T : Tx mg) (U : Ux P w K mg base cl tb) (c_left_in : Cal P w K mg base ⟨K, cl, tb⟩ CX0 3 "left_in" ["room", "first", "words"] m_left_in) (c_weight : Cal P w K mg base ⟨K, cl, tb⟩ CX0 1 "weight" ["word"] m_weight) : Cal P w K mg base ⟨K, cl, tb⟩ CX0 4 "put_in" ["book", "word"] m_put_in := by
  have nd := sc_put_in.nd
  refine ⟨f, fd, fn_ok0 F sc_put_in fun cdv A outer s H E hr => ?_, g, F.kp, (F.binds fun _ _ _ _ _ _ us hl => match us, hl with | [_, _], _ => rfl)⟩
  have hr0 := hr.mono (Nat.zero_le _)
  exact (dss_cons (ds_asg (de_var 0) (dg_tup rfl rfl (dgn_cons (i := 3) (dgn_cons (i := 4) (dgn_cons (i := 5) dgn_nil nd rfl (Or.inl rfl)) nd rfl (Or.inl rfl)) nd rfl (Or.inl rfl))))
  (dss_cons (ds_if (dt_cmp do_gt nox_gt (de_callC c_weight hr (by decide) (by rfl) (fun _ => pass0X) (da_cons (de_var 1) da_nil)) (de_var 3) (nomark _)) (dss_one ds_err) dss_nil)
  (dss_cons (ds_set (i := 2) nd rfl (Or.inl rfl) (de_callC c_left_in hr (by decide) (by rfl) (fun _ => pass0X) (da_cons (de_op do_sub nox_sub (de_var 3) (de_callC c_weight hr (by decide) (by rfl) (fun _ => pass0X) (da_cons (de_var 1) da_nil))) (da_cons (de_var 4) (da_cons (de_var 5) da_nil)))))
  (dss_one (ds_ret (de_tup (da_cons (de_var 3) (da_cons (de_ix (do_ix rfl hr0) nox_ix (de_var 2) de_int (fun _ _ => rfl)) (da_cons (de_op do_add nox_add (de_ix (do_ix rfl hr0) nox_ix (de_var 2) de_int (fun _ _ => rfl)) (de_tup (da_cons (de_var 1) da_nil))) da_nil)))))))))
abbrev s_put_in_r : Stmt := top 19
theorem sc_put_in_r : FnScope ["book", "word", "kept", "room", "first", "words"] ["book", "word"] (defScope s_put_in_r) := ⟨rfl, rfl, rfl, by decide +kernel, rfl, by decide +kernel, by decide +kernel⟩
theorem ok_put_in_r {f : Addr} {fd : FuncData} (F : Fun K "put_in" "put_in" s_put_in_r f fd) (g : mg "put_in" = some (.ref f)) (T : Tx mg) (U : Ux P w K mg base cl tb) (c_left_in : Cal P w K mg base ⟨K, cl, tb⟩ CX0 3 "left_in" ["room", "first", "words"] m_left_in) (c_weight : Cal P w K mg base ⟨K, cl, tb⟩ CX0 1 "weight" ["word"] m_weight) : Cal P w K mg base ⟨K, cl, tb⟩ (L2.CX P w) 4 "put_in" ["book", "word"] m_put_in_r := by
  have nd := sc_put_in_r.nd
  refine ⟨f, fd, fn_okX F sc_put_in_r fun cdv A outer s H E hr tk => ?_, g, F.kp, (F.binds fun _ _ _ _ _ _ us hl => match us, hl with | [_, _], _ => rfl)⟩
  have hr0 := hr.mono (Nat.zero_le _)
  exact (dss_cons (ds_asg (de_var 0) (dg_tup rfl rfl (dgn_cons (i := 3) (dgn_cons (i := 4) (dgn_cons (i := 5) dgn_nil nd rfl (Or.inl rfl)) nd rfl (Or.inl rfl)) nd rfl (Or.inl rfl))))
  (dss_cons (ds_if (dt_cmp do_gt nox_gt (de_callC c_weight hr (by decide) (by rfl) (fun _ => pass0X) (da_cons (de_var 1) da_nil)) (de_var 3) (nomark _)) (dss_one (ds_raise0 rfl tk U.x_NoRoom (by rfl))) dss_nil)
  (dss_cons (ds_set (i := 2) nd rfl (Or.inl rfl) (de_callC c_left_in hr (by decide) (by rfl) (fun _ => pass0X) (da_cons (de_op do_sub nox_sub (de_var 3) (de_callC c_weight hr (by decide) (by rfl) (fun _ => pass0X) (da_cons (de_var 1) da_nil))) (da_cons (de_var 4) (da_cons (de_var 5) da_nil)))))
  (dss_one (ds_ret (de_tup (da_cons (de_var 3) (da_cons (de_ix (do_ix rfl hr0) nox_ix (de_var 2) de_int (fun _ _ => rfl)) (da_cons (de_op do_add nox_add (de_ix (do_ix rfl hr0) nox_ix (de_var 2) de_int (fun _ _ => rfl)) (de_tup (da_cons (de_var 1) da_nil))) da_nil)))))))))
abbrev s_done : Stmt := top 20
theorem sc_done : FnScope ["book", "deed"] ["book", "deed"] (defScope s_done) := ⟨rfl, rfl, rfl, by decide +kernel, rfl, by decide +kernel, by decide +kernel⟩
theorem ok_done {f : Addr} {fd : FuncData} (F : Fun K "done" "done" s_done f fd) (g : mg "done" = some (.ref f)) (T : Tx mg) (U : Ux P w K mg base cl tb) (c_left_in : Cal P w K mg base ⟨K, cl, tb⟩ CX0 3 "left_in" ["room", "first", "words"] m_left_in) (c_put_in : Cal P w K mg base ⟨K, cl, tb⟩ CX0 4 "put_in" ["book", "word"] m_put_in) (c_word_at : Cal P w K mg base ⟨K, cl, tb⟩ CX0 1 "word_at" ["book", "number"] m_word_at) (c_next_number : Cal P w K mg base ⟨K, cl, tb⟩ CX0 1 "next_number" ["book"] m_next_number) : Cal P w K mg base ⟨K, cl, tb⟩ CX0 5 "done" ["book", "deed"] m_done := by
  have nd := sc_done.nd
  refine ⟨f, fd, fn_ok0 F sc_done fun cdv A outer s H E hr => ?_, g, F.kp, (F.binds fun _ _ _ _ _ _ us hl => match us, hl with | [_, _], _ => rfl)⟩
  have hr0 := hr.mono (Nat.zero_le _)
  exact (dss_cons (ds_if (dt_cmp (do_eq hr0) nox_eq (de_ix (do_ix rfl hr0) nox_ix (de_var 1) de_int (fun _ _ => rfl)) de_str (nomark _)) (dss_one (ds_ret (de_callC c_put_in hr (by decide) (by rfl) (fun _ => pass0X) (da_cons (de_var 0) (da_cons (de_ix (do_ix rfl hr0) nox_ix (de_var 1) de_int (fun _ _ => rfl)) da_nil))))) dss_nil)
  (dss_cons (ds_if (dt_cmp (do_eq hr0) nox_eq (de_ix (do_ix rfl hr0) nox_ix (de_var 1) de_int (fun _ _ => rfl)) de_str (nomark _)) (dss_one (ds_ret (de_callC c_put_in hr (by decide) (by rfl) (fun _ => pass0X) (da_cons (de_var 0) (da_cons (de_callC c_word_at hr (by decide) (by rfl) (fun _ => pass0X) (da_cons (de_var 0) (da_cons (de_op do_sub nox_sub (de_callC c_next_number hr (by decide) (by rfl) (fun _ => pass0X) (da_cons (de_var 0) da_nil)) (de_ix (do_ix rfl hr0) nox_ix (de_var 1) de_int (fun _ _ => rfl))) da_nil))) da_nil))))) dss_nil)
  (dss_one (ds_ret (de_callC c_left_in hr (by decide) (by rfl) (fun _ => pass0X) (da_cons (de_ix (do_ix rfl hr0) nox_ix (de_var 1) de_int (fun _ _ => rfl)) (da_cons (de_ix (do_ix rfl hr0) nox_ix (de_var 0) de_int (fun _ _ => rfl)) (da_cons (de_ix (do_ix rfl hr0) nox_ix (de_var 0) de_int (fun _ _ => rfl)) da_nil))))))))
abbrev s_done_r : Stmt := top 20
theorem sc_done_r : FnScope ["book", "deed"] ["book", "deed"] (defScope s_done_r) := ⟨rfl, rfl, rfl, by decide +kernel, rfl, by decide +kernel, by decide +kernel⟩
theorem ok_done_r {f : Addr} {fd : FuncData} (F : Fun K "done" "done" s_done_r f fd) (g : mg "done" = some (.ref f)) (T : Tx mg) (U : Ux P w K mg base cl tb) (c_left_in : Cal P w K mg base ⟨K, cl, tb⟩ CX0 3 "left_in" ["room", "first", "words"] m_left_in) (c_put_in_r : Cal P w K mg base ⟨K, cl, tb⟩ (L2.CX P w) 4 "put_in" ["book", "word"] m_put_in_r) (c_word_at_r : Cal P w K mg base ⟨K, cl, tb⟩ (L2.CX P w) 3 "word_at" ["book", "number"] m_word_at_r) (c_next_number : Cal P w K mg base ⟨K, cl, tb⟩ CX0 1 "next_number" ["book"] m_next_number) : Cal P w K mg base ⟨K, cl, tb⟩ (L2.CX P w) 5 "done" ["book", "deed"] m_done_r := by
  have nd := sc_done_r.nd
  refine ⟨f, fd, fn_okX F sc_done_r fun cdv A outer s H E hr tk => ?_, g, F.kp, (F.binds fun _ _ _ _ _ _ us hl => match us, hl with | [_, _], _ => rfl)⟩
  have hr0 := hr.mono (Nat.zero_le _)
  exact (dss_cons (ds_if (dt_cmp (do_eq hr0) nox_eq (de_ix (do_ix rfl hr0) nox_ix (de_var 1) de_int (fun _ _ => rfl)) de_str (nomark _)) (dss_one (ds_ret (de_callC c_put_in_r hr (by decide) (by rfl) (fun σ => (passX tk σ)) (da_cons (de_var 0) (da_cons (de_ix (do_ix rfl hr0) nox_ix (de_var 1) de_int (fun _ _ => rfl)) da_nil))))) dss_nil)
  (dss_cons (ds_if (dt_cmp (do_eq hr0) nox_eq (de_ix (do_ix rfl hr0) nox_ix (de_var 1) de_int (fun _ _ => rfl)) de_str (nomark _)) (dss_one (ds_ret (de_callC c_put_in_r hr (by decide) (by rfl) (fun σ => (passX tk σ)) (da_cons (de_var 0) (da_cons (de_callC c_word_at_r hr (by decide) (by rfl) (fun σ => (passX tk σ)) (da_cons (de_var 0) (da_cons (de_op do_sub nox_sub (de_callC c_next_number hr (by decide) (by rfl) (fun _ => pass0X) (da_cons (de_var 0) da_nil)) (de_ix (do_ix rfl hr0) nox_ix (de_var 1) de_int (fun _ _ => rfl))) da_nil))) da_nil))))) dss_nil)
  (dss_one (ds_ret (de_callC c_left_in hr (by decide) (by rfl) (fun _ => pass0X) (da_cons (de_ix (do_ix rfl hr0) nox_ix (de_var 1) de_int (fun _ _ => rfl)) (da_cons (de_ix (do_ix rfl hr0) nox_ix (de_var 0) de_int (fun _ _ => rfl)) (da_cons (de_ix (do_ix rfl hr0) nox_ix (de_var 0) de_int (fun _ _ => rfl)) da_nil))))))))
abbrev s_all_done : Stmt := top 21
theorem sc_all_done : FnScope ["book", "deeds", "deed"] ["book", "deeds"] (defScope s_all_done) := ⟨rfl, rfl, rfl, by decide +kernel, rfl, by decide +kernel, by decide +kernel⟩
theorem ok_all_done {f : Addr} {fd : FuncData} (F : Fun K "all_done" "all_done" s_all_done f fd) (g : mg "all_done" = some (.ref f)) (T : Tx mg) (U : Ux P w K mg base cl tb) (c_done : Cal P w K mg base ⟨K, cl, tb⟩ CX0 5 "done" ["book", "deed"] m_done) : Cal P w K mg base ⟨K, cl, tb⟩ CX0 6 "all_done" ["book", "deeds"] m_all_done := by
  have nd := sc_all_done.nd
  refine ⟨f, fd, fn_ok0 F sc_all_done fun cdv A outer s H E hr => ?_, g, F.kp, (F.binds fun _ _ _ _ _ _ us hl => match us, hl with | [_, _], _ => rfl)⟩
  have hr0 := hr.mono (Nat.zero_le _)
  exact (dss_cons (ds_for PassesOwn.never rfl (di_e rfl (de_var 1)) (dg_name (i := 2) nd rfl (Or.inl rfl)) (dss_one (ds_set (i := 0) nd rfl (Or.inl rfl) (de_callC c_done hr (by decide) (by rfl) (fun _ => pass0X) (da_cons (de_var 0) (da_cons (de_var 2) da_nil))))))
  (dss_one (ds_ret (de_var 0))))
abbrev s_all_done_r : Stmt := top 21
theorem sc_all_done_r : FnScope ["book", "deeds", "deed"] ["book", "deeds"] (defScope s_all_done_r) := ⟨rfl, rfl, rfl, by decide +kernel, rfl, by decide +kernel, by decide +kernel⟩
theorem ok_all_done_r {f : Addr} {fd : FuncData} (F : Fun K "all_done" "all_done" s_all_done_r f fd) (g : mg "all_done" = some (.ref f)) (T : Tx mg) (U : Ux P w K mg base cl tb) (c_done_r : Cal P w K mg base ⟨K, cl, tb⟩ (L2.CX P w) 5 "done" ["book", "deed"] m_done_r) : Cal P w K mg base ⟨K, cl, tb⟩ (L2.CX P w) 6 "all_done" ["book", "deeds"] m_all_done_r := by
  have nd := sc_all_done_r.nd
  refine ⟨f, fd, fn_okX F sc_all_done_r fun cdv A outer s H E hr tk => ?_, g, F.kp, (F.binds fun _ _ _ _ _ _ us hl => match us, hl with | [_, _], _ => rfl)⟩
  have hr0 := hr.mono (Nat.zero_le _)
  exact (dss_cons (ds_for (passes_of rfl) rfl (di_e rfl (de_var 1)) (dg_name (i := 2) nd rfl (Or.inl rfl)) (dss_one (ds_set (i := 0) nd rfl (Or.inl rfl) (de_callC c_done_r hr (by decide) (by rfl) (fun σ => (passX tk σ)) (da_cons (de_var 0) (da_cons (de_var 2) da_nil))))))
  (dss_one (ds_ret (de_var 0))))
abbrev s_law_bowl : Stmt := top 23
theorem sc_law_bowl : FnScope ["script", "k", "cell", "rest"] ["script", "k"] (defScope s_law_bowl) := ⟨rfl, rfl, rfl, by decide +kernel, rfl, by decide +kernel, by decide +kernel⟩
theorem ok_law_bowl {f : Addr} {fd : FuncData} (F : Fun K "_law_bowl" "_law_bowl" s_law_bowl f fd) (g : mg "_law_bowl" = some (.ref f)) (T : Tx mg) (U : Ux P w K mg base cl tb)  : Cal P w K mg base ⟨K, cl, tb⟩ CX0 1 "_law_bowl" ["script", "k"] m_law_bowl := by
  have nd := sc_law_bowl.nd
  refine ⟨f, fd, fn_ok0 F sc_law_bowl fun cdv A outer s H E hr => ?_, g, F.kp, (F.binds fun _ _ _ _ _ _ us hl => match us, hl with | [_, _], _ => rfl)⟩
  have hr0 := hr.mono (Nat.zero_le _)
  exact (dss_cons (ds_set (i := 2) nd rfl (Or.inl rfl) (de_op do_add nox_add (de_op do_mul nox_mul de_int (de_var 1)) de_int))
  (dss_cons (ds_if (dt_cmp do_lt nox_lt (de_var 1) (de_callB (db_len rfl) nox_bLen (by rfl) T.n_len bt_len (da_cons (de_var 0) da_nil)) (nomark _)) (dss_one (ds_set (i := 2) nd rfl (Or.inl rfl) (de_ix (do_ix rfl hr0) nox_ix (de_var 0) (de_var 1) (fun _ _ => rfl)))) dss_nil)
  (dss_cons (ds_set (i := 3) nd rfl (Or.inl rfl) de_int)
  (dss_cons (ds_if (dt_cmp do_ge nox_ge (de_var 2) (de_op do_pow nox_pow de_int de_int) (nomark _)) (dss_one (ds_set (i := 3) nd rfl (Or.inl rfl) (de_op do_sub nox_sub (de_var 2) (de_op do_pow nox_pow de_int de_int)))) dss_nil)
  (dss_one (ds_ret (de_new (da_cons (de_var 3) (da_cons (de_op do_add nox_add (de_op do_mod nox_mod (de_var 2) de_int) (de_op do_mul nox_mul de_int (de_var 1))) (da_cons de_int da_nil))))))))))
abbrev s_law_spoon : Stmt := top 24
theorem sc_law_spoon : FnScope ["bowl", "many", "primes", "prime", "one", "two", "digit"] ["bowl", "many"] (defScope s_law_spoon) := ⟨rfl, rfl, rfl, by decide +kernel, rfl, by decide +kernel, by decide +kernel⟩
theorem ok_law_spoon {f : Addr} {fd : FuncData} (F : Fun K "_law_spoon" "_law_spoon" s_law_spoon f fd) (g : mg "_law_spoon" = some (.ref f)) (T : Tx mg) (U : Ux P w K mg base cl tb)  : Cal P w K mg base ⟨K, cl, tb⟩ CX0 1 "_law_spoon" ["bowl", "many"] m_law_spoon := by
  have nd := sc_law_spoon.nd
  refine ⟨f, fd, fn_ok0 F sc_law_spoon fun cdv A outer s H E hr => ?_, g, F.kp, (F.binds fun _ _ _ _ _ _ us hl => match us, hl with | [_, _], _ => rfl)⟩
  have hr0 := hr.mono (Nat.zero_le _)
  exact (dss_cons (ds_if (dt_cmp do_ge nox_ge (de_ix (do_ix rfl hr0) nox_ix (de_var 0) de_int (fun _ _ => rfl)) (de_var 1) (nomark _)) (dss_cons (ds_set (i := 6) nd rfl (Or.inl rfl) (de_op do_mod nox_mod (de_ix (do_ix rfl hr0) nox_ix (de_var 0) de_int (fun _ _ => rfl)) (de_var 1)))
  (dss_cons (ds_put hr0 (de_op do_div nox_div (de_ix (do_ix rfl hr0) nox_ix (de_var 0) de_int (fun _ _ => rfl)) (de_var 1)) (de_var 0) de_int)
  (dss_one (ds_ret (de_var 6))))) dss_nil)
  (dss_cons (ds_put hr0 (de_op do_add nox_add (de_ix (do_ix rfl hr0) nox_ix (de_var 0) de_int (fun _ _ => rfl)) de_int) (de_var 0) de_int)
  (dss_cons (ds_set (i := 2) nd rfl (Or.inl rfl) (de_lst (da_cons de_int (da_cons de_int (da_cons de_int (da_cons de_int (da_cons de_int (da_cons de_int (da_cons de_int da_nil)))))))))
  (dss_cons (ds_set (i := 2) nd rfl (Or.inl rfl) (de_op do_add nox_add (de_var 2) (de_lst (da_cons de_int da_nil))))
  (dss_cons (ds_set (i := 3) nd rfl (Or.inl rfl) (de_ix (do_ix rfl hr0) nox_ix (de_var 2) (de_op do_mod nox_mod (de_ix (do_ix rfl hr0) nox_ix (de_var 0) de_int (fun _ _ => rfl)) de_int) (fun _ _ => rfl)))
  (dss_cons (ds_set (i := 4) nd rfl (Or.inl rfl) (de_op do_add nox_add (de_op do_mul nox_mul (de_op do_mod nox_mod (de_ix (do_ix rfl hr0) nox_ix (de_var 0) de_int (fun _ _ => rfl)) (de_var 3)) (de_op do_add nox_add (de_op do_mul nox_mul de_int (de_ix (do_ix rfl hr0) nox_ix (de_var 0) de_int (fun _ _ => rfl))) de_int)) (de_op do_mul nox_mul de_int (de_ix (do_ix rfl hr0) nox_ix (de_var 0) de_int (fun _ _ => rfl)))))
  (dss_cons (ds_set (i := 4) nd rfl (Or.inl rfl) (de_op do_mod nox_mod (de_op do_pow nox_pow (de_var 4) de_int) (de_var 3)))
  (dss_cons (ds_set (i := 5) nd rfl (Or.inl rfl) (de_op do_add nox_add (de_op do_add nox_add (de_op do_mul nox_mul (de_var 4) (de_var 4)) (de_op do_mod nox_mod (de_ix (do_ix rfl hr0) nox_ix (de_var 0) de_int (fun _ _ => rfl)) de_int)) (de_ix (do_ix rfl hr0) nox_ix (de_var 0) de_int (fun _ _ => rfl))))
  (dss_one (ds_ret (de_op do_mod nox_mod (de_op do_div nox_div (de_op do_mod nox_mod (de_op do_pow nox_pow (de_var 5) de_int) (de_ix (do_ix rfl hr0) nox_ix (de_var 2) (de_op do_mod nox_mod (de_op do_add nox_add (de_ix (do_ix rfl hr0) nox_ix (de_var 0) de_int (fun _ _ => rfl)) de_int) de_int) (fun _ _ => rfl))) de_int) (de_var 1))))))))))))
abbrev s_law_word : Stmt := top 25
theorem sc_law_word : FnScope ["bowl", "way", "size", "turn"] ["bowl"] (defScope s_law_word) := ⟨rfl, rfl, rfl, by decide +kernel, rfl, by decide +kernel, by decide +kernel⟩
theorem ok_law_word {f : Addr} {fd : FuncData} (F : Fun K "_law_word" "_law_word" s_law_word f fd) (g : mg "_law_word" = some (.ref f)) (T : Tx mg) (U : Ux P w K mg base cl tb) (c_law_spoon : Cal P w K mg base ⟨K, cl, tb⟩ CX0 1 "_law_spoon" ["bowl", "many"] m_law_spoon) : Cal P w K mg base ⟨K, cl, tb⟩ CX0 2 "_law_word" ["bowl"] m_law_word := by
  have nd := sc_law_word.nd
  refine ⟨f, fd, fn_ok0 F sc_law_word fun cdv A outer s H E hr => ?_, g, F.kp, (F.binds fun _ _ _ _ _ _ us hl => match us, hl with | [_], _ => rfl)⟩
  have hr0 := hr.mono (Nat.zero_le _)
  exact (dss_cons (ds_set (i := 1) nd rfl (Or.inl rfl) (de_callC c_law_spoon hr (by decide) (by rfl) (fun _ => pass0X) (da_cons (de_var 0) (da_cons de_int da_nil))))
  (dss_cons (ds_set (i := 2) nd rfl (Or.inl rfl) (de_ix (do_ix rfl hr0) nox_ix (de_lst (da_cons de_int (da_cons de_int (da_cons de_int (da_cons de_int (da_cons (de_op do_add nox_add de_int (de_callC c_law_spoon hr (by decide) (by rfl) (fun _ => pass0X) (da_cons (de_var 0) (da_cons de_int da_nil)))) da_nil)))))) (de_var 1) (fun _ _ => rfl)))
  (dss_one (ds_ret (de_bm PySem.F.plainAttrs_str PySem.F.slot_str_join PySem.F.type_str_join dm_join nox_join de_str (da_cons (de_lc rfl nd (own := [("turn", 3)]) (blkOk_by (N := ["bowl", "way", "size", "turn"]) (sc := defScope s_law_word) (by decide +kernel)) (di_r1 (by rfl) T.n_range (de_var 2)) (lcg_name (by decide)) (fun _ _ _ _ _ => (pg_name (i := 3) nd rfl (Or.inl rfl))) (fun _ _ _ _ _ => dts_nil) (fun _ _ _ _ _ => (de_ix (do_ix rfl hr0) nox_ix de_str (de_callC c_law_spoon hr (by decide) (by rfl) (fun _ => pass0X) (da_cons (de_var 0) (da_cons de_int da_nil))) (fun _ _ => rfl)))) da_nil))))))
abbrev s_law_unlike : Stmt := top 26
theorem sc_law_unlike : FnScope ["bowl", "many", "letters", "some", "turn", "way", "word", "spare", "at", "one"] ["bowl", "many"] (defScope s_law_unlike) := ⟨rfl, rfl, rfl, by decide +kernel, rfl, by decide +kernel, by decide +kernel⟩
theorem ok_law_unlike {f : Addr} {fd : FuncData} (F : Fun K "_law_unlike" "_law_unlike" s_law_unlike f fd) (g : mg "_law_unlike" = some (.ref f)) (T : Tx mg) (U : Ux P w K mg base cl tb) (c_law_spoon : Cal P w K mg base ⟨K, cl, tb⟩ CX0 1 "_law_spoon" ["bowl", "many"] m_law_spoon) (c_law_word : Cal P w K mg base ⟨K, cl, tb⟩ CX0 2 "_law_word" ["bowl"] m_law_word) : Cal P w K mg base ⟨K, cl, tb⟩ CX0 3 "_law_unlike" ["bowl", "many"] m_law_unlike := by
  have nd := sc_law_unlike.nd
  refine Cal.tr (fm := fn0 2 10 m_law_unlike_b) ⟨f, fd, fn_ok0 F sc_law_unlike fun cdv A outer s H E hr => ?_, g, F.kp, (F.binds fun _ _ _ _ _ _ us hl => match us, hl with | [_, _], _ => rfl)⟩
  have hr0 := hr.mono (Nat.zero_le _)
  exact (dss_cons (ds_set (i := 2) nd rfl (Or.inr rfl) de_str)
  (dss_cons (ds_set (i := 3) nd rfl (Or.inr rfl) (de_new da_nil))
  (dss_cons (ds_for PassesOwn.never rfl (di_r1 (by rfl) T.n_range (de_var 1)) (dg_name (i := 4) nd rfl (Or.inl rfl)) (dss_cons (ds_set (i := 5) nd rfl (Or.inl rfl) (de_callC c_law_spoon hr (by decide) (by rfl) (fun _ => pass0X) (da_cons (de_var 0) (da_cons de_int da_nil))))
  (dss_cons (ds_set (i := 6) nd rfl (Or.inr rfl) (de_callC c_law_word hr (by decide) (by rfl) (fun _ => pass0X) (da_cons (de_var 0) da_nil)))
  (dss_cons (ds_if (dt_bool (dw_and (dt_cmp (do_eq hr0) nox_eq (de_var 5) de_int (nomark _)) (dw_and1 (dt_cmp (do_ne hr0) nox_ne (de_var 3) (de_lst da_nil) (nomark _))))) (dss_one (ds_set (i := 6) nd rfl (Or.inr rfl) (de_sl (de_ix (do_ix rfl hr0) nox_ix (de_var 3) (de_un do_neg nox_neg de_int) (fun _ _ => rfl)) dp_none (dp_some (de_op do_add nox_add de_int (de_callC c_law_spoon hr (by decide) (by rfl) (fun _ => pass0X) (da_cons (de_var 0) (da_cons (de_callB (db_len rfl) nox_bLen (by rfl) T.n_len bt_len (da_cons (de_ix (do_ix rfl hr0) nox_ix (de_var 3) (de_un do_neg nox_neg de_int) (fun _ _ => rfl)) da_nil)) da_nil)))))))) dss_nil)
  (dss_cons (ds_if (dt_bool (dw_and (dt_cmp (do_eq hr0) nox_eq (de_var 5) de_int (nomark _)) (dw_and1 (dt_cmp (do_ne hr0) nox_ne (de_var 3) (de_lst da_nil) (nomark _))))) (dss_cons (ds_set (i := 8) nd rfl (Or.inl rfl) (de_callC c_law_spoon hr (by decide) (by rfl) (fun _ => pass0X) (da_cons (de_var 0) (da_cons (de_callB (db_len rfl) nox_bLen (by rfl) T.n_len bt_len (da_cons (de_ix (do_ix rfl hr0) nox_ix (de_var 3) (de_un do_neg nox_neg de_int) (fun _ _ => rfl)) da_nil)) da_nil))))
  (dss_one (ds_set (i := 6) nd rfl (Or.inr rfl) (de_op do_add nox_add (de_op do_add nox_add (de_sl (de_ix (do_ix rfl hr0) nox_ix (de_var 3) (de_un do_neg nox_neg de_int) (fun _ _ => rfl)) dp_none (dp_some (de_var 8))) (de_ix (do_ix rfl hr0) nox_ix (de_var 6) de_int (fun _ _ => rfl))) (de_sl (de_ix (do_ix rfl hr0) nox_ix (de_var 3) (de_un do_neg nox_neg de_int) (fun _ _ => rfl)) (dp_some (de_op do_add nox_add (de_var 8) de_int)) dp_none))))) dss_nil)
  (dss_cons (ds_setLc (i := 7) rfl nd rfl rfl (sw_true rfl rfl rfl (by decide +kernel)) (own := [("at", 8)]) (blkOk_by (N := ["bowl", "many", "letters", "some", "turn", "way", "word", "spare", "at", "one"]) (sc := defScope s_law_unlike) (by decide +kernel)) (di_r1 (by rfl) T.n_range (de_op do_add nox_add (de_callB (db_len rfl) nox_bLen (by rfl) T.n_len bt_len (da_cons (de_var 3) da_nil)) de_int)) (lcg_name (by decide)) (fun _ _ _ _ _ => (pg_name (i := 8) nd rfl (Or.inl rfl))) (fun _ _ _ _ _ => dts_nil) (fun _ _ _ _ _ => (de_sl (de_op do_add nox_add (de_op do_add nox_add (de_var 6) (de_ix (do_ix rfl hr0) nox_ix (de_var 2) (de_op do_div nox_div (de_var 8) de_int) (fun _ _ => rfl))) (de_ix (do_ix rfl hr0) nox_ix (de_var 2) (de_op do_mod nox_mod (de_var 8) de_int) (fun _ _ => rfl))) (dp_some (de_un do_neg nox_neg de_int)) dp_none)))
  (dss_one (ds_expr (de_bm PySem.F.plainAttrs_list PySem.F.slot_list_append PySem.F.type_list_append dm_append nox_append (de_var 3) (da_cons (de_ix (do_ix rfl hr0) nox_ix (de_lc rfl nd (own := [("one", 9)]) (blkOk_by (N := ["bowl", "many", "letters", "some", "turn", "way", "word", "spare", "at", "one"]) (sc := defScope s_law_unlike) (by decide +kernel)) (di_e rfl (de_op do_add nox_add (de_lst (da_cons (de_var 6) da_nil)) (de_var 7))) (lcg_name (by decide)) (fun _ _ _ _ _ => (pg_name (i := 9) nd rfl (Or.inl rfl))) (fun _ _ _ _ _ => (dts_one (dt_cmp (do_notIn hr0) nox_notIn (de_var 9) (de_var 3) (by with_unfolding_all rfl)))) (fun _ _ _ _ _ => (de_var 9))) de_int (fun _ _ => rfl)) da_nil))))))))))
  (dss_one (ds_ret (de_fz (de_var 3)))))))
abbrev s_law_heavy : Stmt := top 27
theorem sc_law_heavy : FnScope ["words", "word"] ["words"] (defScope s_law_heavy) := ⟨rfl, rfl, rfl, by decide +kernel, rfl, by decide +kernel, by decide +kernel⟩
theorem ok_law_heavy {f : Addr} {fd : FuncData} (F : Fun K "_law_heavy" "_law_heavy" s_law_heavy f fd) (g : mg "_law_heavy" = some (.ref f)) (T : Tx mg) (U : Ux P w K mg base cl tb)  : Cal P w K mg base ⟨K, cl, tb⟩ CX0 1 "_law_heavy" ["words"] m_law_heavy := by
  have nd := sc_law_heavy.nd
  refine ⟨f, fd, fn_ok0 F sc_law_heavy fun cdv A outer s H E hr => ?_, g, F.kp, (F.binds fun _ _ _ _ _ _ us hl => match us, hl with | [_], _ => rfl)⟩
  have hr0 := hr.mono (Nat.zero_le _)
  exact (dss_one (ds_ret (de_callB (db_sum rfl) nox_bSum (by rfl) T.n_sum bt_sum (da_cons (de_lc rfl nd (own := [("word", 1)]) (blkOk_by (N := ["words", "word"]) (sc := defScope s_law_heavy) (by decide +kernel)) (di_e rfl (de_var 0)) (lcg_name (by decide)) (fun _ _ _ _ _ => (pg_name (i := 1) nd rfl (Or.inl rfl))) (fun _ _ _ _ _ => dts_nil) (fun _ _ _ _ _ => (de_op do_add nox_add (de_callB (db_len rfl) nox_bLen (by rfl) T.n_len bt_len (da_cons (de_var 1) da_nil)) de_int))) da_nil))))
abbrev s_law_fitted : Stmt := top 28
theorem sc_law_fitted : FnScope ["room", "first", "words", "gone"] ["room", "first", "words"] (defScope s_law_fitted) := ⟨rfl, rfl, rfl, by decide +kernel, rfl, by decide +kernel, by decide +kernel⟩
theorem ok_law_fitted {f : Addr} {fd : FuncData} (F : Fun K "_law_fitted" "_law_fitted" s_law_fitted f fd) (g : mg "_law_fitted" = some (.ref f)) (T : Tx mg) (U : Ux P w K mg base cl tb) (c_law_heavy : Cal P w K mg base ⟨K, cl, tb⟩ CX0 1 "_law_heavy" ["words"] m_law_heavy) : Cal P w K mg base ⟨K, cl, tb⟩ CX0 2 "_law_fitted" ["room", "first", "words"] m_law_fitted := by
  have nd := sc_law_fitted.nd
  refine ⟨f, fd, fn_ok0 F sc_law_fitted fun cdv A outer s H E hr => ?_, g, F.kp, (F.binds fun _ _ _ _ _ _ us hl => match us, hl with | [_, _, _], _ => rfl)⟩
  have hr0 := hr.mono (Nat.zero_le _)
  exact (dss_cons (ds_set (i := 3) nd rfl (Or.inl rfl) de_int)
  (dss_cons (ds_while PassesOwn.never (dt_cmp do_gt nox_gt (de_callC c_law_heavy hr (by decide) (by rfl) (fun _ => pass0X) (da_cons (de_sl (de_var 2) (dp_some (de_var 3)) dp_none) da_nil)) (de_var 0) (nomark _)) (dss_one (ds_set (i := 3) nd rfl (Or.inl rfl) (de_op do_add nox_add (de_var 3) de_int))))
  (dss_one (ds_ret (de_tup (da_cons (de_var 0) (da_cons (de_op do_add nox_add (de_var 1) (de_var 3)) (da_cons (de_callTy db_tuple nox_bTuple (by rfl) T.n_tuple bt_tuple (da_cons (de_sl (de_var 2) (dp_some (de_var 3)) dp_none) da_nil)) da_nil))))))))
abbrev s_law_behind : Stmt := top 29
theorem sc_law_behind : FnScope ["book", "deed", "word", "room", "first", "words"] ["book", "deed"] (defScope s_law_behind) := ⟨rfl, rfl, rfl, by decide +kernel, rfl, by decide +kernel, by decide +kernel⟩
theorem ok_law_behind {f : Addr} {fd : FuncData} (F : Fun K "_law_behind" "_law_behind" s_law_behind f fd) (g : mg "_law_behind" = some (.ref f)) (T : Tx mg) (U : Ux P w K mg base cl tb) (c_law_fitted : Cal P w K mg base ⟨K, cl, tb⟩ CX0 2 "_law_fitted" ["room", "first", "words"] m_law_fitted) : Cal P w K mg base ⟨K, cl, tb⟩ CX0 3 "_law_behind" ["book", "deed"] m_law_behind := by
  have nd := sc_law_behind.nd
  refine ⟨f, fd, fn_ok0 F sc_law_behind fun cdv A outer s H E hr => ?_, g, F.kp, (F.binds fun _ _ _ _ _ _ us hl => match us, hl with | [_, _], _ => rfl)⟩
  have hr0 := hr.mono (Nat.zero_le _)
  exact (dss_cons (ds_asg (de_var 0) (dg_tup rfl rfl (dgn_cons (i := 3) (dgn_cons (i := 4) (dgn_cons (i := 5) dgn_nil nd rfl (Or.inl rfl)) nd rfl (Or.inl rfl)) nd rfl (Or.inl rfl))))
  (dss_cons (ds_if (dt_cmp (do_eq hr0) nox_eq (de_ix (do_ix rfl hr0) nox_ix (de_var 1) de_int (fun _ _ => rfl)) de_str (nomark _)) (dss_one (ds_ret (de_callC c_law_fitted hr (by decide) (by rfl) (fun _ => pass0X) (da_cons (de_ix (do_ix rfl hr0) nox_ix (de_var 1) de_int (fun _ _ => rfl)) (da_cons (de_var 4) (da_cons (de_var 5) da_nil)))))) dss_nil)
  (dss_cons (ds_set (i := 2) nd rfl (Or.inl rfl) (de_ix (do_ix rfl hr0) nox_ix (de_var 1) de_int (fun _ _ => rfl)))
  (dss_cons (ds_if (dt_cmp (do_eq hr0) nox_eq (de_ix (do_ix rfl hr0) nox_ix (de_var 1) de_int (fun _ _ => rfl)) de_str (nomark _)) (dss_cons (ds_if (dt_not (dt_chain do_le do_lt nox_le nox_lt de_int (de_op do_sub nox_sub (de_callB (db_len rfl) nox_bLen (by rfl) T.n_len bt_len (da_cons (de_var 5) da_nil)) (de_ix (do_ix rfl hr0) nox_ix (de_var 1) de_int (fun _ _ => rfl))) (de_callB (db_len rfl) nox_bLen (by rfl) T.n_len bt_len (da_cons (de_var 5) da_nil)))) (dss_one (ds_ret (de_op do_sub nox_sub (de_op do_add nox_add (de_var 4) (de_callB (db_len rfl) nox_bLen (by rfl) T.n_len bt_len (da_cons (de_var 5) da_nil))) (de_ix (do_ix rfl hr0) nox_ix (de_var 1) de_int (fun _ _ => rfl))))) dss_nil)
  (dss_one (ds_set (i := 2) nd rfl (Or.inl rfl) (de_ix (do_ix rfl hr0) nox_ix (de_var 5) (de_op do_sub nox_sub (de_callB (db_len rfl) nox_bLen (by rfl) T.n_len bt_len (da_cons (de_var 5) da_nil)) (de_ix (do_ix rfl hr0) nox_ix (de_var 1) de_int (fun _ _ => rfl))) (fun _ _ => rfl))))) dss_nil)
  (dss_cons (ds_if (dt_cmp do_gt nox_gt (de_op do_add nox_add (de_callB (db_len rfl) nox_bLen (by rfl) T.n_len bt_len (da_cons (de_var 2) da_nil)) de_int) (de_var 3) (nomark _)) (dss_one (ds_ret de_str)) dss_nil)
  (dss_one (ds_ret (de_callC c_law_fitted hr (by decide) (by rfl) (fun _ => pass0X) (da_cons (de_var 3) (da_cons (de_var 4) (da_cons (de_op do_add nox_add (de_var 5) (de_tup (da_cons (de_var 2) da_nil))) da_nil)))))))))))
abbrev s_law_book : Stmt := top 30
theorem sc_law_book : FnScope ["bowl", "some", "way", "room", "first", "left", "words", "turn", "word"] ["bowl", "some"] (defScope s_law_book) := ⟨rfl, rfl, rfl, by decide +kernel, rfl, by decide +kernel, by decide +kernel⟩
theorem ok_law_book {f : Addr} {fd : FuncData} (F : Fun K "_law_book" "_law_book" s_law_book f fd) (g : mg "_law_book" = some (.ref f)) (T : Tx mg) (U : Ux P w K mg base cl tb) (c_law_spoon : Cal P w K mg base ⟨K, cl, tb⟩ CX0 1 "_law_spoon" ["bowl", "many"] m_law_spoon) : Cal P w K mg base ⟨K, cl, tb⟩ CX0 2 "_law_book" ["bowl", "some"] m_law_book := by
  have nd := sc_law_book.nd
  refine Cal.tr (fm := fn0 2 9 m_law_book_b) ⟨f, fd, fn_ok0 F sc_law_book fun cdv A outer s H E hr => ?_, g, F.kp, (F.binds fun _ _ _ _ _ _ us hl => match us, hl with | [_, _], _ => rfl)⟩
  have hr0 := hr.mono (Nat.zero_le _)
  exact (dss_cons (ds_set (i := 2) nd rfl (Or.inl rfl) (de_callC c_law_spoon hr (by decide) (by rfl) (fun _ => pass0X) (da_cons (de_var 0) (da_cons de_int da_nil))))
  (dss_cons (ds_set (i := 3) nd rfl (Or.inl rfl) (de_ix (do_ix rfl hr0) nox_ix (de_lst (da_cons de_int (da_cons de_int (da_cons de_int (da_cons (de_callC c_law_spoon hr (by decide) (by rfl) (fun _ => pass0X) (da_cons (de_var 0) (da_cons de_int da_nil))) (da_cons (de_op do_add nox_add de_int (de_callC c_law_spoon hr (by decide) (by rfl) (fun _ => pass0X) (da_cons (de_var 0) (da_cons de_int da_nil)))) (da_cons (de_op do_add nox_add de_int (de_callC c_law_spoon hr (by decide) (by rfl) (fun _ => pass0X) (da_cons (de_var 0) (da_cons de_int da_nil)))) da_nil))))))) (de_var 2) (fun _ _ => rfl)))
  (dss_cons (ds_set (i := 4) nd rfl (Or.inl rfl) (de_ix (do_ix rfl hr0) nox_ix (de_lst (da_cons de_int (da_cons de_int (da_cons (de_callC c_law_spoon hr (by decide) (by rfl) (fun _ => pass0X) (da_cons (de_var 0) (da_cons de_int da_nil))) (da_cons (de_callC c_law_spoon hr (by decide) (by rfl) (fun _ => pass0X) (da_cons (de_var 0) (da_cons de_int da_nil))) da_nil))))) (de_callC c_law_spoon hr (by decide) (by rfl) (fun _ => pass0X) (da_cons (de_var 0) (da_cons de_int da_nil))) (fun _ _ => rfl)))
  (dss_cons (ds_set (i := 5) nd rfl (Or.inl rfl) (de_op do_sub nox_sub (de_var 3) (de_ix (do_ix rfl hr0) nox_ix (de_lst (da_cons de_int (da_cons (de_callC c_law_spoon hr (by decide) (by rfl) (fun _ => pass0X) (da_cons (de_var 0) (da_cons (de_op do_add nox_add (de_var 3) de_int) da_nil))) da_nil))) (de_callC c_law_spoon hr (by decide) (by rfl) (fun _ => pass0X) (da_cons (de_var 0) (da_cons de_int da_nil))) (fun _ _ => rfl))))
  (dss_cons (ds_set (i := 6) nd rfl (Or.inl rfl) (de_new da_nil))
  (dss_cons (ds_for PassesOwn.never rfl (di_r1 (by rfl) T.n_range (de_callC c_law_spoon hr (by decide) (by rfl) (fun _ => pass0X) (da_cons (de_var 0) (da_cons (de_ix (do_ix rfl hr0) nox_ix (de_lst (da_cons de_int (da_cons de_int da_nil))) (de_callC c_law_spoon hr (by decide) (by rfl) (fun _ => pass0X) (da_cons (de_var 0) (da_cons de_int da_nil))) (fun _ _ => rfl)) da_nil)))) (dg_name (i := 7) nd rfl (Or.inl rfl)) (dss_cons (ds_set (i := 8) nd rfl (Or.inl rfl) (de_ix (do_ix rfl hr0) nox_ix (de_var 1) (de_callC c_law_spoon hr (by decide) (by rfl) (fun _ => pass0X) (da_cons (de_var 0) (da_cons (de_callB (db_len rfl) nox_bLen (by rfl) T.n_len bt_len (da_cons (de_var 1) da_nil)) da_nil))) (fun _ _ => rfl)))
  (dss_one (ds_if (dt_cmp do_le nox_le (de_op do_add nox_add (de_callB (db_len rfl) nox_bLen (by rfl) T.n_len bt_len (da_cons (de_var 8) da_nil)) de_int) (de_var 5) (nomark _)) (dss_cons (ds_expr (de_bm PySem.F.plainAttrs_list PySem.F.slot_list_append PySem.F.type_list_append dm_append nox_append (de_var 6) (da_cons (de_var 8) da_nil)))
  (dss_one (ds_set (i := 5) nd rfl (Or.inl rfl) (de_op do_sub nox_sub (de_op do_sub nox_sub (de_var 5) (de_callB (db_len rfl) nox_bLen (by rfl) T.n_len bt_len (da_cons (de_var 8) da_nil))) de_int)))) dss_nil))))
  (dss_one (ds_ret (de_tup (da_cons (de_var 3) (da_cons (de_var 4) (da_cons (de_callTy db_tuple nox_bTuple (by rfl) T.n_tuple bt_tuple (da_cons (de_var 6) da_nil)) da_nil))))))))))))
abbrev s_law_deed : Stmt := top 31
theorem sc_law_deed : FnScope ["bowl", "book", "some", "way", "word", "many", "rooms", "near", "far"] ["bowl", "book", "some"] (defScope s_law_deed) := ⟨rfl, rfl, rfl, by decide +kernel, rfl, by decide +kernel, by decide +kernel⟩
theorem ok_law_deed {f : Addr} {fd : FuncData} (F : Fun K "_law_deed" "_law_deed" s_law_deed f fd) (g : mg "_law_deed" = some (.ref f)) (T : Tx mg) (U : Ux P w K mg base cl tb) (c_law_spoon : Cal P w K mg base ⟨K, cl, tb⟩ CX0 1 "_law_spoon" ["bowl", "many"] m_law_spoon) : Cal P w K mg base ⟨K, cl, tb⟩ CX0 2 "_law_deed" ["bowl", "book", "some"] m_law_deed := by
  have nd := sc_law_deed.nd
  refine ⟨f, fd, fn_ok0 F sc_law_deed fun cdv A outer s H E hr => ?_, g, F.kp, (F.binds fun _ _ _ _ _ _ us hl => match us, hl with | [_, _, _], _ => rfl)⟩
  have hr0 := hr.mono (Nat.zero_le _)
  exact (dss_cons (ds_set (i := 3) nd rfl (Or.inl rfl) (de_callC c_law_spoon hr (by decide) (by rfl) (fun _ => pass0X) (da_cons (de_var 0) (da_cons de_int da_nil))))
  (dss_cons (ds_set (i := 4) nd rfl (Or.inl rfl) (de_ix (do_ix rfl hr0) nox_ix (de_var 2) (de_callC c_law_spoon hr (by decide) (by rfl) (fun _ => pass0X) (da_cons (de_var 0) (da_cons (de_callB (db_len rfl) nox_bLen (by rfl) T.n_len bt_len (da_cons (de_var 2) da_nil)) da_nil))) (fun _ _ => rfl)))
  (dss_cons (ds_set (i := 5) nd rfl (Or.inl rfl) (de_callB (db_len rfl) nox_bLen (by rfl) T.n_len bt_len (da_cons (de_ix (do_ix rfl hr0) nox_ix (de_var 1) de_int (fun _ _ => rfl)) da_nil)))
  (dss_cons (ds_if (dt_cmp do_lt nox_lt (de_var 3) de_int (nomark _)) (dss_one (ds_ret (de_tup (da_cons de_str (da_cons (de_var 4) da_nil))))) dss_nil)
  (dss_cons (ds_if (dt_cmp do_lt nox_lt (de_var 3) de_int (nomark _)) (dss_cons (ds_set (i := 7) nd rfl (Or.inl rfl) (de_lst (da_cons (de_op do_add nox_add de_int (de_callC c_law_spoon hr (by decide) (by rfl) (fun _ => pass0X) (da_cons (de_var 0) (da_cons (de_callB (db_max rfl) nox_bMax (by rfl) T.n_max bt_max (da_cons de_int (da_cons (de_var 5) da_nil))) da_nil)))) (da_cons (de_op do_add nox_add de_int (de_callC c_law_spoon hr (by decide) (by rfl) (fun _ => pass0X) (da_cons (de_var 0) (da_cons (de_op do_add nox_add (de_var 5) de_int) da_nil)))) da_nil))))
  (dss_one (ds_ret (de_tup (da_cons de_str (da_cons (de_ix (do_ix rfl hr0) nox_ix (de_var 7) (de_callTy db_int nox_bInt (by rfl) T.n_int bt_int (da_cons (de_cmp (do_eq hr0) nox_eq (de_var 3) de_int (nomark _)) da_nil)) (fun _ _ => rfl)) da_nil)))))) dss_nil)
  (dss_cons (ds_if (dt_cmp (do_eq hr0) nox_eq (de_var 3) de_int (nomark _)) (dss_cons (ds_set (i := 8) nd rfl (Or.inl rfl) (de_lst (da_cons de_int (da_cons (de_op do_add nox_add de_int (de_callC c_law_spoon hr (by decide) (by rfl) (fun _ => pass0X) (da_cons (de_var 0) (da_cons de_int da_nil)))) (da_cons (de_op do_add nox_add (de_var 5) de_int) da_nil)))))
  (dss_one (ds_ret (de_tup (da_cons de_str (da_cons (de_ix (do_ix rfl hr0) nox_ix (de_var 8) (de_callC c_law_spoon hr (by decide) (by rfl) (fun _ => pass0X) (da_cons (de_var 0) (da_cons de_int da_nil))) (fun _ _ => rfl)) da_nil)))))) dss_nil)
  (dss_cons (ds_set (i := 6) nd rfl (Or.inl rfl) (de_lst (da_cons (de_callC c_law_spoon hr (by decide) (by rfl) (fun _ => pass0X) (da_cons (de_var 0) (da_cons de_int da_nil))) (da_cons (de_callB (db_max rfl) nox_bMax (by rfl) T.n_max bt_max (da_cons de_int (da_cons (de_op do_sub nox_sub (de_ix (do_ix rfl hr0) nox_ix (de_var 1) de_int (fun _ _ => rfl)) (de_callC c_law_spoon hr (by decide) (by rfl) (fun _ => pass0X) (da_cons (de_var 0) (da_cons de_int da_nil)))) da_nil))) (da_cons (de_ix (do_ix rfl hr0) nox_ix (de_var 1) de_int (fun _ _ => rfl)) da_nil)))))
  (dss_one (ds_ret (de_tup (da_cons de_str (da_cons (de_ix (do_ix rfl hr0) nox_ix (de_var 6) (de_callC c_law_spoon hr (by decide) (by rfl) (fun _ => pass0X) (da_cons (de_var 0) (da_cons de_int da_nil))) (fun _ _ => rfl)) da_nil))))))))))))
abbrev s_law_kind : Stmt := top 32
theorem sc_law_kind : FnScope ["ask", "caught", "told", "e", "kinds"] ["ask"] (defScope s_law_kind) := ⟨rfl, rfl, rfl, by decide +kernel, rfl, by decide +kernel, by decide +kernel⟩
theorem giv_law_kind {X : Cx} {cl : Str → Option Addr} {tb : List (Addr × Str)} {g : Addr} {cdv : Value} {q : Str} (T : Tx X.mg) (U : Ux X.prog X.w X.K X.mg X.base cl tb) : Gives2 X ["ask", "caught", "told", "e", "kinds"] "_law_kind" (defScope s_law_kind) g cdv (defBody s_law_kind) "ask" q (TTd ⟨X.K, cl, tb⟩ m_law_kind_r) := by
  have nd := sc_law_kind.nd
  exact gives_kind (i1 := 1) (i2 := 2) (ie := 3) nd rfl rfl rfl rfl rfl rfl ⟨by decide, by decide⟩ U.tab rfl U.n_BookError rfl (fun s H b pn hr0 => (dss_one (ds_set (i := 1) nd rfl (Or.inl rfl) (de_var 3))))
    (fun s H hr0 => (dss_cons (ds_if (dt_cmp do_isN nox_isN (de_var 1) de_non (nomark _)) (dss_one (ds_ret (de_tup (da_cons de_str (da_cons (de_var 2) da_nil))))) dss_nil)
  (dss_cons (ds_set (i := 4) nd rfl (Or.inl rfl) (de_lst (da_cons (de_isXn U.tab rfl U.n_NoRoom (by rfl) T.n_isinstance bt_isinstance (by rfl) (de_var 1)) (da_cons (de_isXn U.tab rfl U.n_NoRow (by rfl) T.n_isinstance bt_isinstance (by rfl) (de_var 1)) (da_cons (de_isXn U.tab rfl U.n_NoWord (by rfl) T.n_isinstance bt_isinstance (by rfl) (de_var 1)) da_nil)))))
  (dss_cons (ds_set (i := 4) nd rfl (Or.inl rfl) (de_op do_add nox_add (de_var 4) (de_lst (da_cons (de_isXn U.tab rfl U.n_Wait (by rfl) T.n_isinstance bt_isinstance (by rfl) (de_var 1)) (da_cons (de_isXn U.tab rfl U.n_NoText (by rfl) T.n_isinstance bt_isinstance (by rfl) (de_var 1)) (da_cons (de_isXn U.tab rfl U.n_Held (by rfl) T.n_isinstance bt_isinstance (by rfl) (de_var 1)) da_nil))))))
  (dss_cons (ds_set (i := 4) nd rfl (Or.inl rfl) (de_op do_add nox_add (de_var 4) (de_lst (da_cons (de_isXn U.tab rfl U.n_NoTalk (by rfl) T.n_isinstance bt_isinstance (by rfl) (de_var 1)) (da_cons (de_isXn U.tab rfl U.n_NoDeed (by rfl) T.n_isinstance bt_isinstance (by rfl) (de_var 1)) da_nil)))))
  (dss_cons (ds_if (dt_bool (dw_or (dt_cmp (do_ne hr0) nox_ne (de_bm PySem.F.plainAttrs_list PySem.F.slot_list_count PySem.F.type_list_count (dm_count hr0) nox_count (de_var 4) (da_cons de_bl da_nil)) de_int (nomark _)) (dw_or1 (dt_not (dt_val (de_isVE U.tab rfl (by rfl) T.n_isinstance bt_isinstance (by rfl) T.n_ValueError bt_VE (de_var 1))))))) (dss_one (ds_ret (de_tup (da_cons de_str da_nil)))) dss_nil)
  (dss_cons (ds_if (dt_bool (dw_or (dt_val (de_ix (do_ix rfl hr0) nox_ix (de_var 4) de_int (fun _ _ => rfl))) (dw_or1 (dt_val (de_ix (do_ix rfl hr0) nox_ix (de_var 4) de_int (fun _ _ => rfl)))))) (dss_one (ds_ret (de_tup (da_cons (de_ix (do_ix rfl hr0) nox_ix (de_lst (da_cons de_str (da_cons de_str da_nil))) (de_callTy db_int nox_bInt (by rfl) T.n_int bt_int (da_cons (de_ix (do_ix rfl hr0) nox_ix (de_var 4) de_int (fun _ _ => rfl)) da_nil)) (fun _ _ => rfl)) (da_cons (de_xFld U.tab rfl U.f_number (de_var 1)) da_nil))))) dss_nil)
  (dss_cons (ds_if (dt_bool (dw_or (dt_val (de_ix (do_ix rfl hr0) nox_ix (de_var 4) de_int (fun _ _ => rfl))) (dw_or1 (dt_val (de_ix (do_ix rfl hr0) nox_ix (de_var 4) de_int (fun _ _ => rfl)))))) (dss_one (ds_ret (de_if (dt_val (de_ix (do_ix rfl hr0) nox_ix (de_var 4) de_int (fun _ _ => rfl))) (de_tup (da_cons de_str (da_cons (de_xFld U.tab rfl U.f_need (de_var 1)) da_nil))) (de_tup (da_cons de_str (da_cons (de_xFld U.tab rfl U.f_at (de_var 1)) da_nil)))))) dss_nil)
  (dss_cons (ds_if (dt_bool (dw_or (dt_val (de_ix (do_ix rfl hr0) nox_ix (de_var 4) de_int (fun _ _ => rfl))) (dw_or1 (dt_val (de_ix (do_ix rfl hr0) nox_ix (de_var 4) de_int (fun _ _ => rfl)))))) (dss_one (ds_ret (de_if (dt_val (de_ix (do_ix rfl hr0) nox_ix (de_var 4) de_int (fun _ _ => rfl))) (de_tup (da_cons de_str (da_cons (de_xFld U.tab rfl U.f_talk (de_var 1)) da_nil))) (de_tup (da_cons de_str (da_cons (de_xFld U.tab rfl U.f_many (de_var 1)) da_nil)))))) dss_nil)
  (dss_one (ds_ret (de_tup (da_cons (de_ix (do_ix rfl hr0) nox_ix (de_lst (da_cons de_str (da_cons de_str da_nil))) (de_callTy db_int nox_bInt (by rfl) T.n_int bt_int (da_cons (de_ix (do_ix rfl hr0) nox_ix (de_var 4) de_int (fun _ _ => rfl)) da_nil)) (fun _ _ => rfl)) da_nil)))))))))))))
abbrev s_law_same : Stmt := top 33
theorem sc_law_same : FnScope ["one", "other", "kinds", "others", "at"] ["one", "other"] (defScope s_law_same) := ⟨rfl, rfl, rfl, by decide +kernel, rfl, by decide +kernel, by decide +kernel⟩
theorem ok_law_same {f : Addr} {fd : FuncData} (F : Fun K "_law_same" "_law_same" s_law_same f fd) (g : mg "_law_same" = some (.ref f)) (T : Tx mg) (U : Ux P w K mg base cl tb)  : ∀ n : Nat, Cal P w K mg base ⟨K, cl, tb⟩ CX0 (1 + n) "_law_same" ["one", "other"] (m_law_same n) := by
  have nd := sc_law_same.nd
  have hb : Binds K fd ["one", "other"] [] := (F.binds fun _ _ _ _ _ _ us hl => match us, hl with | [_, _], _ => rfl)
  intro n
  induction n with
  | zero => exact ⟨f, fd, fn_err, g, F.kp, hb⟩
  | succ n ih =>
    refine ⟨f, fd, fn_ok0 (k := 1 + n) F sc_law_same fun cdv A outer s H E hr => ?_, g, F.kp, hb⟩
    have hr0 := hr.mono (Nat.zero_le _)
    exact (dss_cons (ds_set (i := 2) nd rfl (Or.inl rfl) (de_lst (da_cons (de_isi (T := "tuple") (by decide) (by rfl) T.n_isinstance bt_isinstance (by rfl) T.n_tuple bt_tuple (de_var 0)) (da_cons (de_isi (T := "list") (by decide) (by rfl) T.n_isinstance bt_isinstance (by rfl) T.n_list bt_list (de_var 0)) (da_cons (de_isi (T := "str") (by decide) (by rfl) T.n_isinstance bt_isinstance (by rfl) T.n_str bt_str (de_var 0)) (da_cons (de_isi (T := "bool") (by decide) (by rfl) T.n_isinstance bt_isinstance (by rfl) T.n_bool bt_bool (de_var 0)) da_nil))))))
  (dss_cons (ds_set (i := 2) nd rfl (Or.inl rfl) (de_op do_add nox_add (de_var 2) (de_lst (da_cons (de_cmp do_isN nox_isN (de_var 0) de_non (nomark _)) da_nil))))
  (dss_cons (ds_set (i := 3) nd rfl (Or.inl rfl) (de_lst (da_cons (de_isi (T := "tuple") (by decide) (by rfl) T.n_isinstance bt_isinstance (by rfl) T.n_tuple bt_tuple (de_var 1)) (da_cons (de_isi (T := "list") (by decide) (by rfl) T.n_isinstance bt_isinstance (by rfl) T.n_list bt_list (de_var 1)) (da_cons (de_isi (T := "str") (by decide) (by rfl) T.n_isinstance bt_isinstance (by rfl) T.n_str bt_str (de_var 1)) da_nil)))))
  (dss_cons (ds_set (i := 3) nd rfl (Or.inl rfl) (de_op do_add nox_add (de_var 3) (de_lst (da_cons (de_isi (T := "bool") (by decide) (by rfl) T.n_isinstance bt_isinstance (by rfl) T.n_bool bt_bool (de_var 1)) da_nil))))
  (dss_cons (ds_if (dt_cmp (do_ne hr0) nox_ne (de_var 2) (de_op do_add nox_add (de_var 3) (de_lst (da_cons (de_cmp do_isN nox_isN (de_var 1) de_non (nomark _)) da_nil))) (nomark _)) (dss_one (ds_ret de_bl)) dss_nil)
  (dss_cons (ds_if (dt_bool (dw_and (dt_not (dt_val (de_ix (do_ix rfl hr0) nox_ix (de_var 2) de_int (fun _ _ => rfl)))) (dw_and1 (dt_not (dt_val (de_ix (do_ix rfl hr0) nox_ix (de_var 2) de_int (fun _ _ => rfl))))))) (dss_one (ds_ret (de_cmp (do_eq hr0) nox_eq (de_var 0) (de_var 1) (nomark _)))) dss_nil)
  (dss_cons (ds_if (dt_cmp (do_ne hr0) nox_ne (de_callB (db_len rfl) nox_bLen (by rfl) T.n_len bt_len (da_cons (de_var 0) da_nil)) (de_callB (db_len rfl) nox_bLen (by rfl) T.n_len bt_len (da_cons (de_var 1) da_nil)) (nomark _)) (dss_one (ds_ret de_bl)) dss_nil)
  (dss_one (ds_ret (de_cmp (do_notIn hr0) nox_notIn de_bl (de_lc rfl nd (own := [("at", 4)]) (blkOk_by (N := ["one", "other", "kinds", "others", "at"]) (sc := defScope s_law_same) (by decide +kernel)) (di_r1 (by rfl) T.n_range (de_callB (db_len rfl) nox_bLen (by rfl) T.n_len bt_len (da_cons (de_var 0) da_nil))) (lcg_name (by decide)) (fun _ _ _ _ _ => (pg_name (i := 4) nd rfl (Or.inl rfl))) (fun _ _ _ _ _ => dts_nil) (fun _ _ _ _ _ => (de_callC ih hr (by omega) (by rfl) (fun _ => pass0X) (da_cons (de_ix (do_ix rfl hr0) nox_ix (de_var 0) (de_var 4) (fun _ _ => rfl)) (da_cons (de_ix (do_ix rfl hr0) nox_ix (de_var 1) (de_var 4) (fun _ _ => rfl)) da_nil))))) (by with_unfolding_all rfl)))))))))))
abbrev s_law : Stmt := top 34
theorem sc_law : FnScope ["script", "k", "bowl", "at", "many", "some", "begun", "book", "deeds", "refused", "turn", "due", "handed", "deed", "after"] ["script"] (defScope s_law) := ⟨rfl, rfl, rfl, by decide +kernel, rfl, by decide +kernel, by decide +kernel⟩
theorem okF_law {f cA PA : Addr} {oc kV dc pm ct : Value} {od an : Option Addr} {sl : Array (Option Value)} (lk : K.lookup f = some ⟨oc, od, .func (PySem.W.fnOf "law" "law" (defArgs s_law) (defBody s_law) (defScope s_law) .none kV dc pm an (.ref cA) ct), sl⟩) (ec : PySem.W.codeIn K (.ref cA) "law" = true) (TB : LamX.TabB base mg cA PA)
    (hT : tb = [(PA, (envOfC "law" (defScope s_law) 0 f (.ref cA)).qual ++ "<lambda>")]) (T : Tx mg) {f_law_kind : Addr} {fd_law_kind : FuncData} (F_law_kind : Fun K "_law_kind" "_law_kind" s_law_kind f_law_kind fd_law_kind) (g_law_kind : mg "_law_kind" = some (.ref f_law_kind)) (U : Ux P w K mg base cl tb) (c_law_bowl : Cal P w K mg base ⟨K, cl, tb⟩ CX0 1 "_law_bowl" ["script", "k"] m_law_bowl) (c_law_unlike : Cal P w K mg base ⟨K, cl, tb⟩ CX0 3 "_law_unlike" ["bowl", "many"] m_law_unlike) (c_law_book : Cal P w K mg base ⟨K, cl, tb⟩ CX0 2 "_law_book" ["bowl", "some"] m_law_book) (c_law_spoon : Cal P w K mg base ⟨K, cl, tb⟩ CX0 1 "_law_spoon" ["bowl", "many"] m_law_spoon) (c_law_deed : Cal P w K mg base ⟨K, cl, tb⟩ CX0 2 "_law_deed" ["bowl", "book", "some"] m_law_deed) (c_law_behind : Cal P w K mg base ⟨K, cl, tb⟩ CX0 3 "_law_behind" ["book", "deed"] m_law_behind) (c_law_same : Cal P w K mg base ⟨K, cl, tb⟩ CX0 11 "_law_same" ["one", "other"] (m_law_same 10)) (c_all_done : Cal P w K mg base ⟨K, cl, tb⟩ CX0 6 "all_done" ["book", "deeds"] m_all_done) (c_all_done_r : Cal P w K mg base ⟨K, cl, tb⟩ (L2.CX P w) 6 "all_done" ["book", "deeds"] m_all_done_r) :
    FnOk P w K mg base CX0 12 f (PySem.W.fnOf "law" "law" (defArgs s_law) (defBody s_law) (defScope s_law) .none kV dc pm an (.ref cA) ct) ["script"] (spD ⟨K, cl, tb⟩ m_law) := by
  have nd := sc_law.nd
  refine fn_okT lk ec sc_law fun A outer s H E hr => ?_
  have hr0 := hr.mono (Nat.zero_le _)
  exact (dss_cons (ds_for PassesOwn.never rfl (di_r1 (by rfl) T.n_range (de_callB (db_max rfl) nox_bMax (by rfl) T.n_max bt_max (da_cons de_int (da_cons (de_callB (db_min rfl) nox_bMin (by rfl) T.n_min bt_min (da_cons de_int (da_cons (de_callB (db_len rfl) nox_bLen (by rfl) T.n_len bt_len (da_cons (de_var 0) da_nil)) da_nil))) da_nil)))) (dg_name (i := 1) nd rfl (Or.inl rfl)) (dss_cons (ds_set (i := 2) nd rfl (Or.inl rfl) (de_callC c_law_bowl hr (by decide) (by rfl) (fun _ => pass0X) (da_cons (de_var 0) (da_cons (de_var 1) da_nil))))
  (dss_cons (ds_set (i := 3) nd rfl (Or.inl rfl) (de_ix (do_ix rfl hr0) nox_ix (de_lst (da_cons de_int (da_cons (de_callC c_law_spoon hr (by decide) (by rfl) (fun _ => pass0X) (da_cons (de_var 2) (da_cons de_int da_nil))) da_nil))) (de_callC c_law_spoon hr (by decide) (by rfl) (fun _ => pass0X) (da_cons (de_var 2) (da_cons de_int da_nil))) (fun _ _ => rfl)))
  (dss_cons (ds_set (i := 4) nd rfl (Or.inl rfl) (de_ix (do_ix rfl hr0) nox_ix (de_lst (da_cons (de_callC c_law_spoon hr (by decide) (by rfl) (fun _ => pass0X) (da_cons (de_var 2) (da_cons de_int da_nil))) (da_cons de_int (da_cons (de_callC c_law_spoon hr (by decide) (by rfl) (fun _ => pass0X) (da_cons (de_var 2) (da_cons de_int da_nil))) da_nil)))) (de_callC c_law_spoon hr (by decide) (by rfl) (fun _ => pass0X) (da_cons (de_var 2) (da_cons de_int da_nil))) (fun _ _ => rfl)))
  (dss_cons (ds_set (i := 5) nd rfl (Or.inl rfl) (de_callC c_law_unlike hr (by decide) (by rfl) (fun _ => pass0X) (da_cons (de_var 2) (da_cons (de_op do_add nox_add de_int (de_callC c_law_spoon hr (by decide) (by rfl) (fun _ => pass0X) (da_cons (de_var 2) (da_cons (de_ix (do_ix rfl hr0) nox_ix (de_lst (da_cons de_int (da_cons de_int da_nil))) (de_callTy db_int nox_bInt (by rfl) T.n_int bt_int (da_cons (de_cmp (do_eq hr0) nox_eq (de_var 1) de_int (nomark _)) da_nil)) (fun _ _ => rfl)) da_nil)))) da_nil))))
  (dss_cons (ds_set (i := 6) nd rfl (Or.inr rfl) (de_callC c_law_book hr (by decide) (by rfl) (fun _ => pass0X) (da_cons (de_var 2) (da_cons (de_var 5) da_nil))))
  (dss_cons (ds_set (i := 6) nd rfl (Or.inr rfl) (de_tup (da_cons (de_ix (do_ix rfl hr0) nox_ix (de_var 6) de_int (fun _ _ => rfl)) (da_cons (de_op do_add nox_add (de_ix (do_ix rfl hr0) nox_ix (de_var 6) de_int (fun _ _ => rfl)) (de_op do_mul nox_mul de_int (de_callTy db_int nox_bInt (by rfl) T.n_int bt_int (da_cons (de_cmp (do_eq hr0) nox_eq (de_op do_mod nox_mod (de_callB (db_len rfl) nox_bLen (by rfl) T.n_len bt_len (da_cons (de_var 0) da_nil)) de_int) de_int (nomark _)) da_nil)))) (da_cons (de_ix (do_ix rfl hr0) nox_ix (de_var 6) de_int (fun _ _ => rfl)) da_nil)))))
  (dss_cons (ds_set (i := 7) nd rfl (Or.inl rfl) (de_var 6))
  (dss_cons (ds_set (i := 8) nd rfl (Or.inl rfl) (de_new da_nil))
  (dss_cons (ds_set (i := 9) nd rfl (Or.inl rfl) de_non)
  (dss_cons (ds_for PassesOwn.never rfl (di_r1 (by rfl) T.n_range (de_var 4)) (dg_name (i := 10) nd rfl (Or.inl rfl)) (dss_cons (ds_set (i := 13) nd rfl (Or.inl rfl) (de_callC c_law_deed hr (by decide) (by rfl) (fun _ => pass0X) (da_cons (de_var 2) (da_cons (de_var 7) (da_cons (de_var 5) da_nil)))))
  (dss_cons (ds_set (i := 14) nd rfl (Or.inl rfl) (de_callC c_law_behind hr (by decide) (by rfl) (fun _ => pass0X) (da_cons (de_var 7) (da_cons (de_var 13) da_nil))))
  (dss_one (ds_if (dt_val (de_isi (T := "tuple") (by decide) (by rfl) T.n_isinstance bt_isinstance (by rfl) T.n_tuple bt_tuple (de_var 14))) (dss_cons (ds_expr (de_bm PySem.F.plainAttrs_list PySem.F.slot_list_append PySem.F.type_list_append dm_append nox_append (de_var 8) (da_cons (de_var 13) da_nil)))
  (dss_one (ds_if (dt_cmp do_isN nox_isN (de_var 9) de_non (nomark _)) (dss_one (ds_set (i := 7) nd rfl (Or.inl rfl) (de_var 14))) dss_nil))) (dss_one (ds_if (dt_cmp do_ge nox_ge (de_var 10) (de_var 3) (nomark _)) (dss_cons (ds_expr (de_bm PySem.F.plainAttrs_list PySem.F.slot_list_append PySem.F.type_list_append dm_append nox_append (de_var 8) (da_cons (de_var 13) da_nil)))
  (dss_one (ds_if (dt_cmp do_isN nox_isN (de_var 9) de_non (nomark _)) (dss_one (ds_set (i := 9) nd rfl (Or.inl rfl) (de_if (dt_cmp (do_eq hr0) nox_eq (de_var 14) de_str (nomark _)) (de_tup (da_cons de_str da_nil)) (de_tup (da_cons de_str (da_cons (de_var 14) da_nil)))))) dss_nil))) dss_nil)))))))
  (dss_cons (ds_set (i := 11) nd rfl (Or.inl rfl) (de_if (dt_cmp do_isN nox_isN (de_var 9) de_non (nomark _)) (de_tup (da_cons de_str (da_cons (de_var 7) da_nil))) (de_var 9)))
  (dss_cons (ds_set (i := 12) nd rfl (Or.inr rfl) (de_callTy db_list nox_bList (by rfl) T.n_list bt_list (da_cons (de_var 8) da_nil)))
  (dss_one (ds_if (dt_bool (dw_or (dt_not (dt_val (de_callC c_law_same hr (by decide) (by rfl) (fun _ => pass0X) (da_cons (de_lam (k := 6) F_law_kind g_law_kind (F_law_kind.binds fun _ _ _ _ _ _ us hl => match us, hl with | [_], _ => rfl) sc_law_kind rfl (Or.inl rfl) (fun cdv q => giv_law_kind T U) (fun _ => nox_fnA _ _) TB rfl hT hr (by decide) (by rfl) (LamX.lamS_by (sc := defScope s_law) (by decide +kernel)) rfl (fun _ _ _ _ _ => rfl) (fun A outer s H E f c' hr => (de_callC c_all_done_r hr (by decide) (by rfl) (fun σ => (passL σ)) (da_cons (de_var 6) (da_cons (de_var 12) da_nil))))) (da_cons (de_var 11) da_nil))))) (dw_or1 (dt_cmp (do_ne hr0) nox_ne (de_var 12) (de_var 8) (nomark _))))) (dss_one (ds_ret de_bl)) dss_nil)))))))))))))))
  (dss_one (ds_ret de_bl)))
end

end Lw

/-! the end, printed by den.py -/
set_option Elab.async false
set_option linter.all false
set_option maxRecDepth 100000
set_option maxHeartbeats 8000000
namespace Lw
open PySem PySem.Spec PyProof.Rows L2 Dn
theorem all_mk {l : PySem.W.OpenLaw} {w : World} {K : PySem.W.Frag} {h : Heap} {mg : Str → Option Value} {fa : Addr} (X : K.In h) (G : h.Ns mainGlobals mg) (hfa : mg "law" = some (.ref fa)) (tabs : ∀ c P, PySem.W.tabIn K "law" = some (c, P) → PySem.W.CodeHd h c P ∧ h.get? P = some { cls := .none, data := .fields #[] })
    {f1 f2 f3 f4 f5 f6 f7 f8 f9 f10 f11 f12 f13 f14 f15 f16 f17 f18 f19 f20 f21 f22 f23 f24 : Addr} {od1 an1 od2 an2 od3 an3 od4 an4 od5 an5 od6 an6 od7 an7 od8 an8 od9 an9 od10 an10 od11 an11 od12 an12 od13 an13 od14 an14 od15 an15 od16 an16 od17 an17 od18 an18 od19 an19 od20 an20 od21 an21 od22 an22 od23 an23 od24 an24 : Option Addr} {sl1 sl2 sl3 sl4 sl5 sl6 sl7 sl8 sl9 sl10 sl11 sl12 sl13 sl14 sl15 sl16 sl17 sl18 sl19 sl20 sl21 sl22 sl23 sl24 : Array (Option Value)} {oc1 kV1 dc1 pm1 cd1 ct1 oc2 kV2 dc2 pm2 cd2 ct2 oc3 kV3 dc3 pm3 cd3 ct3 oc4 kV4 dc4 pm4 cd4 ct4 oc5 kV5 dc5 pm5 cd5 ct5 oc6 kV6 dc6 pm6 cd6 ct6 oc7 kV7 dc7 pm7 cd7 ct7 oc8 kV8 dc8 pm8 cd8 ct8 oc9 kV9 dc9 pm9 cd9 ct9 oc10 kV10 dc10 pm10 cd10 ct10 oc11 kV11 dc11 pm11 cd11 ct11 oc12 kV12 dc12 pm12 cd12 ct12 oc13 kV13 dc13 pm13 cd13 ct13 oc14 kV14 dc14 pm14 cd14 ct14 oc15 kV15 dc15 pm15 cd15 ct15 oc16 kV16 dc16 pm16 cd16 ct16 oc17 kV17 dc17 pm17 cd17 ct17 oc18 kV18 dc18 pm18 cd18 ct18 oc19 kV19 dc19 pm19 cd19 ct19 oc20 kV20 dc20 pm20 cd20 ct20 oc21 kV21 dc21 pm21 cd21 ct21 oc22 kV22 dc22 pm22 cd22 ct22 oc23 kV23 dc23 pm23 cd23 ct23 oc24 kV24 dc24 pm24 cd24 ct24 : Value} {t_WEIGHT_BESIDE : Tok} {A_BookError A_NoRoom A_NoRow A_NoWord A_Wait A_NoText A_Held A_NoTalk A_NoDeed : Addr} {fI_NoWord : Addr} {od_NoWord an_NoWord : Option Addr} {sl_NoWord : Array (Option Value)} {oc_NoWord kV_NoWord dc_NoWord pm_NoWord cd_NoWord ct_NoWord : Value}
    (a1 : PySem.W.nsIn K mainGlobals "weight" = some (some (.ref f1))) (l1 : K.lookup f1 = some ⟨oc1, od1, .func (PySem.W.fnOf "weight" "weight" (defArgs s_weight) (defBody s_weight) (defScope s_weight) .none kV1 dc1 pm1 an1 cd1 ct1), sl1⟩) (e1 : PySem.W.codeIn K cd1 "weight" = true) (k1 : PySem.W.keepIn K (.ref f1) = true)
    (a2 : PySem.W.nsIn K mainGlobals "weight_of" = some (some (.ref f2))) (l2 : K.lookup f2 = some ⟨oc2, od2, .func (PySem.W.fnOf "weight_of" "weight_of" (defArgs s_weight_of) (defBody s_weight_of) (defScope s_weight_of) .none kV2 dc2 pm2 an2 cd2 ct2), sl2⟩) (e2 : PySem.W.codeIn K cd2 "weight_of" = true) (k2 : PySem.W.keepIn K (.ref f2) = true)
    (a3 : PySem.W.nsIn K mainGlobals "next_number" = some (some (.ref f3))) (l3 : K.lookup f3 = some ⟨oc3, od3, .func (PySem.W.fnOf "next_number" "next_number" (defArgs s_next_number) (defBody s_next_number) (defScope s_next_number) .none kV3 dc3 pm3 an3 cd3 ct3), sl3⟩) (e3 : PySem.W.codeIn K cd3 "next_number" = true) (k3 : PySem.W.keepIn K (.ref f3) = true)
    (a4 : PySem.W.nsIn K mainGlobals "word_at" = some (some (.ref f4))) (l4 : K.lookup f4 = some ⟨oc4, od4, .func (PySem.W.fnOf "word_at" "word_at" (defArgs s_word_at) (defBody s_word_at) (defScope s_word_at) .none kV4 dc4 pm4 an4 cd4 ct4), sl4⟩) (e4 : PySem.W.codeIn K cd4 "word_at" = true) (k4 : PySem.W.keepIn K (.ref f4) = true)
    (a5 : PySem.W.nsIn K mainGlobals "word_at" = some (some (.ref f5))) (l5 : K.lookup f5 = some ⟨oc5, od5, .func (PySem.W.fnOf "word_at" "word_at" (defArgs s_word_at_r) (defBody s_word_at_r) (defScope s_word_at_r) .none kV5 dc5 pm5 an5 cd5 ct5), sl5⟩) (e5 : PySem.W.codeIn K cd5 "word_at" = true) (k5 : PySem.W.keepIn K (.ref f5) = true)
    (a6 : PySem.W.nsIn K mainGlobals "left_in" = some (some (.ref f6))) (l6 : K.lookup f6 = some ⟨oc6, od6, .func (PySem.W.fnOf "left_in" "left_in" (defArgs s_left_in) (defBody s_left_in) (defScope s_left_in) .none kV6 dc6 pm6 an6 cd6 ct6), sl6⟩) (e6 : PySem.W.codeIn K cd6 "left_in" = true) (k6 : PySem.W.keepIn K (.ref f6) = true)
    (a7 : PySem.W.nsIn K mainGlobals "put_in" = some (some (.ref f7))) (l7 : K.lookup f7 = some ⟨oc7, od7, .func (PySem.W.fnOf "put_in" "put_in" (defArgs s_put_in) (defBody s_put_in) (defScope s_put_in) .none kV7 dc7 pm7 an7 cd7 ct7), sl7⟩) (e7 : PySem.W.codeIn K cd7 "put_in" = true) (k7 : PySem.W.keepIn K (.ref f7) = true)
    (a8 : PySem.W.nsIn K mainGlobals "put_in" = some (some (.ref f8))) (l8 : K.lookup f8 = some ⟨oc8, od8, .func (PySem.W.fnOf "put_in" "put_in" (defArgs s_put_in_r) (defBody s_put_in_r) (defScope s_put_in_r) .none kV8 dc8 pm8 an8 cd8 ct8), sl8⟩) (e8 : PySem.W.codeIn K cd8 "put_in" = true) (k8 : PySem.W.keepIn K (.ref f8) = true)
    (a9 : PySem.W.nsIn K mainGlobals "done" = some (some (.ref f9))) (l9 : K.lookup f9 = some ⟨oc9, od9, .func (PySem.W.fnOf "done" "done" (defArgs s_done) (defBody s_done) (defScope s_done) .none kV9 dc9 pm9 an9 cd9 ct9), sl9⟩) (e9 : PySem.W.codeIn K cd9 "done" = true) (k9 : PySem.W.keepIn K (.ref f9) = true)
    (a10 : PySem.W.nsIn K mainGlobals "done" = some (some (.ref f10))) (l10 : K.lookup f10 = some ⟨oc10, od10, .func (PySem.W.fnOf "done" "done" (defArgs s_done_r) (defBody s_done_r) (defScope s_done_r) .none kV10 dc10 pm10 an10 cd10 ct10), sl10⟩) (e10 : PySem.W.codeIn K cd10 "done" = true) (k10 : PySem.W.keepIn K (.ref f10) = true)
    (a11 : PySem.W.nsIn K mainGlobals "all_done" = some (some (.ref f11))) (l11 : K.lookup f11 = some ⟨oc11, od11, .func (PySem.W.fnOf "all_done" "all_done" (defArgs s_all_done) (defBody s_all_done) (defScope s_all_done) .none kV11 dc11 pm11 an11 cd11 ct11), sl11⟩) (e11 : PySem.W.codeIn K cd11 "all_done" = true) (k11 : PySem.W.keepIn K (.ref f11) = true)
    (a12 : PySem.W.nsIn K mainGlobals "all_done" = some (some (.ref f12))) (l12 : K.lookup f12 = some ⟨oc12, od12, .func (PySem.W.fnOf "all_done" "all_done" (defArgs s_all_done_r) (defBody s_all_done_r) (defScope s_all_done_r) .none kV12 dc12 pm12 an12 cd12 ct12), sl12⟩) (e12 : PySem.W.codeIn K cd12 "all_done" = true) (k12 : PySem.W.keepIn K (.ref f12) = true)
    (a13 : PySem.W.nsIn K mainGlobals "_law_bowl" = some (some (.ref f13))) (l13 : K.lookup f13 = some ⟨oc13, od13, .func (PySem.W.fnOf "_law_bowl" "_law_bowl" (defArgs s_law_bowl) (defBody s_law_bowl) (defScope s_law_bowl) .none kV13 dc13 pm13 an13 cd13 ct13), sl13⟩) (e13 : PySem.W.codeIn K cd13 "_law_bowl" = true) (k13 : PySem.W.keepIn K (.ref f13) = true)
    (a14 : PySem.W.nsIn K mainGlobals "_law_spoon" = some (some (.ref f14))) (l14 : K.lookup f14 = some ⟨oc14, od14, .func (PySem.W.fnOf "_law_spoon" "_law_spoon" (defArgs s_law_spoon) (defBody s_law_spoon) (defScope s_law_spoon) .none kV14 dc14 pm14 an14 cd14 ct14), sl14⟩) (e14 : PySem.W.codeIn K cd14 "_law_spoon" = true) (k14 : PySem.W.keepIn K (.ref f14) = true)
    (a15 : PySem.W.nsIn K mainGlobals "_law_word" = some (some (.ref f15))) (l15 : K.lookup f15 = some ⟨oc15, od15, .func (PySem.W.fnOf "_law_word" "_law_word" (defArgs s_law_word) (defBody s_law_word) (defScope s_law_word) .none kV15 dc15 pm15 an15 cd15 ct15), sl15⟩) (e15 : PySem.W.codeIn K cd15 "_law_word" = true) (k15 : PySem.W.keepIn K (.ref f15) = true)
    (a16 : PySem.W.nsIn K mainGlobals "_law_unlike" = some (some (.ref f16))) (l16 : K.lookup f16 = some ⟨oc16, od16, .func (PySem.W.fnOf "_law_unlike" "_law_unlike" (defArgs s_law_unlike) (defBody s_law_unlike) (defScope s_law_unlike) .none kV16 dc16 pm16 an16 cd16 ct16), sl16⟩) (e16 : PySem.W.codeIn K cd16 "_law_unlike" = true) (k16 : PySem.W.keepIn K (.ref f16) = true)
    (a17 : PySem.W.nsIn K mainGlobals "_law_heavy" = some (some (.ref f17))) (l17 : K.lookup f17 = some ⟨oc17, od17, .func (PySem.W.fnOf "_law_heavy" "_law_heavy" (defArgs s_law_heavy) (defBody s_law_heavy) (defScope s_law_heavy) .none kV17 dc17 pm17 an17 cd17 ct17), sl17⟩) (e17 : PySem.W.codeIn K cd17 "_law_heavy" = true) (k17 : PySem.W.keepIn K (.ref f17) = true)
    (a18 : PySem.W.nsIn K mainGlobals "_law_fitted" = some (some (.ref f18))) (l18 : K.lookup f18 = some ⟨oc18, od18, .func (PySem.W.fnOf "_law_fitted" "_law_fitted" (defArgs s_law_fitted) (defBody s_law_fitted) (defScope s_law_fitted) .none kV18 dc18 pm18 an18 cd18 ct18), sl18⟩) (e18 : PySem.W.codeIn K cd18 "_law_fitted" = true) (k18 : PySem.W.keepIn K (.ref f18) = true)
    (a19 : PySem.W.nsIn K mainGlobals "_law_behind" = some (some (.ref f19))) (l19 : K.lookup f19 = some ⟨oc19, od19, .func (PySem.W.fnOf "_law_behind" "_law_behind" (defArgs s_law_behind) (defBody s_law_behind) (defScope s_law_behind) .none kV19 dc19 pm19 an19 cd19 ct19), sl19⟩) (e19 : PySem.W.codeIn K cd19 "_law_behind" = true) (k19 : PySem.W.keepIn K (.ref f19) = true)
    (a20 : PySem.W.nsIn K mainGlobals "_law_book" = some (some (.ref f20))) (l20 : K.lookup f20 = some ⟨oc20, od20, .func (PySem.W.fnOf "_law_book" "_law_book" (defArgs s_law_book) (defBody s_law_book) (defScope s_law_book) .none kV20 dc20 pm20 an20 cd20 ct20), sl20⟩) (e20 : PySem.W.codeIn K cd20 "_law_book" = true) (k20 : PySem.W.keepIn K (.ref f20) = true)
    (a21 : PySem.W.nsIn K mainGlobals "_law_deed" = some (some (.ref f21))) (l21 : K.lookup f21 = some ⟨oc21, od21, .func (PySem.W.fnOf "_law_deed" "_law_deed" (defArgs s_law_deed) (defBody s_law_deed) (defScope s_law_deed) .none kV21 dc21 pm21 an21 cd21 ct21), sl21⟩) (e21 : PySem.W.codeIn K cd21 "_law_deed" = true) (k21 : PySem.W.keepIn K (.ref f21) = true)
    (a22 : PySem.W.nsIn K mainGlobals "_law_kind" = some (some (.ref f22))) (l22 : K.lookup f22 = some ⟨oc22, od22, .func (PySem.W.fnOf "_law_kind" "_law_kind" (defArgs s_law_kind) (defBody s_law_kind) (defScope s_law_kind) .none kV22 dc22 pm22 an22 cd22 ct22), sl22⟩) (e22 : PySem.W.codeIn K cd22 "_law_kind" = true) (k22 : PySem.W.keepIn K (.ref f22) = true)
    (a23 : PySem.W.nsIn K mainGlobals "_law_same" = some (some (.ref f23))) (l23 : K.lookup f23 = some ⟨oc23, od23, .func (PySem.W.fnOf "_law_same" "_law_same" (defArgs s_law_same) (defBody s_law_same) (defScope s_law_same) .none kV23 dc23 pm23 an23 cd23 ct23), sl23⟩) (e23 : PySem.W.codeIn K cd23 "_law_same" = true) (k23 : PySem.W.keepIn K (.ref f23) = true)
    (a24 : PySem.W.nsIn K mainGlobals "law" = some (some (.ref f24))) (l24 : K.lookup f24 = some ⟨oc24, od24, .func (PySem.W.fnOf "law" "law" (defArgs s_law) (defBody s_law) (defScope s_law) .none kV24 dc24 pm24 an24 cd24 ct24), sl24⟩) (e24 : PySem.W.codeIn K cd24 "law" = true) (k24 : PySem.W.keepIn K (.ref f24) = true)
    (u_WEIGHT_BESIDE : PySem.W.nsIn K mainGlobals "WEIGHT_BESIDE" = some (some (.int 2 t_WEIGHT_BESIDE)))
    (z_ValueError : PySem.W.nsIn K mainGlobals "ValueError" = some none)
    (z_bool : PySem.W.nsIn K mainGlobals "bool" = some none)
    (z_int : PySem.W.nsIn K mainGlobals "int" = some none)
    (z_isinstance : PySem.W.nsIn K mainGlobals "isinstance" = some none)
    (z_len : PySem.W.nsIn K mainGlobals "len" = some none)
    (z_list : PySem.W.nsIn K mainGlobals "list" = some none)
    (z_max : PySem.W.nsIn K mainGlobals "max" = some none)
    (z_min : PySem.W.nsIn K mainGlobals "min" = some none)
    (z_range : PySem.W.nsIn K mainGlobals "range" = some none)
    (z_str : PySem.W.nsIn K mainGlobals "str" = some none)
    (z_sum : PySem.W.nsIn K mainGlobals "sum" = some none)
    (z_tuple : PySem.W.nsIn K mainGlobals "tuple" = some none)
    (b_BookError : PySem.W.nsIn K mainGlobals "BookError" = some (some (.ref A_BookError)))
    (b_NoRoom : PySem.W.nsIn K mainGlobals "NoRoom" = some (some (.ref A_NoRoom)))
    (b_NoRow : PySem.W.nsIn K mainGlobals "NoRow" = some (some (.ref A_NoRow)))
    (b_NoWord : PySem.W.nsIn K mainGlobals "NoWord" = some (some (.ref A_NoWord)))
    (b_Wait : PySem.W.nsIn K mainGlobals "Wait" = some (some (.ref A_Wait)))
    (b_NoText : PySem.W.nsIn K mainGlobals "NoText" = some (some (.ref A_NoText)))
    (b_Held : PySem.W.nsIn K mainGlobals "Held" = some (some (.ref A_Held)))
    (b_NoTalk : PySem.W.nsIn K mainGlobals "NoTalk" = some (some (.ref A_NoTalk)))
    (b_NoDeed : PySem.W.nsIn K mainGlobals "NoDeed" = some (some (.ref A_NoDeed)))
    (q_NoRoom : PySem.W.excIn K A_NoRoom PySem.HandSPX.veTail "ValueError.__new__" = true)
    (i_NoWord : PySem.W.findIn K (.ref A_NoWord) "__init__" = some (some (.ref fI_NoWord))) (t_NoWord : PySem.W.typeIn K (.ref fI_NoWord) = some (.type "function")) (l_NoWord : K.lookup fI_NoWord = some ⟨oc_NoWord, od_NoWord, .func (PySem.W.fnOf "__init__" "NoWord.__init__" (defArgs s_NoWord_i) (defBody s_NoWord_i) (defScope s_NoWord_i) .none kV_NoWord dc_NoWord pm_NoWord an_NoWord cd_NoWord ct_NoWord), sl_NoWord⟩) (e_NoWord : PySem.W.codeIn K cd_NoWord "NoWord.__init__" = true) (k_NoWord : PySem.W.keepIn K (.ref fI_NoWord) = true)
    (y_sp : PySem.W.specialIn K (.ref A_BookError) "__getattribute__" = some (some (.builtin "type.__getattribute__"))) (y_rd : PySem.W.readsIn K A_BookError (.type "type") = true) (y_fc : PySem.W.findCls K (.ref A_BookError) (.type "type") "__init__" = some (.val (.builtin "ValueError.__init__")))
    (tb : tabB K [("BookError", A_BookError), ("NoRoom", A_NoRoom), ("NoRow", A_NoRow), ("NoWord", A_NoWord), ("Wait", A_Wait), ("NoText", A_NoText), ("Held", A_Held), ("NoTalk", A_NoTalk), ("NoDeed", A_NoDeed)] = true)
    (nf_at : nofB K [("BookError", A_BookError), ("NoRoom", A_NoRoom), ("NoRow", A_NoRow), ("NoWord", A_NoWord), ("Wait", A_Wait), ("NoText", A_NoText), ("Held", A_Held), ("NoTalk", A_NoTalk), ("NoDeed", A_NoDeed)] "at" = true)
    (nf_many : nofB K [("BookError", A_BookError), ("NoRoom", A_NoRoom), ("NoRow", A_NoRow), ("NoWord", A_NoWord), ("Wait", A_Wait), ("NoText", A_NoText), ("Held", A_Held), ("NoTalk", A_NoTalk), ("NoDeed", A_NoDeed)] "many" = true)
    (nf_need : nofB K [("BookError", A_BookError), ("NoRoom", A_NoRoom), ("NoRow", A_NoRow), ("NoWord", A_NoWord), ("Wait", A_Wait), ("NoText", A_NoText), ("Held", A_Held), ("NoTalk", A_NoTalk), ("NoDeed", A_NoDeed)] "need" = true)
    (nf_number : nofB K [("BookError", A_BookError), ("NoRoom", A_NoRoom), ("NoRow", A_NoRow), ("NoWord", A_NoWord), ("Wait", A_Wait), ("NoText", A_NoText), ("Held", A_Held), ("NoTalk", A_NoTalk), ("NoDeed", A_NoDeed)] "number" = true)
    (nf_talk : nofB K [("BookError", A_BookError), ("NoRoom", A_NoRoom), ("NoRow", A_NoRow), ("NoWord", A_NoWord), ("Wait", A_Wait), ("NoText", A_NoText), ("Held", A_Held), ("NoTalk", A_NoTalk), ("NoDeed", A_NoDeed)] "talk" = true)
    (tk : tabOkB K "law" = true) :
    LamX.LawAtS l w K CX0 12 63 "script" mg fa h := by
  have e := hfa.symm.trans (PySem.W.mg_of X G a24)
  cases e
  obtain ⟨cA, PA, ti, np⟩ := tab_ok tk
  have ecd := tab_cd a24 l24 ti
  subst ecd
  have T : Tx mg := ⟨PySem.W.mg_none_of X G z_ValueError, PySem.W.mg_none_of X G z_bool, PySem.W.mg_none_of X G z_int, PySem.W.mg_none_of X G z_isinstance, PySem.W.mg_none_of X G z_len, PySem.W.mg_none_of X G z_list, PySem.W.mg_none_of X G z_max, PySem.W.mg_none_of X G z_min, PySem.W.mg_none_of X G z_range, PySem.W.mg_none_of X G z_str, PySem.W.mg_none_of X G z_sum, PySem.W.mg_none_of X G z_tuple, ⟨_, PySem.W.mg_of X G u_WEIGHT_BESIDE⟩⟩
  have tt := tabs cA PA ti
  refine ⟨PySem.W.fnOf "law" "law" (defArgs s_law) (defBody s_law) (defScope s_law) .none kV24 dc24 pm24 an24 (.ref cA) ct24, [(cA, PA)], spLawT K [(PA, (envOfC "law" (defScope s_law) 0 fa (.ref cA)).qual ++ "<lambda>")], fun p hp => by rw [List.mem_singleton.mp hp]; exact tt.2, fun p hp => by rw [List.mem_singleton.mp hp]; exact np, fun p hp => by rw [List.mem_singleton.mp hp]; exact tt.1, fun s v => .of_eq rfl, fun H a ns hl _ hH hS => ⟨a, ns, rfl, hS, hl, fun p hp => by rw [List.mem_singleton.mp hp]; exact LamX.TabS.nil (hH (cA, PA) (List.mem_singleton.mpr rfl)), fun _ => rfl⟩, fun base _ _ TBs => ?_⟩
  have TB := TBs (cA, PA) (List.mem_singleton.mpr rfl)
  have tab := tab_mk (tb := [(PA, (envOfC "law" (defScope s_law) 0 fa (.ref cA)).qual ++ "<lambda>")]) tb
  have lk_BookError : List.lookup ("BookError" : Str) ([("BookError", A_BookError), ("NoRoom", A_NoRoom), ("NoRow", A_NoRow), ("NoWord", A_NoWord), ("Wait", A_Wait), ("NoText", A_NoText), ("Held", A_Held), ("NoTalk", A_NoTalk), ("NoDeed", A_NoDeed)] : List (Str × Addr)) = some A_BookError := by kernel_rfl
  have lk_NoRoom : List.lookup ("NoRoom" : Str) ([("BookError", A_BookError), ("NoRoom", A_NoRoom), ("NoRow", A_NoRow), ("NoWord", A_NoWord), ("Wait", A_Wait), ("NoText", A_NoText), ("Held", A_Held), ("NoTalk", A_NoTalk), ("NoDeed", A_NoDeed)] : List (Str × Addr)) = some A_NoRoom := by kernel_rfl
  have lk_NoRow : List.lookup ("NoRow" : Str) ([("BookError", A_BookError), ("NoRoom", A_NoRoom), ("NoRow", A_NoRow), ("NoWord", A_NoWord), ("Wait", A_Wait), ("NoText", A_NoText), ("Held", A_Held), ("NoTalk", A_NoTalk), ("NoDeed", A_NoDeed)] : List (Str × Addr)) = some A_NoRow := by kernel_rfl
  have lk_NoWord : List.lookup ("NoWord" : Str) ([("BookError", A_BookError), ("NoRoom", A_NoRoom), ("NoRow", A_NoRow), ("NoWord", A_NoWord), ("Wait", A_Wait), ("NoText", A_NoText), ("Held", A_Held), ("NoTalk", A_NoTalk), ("NoDeed", A_NoDeed)] : List (Str × Addr)) = some A_NoWord := by kernel_rfl
  have lk_Wait : List.lookup ("Wait" : Str) ([("BookError", A_BookError), ("NoRoom", A_NoRoom), ("NoRow", A_NoRow), ("NoWord", A_NoWord), ("Wait", A_Wait), ("NoText", A_NoText), ("Held", A_Held), ("NoTalk", A_NoTalk), ("NoDeed", A_NoDeed)] : List (Str × Addr)) = some A_Wait := by kernel_rfl
  have lk_NoText : List.lookup ("NoText" : Str) ([("BookError", A_BookError), ("NoRoom", A_NoRoom), ("NoRow", A_NoRow), ("NoWord", A_NoWord), ("Wait", A_Wait), ("NoText", A_NoText), ("Held", A_Held), ("NoTalk", A_NoTalk), ("NoDeed", A_NoDeed)] : List (Str × Addr)) = some A_NoText := by kernel_rfl
  have lk_Held : List.lookup ("Held" : Str) ([("BookError", A_BookError), ("NoRoom", A_NoRoom), ("NoRow", A_NoRow), ("NoWord", A_NoWord), ("Wait", A_Wait), ("NoText", A_NoText), ("Held", A_Held), ("NoTalk", A_NoTalk), ("NoDeed", A_NoDeed)] : List (Str × Addr)) = some A_Held := by kernel_rfl
  have lk_NoTalk : List.lookup ("NoTalk" : Str) ([("BookError", A_BookError), ("NoRoom", A_NoRoom), ("NoRow", A_NoRow), ("NoWord", A_NoWord), ("Wait", A_Wait), ("NoText", A_NoText), ("Held", A_Held), ("NoTalk", A_NoTalk), ("NoDeed", A_NoDeed)] : List (Str × Addr)) = some A_NoTalk := by kernel_rfl
  have lk_NoDeed : List.lookup ("NoDeed" : Str) ([("BookError", A_BookError), ("NoRoom", A_NoRoom), ("NoRow", A_NoRow), ("NoWord", A_NoWord), ("Wait", A_Wait), ("NoText", A_NoText), ("Held", A_Held), ("NoTalk", A_NoTalk), ("NoDeed", A_NoDeed)] : List (Str × Addr)) = some A_NoDeed := by kernel_rfl
  have B : BIni K mg "BookError" A_BookError := ⟨PySem.W.mg_of X G b_BookError, y_sp, y_rd, y_fc⟩
  have fn_NoWord := fun_mk (st := s_NoWord_i) l_NoWord e_NoWord k_NoWord
  have U : Ux l.prog w K mg base (fun c => List.lookup c ([("BookError", A_BookError), ("NoRoom", A_NoRoom), ("NoRow", A_NoRow), ("NoWord", A_NoWord), ("Wait", A_Wait), ("NoText", A_NoText), ("Held", A_Held), ("NoTalk", A_NoTalk), ("NoDeed", A_NoDeed)] : List (Str × Addr))) [(PA, (envOfC "law" (defScope s_law) 0 fa (.ref cA)).qual ++ "<lambda>")] := ⟨tab, ⟨_, lk_BookError, PySem.W.mg_of X G b_BookError⟩, ⟨_, lk_NoRoom, PySem.W.mg_of X G b_NoRoom⟩, ⟨_, lk_NoRow, PySem.W.mg_of X G b_NoRow⟩, ⟨_, lk_NoWord, PySem.W.mg_of X G b_NoWord⟩, ⟨_, lk_Wait, PySem.W.mg_of X G b_Wait⟩, ⟨_, lk_NoText, PySem.W.mg_of X G b_NoText⟩, ⟨_, lk_Held, PySem.W.mg_of X G b_Held⟩, ⟨_, lk_NoTalk, PySem.W.mg_of X G b_NoTalk⟩, ⟨_, lk_NoDeed, PySem.W.mg_of X G b_NoDeed⟩, ⟨_, lk_NoRoom, PySem.W.mg_of X G b_NoRoom, tab.ex "NoRoom" _ lk_NoRoom, q_NoRoom⟩, ⟨_, _, _, lk_NoWord, PySem.W.mg_of X G b_NoWord, tab.ex "NoWord" _ lk_NoWord, i_NoWord, t_NoWord, ini_NoWord fn_NoWord (tab.ex "NoWord" _ lk_NoWord) (nof_mk nf_number "NoWord" _ lk_NoWord) B, fn_NoWord.binds fun _ _ _ _ _ _ us hl => match us, hl with | [_, _], _ => rfl⟩, nof_mk nf_at, nof_mk nf_many, nof_mk nf_need, nof_mk nf_number, nof_mk nf_talk⟩
  have c_weight := ok_weight (P := l.prog) (w := w) (base := base) (cl := fun c => List.lookup c ([("BookError", A_BookError), ("NoRoom", A_NoRoom), ("NoRow", A_NoRow), ("NoWord", A_NoWord), ("Wait", A_Wait), ("NoText", A_NoText), ("Held", A_Held), ("NoTalk", A_NoTalk), ("NoDeed", A_NoDeed)] : List (Str × Addr))) (tb := [(PA, (envOfC "law" (defScope s_law) 0 fa (.ref cA)).qual ++ "<lambda>")]) (fun_mk (st := s_weight) l1 e1 k1) (PySem.W.mg_of X G a1) T U 
  have c_weight_of := ok_weight_of (P := l.prog) (w := w) (base := base) (cl := fun c => List.lookup c ([("BookError", A_BookError), ("NoRoom", A_NoRoom), ("NoRow", A_NoRow), ("NoWord", A_NoWord), ("Wait", A_Wait), ("NoText", A_NoText), ("Held", A_Held), ("NoTalk", A_NoTalk), ("NoDeed", A_NoDeed)] : List (Str × Addr))) (tb := [(PA, (envOfC "law" (defScope s_law) 0 fa (.ref cA)).qual ++ "<lambda>")]) (fun_mk (st := s_weight_of) l2 e2 k2) (PySem.W.mg_of X G a2) T U c_weight
  have c_next_number := ok_next_number (P := l.prog) (w := w) (base := base) (cl := fun c => List.lookup c ([("BookError", A_BookError), ("NoRoom", A_NoRoom), ("NoRow", A_NoRow), ("NoWord", A_NoWord), ("Wait", A_Wait), ("NoText", A_NoText), ("Held", A_Held), ("NoTalk", A_NoTalk), ("NoDeed", A_NoDeed)] : List (Str × Addr))) (tb := [(PA, (envOfC "law" (defScope s_law) 0 fa (.ref cA)).qual ++ "<lambda>")]) (fun_mk (st := s_next_number) l3 e3 k3) (PySem.W.mg_of X G a3) T U 
  have c_word_at := ok_word_at (P := l.prog) (w := w) (base := base) (cl := fun c => List.lookup c ([("BookError", A_BookError), ("NoRoom", A_NoRoom), ("NoRow", A_NoRow), ("NoWord", A_NoWord), ("Wait", A_Wait), ("NoText", A_NoText), ("Held", A_Held), ("NoTalk", A_NoTalk), ("NoDeed", A_NoDeed)] : List (Str × Addr))) (tb := [(PA, (envOfC "law" (defScope s_law) 0 fa (.ref cA)).qual ++ "<lambda>")]) (fun_mk (st := s_word_at) l4 e4 k4) (PySem.W.mg_of X G a4) T U 
  have c_word_at_r := ok_word_at_r (P := l.prog) (w := w) (base := base) (cl := fun c => List.lookup c ([("BookError", A_BookError), ("NoRoom", A_NoRoom), ("NoRow", A_NoRow), ("NoWord", A_NoWord), ("Wait", A_Wait), ("NoText", A_NoText), ("Held", A_Held), ("NoTalk", A_NoTalk), ("NoDeed", A_NoDeed)] : List (Str × Addr))) (tb := [(PA, (envOfC "law" (defScope s_law) 0 fa (.ref cA)).qual ++ "<lambda>")]) (fun_mk (st := s_word_at_r) l5 e5 k5) (PySem.W.mg_of X G a5) T U 
  have c_left_in := ok_left_in (P := l.prog) (w := w) (base := base) (cl := fun c => List.lookup c ([("BookError", A_BookError), ("NoRoom", A_NoRoom), ("NoRow", A_NoRow), ("NoWord", A_NoWord), ("Wait", A_Wait), ("NoText", A_NoText), ("Held", A_Held), ("NoTalk", A_NoTalk), ("NoDeed", A_NoDeed)] : List (Str × Addr))) (tb := [(PA, (envOfC "law" (defScope s_law) 0 fa (.ref cA)).qual ++ "<lambda>")]) (fun_mk (st := s_left_in) l6 e6 k6) (PySem.W.mg_of X G a6) T U c_weight_of c_weight
  have c_put_in := ok_put_in (P := l.prog) (w := w) (base := base) (cl := fun c => List.lookup c ([("BookError", A_BookError), ("NoRoom", A_NoRoom), ("NoRow", A_NoRow), ("NoWord", A_NoWord), ("Wait", A_Wait), ("NoText", A_NoText), ("Held", A_Held), ("NoTalk", A_NoTalk), ("NoDeed", A_NoDeed)] : List (Str × Addr))) (tb := [(PA, (envOfC "law" (defScope s_law) 0 fa (.ref cA)).qual ++ "<lambda>")]) (fun_mk (st := s_put_in) l7 e7 k7) (PySem.W.mg_of X G a7) T U c_left_in c_weight
  have c_put_in_r := ok_put_in_r (P := l.prog) (w := w) (base := base) (cl := fun c => List.lookup c ([("BookError", A_BookError), ("NoRoom", A_NoRoom), ("NoRow", A_NoRow), ("NoWord", A_NoWord), ("Wait", A_Wait), ("NoText", A_NoText), ("Held", A_Held), ("NoTalk", A_NoTalk), ("NoDeed", A_NoDeed)] : List (Str × Addr))) (tb := [(PA, (envOfC "law" (defScope s_law) 0 fa (.ref cA)).qual ++ "<lambda>")]) (fun_mk (st := s_put_in_r) l8 e8 k8) (PySem.W.mg_of X G a8) T U c_left_in c_weight
  have c_done := ok_done (P := l.prog) (w := w) (base := base) (cl := fun c => List.lookup c ([("BookError", A_BookError), ("NoRoom", A_NoRoom), ("NoRow", A_NoRow), ("NoWord", A_NoWord), ("Wait", A_Wait), ("NoText", A_NoText), ("Held", A_Held), ("NoTalk", A_NoTalk), ("NoDeed", A_NoDeed)] : List (Str × Addr))) (tb := [(PA, (envOfC "law" (defScope s_law) 0 fa (.ref cA)).qual ++ "<lambda>")]) (fun_mk (st := s_done) l9 e9 k9) (PySem.W.mg_of X G a9) T U c_left_in c_put_in c_word_at c_next_number
  have c_done_r := ok_done_r (P := l.prog) (w := w) (base := base) (cl := fun c => List.lookup c ([("BookError", A_BookError), ("NoRoom", A_NoRoom), ("NoRow", A_NoRow), ("NoWord", A_NoWord), ("Wait", A_Wait), ("NoText", A_NoText), ("Held", A_Held), ("NoTalk", A_NoTalk), ("NoDeed", A_NoDeed)] : List (Str × Addr))) (tb := [(PA, (envOfC "law" (defScope s_law) 0 fa (.ref cA)).qual ++ "<lambda>")]) (fun_mk (st := s_done_r) l10 e10 k10) (PySem.W.mg_of X G a10) T U c_left_in c_put_in_r c_word_at_r c_next_number
  have c_all_done := ok_all_done (P := l.prog) (w := w) (base := base) (cl := fun c => List.lookup c ([("BookError", A_BookError), ("NoRoom", A_NoRoom), ("NoRow", A_NoRow), ("NoWord", A_NoWord), ("Wait", A_Wait), ("NoText", A_NoText), ("Held", A_Held), ("NoTalk", A_NoTalk), ("NoDeed", A_NoDeed)] : List (Str × Addr))) (tb := [(PA, (envOfC "law" (defScope s_law) 0 fa (.ref cA)).qual ++ "<lambda>")]) (fun_mk (st := s_all_done) l11 e11 k11) (PySem.W.mg_of X G a11) T U c_done
  have c_all_done_r := ok_all_done_r (P := l.prog) (w := w) (base := base) (cl := fun c => List.lookup c ([("BookError", A_BookError), ("NoRoom", A_NoRoom), ("NoRow", A_NoRow), ("NoWord", A_NoWord), ("Wait", A_Wait), ("NoText", A_NoText), ("Held", A_Held), ("NoTalk", A_NoTalk), ("NoDeed", A_NoDeed)] : List (Str × Addr))) (tb := [(PA, (envOfC "law" (defScope s_law) 0 fa (.ref cA)).qual ++ "<lambda>")]) (fun_mk (st := s_all_done_r) l12 e12 k12) (PySem.W.mg_of X G a12) T U c_done_r
  have c_law_bowl := ok_law_bowl (P := l.prog) (w := w) (base := base) (cl := fun c => List.lookup c ([("BookError", A_BookError), ("NoRoom", A_NoRoom), ("NoRow", A_NoRow), ("NoWord", A_NoWord), ("Wait", A_Wait), ("NoText", A_NoText), ("Held", A_Held), ("NoTalk", A_NoTalk), ("NoDeed", A_NoDeed)] : List (Str × Addr))) (tb := [(PA, (envOfC "law" (defScope s_law) 0 fa (.ref cA)).qual ++ "<lambda>")]) (fun_mk (st := s_law_bowl) l13 e13 k13) (PySem.W.mg_of X G a13) T U 
  have c_law_spoon := ok_law_spoon (P := l.prog) (w := w) (base := base) (cl := fun c => List.lookup c ([("BookError", A_BookError), ("NoRoom", A_NoRoom), ("NoRow", A_NoRow), ("NoWord", A_NoWord), ("Wait", A_Wait), ("NoText", A_NoText), ("Held", A_Held), ("NoTalk", A_NoTalk), ("NoDeed", A_NoDeed)] : List (Str × Addr))) (tb := [(PA, (envOfC "law" (defScope s_law) 0 fa (.ref cA)).qual ++ "<lambda>")]) (fun_mk (st := s_law_spoon) l14 e14 k14) (PySem.W.mg_of X G a14) T U 
  have c_law_word := ok_law_word (P := l.prog) (w := w) (base := base) (cl := fun c => List.lookup c ([("BookError", A_BookError), ("NoRoom", A_NoRoom), ("NoRow", A_NoRow), ("NoWord", A_NoWord), ("Wait", A_Wait), ("NoText", A_NoText), ("Held", A_Held), ("NoTalk", A_NoTalk), ("NoDeed", A_NoDeed)] : List (Str × Addr))) (tb := [(PA, (envOfC "law" (defScope s_law) 0 fa (.ref cA)).qual ++ "<lambda>")]) (fun_mk (st := s_law_word) l15 e15 k15) (PySem.W.mg_of X G a15) T U c_law_spoon
  have c_law_unlike := ok_law_unlike (P := l.prog) (w := w) (base := base) (cl := fun c => List.lookup c ([("BookError", A_BookError), ("NoRoom", A_NoRoom), ("NoRow", A_NoRow), ("NoWord", A_NoWord), ("Wait", A_Wait), ("NoText", A_NoText), ("Held", A_Held), ("NoTalk", A_NoTalk), ("NoDeed", A_NoDeed)] : List (Str × Addr))) (tb := [(PA, (envOfC "law" (defScope s_law) 0 fa (.ref cA)).qual ++ "<lambda>")]) (fun_mk (st := s_law_unlike) l16 e16 k16) (PySem.W.mg_of X G a16) T U c_law_spoon c_law_word
  have c_law_heavy := ok_law_heavy (P := l.prog) (w := w) (base := base) (cl := fun c => List.lookup c ([("BookError", A_BookError), ("NoRoom", A_NoRoom), ("NoRow", A_NoRow), ("NoWord", A_NoWord), ("Wait", A_Wait), ("NoText", A_NoText), ("Held", A_Held), ("NoTalk", A_NoTalk), ("NoDeed", A_NoDeed)] : List (Str × Addr))) (tb := [(PA, (envOfC "law" (defScope s_law) 0 fa (.ref cA)).qual ++ "<lambda>")]) (fun_mk (st := s_law_heavy) l17 e17 k17) (PySem.W.mg_of X G a17) T U 
  have c_law_fitted := ok_law_fitted (P := l.prog) (w := w) (base := base) (cl := fun c => List.lookup c ([("BookError", A_BookError), ("NoRoom", A_NoRoom), ("NoRow", A_NoRow), ("NoWord", A_NoWord), ("Wait", A_Wait), ("NoText", A_NoText), ("Held", A_Held), ("NoTalk", A_NoTalk), ("NoDeed", A_NoDeed)] : List (Str × Addr))) (tb := [(PA, (envOfC "law" (defScope s_law) 0 fa (.ref cA)).qual ++ "<lambda>")]) (fun_mk (st := s_law_fitted) l18 e18 k18) (PySem.W.mg_of X G a18) T U c_law_heavy
  have c_law_behind := ok_law_behind (P := l.prog) (w := w) (base := base) (cl := fun c => List.lookup c ([("BookError", A_BookError), ("NoRoom", A_NoRoom), ("NoRow", A_NoRow), ("NoWord", A_NoWord), ("Wait", A_Wait), ("NoText", A_NoText), ("Held", A_Held), ("NoTalk", A_NoTalk), ("NoDeed", A_NoDeed)] : List (Str × Addr))) (tb := [(PA, (envOfC "law" (defScope s_law) 0 fa (.ref cA)).qual ++ "<lambda>")]) (fun_mk (st := s_law_behind) l19 e19 k19) (PySem.W.mg_of X G a19) T U c_law_fitted
  have c_law_book := ok_law_book (P := l.prog) (w := w) (base := base) (cl := fun c => List.lookup c ([("BookError", A_BookError), ("NoRoom", A_NoRoom), ("NoRow", A_NoRow), ("NoWord", A_NoWord), ("Wait", A_Wait), ("NoText", A_NoText), ("Held", A_Held), ("NoTalk", A_NoTalk), ("NoDeed", A_NoDeed)] : List (Str × Addr))) (tb := [(PA, (envOfC "law" (defScope s_law) 0 fa (.ref cA)).qual ++ "<lambda>")]) (fun_mk (st := s_law_book) l20 e20 k20) (PySem.W.mg_of X G a20) T U c_law_spoon
  have c_law_deed := ok_law_deed (P := l.prog) (w := w) (base := base) (cl := fun c => List.lookup c ([("BookError", A_BookError), ("NoRoom", A_NoRoom), ("NoRow", A_NoRow), ("NoWord", A_NoWord), ("Wait", A_Wait), ("NoText", A_NoText), ("Held", A_Held), ("NoTalk", A_NoTalk), ("NoDeed", A_NoDeed)] : List (Str × Addr))) (tb := [(PA, (envOfC "law" (defScope s_law) 0 fa (.ref cA)).qual ++ "<lambda>")]) (fun_mk (st := s_law_deed) l21 e21 k21) (PySem.W.mg_of X G a21) T U c_law_spoon
  have F_law_kind := fun_mk (st := s_law_kind) l22 e22 k22
  have c_law_same := ok_law_same (P := l.prog) (w := w) (base := base) (cl := fun c => List.lookup c ([("BookError", A_BookError), ("NoRoom", A_NoRoom), ("NoRow", A_NoRow), ("NoWord", A_NoWord), ("Wait", A_Wait), ("NoText", A_NoText), ("Held", A_Held), ("NoTalk", A_NoTalk), ("NoDeed", A_NoDeed)] : List (Str × Addr))) (tb := [(PA, (envOfC "law" (defScope s_law) 0 fa (.ref cA)).qual ++ "<lambda>")]) (fun_mk (st := s_law_same) l23 e23 k23) (PySem.W.mg_of X G a23) T U  10
  exact law_endT (C := ⟨K, fun c => List.lookup c ([("BookError", A_BookError), ("NoRoom", A_NoRoom), ("NoRow", A_NoRow), ("NoWord", A_NoWord), ("Wait", A_Wait), ("NoText", A_NoText), ("Held", A_Held), ("NoTalk", A_NoTalk), ("NoDeed", A_NoDeed)] : List (Str × Addr)), [(PA, (envOfC "law" (defScope s_law) 0 fa (.ref cA)).qual ++ "<lambda>")]⟩) rfl (okF_law (P := l.prog) (w := w) (base := base) (cl := fun c => List.lookup c ([("BookError", A_BookError), ("NoRoom", A_NoRoom), ("NoRow", A_NoRow), ("NoWord", A_NoWord), ("Wait", A_Wait), ("NoText", A_NoText), ("Held", A_Held), ("NoTalk", A_NoTalk), ("NoDeed", A_NoDeed)] : List (Str × Addr))) l24 e24 TB rfl T F_law_kind (PySem.W.mg_of X G a22) U c_law_bowl c_law_unlike c_law_book c_law_spoon c_law_deed c_law_behind c_law_same c_all_done c_all_done_r) law_pure
theorem walk {l : PySem.W.OpenLaw} {q : Program} {loose : List Str} {XP : (Str → Option Value) → Heap → Prop} {YP : World → Heap → Prop} {d : DefRec} {K : Params → PySem.W.Frag} (hn : l.most = some 63) (hdf : d.params.defaults = []) (hrec : ((recsOf q).find? (fun e => e.name == d.name)).isSome = true)
    (hY : ∀ (w : World) (h : Heap), YP w h → (K w.params).In h)
    (F : ∀ (w : World) (mg : Str → Option Value) (fa : Addr) (h : Heap), (K w.params).In h → h.Ns mainGlobals mg → mg d.name = some (.ref fa) → (∀ c P, PySem.W.tabIn (K w.params) d.name = some (c, P) → PySem.W.CodeHd h c P ∧ h.get? P = some { cls := .none, data := .fields #[] }) → LamX.LawAtS l w (K w.params) CX0 12 63 "script" mg fa h) :
    PySem.W.WalkO q loose XP YP l.row.toRowW d [] (fun f vs => PySem.call f vs) :=
  walk_ofTab (n := 63) (k := 12) (x := "script") (CX := fun _ => CX0) hn (by decide) hdf ⟨rfl, by decide, by decide⟩ hrec hY F fun _ _ _ _ _ z => z
end Lw
open PySem PySem.W PyProof.Rows
set_option maxRecDepth 100000 in
set_option maxHeartbeats 0 in
theorem PySem.Challenge.cw_nickbook_k09_many_deeds_holds : PySem.Challenge.rw_nickbook_k09_many_deeds.Holds := by
  w_on; o_law; k_head; (case hw => w_witness2)
  k_fill
  refine Lw.walk (l := PySem.Challenge.rw_nickbook_k09_many_deeds) rfl rfl ?hrec (fun w h Y => PySem.W.km_in_of Y) ?F
  case hrec => kernel_rfl
  case F =>
    intro w mg fa h KX G hmg tabs
    refine' Lw.all_mk KX G hmg tabs ?a1 ?l1 ?e1 ?k1 ?a2 ?l2 ?e2 ?k2 ?a3 ?l3 ?e3 ?k3 ?a4 ?l4 ?e4 ?k4 ?a5 ?l5 ?e5 ?k5 ?a6 ?l6 ?e6 ?k6 ?a7 ?l7 ?e7 ?k7 ?a8 ?l8 ?e8 ?k8 ?a9 ?l9 ?e9 ?k9 ?a10 ?l10 ?e10 ?k10 ?a11 ?l11 ?e11 ?k11 ?a12 ?l12 ?e12 ?k12 ?a13 ?l13 ?e13 ?k13 ?a14 ?l14 ?e14 ?k14 ?a15 ?l15 ?e15 ?k15 ?a16 ?l16 ?e16 ?k16 ?a17 ?l17 ?e17 ?k17 ?a18 ?l18 ?e18 ?k18 ?a19 ?l19 ?e19 ?k19 ?a20 ?l20 ?e20 ?k20 ?a21 ?l21 ?e21 ?k21 ?a22 ?l22 ?e22 ?k22 ?a23 ?l23 ?e23 ?k23 ?a24 ?l24 ?e24 ?k24 ?u_WEIGHT_BESIDE ?z_ValueError ?z_bool ?z_int ?z_isinstance ?z_len ?z_list ?z_max ?z_min ?z_range ?z_str ?z_sum ?z_tuple ?b_BookError ?b_NoRoom ?b_NoRow ?b_NoWord ?b_Wait ?b_NoText ?b_Held ?b_NoTalk ?b_NoDeed ?q_NoRoom ?i_NoWord ?t_NoWord ?l_NoWord ?e_NoWord ?k_NoWord ?y_sp ?y_rd ?y_fc ?tb ?nf_at ?nf_many ?nf_need ?nf_number ?nf_talk ?tk
    (case a1 => k_is); (case l1 => k_is); (case e1 => k_is); (case k1 => k_is); (case a2 => k_is); (case l2 => k_is); (case e2 => k_is); (case k2 => k_is); (case a3 => k_is); (case l3 => k_is); (case e3 => k_is); (case k3 => k_is); (case a4 => k_is); (case l4 => k_is); (case e4 => k_is); (case k4 => k_is); (case a5 => k_is); (case l5 => k_is); (case e5 => k_is); (case k5 => k_is); (case a6 => k_is); (case l6 => k_is); (case e6 => k_is); (case k6 => k_is); (case a7 => k_is); (case l7 => k_is); (case e7 => k_is); (case k7 => k_is); (case a8 => k_is); (case l8 => k_is); (case e8 => k_is); (case k8 => k_is); (case a9 => k_is); (case l9 => k_is); (case e9 => k_is); (case k9 => k_is); (case a10 => k_is); (case l10 => k_is); (case e10 => k_is); (case k10 => k_is); (case a11 => k_is); (case l11 => k_is); (case e11 => k_is); (case k11 => k_is); (case a12 => k_is); (case l12 => k_is); (case e12 => k_is); (case k12 => k_is); (case a13 => k_is); (case l13 => k_is); (case e13 => k_is); (case k13 => k_is); (case a14 => k_is); (case l14 => k_is); (case e14 => k_is); (case k14 => k_is); (case a15 => k_is); (case l15 => k_is); (case e15 => k_is); (case k15 => k_is); (case a16 => k_is); (case l16 => k_is); (case e16 => k_is); (case k16 => k_is); (case a17 => k_is); (case l17 => k_is); (case e17 => k_is); (case k17 => k_is); (case a18 => k_is); (case l18 => k_is); (case e18 => k_is); (case k18 => k_is); (case a19 => k_is); (case l19 => k_is); (case e19 => k_is); (case k19 => k_is); (case a20 => k_is); (case l20 => k_is); (case e20 => k_is); (case k20 => k_is); (case a21 => k_is); (case l21 => k_is); (case e21 => k_is); (case k21 => k_is); (case a22 => k_is); (case l22 => k_is); (case e22 => k_is); (case k22 => k_is); (case a23 => k_is); (case l23 => k_is); (case e23 => k_is); (case k23 => k_is); (case a24 => k_is); (case l24 => k_is); (case e24 => k_is); (case k24 => k_is); (case u_WEIGHT_BESIDE => k_is); (case z_ValueError => k_is); (case z_bool => k_is); (case z_int => k_is); (case z_isinstance => k_is); (case z_len => k_is); (case z_list => k_is); (case z_max => k_is); (case z_min => k_is); (case z_range => k_is); (case z_str => k_is); (case z_sum => k_is); (case z_tuple => k_is); (case b_BookError => k_is); (case b_NoRoom => k_is); (case b_NoRow => k_is); (case b_NoWord => k_is); (case b_Wait => k_is); (case b_NoText => k_is); (case b_Held => k_is); (case b_NoTalk => k_is); (case b_NoDeed => k_is); (case q_NoRoom => k_exc); (case i_NoWord => k_is); (case t_NoWord => k_is); (case l_NoWord => k_is); (case e_NoWord => k_is); (case k_NoWord => k_is); (case y_sp => k_is); (case y_rd => k_is); (case y_fc => k_is); (case tb => kernel_rfl); (case nf_at => kernel_rfl); (case nf_many => kernel_rfl); (case nf_need => kernel_rfl); (case nf_number => kernel_rfl); (case nf_talk => kernel_rfl); (case tk => kernel_rfl)
