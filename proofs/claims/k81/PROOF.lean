import PyProof.Rows.All
import Wide.All
import OpenK.AllK
import Wide.FinOn
import HandS.ForMost
import HandS.Exc
import HandS.ExcOwn
import HandS.TryOnly
import HandS.TryMany
import HandS.WordsExc
import HandS.CallSlots
import HandS.TupAny
import HandS.TupMul
import HandS.Deep
import HandS.IsInst
import HandS.Wide
import HandS.More
import HandS.Lambda
import HandS.RaiseMore
import HandS.ExcInit
import HandS.ExcIs
import KE.KExcIs
import KE.GoesRaise
import HandS.Zip
import KE.GoesMore
import KE.DataFind
import HandS.Defaults
import PySem.Challenge.RW_nickbook_k81_errors_made
set_option Elab.async false
set_option linter.all false
set_option maxRecDepth 100000
set_option maxHeartbeats 4000000
namespace Dn
open PySem
/-- values; a list that nobody changes any more is a value, one that may change is a place -/
inductive D where
  | non | bl (b : Bool) | int (i : Int) | str (x : Str) | tup (l : List D) | lst (l : List D) | ref (n : Nat) | exn (c : Str) (fs : List (Str × D)) | scr (ns : List Int)
deriving Inhabited
/-- what stands at a place -/
inductive HD where
  | lst (l : List D) | dct (kvs : List (D × D)) | dtt (kvs : List (D × D)) | lck (kvs : List (D × D)) | lct (kvs : List (D × D)) | ins (c : Str) (fs : List (Str × D)) | dead
deriving Inhabited
abbrev Hm := List HD
abbrev Ev := List (Option D)
mutual
def D.beq : D → D → Bool
  | .non, .non => true
  | .bl a, .bl b => a == b
  | .int a, .int b => a == b
  | .str a, .str b => a == b
  | .tup a, .tup b => D.beqL a b
  | .lst a, .lst b => D.beqL a b
  | .ref a, .ref b => a == b
  | .exn c fs, .exn c' fs' => c == c' && D.beqF fs fs'
  | .scr a, .scr b => a == b
  | _, _ => false
def D.beqL : List D → List D → Bool
  | [], [] => true
  | x :: xs, y :: ys => D.beq x y && D.beqL xs ys
  | _, _ => false
def D.beqF : List (Str × D) → List (Str × D) → Bool
  | [], [] => true
  | (f, x) :: xs, (g, y) :: ys => f == g && D.beq x y && D.beqF xs ys
  | _, _ => false
end
mutual
theorem D.beq_refl : ∀ a : D, D.beq a a = true
  | .non => by simp [D.beq]
  | .bl a => by simp [D.beq]
  | .int a => by simp [D.beq]
  | .str a => by simp [D.beq]
  | .tup a => by simp [D.beq, D.beqL_refl a]
  | .lst a => by simp [D.beq, D.beqL_refl a]
  | .ref a => by simp [D.beq]
  | .exn c fs => by simp [D.beq, D.beqF_refl fs]
  | .scr a => by simp [D.beq]
theorem D.beqL_refl : ∀ a : List D, D.beqL a a = true
  | [] => by simp [D.beqL]
  | x :: xs => by simp [D.beqL, D.beq_refl x, D.beqL_refl xs]
theorem D.beqF_refl : ∀ a : List (Str × D), D.beqF a a = true
  | [] => by simp [D.beqF]
  | (f, x) :: xs => by simp [D.beqF, D.beq_refl x, D.beqF_refl xs]
end
mutual
theorem D.beq_eq : ∀ a b : D, D.beq a b = true → a = b
  | .non, b, h => by cases b <;> simp_all [D.beq]
  | .bl a, b, h => by cases b <;> simp_all [D.beq]
  | .int a, b, h => by cases b <;> simp_all [D.beq]
  | .str a, b, h => by cases b <;> simp_all [D.beq]
  | .tup a, b, h => by
    cases b with
    | tup b => rw [D.beqL_eq a b (by simpa [D.beq] using h)]
    | _ => simp [D.beq] at h
  | .lst a, b, h => by
    cases b with
    | lst b => rw [D.beqL_eq a b (by simpa [D.beq] using h)]
    | _ => simp [D.beq] at h
  | .ref a, b, h => by cases b <;> simp_all [D.beq]
  | .scr a, b, h => by cases b <;> simp_all [D.beq]
  | .exn c fs, b, h => by
    cases b with
    | exn c' fs' =>
      simp only [D.beq, Bool.and_eq_true, beq_iff_eq] at h
      rw [h.1, D.beqF_eq fs fs' h.2]
    | _ => simp [D.beq] at h
theorem D.beqL_eq : ∀ a b : List D, D.beqL a b = true → a = b
  | [], b, h => by cases b <;> simp_all [D.beqL]
  | x :: xs, [], h => by simp [D.beqL] at h
  | x :: xs, y :: ys, h => by
    simp only [D.beqL, Bool.and_eq_true] at h
    rw [D.beq_eq x y h.1, D.beqL_eq xs ys h.2]
theorem D.beqF_eq : ∀ a b : List (Str × D), D.beqF a b = true → a = b
  | [], b, h => by cases b <;> simp_all [D.beqF]
  | (f, x) :: xs, [], h => by simp [D.beqF] at h
  | (f, x) :: xs, (g, y) :: ys, h => by
    simp only [D.beqF, Bool.and_eq_true, beq_iff_eq] at h
    rw [h.1.1, D.beq_eq x y h.1.2, D.beqF_eq xs ys h.2]
end
def beqP : List (D × D) → List (D × D) → Bool
  | [], [] => true
  | (a, b) :: r, (c, d) :: s => D.beq a c && D.beq b d && beqP r s
  | _, _ => false
theorem beqP_refl : ∀ a, beqP a a = true
  | [] => rfl
  | (a, b) :: r => by simp [beqP, D.beq_refl, beqP_refl r]
theorem beqP_eq : ∀ a b, beqP a b = true → a = b
  | [], b, h => by cases b <;> simp_all [beqP]
  | (a, b) :: r, [], h => by simp [beqP] at h
  | (a, b) :: r, (c, d) :: s, h => by
    simp only [beqP, Bool.and_eq_true] at h
    rw [D.beq_eq a c h.1.1, D.beq_eq b d h.1.2, beqP_eq r s h.2]
def HD.beq : HD → HD → Bool
  | .lst a, .lst b => D.beqL a b
  | .dct a, .dct b => beqP a b
  | .dtt a, .dtt b => beqP a b
  | .lck a, .lck b => beqP a b
  | .lct a, .lct b => beqP a b
  | .ins c a, .ins c' b => c == c' && D.beqF a b
  | .dead, .dead => true
  | _, _ => false
theorem HD.beq_refl : ∀ a : HD, HD.beq a a = true
  | .lst a => D.beqL_refl a
  | .dct a => beqP_refl a
  | .dtt a => beqP_refl a
  | .lck a => beqP_refl a
  | .lct a => beqP_refl a
  | .ins c a => by simp [HD.beq, D.beqF_refl]
  | .dead => rfl
theorem HD.beq_eq : ∀ a b : HD, HD.beq a b = true → a = b
  | .lst a, b, h => by
    cases b with
    | lst b => rw [D.beqL_eq a b h]
    | _ => simp [HD.beq] at h
  | .dct a, b, h => by
    cases b with
    | dct b => rw [beqP_eq a b h]
    | _ => simp [HD.beq] at h
  | .dtt a, b, h => by
    cases b with
    | dtt b => rw [beqP_eq a b h]
    | _ => simp [HD.beq] at h
  | .lck a, b, h => by
    cases b with
    | lck b => rw [beqP_eq a b h]
    | _ => simp [HD.beq] at h
  | .lct a, b, h => by
    cases b with
    | lct b => rw [beqP_eq a b h]
    | _ => simp [HD.beq] at h
  | .ins c a, b, h => by
    cases b with
    | ins c' b =>
      simp only [HD.beq, Bool.and_eq_true, beq_iff_eq] at h
      rw [h.1, D.beqF_eq a b h.2]
    | _ => simp [HD.beq] at h
  | .dead, b, h => by cases b <;> simp_all [HD.beq]
mutual
def D.cl (n : Nat) : D → Bool
  | .tup l => D.clL n l
  | .lst l => D.clL n l
  | .ref m => decide (m < n)
  | .exn _ fs => D.clF n fs
  | _ => true
def D.clL (n : Nat) : List D → Bool
  | [] => true
  | x :: xs => D.cl n x && D.clL n xs
def D.clF (n : Nat) : List (Str × D) → Bool
  | [] => true
  | (_, x) :: xs => D.cl n x && D.clF n xs
end
def clP (n : Nat) : List (D × D) → Bool
  | [] => true
  | (a, b) :: r => D.cl n a && D.cl n b && clP n r
def HD.cl (n : Nat) : HD → Bool
  | .lst l => D.clL n l
  | .dct l => clP n l
  | .dtt l => clP n l
  | .lck l => clP n l
  | .lct l => clP n l
  | .ins _ fs => D.clF n fs
  | .dead => true
inductive R (α : Type) where
  | ok (a : α) (h : Hm) | exc (e : D) (h : Hm) | err
def R.bind {α β : Type} (r : R α) (k : α → Hm → R β) : R β :=
  match r with
  | .ok a h => k a h
  | .exc e h => .exc e h
  | .err => .err
@[simp] theorem bind_ok {α β : Type} (a : α) (h : Hm) (k : α → Hm → R β) : (R.ok a h).bind k = k a h := rfl
@[simp] theorem bind_exc {α β : Type} (e : D) (h : Hm) (k : α → Hm → R β) : (R.exc e h).bind k = .exc e h := rfl
@[simp] theorem bind_err {α β : Type} (k : α → Hm → R β) : (R.err).bind k = .err := rfl
abbrev EM := Ev → Hm → R D
abbrev TM := Ev → Hm → R Bool
abbrev AM := Ev → Hm → R (List D)
/-- a def: arguments, heap -/
abbrev FM := List D → Hm → R D
/-- what comes of a statement -/
inductive Fl where
  | nx (v : Ev) (h : Hm) | rt (d : D) (h : Hm) | bk (v : Ev) (h : Hm) | ct (v : Ev) (h : Hm) | exc (e : D) (v : Ev) (h : Hm) | err
abbrev SM := Ev → Hm → Fl
/-- a list's items, wherever it stands -/
def items (h : Hm) : D → Option (List D)
  | .lst l => some l
  | .tup l => some l
  | .ref n => match h[n]? with
    | some (.lst l) => some l
    | _ => none
  | _ => none
def eV (i : Nat) : EM := fun v h => match v[i]? with
  | some (some d) => .ok d h
  | _ => .err
def eC (d : D) : EM := fun _ h => .ok d h
def eB (op : D → D → Hm → R D) (a b : EM) : EM := fun v h => (a v h).bind fun x h1 => (b v h1).bind fun y h2 => op x y h2
def eU (op : D → Hm → R D) (a : EM) : EM := fun v h => (a v h).bind op
def aN : AM := fun _ h => .ok [] h
def aC (a : EM) (r : AM) : AM := fun v h => (a v h).bind fun x h1 => (r v h1).bind fun xs h2 => .ok (x :: xs) h2
def eTup (a : AM) : EM := fun v h => (a v h).bind fun xs h1 => if xs.length ≤ 16777216 then .ok (.tup xs) h1 else .err
def eLst (a : AM) : EM := fun v h => (a v h).bind fun xs h1 => if xs.length ≤ 16777216 then .ok (.lst xs) h1 else .err
/-- a list that may change -/
def eNew (a : AM) : EM := fun v h => (a v h).bind fun xs h1 => if xs.length ≤ 16777216 then .ok (.ref h1.length) (h1 ++ [.lst xs]) else .err
/-- a call of a def, of a builtin -/
def eF (f : FM) (a : AM) : EM := fun v h => (a v h).bind f
/-- a list is laid down for good -/
def fz (d : D) (h : Hm) : R D := match d with
  | .ref n => match h[n]? with
    | some (.lst l) => .ok (.lst l) (h.set n .dead)
    | _ => .err
  | d => .ok d h
def eIf (t : TM) (a b : EM) : EM := fun v h => (t v h).bind fun c h1 => if c then a v h1 else b v h1
def eAnd (a b : EM) : EM := fun v h => (a v h).bind fun x h1 => match x with
  | .bl true => b v h1
  | .bl false => .ok (.bl false) h1
  | _ => .err
def eOr (a b : EM) : EM := fun v h => (a v h).bind fun x h1 => match x with
  | .bl false => b v h1
  | .bl true => .ok (.bl true) h1
  | _ => .err
def eNot (a : EM) : EM := fun v h => (a v h).bind fun x h1 => match x with
  | .bl c => .ok (.bl !c) h1
  | _ => .err
def tE (a : EM) : TM := fun v h => (a v h).bind fun x h1 => match x with
  | .bl c => .ok c h1
  | _ => .err
def tAnd (a b : TM) : TM := fun v h => (a v h).bind fun c h1 => if c then b v h1 else .ok false h1
def tOr (a b : TM) : TM := fun v h => (a v h).bind fun c h1 => if c then .ok true h1 else b v h1
def tNot (a : TM) : TM := fun v h => (a v h).bind fun c h1 => .ok (!c) h1
def sNx : SM := fun v h => .nx v h
def sSeq (a b : SM) : SM := fun v h => match a v h with
  | .nx v1 h1 => b v1 h1
  | o => o
/-- the slots that a target names are filled -/
abbrev TgM := D → Ev → Hm → Option Ev
def gN (i : Nat) : TgM := fun d v _ => some (v.set i (some d))
def sAsg (g : TgM) (e : EM) : SM := fun v h => match e v h with
  | .ok d h1 => match g d v h1 with
    | some v1 => .nx v1 h1
    | none => .err
  | .exc x h1 => .exc x v h1
  | .err => .err
def sExpr (e : EM) : SM := fun v h => match e v h with
  | .ok _ h1 => .nx v h1
  | .exc x h1 => .exc x v h1
  | .err => .err
def sRet (e : EM) : SM := fun v h => match e v h with
  | .ok d h1 => .rt d h1
  | .exc x h1 => .exc x v h1
  | .err => .err
def sRetN : SM := fun _ h => .rt .non h
def sBreak : SM := fun v h => .bk v h
def sCont : SM := fun v h => .ct v h
def sIf (t : TM) (a b : SM) : SM := fun v h => match t v h with
  | .ok c h1 => if c then a v h1 else b v h1
  | .exc x h1 => .exc x v h1
  | .err => .err
/-- how a for walks: the items, and what must stay true of the heap while it walks -/
structure Wk where
  its : List D
  chk : Hm → Bool
def forL (g : TgM) (b : SM) (chk : Hm → Bool) : List D → SM
  | [] => fun v h => if chk h then .nx v h else .err
  | x :: xs => fun v h => if chk h then (match g x v h with
    | some v1 => match b v1 h with
      | .nx v2 h2 => forL g b chk xs v2 h2
      | .ct v2 h2 => forL g b chk xs v2 h2
      | .bk v2 h2 => .nx v2 h2
      | o => o
    | none => .err) else .err
def sFor (g : TgM) (w : Ev → Hm → R Wk) (b : SM) : SM := fun v h => match w v h with
  | .ok k h1 => forL g b k.chk k.its v h1
  | .exc x h1 => .exc x v h1
  | .err => .err
def wkOf (d : D) (h : Hm) : R Wk := match d with
  | .lst l => .ok ⟨l, fun _ => true⟩ h
  | .tup l => .ok ⟨l, fun _ => true⟩ h
  | .str x => .ok ⟨x.cps.toList.map fun c => .str ⟨#[c]⟩, fun _ => true⟩ h
  | .ref n => match h[n]? with
    | some (.lst l) => .ok ⟨l, fun h' => match h'[n]? with | some o => HD.beq o (.lst l) | none => false⟩ h
    | _ => .err
  | _ => .err
def wE (e : EM) : Ev → Hm → R Wk := fun v h => (e v h).bind wkOf
def wRange (lo hi : Int) (h : Hm) : R Wk := if lo < 2 ^ 62 ∧ -(2 ^ 62) ≤ lo ∧ hi < 2 ^ 62 ∧ -(2 ^ 62) ≤ hi then .ok ⟨(List.range (hi - lo).toNat).map fun (i : Nat) => .int (lo + (i : Int)), fun _ => true⟩ h else .err
def wR1 (e : EM) : Ev → Hm → R Wk := fun v h => (e v h).bind fun x h1 => match x with
  | .int n => wRange 0 n h1
  | _ => .err
def wR2 (a b : EM) : Ev → Hm → R Wk := fun v h => (a v h).bind fun x h1 => (b v h1).bind fun y h2 => match x, y with
  | .int m, .int n => wRange m n h2
  | _, _ => .err
def wipeE (v : Ev) (own : List Nat) : Ev := own.foldr (fun i w => w.set i none) v
/-- nothing is raised in there -/
def R.nx {α : Type} : R α → R α
  | .exc _ _ => .err
  | r => r
@[simp] theorem nx_ok {α : Type} (a : α) (h : Hm) : (R.ok a h).nx = .ok a h := rfl
def lcL (g : TgM) (t : TM) (e : EM) (chk : Hm → Bool) (v : Ev) : List D → Hm → R (List D)
  | [], h => if chk h then .ok [] h else .err
  | x :: xs, h => if chk h then (match g x v h with
    | some v1 => (t v1 h).nx.bind fun c h1 => if c then (e v1 h1).nx.bind fun y h2 => (lcL g t e chk v xs h2).bind fun ys h3 => .ok (y :: ys) h3 else lcL g t e chk v xs h1
    | none => .err) else .err
def eLc (own : List Nat) (g : TgM) (w : Ev → Hm → R Wk) (t : TM) (e : EM) : EM := fun v h => (w v h).bind fun k h1 =>
  if k.its.length ≤ 16777215 then (lcL g t e k.chk (wipeE v own) k.its h1).bind fun ys h2 => .ok (.lst ys) h2 else .err
def tYes : TM := fun _ h => .ok true h
def fn (np nl : Nat) (b : SM) : FM := fun ds h => if ds.length = np then match b (ds.map some ++ List.replicate (nl - np) none) h with
  | .nx _ h1 => .ok .non h1
  | .rt d h1 => .ok d h1
  | .exc e _ h1 => .exc e h1
  | _ => .err else .err
/-- a def that raises nothing -/
def fn0 (np nl : Nat) (b : SM) : FM := fun ds h => (fn np nl b ds h).nx
/-- a def whose own places go when it ends -/
def trOk : Hm → Hm → Nat → Bool
  | [], _, _ => true
  | _ :: _, [], _ => false
  | o :: r, p :: s, n => (HD.beq o p || HD.cl n p) && trOk r s n
def tr (f : FM) : FM := fun ds h => match f ds h with
  | .ok d h1 => if D.cl h.length d && trOk h h1 h.length then .ok d (h1.take h.length) else .err
  | .exc e h1 => if D.cl h.length e && trOk h h1 h.length then .exc e (h1.take h.length) else .err
  | .err => .err
end Dn
set_option Elab.async false
set_option linter.all false
set_option maxRecDepth 100000
set_option maxHeartbeats 4000000
namespace Dn
open PySem PySem.Spec PyProof.Rows L2
/-- the written part, the classes by their names -/
structure Cn where
  K : PySem.W.Frag
  cls : Str → Option Addr
  /-- tables of code objects -/
  T : List (Addr × Str)
/-- an exception that was caught: its class, its own dict's place -/
def exH (a A : Addr) (od : Option Addr) : HO := .ext fun h => ∃ oe vs, h.get? a = some oe ∧ oe.cls = .ref A ∧ oe.dict = od ∧ oe.data = .fields vs
mutual
inductive Rep (C : Cn) (Z : Hp) (m : List Addr) : D → V → Prop
  | non : Rep C Z m .non .non
  | bl (b : Bool) : Rep C Z m (.bl b) (.bl b)
  | int (i : Int) : Rep C Z m (.int i) (.int i)
  | str (x : Str) : Rep C Z m (.str x) (.str x)
  | tup {a : Addr} {vs : List V} {l : List D} : Z a = some (.tup vs) → RepL C Z m l vs → Rep C Z m (.tup l) (.ref a)
  | lst {a : Addr} {vs : List V} {l : List D} : Z a = some (.lst vs) → RepL C Z m l vs → Rep C Z m (.lst l) (.ref a)
  | scr {a : Addr} {ns : List Int} : SqL C.K Z a (ns.map V.int) → Rep C Z m (.scr ns) (.ref a)
  | ref {n : Nat} {a : Addr} : m[n]? = some a → Rep C Z m (.ref n) (.ref a)
  | exn0 {a A : Addr} {c : Str} : C.cls c = some A → Z a = some (exH a A none) → Rep C Z m (.exn c []) (.ref a)
  | exn1 {a A d : Addr} {c : Str} {fs : List (Str × D)} {gs : List (Str × V)} : C.cls c = some A → Z a = some (exH a A (some d)) → Z d = some (.xd gs) → RepF C Z m fs gs → Rep C Z m (.exn c fs) (.ref a)
inductive RepL (C : Cn) (Z : Hp) (m : List Addr) : List D → List V → Prop
  | nil : RepL C Z m [] []
  | cons {d : D} {v : V} {ds : List D} {vs : List V} : Rep C Z m d v → RepL C Z m ds vs → RepL C Z m (d :: ds) (v :: vs)
inductive RepF (C : Cn) (Z : Hp) (m : List Addr) : List (Str × D) → List (Str × V) → Prop
  | nil : RepF C Z m [] []
  | cons {f : Str} {d : D} {v : V} {ds : List (Str × D)} {vs : List (Str × V)} : Rep C Z m d v → RepF C Z m ds vs → RepF C Z m ((f, d) :: ds) ((f, v) :: vs)
end
section
variable {C : Cn} {Z Z' H : Hp} {m m' : List Addr}
theorem sqL_mono {K : PySem.W.Frag} (hz : ∀ a o, Z a = some o → Z' a = some o) {a : Addr} {xs : List V} (h : SqL K Z a xs) : SqL K Z' a xs := by
  rcases h with (h | ⟨o, h⟩) | h
  · exact .inl (.inl (hz _ _ h))
  · exact .inl (.inr ⟨o, hz _ _ h⟩)
  · exact .inr h
theorem sqT_mono {K : PySem.W.Frag} (hz : ∀ a o, Z a = some o → Z' a = some o) {a : Addr} {xs : List V} (h : SqT K Z a xs) : SqT K Z' a xs := by
  rcases h with (h | ⟨o, h⟩) | h
  · exact .inl (.inl (hz _ _ h))
  · exact .inl (.inr ⟨o, hz _ _ h⟩)
  · exact .inr h
theorem pre_get {m m' : List Addr} (hm : m <+: m') {n : Nat} {a : Addr} (h : m[n]? = some a) : m'[n]? = some a := by
  obtain ⟨t, rfl⟩ := hm
  rw [List.getElem?_append_left (List.getElem?_eq_some_iff.mp h).1]
  exact h
mutual
theorem Rep.mono (hz : ∀ a o, Z a = some o → Z' a = some o) (hm : m <+: m') : ∀ {d : D} {v : V}, Rep C Z m d v → Rep C Z' m' d v
  | _, _, .non => .non
  | _, _, .bl b => .bl b
  | _, _, .int i => .int i
  | _, _, .str x => .str x
  | _, _, .tup a b => .tup (hz _ _ a) (RepL.mono hz hm b)
  | _, _, .lst a b => .lst (hz _ _ a) (RepL.mono hz hm b)
  | _, _, .scr a => .scr (sqL_mono hz a)
  | _, _, .ref a => .ref (pre_get hm a)
  | _, _, .exn0 a b => .exn0 a (hz _ _ b)
  | _, _, .exn1 a b c r => .exn1 a (hz _ _ b) (hz _ _ c) (RepF.mono hz hm r)
theorem RepL.mono (hz : ∀ a o, Z a = some o → Z' a = some o) (hm : m <+: m') : ∀ {d : List D} {v : List V}, RepL C Z m d v → RepL C Z' m' d v
  | _, _, .nil => .nil
  | _, _, .cons a b => .cons (Rep.mono hz hm a) (RepL.mono hz hm b)
theorem RepF.mono (hz : ∀ a o, Z a = some o → Z' a = some o) (hm : m <+: m') : ∀ {d : List (Str × D)} {v : List (Str × V)}, RepF C Z m d v → RepF C Z' m' d v
  | _, _, .nil => .nil
  | _, _, .cons a b => .cons (Rep.mono hz hm a) (RepF.mono hz hm b)
end
theorem RepL.length : ∀ {d : List D} {v : List V}, RepL C Z m d v → d.length = v.length
  | _, _, .nil => rfl
  | _, _, .cons _ b => by simp [RepL.length b]
theorem RepL.get : ∀ {d : List D} {v : List V} {i : Nat} {x : D}, RepL C Z m d v → d[i]? = some x → ∃ y, v[i]? = some y ∧ Rep C Z m x y
  | _, _, _, _, .nil, e => by simp at e
  | _, _, 0, _, .cons a _, e => by simp at e; subst e; exact ⟨_, rfl, a⟩
  | _, _, i + 1, _, .cons _ b, e => by
    obtain ⟨y, h1, h2⟩ := RepL.get (i := i) b (by simpa using e)
    exact ⟨y, by simpa using h1, h2⟩
theorem RepL.getV : ∀ {d : List D} {v : List V} {i : Nat} {y : V}, RepL C Z m d v → v[i]? = some y → ∃ x, d[i]? = some x ∧ Rep C Z m x y
  | _, _, _, _, .nil, e => by simp at e
  | _, _, 0, _, .cons a _, e => by simp at e; subst e; exact ⟨_, rfl, a⟩
  | _, _, i + 1, _, .cons _ b, e => by
    obtain ⟨y, h1, h2⟩ := RepL.getV (i := i) b (by simpa using e)
    exact ⟨y, by simpa using h1, h2⟩
theorem RepL.append : ∀ {d d' : List D} {v v' : List V}, RepL C Z m d v → RepL C Z m d' v' → RepL C Z m (d ++ d') (v ++ v')
  | _, _, _, _, .nil, h => h
  | _, _, _, _, .cons a b, h => .cons a (RepL.append b h)
theorem RepL.take : ∀ {d : List D} {v : List V} (n : Nat), RepL C Z m d v → RepL C Z m (d.take n) (v.take n)
  | _, _, 0, _ => .nil
  | _, _, _ + 1, .nil => .nil
  | _, _, n + 1, .cons a b => .cons a (RepL.take n b)
theorem RepL.drop : ∀ {d : List D} {v : List V} (n : Nat), RepL C Z m d v → RepL C Z m (d.drop n) (v.drop n)
  | _, _, 0, r => r
  | _, _, _ + 1, .nil => .nil
  | _, _, n + 1, .cons _ b => RepL.drop n b
theorem RepL.set {x : D} {y : V} (r : Rep C Z m x y) : ∀ {d : List D} {v : List V} (n : Nat), RepL C Z m d v → RepL C Z m (d.set n x) (v.set n y)
  | _, _, _, .nil => .nil
  | _, _, 0, .cons _ b => .cons r b
  | _, _, n + 1, .cons a b => .cons a (RepL.set r n b)
theorem RepL.replicate : ∀ {d : List D} {v : List V} (n : Nat), RepL C Z m d v → RepL C Z m (List.replicate n d).flatten (List.replicate n v).flatten
  | _, _, 0, _ => .nil
  | _, _, n + 1, h => by
    rw [List.replicate_succ, List.replicate_succ, List.flatten_cons, List.flatten_cons]
    exact h.append (RepL.replicate n h)
theorem RepL.one {d : D} {v : V} (h : Rep C Z m d v) : RepL C Z m [d] [v] := .cons h .nil
theorem RepL.strs : ∀ {ys : List Str} {v : List V}, RepL C Z m (ys.map D.str) v → v = ys.map V.str
  | [], _, .nil => rfl
  | y :: ys, _, .cons a b => by
    cases a
    rw [RepL.strs b]; rfl
theorem RepL.ints : ∀ {ys : List Int} {v : List V}, RepL C Z m (ys.map D.int) v → v = ys.map V.int
  | [], _, .nil => rfl
  | y :: ys, _, .cons a b => by
    cases a
    rw [RepL.ints b]; rfl
mutual
theorem Rep.cut {k : Nat} : ∀ {d : D} {v : V}, Rep C Z m d v → D.cl k d = true → Rep C Z (m.take k) d v
  | _, _, .non, _ => .non
  | _, _, .bl b, _ => .bl b
  | _, _, .int i, _ => .int i
  | _, _, .str x, _ => .str x
  | _, _, .tup a b, h => .tup a (RepL.cut b (by simpa [D.cl] using h))
  | _, _, .lst a b, h => .lst a (RepL.cut b (by simpa [D.cl] using h))
  | _, _, .scr a, _ => .scr a
  | _, _, .ref (n := n) (a := a) e, h => .ref (by
    have hn : n < k := by simpa [D.cl] using h
    rw [List.getElem?_take_of_lt hn]; exact e)
  | _, _, .exn0 a b, _ => .exn0 a b
  | _, _, .exn1 a b c r, h => .exn1 a b c (RepF.cut r (by simpa [D.cl] using h))
theorem RepL.cut {k : Nat} : ∀ {d : List D} {v : List V}, RepL C Z m d v → D.clL k d = true → RepL C Z (m.take k) d v
  | _, _, .nil, _ => .nil
  | _, _, .cons a b, h => by
    simp only [D.clL, Bool.and_eq_true] at h
    exact .cons (Rep.cut a h.1) (RepL.cut b h.2)
theorem RepF.cut {k : Nat} : ∀ {d : List (Str × D)} {v : List (Str × V)}, RepF C Z m d v → D.clF k d = true → RepF C Z (m.take k) d v
  | _, _, .nil, _ => .nil
  | _, _, .cons a b, h => by
    simp only [D.clF, Bool.and_eq_true] at h
    exact .cons (Rep.cut a h.1) (RepF.cut b h.2)
end
mutual
theorem Rep.cl : ∀ {d : D} {v : V}, Rep C Z m d v → D.cl m.length d = true
  | _, _, .non => rfl
  | _, _, .bl b => rfl
  | _, _, .int i => rfl
  | _, _, .str x => rfl
  | _, _, .tup a b => by simpa [D.cl] using RepL.cl b
  | _, _, .lst a b => by simpa [D.cl] using RepL.cl b
  | _, _, .scr a => rfl
  | _, _, .ref e => by simpa [D.cl] using (List.getElem?_eq_some_iff.mp e).1
  | _, _, .exn0 a b => rfl
  | _, _, .exn1 a b c r => by simpa [D.cl] using RepF.cl r
theorem RepL.cl : ∀ {d : List D} {v : List V}, RepL C Z m d v → D.clL m.length d = true
  | _, _, .nil => rfl
  | _, _, .cons a b => by simp [D.clL, Rep.cl a, RepL.cl b]
theorem RepF.cl : ∀ {d : List (Str × D)} {v : List (Str × V)}, RepF C Z m d v → D.clF m.length d = true
  | _, _, .nil => rfl
  | _, _, .cons a b => by simp [D.clF, Rep.cl a, RepF.cl b]
end
end
/-- a dict's pairs: keys ints and texts -/
inductive RepK (C : Cn) (Z : Hp) (m : List Addr) : List (D × D) → List (L2.Key × V) → Prop
  | nil : RepK C Z m [] []
  | int {i : Int} {d : D} {v : V} {ds : List (D × D)} {vs : List (L2.Key × V)} : Rep C Z m d v → RepK C Z m ds vs → RepK C Z m ((.int i, d) :: ds) ((.inl i, v) :: vs)
  | str {x : Str} {d : D} {v : V} {ds : List (D × D)} {vs : List (L2.Key × V)} : Rep C Z m d v → RepK C Z m ds vs → RepK C Z m ((.str x, d) :: ds) ((.inr x, v) :: vs)
theorem RepK.mono {C : Cn} {Z Z' : Hp} {m m' : List Addr} (hz : ∀ a o, Z a = some o → Z' a = some o) (hm : m <+: m') : ∀ {d : List (D × D)} {v : List (L2.Key × V)}, RepK C Z m d v → RepK C Z' m' d v
  | _, _, .nil => .nil
  | _, _, .int a b => .int (a.mono hz hm) (RepK.mono hz hm b)
  | _, _, .str a b => .str (a.mono hz hm) (RepK.mono hz hm b)
theorem RepK.cut {C : Cn} {Z : Hp} {m : List Addr} {k : Nat} : ∀ {d : List (D × D)} {v : List (L2.Key × V)}, RepK C Z m d v → clP k d = true → RepK C Z (m.take k) d v
  | _, _, .nil, _ => .nil
  | _, _, .int a b, h => by
    simp only [clP, Bool.and_eq_true] at h
    exact .int (a.cut h.1.2) (RepK.cut b h.2)
  | _, _, .str a b, h => by
    simp only [clP, Bool.and_eq_true] at h
    exact .str (a.cut h.1.2) (RepK.cut b h.2)
theorem RepK.cl {C : Cn} {Z : Hp} {m : List Addr} : ∀ {d : List (D × D)} {v : List (L2.Key × V)}, RepK C Z m d v → clP m.length d = true
  | _, _, .nil => rfl
  | _, _, .int a b => by simp [clP, D.cl, a.cl, RepK.cl b]
  | _, _, .str a b => by simp [clP, D.cl, a.cl, RepK.cl b]
/-- keys that are tuples of numbers and texts -/
def keyE : D → Option L2.Key
  | .int i => some (.inl i)
  | .str x => some (.inr x)
  | _ => none
def keyL : List D → Option (List L2.Key)
  | [] => some []
  | x :: r => match keyE x, keyL r with
    | some k, some ks => some (k :: ks)
    | _, _ => none
def keyT : D → Option (List L2.Key)
  | .tup l => keyL l
  | _ => none
theorem keyL_cl {n : Nat} : ∀ {l : List D} {k : List L2.Key}, keyL l = some k → D.clL n l = true
  | [], _, _ => rfl
  | x :: r, k, h => by
    unfold keyL at h
    cases e1 : keyE x with
    | none => rw [e1] at h; cases h
    | some k1 =>
      cases e2 : keyL r with
      | none => rw [e1, e2] at h; cases h
      | some k2 =>
        have a : D.cl n x = true := by cases x <;> first | rfl | (simp [keyE] at e1)
        simp [D.clL, a, keyL_cl e2]
theorem keyT_cl {n : Nat} {d : D} {k : List L2.Key} (h : keyT d = some k) : D.cl n d = true := by
  cases d with
  | tup l => exact keyL_cl h
  | _ => cases h
inductive RepT (C : Cn) (Z : Hp) (m : List Addr) : List (D × D) → List (List L2.Key × V) → Prop
  | nil : RepT C Z m [] []
  | cons {a d : D} {k : List L2.Key} {v : V} {ds : List (D × D)} {vs : List (List L2.Key × V)} : keyT a = some k → Rep C Z m d v → RepT C Z m ds vs → RepT C Z m ((a, d) :: ds) ((k, v) :: vs)
theorem RepT.mono {C : Cn} {Z Z' : Hp} {m m' : List Addr} (hz : ∀ a o, Z a = some o → Z' a = some o) (hm : m <+: m') : ∀ {d : List (D × D)} {v : List (List L2.Key × V)}, RepT C Z m d v → RepT C Z' m' d v
  | _, _, .nil => .nil
  | _, _, .cons k a b => .cons k (a.mono hz hm) (RepT.mono hz hm b)
theorem RepT.cut {C : Cn} {Z : Hp} {m : List Addr} {k : Nat} : ∀ {d : List (D × D)} {v : List (List L2.Key × V)}, RepT C Z m d v → clP k d = true → RepT C Z (m.take k) d v
  | _, _, .nil, _ => .nil
  | _, _, .cons e a b, h => by
    simp only [clP, Bool.and_eq_true] at h
    exact .cons e (a.cut h.1.2) (RepT.cut b h.2)
theorem RepT.cl {C : Cn} {Z : Hp} {m : List Addr} : ∀ {d : List (D × D)} {v : List (List L2.Key × V)}, RepT C Z m d v → clP m.length d = true
  | _, _, .nil => rfl
  | _, _, .cons k a b => by simp [clP, keyT_cl k, a.cl, RepT.cl b]
/-- the class of that name, as the module's top has it -/
def ClsK (K : PySem.W.Frag) (c : Str) (A : Addr) : Prop := PySem.W.nsIn K mainGlobals c = some (some (.ref A))
def ObjAt (C : Cn) (Z : Hp) (m : List Addr) (o : HD) (a : Addr) (H : Hp) : Prop := match o with
  | .lst l => ∃ vs, H a = some (.lst vs) ∧ RepL C Z m l vs
  | .dct l => ∃ kvs, H a = some (.dK kvs) ∧ RepK C Z m l kvs
  | .dtt l => ∃ kvs, H a = some (.dT kvs) ∧ RepT C Z m l kvs
  | .lck l => ∃ o kvs, H a = some (.frz o (.dK kvs)) ∧ RepK C Z m l kvs
  | .lct l => ∃ o kvs, H a = some (.frz o (.dT kvs)) ∧ RepT C Z m l kvs
  | .ins c fs => ∃ A dx gs, ClsK C.K c A ∧ H a = some (.ins A dx gs) ∧ RepF C Z m fs gs
  | .dead => ∃ vs, H a = some (.lst vs)
theorem ObjAt.mono {C : Cn} {Z Z' H : Hp} {m m' : List Addr} (hz : ∀ a o, Z a = some o → Z' a = some o) (hm : m <+: m') {o : HD} {a : Addr} (h : ObjAt C Z m o a H) : ObjAt C Z' m' o a H := by
  cases o with
  | lst l => obtain ⟨vs, e, r⟩ := h; exact ⟨vs, e, r.mono hz hm⟩
  | dct l => obtain ⟨vs, e, r⟩ := h; exact ⟨vs, e, r.mono hz hm⟩
  | dtt l => obtain ⟨vs, e, r⟩ := h; exact ⟨vs, e, r.mono hz hm⟩
  | lck l => obtain ⟨o, vs, e, r⟩ := h; exact ⟨o, vs, e, r.mono hz hm⟩
  | lct l => obtain ⟨o, vs, e, r⟩ := h; exact ⟨o, vs, e, r.mono hz hm⟩
  | ins c fs => obtain ⟨A, dx, gs, e1, e, r⟩ := h; exact ⟨A, dx, gs, e1, e, r.mono hz hm⟩
  | dead => exact h
theorem ObjAt.cut {C : Cn} {Z H : Hp} {m : List Addr} {k : Nat} {o : HD} {a : Addr} (h : ObjAt C Z m o a H) (hc : HD.cl k o = true) : ObjAt C Z (m.take k) o a H := by
  cases o with
  | lst l => obtain ⟨vs, e, r⟩ := h; exact ⟨vs, e, r.cut hc⟩
  | dct l => obtain ⟨vs, e, r⟩ := h; exact ⟨vs, e, r.cut hc⟩
  | dtt l => obtain ⟨vs, e, r⟩ := h; exact ⟨vs, e, r.cut hc⟩
  | lck l => obtain ⟨o, vs, e, r⟩ := h; exact ⟨o, vs, e, r.cut hc⟩
  | lct l => obtain ⟨o, vs, e, r⟩ := h; exact ⟨o, vs, e, r.cut hc⟩
  | ins c fs => obtain ⟨A, dx, gs, e1, e, r⟩ := h; exact ⟨A, dx, gs, e1, e, r.cut hc⟩
  | dead => exact h
theorem ObjAt.cl {C : Cn} {Z H : Hp} {m : List Addr} {o : HD} {a : Addr} (h : ObjAt C Z m o a H) : HD.cl m.length o = true := by
  cases o with
  | lst l => obtain ⟨vs, e, r⟩ := h; exact r.cl
  | dct l => obtain ⟨vs, e, r⟩ := h; exact r.cl
  | dtt l => obtain ⟨vs, e, r⟩ := h; exact r.cl
  | lck l => obtain ⟨o, vs, e, r⟩ := h; exact r.cl
  | lct l => obtain ⟨o, vs, e, r⟩ := h; exact r.cl
  | ins c fs => obtain ⟨A, dx, gs, e1, e, r⟩ := h; exact r.cl
  | dead => rfl
theorem ObjAt.some {C : Cn} {Z H : Hp} {m : List Addr} {o : HD} {a : Addr} (h : ObjAt C Z m o a H) : ∃ u, H a = some u := by
  cases o with
  | lst l => obtain ⟨vs, e, r⟩ := h; exact ⟨_, e⟩
  | dct l => obtain ⟨vs, e, r⟩ := h; exact ⟨_, e⟩
  | dtt l => obtain ⟨vs, e, r⟩ := h; exact ⟨_, e⟩
  | lck l => obtain ⟨o, vs, e, r⟩ := h; exact ⟨_, e⟩
  | lct l => obtain ⟨o, vs, e, r⟩ := h; exact ⟨_, e⟩
  | ins c fs => obtain ⟨A, dx, gs, e1, e, r⟩ := h; exact ⟨_, e⟩
  | dead => obtain ⟨vs, e⟩ := h; exact ⟨_, e⟩
/-- neither a table nor anything of a kind of its own -/
def Plainly (o : HO) : Prop := (∀ ps, o ≠ .tbl ps) ∧ ∀ φ, o ≠ .ext φ
theorem objAt_plain {C : Cn} {Z H : Hp} {m : List Addr} {o : HD} {a : Addr} (h : ObjAt C Z m o a H) : ∃ u, H a = some u ∧ Plainly u := by
  cases o with
  | lst l => obtain ⟨vs, e, r⟩ := h; exact ⟨_, e, (fun _ z => by cases z), (fun _ z => by cases z)⟩
  | dct l => obtain ⟨vs, e, r⟩ := h; exact ⟨_, e, (fun _ z => by cases z), (fun _ z => by cases z)⟩
  | dtt l => obtain ⟨vs, e, r⟩ := h; exact ⟨_, e, (fun _ z => by cases z), (fun _ z => by cases z)⟩
  | lck l => obtain ⟨o, vs, e, r⟩ := h; exact ⟨_, e, (fun _ z => by cases z), (fun _ z => by cases z)⟩
  | lct l => obtain ⟨o, vs, e, r⟩ := h; exact ⟨_, e, (fun _ z => by cases z), (fun _ z => by cases z)⟩
  | ins c fs => obtain ⟨A, dx, gs, e1, e, r⟩ := h; exact ⟨_, e, (fun _ z => by cases z), (fun _ z => by cases z)⟩
  | dead => obtain ⟨vs, e⟩ := h; exact ⟨_, e, (fun _ z => by cases z), (fun _ z => by cases z)⟩
/-- only the object at a matters -/
theorem ObjAt.at {C : Cn} {Z H H' : Hp} {m : List Addr} {o : HD} {a : Addr} (h : ObjAt C Z m o a H) (e : H' a = H a) : ObjAt C Z m o a H' := by
  cases o with
  | lst l => obtain ⟨vs, q, r⟩ := h; exact ⟨vs, e.trans q, r⟩
  | dct l => obtain ⟨vs, q, r⟩ := h; exact ⟨vs, e.trans q, r⟩
  | dtt l => obtain ⟨vs, q, r⟩ := h; exact ⟨vs, e.trans q, r⟩
  | lck l => obtain ⟨o, vs, q, r⟩ := h; exact ⟨o, vs, e.trans q, r⟩
  | lct l => obtain ⟨o, vs, q, r⟩ := h; exact ⟨o, vs, e.trans q, r⟩
  | ins c fs => obtain ⟨A, dx, gs, e1, q, r⟩ := h; exact ⟨A, dx, gs, e1, e.trans q, r⟩
  | dead => obtain ⟨u, q⟩ := h; exact ⟨u, e.trans q⟩
structure HSim (C : Cn) (Z : Hp) (m : List Addr) (h : Hm) (H : Hp) : Prop where
  sub : ∀ a o, Z a = some o → H a = some o
  len : m.length = h.length
  nd : m.Nodup
  off : ∀ (n : Nat) (a : Addr) (o : HD), m[n]? = some a → h[n]? = some o → o ≠ HD.dead → Z a = none
  obj : ∀ (n : Nat) (a : Addr) (o : HD), m[n]? = some a → h[n]? = some o → ObjAt C Z m o a H
  tab : LamX.Tabs C.T H
  noT : ∀ a ps, Z a ≠ some (.tbl ps)
/-- nothing stands there, or a table -/
def Fr (H : Hp) (a : Addr) : Prop := ∀ o, H a = some o → ∃ ps, o = .tbl ps
/-- .. or a tuple -/
def FrT (H : Hp) (a : Addr) : Prop := ∀ o, H a = some o → (∃ ps, o = .tbl ps) ∨ ∃ xs, o = .tup xs
theorem frt_none {H : Hp} {a : Addr} (e : H a = none) : FrT H a := fun o z => by rw [e] at z; cases z
theorem frt_of {H : Hp} {a : Addr} (f : Fr H a) : FrT H a := fun o z => .inl (f o z)
theorem frt_lst {H : Hp} {a : Addr} {vs : List V} (f : FrT H a) (e : H a = some (.lst vs)) : False := by
  rcases f _ e with ⟨ps, z⟩ | ⟨ps, z⟩ <;> cases z
theorem fr_none {H : Hp} {a : Addr} (e : H a = none) : Fr H a := fun o z => by rw [e] at z; cases z
theorem fr_lst {H : Hp} {a : Addr} {vs : List V} (f : Fr H a) (e : H a = some (.lst vs)) : False := by
  obtain ⟨ps, z⟩ := f _ e
  cases z
/-- tables stay where something else is put -/
theorem tabs_put {T : List (Addr × Str)} {H : Hp} {a : Addr} {o : HO} (t : LamX.Tabs T H) (f : ∀ u, H a = some u → Plainly u) : LamX.Tabs T (upd H a o) := by
  have ne : ∀ b u, H b = some u → ¬ Plainly u → b ≠ a := fun b u e n z => by subst z; exact n (f _ e)
  intro p hp
  obtain ⟨ps, h1, h2, h3⟩ := t p hp
  refine ⟨ps, by rw [upd_ne (ne _ _ h1 fun z => z.1 ps rfl)]; exact h1, h2, fun pos cv hc => ?_⟩
  obtain ⟨c, e1, e2⟩ := h3 pos cv hc
  exact ⟨c, e1, by rw [upd_ne (ne _ _ e2 fun z => z.2 _ rfl)]; exact e2⟩
structure Ext (Z : Hp) (m : List Addr) (H : Hp) (Z' : Hp) (m' : List Addr) (H' : Hp) : Prop where
  sub : ∀ a o, Z a = some o → Z' a = some o
  pre : m <+: m'
  keep : ∀ a o, H a = some o → a ∉ m → (∀ ps, o ≠ .tbl ps) → H' a = some o
  newM : ∀ a, a ∈ m' → a ∈ m ∨ Fr H a
  newZ : ∀ a, Z' a ≠ none → Z a ≠ none ∨ a ∈ m ∨ FrT H a
  frz : ∀ a o u, H a = some (.frz o u) → H' a = some (.frz o u)
theorem nfz {H : Hp} {a : Addr} {u : HO} (e : H a = some u) (h : ∀ o x, u ≠ .frz o x := by intro _ _ z; cases z) : ∀ o' x, H a ≠ some (.frz o' x) := fun o' x z => by
  rw [e] at z; injection z with z; exact h _ _ z
section
variable {C : Cn} {Z Z1 Z2 H H1 H2 : Hp} {m m1 m2 : List Addr} {h h1 : Hm}
theorem Ext.refl : Ext Z m H Z m H := ⟨fun _ _ e => e, List.prefix_refl _, fun _ _ e _ _ => e, fun _ e => .inl e, fun _ e => .inl e, fun _ _ _ e => e⟩
theorem Ext.trans (a : Ext Z m H Z1 m1 H1) (b : Ext Z1 m1 H1 Z2 m2 H2) : Ext Z m H Z2 m2 H2 := by
  have back : ∀ x, Fr H1 x → x ∈ m ∨ Fr H x := fun x e => by
    by_cases hx : x ∈ m
    · exact .inl hx
    · refine .inr fun o q => ?_
      refine Classical.byContradiction fun n => ?_
      obtain ⟨ps, z⟩ := e o (a.keep x o q hx fun ps z => n ⟨ps, z⟩)
      exact n ⟨ps, z⟩
  have backT : ∀ x, FrT H1 x → x ∈ m ∨ FrT H x := fun x e => by
    by_cases hx : x ∈ m
    · exact .inl hx
    · refine .inr fun o q => ?_
      refine Classical.byContradiction fun n => ?_
      rcases e o (a.keep x o q hx fun ps z => n (.inl ⟨ps, z⟩)) with ⟨ps, z⟩ | ⟨ps, z⟩
      · exact n (.inl ⟨ps, z⟩)
      · exact n (.inr ⟨ps, z⟩)
  refine ⟨fun x o e => b.sub x o (a.sub x o e), a.pre.trans b.pre, fun x o e hx nt => b.keep x o (a.keep x o e hx nt) (fun z => ?_) nt, fun x hx => ?_, fun x hx => ?_, fun x o u e => b.frz x o u (a.frz x o u e)⟩
  · rcases a.newM x z with q | q
    · exact hx q
    · obtain ⟨ps, y⟩ := q o e
      exact nt ps y
  · rcases b.newM x hx with q | q
    · exact a.newM x q
    · exact back x q
  · rcases b.newZ x hx with q | q | q
    · exact a.newZ x q
    · rcases a.newM x q with q | q
      · exact .inr (.inl q)
      · exact .inr (.inr (frt_of q))
    · exact .inr (backT x q)
theorem HSim.tracked (s : HSim C Z m h H) {a : Addr} (ha : a ∈ m) : ∃ o, H a = some o := by
  obtain ⟨n, hn, e⟩ := List.getElem_of_mem ha
  have e1 : m[n]? = some a := by rw [List.getElem?_eq_getElem hn, e]
  have e2 : h[n]? = some (h[n]'(by rw [← s.len]; exact hn)) := List.getElem?_eq_getElem _
  exact (s.obj n a _ e1 e2).some
theorem HSim.nz (s : HSim C Z m h H) {p : Addr} (hp : H p = none) : Z p = none := by
  cases q : Z p with
  | none => rfl
  | some o => rw [s.sub p o q] at hp; cases hp
theorem HSim.nm (s : HSim C Z m h H) {p : Addr} (hp : H p = none) : p ∉ m := fun z => by
  obtain ⟨o, e⟩ := s.tracked z
  rw [e] at hp; cases hp
/-- a new object laid down for good -/
theorem HSim.lay (s : HSim C Z m h H) {p : Addr} (hp : H p = none) (o : HO) (ho : ∀ ps, o ≠ .tbl ps := by intro _ z; cases z) : HSim C (upd Z p o) m h (upd H p o) := by
  have hz := s.nz hp
  refine ⟨fun a u e => ?_, s.len, s.nd, fun n a u e1 e2 hd => ?_, fun n a u e1 e2 => ?_, s.tab.ext fun b w e => ?_, fun a ps e => ?_⟩
  · by_cases ha : a = p
    · subst ha; rw [upd_same] at e ⊢; exact e
    · rw [upd_ne ha] at e ⊢; exact s.sub a u e
  · have : a ≠ p := fun z => by subst z; exact s.nm hp (List.mem_of_getElem? e1)
    rw [upd_ne this]; exact s.off n a u e1 e2 hd
  · have : a ≠ p := fun z => by subst z; exact s.nm hp (List.mem_of_getElem? e1)
    refine ((s.obj n a u e1 e2).mono (fun b w e => ?_) (List.prefix_refl _)).at (upd_ne this)
    rw [upd_ne (fun z => by subst z; rw [hz] at e; cases e)]; exact e
  · rw [upd_ne (fun z => by subst z; rw [hp] at e; cases e)]; exact e
  · by_cases ha : a = p
    · subst ha; rw [upd_same] at e; exact ho ps (Option.some.inj e)
    · rw [upd_ne ha] at e; exact s.noT a ps e
theorem Ext.lay (s : HSim C Z m h H) {p : Addr} (hp : H p = none) (o : HO) : Ext Z m H (upd Z p o) m (upd H p o) := by
  have hz := s.nz hp
  refine ⟨fun b w e => ?_, List.prefix_refl _, fun b w e _ _ => ?_, fun b e => .inl e, fun b e => ?_, fun b w u e => by rw [upd_ne (fun z => by subst z; rw [hp] at e; cases e)]; exact e⟩
  · rw [upd_ne (fun z => by subst z; rw [hz] at e; cases e)]; exact e
  · rw [upd_ne (fun z => by subst z; rw [hp] at e; cases e)]; exact e
  · by_cases hb : b = p
    · subst hb; exact .inr (.inr (frt_none hp))
    · rw [upd_ne hb] at e; exact .inl e
/-- a new place -/
theorem HSim.alloc (s : HSim C Z m h H) {p : Addr} (hp : H p = none) {o : HO} {d : HD} (hd : ∀ H', H' p = some o → ObjAt C Z (m ++ [p]) d p H') : HSim C Z (m ++ [p]) (h ++ [d]) (upd H p o) := by
  have hz := s.nz hp
  have old : ∀ {n : Nat} {a : Addr}, (m ++ [p])[n]? = some a → (n < m.length ∧ m[n]? = some a) ∨ (n = m.length ∧ a = p) := fun {n a} e => by
    by_cases hn : n < m.length
    · rw [List.getElem?_append_left hn] at e; exact .inl ⟨hn, e⟩
    · rw [List.getElem?_append_right (by omega)] at e
      have hk : n - m.length = 0 := by
        cases hk : n - m.length with
        | zero => rfl
        | succ k => rw [hk] at e; simp at e
      rw [hk] at e; simp at e; exact .inr ⟨by omega, e.symm⟩
  have hH : ∀ {a : Addr}, a ∈ m → a ≠ p := fun {a} ha z => by subst z; exact s.nm hp ha
  refine ⟨fun a u e => ?_, by simp [s.len], ?_, fun n a u e1 e2 hdd => ?_, fun n a u e1 e2 => ?_, s.tab.ext fun b w e => by rw [upd_ne (fun z => by subst z; rw [hp] at e; cases e)]; exact e, s.noT⟩
  · rw [upd_ne (fun z => by subst z; rw [hz] at e; cases e)]; exact s.sub a u e
  · exact List.nodup_append.mpr ⟨s.nd, by simp, fun a ha b hb => by rw [List.mem_singleton.mp hb]; exact hH ha⟩
  · rcases old e1 with ⟨hn, e⟩ | ⟨hn, rfl⟩
    · rw [List.getElem?_append_left (by rw [← s.len]; exact hn)] at e2
      exact s.off n a u e e2 hdd
    · exact hz
  · rcases old e1 with ⟨hn, e⟩ | ⟨hn, rfl⟩
    · rw [List.getElem?_append_left (by rw [← s.len]; exact hn)] at e2
      exact ((s.obj n a u e e2).mono (fun _ _ q => q) (List.prefix_append _ _)).at (upd_ne (hH (List.mem_of_getElem? e)))
    · rw [List.getElem?_append_right (by rw [← s.len, hn]; exact Nat.le_refl _), ← s.len, hn] at e2
      simp at e2; subst e2
      exact hd _ upd_same
theorem Ext.alloc (s : HSim C Z m h H) {p : Addr} (hp : H p = none) (o : HO) : Ext Z m H Z (m ++ [p]) (upd H p o) := by
  refine ⟨fun b w e => e, List.prefix_append _ _, fun b w e _ _ => ?_, fun b e => ?_, fun b e => .inl e, fun b w u e => by rw [upd_ne (fun z => by subst z; rw [hp] at e; cases e)]; exact e⟩
  · rw [upd_ne (fun z => by subst z; rw [hp] at e; cases e)]; exact e
  · rcases List.mem_append.mp e with e | e
    · exact .inl e
    · rw [List.mem_singleton.mp e]; exact .inr (fr_none hp)
/-- the object at a place is another one -/
theorem HSim.put (s : HSim C Z m h H) {n : Nat} {a : Addr} {o : HO} {d d0 : HD} (e : m[n]? = some a) (e0 : h[n]? = some d0) (hl : d0 ≠ .dead) (hd : ∀ H', H' a = some o → ObjAt C Z m d a H') : HSim C Z m (h.set n d) (upd H a o) := by
  have hz := s.off n a d0 e e0 hl
  have hn : n < h.length := (List.getElem?_eq_some_iff.mp e0).1
  refine ⟨fun b u q => ?_, by simp [s.len], s.nd, fun k b u q1 q2 hdd => ?_, fun k b u q1 q2 => ?_, tabs_put s.tab fun u q => ?_, s.noT⟩
  · rw [upd_ne (fun z => by subst z; rw [hz] at q; cases q)]; exact s.sub b u q
  · by_cases hk : n = k
    · subst hk; rw [e] at q1; cases q1; exact hz
    · rw [List.getElem?_set_ne hk] at q2; exact s.off k b u q1 q2 hdd
  · by_cases hk : n = k
    · subst hk
      rw [e] at q1; cases q1
      rw [List.getElem?_set_self hn] at q2; cases q2
      exact hd _ upd_same
    · rw [List.getElem?_set_ne hk] at q2
      have hb : b ≠ a := fun z => by
        subst z
        have h1 := List.getElem?_eq_some_iff.mp e
        have h2 := List.getElem?_eq_some_iff.mp q1
        exact hk ((List.getElem_inj s.nd).mp (h1.2.trans h2.2.symm))
      exact (s.obj k b u q1 q2).at (upd_ne hb)
  · obtain ⟨w, e1, e2⟩ := objAt_plain (s.obj n a d0 e e0)
    rw [e1] at q; cases q; exact e2
theorem Ext.put (s : HSim C Z m h H) {n : Nat} {a : Addr} (o : HO) (e : m[n]? = some a) (nf : ∀ o' x, H a ≠ some (.frz o' x)) : Ext Z m H Z m (upd H a o) :=
  ⟨fun b w q => q, List.prefix_refl _, fun b w q hb _ => by rw [upd_ne (fun z => hb (by subst z; exact List.mem_of_getElem? e))]; exact q, fun b q => .inl q, fun b q => .inl q, fun b w u q => by rw [upd_ne (fun z => by subst z; exact nf _ _ q)]; exact q⟩
end
end Dn
set_option Elab.async false
set_option linter.all false
set_option maxRecDepth 100000
set_option maxHeartbeats 4000000
namespace Dn
open PySem PySem.Spec PyProof.Rows L2
/-- an exception -/
def ExR (C : Cn) (Z : Hp) (m : List Addr) (H : Hp) (e : D) (c : Value) (od : Option Addr) : Prop := match e with
  | .exn n fs => ∃ A, C.cls n = some A ∧ c = .ref A ∧ ((fs = [] ∧ od = none) ∨ ∃ d gs, od = some d ∧ Z d = some (.xd gs) ∧ RepF C Z m fs gs)
  | _ => False
section
variable {α β γ δ : Type}
/-- what follows a value -/
def Post (C : Cn) (rep : Hp → List Addr → α → β → Prop) (E : XK) (r : R α) (Z : Hp) (m : List Addr) (H : Hp) (Q : β → Hp → Prop) : Prop := match r with
  | .ok d h => ∀ Z' m' H' v, Ext Z m H Z' m' H' → HSim C Z' m' h H' → rep Z' m' d v → Q v H'
  | .exc e h => ∀ Z' m' H' c od, Ext Z m H Z' m' H' → HSim C Z' m' h H' → ExR C Z' m' H' e c od → E c od H'
  | .err => False
theorem Post.imp {C : Cn} {rep : Hp → List Addr → α → β → Prop} {E : XK} {r : R α} {Z : Hp} {m : List Addr} {H : Hp} {Q Q' : β → Hp → Prop} (h : Post C rep E r Z m H Q) (hq : ∀ v H', Q v H' → Q' v H') : Post C rep E r Z m H Q' := by
  cases r with
  | ok d h' => exact fun Z' m' H' v a b c => hq _ _ (h Z' m' H' v a b c)
  | exc e h' => exact h
  | err => exact h
theorem Post.from {C : Cn} {rep : Hp → List Addr → α → β → Prop} {E : XK} {r : R α} {Z Z1 : Hp} {m m1 : List Addr} {H H1 : Hp} {Q : β → Hp → Prop} (x : Ext Z m H Z1 m1 H1) (h : Post C rep E r Z m H Q) : Post C rep E r Z1 m1 H1 Q := by
  cases r with
  | ok d h' => exact fun Z' m' H' v a b c => h Z' m' H' v (x.trans a) b c
  | exc e h' => exact fun Z' m' H' v od a b c => h Z' m' H' v od (x.trans a) b c
  | err => exact h
theorem Post.bind {C : Cn} {rep : Hp → List Addr → α → β → Prop} {rep1 : Hp → List Addr → γ → δ → Prop} {E : XK} {r : R γ} {k : γ → Hm → R α} {Z : Hp} {m : List Addr} {H : Hp} {Q : β → Hp → Prop} (h : Post C rep E (r.bind k) Z m H Q) :
    Post C rep1 E r Z m H fun v H1 => ∃ Z1 m1 d h1, Ext Z m H Z1 m1 H1 ∧ HSim C Z1 m1 h1 H1 ∧ rep1 Z1 m1 d v ∧ Post C rep E (k d h1) Z1 m1 H1 Q := by
  cases r with
  | ok d h' => exact fun Z' m' H' v a b c => ⟨Z', m', d, h', a, b, c, Post.from a h⟩
  | exc e h' => exact h
  | err => exact h
end
/-- the value is the mirror's -/
def RB (_ : Hp) (_ : List Addr) (d v : Bool) : Prop := v = d
/-- the frame -/
structure EnvR (C : Cn) (Z : Hp) (m : List Addr) (v : Ev) (σ : L2.St) : Prop where
  len : v.length = σ.length
  get : ∀ (i : Nat) (d : D), v[i]? = some (some d) → ∃ u, σ[i]? = some (some u) ∧ Rep C Z m d u
section
variable {C : Cn} {Z Z1 H H1 : Hp} {m m1 : List Addr} {v : Ev} {σ : L2.St}
theorem EnvR.mono (e : EnvR C Z m v σ) (x : Ext Z m H Z1 m1 H1) : EnvR C Z1 m1 v σ := ⟨e.len, fun i d q => let ⟨u, a, b⟩ := e.get i d q; ⟨u, a, b.mono x.sub x.pre⟩⟩
theorem EnvR.set (e : EnvR C Z m v σ) {d : D} {u : V} (r : Rep C Z m d u) (i : Nat) : EnvR C Z m (v.set i (some d)) (σ.set i (some u)) := by
  refine ⟨by simp [e.len], fun j w q => ?_⟩
  by_cases hj : i = j
  · subst hj
    have hi : i < v.length := by
      have := (List.getElem?_eq_some_iff.mp q).1
      simpa using this
    rw [List.getElem?_set_self hi] at q
    cases q
    exact ⟨u, List.getElem?_set_self (by rw [← e.len]; exact hi), r⟩
  · rw [List.getElem?_set_ne hj] at q ⊢
    exact e.get j w q
theorem EnvR.unset (e : EnvR C Z m v σ) (i : Nat) : EnvR C Z m (v.set i none) (σ.set i none) := by
  refine ⟨by simp [e.len], fun j w q => ?_⟩
  by_cases hj : i = j
  · subst hj
    have hi : i < v.length := by
      have := (List.getElem?_eq_some_iff.mp q).1
      simpa using this
    rw [List.getElem?_set_self hi] at q
    cases q
  · rw [List.getElem?_set_ne hj] at q ⊢
    exact e.get j w q
theorem EnvR.wipe (e : EnvR C Z m v σ) : ∀ own : List Nat, EnvR C Z m (wipeE v own) (wipe σ own)
  | [] => e
  | i :: r => (EnvR.wipe e r).unset i
theorem EnvR.start {N : List Str} {ds : List D} {vs : List V} {np : Nat} (r : RepL C Z m ds vs) (h : ds.length = np) : EnvR C Z m (ds.map some ++ List.replicate (N.length - np) none) (start N vs) := by
  have hl := r.length
  unfold L2.start
  rw [← h, ← hl]
  refine ⟨by simp [hl], fun i d q => ?_⟩
  by_cases hi : i < ds.length
  · rw [List.getElem?_append_left (by simpa using hi)] at q
    rw [List.getElem?_append_left (by simpa [← hl] using hi)]
    rw [List.getElem?_map] at q
    cases e : ds[i]? with
    | none => rw [e] at q; cases q
    | some x =>
      rw [e] at q; cases q
      obtain ⟨y, e2, r2⟩ := r.get e
      exact ⟨y, by rw [List.getElem?_map, e2]; rfl, r2⟩
  · rw [List.getElem?_append_right (by simpa using hi), List.getElem?_replicate] at q
    split at q <;> cases q
end
def denE (C : Cn) (E : WX) (f : EM) : TE := fun σ H Q => ∃ Z m v h, HSim C Z m h H ∧ EnvR C Z m v σ ∧ Post C (Rep C) (fun c d H' => E c d σ H') (f v h) Z m H Q
def denT (C : Cn) (E : WX) (f : TM) : TT := fun σ H Q => ∃ Z m v h, HSim C Z m h H ∧ EnvR C Z m v σ ∧ Post C RB (fun c d H' => E c d σ H') (f v h) Z m H Q
def denA (C : Cn) (E : WX) (f : AM) : TA := fun σ H Q => ∃ Z m v h, HSim C Z m h H ∧ EnvR C Z m v σ ∧ Post C (RepL C) (fun c d H' => E c d σ H') (f v h) Z m H Q
/-- a two-place operation by the mirror -/
def rD2 (C : Cn) (g : D → D → Hm → R D) : R2 := fun x y H Q => ∃ Z m h a b, HSim C Z m h H ∧ Rep C Z m a x ∧ Rep C Z m b y ∧ Post C (Rep C) (fun _ _ _ => False) (g a b h) Z m H Q
/-- a call of a value by the mirror -/
def rDF (C : Cn) (g : FM) : List V → Hp → VK → Prop := fun xs H Q => ∃ Z m h ds, HSim C Z m h H ∧ RepL C Z m ds xs ∧ Post C (Rep C) (fun _ _ _ => False) (g ds h) Z m H Q
/-- an operation of the mirror that raises nothing -/
def NoX {α : Type} (r : R α) : Prop := ∀ e h, r ≠ .exc e h
theorem Post.nox {α β : Type} {C : Cn} {rep : Hp → List Addr → α → β → Prop} {E : XK} {r : R α} {Z : Hp} {m : List Addr} {H : Hp} {Q : β → Hp → Prop} (h : Post C rep E r Z m H Q) (n : NoX r) : Post C rep (fun _ _ _ => False) r Z m H Q := by
  cases r with
  | ok d h' => exact h
  | exc e h' => exact absurd rfl (n e h')
  | err => exact h
section
variable {X : Cx} {C : Cn} {E : WX}
theorem pe_imp {e : Expr} {t t' : TE} (h : PE X e t) (hi : ∀ σ H Q, t' σ H Q → t σ H Q) : PE X e t' := ⟨fun pins s σ H Q I q => h.run pins s σ H Q I (hi _ _ _ q)⟩
theorem pt_imp {e : Expr} {t t' : TT} (h : PT X e t) (hi : ∀ σ H Q, t' σ H Q → t σ H Q) : PT X e t' := ⟨fun pins s σ H Q I q => h.run pins s σ H Q I (hi _ _ _ q)⟩
theorem pa_imp {e : List Expr} {t t' : TA} (h : PA X e t) (hi : ∀ σ H Q, t' σ H Q → t σ H Q) : PA X e t' := ⟨fun w pins s σ H Q I q => h.run w pins s σ H Q I (hi _ _ _ q)⟩
theorem ps_imp {e : Stmt} {t t' : TS} (h : PS X e t) (hi : ∀ D σ H, t' D σ H → t D σ H) : PS X e t' := ⟨fun pins s σ H D I q => h.run pins s σ H D I (hi _ _ _ q)⟩
theorem pss_imp {e : List Stmt} {t t' : TS} (h : PSs X e t) (hi : ∀ D σ H, t' D σ H → t D σ H) : PSs X e t' := ⟨fun pins s σ H D I q => h.run pins s σ H D I (hi _ _ _ q)⟩
theorem de_var (i : Nat) {x : Str} {pos : Pos} (hN : X.N[i]? = some x := by rfl) (hv : Vis X.env.scope x := by first | exact Or.inl rfl | exact Or.inr (Or.inl rfl) | exact Or.inr (Or.inr rfl)) (hd : (x == ("__debug__" : Str)) = false := by decide)
    (hcd : (x == ("__classdict__" : Str)) = false := by decide) : PE X (.Name x pos) (denE C E (eV i)) := by
  refine pe_imp (pe_var hN hv hd hcd) fun σ H Q ⟨Z, m, v, h, s, e, p⟩ => ?_
  unfold eV at p
  split at p
  · rename_i d q
    obtain ⟨u, e1, r⟩ := e.get i d q
    exact ⟨u, e1, p _ _ _ _ .refl s r⟩
  · exact False.elim p
theorem de_int {i : Int} {j pos} : PE X (.Constant (.int i) j pos) (denE C E (eC (.int i))) := pe_imp pe_int fun _ _ _ ⟨_, _, _, _, s, _, p⟩ => p _ _ _ _ .refl s (.int _)
theorem de_bl {b : Bool} {j pos} : PE X (.Constant (.bool b) j pos) (denE C E (eC (.bl b))) := pe_imp pe_bl fun _ _ _ ⟨_, _, _, _, s, _, p⟩ => p _ _ _ _ .refl s (.bl _)
theorem de_str {x : Str} {j pos} : PE X (.Constant (.str x) j pos) (denE C E (eC (.str x))) := pe_imp pe_str fun _ _ _ ⟨_, _, _, _, s, _, p⟩ => p _ _ _ _ .refl s (.str _)
/-- two parts, then an operation by values -/
theorem tOp_den {r : R2} {g : D → D → Hm → R D} {fa fb : EM} (hr : ∀ x y H Q, rD2 C g x y H Q → r x y H Q) (hx : ∀ a b h, NoX (g a b h)) {σ : L2.St} {H : Hp} {Q : VK} (h : denE C E (eB g fa fb) σ H Q) : tOp r (denE C E fa) (denE C E fb) σ H Q := by
  obtain ⟨Z, m, v, h, s, e, p⟩ := h
  refine ⟨Z, m, v, h, s, e, (p.bind (rep1 := Rep C)).imp fun x H1 ⟨Z1, m1, a, h1, x1, s1, r1, p1⟩ => ?_⟩
  refine ⟨Z1, m1, v, h1, s1, e.mono x1, (p1.bind (rep1 := Rep C)).imp fun y H2 ⟨Z2, m2, b, h2, x2, s2, r2, p2⟩ => ?_⟩
  exact hr _ _ _ _ ⟨Z2, m2, h2, a, b, s2, r1.mono x2.sub x2.pre, r2, p2.nox (hx a b h2)⟩
theorem de_op {op : Operator} {a b : Expr} {pos : Pos} {g : D → D → Hm → R D} {fa fb : EM} (ho : OpR X (binaryOp op) (rD2 C g)) (hx : ∀ a b h, NoX (g a b h)) (ha : PE X a (denE C E fa)) (hb : PE X b (denE C E fb)) : PE X (.BinOp a op b pos) (denE C E (eB g fa fb)) :=
  pe_imp (pe_op ho ha hb) fun _ _ _ h => tOp_den (fun _ _ _ _ z => z) hx h
theorem de_cmp {op : CmpOp} {a b : Expr} {pos : Pos} {g : D → D → Hm → R D} {fa fb : EM} (ho : OpR X (compareOp op) (rD2 C g)) (hx : ∀ a b h, NoX (g a b h)) (ha : PE X a (denE C E fa)) (hb : PE X b (denE C E fb)) (hm : behindInMarks op b = false) : PE X (.Compare a [op] [b] pos) (denE C E (eB g fa fb)) :=
  pe_imp (pe_cmpR ho ha hb hm) fun _ _ _ h => tOp_den (fun _ _ _ _ z => z) hx h
theorem de_ix {a b : Expr} {pos : Pos} {g : D → D → Hm → R D} {fa fb : EM} (ho : IxR X (rD2 C g)) (hx : ∀ a b h, NoX (g a b h)) (ha : PE X a (denE C E fa)) (hb : PE X b (denE C E fb)) (hs : PlainIx b) : PE X (.Subscript a b pos) (denE C E (eB g fa fb)) :=
  pe_imp (pe_ix ho ha hb hs) fun _ _ _ h => tOp_den (fun _ _ _ _ z => z) hx h
theorem da_nil : PA X [] (denA C E aN) := pa_imp pa_nil fun _ _ _ ⟨_, _, _, _, s, _, p⟩ => p _ _ _ _ .refl s .nil
theorem da_cons {a : Expr} {r : List Expr} {fa : EM} {fr : AM} (ha : PE X a (denE C E fa)) (hr : PA X r (denA C E fr)) (hs : starEach (a :: r) X.env = (false, eval a X.env) :: starEach r X.env := by rfl) : PA X (a :: r) (denA C E (aC fa fr)) := by
  refine pa_imp (pa_cons ha hr hs) fun σ H Q ⟨Z, m, v, h, s, e, p⟩ => ?_
  refine ⟨Z, m, v, h, s, e, (p.bind (rep1 := Rep C)).imp fun x H1 ⟨Z1, m1, a, h1, x1, s1, r1, p1⟩ => ?_⟩
  refine ⟨Z1, m1, v, h1, s1, e.mono x1, (p1.bind (rep1 := RepL C)).imp fun y H2 ⟨Z2, m2, b, h2, x2, s2, r2, p2⟩ => ?_⟩
  exact p2 _ _ _ _ .refl s2 (.cons (r1.mono x2.sub x2.pre) r2)
theorem sz_le {n : Nat} (h : n ≤ 16777216) : n ≤ sizeLine := by rw [sizeLine_eq]; exact h
theorem de_tup {es : List Expr} {pos : Pos} {x1} {f : AM} (ha : PA X es (denA C E f)) : PE X (.Tuple es x1 pos) (denE C E (eTup f)) := by
  refine pe_imp (pe_tup ha) fun σ H Q ⟨Z, m, v, h, s, e, p⟩ => ?_
  refine ⟨Z, m, v, h, s, e, (p.bind (rep1 := RepL C)).imp fun xs H1 ⟨Z1, m1, a, h1, x1, s1, r1, p1⟩ => ?_⟩
  split at p1
  · rename_i hl
    refine ⟨by rw [← r1.length]; exact sz_le hl, fun q hq => ?_⟩
    exact p1 _ _ _ _ (Ext.lay s1 hq _) (s1.lay hq _) (.tup upd_same (r1.mono (Ext.lay s1 hq _).sub (List.prefix_refl _)))
  · exact False.elim p1
theorem de_lst {es : List Expr} {pos : Pos} {f : AM} (ha : PA X es (denA C E f)) : PE X (.List es pos) (denE C E (eLst f)) := by
  refine pe_imp (pe_lst ha) fun σ H Q ⟨Z, m, v, h, s, e, p⟩ => ?_
  refine ⟨Z, m, v, h, s, e, (p.bind (rep1 := RepL C)).imp fun xs H1 ⟨Z1, m1, a, h1, x1, s1, r1, p1⟩ => ?_⟩
  split at p1
  · rename_i hl
    refine ⟨by rw [← r1.length]; exact sz_le hl, fun q hq => ?_⟩
    exact p1 _ _ _ _ (Ext.lay s1 hq _) (s1.lay hq _) (.lst upd_same (r1.mono (Ext.lay s1 hq _).sub (List.prefix_refl _)))
  · exact False.elim p1
theorem at_new {m : List Addr} {a : Addr} {n : Nat} (h : m.length = n) : (m ++ [a])[n]? = some a := by
  subst h
  simp
theorem de_new {es : List Expr} {pos : Pos} {f : AM} (ha : PA X es (denA C E f)) : PE X (.List es pos) (denE C E (eNew f)) := by
  refine pe_imp (pe_lst ha) fun σ H Q ⟨Z, m, v, h, s, e, p⟩ => ?_
  refine ⟨Z, m, v, h, s, e, (p.bind (rep1 := RepL C)).imp fun xs H1 ⟨Z1, m1, a, h1, x1, s1, r1, p1⟩ => ?_⟩
  split at p1
  · rename_i hl
    refine ⟨by rw [← r1.length]; exact sz_le hl, fun q hq => ?_⟩
    exact p1 _ _ _ _ (Ext.alloc s1 hq _) (s1.alloc hq fun H' e => ⟨xs, e, r1.mono (fun _ _ z => z) (List.prefix_append _ _)⟩) (.ref (at_new s1.len))
  · exact False.elim p1
/-- a def's promise: it does as the mirror does -/
def spD (C : Cn) (f : FM) : Sp := fun vs H Q E => ∃ Z m h ds, HSim C Z m h H ∧ RepL C Z m ds vs ∧ Post C (Rep C) E (f ds h) Z m H Q
theorem de_call {CX : CXT} {k : Nat} {f : Addr} {fd : FuncData} {ps : List Str} {fm : FM} {x : Str} {p pos : Pos} {a : Expr} {es : List Expr} {fa : AM} (F : FnOk X.prog X.w X.K X.mg X.base CX k f fd ps (spD C fm)) (hr : Room k X.A) (hg : Gl X x) (hm : X.mg x = some (.ref f)) (hk : PySem.W.keepIn X.K (.ref f) = true) (hb : Binds X.K fd ps [])
    (hx : ∀ σ, PassesAt CX X σ (fun c d H => E c d σ H)) (ha : PA X (a :: es) (denA C E fa)) (hdb : (x == ("__debug__" : Str)) = false := by decide) (he : starEach (a :: es) X.env = (false, eval a X.env) :: starEach es X.env := by rfl) (hpl : (backTo pos (starEach es X.env)).any (·.1) = false := by rfl) :
    PE X (.Call (.Name x p) (a :: es) [] pos) (denE C E (eF fm fa)) := by
  refine ⟨fun pins s σ H Q I q => ?_⟩
  obtain ⟨Z, m, v, h, s1, e, pp⟩ := q
  refine wpAny_Call_Name_kw (ld_glob I hg hm ?_ hdb)
  have q1 : denA C E fa σ H fun vs H1 => spD C fm (vs ++ []) H1 Q (fun c d H' => E c d σ H') := ⟨Z, m, v, h, s1, e, (pp.bind (rep1 := RepL C)).imp fun xs H1 ⟨Z1, m1, a, h1, x1, s1, r1, p1⟩ => ⟨Z1, m1, h1, a, s1, by rw [List.append_nil]; exact r1, p1⟩⟩
  refine PySem.W.callWith_K (h₀ := X.base) I.ok.mod.kin hk (thn (ha.run pos pins s σ H _ I q1) fun us s1 ⟨vs, H1, I1, r, q⟩ => ⟨I1.kIn, ?_⟩) he hpl
  have r2 : Vals (vs ++ []) (us ++ []) := by rw [List.append_nil, List.append_nil]; exact r
  have hl : (us ++ []).length = ps.length := by rw [← r2.length]; exact F.len _ _ _ _ q
  refine wpAny_call (codeAny_mono (F.run X.A X.stack s1 H1 ⟨us, []⟩ (us ++ []) (vs ++ []) Q _ hr I1.env0 (hb s1 us I1.kIn hl) r2 q) fun r s' hq => ?_)
  cases r with
  | error e => exact hx σ pins H1 s1 e s' I1 hq
  | ok fl =>
    cases fl with
    | ret u => exact I1.after hq
    | next => exact False.elim hq
    | brk => exact False.elim hq
    | cont => exact False.elim hq
/-- a builtin's call -/
theorem tCB_den {r : List V → Hp → VK → Prop} {g : FM} {fa : AM} (hr : ∀ xs H Q, rDF C g xs H Q → r xs H Q) (hx : ∀ a h, NoX (g a h)) {σ : L2.St} {H : Hp} {Q : VK} (h : denE C E (eF g fa) σ H Q) : tCB r (denA C E fa) σ H Q := by
  obtain ⟨Z, m, v, h, s, e, p⟩ := h
  exact ⟨Z, m, v, h, s, e, (p.bind (rep1 := RepL C)).imp fun xs H1 ⟨Z1, m1, a, h1, x1, s1, r1, p1⟩ => hr _ _ _ ⟨Z1, m1, h1, a, s1, r1, p1.nox (hx a h1)⟩⟩
theorem de_callB {id : String} {x : Str} {p pos : Pos} {a : Expr} {es : List Expr} {g : FM} {fa : AM} (hc : CallR X (.builtin id) (rDF C g)) (hx : ∀ a h, NoX (g a h)) (hg : Gl X x) (hm : X.mg x = none) (hv : bootBuiltins x = some (.builtin id)) (ha : PA X (a :: es) (denA C E fa)) (hn : x ≠ "__name__" := by decide) (hdb : (x == ("__debug__" : Str)) = false := by decide)
    (he : starEach (a :: es) X.env = (false, eval a X.env) :: starEach es X.env := by rfl) (hpl : (backTo pos (starEach es X.env)).any (·.1) = false := by rfl) : PE X (.Call (.Name x p) (a :: es) [] pos) (denE C E (eF g fa)) :=
  pe_imp (pe_callB hc hg hm hv ha hn hdb he hpl) fun _ _ _ h => tCB_den (fun _ _ _ z => z) hx h
theorem dt_cmp {op : CmpOp} {a b : Expr} {pos : Pos} {g : D → D → Hm → R D} {fa fb : EM} (ho : OpR X (compareOp op) (rD2 C g)) (hx : ∀ a b h, NoX (g a b h)) (ha : PE X a (denE C E fa)) (hb : PE X b (denE C E fb)) (hm : behindInMarks op b = false) : PT X (.Compare a [op] [b] pos) (denT C E (tE (eB g fa fb))) := by
  refine pt_imp (pt_cmpR ho ha hb hm) fun σ H Q ⟨Z, m, v, h, s, e, p⟩ => ?_
  refine tOp_den (E := E) (fun _ _ _ _ z => z) hx ⟨Z, m, v, h, s, e, (p.bind (rep1 := Rep C)).imp fun x H1 ⟨Z1, m1, a, h1, x1, s1, r1, p1⟩ => ?_⟩
  cases r1 with
  | bl b => exact ⟨b, rfl, p1 _ _ _ _ .refl s1 rfl⟩
  | _ => exact False.elim p1
variable {a b c : Expr} {rest : List Expr} {pos : Pos}
/-- .. as values -/
theorem de_one {op} {fa : EM} (h : PE X a (denE C E fa)) : PE X (.BoolOp op [a] pos) (denE C E fa) := pe_one h
theorem de_and {fa fb : EM} (ha : PE X a (denE C E fa)) (hb : PE X (.BoolOp .And (b :: rest) pos) (denE C E fb)) : PE X (.BoolOp .And (a :: b :: rest) pos) (denE C E (eAnd fa fb)) := by
  refine pe_imp (pe_and ha hb) fun σ H Q ⟨Z, m, v, h, s, e, p⟩ => ?_
  refine ⟨Z, m, v, h, s, e, (p.bind (rep1 := Rep C)).imp fun x H1 ⟨Z1, m1, a, h1, x1, s1, r1, p1⟩ => ?_⟩
  cases r1 with
  | bl c =>
    cases c with
    | true => exact ⟨_, rfl, ⟨Z1, m1, v, h1, s1, e.mono x1, p1⟩⟩
    | false => exact ⟨_, rfl, p1 _ _ _ _ .refl s1 (.bl _)⟩
  | _ => exact False.elim p1
theorem de_not {fa : EM} (ha : PE X a (denE C E fa)) : PE X (.UnaryOp .Not a pos) (denE C E (eNot fa)) := by
  refine pe_imp (pe_not ha) fun σ H Q ⟨Z, m, v, h, s, e, p⟩ => ?_
  refine ⟨Z, m, v, h, s, e, (p.bind (rep1 := Rep C)).imp fun x H1 ⟨Z1, m1, a, h1, x1, s1, r1, p1⟩ => ?_⟩
  cases r1 with
  | bl c => exact ⟨_, rfl, p1 _ _ _ _ .refl s1 (.bl _)⟩
  | _ => exact False.elim p1
/-- a < b <= c -/
def eChain (g g' : D → D → Hm → R D) (fa fb fc : EM) : EM := fun v h => (fa v h).bind fun x h1 => (fb v h1).bind fun y h2 => (g x y h2).bind fun z h3 => match z with
  | .bl true => (fc v h3).bind fun w h4 => g' y w h4
  | .bl false => .ok (.bl false) h3
  | _ => .err
end
end Dn
set_option Elab.async false
set_option linter.all false
set_option maxRecDepth 100000
set_option maxHeartbeats 4000000
namespace Dn
open PySem PySem.Spec PyProof.Rows L2
/-- what follows a statement -/
def PostS (C : Cn) (E : WX) (r : Fl) (Z : Hp) (m : List Addr) (H : Hp) (K : Ends) : Prop := match r with
  | .nx v h => ∀ Z' m' H' σ, Ext Z m H Z' m' H' → HSim C Z' m' h H' → EnvR C Z' m' v σ → K.nx σ H'
  | .rt d h => ∀ Z' m' H' u, Ext Z m H Z' m' H' → HSim C Z' m' h H' → Rep C Z' m' d u → K.rt u H'
  | .bk v h => ∀ Z' m' H' σ, Ext Z m H Z' m' H' → HSim C Z' m' h H' → EnvR C Z' m' v σ → K.bk σ H'
  | .ct v h => ∀ Z' m' H' σ, Ext Z m H Z' m' H' → HSim C Z' m' h H' → EnvR C Z' m' v σ → K.ct σ H'
  | .exc e v h => ∀ Z' m' H' σ c od, Ext Z m H Z' m' H' → HSim C Z' m' h H' → EnvR C Z' m' v σ → ExR C Z' m' H' e c od → E c od σ H'
  | .err => False
theorem PostS.from {C : Cn} {E : WX} {r : Fl} {Z Z1 : Hp} {m m1 : List Addr} {H H1 : Hp} {K : Ends} (x : Ext Z m H Z1 m1 H1) (h : PostS C E r Z m H K) : PostS C E r Z1 m1 H1 K := by
  cases r with
  | nx v g => exact fun Z' m' H' σ a b c => h Z' m' H' σ (x.trans a) b c
  | rt v g => exact fun Z' m' H' σ a b c => h Z' m' H' σ (x.trans a) b c
  | bk v g => exact fun Z' m' H' σ a b c => h Z' m' H' σ (x.trans a) b c
  | ct v g => exact fun Z' m' H' σ a b c => h Z' m' H' σ (x.trans a) b c
  | exc e v g => exact fun Z' m' H' σ q od a b c => h Z' m' H' σ q od (x.trans a) b c
  | err => exact h
def denS (C : Cn) (E : WX) (f : SM) : TS := fun K σ H => ∃ Z m v h, HSim C Z m h H ∧ EnvR C Z m v σ ∧ PostS C E (f v h) Z m H K
/-- a target -/
def denG (C : Cn) (g : TgM) : TG := fun x σ H Q => ∃ Z m v h d, HSim C Z m h H ∧ EnvR C Z m v σ ∧ Rep C Z m d x ∧ ∃ v1, g d v h = some v1 ∧ ∀ σ1, EnvR C Z m v1 σ1 → Q σ1 H
/-- from an expression to what follows it in a statement -/
theorem Post.stm {C : Cn} {E : WX} {r : R D} {k : D → Hm → Fl} {v : Ev} {σ : L2.St} {Z : Hp} {m : List Addr} {H : Hp} {K : Ends} (e : EnvR C Z m v σ)
    (h : PostS C E (match r with | .ok d h1 => k d h1 | .exc x h1 => .exc x v h1 | .err => .err) Z m H K) :
    Post C (Rep C) (fun c d H' => E c d σ H') r Z m H fun x H1 => ∃ Z1 m1 d h1, Ext Z m H Z1 m1 H1 ∧ HSim C Z1 m1 h1 H1 ∧ Rep C Z1 m1 d x ∧ PostS C E (k d h1) Z1 m1 H1 K := by
  cases r with
  | ok d h1 => exact fun Z' m' H' v a b c => ⟨Z', m', d, h1, a, b, c, PostS.from a h⟩
  | exc x h1 => exact fun Z' m' H' c od a b q => h Z' m' H' σ c od a b (e.mono a) q
  | err => exact h
section
variable {X : Cx} {C : Cn} {E : WX} {pos : Pos}
theorem dss_nil : PSs X [] (denS C E sNx) := pss_imp pss_nil fun K σ H ⟨Z, m, v, h, s, e, p⟩ => p _ _ _ _ .refl s e
theorem dss_cons {st : Stmt} {rest : List Stmt} {fa fb : SM} (ha : PS X st (denS C E fa)) (hb : PSs X rest (denS C E fb)) : PSs X (st :: rest) (denS C E (sSeq fa fb)) := by
  refine pss_imp (pss_cons ha hb) fun K σ H ⟨Z, m, v, h, s, e, p⟩ => ?_
  refine ⟨Z, m, v, h, s, e, ?_⟩
  unfold sSeq at p
  cases q : fa v h with
  | nx v1 h1 =>
    rw [q] at p
    exact fun Z' m' H' σ' a b c => ⟨Z', m', v1, h1, b, c, PostS.from a p⟩
  | rt _ _ => rw [q] at p; exact p
  | bk _ _ => rw [q] at p; exact p
  | ct _ _ => rw [q] at p; exact p
  | exc _ _ _ => rw [q] at p; exact p
  | err => rw [q] at p; exact p
theorem dss_one {st : Stmt} {fa : SM} (ha : PS X st (denS C E fa)) : PSs X [st] (denS C E fa) := pss_one ha
theorem ds_ret {a : Expr} {fa : EM} (ha : PE X a (denE C E fa)) : PS X (.Return (some a) pos) (denS C E (sRet fa)) := by
  refine ps_imp (ps_ret ha) fun K σ H ⟨Z, m, v, h, s, e, p⟩ => ?_
  refine ⟨Z, m, v, h, s, e, (Post.stm (k := fun d h1 => .rt d h1) e p).imp fun x H1 ⟨Z1, m1, d, h1, x1, s1, r1, p1⟩ => p1 _ _ _ _ .refl s1 r1⟩
theorem ds_if {c : Expr} {a b : List Stmt} {ft : TM} {fa fb : SM} (hc : PT X c (denT C E ft)) (ha : PSs X a (denS C E fa)) (hb : PSs X b (denS C E fb)) : PS X (.If c a b pos) (denS C E (sIf ft fa fb)) := by
  refine ps_imp (ps_if hc ha hb) fun K σ H ⟨Z, m, v, h, s, e, p⟩ => ?_
  refine ⟨Z, m, v, h, s, e, ?_⟩
  unfold sIf at p
  cases q : ft v h with
  | ok k h1 =>
    rw [q] at p
    intro Z' m' H' b0 x b1 r
    cases (show b0 = k from r)
    cases k with
    | true => exact ⟨Z', m', v, h1, b1, e.mono x, PostS.from x p⟩
    | false => exact ⟨Z', m', v, h1, b1, e.mono x, PostS.from x p⟩
  | exc x h1 => rw [q] at p; exact fun Z' m' H' c od a b r => p Z' m' H' σ c od a b (e.mono a) r
  | err => rw [q] at p; exact p
theorem dg_name {i : Nat} {x : Str} (hN : X.N.Nodup) (hi : X.N[i]? = some x) (hx : Loc X.env.scope x) (hf : X.fn x = true ∨ X.env.scope.names.lookup x = some .local := by first | exact .inl rfl | exact .inr rfl | assumption) : PG X (.Name x pos) (denG C (gN i)) := by
  refine ⟨fun pins s σ H x u Q I r q => (pg_name (pos := pos) hN hi hx hf).run pins s σ H x u Q I r ?_⟩
  obtain ⟨Z, m, v, h, d, s1, e, rd, v1, q1, k⟩ := q
  cases q1
  exact k _ (e.set rd i)
/-- x = [.. for ..] on one line, x a local -/
theorem ds_set {i : Nat} {x : Str} {a : Expr} {fa : EM} {pos' : Pos} (hN : X.N.Nodup) (hi : X.N[i]? = some x) (hx : Loc X.env.scope x) (ha : PE X a (denE C E fa)) (hs : swapsWith a (some (.Name x pos')) pos.line X.env = pure false := by rfl) (hf : X.fn x = true ∨ X.env.scope.names.lookup x = some .local := by first | exact .inl rfl | exact .inr rfl | assumption) :
    PS X (.Assign [.Name x pos'] a pos) (denS C E (sAsg (gN i) fa)) := by
  refine ps_imp (L2.ps_set hN hi hx ha hs hf) fun K σ H ⟨Z, m, v, h, s, e, p⟩ => ?_
  refine ⟨Z, m, v, h, s, e, (Post.stm (k := fun d h1 => match gN i d v h1 with | some v1 => .nx v1 h1 | none => .err) e p).imp fun x H1 ⟨Z1, m1, d, h1, x1, s1, r1, p1⟩ => ?_⟩
  exact p1 _ _ _ _ .refl s1 ((e.mono x1).set r1 i)
/-- the walk's items come, whatever the mirror's state, as long as the check holds -/
def WkOk (C : Cn) (J : It) (k : Wk) (Z : Hp) (m : List Addr) (H0 : Hp) : Prop := ∀ (i : Nat) (Z' : Hp) (m' : List Addr) (h : Hm) (H : Hp), (∀ a o, Z a = some o → Z' a = some o) → m <+: m' → (∀ a o u, H0 a = some (.frz o u) → H a = some (.frz o u)) → HSim C Z' m' h H → k.chk h = true →
  (i < k.its.length → J.go i H ∧ ∀ x H', J.yld i H x H' → ∃ d Z1, k.its[i]? = some d ∧ Ext Z' m' H Z1 m' H' ∧ HSim C Z1 m' h H' ∧ Rep C Z1 m' d x) ∧ (k.its.length ≤ i → J.stop i H)
/-- what a for walks -/
def denW (C : Cn) (E : WX) (w : Ev → Hm → R Wk) : TI := fun σ H Q => ∃ Z m v h, HSim C Z m h H ∧ EnvR C Z m v σ ∧ (match w v h with
  | .ok k h1 => ∀ Z1 m1 H1 J, Ext Z m H Z1 m1 H1 → HSim C Z1 m1 h1 H1 → WkOk C J k Z1 m1 H1 → Q J H1
  | .exc e h1 => ∀ Z' m' H' c od, Ext Z m H Z' m' H' → HSim C Z' m' h1 H' → ExR C Z' m' H' e c od → E c od σ H'
  | .err => False)
theorem ds_for {tg iter : Expr} {body : List Stmt} {g : TgM} {w : Ev → Hm → R Wk} {fb : SM} (hp : PassesOwn (model X.prog X.w) X.A X.env X.xe) (hc : X.calm = true) (hi : PI X tg iter (denW C E w)) (hg : PG X tg (denG C g)) (hb : PSs X body (denS C E fb))
    (hs : ∀ x, foldedSetIterable iter X.env x = pure x := by intro _; rfl) : PS X (.For tg iter body [] pos) (denS C E (sFor g w fb)) := by
  refine ps_imp (ps_for hp hc hi hg hb hs) fun K σ H ⟨Z, m, v, h, s, e, p⟩ => ?_
  refine ⟨Z, m, v, h, s, e, ?_⟩
  unfold sFor at p
  cases q : w v h with
  | exc x h1 => rw [q] at p; exact fun Z' m' H' c od a b r => p Z' m' H' σ c od a b (e.mono a) r
  | err => rw [q] at p; exact p
  | ok k h1 =>
    rw [q] at p
    intro Z1 m1 H1 J x1 s1 ok
    have p : PostS C E (forL g fb k.chk k.its v h1) Z m H K := p
    refine ⟨fun i n σ2 H2 => n = k.its.length - i ∧ i ≤ k.its.length ∧ ∃ Z2 m2 v2 h2, Ext Z1 m1 H1 Z2 m2 H2 ∧ HSim C Z2 m2 h2 H2 ∧ EnvR C Z2 m2 v2 σ2 ∧ PostS C E (forL g fb k.chk (k.its.drop i) v2 h2) Z2 m2 H2 K,
      ⟨_, rfl, Nat.zero_le _, Z1, m1, v, h1, .refl, s1, e.mono x1, PostS.from x1 p⟩, ?_⟩
    rintro i n σ2 H2 ⟨rfl, hi, Z2, m2, v2, h2, x2, s2, e2, p2⟩
    by_cases hc2 : k.chk h2 = true
    · obtain ⟨o1, o2⟩ := ok i Z2 m2 h2 H2 x2.sub x2.pre x2.frz s2 hc2
      by_cases hlt : i < k.its.length
      · obtain ⟨go, y⟩ := o1 hlt
        refine .inr ⟨go, fun σ' H' => i + 1 ≤ k.its.length ∧ ∃ Z2 m2 v2 h2, Ext Z1 m1 H1 Z2 m2 H' ∧ HSim C Z2 m2 h2 H' ∧ EnvR C Z2 m2 v2 σ' ∧ PostS C E (forL g fb k.chk (k.its.drop (i + 1)) v2 h2) Z2 m2 H' K,
          fun σ' H' z => ⟨k.its.length - (i + 1), by omega, rfl, z⟩, fun x H' yy => ?_⟩
        obtain ⟨d, Z3, hd, x3, s3, r3⟩ := y x H' yy
        have hdrop : k.its.drop i = d :: k.its.drop (i + 1) := by
          obtain ⟨hl, he⟩ := List.getElem?_eq_some_iff.mp hd
          rw [List.drop_eq_getElem_cons hl, he]
        rw [hdrop] at p2
        simp only [forL, hc2, if_true] at p2
        cases qg : g d v2 h2 with
        | none => rw [qg] at p2; exact False.elim p2
        | some v3 =>
          rw [qg] at p2
          refine ⟨Z3, m2, v2, h2, d, s3, e2.mono x3, r3, v3, qg, fun σ3 e3 => ?_⟩
          refine ⟨Z3, m2, v3, h2, s3, e3, ?_⟩
          have p2 : PostS C E (match fb v3 h2 with | .nx v2 h2 => forL g fb k.chk (k.its.drop (i + 1)) v2 h2 | .ct v2 h2 => forL g fb k.chk (k.its.drop (i + 1)) v2 h2 | .bk v2 h2 => .nx v2 h2 | o => o) Z2 m2 H2 K := p2
          cases qb : fb v3 h2 with
          | nx v4 h4 => rw [qb] at p2; exact fun Z' m' H' σ' a b c => ⟨hlt, Z', m', v4, h4, x2.trans (x3.trans a), b, c, PostS.from (x3.trans a) p2⟩
          | ct v4 h4 => rw [qb] at p2; exact fun Z' m' H' σ' a b c => ⟨hlt, Z', m', v4, h4, x2.trans (x3.trans a), b, c, PostS.from (x3.trans a) p2⟩
          | bk v4 h4 => rw [qb] at p2; exact fun Z' m' H' σ' a b c => p2 Z' m' H' σ' (x3.trans a) b c
          | rt d4 h4 => rw [qb] at p2; exact fun Z' m' H' σ' a b c => p2 Z' m' H' σ' (x3.trans a) b c
          | exc e4 v4 h4 => rw [qb] at p2; exact fun Z' m' H' σ' c od a b r => p2 Z' m' H' σ' c od (x3.trans a) b r
          | err => rw [qb] at p2; exact False.elim p2
      · have hi2 : i = k.its.length := by omega
        subst hi2
        rw [List.drop_length] at p2
        simp only [forL, hc2, if_true] at p2
        exact .inl ⟨o2 (Nat.le_refl _), p2 _ _ _ _ .refl s2 e2⟩
    · exfalso
      cases hd : k.its.drop i with
      | nil => rw [hd] at p2; simp only [forL, hc2] at p2; exact p2
      | cons d r => rw [hd] at p2; simp only [forL, hc2] at p2; exact p2
end
end Dn
set_option Elab.async false
set_option linter.all false
set_option maxRecDepth 100000
set_option maxHeartbeats 4000000
namespace Dn
open PySem PySem.Spec PyProof.Rows L2
theorem wipe_get (σ : L2.St) : ∀ (vs : List Nat) (j : Nat), (wipe σ vs)[j]? = if j ∈ vs then (σ[j]?).map (fun _ => none) else σ[j]?
  | [], j => by simp [wipe]
  | v :: vs, j => by
    unfold wipe
    by_cases hj : v = j
    · subst hj
      rw [List.getElem?_set, if_pos rfl, wipe_length, if_pos List.mem_cons_self]
      by_cases hl : v < σ.length
      · rw [if_pos hl, List.getElem?_eq_getElem hl]; rfl
      · rw [if_neg hl, List.getElem?_eq_none (by omega)]; rfl
    · rw [List.getElem?_set_ne hj, wipe_get σ vs j]
      simp [List.mem_cons, Ne.symm hj]
theorem wipe_set {σ : L2.St} {vs : List Nat} {i : Nat} (x : Option V) (h : i ∈ vs) : wipe (σ.set i x) vs = wipe σ vs := by
  apply List.ext_getElem?
  intro j
  rw [wipe_get, wipe_get]
  by_cases hj : j ∈ vs
  · rw [if_pos hj, if_pos hj, List.getElem?_set]
    by_cases hi : i = j
    · subst hi
      rw [if_pos rfl]
      by_cases hl : i < σ.length
      · rw [if_pos hl, List.getElem?_eq_getElem hl]; rfl
      · rw [if_neg hl, List.getElem?_eq_none (by omega)]
    · rw [if_neg hi]
  · rw [if_neg hj, if_neg hj, List.getElem?_set_ne (fun z => hj (by rw [← z]; exact h))]
theorem wipe_wipe (σ : L2.St) (vs : List Nat) : wipe (wipe σ vs) vs = wipe σ vs := by
  apply List.ext_getElem?
  intro j
  rw [wipe_get, wipe_get]
  by_cases hj : j ∈ vs
  · rw [if_pos hj]
    simp only [hj, if_true, Option.map_map]
    rfl
  · rw [if_neg hj]
/-- a comprehension's target: its reading's slots are known -/
structure LcG (C : Cn) (g : TgM) (t : TG) (own : List Nat) : Prop where
  ok : ∀ (Z : Hp) (m : List Addr) (d : D) (x : V) (v v1 : Ev) (h : Hm) (σ : L2.St) (H : Hp) (Q : L2.St → Hp → Prop), (∀ a o, Z a = some o → H a = some o) → Rep C Z m d x → EnvR C Z m v σ → g d v h = some v1 → (∀ σ1, EnvR C Z m v1 σ1 → wipe σ1 own = wipe σ own → Q σ1 H) → t x σ H Q
theorem lcg_name {C : Cn} {i : Nat} {own : List Nat} (hi : i ∈ own) : LcG C (gN i) (gName i) own := ⟨fun Z m d x v v1 h σ H Q _ r e q k => by
  cases q
  exact k _ (e.set r i) (wipe_set _ hi)⟩
theorem HSim.side {C : Cn} {Z H : Hp} {m : List Addr} {h : Hm} (s : HSim C Z m h H) {p : Addr} (o : HO) (hm : p ∉ m) (hz : Z p = none) (hp : ∀ u, H p = some u → Plainly u) : HSim C Z m h (upd H p o) := by
  refine ⟨fun a u e => ?_, s.len, s.nd, s.off, fun n a u e1 e2 => ?_, tabs_put s.tab hp, s.noT⟩
  · rw [upd_ne (fun z => by subst z; rw [hz] at e; cases e)]; exact s.sub a u e
  · exact (s.obj n a u e1 e2).at (upd_ne fun z => hm (by subst z; exact List.mem_of_getElem? e1))
theorem Post.base {α β γ δ : Type} {C : Cn} {rep : Hp → List Addr → α → β → Prop} {rep1 : Hp → List Addr → γ → δ → Prop} {E : XK} {r : R γ} {k : γ → Hm → R α} {Z Zb : Hp} {m mb : List Addr} {H Hb : Hp} {Q : β → Hp → Prop} (h : Post C rep E (r.nx.bind k) Zb mb Hb Q) :
    Post C rep1 (fun _ _ _ => False) r Z m H fun v H1 => ∃ Z1 m1 d h1, Ext Z m H Z1 m1 H1 ∧ HSim C Z1 m1 h1 H1 ∧ rep1 Z1 m1 d v ∧ Post C rep E (k d h1) Zb mb Hb Q := by
  cases r with
  | ok d h' => exact fun Z' m' H' v a b c => ⟨Z', m', d, h', a, b, c, h⟩
  | exc e h' => exact False.elim h
  | err => exact h
theorem HSim.fin {C : Cn} {Z H : Hp} {m : List Addr} {h : Hm} (s : HSim C Z m h H) {p : Addr} {o : HO} (hm : p ∉ m) (hz : Z p = none) (hp : H p = some o) (ho : ∀ ps, o ≠ .tbl ps := by intro _ z; cases z) : HSim C (upd Z p o) m h H := by
  refine ⟨fun a u e => ?_, s.len, s.nd, fun n a u e1 e2 hd => ?_, fun n a u e1 e2 => ?_, s.tab, fun a ps e => ?_⟩
  · by_cases ha : a = p
    · subst ha; rw [upd_same] at e; rw [hp]; exact e
    · rw [upd_ne ha] at e; exact s.sub a u e
  · rw [upd_ne (fun z => hm (by subst z; exact List.mem_of_getElem? e1))]; exact s.off n a u e1 e2 hd
  · exact (s.obj n a u e1 e2).mono (fun b w e => by rw [upd_ne (fun z => by subst z; rw [hz] at e; cases e)]; exact e) (List.prefix_refl _)
  · by_cases ha : a = p
    · subst ha; rw [upd_same] at e; exact ho ps (Option.some.inj e)
    · rw [upd_ne ha] at e; exact s.noT a ps e
theorem Ext.side {Z H Z' H' : Hp} {m m' : List Addr} (x : Ext Z m H Z' m' H') {p : Addr} (o : HO) (hp : H p = none) : Ext Z m H Z' m' (upd H' p o) :=
  ⟨x.sub, x.pre, fun a u e hm nt => by rw [upd_ne (fun z => by subst z; rw [hp] at e; cases e)]; exact x.keep a u e hm nt, x.newM, x.newZ, fun a u w e => by rw [upd_ne (fun z => by subst z; rw [hp] at e; cases e)]; exact x.frz a u w e⟩
theorem Ext.fin {Z H Z' H' : Hp} {m m' : List Addr} (x : Ext Z m H Z' m' H') {p : Addr} (o : HO) (hp : H p = none) (hz : Z' p = none) : Ext Z m H (upd Z' p o) m' H' := by
  refine ⟨fun a u e => ?_, x.pre, x.keep, x.newM, fun a e => ?_, x.frz⟩
  · have := x.sub a u e
    rw [upd_ne (fun z => by subst z; rw [hz] at this; cases this)]; exact this
  · by_cases ha : a = p
    · subst ha; exact .inr (.inr (frt_none hp))
    · rw [upd_ne ha] at e; exact x.newZ a e
section
variable {X : Cx} {C : Cn} {E : WX} {pos : Pos}
/-- nothing is let out -/
abbrev EF : WX := fun _ _ _ _ => False
theorem tLc_den {wi : TI} {t : TG} {tt : TT} {te : TE} {own : List Nat} {g : TgM} {w : Ev → Hm → R Wk} {ft : TM} {fe : EM} (hw : ∀ σ H Q, denW C E w σ H Q → wi σ H Q) (hg : LcG C g t own) (ht : ∀ σ H Q, denT C EF ft σ H Q → tt σ H Q) (he : ∀ σ H Q, denE C EF fe σ H Q → te σ H Q)
    {σ : L2.St} {H : Hp} {Q : VK} (hq : denE C E (eLc own g w ft fe) σ H Q) : tLc wi t tt te own σ H Q := by
  obtain ⟨Z, m, v, h, s, e, p⟩ := hq
  refine hw _ _ _ ⟨Z, m, v, h, s, e, ?_⟩
  unfold eLc at p
  cases q : w v h with
  | exc x h1 => rw [q] at p; exact p
  | err => rw [q] at p; exact p
  | ok k h1 =>
    rw [q] at p
    have p : Post C (Rep C) (fun c d H' => E c d σ H') (if k.its.length ≤ 16777215 then (lcL g ft fe k.chk (wipeE v own) k.its h1).bind fun ys h2 => .ok (.lst ys) h2 else .err) Z m H Q := p
    intro Zb mb Hb J xb sb ok q0 hD
    have p := Post.from xb p
    split at p
    case isFalse => exact False.elim p
    rename_i hsz
    have hDm := sb.nm hD
    have hDz := sb.nz hD
    refine ⟨fun i n H2 => n = k.its.length - i ∧ i ≤ k.its.length ∧ ∃ Z2 m2 h2 acc vs, Ext Zb mb Hb Z2 m2 H2 ∧ HSim C Z2 m2 h2 H2 ∧ H2 q0 = some (.lst vs) ∧ RepL C Z2 m2 acc vs ∧ q0 ∉ m2 ∧ Z2 q0 = none ∧ acc.length ≤ i ∧
      Post C (Rep C) (fun c d H' => E c d σ H') ((lcL g ft fe k.chk (wipeE v own) (k.its.drop i) h2).bind fun ys h3 => .ok (.lst (acc ++ ys)) h3) Zb mb Hb Q,
      ⟨_, rfl, Nat.zero_le _, Zb, mb, h1, [], [], ⟨fun _ _ z => z, List.prefix_refl _, fun a o z _ _ => by rw [upd_ne (fun y => by subst y; rw [hD] at z; cases z)]; exact z, fun _ z => .inl z, fun _ z => .inl z, fun a o u z => by rw [upd_ne (fun y => by subst y; rw [hD] at z; cases z)]; exact z⟩, sb.side _ hDm hDz (fun u z => by rw [hD] at z; cases z), upd_same, .nil, hDm, hDz, Nat.le_refl _, p⟩, ?_⟩
    rintro i n H2 ⟨rfl, hi, Z2, m2, h2, acc, vs, x2, s2, hv, ra, d1, d2, hal, p2⟩
    have hck : k.chk h2 = true := by
      cases hc : k.chk h2 with
      | true => rfl
      | false =>
        exfalso
        cases hd : k.its.drop i with
        | nil => rw [hd] at p2; simp only [lcL, hc] at p2; exact p2
        | cons d r => rw [hd] at p2; simp only [lcL, hc] at p2; exact p2
    obtain ⟨o1, o2⟩ := ok i Z2 m2 h2 H2 x2.sub x2.pre x2.frz s2 hck
    by_cases hlt : i < k.its.length
    · obtain ⟨go, y⟩ := o1 hlt
      refine .inr ⟨go, fun H' => i + 1 ≤ k.its.length ∧ ∃ Z2 m2 h2 acc vs, Ext Zb mb Hb Z2 m2 H' ∧ HSim C Z2 m2 h2 H' ∧ H' q0 = some (.lst vs) ∧ RepL C Z2 m2 acc vs ∧ q0 ∉ m2 ∧ Z2 q0 = none ∧ acc.length ≤ i + 1 ∧
        Post C (Rep C) (fun c d H' => E c d σ H') ((lcL g ft fe k.chk (wipeE v own) (k.its.drop (i + 1)) h2).bind fun ys h3 => .ok (.lst (acc ++ ys)) h3) Zb mb Hb Q,
        fun H' z => ⟨_, by omega, rfl, z⟩, fun x H3 yy => ?_⟩
      obtain ⟨d, Z3, hd, x3, s3, r3⟩ := y x H3 yy
      have hdrop : k.its.drop i = d :: k.its.drop (i + 1) := by
        obtain ⟨hl, he⟩ := List.getElem?_eq_some_iff.mp hd
        rw [List.drop_eq_getElem_cons hl, he]
      rw [hdrop] at p2
      simp only [lcL, hck, if_true] at p2
      -- q0 is beside all that goes on
      have side : ∀ {Z' : Hp} {m' : List Addr} {H' : Hp}, Ext Z2 m2 H2 Z' m' H' → q0 ∉ m' ∧ Z' q0 = none ∧ H' q0 = some (.lst vs) := fun {Z' m' H'} x => by
        refine ⟨fun z => ?_, ?_, x.keep q0 _ hv d1 (fun _ z => by cases z)⟩
        · rcases x.newM q0 z with a | a
          · exact d1 a
          · exact fr_lst a hv
        · cases q : Z' q0 with
          | none => rfl
          | some u =>
            rcases x.newZ q0 (by rw [q]; simp) with a | a | a
            · exact absurd d2 a
            · exact absurd a d1
            · exact (frt_lst a hv).elim
      cases qg : g d (wipeE v own) h2 with
      | none => rw [qg] at p2; exact False.elim p2
      | some v1 =>
        rw [qg] at p2
        have e0 : EnvR C Z3 m2 (wipeE v own) (wipe σ own) := (((e.mono xb).mono x2).mono x3).wipe own
        refine hg.ok Z3 m2 d x _ v1 h2 _ H3 _ s3.sub r3 e0 qg fun σ1 e1 hw1 => ⟨by rw [hw1, wipe_wipe], ?_⟩
        have p3 : Post C (Rep C) (fun c d H' => E c d σ H') ((ft v1 h2).nx.bind fun c h1 => (if c then (fe v1 h1).nx.bind fun y h2 => (lcL g ft fe k.chk (wipeE v own) (k.its.drop (i + 1)) h2).bind fun ys h3 => .ok (y :: ys) h3 else lcL g ft fe k.chk (wipeE v own) (k.its.drop (i + 1)) h1).bind fun ys h3 => .ok (.lst (acc ++ ys)) h3) Zb mb Hb Q := by
          have : (((ft v1 h2).nx.bind fun c h1 => if c then (fe v1 h1).nx.bind fun y h2 => (lcL g ft fe k.chk (wipeE v own) (k.its.drop (i + 1)) h2).bind fun ys h3 => R.ok (y :: ys) h3 else lcL g ft fe k.chk (wipeE v own) (k.its.drop (i + 1)) h1).bind fun ys h3 => R.ok (Dn.D.lst (acc ++ ys)) h3) = ((ft v1 h2).nx.bind fun c h1 => (if c then (fe v1 h1).nx.bind fun y h2 => (lcL g ft fe k.chk (wipeE v own) (k.its.drop (i + 1)) h2).bind fun ys h3 => R.ok (y :: ys) h3 else lcL g ft fe k.chk (wipeE v own) (k.its.drop (i + 1)) h1).bind fun ys h3 => .ok (.lst (acc ++ ys)) h3) := by
            cases ft v1 h2 <;> rfl
          rw [← this]; exact p2
        refine ht _ _ _ ⟨Z3, m2, v1, h2, s3, e1, (Post.base (rep1 := RB) p3).imp fun b H4 ⟨Z4, m4, b', h4, x4, s4, r4, p4⟩ => ?_⟩
        cases (show b = b' from r4)
        cases b with
        | false =>
          obtain ⟨t1, t2, t3⟩ := side (x3.trans x4)
          exact ⟨hlt, Z4, m4, h4, acc, vs, x2.trans (x3.trans x4), s4, t3, ra.mono (x3.trans x4).sub (x3.trans x4).pre, t1, t2, by omega, p4⟩
        | true =>
          have p5 : Post C (Rep C) (fun c d H' => E c d σ H') ((fe v1 h4).nx.bind fun y h2 => (lcL g ft fe k.chk (wipeE v own) (k.its.drop (i + 1)) h2).bind fun ys h3 => .ok (.lst ((acc ++ [y]) ++ ys)) h3) Zb mb Hb Q := by
            have : (((fe v1 h4).nx.bind fun y h2 => (lcL g ft fe k.chk (wipeE v own) (k.its.drop (i + 1)) h2).bind fun ys h3 => R.ok (y :: ys) h3).bind fun ys h3 => R.ok (Dn.D.lst (acc ++ ys)) h3) = ((fe v1 h4).nx.bind fun y h2 => (lcL g ft fe k.chk (wipeE v own) (k.its.drop (i + 1)) h2).bind fun ys h3 => .ok (.lst ((acc ++ [y]) ++ ys)) h3) := by
              cases fe v1 h4 with
              | ok y h5 =>
                simp only [nx_ok, bind_ok]
                cases lcL g ft fe k.chk (wipeE v own) (k.its.drop (i + 1)) h5 <;> simp [R.bind, List.append_assoc]
              | exc _ _ => rfl
              | err => rfl
            rw [← this]; exact p4
          refine he _ _ _ ⟨Z4, m4, v1, h4, s4, e1.mono x4, (Post.base (rep1 := Rep C) p5).imp fun y H5 ⟨Z5, m5, y', h5, x5, s5, r5, p6⟩ => ?_⟩
          obtain ⟨t1, t2, t3⟩ := side (x3.trans (x4.trans x5))
          have hlen := ra.length
          refine ⟨vs, t3, by rw [sizeLine_eq]; omega, hlt, Z5, m5, h5, acc ++ [y'], vs ++ [y], (x2.trans (x3.trans (x4.trans x5))).side _ hD, s5.side _ t1 t2 (fun u z => by rw [t3] at z; cases z; exact ⟨(fun _ z => by cases z), fun _ z => by cases z⟩), upd_same, (ra.mono (x3.trans (x4.trans x5)).sub (x3.trans (x4.trans x5)).pre).append (.one r5), t1, t2, by simp; omega, p6⟩
    · have hi2 : i = k.its.length := by omega
      subst hi2
      rw [List.drop_length] at p2
      simp only [lcL, hck, if_true, bind_ok, List.append_nil] at p2
      refine .inl ⟨o2 (Nat.le_refl _), p2 (upd Z2 q0 (.lst vs)) m2 H2 _ (x2.fin _ hD d2) (s2.fin d1 d2 hv) (.lst upd_same (ra.mono (fun a o z => ?_) (List.prefix_refl _)))⟩
      rw [upd_ne (fun y => by subst y; rw [d2] at z; cases z)]; exact z
end
end Dn
set_option Elab.async false
set_option linter.all false
set_option maxRecDepth 100000
set_option maxHeartbeats 4000000
namespace Dn
open PySem PySem.Spec PyProof.Rows L2
section
variable {X : Cx} {C : Cn} {E : WX} {pos : Pos}
theorem pts_imp {e : List Expr} {t t' : TT} (h : PTs X e t) (hi : ∀ σ H Q, t' σ H Q → t σ H Q) : PTs X e t' := ⟨fun pins s σ H Q I q => h.run pins s σ H Q I (hi _ _ _ q)⟩
theorem dts_nil : PTs X [] (denT C E Dn.tYes) := pts_imp pts_nil fun _ _ _ ⟨_, _, _, _, s, _, p⟩ => p _ _ _ _ .refl s rfl
variable {elt tg iter : Expr} {ifs : List Expr} {scope : Scope} {own : List (Str × Nat)} {g : TgM} {t : TG} {w : Ev → Hm → R Wk} {ft : TM} {fe : EM}
theorem de_lc (hc : X.calm = true) (hN : X.N.Nodup) (ok : BlkOk X.N X.env.scope scope own) (hi : PI X tg iter (denW C E w)) (hl : LcG C g t (own.map (·.2)))
    (hg : ∀ (s : Shared) (H : Hp) (Ca : Addr) (cl : List (Str × Addr)) (fp : List Addr), PG (X.blk s H scope (compEnvC scope cl Ca X.env) fp) tg t) (ht : ∀ (s : Shared) (H : Hp) (Ca : Addr) (cl : List (Str × Addr)) (fp : List Addr), PTs (X.blk s H scope (compEnvC scope cl Ca X.env) fp) ifs (denT C EF ft))
    (he : ∀ (s : Shared) (H : Hp) (Ca : Addr) (cl : List (Str × Addr)) (fp : List Addr), PE (X.blk s H scope (compEnvC scope cl Ca X.env) fp) elt (denE C EF fe)) (hs : ∀ x, foldedSetIterable iter X.env x = pure x := by intro _; rfl) :
    PE X (.ListComp elt [⟨tg, iter, ifs, 0⟩] scope pos) (denE C E (eLc (own.map (·.2)) g w ft fe)) :=
  pe_imp (pe_lc hc hN hi ok hg ht he hs) fun σ H Q q => tLc_den (fun _ _ _ z => z) hl (fun _ _ _ z => z) (fun _ _ _ z => z) q
theorem wk_list {H0 : Hp} {Z H : Hp} {m : List Addr} {a : Addr} {vs : List V} {l : List D} (hK : C.K = X.K) (hq : SqL C.K Z a vs) (r : RepL C Z m l vs) : WkOk C (Itl X.K a) ⟨l, fun _ => true⟩ Z m H0 := by
  intro i Z' m' h H hz hm _ s _
  have q : SqL X.K H a vs := hK ▸ sqL_mono s.sub (sqL_mono hz hq)
  have r' := r.mono hz hm
  have hl := r.length
  refine ⟨fun hi => ⟨⟨vs, vs[i]'(by rw [← hl]; exact hi), q, List.getElem?_eq_getElem _⟩, fun x H' y => ?_⟩, fun hi => ⟨vs, q, by rw [← hl]; exact hi⟩⟩
  obtain ⟨rfl, y⟩ := y
  obtain ⟨d, e, rd⟩ := r'.getV (y vs q)
  exact ⟨d, Z', e, .refl, s, rd⟩
theorem wk_tup {H0 : Hp} {Z H : Hp} {m : List Addr} {a : Addr} {vs : List V} {l : List D} (hK : C.K = X.K) (hq : SqT C.K Z a vs) (r : RepL C Z m l vs) : WkOk C (Itt X.K a) ⟨l, fun _ => true⟩ Z m H0 := by
  intro i Z' m' h H hz hm _ s _
  have q : SqT X.K H a vs := hK ▸ sqT_mono s.sub (sqT_mono hz hq)
  have r' := r.mono hz hm
  have hl := r.length
  refine ⟨fun hi => ⟨⟨vs, vs[i]'(by rw [← hl]; exact hi), q, List.getElem?_eq_getElem _⟩, fun x H' y => ?_⟩, fun hi => ⟨vs, q, by rw [← hl]; exact hi⟩⟩
  obtain ⟨rfl, y⟩ := y
  obtain ⟨d, e, rd⟩ := r'.getV (y vs q)
  exact ⟨d, Z', e, .refl, s, rd⟩
theorem wk_ref {H0 : Hp} {Z H : Hp} {m : List Addr} {n : Nat} {a : Addr} {l : List D} (e : m[n]? = some a) : WkOk C (Itl X.K a) ⟨l, fun h' => match h'[n]? with | some o => HD.beq o (.lst l) | none => false⟩ Z m H0 := by
  intro i Z' m' h H hz hm _ s hc
  have hh : h[n]? = some (.lst l) := by
    cases q : h[n]? with
    | none => simp [q] at hc
    | some o => simp [q] at hc; rw [HD.beq_eq _ _ hc]
  obtain ⟨vs, hv, r⟩ := s.obj n a _ (pre_get hm e) hh
  have q : SqL X.K H a vs := .inl (.inl hv)
  have hl := r.length
  refine ⟨fun hi => ⟨⟨vs, vs[i]'(by rw [← hl]; exact hi), q, List.getElem?_eq_getElem _⟩, fun x H' y => ?_⟩, fun hi => ⟨vs, q, by rw [← hl]; exact hi⟩⟩
  obtain ⟨rfl, y⟩ := y
  obtain ⟨d, e, rd⟩ := r.getV (y vs q)
  exact ⟨d, Z', e, .refl, s, rd⟩
theorem wk_str {H0 : Hp} {Z : Hp} {m : List Addr} {x : Str} : WkOk C (Its x) ⟨x.cps.toList.map fun c => .str ⟨#[c]⟩, fun _ => true⟩ Z m H0 := by
  intro i Z' m' h H hz hm _ s _
  refine ⟨fun hi => ⟨(show i < x.cps.size by simpa using hi), fun y H' ⟨rfl, c, hc, e⟩ => ⟨.str ⟨#[c]⟩, Z', ?_, .refl, s, by rw [e]; exact .str _⟩⟩, fun hi => (show x.cps.size ≤ i by simpa using hi)⟩
  simp [hc]
theorem wk_range {H0 : Hp} {Z : Hp} {m : List Addr} {lo : Int} {n : Nat} : WkOk C (Itr lo n) ⟨(List.range n).map fun (i : Nat) => .int (lo + (i : Int)), fun _ => true⟩ Z m H0 := by
  intro i Z' m' h H hz hm _ s _
  refine ⟨fun hi => ⟨(show i < n by simpa using hi), fun y H' ⟨e1, e⟩ => ?_⟩, fun hi => (show n ≤ i by simpa using hi)⟩
  subst e1
  refine ⟨.int (lo + i), Z', ?_, .refl, s, by rw [e]; exact .int _⟩
  have : i < n := by simpa using hi
  simp [this]
/-- over a list, a tuple, a text -/
theorem di_e {a : Expr} {fa : EM} (hK : C.K = X.K) (ha : PE X a (denE C E fa)) : PI X tg a (denW C E (wE fa)) := by
  refine ⟨fun pins s0 σ H R I q => ?_⟩
  obtain ⟨Z, m, v, h, s, e, p⟩ := q
  unfold wE at p
  cases qa : fa v h with
  | err => rw [qa] at p; exact False.elim p
  | exc x h1 =>
    rw [qa] at p
    refine (pi_list ha).run pins s0 σ H R I ⟨Z, m, v, h, s, e, ?_⟩
    rw [qa]; exact p
  | ok d h1 =>
    rw [qa] at p
    simp only [bind_ok] at p
    cases d with
    | lst l =>
      refine (pi_list ha).run pins s0 σ H R I ⟨Z, m, v, h, s, e, ?_⟩
      rw [qa]
      intro Z' m' H' u x s' r
      cases r with
      | lst hq rl => exact ⟨_, rfl, ⟨_, .inl (.inl (s'.sub _ _ hq))⟩, p Z' m' H' _ x s' (wk_list (H := H') hK (.inl (.inl hq)) rl)⟩
    | tup l =>
      refine (pi_tup ha).run pins s0 σ H R I ⟨Z, m, v, h, s, e, ?_⟩
      rw [qa]
      intro Z' m' H' u x s' r
      cases r with
      | tup hq rl => exact ⟨_, rfl, ⟨_, .inl (.inl (s'.sub _ _ hq))⟩, p Z' m' H' _ x s' (wk_tup (H := H') hK (.inl (.inl hq)) rl)⟩
    | str y =>
      refine (pi_str ha).run pins s0 σ H R I ⟨Z, m, v, h, s, e, ?_⟩
      rw [qa]
      intro Z' m' H' u x s' r
      cases r with
      | str y => exact ⟨_, rfl, p Z' m' H' _ x s' wk_str⟩
    | ref n =>
      refine (pi_list ha).run pins s0 σ H R I ⟨Z, m, v, h, s, e, ?_⟩
      rw [qa]
      intro Z' m' H' u x s' r
      cases r with
      | ref en =>
        simp only [wkOf] at p
        split at p
        · rename_i l hl
          split at hl
          · rename_i l' hl'
            cases hl
            obtain ⟨vs, hv, rl⟩ := s'.obj n _ _ en hl'
            exact ⟨_, rfl, ⟨_, .inl (.inl hv)⟩, p Z' m' H' _ x s' (wk_ref (H := H') en)⟩
          · cases hl
        · rename_i hl; split at hl <;> cases hl
        · exact False.elim p
    | _ => exact False.elim p
theorem di_r1 {a : Expr} {fa : EM} {p pos : Pos} (hg : Gl X "range") (hm : X.mg "range" = none) (ha : PE X a (denE C E fa)) (hs : starEach [a] X.env = [(false, eval a X.env)] := by rfl) : PI X tg (.Call (.Name "range" p) [a] [] pos) (denW C E (wR1 fa)) := by
  refine ⟨fun pins s0 σ H R I q => (pi_range1 hg hm (pa_cons ha pa_nil hs) hs).run pins s0 σ H R I ?_⟩
  obtain ⟨Z, m, v, h, s, e, p⟩ := q
  refine ⟨Z, m, v, h, s, e, ?_⟩
  unfold wR1 at p
  cases qa : fa v h with
  | err => rw [qa] at p; exact False.elim p
  | exc x h1 => rw [qa] at p; exact p
  | ok d h1 =>
    rw [qa] at p
    intro Z' m' H' u x s' r
    simp only [bind_ok] at p
    cases r with
    | int n =>
      simp only [wRange] at p
      split at p
      · rename_i k h2 hb
        split at hb
        · rename_i hc
          cases hb
          refine ⟨n, rfl, hc.2.2.2, hc.2.2.1, p Z' m' H' _ x s' ?_⟩
          have := wk_range (C := C) (H0 := H') (Z := Z') (m := m') (lo := 0) (n := n.toNat)
          simpa using this
        · cases hb
      · rename_i hb; split at hb <;> cases hb
      · exact False.elim p
    | _ => exact False.elim p
end
section
variable {P : Program} {w : World} {K : PySem.W.Frag} {mg : Str → Option Value} {base : Heap} {C : Cn}
theorem spD_len {f : FM} {np : Nat} (hf : ∀ ds h, ds.length ≠ np → f ds h = .err) : ∀ vs H Q E, spD C f vs H Q E → vs.length = np := fun vs H Q E ⟨Z, m, h, ds, s, r, p⟩ => by
  by_cases hl : ds.length = np
  · rw [← hl, r.length]
  · rw [hf ds h hl] at p; exact False.elim p
theorem fn_end {E : WX} {Ex : XK} {N : List Str} {b : SM} {ds : List D} {vs : List V} {Z : Hp} {m : List Addr} {h : Hm} {H : Hp} {Q : VK} (s : HSim C Z m h H) (r : RepL C Z m ds vs) {np : Nat} (hE : ∀ c d σ H, Ex c d H → E c d σ H) (p : Post C (Rep C) Ex (fn np N.length b ds h) Z m H Q) :
    denS C E b { nx := fun _ H' => Q .non H', rt := Q } (start N vs) H := by
  unfold fn at p
  split at p
  · rename_i hl
    refine ⟨Z, m, _, h, s, EnvR.start r hl, ?_⟩
    generalize b (ds.map some ++ List.replicate (N.length - np) none) h = o at p ⊢
    cases o with
    | nx v1 h1 => exact fun Z' m' H' σ a b c => p Z' m' H' _ a b .non
    | rt d h1 => exact fun Z' m' H' u a b c => p Z' m' H' _ a b c
    | exc e v1 h1 => exact fun Z' m' H' σ c od a b _ r => hE _ _ _ _ (p Z' m' H' c od a b r)
    | _ => exact False.elim p
  · exact False.elim p
/-- a def that raises nothing -/
theorem fn_ok0 {x qual : Str} {st : Stmt} {f : Addr} {fd : FuncData} {N ps : List Str} {k : Nat} {b : SM} (F : Fun K x qual st f fd) (S : FnScope N ps (defScope st))
    (hbody : ∀ (cdv : Value) (A : Around) (outer : List Env) (s : Shared) (H : Hp) (E : XK), Room k (A.deeper (envOfC qual (defScope st) s.heap.objs.size f cdv)) → PSs (cxOf CX0 P w K mg base N qual (defScope st) f cdv A outer s H E).nox (defBody st) (denS C EF b)) :
    FnOk P w K mg base CX0 (k + 1) f fd ps (spD C (fn0 ps.length N.length b)) := by
  refine F.ok S (spD_len fun ds h hl => by unfold fn0 fn; rw [if_neg hl]; rfl) fun cdv A outer s H vs Q E hr hsp => ⟨_, hbody cdv A outer s H E hr, ?_⟩
  obtain ⟨Z, m, h, ds, s1, r, p⟩ := hsp
  refine fn_end (Ex := fun _ _ _ => False) (np := ps.length) s1 r (fun _ _ _ _ z => z) ?_
  unfold fn0 at p
  cases q : fn ps.length N.length b ds h with
  | ok d h1 => rw [q] at p; exact p
  | exc e h1 => rw [q] at p; exact False.elim p
  | err => rw [q] at p; exact p
theorem trOk_len : ∀ (h h1 : Hm) (n : Nat), trOk h h1 n = true → h.length ≤ h1.length
  | [], _, _, _ => Nat.zero_le _
  | _ :: _, [], _, e => by simp [trOk] at e
  | o :: r, p :: s, n, e => by
    simp only [trOk, Bool.and_eq_true] at e
    have := trOk_len r s n e.2
    simp; omega
theorem trOk_get : ∀ (h h1 : Hm) (n i : Nat) (o p : HD), trOk h h1 n = true → h[i]? = some o → h1[i]? = some p → p = o ∨ HD.cl n p = true
  | [], _, _, _, _, _, _, e, _ => by simp at e
  | _ :: _, [], _, _, _, _, _, _, e => by simp at e
  | a :: r, b :: s, n, 0, o, p, e, e1, e2 => by
    simp only [trOk, Bool.and_eq_true, Bool.or_eq_true] at e
    simp at e1 e2; subst e1; subst e2
    rcases e.1 with q | q
    · exact .inl (HD.beq_eq _ _ q).symm
    · exact .inr q
  | a :: r, b :: s, n, i + 1, o, p, e, e1, e2 => by
    simp only [trOk, Bool.and_eq_true] at e
    exact trOk_get r s n i o p e.2 (by simpa using e1) (by simpa using e2)
theorem tr_sim {Z Z' H H' : Hp} {m m' : List Addr} {h h1 : Hm} (s : HSim C Z m h H) (x : Ext Z m H Z' m' H') (s' : HSim C Z' m' h1 H') (ht : trOk h h1 h.length = true) : Ext Z m H Z' m H' ∧ HSim C Z' m (h1.take h.length) H' ∧ m'.take h.length = m := by
  have hm : m'.take h.length = m := by
    obtain ⟨t, rfl⟩ := x.pre
    rw [← s.len]; simp
  have hl := trOk_len _ _ _ ht
  refine ⟨⟨x.sub, List.prefix_refl _, x.keep, fun a e => .inl e, x.newZ, x.frz⟩, ⟨s'.sub, by simp [s.len, Nat.min_eq_left hl], s.nd, fun n a o e1 e2 hd => ?_, fun n a o e1 e2 => ?_, s'.tab, s'.noT⟩, hm⟩
  · have hn : n < h.length := by rw [← s.len]; exact (List.getElem?_eq_some_iff.mp e1).1
    rw [List.getElem?_take_of_lt hn] at e2
    exact s'.off n a o (pre_get x.pre e1) e2 hd
  · have hn : n < h.length := by rw [← s.len]; exact (List.getElem?_eq_some_iff.mp e1).1
    rw [List.getElem?_take_of_lt hn] at e2
    have z := s'.obj n a o (pre_get x.pre e1) e2
    have hc : HD.cl h.length o = true := by
      rcases trOk_get _ _ _ n _ _ ht (List.getElem?_eq_getElem hn) e2 with q | q
      · have := (s.obj n a _ e1 (List.getElem?_eq_getElem hn)).cl
        rw [s.len] at this
        rw [q]; exact this
      · exact q
    have := z.cut hc
    rwa [hm] at this
theorem fn_tr {CX : CXT} {k : Nat} {f : Addr} {fd : FuncData} {ps : List Str} {fm : FM} (F : FnOk P w K mg base CX k f fd ps (spD C fm)) : FnOk P w K mg base CX k f fd ps (spD C (tr fm)) := by
  refine F.imp fun vs H Q E ⟨Z, m, h, ds, s, r, p⟩ => ⟨Z, m, h, ds, s, r, ?_⟩
  unfold tr at p
  cases q : fm ds h with
  | err => rw [q] at p; exact False.elim p
  | ok d h1 =>
    rw [q] at p
    simp only at p
    split at p
    · rename_i hc
      simp only [Bool.and_eq_true] at hc
      intro Z' m' H' v x s' rv
      obtain ⟨x2, s2, hm⟩ := tr_sim s x s' hc.2
      refine p Z' m H' v x2 s2 ?_
      have := rv.cut hc.1
      rwa [hm] at this
    · exact False.elim p
  | exc d h1 =>
    rw [q] at p
    simp only at p
    split at p
    · rename_i hc
      simp only [Bool.and_eq_true] at hc
      intro Z' m' H' c od x s' rv
      obtain ⟨x2, s2, hm⟩ := tr_sim s x s' hc.2
      refine p Z' m H' c od x2 s2 ?_
      cases d with
      | exn n fs =>
        obtain ⟨A, e1, e2, e3⟩ := rv
        refine ⟨A, e1, e2, ?_⟩
        rcases e3 with e3 | ⟨d, gs, q1, q2, q3⟩
        · exact .inl e3
        · refine .inr ⟨d, gs, q1, q2, ?_⟩
          have := q3.cut (k := h.length) (by simpa [D.cl] using hc.1)
          rwa [hm] at this
      | _ => exact False.elim rv
    · exact False.elim p
end
end Dn
set_option Elab.async false
set_option linter.all false
set_option maxRecDepth 100000
set_option maxHeartbeats 4000000
namespace Dn
open PySem PySem.Spec PyProof.Rows L2
/-- a list, wherever it stands -/
def lsOf (h : Hm) : D → Option (List D)
  | .lst l => some l
  | .ref n => match h[n]? with
    | some (.lst l) => some l
    | _ => none
  | _ => none
def dr (h : Hm) (d : D) : D := match lsOf h d with
  | some l => .lst l
  | none => d
def keyD : D → Option L2.Key
  | .int i => some (.inl i)
  | .str x => some (.inr x)
  | _ => none
def dVal (k : L2.Key) : List (D × D) → Option D
  | [] => none
  | (a, d) :: r => if keyD a = some k then some d else dVal k r
def dPut (a : D) (k : L2.Key) (x : D) (l : List (D × D)) : List (D × D) := if (dVal k l).isSome = true then l.map (fun kv => if keyD kv.1 = some k then (kv.1, x) else kv) else l ++ [(a, x)]
def dcOf (h : Hm) : D → Option (List (D × D))
  | .ref n => match h[n]? with
    | some (.dct l) => some l
    | _ => none
  | _ => none
mutual
def D.pd : D → PyData
  | .non => .none | .bl b => .bool b | .int i => .int i | .str x => .str x
  | .tup l => .tuple (D.pdL l) | .lst l => .list (D.pdL l) | _ => .none
def D.pdL : List D → List PyData
  | [] => []
  | x :: xs => D.pd x :: D.pdL xs
end
mutual
def D.eqb : D → D → Bool
  | .non, .non => true
  | .bl a, .bl b => a == b
  | .bl a, .int j => (if a then 1 else 0) == j
  | .int i, .bl b => i == (if b then 1 else 0)
  | .int i, .int j => i == j
  | .str x, .str y => x == y
  | .lst xs, .lst ys => D.eqbL xs ys
  | .tup xs, .tup ys => D.eqbL xs ys
  | _, _ => false
def D.eqbL : List D → List D → Bool
  | [], [] => true
  | x :: xs, y :: ys => D.eqb x y && D.eqbL xs ys
  | _, _ => false
end
mutual
/-- plain data of depth at most n, its texts of signs alone -/
def D.okN : Nat → D → Bool
  | _, .non => true
  | _, .bl _ => true
  | _, .int _ => true
  | _, .str x => PyData.strOk x
  | n + 1, .tup l => D.okL n l
  | n + 1, .lst l => D.okL n l
  | _, _ => false
def D.okL : Nat → List D → Bool
  | _, [] => true
  | n, x :: xs => D.okN n x && D.okL n xs
end
mutual
theorem D.okN_lay : ∀ (n : Nat) (d : D), D.okN n d = true → d.pd.canLay0 = true ∧ d.pd.depth ≤ n
  | _, .non, _ => ⟨rfl, Nat.zero_le _⟩
  | _, .bl _, _ => ⟨rfl, Nat.zero_le _⟩
  | _, .int _, _ => ⟨rfl, Nat.zero_le _⟩
  | _, .str x, h => ⟨by simpa [D.pd, PyData.canLay0, D.okN] using h, Nat.zero_le _⟩
  | n + 1, .tup l, h => by
    obtain ⟨a, b⟩ := D.okL_lay n l (by simpa [D.okN] using h)
    exact ⟨by simpa [D.pd, PyData.canLay0] using a, by simp [D.pd, PyData.depth]; exact b⟩
  | n + 1, .lst l, h => by
    obtain ⟨a, b⟩ := D.okL_lay n l (by simpa [D.okN] using h)
    exact ⟨by simpa [D.pd, PyData.canLay0] using a, by simp [D.pd, PyData.depth]; exact b⟩
  | 0, .tup _, h => by simp [D.okN] at h
  | 0, .lst _, h => by simp [D.okN] at h
  | _, .ref _, h => by simp [D.okN] at h
  | _, .exn _ _, h => by simp [D.okN] at h
  | _, .scr _, h => by simp [D.okN] at h
theorem D.okL_lay : ∀ (n : Nat) (l : List D), D.okL n l = true → PyData.canLayAll0 (D.pdL l) = true ∧ PyData.depthAll (D.pdL l) ≤ n
  | _, [], _ => ⟨rfl, Nat.zero_le _⟩
  | n, x :: xs, h => by
    simp only [D.okL, Bool.and_eq_true] at h
    obtain ⟨a, b⟩ := D.okN_lay n x h.1
    obtain ⟨c, d⟩ := D.okL_lay n xs h.2
    exact ⟨by simp [D.pdL, PyData.canLayAll0, a, c], by simp [D.pdL, PyData.depthAll]; omega⟩
end
theorem D.shaped {d : D} (h : D.okN 64 d = true) : SeqAt.shaped d.pd = true := by
  obtain ⟨a, b⟩ := D.okN_lay 64 d h
  unfold SeqAt.shaped
  simp [a, b]
mutual
theorem D.eqv_eqb : ∀ (n k : Nat) (a b : D), D.okN n a = true → D.okN k b = true → PyData.eqv a.pd b.pd = D.eqb a b
  | n, k, a, b, ha, hb => by
    cases a with
    | tup l =>
      cases b with
      | tup l' =>
        cases n with
        | zero => simp [D.okN] at ha
        | succ n =>
          cases k with
          | zero => simp [D.okN] at hb
          | succ k => simp only [D.pd, PyData.eqv, D.eqb]; exact D.eqv_eqbL n k l l' (by simpa [D.okN] using ha) (by simpa [D.okN] using hb)
      | ref _ => simp [D.okN] at hb
      | exn _ _ => simp [D.okN] at hb
      | scr _ => simp [D.okN] at hb
      | _ => simp [D.pd, PyData.eqv, D.eqb]
    | lst l =>
      cases b with
      | lst l' =>
        cases n with
        | zero => simp [D.okN] at ha
        | succ n =>
          cases k with
          | zero => simp [D.okN] at hb
          | succ k => simp only [D.pd, PyData.eqv, D.eqb]; exact D.eqv_eqbL n k l l' (by simpa [D.okN] using ha) (by simpa [D.okN] using hb)
      | ref _ => simp [D.okN] at hb
      | exn _ _ => simp [D.okN] at hb
      | scr _ => simp [D.okN] at hb
      | _ => simp [D.pd, PyData.eqv, D.eqb]
    | ref _ => simp [D.okN] at ha
    | exn _ _ => simp [D.okN] at ha
    | scr _ => simp [D.okN] at ha
    | _ =>
      cases b with
      | ref _ => simp [D.okN] at hb
      | exn _ _ => simp [D.okN] at hb
      | scr _ => simp [D.okN] at hb
      | _ => simp [D.pd, PyData.eqv, D.eqb]
theorem D.eqv_eqbL : ∀ (n k : Nat) (a b : List D), D.okL n a = true → D.okL k b = true → PyData.eqvAll (D.pdL a) (D.pdL b) = D.eqbL a b
  | _, _, [], [], _, _ => rfl
  | _, _, [], _ :: _, _, _ => rfl
  | _, _, _ :: _, [], _, _ => rfl
  | n, k, x :: xs, y :: ys, ha, hb => by
    simp only [D.okL, Bool.and_eq_true] at ha hb
    simp only [D.pdL, PyData.eqvAll, D.eqbL]
    rw [D.eqv_eqb n k x y ha.1 hb.1, D.eqv_eqbL n k xs ys ha.2 hb.2]
end
section
variable {C : Cn} {Z H : Hp} {m : List Addr} {h : Hm}
mutual
theorem Rep.dp {K : PySem.W.Frag} (hz : ∀ a o, Z a = some o → H a = some o) : ∀ {d : D} {v : V} (n : Nat), Rep C Z m d v → D.okN n d = true → Dp K H v d.pd
  | _, _, _, .non, _ => .non
  | _, _, _, .bl b, _ => .bl b
  | _, _, _, .int i, _ => .int i
  | _, _, _, .str x, _ => .str x
  | _, _, n + 1, .tup a b, e => .tup (.inl (.inl (hz _ _ a))) (RepL.dp hz n b (by simpa [D.okN] using e))
  | _, _, n + 1, .lst a b, e => .lst (.inl (.inl (hz _ _ a))) (RepL.dp hz n b (by simpa [D.okN] using e))
  | _, _, 0, .tup a b, e => by simp [D.okN] at e
  | _, _, 0, .lst a b, e => by simp [D.okN] at e
  | _, _, _, .scr _, e => by simp [D.okN] at e
  | _, _, _, .ref _, e => by simp [D.okN] at e
theorem RepL.dp {K : PySem.W.Frag} (hz : ∀ a o, Z a = some o → H a = some o) : ∀ {d : List D} {v : List V} (n : Nat), RepL C Z m d v → D.okL n d = true → DpAll K H v (D.pdL d)
  | _, _, _, .nil, _ => .nil
  | _, _, n, .cons a b, e => by
    simp only [D.okL, Bool.and_eq_true] at e
    exact .cons (Rep.dp hz n a e.1) (RepL.dp hz n b e.2)
end
/-- a list's object -/
theorem ls_at {d : D} {x : V} {l : List D} (s : HSim C Z m h H) (r : Rep C Z m d x) (e : lsOf h d = some l) : ∃ a vs, x = .ref a ∧ H a = some (.lst vs) ∧ RepL C Z m l vs := by
  cases r with
  | lst hz rl => cases e; exact ⟨_, _, rfl, s.sub _ _ hz, rl⟩
  | @ref n a en =>
    unfold lsOf at e
    cases q : h[n]? with
    | none => simp [q] at e
    | some o =>
      cases o with
      | lst l' =>
        simp [q] at e
        subst e
        obtain ⟨vs, hv, rl⟩ := s.obj n a _ en q
        exact ⟨a, vs, rfl, hv, rl⟩
      | _ => simp [q] at e
  | _ => cases e
theorem dr_dp {K : PySem.W.Frag} {d : D} {x : V} {n : Nat} (s : HSim C Z m h H) (r : Rep C Z m d x) (e : D.okN n (dr h d) = true) : Dp K H x (dr h d).pd := by
  unfold dr at e ⊢
  cases q : lsOf h d with
  | none => rw [q] at e; exact r.dp s.sub n e
  | some l =>
    rw [q] at e
    obtain ⟨a, vs, rfl, hv, rl⟩ := ls_at s r q
    cases n with
    | zero => simp [D.okN] at e
    | succ n => exact .lst (.inl (.inl hv)) (rl.dp s.sub n (by simpa [D.okN] using e))
theorem dc_at {d : D} {x : V} {l : List (D × D)} (s : HSim C Z m h H) (r : Rep C Z m d x) (e : dcOf h d = some l) : ∃ n a kvs, d = .ref n ∧ m[n]? = some a ∧ h[n]? = some (.dct l) ∧ x = .ref a ∧ H a = some (.dK kvs) ∧ RepK C Z m l kvs := by
  cases r with
  | @ref n a en =>
    unfold dcOf at e
    cases q : h[n]? with
    | none => simp [q] at e
    | some o =>
      cases o with
      | dct l' =>
        simp [q] at e
        subst e
        obtain ⟨vs, hv, rl⟩ := s.obj n a _ en q
        exact ⟨n, a, vs, rfl, en, q, rfl, hv, rl⟩
      | _ => simp [q] at e
  | _ => cases e
theorem key_rep {d : D} {x : V} {k : L2.Key} (r : Rep C Z m d x) (e : keyD d = some k) : x = kV k := by
  cases r with
  | int i => obtain rfl := Option.some.inj (show some (Sum.inl i) = some k from e); rfl
  | str i => obtain rfl := Option.some.inj (show some (Sum.inr i) = some k from e); rfl
  | _ => simp [keyD] at e
theorem RepK.len : ∀ {l : List (D × D)} {kvs : List (L2.Key × V)}, RepK C Z m l kvs → l.length = kvs.length
  | _, _, .nil => rfl
  | _, _, .int _ b => by simp [RepK.len b]
  | _, _, .str _ b => by simp [RepK.len b]
theorem dVal_pos {a d : D} {k : L2.Key} {r : List (D × D)} (h : keyD a = some k) : dVal k ((a, d) :: r) = some d := if_pos h
theorem dVal_neg {a d : D} {k : L2.Key} {r : List (D × D)} (h : ¬ keyD a = some k) : dVal k ((a, d) :: r) = dVal k r := if_neg h
theorem RepK.val (k : L2.Key) : ∀ {l : List (D × D)} {kvs : List (L2.Key × V)}, RepK C Z m l kvs → (∀ d, dVal k l = some d → ∃ v, valV kvs k = some v ∧ Rep C Z m d v) ∧ (dVal k l = none → valV kvs k = none)
  | _, _, .nil => ⟨(fun d e => nomatch e), fun _ => rfl⟩
  | _, _, .int (i := i) (d := d) (v := v) (ds := ds) (vs := vs) a b => by
    obtain ⟨h1, h2⟩ := RepK.val k b
    by_cases hk : keyD (D.int i) = some k
    · rw [dVal_pos hk, valV_pos (p := (Sum.inl i, v)) (Option.some.inj (show some (Sum.inl i) = some k from hk))]
      exact ⟨fun d' e => by injection e with e; subst e; exact ⟨_, rfl, a⟩, fun e => nomatch e⟩
    · rw [dVal_neg hk, valV_neg (p := (Sum.inl i, v)) (fun e => hk (congrArg some e))]
      exact ⟨h1, h2⟩
  | _, _, .str (x := i) (d := d) (v := v) (ds := ds) (vs := vs) a b => by
    obtain ⟨h1, h2⟩ := RepK.val k b
    by_cases hk : keyD (D.str i) = some k
    · rw [dVal_pos hk, valV_pos (p := (Sum.inr i, v)) (Option.some.inj (show some (Sum.inr i) = some k from hk))]
      exact ⟨fun d' e => by injection e with e; subst e; exact ⟨_, rfl, a⟩, fun e => nomatch e⟩
    · rw [dVal_neg hk, valV_neg (p := (Sum.inr i, v)) (fun e => hk (congrArg some e))]
      exact ⟨h1, h2⟩
theorem RepK.some_eq (k : L2.Key) {l : List (D × D)} {kvs : List (L2.Key × V)} (r : RepK C Z m l kvs) : (dVal k l).isSome = (valV kvs k).isSome := by
  obtain ⟨h1, h2⟩ := r.val k
  cases e : dVal k l with
  | none => rw [h2 e]; rfl
  | some d => obtain ⟨v, hv, _⟩ := h1 d e; rw [hv]; rfl
theorem RepK.repl (k : L2.Key) {y : D} {w : V} (ry : Rep C Z m y w) : ∀ {l : List (D × D)} {kvs : List (L2.Key × V)}, RepK C Z m l kvs → RepK C Z m (l.map fun kv => if keyD kv.1 = some k then (kv.1, y) else kv) (kvs.map fun kv => if kv.1 = k then (kv.1, w) else kv)
  | _, _, .nil => .nil
  | _, _, .int (i := i) (d := d) (v := v) (ds := ds) (vs := vs) a b => by
    have ih := RepK.repl k ry b
    by_cases hk : keyD (D.int i) = some k
    · have h2 : (Sum.inl i : L2.Key) = k := Option.some.inj (show some (Sum.inl i) = some k from hk)
      have e1 : (if keyD (D.int i, d).1 = some k then ((D.int i, d).1, y) else (D.int i, d)) = (D.int i, y) := if_pos hk
      have e2 : (if ((Sum.inl i, v) : L2.Key × V).1 = k then (((Sum.inl i, v) : L2.Key × V).1, w) else (Sum.inl i, v)) = (Sum.inl i, w) := if_pos h2
      rw [List.map_cons, List.map_cons, e1, e2]
      exact .int ry ih
    · have h2 : ¬ (Sum.inl i : L2.Key) = k := fun e => hk (congrArg some e)
      have e1 : (if keyD (D.int i, d).1 = some k then ((D.int i, d).1, y) else (D.int i, d)) = (D.int i, d) := if_neg hk
      have e2 : (if ((Sum.inl i, v) : L2.Key × V).1 = k then (((Sum.inl i, v) : L2.Key × V).1, w) else (Sum.inl i, v)) = (Sum.inl i, v) := if_neg h2
      rw [List.map_cons, List.map_cons, e1, e2]
      exact .int a ih
  | _, _, .str (x := i) (d := d) (v := v) (ds := ds) (vs := vs) a b => by
    have ih := RepK.repl k ry b
    by_cases hk : keyD (D.str i) = some k
    · have h2 : (Sum.inr i : L2.Key) = k := Option.some.inj (show some (Sum.inr i) = some k from hk)
      have e1 : (if keyD (D.str i, d).1 = some k then ((D.str i, d).1, y) else (D.str i, d)) = (D.str i, y) := if_pos hk
      have e2 : (if ((Sum.inr i, v) : L2.Key × V).1 = k then (((Sum.inr i, v) : L2.Key × V).1, w) else (Sum.inr i, v)) = (Sum.inr i, w) := if_pos h2
      rw [List.map_cons, List.map_cons, e1, e2]
      exact .str ry ih
    · have h2 : ¬ (Sum.inr i : L2.Key) = k := fun e => hk (congrArg some e)
      have e1 : (if keyD (D.str i, d).1 = some k then ((D.str i, d).1, y) else (D.str i, d)) = (D.str i, d) := if_neg hk
      have e2 : (if ((Sum.inr i, v) : L2.Key × V).1 = k then (((Sum.inr i, v) : L2.Key × V).1, w) else (Sum.inr i, v)) = (Sum.inr i, v) := if_neg h2
      rw [List.map_cons, List.map_cons, e1, e2]
      exact .str a ih
theorem RepK.snoc {a y : D} {w : V} {k : L2.Key} (hk : keyD a = some k) (ry : Rep C Z m y w) : ∀ {l : List (D × D)} {kvs : List (L2.Key × V)}, RepK C Z m l kvs → RepK C Z m (l ++ [(a, y)]) (kvs ++ [(k, w)])
  | _, _, .nil => by
    cases a with
    | int i => obtain rfl := Option.some.inj (show some (Sum.inl i) = some k from hk); exact .int ry .nil
    | str i => obtain rfl := Option.some.inj (show some (Sum.inr i) = some k from hk); exact .str ry .nil
    | _ => simp [keyD] at hk
  | _, _, .int a b => .int a (RepK.snoc hk ry b)
  | _, _, .str a b => .str a (RepK.snoc hk ry b)
theorem RepK.put {a y : D} {w : V} {k : L2.Key} (hk : keyD a = some k) (ry : Rep C Z m y w) {l : List (D × D)} {kvs : List (L2.Key × V)} (r : RepK C Z m l kvs) : RepK C Z m (dPut a k y l) (putK kvs k w) := by
  unfold dPut putK
  rw [valV_any, ← r.some_eq k]
  split
  · exact r.repl k ry
  · exact r.snoc hk ry
end
def opAdd (x y : D) (h : Hm) : R D := match x, y with
  | .int a, .int b => .ok (.int (a + b)) h
  | .str a, .str b => if a.length + b.length ≤ 16777216 then .ok (.str (a ++ b)) h else .err
  | .tup a, .tup b => if a.length + b.length ≤ 16777216 then .ok (.tup (a ++ b)) h else .err
  | x, y => match lsOf h x, lsOf h y with
    | some a, some b => if a.length + b.length ≤ 16777216 then .ok (.lst (a ++ b)) h else .err
    | _, _ => .err
def opSub (x y : D) (h : Hm) : R D := match x, y with
  | .int a, .int b => .ok (.int (a - b)) h
  | _, _ => .err
def mulOk (a b : Int) : Bool := (decide (-(2 ^ 64) < a) && decide (a < 2 ^ 64)) || (decide (-(2 ^ 64) < b) && decide (b < 2 ^ 64))
def repStr (x : Str) (n : Int) : Str := ⟨(List.replicate n.toNat x.cps.toList).flatten.toArray⟩
def opMul (x y : D) (h : Hm) : R D := match x, y with
  | .int a, .int b => if mulOk a b then .ok (.int (a * b)) h else .err
  | .str a, .int n => if -1000000 ≤ n ∧ n ≤ 1000000 ∧ a.length * n.toNat ≤ 1000000 then .ok (.str (repStr a n)) h else .err
  | x, .int n => match lsOf h x with
    | some l => if -1000000 ≤ n ∧ n ≤ 1000000 ∧ l.length * n.toNat ≤ 16777216 then .ok (.lst (List.replicate n.toNat l).flatten) h else .err
    | none => .err
  | _, _ => .err
def opMod (x y : D) (h : Hm) : R D := match x, y with
  | .int a, .int b => if 0 < b then .ok (.int (a % b)) h else .err
  | _, _ => .err
def opDiv (x y : D) (h : Hm) : R D := match x, y with
  | .int a, .int b => if 0 < b ∧ b < 1267650600228229401496703205376 then .ok (.int (a / b)) h else .err
  | _, _ => .err
def opPow (x y : D) (h : Hm) : R D := match x, y with
  | .int a, .int b => if 0 ≤ b ∧ b ≤ 1000000 ∧ -(2 ^ 63) < a ∧ a < 2 ^ 64 then .ok (.int (a ^ b.toNat)) h else .err
  | _, _ => .err
def opNeg (x : D) (h : Hm) : R D := match x with
  | .int a => .ok (.int (-a)) h
  | _ => .err
def opLt (x y : D) (h : Hm) : R D := match x, y with
  | .int a, .int b => .ok (.bl (decide (a < b))) h
  | _, _ => .err
def opLe (x y : D) (h : Hm) : R D := match x, y with
  | .int a, .int b => .ok (.bl (decide (a ≤ b))) h
  | .str a, .str b => .ok (.bl (!decide (b.cps.toList < a.cps.toList))) h
  | _, _ => .err
def opGt (x y : D) (h : Hm) : R D := match x, y with
  | .int a, .int b => .ok (.bl (decide (b < a))) h
  | _, _ => .err
def opGe (x y : D) (h : Hm) : R D := match x, y with
  | .int a, .int b => .ok (.bl (decide (b ≤ a))) h
  | _, _ => .err
def scalD : D → D → Bool
  | .non, .non => true | .non, .int _ => true | .int _, .non => true | .non, .bl _ => true | .bl _, .non => true | .non, .str _ => true | .str _, .non => true
  | .int _, .int _ => true | .bl _, .bl _ => true | .str _, .str _ => true
  | .int _, .str _ => true | .str _, .int _ => true | .bl _, .str _ => true | .str _, .bl _ => true
  | _, _ => false
def opEq (x y : D) (h : Hm) : R D := if scalD x y then .ok (.bl (D.eqb x y)) h else
  if D.okN 64 (dr h x) && D.okN 64 (dr h y) then .ok (.bl (D.eqb (dr h x) (dr h y))) h else .err
def opNe (x y : D) (h : Hm) : R D := if scalD x y then .ok (.bl (!D.eqb x y)) h else
  if D.okN 64 (dr h x) && D.okN 64 (dr h y) then .ok (.bl (!D.eqb (dr h x) (dr h y))) h else .err
def flatD : D → Bool
  | .non => true | .bl _ => true | .int _ => true | .str _ => true
  | _ => false
def ixD (x y : D) (h : Hm) : R D := match dcOf h x with
  | some l => (match keyD y with
    | some k => (match dVal k l with
      | some d => .ok d h
      | none => .err)
    | none => .err)
  | none => .err
def inK (neg : Bool) (x y : D) (h : Hm) : R D := match dcOf h y with
  | some l => (match keyD x with
    | some k => .ok (.bl (neg ^^ (dVal k l).isSome)) h
    | none => .err)
  | none => .err
def inD (neg : Bool) (x y : D) (h : Hm) : R D := match y with
  | .str z => match x with
    | .str s => match s.cps.toList with
      | [c] => .ok (.bl (neg ^^ decide (c ∈ z.cps.toList))) h
      | _ => .err
    | _ => .err
  | y => match items h y with
    | some l => if flatD x && l.all flatD then .ok (.bl (neg ^^ l.any fun z => D.eqb z x)) h else
      if (lsOf h y).isSome && D.okN 64 x && D.okL 63 l then .ok (.bl (neg ^^ l.any fun z => D.eqb z x)) h else .err
    | none => inK neg x y h
def opIn : D → D → Hm → R D := inD false
def opNotIn : D → D → Hm → R D := inD true
def opIsN (x y : D) (h : Hm) : R D := match y with
  | .non => match x with
    | .non => .ok (.bl true) h
    | _ => .ok (.bl false) h
  | _ => .err
def opNotN (x y : D) (h : Hm) : R D := match y with
  | .non => match x with
    | .non => .ok (.bl false) h
    | _ => .ok (.bl true) h
  | _ => .err
def opIx (x y : D) (h : Hm) : R D := match y with
  | .int i => match x with
    | .str z => if z.length ≤ 16777216 then (match atI z.cps.toList i with
      | some c => .ok (.str ⟨#[c]⟩) h
      | none => .err) else .err
    | .scr ns => match atI ns i with
      | some n => .ok (.int n) h
      | none => .err
    | .tup l => match atI l i with
      | some d => .ok d h
      | none => .err
    | x => match lsOf h x with
      | some l => (match atI l i with
        | some d => .ok d h
        | none => .err)
      | none => ixD x y h
  | _ => ixD x y h
def cutD (l : List D) (lo hi : Option Int) : List D := (l.drop (HT.sIx l.length 0 lo)).take (HT.sIx l.length l.length hi - HT.sIx l.length 0 lo)
def opSl (x : D) (lo hi : Option Int) (h : Hm) : R D := match x with
  | .str z => if z.length ≤ 16777216 then .ok (.str (cutS z lo hi)) h else .err
  | .tup l => .ok (.tup (cutD l lo hi)) h
  | x => match lsOf h x with
    | some l => .ok (.lst (cutD l lo hi)) h
    | none => .err
/-- a part of a slice -/
abbrev PM := Ev → Hm → R (Option Int)
def pN : PM := fun _ h => .ok none h
def pE (e : EM) : PM := fun v h => (e v h).bind fun x h1 => match x with
  | .int i => .ok (some i) h1
  | _ => .err
def eSl (a : EM) (lo hi : PM) : EM := fun v h => (a v h).bind fun x h1 => (lo v h1).bind fun l h2 => (hi v h2).bind fun u h3 => opSl x l u h3
theorem atI_map {α β : Type} (f : α → β) (l : List α) (i : Int) : atI (l.map f) i = (atI l i).map f := by
  unfold atI
  rw [List.length_map]
  cases ixN l.length i with
  | none => rfl
  | some j => simp [List.getElem?_map]
theorem atI_rep {C : Cn} {Z : Hp} {m : List Addr} {l : List D} {vs : List V} {i : Int} {d : D} (r : RepL C Z m l vs) (e : atI l i = some d) : ∃ v, atI vs i = some v ∧ Rep C Z m d v := by
  unfold atI at e ⊢
  rw [← r.length]
  cases q : ixN l.length i with
  | none => rw [q] at e; cases e
  | some j =>
    rw [q] at e
    exact r.get e
section
variable {X : Cx} {C : Cn} {E : WX}
theorem do_add : OpR X (binaryOp .Add) (rD2 C opAdd) := by
  intro pins s σ H x y v u Q I rx ry ⟨Z, m, h, a, b, sm, ra, rb, p⟩
  have lists : ∀ (a b : D) (l1 l2 : List D), lsOf h a = some l1 → lsOf h b = some l2 → Rep C Z m a x → Rep C Z m b y → Post C (Rep C) (fun _ _ _ => False) (if l1.length + l2.length ≤ 16777216 then .ok (.lst (l1 ++ l2)) h else .err) Z m H Q → wpAny (model X.prog X.w) X.A (binaryOp .Add v u) (EP X pins σ Q) X.xe s := fun a b l1 l2 e1 e2 ra rb p => by
    obtain ⟨a1, v1, rfl, h1, r1⟩ := ls_at sm ra e1
    obtain ⟨a2, v2, rfl, h2, r2⟩ := ls_at sm rb e2
    split at p
    · rename_i hl
      refine op_cat pins s σ H _ _ v u Q I rx ry ⟨a1, a2, v1, v2, rfl, rfl, h1, h2, by rw [← r1.length, ← r2.length]; exact sz_le hl, fun q hq => ?_⟩
      have xz := Ext.lay sm hq (.lst (v1 ++ v2))
      exact p _ _ _ _ xz (sm.lay hq _) (.lst upd_same ((r1.append r2).mono xz.sub (List.prefix_refl _)))
    · exact False.elim p
  have gen : ∀ (r : R D), (match lsOf h a, lsOf h b with | some a, some b => if a.length + b.length ≤ 16777216 then R.ok (D.lst (a ++ b)) h else R.err | _, _ => R.err) = r → Post C (Rep C) (fun _ _ _ => False) r Z m H Q → wpAny (model X.prog X.w) X.A (binaryOp .Add v u) (EP X pins σ Q) X.xe s := fun r e p => by
    subst e
    cases e1 : lsOf h a with
    | none => simp [e1] at p; exact False.elim p
    | some l1 =>
      cases e2 : lsOf h b with
      | none => simp [e1, e2] at p; exact False.elim p
      | some l2 =>
        rw [e1, e2] at p
        exact lists a b l1 l2 e1 e2 ra rb p
  cases a with
  | int i =>
    cases b with
    | int j => cases ra; cases rb; exact op_add pins s σ H _ _ v u Q I rx ry ⟨i, j, rfl, rfl, p _ _ _ _ .refl sm (.int _)⟩
    | _ => exact gen _ rfl p
  | str i =>
    cases b with
    | str j =>
      cases ra; cases rb
      simp only [opAdd] at p
      split at p
      · rename_i hl
        exact op_add_str pins s σ H _ _ v u Q I rx ry ⟨i, j, rfl, rfl, sz_le hl, p _ _ _ _ .refl sm (.str _)⟩
      · exact False.elim p
    | _ => exact gen _ rfl p
  | tup l1 =>
    cases b with
    | tup l2 =>
      cases ra with
      | @tup a1 v1 _ h1 r1 =>
        cases rb with
        | @tup a2 v2 _ h2 r2 =>
          simp only [opAdd] at p
          split at p
          · rename_i hl
            have n1 := r1.length
            have n2 := r2.length
            refine op_catA pins s σ H _ _ v u Q I rx ry ⟨a1, a2, v1, v2, rfl, rfl, .inl (.inl (sm.sub _ _ h1)), .inl (.inl (sm.sub _ _ h2)), by rw [← n1, ← n2]; exact sz_le hl, fun z => ?_, fun z z2 => ?_, fun z z2 q hq => ?_⟩
            · subst z
              have : l1 = [] := List.length_eq_zero_iff.mp n1
              subst this
              exact p _ _ _ _ .refl sm (.tup h2 r2)
            · subst z2
              have : l2 = [] := List.length_eq_zero_iff.mp n2
              subst this
              rw [List.append_nil] at p
              exact p _ _ _ _ .refl sm (.tup h1 r1)
            · have xz := Ext.lay sm hq (.tup (v1 ++ v2))
              exact p _ _ _ _ xz (sm.lay hq _) (.tup upd_same ((r1.append r2).mono xz.sub (List.prefix_refl _)))
          · exact False.elim p
    | _ => exact gen _ rfl p
  | _ => exact gen _ (by cases b <;> rfl) p
theorem do_sub : OpR X (binaryOp .Sub) (rD2 C opSub) := by
  intro pins s σ H x y v u Q I rx ry ⟨Z, m, h, a, b, sm, ra, rb, p⟩
  cases ra <;> cases rb <;> first | exact False.elim p | skip
  exact op_sub pins s σ H _ _ v u Q I rx ry ⟨_, _, rfl, rfl, p _ _ _ _ .refl sm (.int _)⟩
theorem do_mod : OpR X (binaryOp .Mod) (rD2 C opMod) := by
  intro pins s σ H x y v u Q I rx ry ⟨Z, m, h, a, b, sm, ra, rb, p⟩
  cases ra <;> cases rb <;> first | exact False.elim p | skip
  simp only [opMod] at p
  split at p
  · rename_i hc
    exact op_mod pins s σ H _ _ v u Q I rx ry ⟨_, _, rfl, rfl, hc, p _ _ _ _ .refl sm (.int _)⟩
  · exact False.elim p
theorem do_div : OpR X (binaryOp .FloorDiv) (rD2 C opDiv) := by
  intro pins s σ H x y v u Q I rx ry ⟨Z, m, h, a, b, sm, ra, rb, p⟩
  cases ra <;> cases rb <;> first | exact False.elim p | skip
  simp only [opDiv] at p
  split at p
  · rename_i hc
    exact op_fdivW pins s σ H _ _ v u Q I rx ry ⟨_, _, rfl, rfl, wide_div (b := 100) hc.1 (by omega) (by decide) (by decide), p _ _ _ _ .refl sm (.int _)⟩
  · exact False.elim p
theorem do_pow : OpR X (binaryOp .Pow) (rD2 C opPow) := by
  intro pins s σ H x y v u Q I rx ry ⟨Z, m, h, a, b, sm, ra, rb, p⟩
  cases ra <;> cases rb <;> first | exact False.elim p | skip
  simp only [opPow] at p
  split at p
  · rename_i hc
    exact op_pow pins s σ H _ _ v u Q I rx ry ⟨_, _, rfl, rfl, ⟨hc.1, hc.2.1, by omega⟩, p _ _ _ _ .refl sm (.int _)⟩
  · exact False.elim p
theorem foldl_cps (l : List Nat) : ∀ (k : Nat) (acc : List Nat), (List.replicate k l.toArray).foldl (· ++ ·) acc.toArray = (acc ++ (List.replicate k l).flatten).toArray
  | 0, acc => by simp
  | k + 1, acc => by
    have e : acc.toArray ++ l.toArray = (acc ++ l).toArray := by simp
    rw [List.replicate_succ, List.foldl_cons, e, foldl_cps l k (acc ++ l), List.replicate_succ, List.flatten_cons, List.append_assoc]
theorem repStr_len (x : Str) (n : Int) : (repStr x n).length = x.length * n.toNat := by
  unfold repStr Str.length
  simp [List.length_flatten, List.sum_replicate_nat, Nat.mul_comm]
theorem repStr_made (x : Str) (n : Int) (t : Tok) {Q : Value → Shared → Prop} {s : Shared} (hl : x.length * n.toNat ≤ 1000000) (h : ∀ t' k, Q (.str (repStr x n) t') { s with toks := k }) (h0 : ∀ t', Q (.str (repStr x n) t') s) :
    (if n < 1 then Made.str Str.empty else if (n == 1 || x.length == 0) = true then Made.val (.str x t) else Made.str ⟨(List.replicate n.toNat x.cps).foldl (· ++ ·) #[]⟩).post Q s := by
  by_cases h1 : n < 1
  · rw [if_pos h1]
    have : repStr x n = Str.empty := by
      unfold repStr
      rw [show n.toNat = 0 by omega]
      rfl
    rw [this] at h
    exact ⟨by show 0 ≤ sizeLine; exact Nat.zero_le _, h _ _⟩
  · rw [if_neg h1]
    by_cases h2 : (n == 1 || x.length == 0) = true
    · rw [if_pos h2]
      have : repStr x n = x := by
        obtain ⟨⟨l⟩⟩ := x
        rw [Bool.or_eq_true, beq_iff_eq, beq_iff_eq] at h2
        rcases h2 with h2 | h2
        · subst h2; unfold repStr; simp
        · have : l = [] := List.length_eq_zero_iff.mp (by simpa [Str.length] using h2)
          subst this
          unfold repStr; simp
      rw [this] at h0
      exact h0 t
    · rw [if_neg h2]
      have : repStr x n = ⟨(List.replicate n.toNat x.cps).foldl (· ++ ·) #[]⟩ := by
        obtain ⟨⟨l⟩⟩ := x
        unfold repStr
        have := foldl_cps l n.toNat []
        simp only [List.nil_append] at this
        rw [this]
      refine ⟨?_, ?_⟩
      · rw [← this, repStr_len, sizeLine_eq]; omega
      · rw [← this]; exact h _ _
theorem do_mul : OpR X (binaryOp .Mult) (rD2 C opMul) := by
  intro pins s σ H x y v u Q I rx ry ⟨Z, m, h, a, b, sm, ra, rb, p⟩
  have lists : ∀ (n : Int) (l : List D), y = .int n → lsOf h a = some l → Post C (Rep C) (fun _ _ _ => False) (if -1000000 ≤ n ∧ n ≤ 1000000 ∧ l.length * n.toNat ≤ 16777216 then R.ok (D.lst (List.replicate n.toNat l).flatten) h else R.err) Z m H Q → wpAny (model X.prog X.w) X.A (binaryOp .Mult v u) (EP X pins σ Q) X.xe s := fun n l1 ey e1 p => by
    subst ey
    obtain ⟨a1, v1, rfl, h1, r1⟩ := ls_at sm ra e1
    split at p
    · rename_i hl
      refine op_rep pins s σ H _ _ v u Q I rx ry ⟨a1, n, v1, rfl, rfl, h1, by omega, by omega, by rw [← r1.length]; exact sz_le hl.2.2, fun q hq => ?_⟩
      have xz := Ext.lay sm hq (.lst (List.replicate n.toNat v1).flatten)
      exact p _ _ _ _ xz (sm.lay hq _) (.lst upd_same ((r1.replicate _).mono xz.sub (List.prefix_refl _)))
    · exact False.elim p
  cases rb with
  | int n =>
    cases a with
    | int i =>
      cases ra
      simp only [opMul] at p
      split at p
      · rename_i hc
        refine op_mul pins s σ H _ _ v u Q I rx ry ⟨_, _, rfl, rfl, ?_, p _ _ _ _ .refl sm (.int _)⟩
        simp only [mulOk, Bool.or_eq_true, Bool.and_eq_true, decide_eq_true_eq] at hc
        exact hc
      · exact False.elim p
    | str z =>
      cases ra
      simp only [opMul] at p
      split at p
      · rename_i hc
        obtain ⟨t, rfl⟩ := rx
        obtain ⟨t', rfl⟩ := ry
        have hlen : ¬ n < 1 → (z.length : Int) * n ≤ 1000000 := fun h1 => by
          have : ((z.length * n.toNat : Nat) : Int) ≤ 1000000 := Int.ofNat_le.mpr hc.2.2
          have e : ((n.toNat : Nat) : Int) = n := Int.toNat_of_nonneg (by omega)
          rw [Int.natCast_mul, e] at this
          exact this
        refine PySem.P.mul_str ?_ (fun h1 h2 => ?_) (fun h1 h2 => ?_) (repStr_made z n t hc.2.2 (fun t' k => ⟨.str (repStr z n), H, I.tok k, ⟨_, rfl⟩, p _ _ _ _ .refl sm (.str _)⟩) (fun t' => ⟨.str (repStr z n), H, I, ⟨_, rfl⟩, p _ _ _ _ .refl sm (.str _)⟩))
        · rw [Bool.or_eq_false_iff, decide_eq_false_iff_not, decide_eq_false_iff_not]
          omega
        · have h3 := hlen h1
          intro h4
          have h5 : n * ((2 ^ 63 - 1) / n) > 2 ^ 63 - 1 - n := by
            have := Int.mul_ediv_add_emod (2 ^ 63 - 1) n
            have := Int.emod_lt_of_pos (2 ^ 63 - 1) (show 0 < n by omega)
            omega
          have h6 : n * ((2 ^ 63 - 1) / n) ≤ n * (z.length : Int) := Int.mul_le_mul_of_nonneg_left (by omega) (by omega)
          rw [Int.mul_comm n (z.length : Int)] at h6
          omega
        · unfold Builtin.Str.tooLong
          rw [decide_eq_false_iff_not, sizeLine_eq]
          have := hc.2.2
          omega
      · exact False.elim p
    | _ =>
      simp only [opMul] at p
      split at p
      · rename_i l hl; exact lists n l rfl hl p
      · exact False.elim p
  | _ => cases a <;> exact False.elim p
end
end Dn
set_option Elab.async false
set_option linter.all false
set_option maxRecDepth 100000
set_option maxHeartbeats 4000000
namespace Dn
open PySem PySem.Spec PyProof.Rows L2
section
variable {X : Cx} {C : Cn} {E : WX}
theorem hu64 {A : Around} (hr : Room 0 A) : A.units + 64 < cLine := by have := hr.un; omega
theorem hu65 {A : Around} (hr : Room 0 A) : A.units + 65 < cLine := by have := hr.un; omega
theorem do_lt : OpR X (compareOp .Lt) (rD2 C opLt) := by
  intro pins s σ H x y v u Q I rx ry ⟨Z, m, h, a, b, sm, ra, rb, p⟩
  cases ra <;> cases rb <;> first | exact False.elim p | skip
  exact op_lt pins s σ H _ _ v u Q I rx ry ⟨_, _, rfl, rfl, p _ _ _ _ .refl sm (.bl _)⟩
theorem do_ge : OpR X (compareOp .GtE) (rD2 C opGe) := by
  intro pins s σ H x y v u Q I rx ry ⟨Z, m, h, a, b, sm, ra, rb, p⟩
  cases ra <;> cases rb <;> first | exact False.elim p | skip
  exact op_ge pins s σ H _ _ v u Q I rx ry ⟨_, _, rfl, rfl, p _ _ _ _ .refl sm (.bl _)⟩
theorem scal_rep {Z : Hp} {m : List Addr} {a b : D} {x y : V} (ra : Rep C Z m a x) (rb : Rep C Z m b y) (hs : scalD a b = true) : scal x y = true ∧ decide (x = y) = D.eqb a b := by
  cases ra <;> cases rb <;> first | (simp [scalD] at hs; done) | skip
  all_goals refine ⟨rfl, ?_⟩
  all_goals simp only [D.eqb]
  all_goals first
    | exact decide_eq_true rfl
    | exact decide_eq_false (fun z => by cases z)
    | (rw [Bool.eq_iff_iff]; simp)
theorem do_eq (hr : Room 0 X.A) : OpR X (compareOp .Eq) (rD2 C opEq) := by
  intro pins s σ H x y v u Q I rx ry ⟨Z, m, h, a, b, sm, ra, rb, p⟩
  unfold opEq at p
  split at p
  · rename_i hs
    obtain ⟨h1, h2⟩ := scal_rep ra rb hs
    exact op_eq pins s σ H _ _ v u Q I rx ry ⟨h1, by rw [h2]; exact p _ _ _ _ .refl sm (.bl _)⟩
  · split at p
    · rename_i hc
      simp only [Bool.and_eq_true] at hc
      refine op_eqD (hu64 hr) pins s σ H _ _ v u Q I rx ry ⟨_, _, dr_dp sm ra hc.1, dr_dp sm rb hc.2, D.shaped hc.1, D.shaped hc.2, ?_⟩
      rw [D.eqv_eqb 64 64 _ _ hc.1 hc.2]
      exact p _ _ _ _ .refl sm (.bl _)
    · exact False.elim p
theorem flat_rep {Z : Hp} {m : List Addr} {a : D} {x : V} (ra : Rep C Z m a x) (h : flatD a = true) : flatV x = true := by
  cases ra <;> first | rfl | cases h
theorem flatL_rep {Z : Hp} {m : List Addr} : ∀ {l : List D} {xs : List V}, RepL C Z m l xs → l.all flatD = true → xs.all flatV = true
  | _, _, .nil, _ => rfl
  | _, _, .cons a b, h => by
    simp only [List.all_cons, Bool.and_eq_true] at h ⊢
    exact ⟨flat_rep a h.1, flatL_rep b h.2⟩
theorem eqV_rep {Z : Hp} {m : List Addr} {a b : D} {x y : V} (ra : Rep C Z m a x) (rb : Rep C Z m b y) (ha : flatD a = true) (hb : flatD b = true) : eqV x y = D.eqb a b := by
  cases ra <;> cases rb <;> first | rfl | (simp [flatD] at ha; done) | (simp [flatD] at hb; done)
theorem inV_rep {Z : Hp} {m : List Addr} {a : D} {x : V} (ra : Rep C Z m a x) (ha : flatD a = true) : ∀ {l : List D} {xs : List V}, RepL C Z m l xs → l.all flatD = true → inV x xs = l.any fun z => D.eqb z a
  | _, _, .nil, _ => rfl
  | _, _, .cons b r, h => by
    simp only [List.all_cons, Bool.and_eq_true] at h
    have := inV_rep ra ha r h.2
    unfold inV at this ⊢
    rw [List.any_cons, List.any_cons, this, eqV_rep b ra h.1 ha]
theorem pdL_any {n k : Nat} {a : D} (ha : D.okN n a = true) : ∀ {l : List D}, D.okL k l = true → ((D.pdL l).any fun z => PyData.eqv z a.pd) = l.any fun z => D.eqb z a
  | [], _ => rfl
  | x :: xs, h => by
    simp only [D.okL, Bool.and_eq_true] at h
    simp only [D.pdL, List.any_cons]
    rw [D.eqv_eqb k n x a h.1 ha, pdL_any ha h.2]
theorem do_inD (neg : Bool) (op : CmpOp) (hr : Room 0 X.A) (h1 : OpR X (compareOp op) (rIn X.K neg))
    (h2 : OpR X (compareOp op) (fun x y H Q => ∃ d ds, Dp X.K H x d ∧ Dp X.K H y (.list ds) ∧ SeqAt.shaped d = true ∧ SeqAt.shaped (.list ds) = true ∧ Q (.bl (neg ^^ ds.any fun z => PyData.eqv z d)) H))
    (h3 : OpR X (compareOp op) (fun x y H Q => ∃ (c : Nat) (z : Str), x = .str ⟨#[c]⟩ ∧ y = .str z ∧ Q (.bl (neg ^^ decide (c ∈ z.cps.toList))) H))
    (h4 : OpR X (compareOp op) (fun y x H Q => ∃ a o, x = .ref a ∧ DGet H a y o ∧ Q (.bl (neg ^^ o.isSome)) H)) : OpR X (compareOp op) (rD2 C (inD neg)) := by
  intro pins s σ H x y v u Q I rx ry ⟨Z, m, h, a, b, sm, ra, rb, p⟩
  have main : ∀ l : List D, items h b = some l → (∃ p xs, y = .ref p ∧ (SqL X.K H p xs ∨ SqT X.K H p xs) ∧ RepL C Z m l xs) → ((lsOf h b).isSome = true → lsOf h b = some l) →
      Post C (Rep C) (fun _ _ _ => False) (if flatD a && l.all flatD then .ok (.bl (neg ^^ l.any fun z => D.eqb z a)) h else if (lsOf h b).isSome && D.okN 64 a && D.okL 63 l then .ok (.bl (neg ^^ l.any fun z => D.eqb z a)) h else .err) Z m H Q → wpAny (model X.prog X.w) X.A (compareOp op v u) (EP X pins σ Q) X.xe s := fun l hl ⟨q, xs, hy, hq, rl⟩ hls p => by
    split at p
    · rename_i hc
      simp only [Bool.and_eq_true] at hc
      refine h1 pins s σ H _ _ v u Q I rx ry ⟨q, xs, hy, hq, flat_rep ra hc.1, flatL_rep rl hc.2, ?_⟩
      rw [inV_rep ra hc.1 rl hc.2]
      have := p _ _ _ _ .refl sm (.bl _)
      cases neg <;> simpa using this
    · split at p
      · rename_i hc
        simp only [Bool.and_eq_true] at hc
        have hl2 := hls hc.1.1
        have hd : D.okN 64 (dr h b) = true := by unfold dr; rw [hl2]; simpa [D.okN] using hc.2
        have dpb := dr_dp (K := X.K) sm rb hd
        have hsh := D.shaped hd
        have e : (dr h b).pd = .list (D.pdL l) := by unfold dr; rw [hl2]; rfl
        rw [e] at dpb hsh
        refine h2 pins s σ H _ _ v u Q I rx ry ⟨_, _, ra.dp sm.sub 64 hc.1.2, dpb, D.shaped hc.1.2, hsh, ?_⟩
        rw [pdL_any hc.1.2 hc.2]
        exact p _ _ _ _ .refl sm (.bl _)
      · exact False.elim p
  cases rb with
  | str z =>
    simp only [inD] at p
    cases ra with
    | str w =>
      simp only at p
      split at p
      · rename_i c hc
        obtain ⟨⟨w⟩⟩ := w
        simp only at hc
        subst hc
        exact h3 pins s σ H _ _ v u Q I rx ry ⟨c, z, rfl, rfl, p _ _ _ _ .refl sm (.bl _)⟩
      · exact False.elim p
    | _ => exact False.elim p
  | @tup q vs l hz rl => exact main l rfl ⟨q, vs, rfl, .inr (.inl (.inl (sm.sub _ _ hz))), rl⟩ (fun z => by cases z) p
  | @lst q vs l hz rl => exact main l rfl ⟨q, vs, rfl, .inl (.inl (.inl (sm.sub _ _ hz))), rl⟩ (fun z => rfl) p
  | @ref n q en =>
    simp only [inD] at p
    cases e : items h (.ref n) with
    | none =>
      rw [e] at p
      simp only [inK] at p
      split at p
      · rename_i l hl
        split at p
        · rename_i k hk
          obtain ⟨n', a', kvs, e1, e2, e3, e4, e5, rk⟩ := dc_at sm (.ref en) hl
          cases e4
          have ek := key_rep ra hk
          subst ek
          refine h4 pins s σ H _ _ v u Q I rx ry ⟨_, _, rfl, DGet.k e5, ?_⟩
          rw [← rk.some_eq k]
          exact p _ _ _ _ .refl sm (.bl _)
        · exact False.elim p
      · exact False.elim p
    | some l =>
      have e2 : lsOf h (.ref n) = some l := e
      obtain ⟨q', vs, e1, hv, rl⟩ := ls_at sm (.ref en) e2
      cases e1
      rw [e] at p
      exact main l e ⟨q, vs, rfl, .inl (.inl (.inl hv)), rl⟩ (fun _ => e2) p
  | _ => exact False.elim p
theorem do_in (hr : Room 0 X.A) : OpR X (compareOp .In) (rD2 C opIn) :=
  do_inD false .In hr op_in_seq (fun pins s σ H x y v u Q I rx ry ⟨d, ds, a, b, c, e, q⟩ => op_inD (hu65 hr) pins s σ H x y v u Q I rx ry ⟨d, ds, a, b, c, e, by simpa using q⟩) (fun pins s σ H x y v u Q I rx ry ⟨c, z, a, b, q⟩ => op_in_sign pins s σ H x y v u Q I rx ry ⟨c, z, a, b, by simpa using q⟩) (fun pins s σ H x y v u Q I rx ry ⟨a, o, ex, g, q⟩ => by
    subst ex
    obtain rfl : u = Value.ref a := ry
    exact d_in (by have := hr.un; omega) I g rx fun s3 I3 => ⟨.bl o.isSome, H, I3, rfl, by simpa using q⟩)
theorem ix_dict (hu : X.A.units + 1 < cLine) : IxR X (fun x y H Q => ∃ a v, x = .ref a ∧ DGet H a y (some v) ∧ Q v H) := by
  intro value slice pins s σ H x y v u Q I rx ry ⟨a, w, ex, g, q⟩ hs
  subst ex
  obtain rfl : v = Value.ref a := rx
  have hT := dict_typeIs I g
  unfold subscriptTail
  refine wpAny_bind ?_
  rw [getitemInPython_of_ne hT.not_modules]
  refine wpAny_bind (wpAny_specialOf hT PySem.F.slot_dict_getitem.lookup ?_)
  have fin : wpAny (model X.prog X.w) X.A (subscripted slice false (.ref a) u) (fun r s₃ => wpAny (model X.prog X.w) X.A (letTemporaryGo value (.ref a) r >>= fun _ => pure r) (EP X pins σ Q) X.xe s₃) X.xe s := by
    rw [hs]
    exact wpAny_operating (wpAny_mono (d_getItem hu I g ry fun w' s3 I3 rw' => ⟨w, H, I3, rw', q⟩) (fun r s₃ h₃ => wpAny_bind (wpAny_letTemporaryGo (wpAny_pure h₃))) fun _ _ x => x)
  first
    | exact wpAny_pure (wpAny_bind fin)
    | exact wpAny_bind (wpAny_pure (wpAny_bind fin))
    | exact wpAny_bind fin
theorem do_ix (hK : C.K = X.K) (hr : Room 0 X.A) : IxR X (rD2 C opIx) := by
  intro value slice pins s σ H x y v u Q I rx ry ⟨Z, m, h, a, b, sm, ra, rb, p⟩ hs
  have dicts : Post C (Rep C) (fun _ _ _ => False) (ixD a b h) Z m H Q → wpAny (model X.prog X.w) X.A (subscriptTail value slice v u) (EP X pins σ Q) X.xe s := fun p => by
    unfold ixD at p
    split at p
    · rename_i l hl
      split at p
      · rename_i k hk
        split at p
        · rename_i d hd
          obtain ⟨n', a', kvs, e1, e2, e3, e4, e5, rk⟩ := dc_at sm ra hl
          obtain ⟨w, hw, rw'⟩ := (rk.val k).1 d hd
          have ek := key_rep rb hk
          refine ix_dict (by have := hr.un; omega) value slice pins s σ H _ _ v u Q I rx ry ⟨a', w, e4, ?_, p _ _ _ _ .refl sm rw'⟩ hs
          rw [ek, ← hw]
          exact DGet.k e5
        · exact False.elim p
      · exact False.elim p
    · exact False.elim p
  have lists : ∀ (i : Int) (l : List D), y = .int i → lsOf h a = some l → Post C (Rep C) (fun _ _ _ => False) (match atI l i with | some d => .ok d h | none => .err) Z m H Q → wpAny (model X.prog X.w) X.A (subscriptTail value slice v u) (EP X pins σ Q) X.xe s := fun i l ey e1 p => by
    subst ey
    obtain ⟨a1, v1, rfl, h1, r1⟩ := ls_at sm ra e1
    split at p
    · rename_i d hd
      obtain ⟨w, hw, rw'⟩ := atI_rep r1 hd
      exact ix_list value slice pins s σ H _ _ v u Q I rx ry ⟨a1, v1, i, w, rfl, rfl, .inl (.inl h1), hw, p _ _ _ _ .refl sm rw'⟩ hs
    · exact False.elim p
  cases rb with
  | int i =>
    cases a with
    | str z =>
      cases ra
      simp only [opIx] at p
      split at p
      · rename_i hl
        split at p
        · rename_i c hc
          exact ix_str value slice pins s σ H _ _ v u Q I rx ry ⟨z, i, c, rfl, rfl, sz_le hl, hc, p _ _ _ _ .refl sm (.str _)⟩ hs
        · exact False.elim p
      · exact False.elim p
    | scr ns =>
      cases ra with
      | @scr q _ hq =>
        simp only [opIx] at p
        split at p
        · rename_i n hn
          refine ix_list value slice pins s σ H _ _ v u Q I rx ry ⟨q, _, i, .int n, rfl, rfl, hK ▸ sqL_mono sm.sub hq, ?_, p _ _ _ _ .refl sm (.int _)⟩ hs
          rw [atI_map, hn]; rfl
        · exact False.elim p
    | tup l =>
      cases ra with
      | @tup q vs _ hz rl =>
        simp only [opIx] at p
        split at p
        · rename_i d hd
          obtain ⟨w, hw, rw'⟩ := atI_rep rl hd
          exact ix_tup value slice pins s σ H _ _ v u Q I rx ry ⟨q, vs, i, w, rfl, rfl, .inl (.inl (sm.sub _ _ hz)), hw, p _ _ _ _ .refl sm rw'⟩ hs
        · exact False.elim p
    | _ =>
      simp only [opIx] at p
      split at p
      · rename_i l hl; exact lists i l rfl hl p
      · exact dicts p
  | _ => exact dicts p
def opSlN (x : D) (lo hi : Option Int) (h : Hm) : R D := match lsOf h x with
  | some l => .ok (.ref h.length) (h ++ [.lst (cutD l lo hi)])
  | none => .err
def eSlN (a : EM) (lo hi : PM) : EM := fun v h => (a v h).bind fun x h1 => (lo v h1).bind fun l h2 => (hi v h2).bind fun u h3 => opSlN x l u h3
def putIx (o i x : D) (h : Hm) : Option Hm := match o with
  | .ref n => match h[n]?, i with
    | some (.lst l), .int k => (ixN l.length k).map fun j => h.set n (.lst (l.set j x))
    | some (.dct l), i => if l.length < 16777216 then (keyD i).map fun k => h.set n (.dct (dPut i k x l)) else none
    | _, _ => none
  | _ => none
def sPut (fo fi fe : EM) : SM := fun v h => match (fe v h).bind (fun x h1 => (fo v h1).bind fun o h2 => (fi v h2).bind fun i h3 => match putIx o i x h3 with
    | some h4 => R.ok () h4
    | none => .err) with
  | .ok _ h4 => .nx v h4
  | .exc e h4 => .exc e v h4
  | .err => .err
def rSetDc : TSet := fun o i v H Q => ∃ a H', o = .ref a ∧ DPut H a i v H' ∧ Q H'
theorem set_dc (hu : X.A.units + 1 < cLine) : PSet X rSetDc := by
  intro pins s σ H o i v ov iv u Q I ro ri rv h
  obtain ⟨a, H', eo, g, q⟩ := h
  subst eo
  cases (show ov = Value.ref a from ro)
  exact d_setItem hu I g ri rv fun s' I' => ⟨H', I', q⟩
theorem set_both (hu : X.A.units + 1 < cLine) : PSet X (fun o i v H Q => rSetL o i v H Q ∨ rSetDc o i v H Q) := by
  intro pins s σ H o i v ov iv u Q I ro ri rv h
  rcases h with h | h
  · exact set_list pins s σ H o i v ov iv u Q I ro ri rv h
  · exact set_dc hu pins s σ H o i v ov iv u Q I ro ri rv h
theorem ds_put {o i e : Expr} {p1 pos : Pos} {fo fi fe : EM} (hr : Room 0 X.A) (he : PE X e (denE C E fe)) (ho : PE X o (denE C E fo)) (hi : PE X i (denE C E fi))
    (ha : ∀ v, assign (.Subscript o i p1) X.env v = (do
      let ov ← holding [v] (eval o X.env)
      let iv ← holding [v, ov] (eval i X.env)
      standAt p1
      holding [v, ov, iv] (setItem ov iv v)
      release [v, ov, iv] []) := by intro _; rfl)
    (hs : swapsWithSole [.Subscript o i p1] e pos.line X.env = pure false := by rfl) (hw : swappedStores [.Subscript o i p1] e X.env = pure none := by rfl)
    (h1 : (assignEach [.Subscript o i p1] X.env).map (·.2) = [assign (.Subscript o i p1) X.env] := by rfl) : PS X (.Assign [.Subscript o i p1] e pos) (denS C E (sPut fo fi fe)) := by
  refine ps_imp (ps_asg he (pg_sub ho hi (set_both (by have := hr.un; omega)) ha) hs hw h1) fun K σ H ⟨Z, m, v, h, s, ev, p⟩ => ?_
  have p : Post C (fun _ _ (_ : Unit) (_ : Unit) => True) (fun c d H' => E c d σ H') ((fe v h).bind (fun x h1 => (fo v h1).bind fun o h2 => (fi v h2).bind fun i h3 => match putIx o i x h3 with | some h4 => R.ok () h4 | none => .err)) Z m H fun _ H' => K.nx σ H' := by
    unfold sPut at p
    generalize (fe v h).bind (fun x h1 => (fo v h1).bind fun o h2 => (fi v h2).bind fun i h3 => match putIx o i x h3 with | some h4 => R.ok () h4 | none => .err) = r at p ⊢
    cases r with
    | ok _ h4 => exact fun Z' m' H' _ a b _ => p Z' m' H' σ a b (ev.mono a)
    | exc x h4 => exact fun Z' m' H' c od a b r => p Z' m' H' σ c od a b (ev.mono a) r
    | err => exact p
  refine ⟨Z, m, v, h, s, ev, (p.bind (rep1 := Rep C)).imp fun x H1 ⟨Z1, m1, x', h1, x1, s1, r1, p1⟩ => ?_⟩
  refine ⟨Z1, m1, v, h1, s1, ev.mono x1, (p1.bind (rep1 := Rep C)).imp fun o H2 ⟨Z2, m2, o', h2, x2, s2, r2, p2⟩ => ?_⟩
  refine ⟨Z2, m2, v, h2, s2, (ev.mono x1).mono x2, (p2.bind (rep1 := Rep C)).imp fun i H3 ⟨Z3, m3, i', h3, x3, s3, r3, p3⟩ => ?_⟩
  have rx := (r1.mono x2.sub x2.pre).mono x3.sub x3.pre
  have ro := r2.mono x3.sub x3.pre
  unfold putIx at p3
  cases ro with
  | @ref n a en =>
    simp only at p3
    cases q : h3[n]? with
    | none => simp [q] at p3; exact False.elim p3
    | some ob =>
      cases ob with
      | lst l =>
        cases r3 with
        | int k =>
          simp only [q] at p3
          obtain ⟨vs, hv, rl⟩ := s3.obj n a _ en q
          cases hj : ixN l.length k with
          | none => simp [hj] at p3; exact False.elim p3
          | some j =>
            simp only [hj, Option.map_some] at p3
            refine .inl ⟨a, vs, k, j, rfl, rfl, hv, by rw [← rl.length]; exact hj, ?_⟩
            have xz := Ext.put s3 (.lst (vs.set j x)) en (nfz hv)
            exact p3 _ _ _ () xz (s3.put en q (fun z => nomatch z) fun H' e => ⟨_, e, rl.set rx j⟩) trivial
        | _ => simp [q] at p3; exact False.elim p3
      | dct l =>
        simp only [q] at p3
        split at p3
        · rename_i h4 he4
          split at he4
          · rename_i hlt
            cases hk : keyD i' with
            | none => rw [hk] at he4; exact nomatch he4
            | some k =>
              rw [hk] at he4
              injection he4 with he4
              subst he4
              obtain ⟨vs, hv, rk⟩ := s3.obj n a _ en q
              have ek := key_rep r3 hk
              subst ek
              refine .inr ⟨a, _, rfl, DPut.k hv (by rw [← rk.len, sizeLine_eq]; exact hlt), ?_⟩
              have xz := Ext.put s3 (.dK (putK vs k x)) en (nfz hv)
              exact p3 _ _ _ () xz (s3.put en q (fun z => nomatch z) fun H' e => ⟨_, e, rk.put hk rx⟩) trivial
          · exact nomatch he4
        · exact False.elim p3
      | _ => simp [q] at p3; exact False.elim p3
  | _ => exact False.elim p3
end
end Dn
set_option Elab.async false
set_option linter.all false
set_option maxRecDepth 100000
set_option maxHeartbeats 4000000
namespace Dn
open PySem PySem.Spec PyProof.Rows L2
def strsOf : List D → Option (List Str)
  | [] => some []
  | .str x :: r => (strsOf r).map (x :: ·)
  | _ => none
def intsOf : List D → Option (List Int)
  | [] => some []
  | .int x :: r => (intsOf r).map (x :: ·)
  | _ => none
theorem strsOf_map : ∀ ws : List Str, strsOf (ws.map D.str) = some ws
  | [] => rfl
  | w :: ws => by simp [strsOf, strsOf_map ws]
theorem strsOf_eq : ∀ {l : List D} {ws : List Str}, strsOf l = some ws → l = ws.map D.str
  | [], _, e => by cases e; rfl
  | d :: r, ws, e => by
    cases d with
    | str x =>
      simp only [strsOf] at e
      cases q : strsOf r with
      | none => rw [q] at e; cases e
      | some ws' => rw [q] at e; cases e; rw [List.map_cons, ← strsOf_eq q]
    | _ => cases e
theorem intsOf_eq : ∀ {l : List D} {ws : List Int}, intsOf l = some ws → l = ws.map D.int
  | [], _, e => by cases e; rfl
  | d :: r, ws, e => by
    cases d with
    | int x =>
      simp only [intsOf] at e
      cases q : intsOf r with
      | none => rw [q] at e; cases e
      | some ws' => rw [q] at e; cases e; rw [List.map_cons, ← intsOf_eq q]
    | _ => cases e
def bLen : FM := fun ds h => match ds with
  | [.str x] => if x.length ≤ 16777216 then .ok (.int x.length) h else .err
  | [.scr ns] => .ok (.int ns.length) h
  | [.tup l] => .ok (.int l.length) h
  | [d] => match lsOf h d with
    | some l => .ok (.int l.length) h
    | none => match dcOf h d with
      | some l => .ok (.int l.length) h
      | none => .err
  | _ => .err
def mxL : List Int → Int
  | [] => 0
  | x :: xs => xs.foldl max x
def mnL : List Int → Int
  | [] => 0
  | x :: xs => xs.foldl min x
def bMax : FM := fun ds h => match ds with
  | [.int a, .int b] => .ok (.int (max a b)) h
  | [d] => match lsOf h d with
    | some l => (match intsOf l with
      | some ns => if 0 < ns.length then .ok (.int (mxL ns)) h else .err
      | none => .err)
    | none => .err
  | _ => .err
def bMin : FM := fun ds h => match ds with
  | [.int a, .int b] => .ok (.int (min a b)) h
  | [d] => match lsOf h d with
    | some l => (match intsOf l with
      | some ns => if 0 < ns.length then .ok (.int (mnL ns)) h else .err
      | none => .err)
    | none => .err
  | _ => .err
def bInt : FM := fun ds h => match ds with
  | [.int a] => .ok (.int a) h
  | [.bl b] => .ok (.int (if b then 1 else 0)) h
  | [.str x] => match intText? x with
    | some n => if x.length ≤ 640 then .ok (.int n) h else .err
    | none => .err
  | _ => .err
/-- isinstance(x, T), T a built-in type -/
def tyD (h : Hm) : D → Option String
  | .non => some "NoneType" | .bl _ => some "bool" | .int _ => some "int" | .str _ => some "str" | .tup _ => some "tuple" | .lst _ => some "list"
  | .ref n => match h[n]? with
    | some (.lst _) => some "list"
    | some (.dct _) => some "dict"
    | _ => none
  | _ => none
def isTy (t T : String) : Bool := t == T || (t == "bool" && T == "int")
def isi (T : String) (d : D) (h : Hm) : R D := match tyD h d with
  | some t => .ok (.bl (isTy t T)) h
  | none => .err
abbrev MM := D → List D → Hm → R D
def mAppend : MM := fun d xs h => match d, xs with
  | .ref n, [x] => match h[n]? with
    | some (.lst l) => if l.length < 16777216 then .ok .non (h.set n (.lst (l ++ [x]))) else .err
    | _ => .err
  | _, _ => .err
def mJoin : MM := fun d xs h => match d, xs with
  | .str a, [x] => match items h x with
    | some l => (match strsOf l with
      | some ys => if (ys.map (·.length)).sum + ys.length * a.length ≤ 16777216 then .ok (.str (Str.join a ys)) h else .err
      | none => .err)
    | none => .err
  | _, _ => .err
/-- the receiver is of that type -/
def isRc (T : String) (d : D) (h : Hm) : Bool := match d with
  | .str _ => T == "str"
  | d => (lsOf h d).isSome && T == "list"
def eM (T : String) (g : MM) (o : EM) (a : AM) : EM := fun v h => (o v h).bind fun x h1 => if isRc T x h1 then (a v h1).bind fun xs h2 => g x xs h2 else .err
theorem foldl_max (l : List Int) : ∀ x : Int, (l.foldl max x = x ∨ l.foldl max x ∈ l) ∧ x ≤ l.foldl max x ∧ ∀ y ∈ l, y ≤ l.foldl max x := by
  induction l with
  | nil => intro x; exact ⟨.inl rfl, Int.le_refl _, fun _ h => nomatch h⟩
  | cons a l ih =>
    intro x
    obtain ⟨h1, h2, h3⟩ := ih (max x a)
    rw [List.foldl_cons]
    refine ⟨?_, by omega, fun y hy => ?_⟩
    · rcases h1 with h1 | h1
      · rw [h1]
        by_cases hx : x ≤ a
        · rw [Int.max_eq_right hx]; exact .inr (List.mem_cons_self ..)
        · rw [Int.max_eq_left (by omega)]; exact .inl rfl
      · exact .inr (List.mem_cons_of_mem _ h1)
    · rcases List.mem_cons.mp hy with rfl | hy
      · omega
      · exact h3 y hy
theorem foldl_min (l : List Int) : ∀ x : Int, (l.foldl min x = x ∨ l.foldl min x ∈ l) ∧ l.foldl min x ≤ x ∧ ∀ y ∈ l, l.foldl min x ≤ y := by
  induction l with
  | nil => intro x; exact ⟨.inl rfl, Int.le_refl _, fun _ h => nomatch h⟩
  | cons a l ih =>
    intro x
    obtain ⟨h1, h2, h3⟩ := ih (min x a)
    rw [List.foldl_cons]
    refine ⟨?_, by omega, fun y hy => ?_⟩
    · rcases h1 with h1 | h1
      · rw [h1]
        by_cases hx : a ≤ x
        · rw [Int.min_eq_right hx]; exact .inr (List.mem_cons_self ..)
        · rw [Int.min_eq_left (by omega)]; exact .inl rfl
      · exact .inr (List.mem_cons_of_mem _ h1)
    · rcases List.mem_cons.mp hy with rfl | hy
      · omega
      · exact h3 y hy
theorem mxL_mem {l : List Int} (h : 0 < l.length) : mxL l ∈ l ∧ ∀ y ∈ l, y ≤ mxL l := by
  cases l with
  | nil => simp at h
  | cons x xs =>
    obtain ⟨h1, h2, h3⟩ := foldl_max xs x
    refine ⟨?_, fun y hy => ?_⟩
    · rcases h1 with h1 | h1
      · show xs.foldl max x ∈ x :: xs
        rw [h1]; exact List.mem_cons_self ..
      · exact List.mem_cons_of_mem _ h1
    · rcases List.mem_cons.mp hy with rfl | hy
      · exact h2
      · exact h3 y hy
theorem mnL_mem {l : List Int} (h : 0 < l.length) : mnL l ∈ l ∧ ∀ y ∈ l, mnL l ≤ y := by
  cases l with
  | nil => simp at h
  | cons x xs =>
    obtain ⟨h1, h2, h3⟩ := foldl_min xs x
    refine ⟨?_, fun y hy => ?_⟩
    · rcases h1 with h1 | h1
      · show xs.foldl min x ∈ x :: xs
        rw [h1]; exact List.mem_cons_self ..
      · exact List.mem_cons_of_mem _ h1
    · rcases List.mem_cons.mp hy with rfl | hy
      · exact h2
      · exact h3 y hy
section
variable {X : Cx} {C : Cn} {E : WX}
theorem repL_one {Z : Hp} {m : List Addr} {d : D} {xs : List V} (r : RepL C Z m [d] xs) : ∃ x, xs = [x] ∧ Rep C Z m d x := by
  cases r with
  | cons a b => cases b; exact ⟨_, rfl, a⟩
theorem nox_bLen : ∀ a h, NoX (bLen a h) := by intro a h e g; unfold bLen; repeat' split
                                               all_goals simp
theorem nox_bMax : ∀ a h, NoX (bMax a h) := by intro a h e g; unfold bMax; repeat' split
                                               all_goals simp
theorem nox_bMin : ∀ a h, NoX (bMin a h) := by intro a h e g; unfold bMin; repeat' split
                                               all_goals simp
theorem nox_add : ∀ a b h, NoX (opAdd a b h) := by intro a b h e g; unfold opAdd; repeat' split
                                                   all_goals simp
theorem nox_sub : ∀ a b h, NoX (opSub a b h) := by intro a b h e g; unfold opSub; repeat' split
                                                   all_goals simp
theorem nox_mul : ∀ a b h, NoX (opMul a b h) := by intro a b h e g; unfold opMul; repeat' split
                                                   all_goals simp
theorem nox_mod : ∀ a b h, NoX (opMod a b h) := by intro a b h e g; unfold opMod; repeat' split
                                                   all_goals simp
theorem nox_div : ∀ a b h, NoX (opDiv a b h) := by intro a b h e g; unfold opDiv; repeat' split
                                                   all_goals simp
theorem nox_pow : ∀ a b h, NoX (opPow a b h) := by intro a b h e g; unfold opPow; repeat' split
                                                   all_goals simp
theorem nox_lt : ∀ a b h, NoX (opLt a b h) := by intro a b h e g; unfold opLt; repeat' split
                                                 all_goals simp
theorem nox_ge : ∀ a b h, NoX (opGe a b h) := by intro a b h e g; unfold opGe; repeat' split
                                                 all_goals simp
theorem nox_eq : ∀ a b h, NoX (opEq a b h) := by intro a b h e g; unfold opEq; repeat' split
                                                 all_goals simp
theorem nox_ixD : ∀ a b h, NoX (ixD a b h) := by intro a b h e g; unfold ixD; repeat' split
                                                 all_goals simp
theorem nox_inK (n : Bool) : ∀ a b h, NoX (inK n a b h) := by intro a b h e g; unfold inK; repeat' split
                                                              all_goals simp
theorem nox_inD (n : Bool) : ∀ a b h, NoX (inD n a b h) := by intro a b h e g; unfold inD; repeat' split
                                                              all_goals first | exact nox_inK _ _ _ _ _ _ | simp
theorem nox_in : ∀ a b h, NoX (opIn a b h) := nox_inD false
theorem nox_ix : ∀ a b h, NoX (opIx a b h) := by intro a b h e g; unfold opIx; repeat' split
                                                 all_goals first | exact nox_ixD _ _ _ _ _ | simp
theorem nox_join : ∀ d a h, NoX (mJoin d a h) := by intro d a h e g; unfold mJoin; repeat' split
                                                    all_goals simp
theorem db_len (hK : C.K = X.K) : CallR X (.builtin "len") (rDF C bLen) := by
  intro pins s σ H xs us Q I r ⟨Z, m, h, ds, sm, rd, p⟩
  unfold bLen at p
  split at p
  · obtain ⟨x, rfl, rx⟩ := repL_one rd
    cases rx
    split at p
    · rename_i hl; exact call_len_str pins s σ H _ us Q I r ⟨_, rfl, sz_le hl, p _ _ _ _ .refl sm (.int _)⟩
    · exact False.elim p
  · obtain ⟨x, rfl, rx⟩ := repL_one rd
    cases rx with
    | scr hq =>
      refine call_len_seq pins s σ H _ us Q I r ⟨_, _, rfl, .inl (hK ▸ sqL_mono sm.sub hq), ?_⟩
      rw [List.length_map]
      exact p _ _ _ _ .refl sm (.int _)
  · obtain ⟨x, rfl, rx⟩ := repL_one rd
    cases rx with
    | tup hq rl =>
      refine call_len_seq pins s σ H _ us Q I r ⟨_, _, rfl, .inr (.inl (.inl (sm.sub _ _ hq))), ?_⟩
      rw [← rl.length]
      exact p _ _ _ _ .refl sm (.int _)
  · obtain ⟨x, rfl, rx⟩ := repL_one rd
    split at p
    · rename_i l hl
      obtain ⟨a, vs, rfl, hv, rl⟩ := ls_at sm rx hl
      refine call_len_seq pins s σ H _ us Q I r ⟨_, _, rfl, .inl (.inl (.inl hv)), ?_⟩
      rw [← rl.length]
      exact p _ _ _ _ .refl sm (.int _)
    · split at p
      · rename_i l hl
        obtain ⟨n, a, kvs, _, _, _, e4, e5, rk⟩ := dc_at sm rx hl
        subst e4
        obtain ⟨u, eu, ru⟩ := vals1 r
        subst eu
        obtain rfl : u = Value.ref a := ru
        refine d_len I (.inl e5) fun t s' I' => ⟨.int kvs.length, H, I', ⟨t, rfl⟩, ?_⟩
        rw [← rk.len]
        exact p _ _ _ _ .refl sm (.int _)
      · exact False.elim p
  · exact False.elim p
theorem db_max (hc : X.calm = true) : CallR X (.builtin "max") (rDF C bMax) := by
  intro pins s σ H xs us Q I r ⟨Z, m, h, ds, sm, rd, p⟩
  unfold bMax at p
  split at p
  · rename_i a b
    cases rd with
    | cons ra rd =>
      cases rd with
      | cons rb rd =>
        cases rd; cases ra; cases rb
        refine call_max2 hc pins s σ H _ us Q I r ⟨_, _, rfl, ?_⟩
        have e : (if b > a then b else a) = max a b := by
          rw [Int.max_def]; split <;> split <;> omega
        rw [e]
        exact p _ _ _ _ .refl sm (.int _)
  · obtain ⟨x, rfl, rx⟩ := repL_one rd
    split at p
    · rename_i l hl
      split at p
      · rename_i ns hn
        split at p
        · rename_i hpos
          obtain ⟨a, vs, rfl, hv, rl⟩ := ls_at sm rx hl
          have e := intsOf_eq hn
          subst e
          cases rl.ints
          refine cr_max hc pins s σ H _ us Q I r ⟨a, ns, rfl, .inl (.inl hv), hpos, fun k hk hub => ?_⟩
          obtain ⟨h1, h2⟩ := mxL_mem hpos
          have : k = mxL ns := Int.le_antisymm (h2 k hk) (hub _ h1)
          rw [this]
          exact p _ _ _ _ .refl sm (.int _)
        · exact False.elim p
      · exact False.elim p
    · exact False.elim p
  · exact False.elim p
theorem db_min (hc : X.calm = true) : CallR X (.builtin "min") (rDF C bMin) := by
  intro pins s σ H xs us Q I r ⟨Z, m, h, ds, sm, rd, p⟩
  unfold bMin at p
  split at p
  · rename_i a b
    cases rd with
    | cons ra rd =>
      cases rd with
      | cons rb rd =>
        cases rd; cases ra; cases rb
        refine call_min2 hc pins s σ H _ us Q I r ⟨_, _, rfl, ?_⟩
        have e : (if b < a then b else a) = min a b := by
          rw [Int.min_def]; split <;> split <;> omega
        rw [e]
        exact p _ _ _ _ .refl sm (.int _)
  · obtain ⟨x, rfl, rx⟩ := repL_one rd
    split at p
    · rename_i l hl
      split at p
      · rename_i ns hn
        split at p
        · rename_i hpos
          obtain ⟨a, vs, rfl, hv, rl⟩ := ls_at sm rx hl
          have e := intsOf_eq hn
          subst e
          cases rl.ints
          refine cr_min hc pins s σ H _ us Q I r ⟨a, ns, rfl, .inl (.inl hv), hpos, fun k hk hub => ?_⟩
          obtain ⟨h1, h2⟩ := mnL_mem hpos
          have : k = mnL ns := Int.le_antisymm (hub _ h1) (h2 k hk)
          rw [this]
          exact p _ _ _ _ .refl sm (.int _)
        · exact False.elim p
      · exact False.elim p
    · exact False.elim p
  · exact False.elim p
/-- the built-in types that are asked -/
def tysA : List String := ["int", "bool", "str", "tuple", "list", "dict"]
theorem kit_all : (["NoneType", "bool", "int", "str", "tuple", "list", "dict"].all fun t => tysA.all fun T => kitB t T == some (isTy t T)) = true := by decide +kernel
theorem kit_is {t T : String} (ht : t ∈ ["NoneType", "bool", "int", "str", "tuple", "list", "dict"]) (hT : T ∈ tysA) : kitB t T = some (isTy t T) := by
  have := List.all_eq_true.mp (List.all_eq_true.mp kit_all t ht) T hT
  exact beq_iff_eq.mp this
theorem nox_isi (T : String) : ∀ a h, NoX (isi T a h) := by intro a h e g; unfold isi; repeat' split
                                                            all_goals simp
theorem de_isi {T : String} {x : Str} {a : Expr} {p pt pos : Pos} {fa : EM} (hT : T ∈ tysA) (hg : Gl X "isinstance") (hm : X.mg "isinstance" = none) (hv : bootBuiltins "isinstance" = some (.builtin "isinstance")) (hgT : Gl X x) (hmT : X.mg x = none) (hvT : bootBuiltins x = some (.type T)) (ha : PE X a (denE C E fa))
    (hnT : x ≠ "__name__" := by decide) (hdT : (x == ("__debug__" : Str)) = false := by decide)
    (he : starEach [a, .Name x pt] X.env = (false, eval a X.env) :: starEach [.Name x pt] X.env := by rfl) (he2 : starEach [.Name x pt] X.env = (false, eval (.Name x pt) X.env) :: starEach [] X.env := by rfl)
    (hpl : (backTo pos (starEach [.Name x pt] X.env)).any (·.1) = false := by rfl) : PE X (.Call (.Name "isinstance" p) [a, .Name x pt] [] pos) (denE C E (eU (isi T) fa)) := by
  refine pe_imp (pe_callB call_isi hg hm hv (pa_cons ha (pa_cons (pe_bltn (v := .ty T) hgT hmT hvT rfl hnT hdT) pa_nil he2) he) (by decide) (by decide) he hpl) fun σ H Q ⟨Z, m, v, h, s, e, p⟩ => ?_
  refine ⟨Z, m, v, h, s, e, (p.bind (rep1 := Rep C)).imp fun y H1 ⟨Z1, m1, d, h1, x1, s1, r1, p1⟩ => ?_⟩
  have p1 := p1.nox (nox_isi T _ _)
  unfold isi at p1
  have fin : ∀ (t : String), t ∈ ["NoneType", "bool", "int", "str", "tuple", "list", "dict"] → tyD h1 d = some t → TyX X.K H1 y (.type t) → ∃ (x c : V) (t u : Value) (b : Bool), [y, V.ty T] = [x, c] ∧ ClsV c u ∧ TyX X.K H1 x t ∧ PySem.W.kitOne X.K t u = some b ∧ Q (.bl b) H1 := fun t ht e ty => by
    rw [e] at p1
    exact ⟨y, .ty T, .type t, .type T, isTy t T, rfl, .ty T, ty, kit_ty (kit_is ht hT), p1 _ _ _ _ .refl s1 (.bl _)⟩
  cases r1 with
  | non => exact fin _ (by decide) rfl (.base .non)
  | bl b => exact fin _ (by decide) rfl (.base (.bl b))
  | int b => exact fin _ (by decide) rfl (.base (.int b))
  | str b => exact fin _ (by decide) rfl (.base (.str b))
  | tup hq rl => exact fin _ (by decide) rfl (.base (.tup (s1.sub _ _ hq)))
  | lst hq rl => exact fin _ (by decide) rfl (.base (.lst (s1.sub _ _ hq)))
  | scr hq => exact False.elim p1
  | exn0 _ _ => exact False.elim p1
  | exn1 _ _ _ _ => exact False.elim p1
  | @ref n a en =>
    unfold tyD at p1
    cases q : h1[n]? with
    | none => simp [q] at p1; exact False.elim p1
    | some o =>
      cases o with
      | lst l =>
        obtain ⟨vs, hv, rl⟩ := s1.obj n a _ en q
        exact fin "list" (by decide) (by unfold tyD; simp [q]) (.base (.lst hv))
      | dct l =>
        obtain ⟨vs, hv, rl⟩ := s1.obj n a _ en q
        exact fin "dict" (by decide) (by unfold tyD; simp [q]) (.base (.dK hv))
      | _ => simp [q] at p1; exact False.elim p1
def rDM (C : Cn) (g : MM) : V → List V → Hp → VK → Prop := fun x xs H Q => ∃ Z m h d ds, HSim C Z m h H ∧ Rep C Z m d x ∧ RepL C Z m ds xs ∧ Post C (Rep C) (fun _ _ _ => False) (g d ds h) Z m H Q
theorem tyV_rc {T : String} {Z : Hp} {m : List Addr} {h : Hm} {H : Hp} {d : D} {x : V} (s : HSim C Z m h H) (r : Rep C Z m d x) (e : isRc T d h = true) : tyV X.K T x H := by
  have ls : ∀ l, lsOf h d = some l → T = "list" → tyV X.K T x H := fun l hl ht => by
    obtain ⟨a, vs, rfl, hv, _⟩ := ls_at s r hl
    exact .inl ⟨ht, vs, .inl (.inl hv)⟩
  cases d with
  | str z => cases r; exact beq_iff_eq.mp e
  | _ =>
    simp only [isRc, Bool.and_eq_true, beq_iff_eq] at e
    obtain ⟨l, hl⟩ := Option.isSome_iff_exists.mp e.1
    exact ls l hl e.2
theorem de_bm {T id : String} {name : Str} {o a : Expr} {es : List Expr} {apos cpos : Pos} {g : MM} {fo : EM} {fa : AM} (pa : PlainAttrs T) (slot : Slot T name id) (hty : typeOf (.builtin id) = pure (.type "method_descriptor")) (hm : MtR X id (rDM C g)) (hx : ∀ d a h, NoX (g d a h)) (ho : PE X o (denE C E fo)) (ha : PA X (a :: es) (denA C E fa))
    (hbase : attributeBase o name X.env (eval o X.env) = eval o X.env := by rfl)
    (hfew : ((backTo cpos (starEach (a :: es) X.env)).all (fun x => !x.1) && (backToKw cpos (keywordEach [] X.env)).all (fun x => x.1.isSome)
      && decide ((a :: es).length + ([] : List Keyword).length + (if ([] : List Keyword).isEmpty then 0 else 1) < 30)) = true := by rfl)
    (hline : (apos.endLine == cpos.line) = true := by rfl) (hs : starEach (a :: es) X.env = (false, eval a X.env) :: starEach es X.env := by rfl) (hplain : (backTo cpos (starEach es X.env)).any (·.1) = false := by rfl) :
    PE X (.Call (.Attribute o name apos) (a :: es) [] cpos) (denE C E (eM T g fo fa)) := by
  refine pe_imp (pe_bm pa slot hty hm ho ha hbase hfew hline hs hplain) fun σ H Q ⟨Z, m, v, h, s, e, p⟩ => ?_
  refine ⟨Z, m, v, h, s, e, (p.bind (rep1 := Rep C)).imp fun y H1 ⟨Z1, m1, d, h1, x1, s1, r1, p1⟩ => ?_⟩
  split at p1
  · rename_i hr
    refine ⟨tyV_rc s1 r1 hr, Z1, m1, v, h1, s1, e.mono x1, (p1.bind (rep1 := RepL C)).imp fun ys H2 ⟨Z2, m2, ds, h2, x2, s2, r2, p2⟩ => ?_⟩
    exact ⟨Z2, m2, h2, d, ds, s2, r1.mono x2.sub x2.pre, r2, p2.nox (hx _ _ _)⟩
  · exact False.elim p1
theorem dm_join : MtR X "str.join" (rDM C mJoin) := by
  intro pins s σ H x xs v us Q I rx rs ⟨Z, m, h, d, ds, sm, rd, rds, p⟩
  unfold mJoin at p
  split at p
  · rename_i a y
    cases rd
    obtain ⟨z, rfl, rz⟩ := repL_one rds
    split at p
    · rename_i l hl
      split at p
      · rename_i ys hys
        split at p
        · rename_i hlen
          have e := strsOf_eq hys
          subst e
          have fin : ∀ q : Addr, z = .ref q → (SqL X.K H q (ys.map V.str) ∨ SqT X.K H q (ys.map V.str)) → wpAny (model X.prog X.w) X.A (call (.builtin "str.join") (v :: us)) (EP X pins σ Q) X.xe s := fun q e hq => by
            subst e
            exact mt_join pins s σ H _ _ v us Q I rx rs ⟨a, q, ys, rfl, rfl, hq, hlen, by rw [show Txt.join a ys = Str.join a ys from TL.join_eq a ys]; exact p _ _ _ _ .refl sm (.str _)⟩
          cases rz with
          | tup hq rl => cases hl; cases rl.strs; exact fin _ rfl (.inr (.inl (.inl (sm.sub _ _ hq))))
          | lst hq rl => cases hl; cases rl.strs; exact fin _ rfl (.inl (.inl (.inl (sm.sub _ _ hq))))
          | @ref n b en =>
            obtain ⟨b', ws, e1, hw, rk⟩ := ls_at sm (.ref en) (show lsOf h (.ref n) = some _ from hl)
            cases e1
            cases rk.strs
            exact fin _ rfl (.inl (.inl (.inl hw)))
          | _ => cases hl
        · exact False.elim p
      · exact False.elim p
    · exact False.elim p
  · exact False.elim p
end
end Dn
set_option Elab.async false
set_option linter.all false
set_option maxRecDepth 100000
set_option maxHeartbeats 4000000
namespace Dn
open PySem PySem.Spec PyProof.Rows L2
/-- a def as it stands behind the top, with what it does -/
structure Cal (P : Program) (w : World) (K : PySem.W.Frag) (mg : Str → Option Value) (base : Heap) (C : Cn) (CX : CXT) (k : Nat) (x : Str) (ps : List Str) (fm : FM) : Prop where
  ok : ∃ (f : Addr) (fd : FuncData), FnOk P w K mg base CX k f fd ps (spD C fm) ∧ mg x = some (.ref f) ∧ PySem.W.keepIn K (.ref f) = true ∧ Binds K fd ps []
theorem Cal.tr {P : Program} {w : World} {K : PySem.W.Frag} {mg : Str → Option Value} {base : Heap} {C : Cn} {CX : CXT} {k : Nat} {x : Str} {ps : List Str} {fm : FM} (c : Cal P w K mg base C CX k x ps fm) : Cal P w K mg base C CX k x ps (tr fm) := by
  obtain ⟨f, fd, a, b, c, d⟩ := c.ok
  exact ⟨f, fd, fn_tr a, b, c, d⟩
section
variable {X : Cx} {C : Cn} {E : WX}
theorem de_callC {CX : CXT} {k j : Nat} {ps : List Str} {fm : FM} {x : Str} {p pos : Pos} {a : Expr} {es : List Expr} {fa : AM} (c : Cal X.prog X.w X.K X.mg X.base C CX k x ps fm) (hr : Room j X.A) (hj : k ≤ j) (hg : Gl X x)
    (hx : ∀ σ, PassesAt CX X σ (fun c d H => E c d σ H)) (ha : PA X (a :: es) (denA C E fa)) (hdb : (x == ("__debug__" : Str)) = false := by decide) (he : starEach (a :: es) X.env = (false, eval a X.env) :: starEach es X.env := by rfl) (hpl : (backTo pos (starEach es X.env)).any (·.1) = false := by rfl) :
    PE X (.Call (.Name x p) (a :: es) [] pos) (denE C E (eF fm fa)) := by
  obtain ⟨f, fd, F, hm, hk, hb⟩ := c.ok
  exact de_call F (hr.mono hj) hg hm hk hb hx ha hdb he hpl
end
theorem bt_len : bootBuiltins "len" = some (.builtin "len") := by decide +kernel
theorem bt_max : bootBuiltins "max" = some (.builtin "max") := by decide +kernel
theorem bt_min : bootBuiltins "min" = some (.builtin "min") := by decide +kernel
theorem bt_isinstance : bootBuiltins "isinstance" = some (.builtin "isinstance") := by decide +kernel
theorem bt_int : bootBuiltins "int" = some (.type "int") := by decide +kernel
theorem bt_bool : bootBuiltins "bool" = some (.type "bool") := by decide +kernel
/-- the law's: a list of at most 63 ints is handed in, True comes out -/
def spLaw (K : PySem.W.Frag) : Sp := fun vs H Q _ => ∃ (a : Addr) (ns : List Int), vs = [.ref a] ∧ SqL K H a (ns.map V.int) ∧ ns.length ≤ 63 ∧ ∀ H', Q (.bl true) H'
/-- the same where tables of code objects are known -/
def spLawT (K : PySem.W.Frag) (T : List (Addr × Str)) : Sp := fun vs H Q _ => ∃ (a : Addr) (ns : List Int), vs = [.ref a] ∧ SqL K H a (ns.map V.int) ∧ ns.length ≤ 63 ∧ LamX.Tabs T H ∧ ∀ H', Q (.bl true) H'
theorem law_endT {P : Program} {w : World} {K : PySem.W.Frag} {mg : Str → Option Value} {base : Heap} {C : Cn} {CX : CXT} {k : Nat} {f : Addr} {fd : FuncData} {ps : List Str} {fm : FM} (hK : C.K = K) (F : FnOk P w K mg base CX k f fd ps (spD C fm))
    (h : ∀ ns : List Int, ns.length ≤ 63 → ∃ h1, fm [.scr ns] [] = .ok (.bl true) h1) : FnOk P w K mg base CX k f fd ps (spLawT K C.T) := by
  refine F.imp fun vs H Q E ⟨a, ns, e, hq, hl, tb, q⟩ => ?_
  subst e
  have fin : ∀ Z : Hp, (∀ b o, Z b = some o → H b = some o) → (∀ b ps, Z b ≠ some (.tbl ps)) → SqL C.K Z a (ns.map V.int) → spD C fm [.ref a] H Q E := fun Z hz hn hs => by
    refine ⟨Z, [], [], [.scr ns], ⟨hz, rfl, List.nodup_nil, fun n a o e => by simp at e, fun n a o e => by simp at e, tb, hn⟩, .cons (.scr hs) .nil, ?_⟩
    obtain ⟨h1, e1⟩ := h ns hl
    rw [e1]
    intro Z' m' H' v _ _ r
    cases r
    exact q H'
  have one : ∀ o : HO, H a = some o → (∀ ps, o ≠ .tbl ps) → (∀ b u, (if b = a then some o else none) = some u → H b = some u) ∧ ∀ b ps, (if b = a then some o else none) ≠ some (HO.tbl ps) := fun o e n => by
    refine ⟨fun b u z => ?_, fun b ps z => ?_⟩
    · by_cases hb : b = a
      · rw [if_pos hb] at z; rw [hb, e]; exact z
      · rw [if_neg hb] at z; cases z
    · by_cases hb : b = a
      · rw [if_pos hb] at z; exact n ps (Option.some.inj z)
      · rw [if_neg hb] at z; cases z
  rcases hq with (hq | ⟨o, hq⟩) | hq
  · obtain ⟨z1, z2⟩ := one _ hq fun _ z => by cases z
    exact fin (fun b => if b = a then some (.lst (ns.map V.int)) else none) z1 z2 (.inl (.inl (by show (if a = a then _ else _) = _; rw [if_pos rfl])))
  · obtain ⟨z1, z2⟩ := one _ hq fun _ z => by cases z
    exact fin (fun b => if b = a then some (.frz o (.lst (ns.map V.int))) else none) z1 z2 (.inl (.inr ⟨o, by show (if a = a then _ else _) = _; rw [if_pos rfl]⟩))
  · exact fin (fun _ => none) (fun b o z => nomatch z) (fun b ps z => nomatch z) (.inr (by rw [hK]; exact hq))
theorem law_end {P : Program} {w : World} {K : PySem.W.Frag} {mg : Str → Option Value} {base : Heap} {C : Cn} {CX : CXT} {k : Nat} {f : Addr} {fd : FuncData} {ps : List Str} {fm : FM} (hK : C.K = K) (hT : C.T = []) (F : FnOk P w K mg base CX k f fd ps (spD C fm))
    (h : ∀ ns : List Int, ns.length ≤ 63 → ∃ h1, fm [.scr ns] [] = .ok (.bl true) h1) : FnOk P w K mg base CX k f fd ps (spLaw K) :=
  (law_endT hK F h).imp fun vs H Q E ⟨a, ns, e, hq, hl, q⟩ => ⟨a, ns, e, hq, hl, by rw [hT]; exact fun p hp => (by simp at hp), q⟩
end Dn
set_option Elab.async false
set_option linter.all false
set_option maxRecDepth 100000
set_option maxHeartbeats 4000000
namespace Dn
open PySem PySem.Spec PyProof.Rows L2
end Dn
set_option Elab.async false
set_option linter.all false
set_option maxRecDepth 100000
set_option maxHeartbeats 4000000
namespace Dn
open PySem PySem.Spec PyProof.Rows L2
/-- whether an exception of class c is one of T -/
def xIs (c T : Str) : Bool := c == T || T == "BookError" || T == "ValueError"
def Fl.nox : Fl → Fl
  | .exc _ _ _ => .err
  | o => o
def oexB (K : PySem.W.Frag) (C : Addr) : Bool := match K.lookup C with
  | some ⟨.type "type", _, .cls cd, sl⟩ => (match cd.mro, sl.toList with
    | .ref C' :: bm, [_, _, _, _, some (.builtin n), _] => C' == C && n == "ValueError.__new__" && !cd.hasDel && cd.hasDict && PySem.HandSPX.refsVE bm
    | _, _ => false)
  | _ => false
theorem oexB_ok {K : PySem.W.Frag} {C : Addr} (q : oexB K C = true) : ∃ nm q N bs bm sn sub ab col dd k0 k1 k2 k3 k5, K.lookup C = some (excClassObj nm q C N bs bm true sn sub ab col dd k0 k1 k2 k3 k5 "ValueError.__new__") ∧ PySem.HandSPX.refsVE bm = true := by
  unfold oexB at q
  split at q
  · rename_i dd cd sl ho
    split at q
    · rename_i C' bm k0 k1 k2 k3 n k5 hm hs
      simp only [Bool.and_eq_true, beq_iff_eq, Bool.not_eq_true'] at q
      obtain ⟨⟨⟨⟨e1, e2⟩, hdel⟩, hdc⟩, ht⟩ := q
      subst e1 e2
      obtain ⟨nm, bs, mro, ns, qn, hd, sn, sub, ab, col, del⟩ := cd
      dsimp only at hm hdel hdc
      subst hm hdel hdc
      have hsl : sl = #[k0, k1, k2, k3, some (.builtin "ValueError.__new__"), k5] := by
        obtain ⟨l⟩ := sl
        simp only at hs
        rw [hs]
      subst hsl
      exact ⟨nm, qn, ns, bs, bm, sn, sub, ab, col, dd, k0, k1, k2, k3, k5, ho, ht⟩
    · cases q
  · cases q
def xcB (K : PySem.W.Frag) (C : Addr) : Bool := oexB K C && (decide (PySem.W.findIn K (.ref C) "__setattr__" = some (some (.builtin "object.__setattr__"))) && (decide (PySem.W.subIn K (.ref C) (.type "BaseException") = some true) && (decide (PySem.W.typeIn K (.ref C) = some (.type "type")) && (PySem.W.keepIn K (.ref C) &&
  (decide (PySem.W.findIn K (.ref C) "__getattribute__" = some (some (.builtin "BaseException.__getattribute__"))) && (decide (PySem.W.findIn K (.ref C) "__getattr__" = some none) && (PySem.W.hasDictIn K C && (decide (PySem.W.findIn K (.ref C) "__class__" = some (some (.builtin "object.__class__"))) &&
  (decide (PySem.W.specialIn K (.builtin "object.__class__") "__get__" = some (some (.builtin "getset_descriptor.__get__"))) && (decide (PySem.W.takesIn K (.builtin "object.__class__") = some true) && decide (PySem.W.mroIn K C (.type "object") = some true)))))))))))
structure XCls (K : PySem.W.Frag) (C : Addr) : Prop where
  ox : OexC K C
  ex : ExcC K C
theorem xcB_ok {K : PySem.W.Frag} {C : Addr} (q : xcB K C = true) : XCls K C := by
  simp only [xcB, Bool.and_eq_true, decide_eq_true_eq] at q
  obtain ⟨h0, h1, h2, h3, h4, h5, h6, h7, h8, h9, h10, h11⟩ := q
  exact ⟨⟨oexB_ok h0, h1, h2, h3, h4⟩, ⟨h5, h6, h2, h7, h8, h9, h10, h11⟩⟩
/-- a class's own __init__(self, f): self.f = f -/
def spIni (A : Addr) (f : Str) : Sp := fun vs H Q _ => ∃ (a : Addr) (y : V), vs = [.ref a, y] ∧ H a = some (exo a A none) ∧ ∀ dx, H dx = none → dx ≠ a → Q .non (upd (upd H dx (exd dx [(f, y)])) a (exo a A (some dx)))
/-- B.__init__(self, ..), B a class of the program that has ValueError's -/
structure BIni (K : PySem.W.Frag) (mg : Str → Option Value) (B : Str) (A : Addr) : Prop where
  gl : mg B = some (.ref A)
  sp : PySem.W.specialIn K (.ref A) "__getattribute__" = some (some (.builtin "type.__getattribute__"))
  rd : PySem.W.readsIn K A (.type "type") = true
  fc : PySem.W.findCls K (.ref A) (.type "type") "__init__" = some (.val (.builtin "ValueError.__init__"))
section
variable {X : Cx} {C : Cn} {E : WX}
theorem pe_bini {B : Str} {BA : Addr} {e : Expr} {es : List Expr} {ta : TA} {p1 p2 pos : Pos} {pl : Sem Bool} (hg : Gl X B) (T : BIni X.K X.mg B BA) (ha : PA X (e :: es) ta) (hd : (B == ("__debug__" : Str)) = false := by decide)
    (hc : eval (.Call (.Attribute (.Name B p1) "__init__" p2) (e :: es) [] pos) X.env = (do
      let ov ← eval (.Name B p1) X.env
      standAt p2.atName
      let (f, first) ← holding [ov] (getMethod ov "__init__" pl)
      callWith pos f first (backTo pos (starEach (e :: es) X.env)) (backToKw pos (keywordEach [] X.env))) := by rfl)
    (he : starEach (e :: es) X.env = (false, eval e X.env) :: starEach es X.env := by rfl) (hpl : (backTo pos (starEach es X.env)).any (·.1) = false := by rfl) :
    PE X (.Call (.Attribute (.Name B p1) "__init__" p2) (e :: es) [] pos) (tVeI X.K ta) := by
  refine ⟨fun pins s σ H Q I h => ?_⟩
  refine PySem.W.methodCall_KW (ld_glob I hg T.gl ?_ hd) hc
  refine PySem.W.method_cls I.kIn T.sp (PySem.W.cls_value I.kIn T.rd T.fc rfl ?_)
  show wpAny _ _ (callWith pos (Value.builtin "ValueError.__init__") [] (backTo pos (starEach (e :: es) X.env)) []) _ _ _
  refine PyProof.Rows.callWith_method1 (thn (ha.run pos pins _ σ H _ (I.tok _) h) fun us s1 ⟨vs, H1, I1, r1, a, A, ws, ev, hl, T, ea, q⟩ => ?_) he hpl
  subst ev
  cases r1 with
  | @cons _ u0 _ ur ra rw' =>
    obtain rfl : u0 = Value.ref a := ra
    have hlen : ur.length ≤ sizeLine := by
      rw [← Paired.length rw', sizeLine_eq]
      omega
    exact oinit_ok T I1 ea hlen fun s' J => ⟨.non, H1, J, rfl, q⟩
/-- what such an __init__ does -/
theorem ini_reads {K : PySem.W.Frag} {A : Addr} {f m : Str} {N : List Str} (T : OexC K A) (hno : PySem.W.findIn K (.ref A) f = some none) (hN : N.length = 2) {vs : List V} {H : Hp} {Q : VK} {Ex : XK} (h : spIni A f vs H Q Ex) :
    tSeq (tDrop (tVeI K (tCons (tVar 0) (tCons (tC (.str m)) tNil)))) (tOst K f (tVar 0) (tVar 1)) { nx := fun _ H' => Q .non H', rt := Q } (L2.start N vs) H := by
  obtain ⟨a, y, rfl, ha, q⟩ := h
  have e : L2.start N [.ref a, y] = [some (.ref a), some y] := by unfold L2.start; rw [hN]; rfl
  rw [e]
  exact ⟨_, rfl, a, A, [.str m], rfl, (show 1 ≤ 1000 by omega), T, ha, _, rfl, _, rfl, a, A, rfl, T, hno, .inl ⟨ha, q⟩⟩
end
theorem exH_ok {P : Program} {w : World} {H : Hp} {h : Heap} {a A : Addr} {od : Option Addr} {oe : Obj} {vs : Array Value} (e : h.get? a = some oe) (z : Zc (.ref A) od oe) (d : oe.data = .fields vs) : ObjOk P w H h a (exH a A od) :=
  ⟨⟨oe, vs, e, z.1, z.2, d⟩, ⟨oe, e⟩, fun h1 h2 y k => let ⟨o, v, a1, a2, a3, a4⟩ := y; ⟨o, v, k _ a1, a2, a3, a4⟩⟩
section
variable {X : Cx} {pins : List (Addr × Obj)} {σ : L2.St} {H : Hp} {s : Shared}
/-- an object of ours that was not tracked -/
theorem inv_track {a : Addr} {o : HO} {oa : Obj} (I : Inv X pins σ H s) (ha : s.heap.get? a = some oa) (hn : H a = none) (hL : a ≠ X.env.locals) (hF : a ∉ X.fs) (hc : ∀ v, oa.data ≠ .cell v) (hp : ∀ p ∈ X.pn ++ pins, p.1 ≠ a) (h0 : ∀ u, X.s_0.heap.get? a = some u → X.H_0 a = none → a ∈ X.ex)
    (new : ObjOk X.prog X.w (upd H a o) s.heap a o) : Inv X pins σ (upd H a o) s := by
  refine ⟨I.ok, I.os, I.bare, ⟨I.base.keep, I.base.slot, fun b u e n hx => ?_, I.base.there, fun b xs e => ?_, fun b u xs e => ?_, fun b ps e => ?_⟩, I.loc, I.cell, ?_, fun x c e => ?_, fun p hp' => ?_, fun b u e => ?_, I.len⟩
  · by_cases hb : b = a
    · subst hb; exact absurd (h0 u e n) hx
    · rw [upd_ne hb]; exact I.base.free b u e n hx
  · have := I.base.tups b xs e
    rw [upd_ne (ne_of_none this hn)]; exact this
  · have := I.base.frzs b u xs e
    rw [upd_ne (ne_of_none this hn)]; exact this
  · obtain ⟨more, q⟩ := I.base.tbls b ps e
    exact ⟨more, by rw [upd_ne (ne_of_none q hn)]; exact q⟩
  · rw [upd_ne (Ne.symm hL)]; exact I.free
  · obtain ⟨v, oc, hoc, hd⟩ := I.cell x c e
    rw [upd_ne (fun z => by subst z; rw [ha] at hoc; cases hoc; exact hc _ hd)]
    exact I.freeC x c e
  · obtain ⟨a1, a2, a3⟩ := I.pin p hp'
    exact ⟨a1, by rw [upd_ne (hp p hp')]; exact a2, a3⟩
  · by_cases hb : b = a
    · subst hb; rw [upd_same] at e; cases e; exact new
    · rw [upd_ne hb] at e
      exact (I.hok b u e).stay (fun _ _ _ q => q) (fun c q => by rw [upd_ne (ne_of_none q hn)]; exact q) fun c xs q => by rw [upd_ne (ne_of_none q hn)]; exact q
end
end Dn
set_option Elab.async false
set_option linter.all false
set_option maxRecDepth 100000
set_option maxHeartbeats 4000000
namespace Dn
open PySem PySem.Spec PyProof.Rows L2
section
variable {X : Cx} {C : Cn} {E : WX}
theorem exn_lay {Z H : Hp} {m : List Addr} {h : Hm} {c : Str} {fs : List (Str × D)} {cl : Value} {A : Addr} {od : Option Addr} {a : Addr} (s : HSim C Z m h H) (na : H a = none) (r : ExR C Z m H (.exn c fs) cl od) (e : cl = .ref A) :
    HSim C (upd Z a (exH a A od)) m h (upd H a (exH a A od)) ∧ Ext Z m H (upd Z a (exH a A od)) m (upd H a (exH a A od)) ∧ Rep C (upd Z a (exH a A od)) m (.exn c fs) (.ref a) := by
  have x := Ext.lay s na (exH a A od)
  refine ⟨s.lay na _, x, ?_⟩
  obtain ⟨A', h1, h2, h3⟩ := r
  rw [h2] at e; cases e
  rcases h3 with ⟨rfl, rfl⟩ | ⟨d, gs, rfl, h4, h5⟩
  · exact .exn0 h1 upd_same
  · exact .exn1 h1 upd_same (x.sub _ _ h4) (h5.mono x.sub (List.prefix_refl _))
theorem PostS.nox {r : Fl} {Z : Hp} {m : List Addr} {H : Hp} {K : Ends} (h : PostS C E r.nox Z m H K) : PostS C EF r Z m H K := by
  cases r with
  | exc e v h' => exact False.elim h
  | nx v h' => exact h
  | rt v h' => exact h
  | bk v h' => exact h
  | ct v h' => exact h
  | err => exact h
/-- isinstance of an exception, by classes of exceptions -/
def isX (Ts : List Str) (d : D) (h : Hm) : R D := match d with
  | .exn c _ => .ok (.bl (Ts.any fun T => xIs c T)) h
  | _ => .err
theorem nox_isX (Ts : List Str) : ∀ a h, NoX (isX Ts a h) := by intro a h e g; unfold isX; split <;> simp
/-- .f of an exception -/
def xFld (f : Str) (d : D) (h : Hm) : R D := match d with
  | .exn _ fs => match fs.lookup f with
    | some x => .ok x h
    | none => .err
  | _ => .err
/-- what a caught exception is for the library -/
theorem inst_of {pins : List (Addr × Obj)} {σ : L2.St} {H : Hp} {s : Shared} {a A : Addr} {od : Option Addr} (I : Inv X pins σ H s) (e : H a = some (exH a A od)) (hd : ∀ d, od = some d → ∃ gs, H d = some (.xd gs)) :
    ∃ oe odo, PySem.W.InstAt s.heap a oe A odo ∧ (∀ d gs, od = some d → H d = some (.xd gs) → ∃ (mA : Str → Option Value) (oD : Obj), odo = some oD ∧ (∀ f, RelO (gs.lookup f) (mA f)) ∧ ∀ name, PySem.W.lookIn name oD = some (mA name)) := by
  have x : ObjOk X.prog X.w H s.heap a (exH a A od) := I.hok a _ e
  obtain ⟨⟨oe, vs, h1, h2, h3, h4⟩, _⟩ := x
  cases od with
  | none =>
    refine ⟨oe, none, ⟨h1, h2, by unfold PySem.W.notCls; rw [h4] <;> rfl, by rw [h3]; trivial⟩, fun d gs z => nomatch z⟩
  | some d =>
    obtain ⟨gs, hg⟩ := hd d rfl
    have y : ObjOk X.prog X.w H s.heap d (.xd gs) := I.hok d _ hg
    obtain ⟨mA, hns, hr⟩ := y
    obtain ⟨oD, ho, hl⟩ := lookIn_ns hns
    refine ⟨oe, some oD, ⟨h1, h2, by unfold PySem.W.notCls; rw [h4] <;> rfl, by rw [h3]; exact ho⟩, fun d' gs' z hg' => ?_⟩
    cases z
    rw [hg] at hg'; cases hg'
    exact ⟨mA, oD, rfl, hr, hl⟩
theorem clsIn_of {K : PySem.W.Frag} {A : Addr} (h : PySem.W.hasDictIn K A = true) : (PySem.W.clsIn K A).isSome = true := by
  obtain ⟨cd, hc, _⟩ := PySem.W.any_some h
  rw [hc]; rfl
theorem call_isX : CallR X (.builtin "isinstance") (fun xs H Q => ∃ (a A : Addr) (od : Option Addr) (c : V) (u : Value) (b : Bool), xs = [.ref a, c] ∧ ClsV c u ∧ H a = some (exH a A od) ∧ (∀ d, od = some d → ∃ gs, H d = some (.xd gs)) ∧ ExcC X.K A ∧ PySem.W.kitOne X.K (.ref A) u = some b ∧ Q (.bl b) H) := by
  intro pins s σ H xs us Q I r ⟨a, A, od, c, u, b, e, hc, ea, hd, T, hk, q⟩
  subst e
  cases r with
  | cons rx rr =>
    cases rr with
    | cons rt rr =>
      cases rr
      cases rx
      have ec := hc.eq rt
      subst ec
      obtain ⟨oe, odo, J, _⟩ := inst_of I ea hd
      exact PySem.W.kia_one (PySem.W.kitx_exc (clsIn_of T.hd) T.hg T.hk T.hs T.ha T.hn T.ht T.hm) I.kIn J hk (fun z => nomatch z) fun tk => ⟨.bl b, H, I.kept (t' := tk) fun _ _ z => z, rfl, q⟩
/-- the classes of exceptions by their names, and what isinstance says of them -/
structure XTab (C : Cn) : Prop where
  ex : ∀ c A, C.cls c = some A → XCls C.K A
  is : ∀ c A T B, C.cls c = some A → C.cls T = some B → PySem.W.kitOne C.K (.ref A) (.ref B) = some (xIs c T)
  ve : ∀ c A, C.cls c = some A → PySem.W.kitOne C.K (.ref A) (.type "ValueError") = some true
  em : ∀ c A T B, C.cls c = some A → C.cls T = some B → PySem.W.exmOne C.K (.ref A) (.ref B) = some (xIs c T)
theorem exn_at {Z H : Hp} {m : List Addr} {h : Hm} {c : Str} {fs : List (Str × D)} {y : V} (s : HSim C Z m h H) (r : Rep C Z m (.exn c fs) y) : ∃ a A od, y = .ref a ∧ C.cls c = some A ∧ H a = some (exH a A od) ∧ (∀ d, od = some d → ∃ gs, H d = some (.xd gs)) ∧ ∀ f x, fs.lookup f = some x → ∃ d gs z, od = some d ∧ H d = some (.xd gs) ∧ gs.lookup f = some z ∧ Rep C Z m x z := by
  cases r with
  | exn0 h1 h2 => exact ⟨_, _, none, rfl, h1, s.sub _ _ h2, (fun d z => nomatch z), (fun f x z => by simp at z)⟩
  | @exn1 a A d _ _ gs h1 h2 h3 h4 =>
    refine ⟨_, _, some d, rfl, h1, s.sub _ _ h2, fun d' z => by cases z; exact ⟨gs, s.sub _ _ h3⟩, fun f x z => ⟨d, gs, ?_⟩⟩
    have : ∀ {fs : List (Str × D)} {gs : List (Str × V)}, RepF C Z m fs gs → ∀ {x}, fs.lookup f = some x → ∃ z, gs.lookup f = some z ∧ Rep C Z m x z := by
      intro fs gs hr
      induction fs generalizing gs with
      | nil => intro x z; simp at z
      | cons p fs ih =>
        cases hr with
        | @cons g d v _ vs r1 r2 =>
          intro x z
          rw [List.lookup_cons] at z ⊢
          cases hb : f == g with
          | true => rw [hb] at z; cases z; exact ⟨_, rfl, r1⟩
          | false => rw [hb] at z; exact ih r2 z
    obtain ⟨w, h5, h6⟩ := this h4 z
    exact ⟨w, rfl, s.sub _ _ h3, h5, h6⟩
/-- isinstance(e, T), T a class of the program -/
theorem de_isX {T : Str} {B : Addr} {a : Expr} {p pt pos : Pos} {fa : EM} (tab : XTab C) (hK : C.K = X.K) (hg : Gl X "isinstance") (hm : X.mg "isinstance" = none) (hv : bootBuiltins "isinstance" = some (.builtin "isinstance")) (hgT : Gl X T) (hmT : X.mg T = some (.ref B)) (hc : C.cls T = some B) (ha : PE X a (denE C E fa)) (hdT : (T == ("__debug__" : Str)) = false := by decide)
    (he : starEach [a, .Name T pt] X.env = (false, eval a X.env) :: starEach [.Name T pt] X.env := by rfl) (he2 : starEach [.Name T pt] X.env = (false, eval (.Name T pt) X.env) :: starEach [] X.env := by rfl)
    (hpl : (backTo pos (starEach [.Name T pt] X.env)).any (·.1) = false := by rfl) : PE X (.Call (.Name "isinstance" p) [a, .Name T pt] [] pos) (denE C E (eU (isX [T]) fa)) := by
  refine pe_imp (pe_callB call_isX hg hm hv (pa_cons ha (pa_cons (pe_glob (v := .ref B) hgT hmT rfl hdT) pa_nil he2) he) (by decide) (by decide) he hpl) fun σ H Q ⟨Z, m, v, h, s, e, p⟩ => ?_
  refine ⟨Z, m, v, h, s, e, (p.bind (rep1 := Rep C)).imp fun y H1 ⟨Z1, m1, d, h1, x1, s1, r1, p1⟩ => ?_⟩
  have p1 := p1.nox (nox_isX [T] _ _)
  cases d with
  | exn c fs =>
    obtain ⟨a, A, od, rfl, hA, ea, hd, _⟩ := exn_at s1 r1
    have q := tab.is c A T B hA hc
    rw [hK] at q
    refine ⟨a, A, od, .ref B, .ref B, _, rfl, .own B, ea, hd, hK ▸ (tab.ex c A hA).ex, q, ?_⟩
    have := p1 _ _ _ _ .refl s1 (.bl _)
    simpa using this
  | _ => exact False.elim p1
theorem de_isVE {a : Expr} {p pt pos : Pos} {fa : EM} (tab : XTab C) (hK : C.K = X.K) (hg : Gl X "isinstance") (hm : X.mg "isinstance" = none) (hv : bootBuiltins "isinstance" = some (.builtin "isinstance")) (hgT : Gl X "ValueError") (hmT : X.mg "ValueError" = none) (hvT : bootBuiltins "ValueError" = some (.type "ValueError")) (ha : PE X a (denE C E fa))
    (he : starEach [a, .Name "ValueError" pt] X.env = (false, eval a X.env) :: starEach [.Name "ValueError" pt] X.env := by rfl) (he2 : starEach [.Name "ValueError" pt] X.env = (false, eval (.Name "ValueError" pt) X.env) :: starEach [] X.env := by rfl)
    (hpl : (backTo pos (starEach [.Name "ValueError" pt] X.env)).any (·.1) = false := by rfl) : PE X (.Call (.Name "isinstance" p) [a, .Name "ValueError" pt] [] pos) (denE C E (eU (isX ["ValueError"]) fa)) := by
  refine pe_imp (pe_callB call_isX hg hm hv (pa_cons ha (pa_cons (pe_bltn (v := .ty "ValueError") hgT hmT hvT rfl (by decide) (by decide)) pa_nil he2) he) (by decide) (by decide) he hpl) fun σ H Q ⟨Z, m, v, h, s, e, p⟩ => ?_
  refine ⟨Z, m, v, h, s, e, (p.bind (rep1 := Rep C)).imp fun y H1 ⟨Z1, m1, d, h1, x1, s1, r1, p1⟩ => ?_⟩
  have p1 := p1.nox (nox_isX ["ValueError"] _ _)
  cases d with
  | exn c fs =>
    obtain ⟨a, A, od, rfl, hA, ea, hd, _⟩ := exn_at s1 r1
    have q := tab.ve c A hA
    rw [hK] at q
    refine ⟨a, A, od, .ty "ValueError", .type "ValueError", _, rfl, .ty _, ea, hd, hK ▸ (tab.ex c A hA).ex, q, ?_⟩
    have := p1 _ _ _ _ .refl s1 (.bl _)
    simpa [xIs] using this
  | _ => exact False.elim p1
theorem de_xFld {f : Str} {a : Expr} {pos : Pos} {fa : EM} (tab : XTab C) (hK : C.K = X.K) (hno : ∀ c A, C.cls c = some A → PySem.W.findIn X.K (.ref A) f = some none) (ha : PE X a (denE C E fa)) (hb : attributeBase a f X.env (eval a X.env) = eval a X.env := by rfl) : PE X (.Attribute a f pos) (denE C E (eU (xFld f) fa)) := by
  refine ⟨fun pins s σ H Q I ⟨Z, m, v, h, sm, e, p⟩ => ?_⟩
  refine attr_of hb (thn (ha.run pins s σ H _ I ⟨Z, m, v, h, sm, e, (p.bind (rep1 := Rep C))⟩) fun u s1 ⟨y, H1, I1, ry, Z1, m1, d, h1, x1, s1', r1, p1⟩ => ?_)
  unfold xFld at p1
  cases d with
  | exn c fs =>
    simp only at p1
    obtain ⟨a, A, od, rfl, hA, ea, hd, hl⟩ := exn_at s1' r1
    split at p1
    · rename_i x hx
      obtain ⟨d, gs, z, rfl, hdd, hz, rz⟩ := hl f x hx
      obtain ⟨oe, odo, J, hJ⟩ := inst_of I1 ea hd
      obtain ⟨mA, oD, rfl, hr, hlk⟩ := hJ d gs rfl hdd
      obtain ⟨w, hw, rw'⟩ := RelO.some_of (v := z) (o := mA f) (by rw [← hz]; exact hr f)
      have T := (tab.ex c A hA).ex
      rw [hK] at T
      cases ry
      exact PySem.HandSPX.exc_get I1.kIn J T.hg T.hk T.hs (PySem.W.findObj_own T.hd (hno c A hA) rfl (by rw [hlk, hw])) (handed_of rw') ⟨z, H1, I1.tok _, rw', p1 _ _ _ _ .refl s1' rz⟩
    · exact False.elim p1
  | _ => exact False.elim p1
end
end Dn
set_option Elab.async false
set_option linter.all false
set_option maxRecDepth 100000
set_option maxHeartbeats 4000000
namespace Dn
open PySem PySem.Spec PyProof.Rows L2
end Dn
set_option Elab.async false
set_option linter.all false
set_option maxRecDepth 100000
set_option maxHeartbeats 4000000
namespace Dn
open PySem PySem.Spec PyProof.Rows L2
open AutoSeq1 (wpAny_loadPart')
end Dn
set_option Elab.async false
set_option linter.all false
set_option maxRecDepth 100000
set_option maxHeartbeats 4000000
namespace Dn
open PySem PySem.Spec PyProof.Rows L2
structure XNm (mg : Str → Option Value) (cl : Str → Option Addr) (c : Str) : Prop where
  ok : ∃ A, cl c = some A ∧ mg c = some (.ref A)
structure XNo (K : PySem.W.Frag) (mg : Str → Option Value) (cl : Str → Option Addr) (c : Str) : Prop where
  ok : ∃ A, cl c = some A ∧ mg c = some (.ref A) ∧ XCls K A ∧ PySem.W.excIn K A PySem.HandSPX.veTail "ValueError.__new__" = true
/-- the classes' table, computed -/
def tabB (K : PySem.W.Frag) (l : List (Str × Addr)) : Bool := l.all fun p => xcB K p.2 && (decide (PySem.W.kitOne K (.ref p.2) (.type "ValueError") = some true) && l.all fun q => decide (PySem.W.kitOne K (.ref p.2) (.ref q.2) = some (xIs p.1 q.1)) && decide (PySem.W.exmOne K (.ref p.2) (.ref q.2) = some (xIs p.1 q.1)))
def nofB (K : PySem.W.Frag) (l : List (Str × Addr)) (f : Str) : Bool := l.all fun p => decide (PySem.W.findIn K (.ref p.2) f = some none)
theorem lookup_mem {c : Str} {A : Addr} : ∀ {l : List (Str × Addr)}, l.lookup c = some A → (c, A) ∈ l
  | [], h => by simp at h
  | (k, v) :: r, h => by
    rw [List.lookup_cons] at h
    cases hb : c == k with
    | true => rw [hb] at h; cases h; rw [beq_iff_eq.mp hb]; exact List.mem_cons_self
    | false => rw [hb] at h; exact List.mem_cons_of_mem _ (lookup_mem h)
theorem tab_mk {K : PySem.W.Frag} {l : List (Str × Addr)} {tb : List (Addr × Str)} (h : tabB K l = true) : XTab ⟨K, fun c => l.lookup c, tb⟩ := by
  have h1 := List.all_eq_true.mp h
  have g : ∀ c A, l.lookup c = some A → xcB K A = true ∧ PySem.W.kitOne K (.ref A) (.type "ValueError") = some true ∧ ∀ T B, l.lookup T = some B → PySem.W.kitOne K (.ref A) (.ref B) = some (xIs c T) ∧ PySem.W.exmOne K (.ref A) (.ref B) = some (xIs c T) := fun c A e => by
    have := h1 _ (lookup_mem e)
    simp only [Bool.and_eq_true, decide_eq_true_eq] at this
    refine ⟨this.1, this.2.1, fun T B e2 => ?_⟩
    have := List.all_eq_true.mp this.2.2 _ (lookup_mem e2)
    simpa using this
  exact ⟨fun c A e => xcB_ok (g c A e).1, fun c A T B e1 e2 => ((g c A e1).2.2 T B e2).1, fun c A e => (g c A e).2.1, fun c A T B e1 e2 => ((g c A e1).2.2 T B e2).2⟩
theorem nof_mk {K : PySem.W.Frag} {l : List (Str × Addr)} {f : Str} (h : nofB K l f = true) : ∀ c A, l.lookup c = some A → PySem.W.findIn K (.ref A) f = some none := fun c A e => by
  have := List.all_eq_true.mp h _ (lookup_mem e)
  simpa using this
section
variable {X : Cx} {C : Cn} {E : WX}
section
variable {a : Expr} {p pt pos : Pos} {fa : EM}
theorem de_isXn {T : Str} (tab : XTab C) (hK : C.K = X.K) (n : XNm X.mg C.cls T) (hg : Gl X "isinstance") (hm : X.mg "isinstance" = none) (hv : bootBuiltins "isinstance" = some (.builtin "isinstance")) (hgT : Gl X T) (ha : PE X a (denE C E fa)) (hdT : (T == ("__debug__" : Str)) = false := by decide)
    (he : starEach [a, .Name T pt] X.env = (false, eval a X.env) :: starEach [.Name T pt] X.env := by rfl) (he2 : starEach [.Name T pt] X.env = (false, eval (.Name T pt) X.env) :: starEach [] X.env := by rfl)
    (hpl : (backTo pos (starEach [.Name T pt] X.env)).any (·.1) = false := by rfl) : PE X (.Call (.Name "isinstance" p) [a, .Name T pt] [] pos) (denE C E (eU (isX [T]) fa)) := by
  obtain ⟨B, h1, h2⟩ := n.ok
  exact de_isX tab hK hg hm hv hgT h2 h1 ha hdT he he2 hpl
end
end
theorem pass0X {X : Cx} {σ : L2.St} {Ex : XK} : PassesAt CX0 X σ Ex := fun _ _ _ _ _ _ h => False.elim h
theorem bt_VE : bootBuiltins "ValueError" = some (.type "ValueError") := by decide +kernel
def mCount : MM := fun d xs h => match xs with
  | [x] => match lsOf h d with
    | some l => if D.okN 64 x && D.okL 63 l then .ok (.int ((l.countP fun z => D.eqb z x : Nat) : Int)) h else .err
    | none => .err
  | _ => .err
theorem nox_count : ∀ d a h, NoX (mCount d a h) := by intro d a h e g; unfold mCount; repeat' split
                                                      all_goals simp
theorem countP_pd {n k : Nat} {a : D} (ha : D.okN n a = true) : ∀ {l : List D}, D.okL k l = true → ((D.pdL l).countP fun z => PyData.eqv z a.pd) = l.countP fun z => D.eqb z a
  | [], _ => rfl
  | x :: xs, h => by
    simp only [D.okL, Bool.and_eq_true] at h
    simp only [D.pdL, List.countP_cons]
    rw [D.eqv_eqb k n x a h.1 ha, countP_pd ha h.2]
theorem dm_count {X : Cx} {C : Cn} (hr : Room 0 X.A) : MtR X "list.count" (rDM C mCount) := by
  intro pins s σ H x xs v us Q I rx rs ⟨Z, m, h, d, ds, sm, rd, rds, p⟩
  unfold mCount at p
  split at p
  · rename_i y
    obtain ⟨z, rfl, rz⟩ := repL_one rds
    split at p
    · rename_i l hl
      split at p
      · rename_i hc
        simp only [Bool.and_eq_true] at hc
        obtain ⟨a, vs, rfl, hv, rl⟩ := ls_at sm rd hl
        cases rx
        cases rs with
        | @cons _ uy _ _ ry rt =>
          cases rt
          obtain ⟨bs, r1⟩ := Dp.reads I y.pd z uy (rz.dp sm.sub 64 hc.1) ry
          obtain ⟨its, rv, ⟨⟨cls, dd, data, sls⟩, n, ho, hcl, hdn, hdt⟩, hlen⟩ := I.list (.inl (.inl hv))
          simp only at hcl hdt
          subst hcl hdt
          obtain ⟨as, h4⟩ := Dp.readsAll I (D.pdL l) vs its (rl.dp sm.sub 63 hc.2) rv
          have sl : SeqAt.shaped (.list (D.pdL l)) = true := by
            have := D.shaped (d := .lst l) (by simpa [D.okN] using hc.2)
            simpa [D.pd] using this
          have sd := D.shaped hc.1
          have hxs : PyData.canLayAll0 (D.pdL l) = true := SeqAt.canLay_of_shaped sl
          have hroom : X.A.units + 1 + min (PyData.depthAll (D.pdL l)) y.pd.depth < cLine := room_in_shaped sd (hu65 hr)
          have hmap : its.map (SeqAt.readOf s.heap) = D.pdL l := SeqAt.readsAll_map _ its as hxs h4
          refine call_meets PySem.F.slot_list_count ⟨_, ho, rfl⟩ PySem.F.entry_list_count (PySem.F.args_list_count_2 _ _)
            (SeqAt.list_countAt a its.toArray n dd sls uy (fun u => PyData.eqv (SeqAt.readOf s.heap u) y.pd)) ⟨ho, SeqAt.items_eqAt (vs := its.toArray) (show ReadsAll s.heap its.toArray.toList (D.pdL l) as from h4) r1 hxs (SeqAt.canLay_of_shaped sd) hroom, ?_⟩
          have ec : its.toArray.toList.countP (fun u => PyData.eqv (SeqAt.readOf s.heap u) y.pd) = l.countP fun z => D.eqb z y := by
            rw [← countP_pd hc.1 hc.2, ← hmap, List.countP_map]; rfl
          refine ⟨.int ((l.countP fun z => D.eqb z y : Nat) : Int), H, I.tok _, ⟨s.toks, ?_⟩, p _ _ _ _ .refl sm (.int _)⟩
          show Value.int ((its.toArray.toList.countP (fun u => PyData.eqv (SeqAt.readOf s.heap u) y.pd) : Nat) : Int) s.toks = _
          rw [ec]
      · exact False.elim p
    · exact False.elim p
  · exact False.elim p
end Dn
set_option Elab.async false
set_option linter.all false
set_option maxRecDepth 100000
set_option maxHeartbeats 4000000
namespace PySem
namespace HandSPX
open Builtin Builtin.ObjectAttr PySem.W PySem.Calls PyProof.Rows
section
variable {M : Model} {A : Around} {E : Value → Shared → Prop} {h : Heap} {g : Array GenState} {d : Drawn} {t : Nat} {os : OsState}
variable {nm q : Str} {C N : Addr} {bs bm bmB : List Value} {hdct : Bool} {sn : List Str} {sub : List Value} {ab : Bool} {col : Option Bool} {dd : Option Addr} {k0 k1 k2 k3 k5 : Option Value} {B newId initId : String}
theorem check_new_ownK (F : ExcBaseFacts B newId initId bmB) (hT : ∀ X : String, bm.contains (.type X) = bmB.contains (.type X)) {kw : List (Str × Value)} {Q : Unit → Shared → Prop}
    (hC : h.get? C = some (excClassObj nm q C N bs bm hdct sn sub ab col dd k0 k1 k2 k3 k5 newId)) (hq : Q () ⟨h, g, d, t, os⟩) : wpAny M A (checkBuiltinCall newId ⟨[.ref C], kw⟩) Q E ⟨h, g, d, t, os⟩ := by
  have hcont : (Value.ref C :: bm).contains (.type B) = true := by rw [List.contains_cons, hT, F.hasB, Bool.or_true]
  have hstar := F.noStar
  simp only [checkBuiltinCall, F.newKind, F.newSplit, F.newRow]
  repeat (first | refine wpAny_loadPart_at hC ?_ | (refine wpAny_isSubtype_exc hC ?_; rw [hcont]) | refine wpAny_staticBase_exc hC ?_ | refine wpAny_madeBy_exc hC ?_ | simp only [bne_self_eq_false, Bool.false_eq_true, if_false] | wp_step)
  exact hq
end
section
variable {prog : Program} {w : World} {A : Around} {E : Value → Shared → Prop} {R : Result → Shared → Prop} {h : Heap} {g : Array GenState} {d : Drawn} {t : Nat} {os : OsState}
variable {nm q : Str} {C N : Addr} {bs bm bmB : List Value} {hdct : Bool} {sn : List Str} {sub : List Value} {ab : Bool} {col : Option Bool} {dd : Option Addr} {k0 k1 k2 k3 k5 : Option Value} {B newId initId : String}
theorem new_ownK (F : ExcBaseFacts B newId initId bmB) (hT : ∀ X : String, bm.contains (.type X) = bmB.contains (.type X)) {kw : List (Str × Value)}
    (hC : h.get? C = some (excClassObj nm q C N bs bm hdct sn sub ab col dd k0 k1 k2 k3 k5 newId))
    (hq : R (.ok (.ret (.ref (h.objs.size + 1)))) ⟨(h.push { cls := .type "tuple", data := .seq #[] }).push
      { cls := .ref C, data := .fields #[.ref h.objs.size, .none, .none, .none, .bool false, .none] }, g, d, t, os⟩) :
    codeAny (model prog w) A (.builtin newId ⟨[.ref C], kw⟩) R ⟨h, g, d, t, os⟩ := by
  have hends := F.ends
  have hcB : (Value.ref C :: bm).contains (.type B) = true := by rw [List.contains_cons, hT, F.hasB, Bool.or_true]
  have hcA : (Value.ref C :: bm).contains (.type "AttributeError") = false := by rw [List.contains_cons, hT, F.noAttr]; rfl
  have hcN : (Value.ref C :: bm).contains (.type "NameError") = false := by rw [List.contains_cons, hT, F.noName]; rfl
  refine codeAny_builtinAt F.entry ?_
  unfold Builtin.«BaseException.__new__»
  refine wpAt_bind ?_
  show wpAt _ _ _ (stack >>= _) _ _ _
  refine wpAt_bind (wpAt_stack fun p below => wpAt_of_wpAny ?_)
  wp_walk
  refine wpAt_of_wpAny ?_
  rw [F.owner]
  repeat (first | with_reducible refine wpAny_madeHere_exc F.canon hC ?_ | with_reducible refine wpAny_loadPart_at hC ?_ | (with_reducible refine wpAny_isSubtype_exc hC ?_; first | rw [hcB] | rw [hcA] | rw [hcN]) | wp_step)
  show R _ _
  rw [Heap.size_push]
  exact hq
theorem type_call_ownK (F : ExcBaseFacts B newId initId bmB) (hT : ∀ X : String, bm.contains (.type X) = bmB.contains (.type X)) {kw : List (Str × Value)} {fI : Addr} {Q : Fin → Shared → Prop}
    (hC : h.get? C = some (excClassObj nm q C N bs bm hdct sn sub ab col dd k0 k1 k2 k3 k5 newId))
    (hi : W.Looks (model prog w) h (typeLookup (.ref C) "__init__") (some (.ref fI))) (hb : ∀ self, W.Looks (model prog w) h (bindSpecial (.ref fI) self) (.ref fI, [self]))
    (hq : codeAny (model prog w) A (.call (.ref fI) ⟨[.ref (h.objs.size + 1)], kw⟩)
      (fun r s' => match r with | .ok (.ret v) => v = .none ∧ Q (.done (.ret (.ref (h.objs.size + 1)))) s' | .ok _ => False | .error e => E e s')
      ⟨(h.push (W.kdv_tup [])).push (excO C h.objs.size), g, d, t, os⟩) :
    wpAny (model prog w) A (Builtin.«type.__call__» ⟨[.ref C], kw⟩) Q E ⟨h, g, d, t, os⟩ := by
  repeat (first | with_reducible refine wpAny_loadPart_at hC ?_ | with_reducible refine wpAny_madeBy_exc hC ?_ | wp_step)
  refine codeAny_call_builtin_code (Code.quiet_builtin _ F.quiet) (check_new_ownK F hT hC ?_)
  refine new_ownK F hT hC ?_
  show wpAny _ _ _ _ _ _
  have k : ∀ b o, h.get? b = some o → ((h.push (W.kdv_tup [])).push (excO C h.objs.size)).get? b = some o := fun b o e => Heap.get?_push_of_some _ (Heap.get?_push_of_some _ e)
  have hC₁ := k _ _ hC
  have hget : ((h.push (W.kdv_tup [])).push (excO C h.objs.size)).get? (h.objs.size + 1) = some (excO C h.objs.size) := by heap_get
  have hcC : (Value.ref C :: bm).contains (.ref C) = true := by simp
  have i1 := hi.keeps k
  have b1 := (hb (.ref (h.objs.size + 1))).keeps k
  unfold isInstance
  repeat (first | with_reducible refine wpAny_loadPart_at hget ?_ | (with_reducible refine wpAny_isSubtype_exc hC₁ ?_; rw [hcC]) | wp_step)
  show wpAny _ _ (typeLookup (.ref C) _) _ _ _
  refine i1.at ?_
  refine wpAny_holding (wpAny_bind (b1.at ?_))
  refine wpAny_bind (wpAny_call (codeAny_mono hq fun r s' z => ?_))
  rcases r with e | (v | _ | _ | _) <;> first | exact z | exact z.elim | skip
  obtain ⟨rfl, z⟩ := z
  first
    | exact wpAny_pure (wpAny_pure z)
    | (wp_walk; exact z)
theorem call_ownK (F : ExcBaseFacts B newId initId bmB) (hT : ∀ X : String, bm.contains (.type X) = bmB.contains (.type X)) {kw : List (Str × Value)} {fI : Addr}
    (hC : h.get? C = some (excClassObj nm q C N bs bm hdct sn sub ab col dd k0 k1 k2 k3 k5 newId))
    (hi : W.Looks (model prog w) h (typeLookup (.ref C) "__init__") (some (.ref fI))) (hb : ∀ self, W.Looks (model prog w) h (bindSpecial (.ref fI) self) (.ref fI, [self]))
    (hq : codeAny (model prog w) (A.under (.builtin "type.__call__" ⟨[.ref C], kw⟩)) (.call (.ref fI) ⟨[.ref (h.objs.size + 1)], kw⟩) (W.InitBack (h.objs.size + 1) R)
      ⟨(h.push (W.kdv_tup [])).push (excO C h.objs.size), g, d, t, os⟩) :
    codeAny (model prog w) A (.call (.ref C) ⟨[], kw⟩) R ⟨h, g, d, t, os⟩ := by
  have f1 := tc_lookup
  have f2 := tc_bind (.ref C)
  have hTy : (⟨h, g, d, t, os⟩ : Shared).TypeIs (.ref C) "type" := ⟨_, hC, rfl⟩
  refine codeAny_of_tree ?_
  show wpAny _ _ (callAny (.ref C) _) _ _ _
  repeat (any_goals (first | assumption | with_reducible refine wpAny_loadPart_at hC ?_ | wp_step))
  refine ⟨rfl, ?_⟩
  refine codeAny_call_builtin_at (Code.quiet_builtin _ (by decide +kernel)) entry_typeCall (wpAny_check_type_call_sub hC (type_call_ownK F hT hC hi hb ?_))
  refine codeAny_mono hq fun r s' z => ?_
  rcases r with e | (v | _ | _ | _) <;> exact z
end
end HandSPX
end PySem
namespace L2
open PySem PySem.Spec PyProof.Rows
/-- C(k = v, ..), C an exception class with an own __init__ -/
def tMkOK (C : Addr) (m : Nat) (sp : Sp) (gV : List V → List V → List V) (tk : TA) : St → Hp → XK → Prop := fun σ H Q => tk σ H fun zs H1 => zs.length = m ∧ ∀ a, H1 a = none → sp (gV [.ref a] zs) (upd H1 a (exo a C none)) (fun v H2 => v = .non ∧ ∃ d fs, H2 a = some (exo a C (some d)) ∧ H2 d = some (exd d fs) ∧ H1 d = none ∧ Q (.ref C) (some d) (upd (del H2 a) d (.xd fs))) (fun _ _ _ => False)
variable {X : Cx} {p pos : Pos}
theorem pmk_oexK0 {CX : CXT} {x : Str} {C fI : Addr} {k : Nat} {fd : FuncData} {ps ks : List Str} {sp : Sp} {kws : List Keyword} {tk : TA} {g : List Value → List Value → List Value} {gV : List V → List V → List V} (T : OexC X.K C) (iC : PySem.W.findIn X.K (.ref C) "__init__" = some (some (.ref fI))) (tI : PySem.W.typeIn X.K (.ref fI) = some (.type "function"))
    (F1 : FnOk X.prog X.w X.K X.mg X.base CX k fI fd ps sp) (hr : Room (k + 1) X.A) (hb : KBn X.K fd ps 1 ks g gV) (hx : Passes CX X (fun _ _ _ => False)) (hg : Gl X x) (hm : X.mg x = some (.ref C)) (hkw : PK X kws tk)
    (hall : (backToKw pos (keywordEach kws X.env)).all (·.1.isSome) = true := by rfl) (hks : (backToKw pos (keywordEach kws X.env)).filterMap (·.1) = ks := by rfl)
    (hdb : (x == ("__debug__" : Str)) = false := by decide) (hpl : ((backTo pos (starEach [] X.env)).any (·.1) || (backToKw pos (keywordEach kws X.env)).any (·.1.isNone)) = false := by rfl) :
    PMk X (.Call (.Name x p) [] kws pos) (tMkOK C ks.length sp gV tk) := by
  intro pins s σ H Q I h
  obtain ⟨nm, q, N, bs, bm, sn, sub, ab, col, dd, k0, k1, k2, k3, k5, hC, hbm⟩ := T.cls
  refine wpAny_Call_Name_kw (ld_glob I hg hm ?_ hdb)
  refine PySem.W.callWith_KW0 (h₀ := X.base) I.ok.mod.kin T.kC hall ?_ hpl
  refine thn (hkw.run pos pins s σ H _ I h) fun ws s1 ⟨zs, H1, I1, rz, hz, q1⟩ => ⟨I1.kIn, ?_⟩
  rw [hks]
  show wpAny _ _ (call (.ref C) [] (ks.zip ws)) _ _ _
  obtain ⟨hp, g', dr, tk', os⟩ := s1
  have hsz : hp.objs.size ≤ hp.objs.size + 1 := Nat.le_succ _
  have hn : H1 (hp.objs.size + 1) = none := I1.hok.fresh hsz
  have hq := q1 (hp.objs.size + 1) hn
  have kk : ∀ b o, hp.get? b = some o → ((hp.push (PySem.W.kdv_tup [])).push (PySem.HandSPX.excO C hp.objs.size)).get? b = some o := fun b o e => Heap.get?_push_of_some _ (Heap.get?_push_of_some _ e)
  have hget : ((hp.push (PySem.W.kdv_tup [])).push (PySem.HandSPX.excO C hp.objs.size)).get? (hp.objs.size + 1) = some (PySem.HandSPX.excO C hp.objs.size) := by heap_get
  have I2 : Inv X pins σ (upd H1 (hp.objs.size + 1) (exo (hp.objs.size + 1) C none)) ⟨(hp.push (PySem.W.kdv_tup [])).push (PySem.HandSPX.excO C hp.objs.size), g', dr, tk', os⟩ :=
    I1.laid (t' := tk') (a := hp.objs.size + 1) (o := exo (hp.objs.size + 1) C none) (h' := (hp.push (PySem.W.kdv_tup [])).push (PySem.HandSPX.excO C hp.objs.size)) kk hsz (exo_ok hget)
  have r1 : Vals [V.ref (hp.objs.size + 1)] [Value.ref (hp.objs.size + 1)] := .cons rfl .nil
  have r2 := hb.rel r1 rz
  refine wpAny_call (PySem.HandSPX.call_ownK F.excBase_ValueError (fun Y => PySem.HandSPX.refsVE_contains Y bm hbm) (I1.kIn _ _ hC) (PySem.W.looks_findIn I1.kIn iC) (fun self => PySem.W.bind_fn I1.kIn self tI)
    (codeAny_mono (F1.run _ X.stack _ _ ⟨[Value.ref (hp.objs.size + 1)], ks.zip ws⟩ (g [Value.ref (hp.objs.size + 1)] ws) _ _ (fun _ _ _ => False) (hr.make C [] (ks.zip ws)) (I2.env0.make C [] (ks.zip ws)) (hb.to _ [Value.ref (hp.objs.size + 1)] ws I2.kIn rfl (rz.length.symm.trans hz)) r2 hq) fun r s' hq' => ?_))
  cases r with
  | error er => exact hx pins σ _ _ er s' I2 hq'
  | ok fl =>
    cases fl with
    | ret u =>
      obtain ⟨v, H2, os2, bare2, un2, hok2, rv, ev, d, fs, ea, ed, hd1, q2⟩ := hq'
      subst ev
      obtain ⟨h2, g2, d2, t2, os'⟩ := s'
      exact ⟨rv, mk_end (raises_own T.exC T.tyC) I1 hsz kk un2 hok2 os2 bare2 ea ed hd1 q2⟩
    | next => exact False.elim hq'
    | brk => exact False.elim hq'
    | cont => exact False.elim hq'
end L2
namespace Dn
open PySem PySem.Spec PyProof.Rows L2
theorem pe_mk {X : Cx} {e : Expr} {t : L2.St → Hp → XK → Prop} (hs : X.stack = X.env :: X.outer) (hf : X.env.frame = some X.env.locals) (he : PMk X e t) :
    PE X e (fun σ H Q => t σ H fun cls d H' => ∃ A, cls = .ref A ∧ ∀ a, H' a = none → Q (.ref a) (upd H' a (exH a A d))) := by
  refine ⟨fun pins s σ H Q I h => wpAny_mono (he pins s σ H _ I h) (fun u s1 hu => ?_) fun _ _ x => x⟩
  obtain ⟨a, oe, vs, sI, H', cls, d, rfl, J, k, hne, ha, hz, hd, h1, na, os, ag, r, A, rfl, q⟩ := hu
  have J1 : Inv X pins σ H' s1 := J.landed (B := sI.heap) (fun b o e _ => e) k (Heap.UpToSlots.of_keeps k) os ag
  have nfr : a ∉ frs (X.env :: X.outer) := fun hm => by
    rw [← hs] at hm
    obtain ⟨_, o', e', hnf⟩ := J.stack.mem hm
    rw [hne] at e'; cases e'
  have nL : a ≠ X.env.locals := fun z => nfr (List.mem_filterMap.mpr ⟨X.env, List.mem_cons_self, by rw [hf, z]⟩)
  have nF : a ∉ X.fs := fun hm => by
    obtain ⟨e, he, q⟩ := List.mem_filterMap.mp hm
    exact nfr (List.mem_filterMap.mpr ⟨e, List.mem_cons_of_mem _ he, q⟩)
  have hp0 : ∀ p ∈ X.pn ++ pins, p.1 ≠ a := fun p hp z => by
    have := (J.pin p hp).1
    rw [z, hne] at this; cases this
  have h00 : ∀ u, X.s_0.heap.get? a = some u → X.H_0 a = none → a ∈ X.ex := fun u e n => by
    by_cases hx : a ∈ X.ex
    · exact hx
    · have := J.base.keep a u e n nF hx
      rw [hne] at this; cases this
  exact ⟨.ref a, _, inv_track J1 (o := exH a A d) ha na nL nF (fun v z => by rw [hd] at z; cases z) hp0 h00 (exH_ok ha hz hd), rfl, q a na⟩
/-- an exception object, of its field -/
def eMx (c f : Str) (fa : EM) : EM := fun v h => (fa v h).bind fun d h1 => .ok (.exn c [(f, d)]) h1
def eMx0 (c : Str) (fa : EM) : EM := fun v h => (fa v h).bind fun _ h1 => .ok (.exn c []) h1
section
variable {X : Cx} {C : Cn} {E : WX}
theorem mx_del {H1 : Hp} {b dx A : Addr} {f : Str} {x : V} (hb1 : H1 b = none) : upd (del (upd (upd (upd H1 b (exo b A none)) dx (exd dx [(f, x)])) b (exo b A (some dx))) b) dx (.xd [(f, x)]) = upd H1 dx (.xd [(f, x)]) := by
  funext q
  by_cases h1 : q = dx
  · subst h1; rw [upd_same, upd_same]
  · rw [upd_ne h1, upd_ne h1]
    by_cases h2 : q = b
    · subst h2; rw [del_same, hb1]
    · rw [del_ne h2, upd_ne h2, upd_ne h1, upd_ne h2]
theorem de_mx1 {c f : Str} {A fI : Addr} {k : Nat} {fd : FuncData} {ps : List Str} {a : Expr} {fa : EM} {p pos : Pos} (hs : X.stack = X.env :: X.outer) (hf : X.env.frame = some X.env.locals) (cl : C.cls c = some A) (gC : X.mg c = some (.ref A)) (T : XCls X.K A) (iC : PySem.W.findIn X.K (.ref A) "__init__" = some (some (.ref fI))) (tI : PySem.W.typeIn X.K (.ref fI) = some (.type "function"))
    (F1 : FnOk X.prog X.w X.K X.mg X.base CX0 k fI fd ps (spIni A f)) (hb : Binds X.K fd ps []) (hr : Room (k + 1) X.A) (hg : Gl X c) (ha : PE X a (denE C E fa)) (hd : (c == ("__debug__" : Str)) = false := by decide)
    (he : starEach [a] X.env = [(false, eval a X.env)] := by rfl) : PE X (.Call (.Name c p) [a] [] pos) (denE C E (eMx c f fa)) := by
  refine pe_imp (pe_mk hs hf (pmk_oex T.ox iC tI F1 hr hb .nil pass0 hg gC (pa_cons ha pa_nil he) hd he)) fun σ H Q ⟨Z, m, v, h, s, e, p⟩ => ?_
  refine ⟨Z, m, v, h, s, e, (p.bind (rep1 := Rep C)).imp fun x H1 ⟨Z1, m1, d, h1, x1, s1, r1, p1⟩ => ⟨(show 1 ≤ 1000 by omega), fun b hb1 => ⟨b, x, rfl, upd_same, fun dx hdx hne => ⟨rfl, dx, [(f, x)], upd_same, ?_, ?_, ?_⟩⟩⟩⟩
  · rw [upd_ne hne, upd_same]
  · rw [upd_ne hne] at hdx; exact hdx
  · rw [upd_ne hne] at hdx
    rw [mx_del hb1]
    refine ⟨A, rfl, fun a na => ?_⟩
    have xz := Ext.lay s1 hdx (.xd [(f, x)])
    have sl := s1.lay hdx (.xd [(f, x)])
    obtain ⟨s2, x2, r2⟩ := exn_lay (fs := [(f, d)]) sl na ⟨A, cl, rfl, .inr ⟨dx, [(f, x)], rfl, upd_same, .cons (r1.mono xz.sub (List.prefix_refl _)) .nil⟩⟩ rfl
    exact p1 _ _ _ _ (xz.trans x2) s2 r2
theorem de_mxK {c f : Str} {A fI : Addr} {k : Nat} {fd : FuncData} {ps : List Str} {a : Expr} {fa : EM} {p kp pos : Pos} (hs : X.stack = X.env :: X.outer) (hf : X.env.frame = some X.env.locals) (cl : C.cls c = some A) (gC : X.mg c = some (.ref A)) (T : XCls X.K A) (iC : PySem.W.findIn X.K (.ref A) "__init__" = some (some (.ref fI))) (tI : PySem.W.typeIn X.K (.ref fI) = some (.type "function"))
    (F1 : FnOk X.prog X.w X.K X.mg X.base CX0 k fI fd ps (spIni A f)) (hb : KBn X.K fd ps 1 [f] (fun us ws => us ++ ws) (fun us ws => us ++ ws)) (hr : Room (k + 1) X.A) (hg : Gl X c) (ha : PE X a (denE C E fa)) (hd : (c == ("__debug__" : Str)) = false := by decide)
    (hall : (backToKw pos (keywordEach [⟨some f, a, kp⟩] X.env)).all (·.1.isSome) = true := by rfl) (hks : (backToKw pos (keywordEach [⟨some f, a, kp⟩] X.env)).filterMap (·.1) = [f] := by rfl)
    (hpl : ((backTo pos (starEach [] X.env)).any (·.1) || (backToKw pos (keywordEach [⟨some f, a, kp⟩] X.env)).any (·.1.isNone)) = false := by rfl) : PE X (.Call (.Name c p) [] [⟨some f, a, kp⟩] pos) (denE C E (eMx c f fa)) := by
  refine pe_imp (pe_mk hs hf (pmk_oexK0 T.ox iC tI F1 hr hb pass0 hg gC (pk_cons ha pk_nil) hall hks hd hpl)) fun σ H Q ⟨Z, m, v, h, s, e, p⟩ => ?_
  refine ⟨Z, m, v, h, s, e, (p.bind (rep1 := Rep C)).imp fun x H1 ⟨Z1, m1, d, h1, x1, s1, r1, p1⟩ => ⟨rfl, fun b hb1 => ⟨b, x, rfl, upd_same, fun dx hdx hne => ⟨rfl, dx, [(f, x)], upd_same, ?_, ?_, ?_⟩⟩⟩⟩
  · rw [upd_ne hne, upd_same]
  · rw [upd_ne hne] at hdx; exact hdx
  · rw [upd_ne hne] at hdx
    rw [mx_del hb1]
    refine ⟨A, rfl, fun a na => ?_⟩
    have xz := Ext.lay s1 hdx (.xd [(f, x)])
    have sl := s1.lay hdx (.xd [(f, x)])
    obtain ⟨s2, x2, r2⟩ := exn_lay (fs := [(f, d)]) sl na ⟨A, cl, rfl, .inr ⟨dx, [(f, x)], rfl, upd_same, .cons (r1.mono xz.sub (List.prefix_refl _)) .nil⟩⟩ rfl
    exact p1 _ _ _ _ (xz.trans x2) s2 r2
theorem de_mx0 {c : Str} {A : Addr} {a : Expr} {fa : EM} {p pos : Pos} (hs : X.stack = X.env :: X.outer) (hf : X.env.frame = some X.env.locals) (cl : C.cls c = some A) (gC : X.mg c = some (.ref A)) (T : XCls X.K A) (xP : PySem.W.excIn X.K A PySem.HandSPX.veTail "ValueError.__new__" = true) (hg : Gl X c) (ha : PE X a (denE C E fa)) (hd : (c == ("__debug__" : Str)) = false := by decide)
    (he : starEach [a] X.env = (false, eval a X.env) :: starEach [] X.env := by rfl) : PE X (.Call (.Name c p) [a] [] pos) (denE C E (eMx0 c fa)) := by
  refine pe_imp (pe_mk hs hf (SkE.pmk_own1 PySem.F.excBase_ValueError xP gC T.ox.kC (raises_own T.ox.exC T.ox.tyC) hg ha he hd)) fun σ H Q ⟨Z, m, v, h, s, e, p⟩ => ?_
  refine ⟨Z, m, v, h, s, e, (p.bind (rep1 := Rep C)).imp fun x H1 ⟨Z1, m1, d, h1, x1, s1, r1, p1⟩ => ⟨A, rfl, fun a na => ?_⟩⟩
  obtain ⟨s2, x2, r2⟩ := exn_lay (fs := []) s1 na ⟨A, cl, rfl, .inl ⟨rfl, rfl⟩⟩ rfl
  exact p1 _ _ _ _ x2 s2 r2
end
/-- its own __init__, its field handed in by name -/
theorem fun_kbn {K : PySem.W.Frag} {x qual f : Str} {st : Stmt} {fI : Addr} {fd : FuncData} (F : Fun K x qual st fI fd)
    (h : ∀ (kV doc pm : Value) (an : Option Addr) (cdv ct : Value) (a b : Value), bindArgs (PySem.W.fnOf x qual (defArgs st) (defBody st) (defScope st) .none kV doc pm an cdv ct) ⟨[a], [(f, b)]⟩ = pure [(("self" : Str), a), (f, b)]) : KBn K fd ["self", f] 1 [f] (fun us ws => us ++ ws) (fun us ws => us ++ ws) := by
  obtain ⟨oc, od, kV, doc, pm, an, cdv, ct, osl, rfl, lk, hcd⟩ := F.ex
  refine ⟨fun s us ws _ h1 h2 => ?_, fun r1 r2 => r1.append r2⟩
  match us, ws, h1, h2 with
  | [a], [b], _, _ => exact .of_eq (h kV doc pm an cdv ct a b)
structure XInK (P : Program) (w : World) (K : PySem.W.Frag) (mg : Str → Option Value) (base : Heap) (cl : Str → Option Addr) (c f : Str) : Prop where
  ok : ∃ A fI fd, cl c = some A ∧ mg c = some (.ref A) ∧ XCls K A ∧ PySem.W.findIn K (.ref A) "__init__" = some (some (.ref fI)) ∧ PySem.W.typeIn K (.ref fI) = some (.type "function") ∧ FnOk P w K mg base CX0 1 fI fd ["self", f] (spIni A f) ∧ Binds K fd ["self", f] [] ∧ KBn K fd ["self", f] 1 [f] (fun us ws => us ++ ws) (fun us ws => us ++ ws)
section
variable {X : Cx} {C : Cn} {E : WX}
theorem de_mkx0 {c : Str} {a : Expr} {fa : EM} {p pos : Pos} (hs : X.stack = X.env :: X.outer) (hf : X.env.frame = some X.env.locals) (x : XNo X.K X.mg C.cls c) (hg : Gl X c) (ha : PE X a (denE C E fa)) (hd : (c == ("__debug__" : Str)) = false := by decide)
    (he : starEach [a] X.env = (false, eval a X.env) :: starEach [] X.env := by rfl) : PE X (.Call (.Name c p) [a] [] pos) (denE C E (eMx0 c fa)) := by
  obtain ⟨A, h1, h2, h3, h4⟩ := x.ok
  exact de_mx0 hs hf h1 h2 h3 h4 hg ha hd he
theorem de_mkx1 {c f : Str} {k : Nat} {a : Expr} {fa : EM} {p pos : Pos} (hs : X.stack = X.env :: X.outer) (hf : X.env.frame = some X.env.locals) (x : XInK X.prog X.w X.K X.mg X.base C.cls c f) (hr : Room k X.A) (hk : 2 ≤ k) (hg : Gl X c) (ha : PE X a (denE C E fa)) (hd : (c == ("__debug__" : Str)) = false := by decide)
    (he : starEach [a] X.env = [(false, eval a X.env)] := by rfl) : PE X (.Call (.Name c p) [a] [] pos) (denE C E (eMx c f fa)) := by
  obtain ⟨A, fI, fd, h1, h2, h3, h4, h5, h6, h7, h8⟩ := x.ok
  exact de_mx1 hs hf h1 h2 h3 h4 h5 h6 h7 (hr.mono hk) hg ha hd he
theorem de_mkxK {c f : Str} {k : Nat} {a : Expr} {fa : EM} {p kp pos : Pos} (hs : X.stack = X.env :: X.outer) (hf : X.env.frame = some X.env.locals) (x : XInK X.prog X.w X.K X.mg X.base C.cls c f) (hr : Room k X.A) (hk : 2 ≤ k) (hg : Gl X c) (ha : PE X a (denE C E fa)) (hd : (c == ("__debug__" : Str)) = false := by decide)
    (hall : (backToKw pos (keywordEach [⟨some f, a, kp⟩] X.env)).all (·.1.isSome) = true := by rfl) (hks : (backToKw pos (keywordEach [⟨some f, a, kp⟩] X.env)).filterMap (·.1) = [f] := by rfl)
    (hpl : ((backTo pos (starEach [] X.env)).any (·.1) || (backToKw pos (keywordEach [⟨some f, a, kp⟩] X.env)).any (·.1.isNone)) = false := by rfl) : PE X (.Call (.Name c p) [] [⟨some f, a, kp⟩] pos) (denE C E (eMx c f fa)) := by
  obtain ⟨A, fI, fd, h1, h2, h3, h4, h5, h6, h7, h8⟩ := x.ok
  exact de_mxK hs hf h1 h2 h3 h4 h5 h6 h8 (hr.mono hk) hg ha hd hall hks hpl
end
end Dn
set_option Elab.async false
set_option linter.all false
set_option maxRecDepth 100000
set_option maxHeartbeats 4000000
namespace Dn
open PySem L2
def SatP {α : Type} (X : D → Hm → Prop) (r : R α) (Q : α → Hm → Prop) : Prop := match r with
  | .ok a h => Q a h
  | .exc e h => X e h
  | .err => False
/-- the outcome is Q's, or an exception of X's -/
structure SatX {α : Type} (X : D → Hm → Prop) (r : R α) (Q : α → Hm → Prop) : Prop where
  out : SatP X r Q
abbrev Sat {α : Type} (r : R α) (Q : α → Hm → Prop) : Prop := SatX (fun _ _ => False) r Q
def SatSP (Y : D → Ev → Hm → Prop) (r : Fl) (N : Ev → Hm → Prop) (T : D → Hm → Prop) (B G : Ev → Hm → Prop) : Prop := match r with
  | .nx v h => N v h
  | .rt d h => T d h
  | .bk v h => B v h
  | .ct v h => G v h
  | .exc e v h => Y e v h
  | .err => False
structure SatSX (Y : D → Ev → Hm → Prop) (r : Fl) (N : Ev → Hm → Prop) (T : D → Hm → Prop) (B G : Ev → Hm → Prop) : Prop where
  out : SatSP Y r N T B G
abbrev SatS (r : Fl) (N : Ev → Hm → Prop) (T : D → Hm → Prop) (B : Ev → Hm → Prop := fun _ _ => False) (G : Ev → Hm → Prop := fun _ _ => False) : Prop := SatSX (fun _ _ _ => False) r N T B G
/-- o[k] = x leads to P -/
def PutTo (o k x : D) (h : Hm) (P : Hm → Prop) : Prop := match putIx o k x h with
  | some h4 => P h4
  | none => False
section
variable {α β : Type} {Q Q' : D → Hm → Prop} {v : Ev} {h : Hm} {X : D → Hm → Prop}
theorem SatX.imp {r : R α} {Q Q' : α → Hm → Prop} (s : SatX X r Q) (k : ∀ a h, Q a h → Q' a h) : SatX X r Q' := by
  cases r with
  | ok a h => exact ⟨k a h s.out⟩
  | exc _ _ => exact ⟨s.out⟩
  | err => exact s.out.elim
theorem SatX.get {r : R α} {Q : α → Hm → Prop} (s : Sat r Q) : ∃ a h, r = .ok a h ∧ Q a h := by
  cases r with
  | ok a h => exact ⟨a, h, rfl, s.out⟩
  | exc _ _ => exact s.out.elim
  | err => exact s.out.elim
theorem SatX.bind {r : R α} {k : α → Hm → R β} {Q : β → Hm → Prop} (s : SatX X r fun a h => SatX X (k a h) Q) : SatX X (r.bind k) Q := by
  cases r with
  | ok a h => exact s.out
  | exc _ _ => exact ⟨s.out⟩
  | err => exact s.out.elim
theorem SatX.nx {r : R α} {Q : α → Hm → Prop} (s : Sat r Q) : SatX X r.nx Q := by
  cases r with
  | ok a h => exact ⟨s.out⟩
  | exc _ _ => exact s.out.elim
  | err => exact s.out.elim
/-- what raises nothing -/
theorem SatX.w {r : R α} {Q : α → Hm → Prop} (s : Sat r Q) : SatX X r Q := by
  cases r with
  | ok a h => exact ⟨s.out⟩
  | exc _ _ => exact s.out.elim
  | err => exact s.out.elim
theorem SatX.ok {a : α} {Q : α → Hm → Prop} (q : Q a h) : SatX X (R.ok a h) Q := ⟨q⟩
theorem Sat.imp {r : R α} {Q Q' : α → Hm → Prop} (s : Sat r Q) (k : ∀ a h, Q a h → Q' a h) : Sat r Q' := SatX.imp s k
theorem Sat.get {r : R α} {Q : α → Hm → Prop} (s : Sat r Q) : ∃ a h, r = .ok a h ∧ Q a h := SatX.get s
theorem Sat.bind {r : R α} {k : α → Hm → R β} {Q : β → Hm → Prop} (s : Sat r fun a h => Sat (k a h) Q) : Sat (r.bind k) Q := SatX.bind s
theorem Sat.nx {r : R α} {Q : α → Hm → Prop} (s : Sat r Q) : Sat r.nx Q := SatX.nx s
theorem Sat.ok {a : α} {Q : α → Hm → Prop} (q : Q a h) : Sat (R.ok a h) Q := ⟨q⟩
theorem sa_C {d : D} (q : Q d h) : SatX X (eC d v h) Q := ⟨q⟩
theorem sa_B {op : D → D → Hm → R D} {a b : EM} (s : SatX X (a v h) fun x h1 => SatX X (b v h1) fun y h2 => SatX X (op x y h2) Q) : SatX X (eB op a b v h) Q := SatX.bind (s.imp fun _ _ z => SatX.bind z)
theorem sa_U {op : D → Hm → R D} {a : EM} (s : SatX X (a v h) fun x h1 => SatX X (op x h1) Q) : SatX X (eU op a v h) Q := SatX.bind s
theorem sa_F {f : FM} {a : AM} (s : SatX X (a v h) fun xs h1 => SatX X (f xs h1) Q) : SatX X (eF f a v h) Q := SatX.bind s
theorem sa_aN {Q : List D → Hm → Prop} (q : Q [] h) : SatX X (aN v h) Q := ⟨q⟩
theorem sa_aC {a : EM} {r : AM} {Q : List D → Hm → Prop} (s : SatX X (a v h) fun x h1 => SatX X (r v h1) fun xs h2 => Q (x :: xs) h2) : SatX X (aC a r v h) Q := SatX.bind (s.imp fun _ _ z => SatX.bind (z.imp fun _ _ y => ⟨y⟩))
theorem sa_tup {a : AM} (s : SatX X (a v h) fun xs h1 => xs.length ≤ 16777216 ∧ Q (.tup xs) h1) : SatX X (eTup a v h) Q := SatX.bind (s.imp fun _ _ z => by rw [if_pos z.1]; exact ⟨z.2⟩)
theorem sa_lst {a : AM} (s : SatX X (a v h) fun xs h1 => xs.length ≤ 16777216 ∧ Q (.lst xs) h1) : SatX X (eLst a v h) Q := SatX.bind (s.imp fun _ _ z => by rw [if_pos z.1]; exact ⟨z.2⟩)
theorem sa_new {a : AM} (s : SatX X (a v h) fun xs h1 => xs.length ≤ 16777216 ∧ Q (.ref h1.length) (h1 ++ [.lst xs])) : SatX X (eNew a v h) Q := SatX.bind (s.imp fun _ _ z => by rw [if_pos z.1]; exact ⟨z.2⟩)
theorem sa_If {t : TM} {a b : EM} (s : SatX X (t v h) fun c h1 => (c = true → SatX X (a v h1) Q) ∧ (c = false → SatX X (b v h1) Q)) : SatX X (eIf t a b v h) Q := SatX.bind (s.imp fun c _ z => by cases c; exact z.2 rfl; exact z.1 rfl)
theorem sa_And {a b : EM} (s : SatX X (a v h) fun x h1 => ∃ c, x = .bl c ∧ (c = true → SatX X (b v h1) Q) ∧ (c = false → Q (.bl false) h1)) : SatX X (eAnd a b v h) Q := SatX.bind (s.imp fun x _ ⟨c, e, z⟩ => by subst e; cases c; exact ⟨z.2 rfl⟩; exact z.1 rfl)
theorem sa_Or {a b : EM} (s : SatX X (a v h) fun x h1 => ∃ c, x = .bl c ∧ (c = false → SatX X (b v h1) Q) ∧ (c = true → Q (.bl true) h1)) : SatX X (eOr a b v h) Q := SatX.bind (s.imp fun x _ ⟨c, e, z⟩ => by subst e; cases c; exact z.1 rfl; exact ⟨z.2 rfl⟩)
theorem sa_Not {a : EM} (s : SatX X (a v h) fun x h1 => ∃ c, x = .bl c ∧ Q (.bl !c) h1) : SatX X (eNot a v h) Q := SatX.bind (s.imp fun x _ ⟨c, e, z⟩ => by subst e; exact ⟨z⟩)
theorem sa_tE {a : EM} {Q : Bool → Hm → Prop} (s : SatX X (a v h) fun x h1 => ∃ c, x = .bl c ∧ Q c h1) : SatX X (tE a v h) Q := SatX.bind (s.imp fun x _ ⟨c, e, z⟩ => by subst e; exact ⟨z⟩)
theorem sa_tAnd {a b : TM} {Q : Bool → Hm → Prop} (s : SatX X (a v h) fun c h1 => (c = true → SatX X (b v h1) Q) ∧ (c = false → Q false h1)) : SatX X (tAnd a b v h) Q := SatX.bind (s.imp fun c _ z => by cases c; exact ⟨z.2 rfl⟩; exact z.1 rfl)
theorem sa_tOr {a b : TM} {Q : Bool → Hm → Prop} (s : SatX X (a v h) fun c h1 => (c = false → SatX X (b v h1) Q) ∧ (c = true → Q true h1)) : SatX X (tOr a b v h) Q := SatX.bind (s.imp fun c _ z => by cases c; exact z.1 rfl; exact ⟨z.2 rfl⟩)
theorem sa_tNot {a : TM} {Q : Bool → Hm → Prop} (s : SatX X (a v h) fun c h1 => Q (!c) h1) : SatX X (tNot a v h) Q := SatX.bind (s.imp fun _ _ z => ⟨z⟩)
theorem sa_chain {g g' : D → D → Hm → R D} {fa fb fc : EM} (s : SatX X (fa v h) fun x h1 => SatX X (fb v h1) fun y h2 => SatX X (g x y h2) fun z h3 => ∃ c, z = .bl c ∧ (c = true → SatX X (fc v h3) fun w h4 => SatX X (g' y w h4) Q) ∧ (c = false → Q (.bl false) h3)) : SatX X (eChain g g' fa fb fc v h) Q :=
  SatX.bind (s.imp fun _ _ z => SatX.bind (z.imp fun _ _ y => SatX.bind (y.imp fun x _ ⟨c, e, w⟩ => by subst e; cases c; exact ⟨w.2 rfl⟩; exact SatX.bind (w.1 rfl))))
theorem sa_M {T : String} {g : MM} {o : EM} {a : AM} (s : SatX X (o v h) fun x h1 => isRc T x h1 = true ∧ SatX X (a v h1) fun xs h2 => SatX X (g x xs h2) Q) : SatX X (eM T g o a v h) Q := SatX.bind (s.imp fun _ _ z => by rw [if_pos z.1]; exact SatX.bind z.2)
theorem sa_Sl {a : EM} {lo hi : PM} (s : SatX X (a v h) fun x h1 => SatX X (lo v h1) fun l h2 => SatX X (hi v h2) fun u h3 => SatX X (opSl x l u h3) Q) : SatX X (eSl a lo hi v h) Q := SatX.bind (s.imp fun _ _ z => SatX.bind (z.imp fun _ _ y => SatX.bind y))
theorem sa_SlN {a : EM} {lo hi : PM} (s : SatX X (a v h) fun x h1 => SatX X (lo v h1) fun l h2 => SatX X (hi v h2) fun u h3 => SatX X (opSlN x l u h3) Q) : SatX X (eSlN a lo hi v h) Q := SatX.bind (s.imp fun _ _ z => SatX.bind (z.imp fun _ _ y => SatX.bind y))
theorem sa_pN {Q : Option Int → Hm → Prop} (q : Q none h) : SatX X (pN v h) Q := ⟨q⟩
theorem sa_pE {a : EM} {Q : Option Int → Hm → Prop} (s : SatX X (a v h) fun x h1 => ∃ i, x = .int i ∧ Q (some i) h1) : SatX X (pE a v h) Q := SatX.bind (s.imp fun x _ ⟨i, e, z⟩ => by subst e; exact ⟨z⟩)
theorem sa_wE {a : EM} {Q : Wk → Hm → Prop} (s : SatX X (a v h) fun x h1 => SatX X (wkOf x h1) Q) : SatX X (wE a v h) Q := SatX.bind s
theorem sa_wR1 {a : EM} {Q : Wk → Hm → Prop} (s : SatX X (a v h) fun x h1 => ∃ n, x = .int n ∧ -(2 ^ 62) ≤ n ∧ n < 2 ^ 62 ∧ Q ⟨(List.range n.toNat).map fun (i : Nat) => .int (i : Int), fun _ => true⟩ h1) : SatX X (wR1 a v h) Q := SatX.bind (s.imp fun x _ ⟨n, e, h1, h2, z⟩ => by
  subst e
  simp only [wRange]
  rw [if_pos ⟨by omega, by omega, h2, h1⟩]
  have e2 : (List.range (n - 0).toNat).map (fun (i : Nat) => D.int (0 + (i : Int))) = (List.range n.toNat).map fun (i : Nat) => D.int (i : Int) := by simp
  rw [e2]
  exact ⟨z⟩)
theorem sa_wR2 {a b : EM} {Q : Wk → Hm → Prop} (s : SatX X (a v h) fun x h1 => SatX X (b v h1) fun y h2 => ∃ m n, x = .int m ∧ y = .int n ∧ (-(2 ^ 62) ≤ m ∧ m < 2 ^ 62 ∧ -(2 ^ 62) ≤ n ∧ n < 2 ^ 62) ∧ Q ⟨(List.range (n - m).toNat).map fun (i : Nat) => .int (m + (i : Int)), fun _ => true⟩ h2) : SatX X (wR2 a b v h) Q :=
  SatX.bind (s.imp fun x _ z => SatX.bind (z.imp fun y _ ⟨m, n, e1, e2, hb, zz⟩ => by
    subst e1; subst e2
    simp only [wRange]
    rw [if_pos ⟨hb.2.1, hb.1, hb.2.2.2, hb.2.2.1⟩]
    exact ⟨zz⟩))
variable {N : Ev → Hm → Prop} {T : D → Hm → Prop} {B G : Ev → Hm → Prop} {Y : D → Ev → Hm → Prop}
theorem SatSX.imp {r : Fl} {N' : Ev → Hm → Prop} {T' : D → Hm → Prop} {B' G' : Ev → Hm → Prop} (s : SatSX Y r N T B G) (hn : ∀ v h, N v h → N' v h) (ht : ∀ d h, T d h → T' d h) (hb : ∀ v h, B v h → B' v h) (hg : ∀ v h, G v h → G' v h) : SatSX Y r N' T' B' G' := by
  cases r with
  | nx v h => exact ⟨hn _ _ s.out⟩
  | rt v h => exact ⟨ht _ _ s.out⟩
  | bk v h => exact ⟨hb _ _ s.out⟩
  | ct v h => exact ⟨hg _ _ s.out⟩
  | exc _ _ _ => exact ⟨s.out⟩
  | err => exact s.out.elim
theorem SatS.imp {r : Fl} {N' : Ev → Hm → Prop} {T' : D → Hm → Prop} {B' G' : Ev → Hm → Prop} (s : SatS r N T B G) (hn : ∀ v h, N v h → N' v h) (ht : ∀ d h, T d h → T' d h) (hb : ∀ v h, B v h → B' v h) (hg : ∀ v h, G v h → G' v h) : SatS r N' T' B' G' := SatSX.imp s hn ht hb hg
theorem ss_nx (q : N v h) : SatSX Y (sNx v h) N T B G := ⟨q⟩
theorem ss_bk (q : B v h) : SatSX Y (sBreak v h) N T B G := ⟨q⟩
theorem ss_ct (q : G v h) : SatSX Y (sCont v h) N T B G := ⟨q⟩
theorem ss_seq {a b : SM} (s : SatSX Y (a v h) (fun v1 h1 => SatSX Y (b v1 h1) N T B G) T B G) : SatSX Y (sSeq a b v h) N T B G := by
  unfold sSeq
  generalize a v h = o at s
  cases o with
  | nx _ _ => exact s.out
  | rt _ _ => exact ⟨s.out⟩
  | bk _ _ => exact ⟨s.out⟩
  | ct _ _ => exact ⟨s.out⟩
  | exc _ _ _ => exact ⟨s.out⟩
  | err => exact s.out.elim
theorem ss_asg {i : Nat} {e : EM} (s : SatX (fun x h1 => Y x v h1) (e v h) fun d h1 => N (v.set i (some d)) h1) : SatSX Y (sAsg (gN i) e v h) N T B G := by
  unfold sAsg
  generalize e v h = o at s
  cases o with
  | ok _ _ => exact ⟨s.out⟩
  | exc _ _ => exact ⟨s.out⟩
  | err => exact s.out.elim
theorem ss_expr {e : EM} (s : SatX (fun x h1 => Y x v h1) (e v h) fun _ h1 => N v h1) : SatSX Y (sExpr e v h) N T B G := by
  unfold sExpr
  generalize e v h = o at s
  cases o with
  | ok _ _ => exact ⟨s.out⟩
  | exc _ _ => exact ⟨s.out⟩
  | err => exact s.out.elim
theorem ss_ret {e : EM} (s : SatX (fun x h1 => Y x v h1) (e v h) T) : SatSX Y (sRet e v h) N T B G := by
  unfold sRet
  generalize e v h = o at s
  cases o with
  | ok _ _ => exact ⟨s.out⟩
  | exc _ _ => exact ⟨s.out⟩
  | err => exact s.out.elim
theorem ss_retN (q : T .non h) : SatSX Y (sRetN v h) N T B G := ⟨q⟩
theorem ss_if {t : TM} {a b : SM} (s : SatX (fun x h1 => Y x v h1) (t v h) fun c h1 => (c = true → SatSX Y (a v h1) N T B G) ∧ (c = false → SatSX Y (b v h1) N T B G)) : SatSX Y (sIf t a b v h) N T B G := by
  unfold sIf
  generalize t v h = o at s
  cases o with
  | ok c h1 =>
    cases c
    · exact s.out.2 rfl
    · exact s.out.1 rfl
  | exc _ _ => exact ⟨s.out⟩
  | err => exact s.out.elim
theorem ss_put {o i e : EM} (s : SatX (fun x h1 => Y x v h1) (e v h) fun x h1 => SatX (fun x h1 => Y x v h1) (o v h1) fun a h2 => SatX (fun x h1 => Y x v h1) (i v h2) fun k h3 => PutTo a k x h3 (N v)) : SatSX Y (sPut o i e v h) N T B G := by
  have : SatX (fun x h1 => Y x v h1) ((e v h).bind (fun x h1 => (o v h1).bind fun o h2 => (i v h2).bind fun i h3 => match putIx o i x h3 with | some h4 => R.ok () h4 | none => .err)) fun _ h4 => N v h4 :=
    SatX.bind (s.imp fun _ _ z => SatX.bind (z.imp fun _ _ y => SatX.bind (y.imp fun a h w => by
      unfold PutTo at w
      split at w
      · exact ⟨w⟩
      · exact w.elim)))
  unfold sPut
  generalize (e v h).bind (fun x h1 => (o v h1).bind fun o h2 => (i v h2).bind fun i h3 => match putIx o i x h3 with | some h4 => R.ok () h4 | none => .err) = r at this ⊢
  cases r with
  | ok _ _ => exact ⟨this.out⟩
  | exc _ _ => exact ⟨this.out⟩
  | err => exact this.out.elim
theorem sa_V0 {d : D} {r : Ev} (q : Q d h) : SatX X (eV 0 (some d :: r) h) Q := ⟨q⟩
theorem sa_V1 {x0 : Option D} {d : D} {r : Ev} (q : Q d h) : SatX X (eV 1 (x0 :: some d :: r) h) Q := ⟨q⟩
theorem sa_V2 {x0 x1 : Option D} {d : D} {r : Ev} (q : Q d h) : SatX X (eV 2 (x0 :: x1 :: some d :: r) h) Q := ⟨q⟩
theorem sa_V3 {x0 x1 x2 : Option D} {d : D} {r : Ev} (q : Q d h) : SatX X (eV 3 (x0 :: x1 :: x2 :: some d :: r) h) Q := ⟨q⟩
theorem sa_V4 {x0 x1 x2 x3 : Option D} {d : D} {r : Ev} (q : Q d h) : SatX X (eV 4 (x0 :: x1 :: x2 :: x3 :: some d :: r) h) Q := ⟨q⟩
theorem sa_V5 {x0 x1 x2 x3 x4 : Option D} {d : D} {r : Ev} (q : Q d h) : SatX X (eV 5 (x0 :: x1 :: x2 :: x3 :: x4 :: some d :: r) h) Q := ⟨q⟩
theorem sa_V6 {x0 x1 x2 x3 x4 x5 : Option D} {d : D} {r : Ev} (q : Q d h) : SatX X (eV 6 (x0 :: x1 :: x2 :: x3 :: x4 :: x5 :: some d :: r) h) Q := ⟨q⟩
theorem sa_V7 {x0 x1 x2 x3 x4 x5 x6 : Option D} {d : D} {r : Ev} (q : Q d h) : SatX X (eV 7 (x0 :: x1 :: x2 :: x3 :: x4 :: x5 :: x6 :: some d :: r) h) Q := ⟨q⟩
theorem sa_V8 {x0 x1 x2 x3 x4 x5 x6 x7 : Option D} {d : D} {r : Ev} (q : Q d h) : SatX X (eV 8 (x0 :: x1 :: x2 :: x3 :: x4 :: x5 :: x6 :: x7 :: some d :: r) h) Q := ⟨q⟩
theorem sa_V9 {x0 x1 x2 x3 x4 x5 x6 x7 x8 : Option D} {d : D} {r : Ev} (q : Q d h) : SatX X (eV 9 (x0 :: x1 :: x2 :: x3 :: x4 :: x5 :: x6 :: x7 :: x8 :: some d :: r) h) Q := ⟨q⟩
theorem sa_V10 {x0 x1 x2 x3 x4 x5 x6 x7 x8 x9 : Option D} {d : D} {r : Ev} (q : Q d h) : SatX X (eV 10 (x0 :: x1 :: x2 :: x3 :: x4 :: x5 :: x6 :: x7 :: x8 :: x9 :: some d :: r) h) Q := ⟨q⟩
theorem sa_V11 {x0 x1 x2 x3 x4 x5 x6 x7 x8 x9 x10 : Option D} {d : D} {r : Ev} (q : Q d h) : SatX X (eV 11 (x0 :: x1 :: x2 :: x3 :: x4 :: x5 :: x6 :: x7 :: x8 :: x9 :: x10 :: some d :: r) h) Q := ⟨q⟩
theorem sa_V12 {x0 x1 x2 x3 x4 x5 x6 x7 x8 x9 x10 x11 : Option D} {d : D} {r : Ev} (q : Q d h) : SatX X (eV 12 (x0 :: x1 :: x2 :: x3 :: x4 :: x5 :: x6 :: x7 :: x8 :: x9 :: x10 :: x11 :: some d :: r) h) Q := ⟨q⟩
theorem sa_V13 {x0 x1 x2 x3 x4 x5 x6 x7 x8 x9 x10 x11 x12 : Option D} {d : D} {r : Ev} (q : Q d h) : SatX X (eV 13 (x0 :: x1 :: x2 :: x3 :: x4 :: x5 :: x6 :: x7 :: x8 :: x9 :: x10 :: x11 :: x12 :: some d :: r) h) Q := ⟨q⟩
theorem sa_V14 {x0 x1 x2 x3 x4 x5 x6 x7 x8 x9 x10 x11 x12 x13 : Option D} {d : D} {r : Ev} (q : Q d h) : SatX X (eV 14 (x0 :: x1 :: x2 :: x3 :: x4 :: x5 :: x6 :: x7 :: x8 :: x9 :: x10 :: x11 :: x12 :: x13 :: some d :: r) h) Q := ⟨q⟩
theorem sa_V15 {x0 x1 x2 x3 x4 x5 x6 x7 x8 x9 x10 x11 x12 x13 x14 : Option D} {d : D} {r : Ev} (q : Q d h) : SatX X (eV 15 (x0 :: x1 :: x2 :: x3 :: x4 :: x5 :: x6 :: x7 :: x8 :: x9 :: x10 :: x11 :: x12 :: x13 :: x14 :: some d :: r) h) Q := ⟨q⟩
theorem ss_asg0 {x0 : Option D} {r : Ev} {e : EM} (s : SatX (fun x h1 => Y x (x0 :: r) h1) (e (x0 :: r) h) fun d h1 => N (some d :: r) h1) : SatSX Y (sAsg (gN 0) e (x0 :: r) h) N T B G := ss_asg s
theorem ss_asg1 {x0 x1 : Option D} {r : Ev} {e : EM} (s : SatX (fun x h1 => Y x (x0 :: x1 :: r) h1) (e (x0 :: x1 :: r) h) fun d h1 => N (x0 :: some d :: r) h1) : SatSX Y (sAsg (gN 1) e (x0 :: x1 :: r) h) N T B G := ss_asg s
theorem ss_asg2 {x0 x1 x2 : Option D} {r : Ev} {e : EM} (s : SatX (fun x h1 => Y x (x0 :: x1 :: x2 :: r) h1) (e (x0 :: x1 :: x2 :: r) h) fun d h1 => N (x0 :: x1 :: some d :: r) h1) : SatSX Y (sAsg (gN 2) e (x0 :: x1 :: x2 :: r) h) N T B G := ss_asg s
theorem ss_asg3 {x0 x1 x2 x3 : Option D} {r : Ev} {e : EM} (s : SatX (fun x h1 => Y x (x0 :: x1 :: x2 :: x3 :: r) h1) (e (x0 :: x1 :: x2 :: x3 :: r) h) fun d h1 => N (x0 :: x1 :: x2 :: some d :: r) h1) : SatSX Y (sAsg (gN 3) e (x0 :: x1 :: x2 :: x3 :: r) h) N T B G := ss_asg s
theorem ss_asg4 {x0 x1 x2 x3 x4 : Option D} {r : Ev} {e : EM} (s : SatX (fun x h1 => Y x (x0 :: x1 :: x2 :: x3 :: x4 :: r) h1) (e (x0 :: x1 :: x2 :: x3 :: x4 :: r) h) fun d h1 => N (x0 :: x1 :: x2 :: x3 :: some d :: r) h1) : SatSX Y (sAsg (gN 4) e (x0 :: x1 :: x2 :: x3 :: x4 :: r) h) N T B G := ss_asg s
theorem ss_asg5 {x0 x1 x2 x3 x4 x5 : Option D} {r : Ev} {e : EM} (s : SatX (fun x h1 => Y x (x0 :: x1 :: x2 :: x3 :: x4 :: x5 :: r) h1) (e (x0 :: x1 :: x2 :: x3 :: x4 :: x5 :: r) h) fun d h1 => N (x0 :: x1 :: x2 :: x3 :: x4 :: some d :: r) h1) : SatSX Y (sAsg (gN 5) e (x0 :: x1 :: x2 :: x3 :: x4 :: x5 :: r) h) N T B G := ss_asg s
theorem ss_asg6 {x0 x1 x2 x3 x4 x5 x6 : Option D} {r : Ev} {e : EM} (s : SatX (fun x h1 => Y x (x0 :: x1 :: x2 :: x3 :: x4 :: x5 :: x6 :: r) h1) (e (x0 :: x1 :: x2 :: x3 :: x4 :: x5 :: x6 :: r) h) fun d h1 => N (x0 :: x1 :: x2 :: x3 :: x4 :: x5 :: some d :: r) h1) : SatSX Y (sAsg (gN 6) e (x0 :: x1 :: x2 :: x3 :: x4 :: x5 :: x6 :: r) h) N T B G := ss_asg s
theorem ss_asg7 {x0 x1 x2 x3 x4 x5 x6 x7 : Option D} {r : Ev} {e : EM} (s : SatX (fun x h1 => Y x (x0 :: x1 :: x2 :: x3 :: x4 :: x5 :: x6 :: x7 :: r) h1) (e (x0 :: x1 :: x2 :: x3 :: x4 :: x5 :: x6 :: x7 :: r) h) fun d h1 => N (x0 :: x1 :: x2 :: x3 :: x4 :: x5 :: x6 :: some d :: r) h1) : SatSX Y (sAsg (gN 7) e (x0 :: x1 :: x2 :: x3 :: x4 :: x5 :: x6 :: x7 :: r) h) N T B G := ss_asg s
theorem ss_asg8 {x0 x1 x2 x3 x4 x5 x6 x7 x8 : Option D} {r : Ev} {e : EM} (s : SatX (fun x h1 => Y x (x0 :: x1 :: x2 :: x3 :: x4 :: x5 :: x6 :: x7 :: x8 :: r) h1) (e (x0 :: x1 :: x2 :: x3 :: x4 :: x5 :: x6 :: x7 :: x8 :: r) h) fun d h1 => N (x0 :: x1 :: x2 :: x3 :: x4 :: x5 :: x6 :: x7 :: some d :: r) h1) : SatSX Y (sAsg (gN 8) e (x0 :: x1 :: x2 :: x3 :: x4 :: x5 :: x6 :: x7 :: x8 :: r) h) N T B G := ss_asg s
theorem ss_asg9 {x0 x1 x2 x3 x4 x5 x6 x7 x8 x9 : Option D} {r : Ev} {e : EM} (s : SatX (fun x h1 => Y x (x0 :: x1 :: x2 :: x3 :: x4 :: x5 :: x6 :: x7 :: x8 :: x9 :: r) h1) (e (x0 :: x1 :: x2 :: x3 :: x4 :: x5 :: x6 :: x7 :: x8 :: x9 :: r) h) fun d h1 => N (x0 :: x1 :: x2 :: x3 :: x4 :: x5 :: x6 :: x7 :: x8 :: some d :: r) h1) : SatSX Y (sAsg (gN 9) e (x0 :: x1 :: x2 :: x3 :: x4 :: x5 :: x6 :: x7 :: x8 :: x9 :: r) h) N T B G := ss_asg s
theorem ss_asg10 {x0 x1 x2 x3 x4 x5 x6 x7 x8 x9 x10 : Option D} {r : Ev} {e : EM} (s : SatX (fun x h1 => Y x (x0 :: x1 :: x2 :: x3 :: x4 :: x5 :: x6 :: x7 :: x8 :: x9 :: x10 :: r) h1) (e (x0 :: x1 :: x2 :: x3 :: x4 :: x5 :: x6 :: x7 :: x8 :: x9 :: x10 :: r) h) fun d h1 => N (x0 :: x1 :: x2 :: x3 :: x4 :: x5 :: x6 :: x7 :: x8 :: x9 :: some d :: r) h1) : SatSX Y (sAsg (gN 10) e (x0 :: x1 :: x2 :: x3 :: x4 :: x5 :: x6 :: x7 :: x8 :: x9 :: x10 :: r) h) N T B G := ss_asg s
theorem ss_asg11 {x0 x1 x2 x3 x4 x5 x6 x7 x8 x9 x10 x11 : Option D} {r : Ev} {e : EM} (s : SatX (fun x h1 => Y x (x0 :: x1 :: x2 :: x3 :: x4 :: x5 :: x6 :: x7 :: x8 :: x9 :: x10 :: x11 :: r) h1) (e (x0 :: x1 :: x2 :: x3 :: x4 :: x5 :: x6 :: x7 :: x8 :: x9 :: x10 :: x11 :: r) h) fun d h1 => N (x0 :: x1 :: x2 :: x3 :: x4 :: x5 :: x6 :: x7 :: x8 :: x9 :: x10 :: some d :: r) h1) : SatSX Y (sAsg (gN 11) e (x0 :: x1 :: x2 :: x3 :: x4 :: x5 :: x6 :: x7 :: x8 :: x9 :: x10 :: x11 :: r) h) N T B G := ss_asg s
theorem ss_asg12 {x0 x1 x2 x3 x4 x5 x6 x7 x8 x9 x10 x11 x12 : Option D} {r : Ev} {e : EM} (s : SatX (fun x h1 => Y x (x0 :: x1 :: x2 :: x3 :: x4 :: x5 :: x6 :: x7 :: x8 :: x9 :: x10 :: x11 :: x12 :: r) h1) (e (x0 :: x1 :: x2 :: x3 :: x4 :: x5 :: x6 :: x7 :: x8 :: x9 :: x10 :: x11 :: x12 :: r) h) fun d h1 => N (x0 :: x1 :: x2 :: x3 :: x4 :: x5 :: x6 :: x7 :: x8 :: x9 :: x10 :: x11 :: some d :: r) h1) : SatSX Y (sAsg (gN 12) e (x0 :: x1 :: x2 :: x3 :: x4 :: x5 :: x6 :: x7 :: x8 :: x9 :: x10 :: x11 :: x12 :: r) h) N T B G := ss_asg s
theorem ss_asg13 {x0 x1 x2 x3 x4 x5 x6 x7 x8 x9 x10 x11 x12 x13 : Option D} {r : Ev} {e : EM} (s : SatX (fun x h1 => Y x (x0 :: x1 :: x2 :: x3 :: x4 :: x5 :: x6 :: x7 :: x8 :: x9 :: x10 :: x11 :: x12 :: x13 :: r) h1) (e (x0 :: x1 :: x2 :: x3 :: x4 :: x5 :: x6 :: x7 :: x8 :: x9 :: x10 :: x11 :: x12 :: x13 :: r) h) fun d h1 => N (x0 :: x1 :: x2 :: x3 :: x4 :: x5 :: x6 :: x7 :: x8 :: x9 :: x10 :: x11 :: x12 :: some d :: r) h1) : SatSX Y (sAsg (gN 13) e (x0 :: x1 :: x2 :: x3 :: x4 :: x5 :: x6 :: x7 :: x8 :: x9 :: x10 :: x11 :: x12 :: x13 :: r) h) N T B G := ss_asg s
theorem ss_asg14 {x0 x1 x2 x3 x4 x5 x6 x7 x8 x9 x10 x11 x12 x13 x14 : Option D} {r : Ev} {e : EM} (s : SatX (fun x h1 => Y x (x0 :: x1 :: x2 :: x3 :: x4 :: x5 :: x6 :: x7 :: x8 :: x9 :: x10 :: x11 :: x12 :: x13 :: x14 :: r) h1) (e (x0 :: x1 :: x2 :: x3 :: x4 :: x5 :: x6 :: x7 :: x8 :: x9 :: x10 :: x11 :: x12 :: x13 :: x14 :: r) h) fun d h1 => N (x0 :: x1 :: x2 :: x3 :: x4 :: x5 :: x6 :: x7 :: x8 :: x9 :: x10 :: x11 :: x12 :: x13 :: some d :: r) h1) : SatSX Y (sAsg (gN 14) e (x0 :: x1 :: x2 :: x3 :: x4 :: x5 :: x6 :: x7 :: x8 :: x9 :: x10 :: x11 :: x12 :: x13 :: x14 :: r) h) N T B G := ss_asg s
theorem ss_asg15 {x0 x1 x2 x3 x4 x5 x6 x7 x8 x9 x10 x11 x12 x13 x14 x15 : Option D} {r : Ev} {e : EM} (s : SatX (fun x h1 => Y x (x0 :: x1 :: x2 :: x3 :: x4 :: x5 :: x6 :: x7 :: x8 :: x9 :: x10 :: x11 :: x12 :: x13 :: x14 :: x15 :: r) h1) (e (x0 :: x1 :: x2 :: x3 :: x4 :: x5 :: x6 :: x7 :: x8 :: x9 :: x10 :: x11 :: x12 :: x13 :: x14 :: x15 :: r) h) fun d h1 => N (x0 :: x1 :: x2 :: x3 :: x4 :: x5 :: x6 :: x7 :: x8 :: x9 :: x10 :: x11 :: x12 :: x13 :: x14 :: some d :: r) h1) : SatSX Y (sAsg (gN 15) e (x0 :: x1 :: x2 :: x3 :: x4 :: x5 :: x6 :: x7 :: x8 :: x9 :: x10 :: x11 :: x12 :: x13 :: x14 :: x15 :: r) h) N T B G := ss_asg s
/-- a for: an invariant over the turn -/
theorem forL_inv {g : TgM} {b : SM} {chk : Hm → Bool} (Inv : Nat → Ev → Hm → Prop) : ∀ (its : List D) (k : Nat) (v : Ev) (h : Hm), Inv k v h →
    (∀ (i : Nat) (x : D) (v : Ev) (h : Hm), its[i]? = some x → Inv (k + i) v h → chk h = true ∧ ∃ v1, g x v h = some v1 ∧ SatSX Y (b v1 h) (Inv (k + i + 1)) T N (Inv (k + i + 1))) → (∀ v h, Inv (k + its.length) v h → chk h = true ∧ N v h) → SatSX Y (forL g b chk its v h) N T B G
  | [], k, v, h, h0, _, hd => by
    have := hd v h h0
    simp only [forL, this.1, if_true]
    exact ⟨this.2⟩
  | x :: xs, k, v, h, h0, hs, hd => by
    obtain ⟨hc, v1, e, s⟩ := hs 0 x v h rfl h0
    simp only [forL, hc, if_true, e]
    have rec_ : ∀ v2 h2, Inv (k + 1) v2 h2 → SatSX Y (forL g b chk xs v2 h2) N T B G := fun v2 h2 z =>
      forL_inv Inv xs (k + 1) v2 h2 z (fun i y v h e hi => by
        have := hs (i + 1) y v h (by simpa using e) (by rw [show k + (i + 1) = k + 1 + i by omega]; exact hi)
        rw [show k + (i + 1) = k + 1 + i by omega] at this
        exact this) (fun v h z => hd v h (by rw [List.length_cons, show k + (xs.length + 1) = k + 1 + xs.length by omega]; exact z))
    generalize b v1 h = o at s ⊢
    cases o with
    | nx v2 h2 => exact rec_ v2 h2 s.out
    | ct v2 h2 => exact rec_ v2 h2 s.out
    | bk v2 h2 => exact ⟨s.out⟩
    | rt _ _ => exact ⟨s.out⟩
    | exc _ _ _ => exact ⟨s.out⟩
    | err => exact s.out.elim
theorem ss_for {g : TgM} {w : Ev → Hm → R Wk} {b : SM} (s : SatX (fun x h1 => Y x v h1) (w v h) fun k h1 => ∃ Inv : Nat → Ev → Hm → Prop, Inv 0 v h1 ∧
    (∀ (i : Nat) (x : D) (v : Ev) (h : Hm), k.its[i]? = some x → Inv i v h → k.chk h = true ∧ ∃ v1, g x v h = some v1 ∧ SatSX Y (b v1 h) (Inv (i + 1)) T N (Inv (i + 1))) ∧ (∀ v h, Inv k.its.length v h → k.chk h = true ∧ N v h)) : SatSX Y (sFor g w b v h) N T B G := by
  unfold sFor
  generalize w v h = o at s
  cases o with
  | exc _ _ => exact ⟨s.out⟩
  | err => exact s.out.elim
  | ok k h1 =>
  obtain ⟨Iv, h0, hs, hd⟩ := s.out
  exact forL_inv Iv k.its 0 v h1 h0 (fun i x v h e hi => by rw [Nat.zero_add] at hi ⊢; exact hs i x v h e hi) (fun v h z => hd v h (by rw [Nat.zero_add] at z; exact z))
/-- a comprehension: an invariant over the turn and the items made -/
theorem lcL_inv {g : TgM} {t : TM} {e : EM} {chk : Hm → Bool} {v0 : Ev} (Inv : Nat → List D → Hm → Prop) {Q : List D → Hm → Prop} : ∀ (its : List D) (k : Nat) (acc : List D) (h : Hm), Inv k acc h →
    (∀ (i : Nat) (x : D) (acc : List D) (h : Hm), its[i]? = some x → Inv (k + i) acc h → chk h = true ∧ ∃ v1, g x v0 h = some v1 ∧ Sat (t v1 h) fun c h1 => (c = true → Sat (e v1 h1) fun y h2 => Inv (k + i + 1) (acc ++ [y]) h2) ∧ (c = false → Inv (k + i + 1) acc h1)) →
    (∀ acc h, Inv (k + its.length) acc h → chk h = true ∧ Q acc h) → SatX X (lcL g t e chk v0 its h) fun ys h1 => Q (acc ++ ys) h1
  | [], k, acc, h, h0, _, hd => by
    have := hd acc h h0
    simp only [lcL, this.1, if_true]
    refine ⟨?_⟩
    show Q (acc ++ []) h
    rw [List.append_nil]; exact this.2
  | x :: xs, k, acc, h, h0, hs, hd => by
    obtain ⟨hc, v1, eg, s⟩ := hs 0 x acc h rfl h0
    simp only [lcL, hc, if_true, eg]
    have rec_ : ∀ acc2 h2, Inv (k + 1) acc2 h2 → SatX X (lcL g t e chk v0 xs h2) fun ys h1 => Q (acc2 ++ ys) h1 := fun acc2 h2 z =>
      lcL_inv Inv xs (k + 1) acc2 h2 z (fun i y acc h e hi => by
        have := hs (i + 1) y acc h (by simpa using e) (by rw [show k + (i + 1) = k + 1 + i by omega]; exact hi)
        rw [show k + (i + 1) = k + 1 + i by omega] at this
        exact this) (fun acc h z => hd acc h (by rw [List.length_cons, show k + (xs.length + 1) = k + 1 + xs.length by omega]; exact z))
    refine SatX.bind ((SatX.nx (X := X) s).imp fun c h1 z => ?_)
    cases c with
    | false => exact rec_ acc h1 (z.2 rfl)
    | true =>
      refine SatX.bind ((SatX.nx (X := X) (z.1 rfl)).imp fun y h2 w => ?_)
      refine SatX.bind ((rec_ (acc ++ [y]) h2 w).imp fun ys h3 q => ?_)
      refine ⟨?_⟩
      show Q (acc ++ (y :: ys)) h3
      rw [List.append_assoc] at q
      exact q
theorem sa_Lc {own : List Nat} {g : TgM} {w : Ev → Hm → R Wk} {t : TM} {e : EM} (s : SatX X (w v h) fun k h1 => k.its.length ≤ 16777215 ∧ ∃ Inv : Nat → List D → Hm → Prop, Inv 0 [] h1 ∧
    (∀ (i : Nat) (x : D) (acc : List D) (h : Hm), k.its[i]? = some x → Inv i acc h → k.chk h = true ∧ ∃ v1, g x (wipeE v own) h = some v1 ∧ Sat (t v1 h) fun c h1 => (c = true → Sat (e v1 h1) fun y h2 => Inv (i + 1) (acc ++ [y]) h2) ∧ (c = false → Inv (i + 1) acc h1)) ∧
    (∀ acc h, Inv k.its.length acc h → k.chk h = true ∧ Q (.lst acc) h)) : SatX X (eLc own g w t e v h) Q := by
  refine SatX.bind (s.imp fun k h1 ⟨hl, Iv, h0, hs, hd⟩ => ?_)
  rw [if_pos hl]
  refine SatX.bind ((lcL_inv (Q := fun acc h => Q (.lst acc) h) Iv k.its 0 [] h1 h0 (fun i x acc h e hi => by rw [Nat.zero_add] at hi ⊢; exact hs i x acc h e hi) (fun acc h z => hd acc h (by rw [Nat.zero_add] at z; exact z))).imp fun ys h2 q => ?_)
  rw [List.nil_append] at q
  exact ⟨q⟩
theorem sa_tYes {Q : Bool → Hm → Prop} (q : Q true h) : SatX X (tYes v h) Q := ⟨q⟩
/-- a def -/
theorem sa_fn {np nl : Nat} {b : SM} {ds : List D} (hl : ds.length = np) (s : SatS (b (ds.map some ++ List.replicate (nl - np) none) h) (fun _ h1 => Q .non h1) Q) : SatX X (fn0 np nl b ds h) Q := by
  unfold fn0 fn
  rw [if_pos hl]
  generalize b (ds.map some ++ List.replicate (nl - np) none) h = o at s
  cases o with
  | nx _ _ => exact ⟨s.out⟩
  | rt _ _ => exact ⟨s.out⟩
  | bk _ _ => exact s.out.elim
  | ct _ _ => exact s.out.elim
  | exc _ _ _ => exact s.out.elim
  | err => exact s.out.elim
theorem sa_tr {f : FM} {ds : List D} (s : SatX (fun x h1 => D.cl h.length x = true ∧ trOk h h1 h.length = true ∧ X x (h1.take h.length)) (f ds h) fun d h1 => D.cl h.length d = true ∧ trOk h h1 h.length = true ∧ Q d (h1.take h.length)) : SatX X (tr f ds h) Q := by
  unfold tr
  generalize f ds h = o at s
  cases o with
  | ok d h1 =>
    obtain ⟨s1, s2, s3⟩ := s.out
    simp only [s1, s2, Bool.and_self, if_true]
    exact ⟨s3⟩
  | exc d h1 =>
    obtain ⟨s1, s2, s3⟩ := s.out
    simp only [s1, s2, Bool.and_self, if_true]
    exact ⟨s3⟩
  | err => exact s.out.elim
end
end Dn
set_option Elab.async false
set_option linter.all false
set_option maxRecDepth 100000
set_option maxHeartbeats 4000000
namespace Dn
open PySem L2
section
variable {Q : D → Hm → Prop} {v : Ev} {h : Hm} {X : D → Hm → Prop} {Y : D → Ev → Hm → Prop}
theorem so_add {a b : Int} (q : Q (.int (a + b)) h) : SatX X (opAdd (.int a) (.int b) h) Q := ⟨q⟩
theorem so_addS {a b : Str} (hl : a.length + b.length ≤ 16777216) (q : Q (.str (a ++ b)) h) : SatX X (opAdd (.str a) (.str b) h) Q := by
  show SatX X (if a.length + b.length ≤ 16777216 then _ else _) Q
  rw [if_pos hl]; exact ⟨q⟩
theorem so_addL {a b : List D} (hl : a.length + b.length ≤ 16777216) (q : Q (.lst (a ++ b)) h) : SatX X (opAdd (.lst a) (.lst b) h) Q := by
  show SatX X (if a.length + b.length ≤ 16777216 then _ else _) Q
  rw [if_pos hl]; exact ⟨q⟩
theorem so_sub {a b : Int} (q : Q (.int (a - b)) h) : SatX X (opSub (.int a) (.int b) h) Q := ⟨q⟩
theorem so_mul {a b : Int} (hb : mulOk a b = true) (q : Q (.int (a * b)) h) : SatX X (opMul (.int a) (.int b) h) Q := by
  show SatX X (if mulOk a b = true then _ else _) Q
  rw [if_pos hb]; exact ⟨q⟩
theorem so_mulS {x : Str} {n : Int} (hb : -1000000 ≤ n ∧ n ≤ 1000000 ∧ x.length * n.toNat ≤ 1000000) (q : Q (.str (repStr x n)) h) : SatX X (opMul (.str x) (.int n) h) Q := by
  show SatX X (if _ then _ else _) Q
  rw [if_pos hb]; exact ⟨q⟩
theorem so_mulL {x : List D} {n : Int} (hb : -1000000 ≤ n ∧ n ≤ 1000000 ∧ x.length * n.toNat ≤ 16777216) (q : Q (.lst (List.replicate n.toNat x).flatten) h) : SatX X (opMul (.lst x) (.int n) h) Q := by
  show SatX X (if _ then _ else _) Q
  rw [if_pos hb]; exact ⟨q⟩
theorem so_mod {a b : Int} (hb : 0 < b) (q : Q (.int (a % b)) h) : SatX X (opMod (.int a) (.int b) h) Q := by
  show SatX X (if 0 < b then _ else _) Q
  rw [if_pos hb]; exact ⟨q⟩
theorem so_divW {a b : Int} (hb : 0 < b ∧ b < 1267650600228229401496703205376) (q : Q (.int (a / b)) h) : SatX X (opDiv (.int a) (.int b) h) Q := by
  show SatX X (if 0 < b ∧ b < 1267650600228229401496703205376 then _ else _) Q
  rw [if_pos hb]; exact ⟨q⟩
theorem so_div {a b : Int} (hb : 0 < b ∧ b < 1073741824) (q : Q (.int (a / b)) h) : SatX X (opDiv (.int a) (.int b) h) Q := so_divW ⟨hb.1, Int.lt_trans hb.2 (by decide)⟩ q
theorem so_pow {a b : Int} (hb : 0 ≤ b ∧ b ≤ 1000000 ∧ -(2 ^ 63) < a ∧ a < 2 ^ 64) (q : Q (.int (a ^ b.toNat)) h) : SatX X (opPow (.int a) (.int b) h) Q := by
  show SatX X (if _ then _ else _) Q
  rw [if_pos hb]; exact ⟨q⟩
theorem so_neg {a : Int} (q : Q (.int (-a)) h) : SatX X (opNeg (.int a) h) Q := ⟨q⟩
theorem so_lt {a b : Int} (q : Q (.bl (decide (a < b))) h) : SatX X (opLt (.int a) (.int b) h) Q := ⟨q⟩
theorem so_le {a b : Int} (q : Q (.bl (decide (a ≤ b))) h) : SatX X (opLe (.int a) (.int b) h) Q := ⟨q⟩
theorem so_gt {a b : Int} (q : Q (.bl (decide (b < a))) h) : SatX X (opGt (.int a) (.int b) h) Q := ⟨q⟩
theorem so_ge {a b : Int} (q : Q (.bl (decide (b ≤ a))) h) : SatX X (opGe (.int a) (.int b) h) Q := ⟨q⟩
theorem so_eqI {a b : Int} (q : Q (.bl (decide (a = b))) h) : SatX X (opEq (.int a) (.int b) h) Q := by
  refine ⟨show Q (.bl (D.eqb (.int a) (.int b))) h from ?_⟩
  rw [show D.eqb (.int a) (.int b) = decide (a = b) by simp [D.eqb, Bool.beq_eq_decide_eq]]; exact q
theorem so_neI {a b : Int} (q : Q (.bl (!decide (a = b))) h) : SatX X (opNe (.int a) (.int b) h) Q := by
  refine ⟨show Q (.bl (!D.eqb (.int a) (.int b))) h from ?_⟩
  rw [show D.eqb (.int a) (.int b) = decide (a = b) by simp [D.eqb, Bool.beq_eq_decide_eq]]; exact q
theorem so_eqS {a b : Str} (q : Q (.bl (decide (a = b))) h) : SatX X (opEq (.str a) (.str b) h) Q := by
  refine ⟨show Q (.bl (D.eqb (.str a) (.str b))) h from ?_⟩
  rw [show D.eqb (.str a) (.str b) = decide (a = b) by simp [D.eqb, Bool.beq_eq_decide_eq]]; exact q
theorem so_neS {a b : Str} (q : Q (.bl (!decide (a = b))) h) : SatX X (opNe (.str a) (.str b) h) Q := by
  refine ⟨show Q (.bl (!D.eqb (.str a) (.str b))) h from ?_⟩
  rw [show D.eqb (.str a) (.str b) = decide (a = b) by simp [D.eqb, Bool.beq_eq_decide_eq]]; exact q
theorem so_eqB {a b : Bool} (q : Q (.bl (a == b)) h) : SatX X (opEq (.bl a) (.bl b) h) Q := ⟨q⟩
theorem so_neB {a b : Bool} (q : Q (.bl (!(a == b))) h) : SatX X (opNe (.bl a) (.bl b) h) Q := ⟨q⟩
theorem so_neD {x y : D} (hs : scalD x y = false) (h1 : D.okN 64 (dr h x) = true) (h2 : D.okN 64 (dr h y) = true) (q : Q (.bl (!D.eqb (dr h x) (dr h y))) h) : SatX X (opNe x y h) Q := by
  unfold opNe
  rw [hs, h1, h2]; exact ⟨q⟩
theorem so_isN {x : D} (q : Q (.bl (D.eqb x .non)) h) : SatX X (opIsN x .non h) Q := by
  cases x <;> exact ⟨q⟩
theorem so_notN {x : D} (q : Q (.bl (!D.eqb x .non)) h) : SatX X (opNotN x .non h) Q := by
  cases x <;> exact ⟨q⟩
theorem so_inF {x : D} {l : List D} (hf : (flatD x && l.all flatD) = true) (q : Q (.bl (l.any fun z => D.eqb z x)) h) : SatX X (opIn x (.lst l) h) Q := by
  show SatX X (if (flatD x && l.all flatD) = true then _ else _) Q
  rw [if_pos hf]; exact ⟨by simpa [SatP] using q⟩
theorem so_notInR {x : D} {n : Nat} {l : List D} (e : h[n]? = some (.lst l)) (hf : (flatD x && l.all flatD) = true) (q : Q (.bl (!l.any fun z => D.eqb z x)) h) : SatX X (opNotIn x (.ref n) h) Q := by
  unfold opNotIn inD items
  simp only [e, hf, if_true]
  exact ⟨by simpa [SatP] using q⟩
theorem so_ixL {l : List D} {i : Int} {d : D} (e : atI l i = some d) (q : Q d h) : SatX X (opIx (.lst l) (.int i) h) Q := by
  simp only [opIx, lsOf, e]; exact ⟨q⟩
theorem so_ixT {l : List D} {i : Int} {d : D} (e : atI l i = some d) (q : Q d h) : SatX X (opIx (.tup l) (.int i) h) Q := by
  simp only [opIx, e]; exact ⟨q⟩
theorem so_ixR {n : Nat} {l : List D} {i : Int} {d : D} (e0 : h[n]? = some (.lst l)) (e : atI l i = some d) (q : Q d h) : SatX X (opIx (.ref n) (.int i) h) Q := by
  simp only [opIx, lsOf, e0, e]; exact ⟨q⟩
theorem so_ixS {x : Str} {i : Int} {c : Nat} (hl : x.length ≤ 16777216) (e : atI x.cps.toList i = some c) (q : Q (.str ⟨#[c]⟩) h) : SatX X (opIx (.str x) (.int i) h) Q := by
  simp only [opIx, hl, e, if_true]; exact ⟨q⟩
theorem so_ixC {ns : List Int} {i : Int} {k : Int} (e : atI ns i = some k) (q : Q (.int k) h) : SatX X (opIx (.scr ns) (.int i) h) Q := by
  simp only [opIx, e]; exact ⟨q⟩
theorem atI_in {α : Type} {l : List α} {i : Int} (h0 : 0 ≤ i) (h1 : i < l.length) : ∃ x, atI l i = some x ∧ x ∈ l ∧ l[i.toNat]? = some x := by
  have hn : i.toNat < l.length := by omega
  have : atI l i = some (l[i.toNat]) := by
    unfold atI ixN
    rw [if_pos h0, if_pos h1]
    simp
  exact ⟨_, this, List.getElem_mem _, List.getElem?_eq_getElem hn⟩
theorem atI_last {α : Type} {l : List α} {x : α} : atI (l ++ [x]) (-1) = some x := by
  unfold atI ixN
  rw [if_neg (by decide), if_pos (by simp; omega)]
  simp only [Option.bind_some, List.length_append, List.length_cons, List.length_nil]
  rw [show ((-1 : Int) + ((l.length + (0 + 1) : Nat) : Int)).toNat = l.length by omega]
  simp
theorem so_len {l : List D} (q : Q (.int l.length) h) : SatX X (bLen [.lst l] h) Q := ⟨q⟩
theorem so_lenT {l : List D} (q : Q (.int l.length) h) : SatX X (bLen [.tup l] h) Q := ⟨q⟩
theorem so_lenC {l : List Int} (q : Q (.int l.length) h) : SatX X (bLen [.scr l] h) Q := ⟨q⟩
theorem so_lenR {n : Nat} {l : List D} (e : h[n]? = some (.lst l)) (q : Q (.int l.length) h) : SatX X (bLen [.ref n] h) Q := by
  simp only [bLen, lsOf, e]; exact ⟨q⟩
theorem so_lenS {x : Str} (hl : x.length ≤ 16777216) (q : Q (.int x.length) h) : SatX X (bLen [.str x] h) Q := by
  simp only [bLen, hl, if_true]; exact ⟨q⟩
theorem so_max {a b : Int} (q : Q (.int (max a b)) h) : SatX X (bMax [.int a, .int b] h) Q := ⟨q⟩
theorem so_min {a b : Int} (q : Q (.int (min a b)) h) : SatX X (bMin [.int a, .int b] h) Q := ⟨q⟩
theorem so_intI {a : Int} (q : Q (.int a) h) : SatX X (bInt [.int a] h) Q := ⟨q⟩
theorem so_intB {b : Bool} (q : Q (.int (if b then 1 else 0)) h) : SatX X (bInt [.bl b] h) Q := ⟨q⟩
theorem so_isi {T t : String} {d : D} (e : tyD h d = some t) (q : Q (.bl (isTy t T)) h) : SatX X (isi T d h) Q := by
  simp only [isi, e]; exact ⟨q⟩
theorem so_join {a : Str} {ys : List Str} (hl : (ys.map (·.length)).sum + ys.length * a.length ≤ 16777216) (q : Q (.str (Str.join a ys)) h) : SatX X (mJoin (.str a) [.lst (ys.map D.str)] h) Q := by
  simp only [mJoin, items, strsOf_map, hl, if_true]; exact ⟨q⟩
theorem so_append {n : Nat} {l : List D} {x : D} (e : h[n]? = some (.lst l)) (hl : l.length < 16777216) (q : Q .non (h.set n (.lst (l ++ [x])))) : SatX X (mAppend (.ref n) [x] h) Q := by
  simp only [mAppend, e, hl, if_true]; exact ⟨q⟩
theorem so_fz {n : Nat} {l : List D} (e : h[n]? = some (.lst l)) (q : Q (.lst l) (h.set n .dead)) : SatX X (fz (.ref n) h) Q := by
  simp only [fz, e]; exact ⟨q⟩
theorem so_slL {l : List D} {lo hi : Option Int} (q : Q (.lst (cutD l lo hi)) h) : SatX X (opSl (.lst l) lo hi h) Q := ⟨q⟩
theorem so_slS {x : Str} {lo hi : Option Int} (hl : x.length ≤ 16777216) (q : Q (.str (cutS x lo hi)) h) : SatX X (opSl (.str x) lo hi h) Q := by
  simp only [opSl, hl, if_true]; exact ⟨q⟩
theorem so_wkL {l : List D} {Q : Wk → Hm → Prop} (q : Q ⟨l, fun _ => true⟩ h) : SatX X (wkOf (.lst l) h) Q := ⟨q⟩
theorem so_wkS {x : Str} {Q : Wk → Hm → Prop} (q : Q ⟨x.cps.toList.map fun c => .str ⟨#[c]⟩, fun _ => true⟩ h) : SatX X (wkOf (.str x) h) Q := ⟨q⟩
theorem so_ixL0 {x0 : D} {r : List D} (q : Q x0 h) : SatX X (opIx (.lst (x0 :: r)) (.int 0) h) Q := so_ixL (by
  unfold L2.atI L2.ixN
  rw [if_pos (by decide), if_pos (by simp only [List.length_cons]; omega)]
  rfl) q
theorem so_ixT0 {x0 : D} {r : List D} (q : Q x0 h) : SatX X (opIx (.tup (x0 :: r)) (.int 0) h) Q := so_ixT (by
  unfold L2.atI L2.ixN
  rw [if_pos (by decide), if_pos (by simp only [List.length_cons]; omega)]
  rfl) q
theorem so_ixL1 {x0 x1 : D} {r : List D} (q : Q x1 h) : SatX X (opIx (.lst (x0 :: x1 :: r)) (.int 1) h) Q := so_ixL (by
  unfold L2.atI L2.ixN
  rw [if_pos (by decide), if_pos (by simp only [List.length_cons]; omega)]
  rfl) q
theorem so_ixT1 {x0 x1 : D} {r : List D} (q : Q x1 h) : SatX X (opIx (.tup (x0 :: x1 :: r)) (.int 1) h) Q := so_ixT (by
  unfold L2.atI L2.ixN
  rw [if_pos (by decide), if_pos (by simp only [List.length_cons]; omega)]
  rfl) q
theorem so_ixL2 {x0 x1 x2 : D} {r : List D} (q : Q x2 h) : SatX X (opIx (.lst (x0 :: x1 :: x2 :: r)) (.int 2) h) Q := so_ixL (by
  unfold L2.atI L2.ixN
  rw [if_pos (by decide), if_pos (by simp only [List.length_cons]; omega)]
  rfl) q
theorem so_ixT2 {x0 x1 x2 : D} {r : List D} (q : Q x2 h) : SatX X (opIx (.tup (x0 :: x1 :: x2 :: r)) (.int 2) h) Q := so_ixT (by
  unfold L2.atI L2.ixN
  rw [if_pos (by decide), if_pos (by simp only [List.length_cons]; omega)]
  rfl) q
theorem so_ixL3 {x0 x1 x2 x3 : D} {r : List D} (q : Q x3 h) : SatX X (opIx (.lst (x0 :: x1 :: x2 :: x3 :: r)) (.int 3) h) Q := so_ixL (by
  unfold L2.atI L2.ixN
  rw [if_pos (by decide), if_pos (by simp only [List.length_cons]; omega)]
  rfl) q
theorem so_ixT3 {x0 x1 x2 x3 : D} {r : List D} (q : Q x3 h) : SatX X (opIx (.tup (x0 :: x1 :: x2 :: x3 :: r)) (.int 3) h) Q := so_ixT (by
  unfold L2.atI L2.ixN
  rw [if_pos (by decide), if_pos (by simp only [List.length_cons]; omega)]
  rfl) q
theorem so_ixL4 {x0 x1 x2 x3 x4 : D} {r : List D} (q : Q x4 h) : SatX X (opIx (.lst (x0 :: x1 :: x2 :: x3 :: x4 :: r)) (.int 4) h) Q := so_ixL (by
  unfold L2.atI L2.ixN
  rw [if_pos (by decide), if_pos (by simp only [List.length_cons]; omega)]
  rfl) q
theorem so_ixT4 {x0 x1 x2 x3 x4 : D} {r : List D} (q : Q x4 h) : SatX X (opIx (.tup (x0 :: x1 :: x2 :: x3 :: x4 :: r)) (.int 4) h) Q := so_ixT (by
  unfold L2.atI L2.ixN
  rw [if_pos (by decide), if_pos (by simp only [List.length_cons]; omega)]
  rfl) q
theorem so_ixL5 {x0 x1 x2 x3 x4 x5 : D} {r : List D} (q : Q x5 h) : SatX X (opIx (.lst (x0 :: x1 :: x2 :: x3 :: x4 :: x5 :: r)) (.int 5) h) Q := so_ixL (by
  unfold L2.atI L2.ixN
  rw [if_pos (by decide), if_pos (by simp only [List.length_cons]; omega)]
  rfl) q
theorem so_ixT5 {x0 x1 x2 x3 x4 x5 : D} {r : List D} (q : Q x5 h) : SatX X (opIx (.tup (x0 :: x1 :: x2 :: x3 :: x4 :: x5 :: r)) (.int 5) h) Q := so_ixT (by
  unfold L2.atI L2.ixN
  rw [if_pos (by decide), if_pos (by simp only [List.length_cons]; omega)]
  rfl) q
theorem so_ixR0 {n : Nat} {x0 : D} {r : List D} (e : h[n]? = some (.lst (x0 :: r))) (q : Q x0 h) : SatX X (opIx (.ref n) (.int 0) h) Q := so_ixR e (by
  unfold L2.atI L2.ixN
  rw [if_pos (by decide), if_pos (by simp only [List.length_cons]; omega)]
  rfl) q
theorem so_ixR1 {n : Nat} {x0 x1 : D} {r : List D} (e : h[n]? = some (.lst (x0 :: x1 :: r))) (q : Q x1 h) : SatX X (opIx (.ref n) (.int 1) h) Q := so_ixR e (by
  unfold L2.atI L2.ixN
  rw [if_pos (by decide), if_pos (by simp only [List.length_cons]; omega)]
  rfl) q
theorem so_ixR2 {n : Nat} {x0 x1 x2 : D} {r : List D} (e : h[n]? = some (.lst (x0 :: x1 :: x2 :: r))) (q : Q x2 h) : SatX X (opIx (.ref n) (.int 2) h) Q := so_ixR e (by
  unfold L2.atI L2.ixN
  rw [if_pos (by decide), if_pos (by simp only [List.length_cons]; omega)]
  rfl) q
theorem so_ixP {l : List D} {i : Int} (P : D → Prop) (hP : ∀ d ∈ l, P d) (h0 : 0 ≤ i) (h1 : i < l.length) (q : ∀ d, P d → Q d h) : SatX X (opIx (.lst l) (.int i) h) Q := by
  obtain ⟨x, e, hx, _⟩ := atI_in h0 h1
  exact so_ixL e (q x (hP x hx))
/-- an item of a list of ints within bounds -/
def IntIn (lo hi : Int) (d : D) : Prop := ∃ k, d = .int k ∧ lo ≤ k ∧ k ≤ hi
theorem IntIn.mk {lo hi k : Int} (h1 : lo ≤ k) (h2 : k ≤ hi) : IntIn lo hi (.int k) := ⟨k, rfl, h1, h2⟩
theorem all_nil {P : D → Prop} : ∀ d ∈ ([] : List D), P d := fun _ h => nomatch h
theorem all_cons {P : D → Prop} {x : D} {l : List D} (a : P x) (b : ∀ d ∈ l, P d) : ∀ d ∈ x :: l, P d := List.forall_mem_cons.mpr ⟨a, b⟩
theorem so_put {n : Nat} {l : List D} {k : Int} {j : Nat} {x : D} {P : Hm → Prop} (e : h[n]? = some (.lst l)) (ej : L2.ixN l.length k = some j) (q : P (h.set n (.lst (l.set j x)))) : PutTo (.ref n) (.int k) x h P := by
  unfold PutTo
  simp only [putIx, e, ej, Option.map_some]
  exact q
theorem mulOkL {a b : Int} (h : -(2 ^ 64) < a ∧ a < 2 ^ 64) : mulOk a b = true := by
  simp only [mulOk, Bool.or_eq_true, Bool.and_eq_true, decide_eq_true_eq]; exact .inl h
theorem so_isiI_tuple {a : Int} (q : Q (.bl false) h) : SatX X (isi "tuple" (.int a) h) Q := so_isi (t := "int") rfl (by rw [show isTy "int" "tuple" = false by decide]; exact q)
theorem so_isiI_list {a : Int} (q : Q (.bl false) h) : SatX X (isi "list" (.int a) h) Q := so_isi (t := "int") rfl (by rw [show isTy "int" "list" = false by decide]; exact q)
theorem so_isiI_str {a : Int} (q : Q (.bl false) h) : SatX X (isi "str" (.int a) h) Q := so_isi (t := "int") rfl (by rw [show isTy "int" "str" = false by decide]; exact q)
theorem so_isiI_bool {a : Int} (q : Q (.bl false) h) : SatX X (isi "bool" (.int a) h) Q := so_isi (t := "int") rfl (by rw [show isTy "int" "bool" = false by decide]; exact q)
theorem so_isiI_int {a : Int} (q : Q (.bl true) h) : SatX X (isi "int" (.int a) h) Q := so_isi (t := "int") rfl (by rw [show isTy "int" "int" = true by decide]; exact q)
theorem so_isiS_tuple {a : Str} (q : Q (.bl false) h) : SatX X (isi "tuple" (.str a) h) Q := so_isi (t := "str") rfl (by rw [show isTy "str" "tuple" = false by decide]; exact q)
theorem so_isiS_list {a : Str} (q : Q (.bl false) h) : SatX X (isi "list" (.str a) h) Q := so_isi (t := "str") rfl (by rw [show isTy "str" "list" = false by decide]; exact q)
theorem so_isiS_str {a : Str} (q : Q (.bl true) h) : SatX X (isi "str" (.str a) h) Q := so_isi (t := "str") rfl (by rw [show isTy "str" "str" = true by decide]; exact q)
theorem so_isiS_bool {a : Str} (q : Q (.bl false) h) : SatX X (isi "bool" (.str a) h) Q := so_isi (t := "str") rfl (by rw [show isTy "str" "bool" = false by decide]; exact q)
theorem so_isiS_int {a : Str} (q : Q (.bl false) h) : SatX X (isi "int" (.str a) h) Q := so_isi (t := "str") rfl (by rw [show isTy "str" "int" = false by decide]; exact q)
theorem so_isiB_tuple {a : Bool} (q : Q (.bl false) h) : SatX X (isi "tuple" (.bl a) h) Q := so_isi (t := "bool") rfl (by rw [show isTy "bool" "tuple" = false by decide]; exact q)
theorem so_isiB_list {a : Bool} (q : Q (.bl false) h) : SatX X (isi "list" (.bl a) h) Q := so_isi (t := "bool") rfl (by rw [show isTy "bool" "list" = false by decide]; exact q)
theorem so_isiB_str {a : Bool} (q : Q (.bl false) h) : SatX X (isi "str" (.bl a) h) Q := so_isi (t := "bool") rfl (by rw [show isTy "bool" "str" = false by decide]; exact q)
theorem so_isiB_bool {a : Bool} (q : Q (.bl true) h) : SatX X (isi "bool" (.bl a) h) Q := so_isi (t := "bool") rfl (by rw [show isTy "bool" "bool" = true by decide]; exact q)
theorem so_isiB_int {a : Bool} (q : Q (.bl true) h) : SatX X (isi "int" (.bl a) h) Q := so_isi (t := "bool") rfl (by rw [show isTy "bool" "int" = true by decide]; exact q)
theorem so_isiN_tuple  (q : Q (.bl false) h) : SatX X (isi "tuple" (.non) h) Q := so_isi (t := "NoneType") rfl (by rw [show isTy "NoneType" "tuple" = false by decide]; exact q)
theorem so_isiN_list  (q : Q (.bl false) h) : SatX X (isi "list" (.non) h) Q := so_isi (t := "NoneType") rfl (by rw [show isTy "NoneType" "list" = false by decide]; exact q)
theorem so_isiN_str  (q : Q (.bl false) h) : SatX X (isi "str" (.non) h) Q := so_isi (t := "NoneType") rfl (by rw [show isTy "NoneType" "str" = false by decide]; exact q)
theorem so_isiN_bool  (q : Q (.bl false) h) : SatX X (isi "bool" (.non) h) Q := so_isi (t := "NoneType") rfl (by rw [show isTy "NoneType" "bool" = false by decide]; exact q)
theorem so_isiN_int  (q : Q (.bl false) h) : SatX X (isi "int" (.non) h) Q := so_isi (t := "NoneType") rfl (by rw [show isTy "NoneType" "int" = false by decide]; exact q)
theorem so_isiT_tuple {a : List D} (q : Q (.bl true) h) : SatX X (isi "tuple" (.tup a) h) Q := so_isi (t := "tuple") rfl (by rw [show isTy "tuple" "tuple" = true by decide]; exact q)
theorem so_isiT_list {a : List D} (q : Q (.bl false) h) : SatX X (isi "list" (.tup a) h) Q := so_isi (t := "tuple") rfl (by rw [show isTy "tuple" "list" = false by decide]; exact q)
theorem so_isiT_str {a : List D} (q : Q (.bl false) h) : SatX X (isi "str" (.tup a) h) Q := so_isi (t := "tuple") rfl (by rw [show isTy "tuple" "str" = false by decide]; exact q)
theorem so_isiT_bool {a : List D} (q : Q (.bl false) h) : SatX X (isi "bool" (.tup a) h) Q := so_isi (t := "tuple") rfl (by rw [show isTy "tuple" "bool" = false by decide]; exact q)
theorem so_isiT_int {a : List D} (q : Q (.bl false) h) : SatX X (isi "int" (.tup a) h) Q := so_isi (t := "tuple") rfl (by rw [show isTy "tuple" "int" = false by decide]; exact q)
theorem so_isiL_tuple {a : List D} (q : Q (.bl false) h) : SatX X (isi "tuple" (.lst a) h) Q := so_isi (t := "list") rfl (by rw [show isTy "list" "tuple" = false by decide]; exact q)
theorem so_isiL_list {a : List D} (q : Q (.bl true) h) : SatX X (isi "list" (.lst a) h) Q := so_isi (t := "list") rfl (by rw [show isTy "list" "list" = true by decide]; exact q)
theorem so_isiL_str {a : List D} (q : Q (.bl false) h) : SatX X (isi "str" (.lst a) h) Q := so_isi (t := "list") rfl (by rw [show isTy "list" "str" = false by decide]; exact q)
theorem so_isiL_bool {a : List D} (q : Q (.bl false) h) : SatX X (isi "bool" (.lst a) h) Q := so_isi (t := "list") rfl (by rw [show isTy "list" "bool" = false by decide]; exact q)
theorem so_isiL_int {a : List D} (q : Q (.bl false) h) : SatX X (isi "int" (.lst a) h) Q := so_isi (t := "list") rfl (by rw [show isTy "list" "int" = false by decide]; exact q)
theorem rcR {n : Nat} {l : List D} (e : h[n]? = some (.lst l)) : isRc "list" (.ref n) h = true := by
  simp [isRc, lsOf, e]
/-- a for over a list that nobody changes -/
theorem ss_forL {g : TgM} {w : Ev → Hm → R Wk} {b : SM} {N : Ev → Hm → Prop} {T : D → Hm → Prop} {B G : Ev → Hm → Prop} {l : List D} (Inv : Nat → Ev → Hm → Prop) (hw : SatX (fun x h1 => Y x v h1) (w v h) fun k h1 => k = ⟨l, fun _ => true⟩ ∧ h1 = h) (h0 : Inv 0 v h)
    (hs : ∀ (i : Nat) (x : D) (v : Ev) (h : Hm), l[i]? = some x → Inv i v h → ∃ v1, g x v h = some v1 ∧ SatSX Y (b v1 h) (Inv (i + 1)) T N (Inv (i + 1))) (hd : ∀ v h, Inv l.length v h → N v h) : SatSX Y (sFor g w b v h) N T B G := by
  refine ss_for (hw.imp ?_)
  rintro _ _ ⟨rfl, rfl⟩
  exact ⟨Inv, h0, fun i x v h e hi => ⟨rfl, hs i x v h e hi⟩, fun v h z => ⟨rfl, hd v h z⟩⟩
/-- a for over the numbers below n -/
theorem ss_forR {k : Nat} {w : Ev → Hm → R Wk} {b : SM} {N : Ev → Hm → Prop} {T : D → Hm → Prop} {B G : Ev → Hm → Prop} (n : Nat) (Inv : Nat → Ev → Hm → Prop) (hw : SatX (fun x h1 => Y x v h1) (w v h) fun k h1 => k = ⟨(List.range n).map fun (i : Nat) => .int (i : Int), fun _ => true⟩ ∧ h1 = h) (h0 : Inv 0 v h)
    (hs : ∀ (i : Nat) (v : Ev) (h : Hm), i < n → Inv i v h → SatSX Y (b (v.set k (some (.int i))) h) (Inv (i + 1)) T N (Inv (i + 1))) (hd : ∀ v h, Inv n v h → N v h) : SatSX Y (sFor (gN k) w b v h) N T B G := by
  refine ss_forL Inv hw h0 (fun i x v h e hi => ?_) (fun v h z => hd v h (by simpa using z))
  have hn : i < n := by
    have := (List.getElem?_eq_some_iff.mp e).1
    simpa using this
  have hx : x = .int i := by
    simp [hn] at e; exact e.symm
  subst hx
  exact ⟨_, rfl, hs i v h hn hi⟩
end
end Dn
set_option Elab.async false
set_option linter.all false
set_option maxRecDepth 100000
set_option maxHeartbeats 4000000
namespace Lw
open PySem Dn
local macro_rules | `(tactic| sizeOf_list_dec) => `(tactic| with_reducible refine And.intro (show _ ≤ 16777216 by simp only [List.length_cons, List.length_nil]; omega) ?_)
local macro_rules | `(tactic| sizeOf_list_dec) => `(tactic| with_reducible refine Exists.intro _ (And.intro rfl ?_))
local macro_rules | `(tactic| sizeOf_list_dec) => `(tactic| with_reducible (refine so_addL (by simp only [List.length_append, List.length_cons, List.length_nil]; omega) ?_; try simp only [List.cons_append, List.nil_append]))
local macro_rules | `(tactic| sizeOf_list_dec) => `(tactic| with_reducible refine so_lenR (by assumption) ?_)
local macro_rules | `(tactic| sizeOf_list_dec) => `(tactic| with_reducible refine so_ixR2 (by assumption) ?_)
local macro_rules | `(tactic| sizeOf_list_dec) => `(tactic| with_reducible refine so_ixR1 (by assumption) ?_)
local macro_rules | `(tactic| sizeOf_list_dec) => `(tactic| with_reducible refine so_ixR0 (by assumption) ?_)
local macro_rules | `(tactic| sizeOf_list_dec) => `(tactic| with_reducible refine so_div (by decide) ?_)
local macro_rules | `(tactic| sizeOf_list_dec) => `(tactic| with_reducible refine so_mul (mulOkL (by decide)) ?_)
local macro_rules | `(tactic| sizeOf_list_dec) => `(tactic| with_reducible refine so_mod (by decide) ?_)
local macro_rules | `(tactic| sizeOf_list_dec) => `(tactic| with_reducible refine so_isiL_int ?_)
local macro_rules | `(tactic| sizeOf_list_dec) => `(tactic| with_reducible refine so_isiL_bool ?_)
local macro_rules | `(tactic| sizeOf_list_dec) => `(tactic| with_reducible refine so_isiL_str ?_)
local macro_rules | `(tactic| sizeOf_list_dec) => `(tactic| with_reducible refine so_isiL_list ?_)
local macro_rules | `(tactic| sizeOf_list_dec) => `(tactic| with_reducible refine so_isiL_tuple ?_)
local macro_rules | `(tactic| sizeOf_list_dec) => `(tactic| with_reducible refine so_isiT_int ?_)
local macro_rules | `(tactic| sizeOf_list_dec) => `(tactic| with_reducible refine so_isiT_bool ?_)
local macro_rules | `(tactic| sizeOf_list_dec) => `(tactic| with_reducible refine so_isiT_str ?_)
local macro_rules | `(tactic| sizeOf_list_dec) => `(tactic| with_reducible refine so_isiT_list ?_)
local macro_rules | `(tactic| sizeOf_list_dec) => `(tactic| with_reducible refine so_isiT_tuple ?_)
local macro_rules | `(tactic| sizeOf_list_dec) => `(tactic| with_reducible refine so_isiN_int ?_)
local macro_rules | `(tactic| sizeOf_list_dec) => `(tactic| with_reducible refine so_isiN_bool ?_)
local macro_rules | `(tactic| sizeOf_list_dec) => `(tactic| with_reducible refine so_isiN_str ?_)
local macro_rules | `(tactic| sizeOf_list_dec) => `(tactic| with_reducible refine so_isiN_list ?_)
local macro_rules | `(tactic| sizeOf_list_dec) => `(tactic| with_reducible refine so_isiN_tuple ?_)
local macro_rules | `(tactic| sizeOf_list_dec) => `(tactic| with_reducible refine so_isiB_int ?_)
local macro_rules | `(tactic| sizeOf_list_dec) => `(tactic| with_reducible refine so_isiB_bool ?_)
local macro_rules | `(tactic| sizeOf_list_dec) => `(tactic| with_reducible refine so_isiB_str ?_)
local macro_rules | `(tactic| sizeOf_list_dec) => `(tactic| with_reducible refine so_isiB_list ?_)
local macro_rules | `(tactic| sizeOf_list_dec) => `(tactic| with_reducible refine so_isiB_tuple ?_)
local macro_rules | `(tactic| sizeOf_list_dec) => `(tactic| with_reducible refine so_isiS_int ?_)
local macro_rules | `(tactic| sizeOf_list_dec) => `(tactic| with_reducible refine so_isiS_bool ?_)
local macro_rules | `(tactic| sizeOf_list_dec) => `(tactic| with_reducible refine so_isiS_str ?_)
local macro_rules | `(tactic| sizeOf_list_dec) => `(tactic| with_reducible refine so_isiS_list ?_)
local macro_rules | `(tactic| sizeOf_list_dec) => `(tactic| with_reducible refine so_isiS_tuple ?_)
local macro_rules | `(tactic| sizeOf_list_dec) => `(tactic| with_reducible refine so_isiI_int ?_)
local macro_rules | `(tactic| sizeOf_list_dec) => `(tactic| with_reducible refine so_isiI_bool ?_)
local macro_rules | `(tactic| sizeOf_list_dec) => `(tactic| with_reducible refine so_isiI_str ?_)
local macro_rules | `(tactic| sizeOf_list_dec) => `(tactic| with_reducible refine so_isiI_list ?_)
local macro_rules | `(tactic| sizeOf_list_dec) => `(tactic| with_reducible refine so_isiI_tuple ?_)
local macro_rules | `(tactic| sizeOf_list_dec) => `(tactic| with_reducible refine so_ixT5 ?_)
local macro_rules | `(tactic| sizeOf_list_dec) => `(tactic| with_reducible refine so_ixT4 ?_)
local macro_rules | `(tactic| sizeOf_list_dec) => `(tactic| with_reducible refine so_ixT3 ?_)
local macro_rules | `(tactic| sizeOf_list_dec) => `(tactic| with_reducible refine so_ixT2 ?_)
local macro_rules | `(tactic| sizeOf_list_dec) => `(tactic| with_reducible refine so_ixT1 ?_)
local macro_rules | `(tactic| sizeOf_list_dec) => `(tactic| with_reducible refine so_ixT0 ?_)
local macro_rules | `(tactic| sizeOf_list_dec) => `(tactic| with_reducible refine so_ixL5 ?_)
local macro_rules | `(tactic| sizeOf_list_dec) => `(tactic| with_reducible refine so_ixL4 ?_)
local macro_rules | `(tactic| sizeOf_list_dec) => `(tactic| with_reducible refine so_ixL3 ?_)
local macro_rules | `(tactic| sizeOf_list_dec) => `(tactic| with_reducible refine so_ixL2 ?_)
local macro_rules | `(tactic| sizeOf_list_dec) => `(tactic| with_reducible refine so_ixL1 ?_)
local macro_rules | `(tactic| sizeOf_list_dec) => `(tactic| with_reducible refine so_ixL0 ?_)
local macro_rules | `(tactic| sizeOf_list_dec) => `(tactic| with_reducible refine so_intB ?_)
local macro_rules | `(tactic| sizeOf_list_dec) => `(tactic| with_reducible refine so_intI ?_)
local macro_rules | `(tactic| sizeOf_list_dec) => `(tactic| with_reducible refine so_min ?_)
local macro_rules | `(tactic| sizeOf_list_dec) => `(tactic| with_reducible refine so_max ?_)
local macro_rules | `(tactic| sizeOf_list_dec) => `(tactic| with_reducible refine so_lenC ?_)
local macro_rules | `(tactic| sizeOf_list_dec) => `(tactic| with_reducible refine so_lenT ?_)
local macro_rules | `(tactic| sizeOf_list_dec) => `(tactic| with_reducible refine so_len ?_)
local macro_rules | `(tactic| sizeOf_list_dec) => `(tactic| with_reducible refine so_notN ?_)
local macro_rules | `(tactic| sizeOf_list_dec) => `(tactic| with_reducible refine so_isN ?_)
local macro_rules | `(tactic| sizeOf_list_dec) => `(tactic| with_reducible refine so_neB ?_)
local macro_rules | `(tactic| sizeOf_list_dec) => `(tactic| with_reducible refine so_eqB ?_)
local macro_rules | `(tactic| sizeOf_list_dec) => `(tactic| with_reducible refine so_neS ?_)
local macro_rules | `(tactic| sizeOf_list_dec) => `(tactic| with_reducible refine so_eqS ?_)
local macro_rules | `(tactic| sizeOf_list_dec) => `(tactic| with_reducible refine so_neI ?_)
local macro_rules | `(tactic| sizeOf_list_dec) => `(tactic| with_reducible refine so_eqI ?_)
local macro_rules | `(tactic| sizeOf_list_dec) => `(tactic| with_reducible refine so_ge ?_)
local macro_rules | `(tactic| sizeOf_list_dec) => `(tactic| with_reducible refine so_gt ?_)
local macro_rules | `(tactic| sizeOf_list_dec) => `(tactic| with_reducible refine so_le ?_)
local macro_rules | `(tactic| sizeOf_list_dec) => `(tactic| with_reducible refine so_lt ?_)
local macro_rules | `(tactic| sizeOf_list_dec) => `(tactic| with_reducible refine so_sub ?_)
local macro_rules | `(tactic| sizeOf_list_dec) => `(tactic| with_reducible refine so_add ?_)
local macro_rules | `(tactic| sizeOf_list_dec) => `(tactic| with_reducible refine ss_ct ?_)
local macro_rules | `(tactic| sizeOf_list_dec) => `(tactic| with_reducible refine ss_bk ?_)
local macro_rules | `(tactic| sizeOf_list_dec) => `(tactic| with_reducible refine ss_put ?_)
local macro_rules | `(tactic| sizeOf_list_dec) => `(tactic| with_reducible refine ss_if ?_)
local macro_rules | `(tactic| sizeOf_list_dec) => `(tactic| with_reducible refine ss_retN ?_)
local macro_rules | `(tactic| sizeOf_list_dec) => `(tactic| with_reducible refine ss_ret ?_)
local macro_rules | `(tactic| sizeOf_list_dec) => `(tactic| with_reducible refine ss_expr ?_)
local macro_rules | `(tactic| sizeOf_list_dec) => `(tactic| with_reducible refine ss_asg15 ?_)
local macro_rules | `(tactic| sizeOf_list_dec) => `(tactic| with_reducible refine ss_asg14 ?_)
local macro_rules | `(tactic| sizeOf_list_dec) => `(tactic| with_reducible refine ss_asg13 ?_)
local macro_rules | `(tactic| sizeOf_list_dec) => `(tactic| with_reducible refine ss_asg12 ?_)
local macro_rules | `(tactic| sizeOf_list_dec) => `(tactic| with_reducible refine ss_asg11 ?_)
local macro_rules | `(tactic| sizeOf_list_dec) => `(tactic| with_reducible refine ss_asg10 ?_)
local macro_rules | `(tactic| sizeOf_list_dec) => `(tactic| with_reducible refine ss_asg9 ?_)
local macro_rules | `(tactic| sizeOf_list_dec) => `(tactic| with_reducible refine ss_asg8 ?_)
local macro_rules | `(tactic| sizeOf_list_dec) => `(tactic| with_reducible refine ss_asg7 ?_)
local macro_rules | `(tactic| sizeOf_list_dec) => `(tactic| with_reducible refine ss_asg6 ?_)
local macro_rules | `(tactic| sizeOf_list_dec) => `(tactic| with_reducible refine ss_asg5 ?_)
local macro_rules | `(tactic| sizeOf_list_dec) => `(tactic| with_reducible refine ss_asg4 ?_)
local macro_rules | `(tactic| sizeOf_list_dec) => `(tactic| with_reducible refine ss_asg3 ?_)
local macro_rules | `(tactic| sizeOf_list_dec) => `(tactic| with_reducible refine ss_asg2 ?_)
local macro_rules | `(tactic| sizeOf_list_dec) => `(tactic| with_reducible refine ss_asg1 ?_)
local macro_rules | `(tactic| sizeOf_list_dec) => `(tactic| with_reducible refine ss_asg0 ?_)
local macro_rules | `(tactic| sizeOf_list_dec) => `(tactic| with_reducible refine ss_seq ?_)
local macro_rules | `(tactic| sizeOf_list_dec) => `(tactic| with_reducible refine ss_nx ?_)
local macro_rules | `(tactic| sizeOf_list_dec) => `(tactic| with_reducible refine sa_tYes ?_)
local macro_rules | `(tactic| sizeOf_list_dec) => `(tactic| with_reducible refine sa_wR2 ?_)
local macro_rules | `(tactic| sizeOf_list_dec) => `(tactic| with_reducible refine sa_wR1 ?_)
local macro_rules | `(tactic| sizeOf_list_dec) => `(tactic| with_reducible refine sa_wE ?_)
local macro_rules | `(tactic| sizeOf_list_dec) => `(tactic| with_reducible refine sa_pE ?_)
local macro_rules | `(tactic| sizeOf_list_dec) => `(tactic| with_reducible refine sa_pN ?_)
local macro_rules | `(tactic| sizeOf_list_dec) => `(tactic| with_reducible refine sa_SlN ?_)
local macro_rules | `(tactic| sizeOf_list_dec) => `(tactic| with_reducible refine sa_Sl ?_)
local macro_rules | `(tactic| sizeOf_list_dec) => `(tactic| with_reducible refine sa_M ?_)
local macro_rules | `(tactic| sizeOf_list_dec) => `(tactic| with_reducible refine sa_chain ?_)
local macro_rules | `(tactic| sizeOf_list_dec) => `(tactic| with_reducible refine sa_tNot ?_)
local macro_rules | `(tactic| sizeOf_list_dec) => `(tactic| with_reducible refine sa_tOr ?_)
local macro_rules | `(tactic| sizeOf_list_dec) => `(tactic| with_reducible refine sa_tAnd ?_)
local macro_rules | `(tactic| sizeOf_list_dec) => `(tactic| with_reducible refine sa_Not ?_)
local macro_rules | `(tactic| sizeOf_list_dec) => `(tactic| with_reducible refine sa_Or ?_)
local macro_rules | `(tactic| sizeOf_list_dec) => `(tactic| with_reducible refine sa_And ?_)
local macro_rules | `(tactic| sizeOf_list_dec) => `(tactic| with_reducible refine sa_If ?_)
local macro_rules | `(tactic| sizeOf_list_dec) => `(tactic| with_reducible refine sa_tE ?_)
local macro_rules | `(tactic| sizeOf_list_dec) => `(tactic| with_reducible refine sa_new ?_)
local macro_rules | `(tactic| sizeOf_list_dec) => `(tactic| with_reducible refine sa_lst ?_)
local macro_rules | `(tactic| sizeOf_list_dec) => `(tactic| with_reducible refine sa_tup ?_)
local macro_rules | `(tactic| sizeOf_list_dec) => `(tactic| with_reducible refine sa_aC ?_)
local macro_rules | `(tactic| sizeOf_list_dec) => `(tactic| with_reducible refine sa_aN ?_)
local macro_rules | `(tactic| sizeOf_list_dec) => `(tactic| with_reducible refine sa_F ?_)
local macro_rules | `(tactic| sizeOf_list_dec) => `(tactic| with_reducible refine sa_U ?_)
local macro_rules | `(tactic| sizeOf_list_dec) => `(tactic| with_reducible refine sa_B ?_)
local macro_rules | `(tactic| sizeOf_list_dec) => `(tactic| with_reducible refine sa_C ?_)
local macro_rules | `(tactic| sizeOf_list_dec) => `(tactic| with_reducible refine sa_V15 ?_)
local macro_rules | `(tactic| sizeOf_list_dec) => `(tactic| with_reducible refine sa_V14 ?_)
local macro_rules | `(tactic| sizeOf_list_dec) => `(tactic| with_reducible refine sa_V13 ?_)
local macro_rules | `(tactic| sizeOf_list_dec) => `(tactic| with_reducible refine sa_V12 ?_)
local macro_rules | `(tactic| sizeOf_list_dec) => `(tactic| with_reducible refine sa_V11 ?_)
local macro_rules | `(tactic| sizeOf_list_dec) => `(tactic| with_reducible refine sa_V10 ?_)
local macro_rules | `(tactic| sizeOf_list_dec) => `(tactic| with_reducible refine sa_V9 ?_)
local macro_rules | `(tactic| sizeOf_list_dec) => `(tactic| with_reducible refine sa_V8 ?_)
local macro_rules | `(tactic| sizeOf_list_dec) => `(tactic| with_reducible refine sa_V7 ?_)
local macro_rules | `(tactic| sizeOf_list_dec) => `(tactic| with_reducible refine sa_V6 ?_)
local macro_rules | `(tactic| sizeOf_list_dec) => `(tactic| with_reducible refine sa_V5 ?_)
local macro_rules | `(tactic| sizeOf_list_dec) => `(tactic| with_reducible refine sa_V4 ?_)
local macro_rules | `(tactic| sizeOf_list_dec) => `(tactic| with_reducible refine sa_V3 ?_)
local macro_rules | `(tactic| sizeOf_list_dec) => `(tactic| with_reducible refine sa_V2 ?_)
local macro_rules | `(tactic| sizeOf_list_dec) => `(tactic| with_reducible refine sa_V1 ?_)
local macro_rules | `(tactic| sizeOf_list_dec) => `(tactic| with_reducible refine sa_V0 ?_)
local macro_rules | `(tactic| array_get_dec) => `(tactic| repeat sizeOf_list_dec)
def m_law_bowl_b : SM :=
  (sSeq (sAsg (gN 2) (eB opAdd (eB opMul (eC (.int 611953)) (eV 1)) (eC (.int 31337))))
  (sSeq (sIf (tE (eB opLt (eV 1) (eF bLen (aC (eV 0) aN)))) (sAsg (gN 2) (eB opIx (eV 0) (eV 1))) sNx)
  (sSeq (sAsg (gN 3) (eC (.int 0)))
  (sSeq (sIf (tE (eB opGe (eV 2) (eB opPow (eC (.int 10)) (eC (.int 18))))) (sAsg (gN 3) (eB opSub (eV 2) (eB opPow (eC (.int 10)) (eC (.int 18))))) sNx)
  (sRet (eNew (aC (eV 3) (aC (eB opAdd (eB opMod (eV 2) (eC (.int 2305843009213693951))) (eB opMul (eC (.int 57)) (eV 1))) (aC (eC (.int 0)) aN)))))))))
def m_law_bowl : FM := fn0 2 4 m_law_bowl_b
def m_law_spoon_b : SM :=
  (sSeq (sIf (tE (eB opGe (eB opIx (eV 0) (eC (.int 0))) (eV 1))) (sSeq (sAsg (gN 6) (eB opMod (eB opIx (eV 0) (eC (.int 0))) (eV 1)))
  (sSeq (sPut (eV 0) (eC (.int 0)) (eB opDiv (eB opIx (eV 0) (eC (.int 0))) (eV 1)))
  (sRet (eV 6)))) sNx)
  (sSeq (sPut (eV 0) (eC (.int 2)) (eB opAdd (eB opIx (eV 0) (eC (.int 2))) (eC (.int 1))))
  (sSeq (sAsg (gN 2) (eLst (aC (eC (.int 2147483489)) (aC (eC (.int 2147483477)) (aC (eC (.int 2147483423)) (aC (eC (.int 2147483399)) (aC (eC (.int 2147483353)) (aC (eC (.int 2147483323)) (aC (eC (.int 2147483269)) aN)))))))))
  (sSeq (sAsg (gN 2) (eB opAdd (eV 2) (eLst (aC (eC (.int 2147483249)) aN))))
  (sSeq (sAsg (gN 3) (eB opIx (eV 2) (eB opMod (eB opIx (eV 0) (eC (.int 2))) (eC (.int 8)))))
  (sSeq (sAsg (gN 4) (eB opAdd (eB opMul (eB opMod (eB opIx (eV 0) (eC (.int 1))) (eV 3)) (eB opAdd (eB opMul (eC (.int 2)) (eB opIx (eV 0) (eC (.int 2)))) (eC (.int 3)))) (eB opMul (eC (.int 6151)) (eB opIx (eV 0) (eC (.int 2))))))
  (sSeq (sAsg (gN 4) (eB opMod (eB opPow (eV 4) (eC (.int 3))) (eV 3)))
  (sSeq (sAsg (gN 5) (eB opAdd (eB opAdd (eB opMul (eV 4) (eV 4)) (eB opMod (eB opIx (eV 0) (eC (.int 1))) (eC (.int 999983)))) (eB opIx (eV 0) (eC (.int 2)))))
  (sRet (eB opMod (eB opDiv (eB opMod (eB opPow (eV 5) (eC (.int 5))) (eB opIx (eV 2) (eB opMod (eB opAdd (eB opIx (eV 0) (eC (.int 2))) (eC (.int 5))) (eC (.int 8))))) (eC (.int 11))) (eV 1)))))))))))
def m_law_spoon : FM := fn0 2 7 m_law_spoon_b
def m_law_word_b : SM :=
  (sSeq (sAsg (gN 1) (eF m_law_spoon (aC (eV 0) (aC (eC (.int 5)) aN))))
  (sSeq (sAsg (gN 2) (eB opIx (eLst (aC (eC (.int 1)) (aC (eC (.int 2)) (aC (eC (.int 3)) (aC (eC (.int 12)) (aC (eB opAdd (eC (.int 1)) (eF m_law_spoon (aC (eV 0) (aC (eC (.int 12)) aN)))) aN)))))) (eV 1)))
  (sRet (eM "str" mJoin (eC (.str (Str.ofString ""))) (aC (eLc [3] (gN 3) (wR1 (eV 2)) tYes (eB opIx (eC (.str (Str.ofString "abcdefghijklmnopqrstuvwxyz"))) (eF m_law_spoon (aC (eV 0) (aC (eC (.int 26)) aN))))) aN)))))
def m_law_word : FM := fn0 1 4 m_law_word_b
/-- a bowl: three numbers; the last one counts, B more draws may come -/
structure Bowl (h : Hm) (n : Nat) (B : Nat) (a b c : Int) : Prop where
  at_ : h[n]? = some (.lst [.int a, .int b, .int c])
  a0 : 0 ≤ a
  b0 : 0 ≤ b
  c0 : 0 ≤ c
  cB : c + B ≤ 1000000000
theorem spoon0 {h : Hm} {n B : Nat} {a b c many : Int} {Q : D → Hm → Prop} (w : Bowl h n (B + 1) a b c) (h1 : 1 ≤ many) (h2 : many < 1073741824)
    (q : ∀ v a' c', 0 ≤ v → v < many → Bowl (h.set n (.lst [.int a', .int b, .int c'])) n B a' b c' → Q (.int v) (h.set n (.lst [.int a', .int b, .int c']))) : Sat (m_law_spoon [.ref n, .int many] h) Q := by
  obtain ⟨e, a0, b0, c0, cB⟩ := w
  have hn : n < h.length := (List.getElem?_eq_some_iff.mp e).1
  refine sa_fn rfl ?_
  unfold m_law_spoon_b
  simp only [List.map_cons, List.map_nil, List.replicate, Nat.reduceSub, List.cons_append, List.nil_append]
  array_get_dec
  refine ⟨fun hc => ?_, fun hc => ?_⟩
  · have hc : many ≤ a := by simpa using hc
    array_get_dec
    refine so_mod (by omega) ?_
    array_get_dec
    refine so_div ⟨by omega, h2⟩ ?_
    array_get_dec
    refine so_put (j := 0) e rfl ?_
    simp only [List.set_cons_zero]
    array_get_dec
    refine q _ _ _ (Int.emod_nonneg _ (by omega)) (Int.emod_lt_of_pos _ (by omega)) ⟨List.getElem?_set_self hn, Int.ediv_nonneg a0 (by omega), b0, c0, by omega⟩
  · array_get_dec
    refine so_put (j := 2) e rfl ?_
    simp only [List.set_cons_zero, List.set_cons_succ]
    have e2 : (h.set n (.lst [.int a, .int b, .int (c + 1)]))[n]? = some (.lst [.int a, .int b, .int (c + 1)]) := List.getElem?_set_self hn
    generalize hh : h.set n (.lst [.int a, .int b, .int (c + 1)]) = h' at e2
    array_get_dec
    refine so_ixP (IntIn 2147483200 2147483700) (by
      repeat refine all_cons (.mk (by decide) (by decide)) ?_
      exact all_nil) (Int.emod_nonneg _ (by decide)) (Int.emod_lt_of_pos _ (by decide)) ?_
    rintro _ ⟨p, rfl, p1, p2⟩
    array_get_dec
    refine so_mod (by omega) ?_
    array_get_dec
    have m1 : 0 ≤ b % p := Int.emod_nonneg _ (by omega)
    have m2 : b % p < p := Int.emod_lt_of_pos _ (by omega)
    refine so_mul (mulOkL ⟨by omega, by omega⟩) ?_
    array_get_dec
    have k1 : 0 ≤ b % p * (2 * (c + 1) + 3) := Int.mul_nonneg m1 (by omega)
    have k2 : b % p * (2 * (c + 1) + 3) ≤ 2147483700 * 2000000003 := Int.mul_le_mul (by omega) (by omega) (by omega) (by decide)
    generalize b % p * (2 * (c + 1) + 3) = t at k1 k2 ⊢
    refine so_pow ⟨by decide, by decide, by omega, by omega⟩ ?_
    array_get_dec
    refine so_mod (by omega) ?_
    array_get_dec
    have u1 : 0 ≤ (t + 6151 * (c + 1)) ^ (3 : Int).toNat % p := Int.emod_nonneg _ (by omega)
    have u2 : (t + 6151 * (c + 1)) ^ (3 : Int).toNat % p < p := Int.emod_lt_of_pos _ (by omega)
    generalize (t + 6151 * (c + 1)) ^ (3 : Int).toNat % p = u at u1 u2 ⊢
    refine so_mul (mulOkL ⟨by omega, by omega⟩) ?_
    array_get_dec
    have w1 : 0 ≤ u * u := Int.mul_nonneg u1 u1
    have w2 : u * u ≤ 2147483700 * 2147483700 := Int.mul_le_mul (by omega) (by omega) u1 (by decide)
    generalize u * u = uu at w1 w2 ⊢
    have x1 : 0 ≤ b % 999983 := Int.emod_nonneg _ (by decide)
    have x2 : b % 999983 < 999983 := Int.emod_lt_of_pos _ (by decide)
    generalize b % 999983 = bb at x1 x2 ⊢
    refine so_pow ⟨by decide, by decide, by omega, by omega⟩ ?_
    array_get_dec
    refine so_ixP (IntIn 2147483200 2147483700) (by
      repeat refine all_cons (.mk (by decide) (by decide)) ?_
      exact all_nil) (Int.emod_nonneg _ (by decide)) (Int.emod_lt_of_pos _ (by decide)) ?_
    rintro _ ⟨p', rfl, p3, p4⟩
    refine so_mod (by omega) ?_
    array_get_dec
    refine so_mod (by omega) ?_
    subst hh
    exact q _ _ _ (Int.emod_nonneg _ (by omega)) (Int.emod_lt_of_pos _ (by omega)) ⟨e2, a0, b0, by omega, by omega⟩
def Bow (n B : Nat) (h : Hm) : Prop := ∃ a b c, Bowl h n B a b c
theorem Bow.le {n B B' : Nat} {h : Hm} (w : Bow n B h) (hb : B' ≤ B) : Bow n B' h := by
  obtain ⟨a, b, c, w⟩ := w
  exact ⟨a, b, c, w.at_, w.a0, w.b0, w.c0, by have := w.cB; omega⟩
theorem Bow.lt {n B : Nat} {h : Hm} (w : Bow n B h) : n < h.length := by
  obtain ⟨a, b, c, w⟩ := w
  exact (List.getElem?_eq_some_iff.mp w.at_).1
/-- draws were made of the bowl at n, nothing else is changed -/
structure Drew (n B : Nat) (h h' : Hm) : Prop where
  bow : Bow n B h'
  len : h'.length = h.length
  keep : ∀ m, m ≠ n → h'[m]? = h[m]?
theorem Drew.trans {n B B' : Nat} {h h1 h2 : Hm} (a : Drew n B h h1) (b : Drew n B' h1 h2) : Drew n B' h h2 := ⟨b.bow, b.len.trans a.len, fun m hm => (b.keep m hm).trans (a.keep m hm)⟩
theorem Drew.refl {n B : Nat} {h : Hm} (a : Bow n B h) : Drew n B h h := ⟨a, rfl, fun _ _ => rfl⟩
theorem Drew.at {n B : Nat} {h h' : Hm} (a : Drew n B h h') {m : Nat} {o : HD} (hm : m ≠ n) (e : h[m]? = some o) : h'[m]? = some o := (a.keep m hm).trans e
theorem Drew.le {n B B' : Nat} {h h' : Hm} (a : Drew n B h h') (hb : B' ≤ B) : Drew n B' h h' := ⟨a.bow.le hb, a.len, a.keep⟩
theorem spoon {n B : Nat} {h : Hm} {many : Int} {Q : D → Hm → Prop} (w : Bow n (B + 1) h) (h1 : 1 ≤ many) (h2 : many < 1073741824) (q : ∀ v h', 0 ≤ v → v < many → Drew n B h h' → Q (.int v) h') : Sat (m_law_spoon [.ref n, .int many] h) Q := by
  obtain ⟨a, b, c, w⟩ := w
  exact spoon0 w h1 h2 fun v a' c' v0 v1 w' => q v _ v0 v1 ⟨⟨a', b, c', w'⟩, by simp, fun m hm => List.getElem?_set_ne (Ne.symm hm)⟩
theorem bowl_new {h : Hm} {ns : List Int} {k : Int} {Q : D → Hm → Prop} (h0 : 0 ≤ k) (q : ∀ h', Bow h.length 1000000000 h' → h'.length = h.length + 1 → (∀ m, m < h.length → h'[m]? = h[m]?) → Q (.ref h.length) h') : Sat (m_law_bowl [.scr ns, .int k] h) Q := by
  have fin : ∀ cell rest : Int, 0 ≤ rest → Q (.ref h.length) (h ++ [.lst [.int rest, .int (cell % 2305843009213693951 + 57 * k), .int 0]]) := fun cell rest hr =>
    q _ ⟨rest, cell % 2305843009213693951 + 57 * k, 0, by simp, hr, by have := Int.emod_nonneg cell (show (2305843009213693951 : Int) ≠ 0 by decide); omega, by decide, by decide⟩ (by simp) (fun m hm => List.getElem?_append_left hm)
  have go : ∀ (cell : Int), SatS (sSeq (sAsg (gN 3) (eC (.int 0)))
      (sSeq (sIf (tE (eB opGe (eV 2) (eB opPow (eC (.int 10)) (eC (.int 18))))) (sAsg (gN 3) (eB opSub (eV 2) (eB opPow (eC (.int 10)) (eC (.int 18))))) sNx)
      (sRet (eNew (aC (eV 3) (aC (eB opAdd (eB opMod (eV 2) (eC (.int 2305843009213693951))) (eB opMul (eC (.int 57)) (eV 1))) (aC (eC (.int 0)) aN)))))) [some (.scr ns), some (.int k), some (.int cell), none] h) (fun _ h1 => Q .non h1) Q := fun cell => by
    array_get_dec
    refine so_pow ⟨by decide, by decide, by decide, by decide⟩ ?_
    array_get_dec
    refine ⟨fun hc => ?_, fun hc => ?_⟩
    · array_get_dec
      refine so_pow ⟨by decide, by decide, by decide, by decide⟩ ?_
      array_get_dec
      refine fin cell _ ?_
      have : (10 : Int) ^ (18 : Int).toNat ≤ cell := of_decide_eq_true hc
      omega
    · array_get_dec
      exact fin cell 0 (by decide)
  refine sa_fn rfl ?_
  unfold m_law_bowl_b
  simp only [List.map_cons, List.map_nil, List.replicate, Nat.reduceSub, List.cons_append, List.nil_append]
  array_get_dec
  refine ⟨fun hc => ?_, fun hc => ?_⟩
  · array_get_dec
    have hc : k < ns.length := of_decide_eq_true hc
    obtain ⟨x, e, _⟩ := atI_in (l := ns) h0 hc
    refine so_ixC e ?_
    exact go x
  · exact ss_nx (go _)
/-- the signs of a text -/
def S (l : List Nat) : Str := ⟨l.toArray⟩
theorem S_of (w : Str) : w = S w.cps.toList := by cases w; simp [S]
theorem S_len (l : List Nat) : (S l).length = l.length := by simp [S, Str.length]
theorem S_inj {a b : List Nat} (h : S a = S b) : a = b := by
  unfold S at h
  injection h with h
  simpa using congrArg Array.toList h
def small (c : Nat) : Prop := 97 ≤ c ∧ c ≤ 122
/-- a word -/
def IsW (w : Str) : Prop := ∃ l, w = S l ∧ 1 ≤ l.length ∧ l.length ≤ 12 ∧ ∀ c ∈ l, small c
theorem IsW.len {w : Str} (h : IsW w) : 1 ≤ w.length ∧ w.length ≤ 12 := by
  obtain ⟨l, rfl, h1, h2, _⟩ := h
  rw [S_len]; exact ⟨h1, h2⟩
theorem strOk_S {l : List Nat} (h : ∀ c ∈ l, c < 1114112) : PyData.strOk (S l) = true := by
  unfold PyData.strOk S
  rw [Array.all_eq_true_iff_forall_mem]
  intro c hc
  exact decide_eq_true (h c (by simpa using hc))
theorem IsW.ok {w : Str} (h : IsW w) : PyData.strOk w = true := by
  obtain ⟨l, rfl, h1, h2, h3⟩ := h
  exact strOk_S fun c hc => by have := h3 c hc; unfold small at this; omega
theorem join_S (ls : List (List Nat)) : Str.join (Str.ofString "") (ls.map S) = S ls.flatten := by
  have h : ∀ ls : List (List Nat), TL.joinL [] ls = ls.flatten := by
    intro ls
    induction ls with
    | nil => rfl
    | cons a r ih =>
      cases r with
      | nil => simp [TL.joinL]
      | cons b r => simp only [TL.joinL, List.nil_append]; rw [ih]; rfl
  have e := TL.tl_join (Str.ofString "") (ls.map S)
  have e0 : TL.tl (Str.ofString "") = [] := by decide +kernel
  rw [e0, List.map_map, h] at e
  have e2 : ls.map (TL.tl ∘ S) = ls := by
    rw [List.map_congr_left (g := id) fun x _ => by simp [TL.tl, S], List.map_id]
  rw [e2] at e
  rw [S_of (Str.join _ _)]
  exact congrArg S e
theorem abc_at {i : Int} (h0 : 0 ≤ i) (h1 : i < 26) : ∃ c : Nat, L2.atI (Str.ofString "abcdefghijklmnopqrstuvwxyz").cps.toList i = some c ∧ small c := by
  have e : (Str.ofString "abcdefghijklmnopqrstuvwxyz").cps.toList = [97,98,99,100,101,102,103,104,105,106,107,108,109,110,111,112,113,114,115,116,117,118,119,120,121,122] := by decide +kernel
  rw [e]
  obtain ⟨x, e1, hx, _⟩ := atI_in (l := [97,98,99,100,101,102,103,104,105,106,107,108,109,110,111,112,113,114,115,116,117,118,119,120,121,122]) h0 (by simpa using h1)
  refine ⟨x, e1, ?_⟩
  simp only [List.mem_cons, List.not_mem_nil, or_false] at hx
  unfold small
  omega
theorem abc_len : (Str.ofString "abcdefghijklmnopqrstuvwxyz").length = 26 := by decide +kernel
/-- letters drawn -/
theorem letters_lc {own : List Nat} {k : Nat} {B nb size : Nat} {v : Ev} {h : Hm} {Q : D → Hm → Prop} {w : Ev → Hm → R Wk} {e : EM} (hw : Sat (w v h) fun k h1 => k = ⟨(List.range size).map fun (i : Nat) => .int (i : Int), fun _ => true⟩ ∧ h1 = h) (hs : size ≤ 1000) (hb : Bow nb (B + size) h)
    (he : ∀ (d : D) (T : Nat) (h' : Hm) (P : D → Hm → Prop), Bow nb (T + 1) h' → (∀ c h2, small c → Drew nb T h' h2 → P (.str (S [c])) h2) → Sat (e ((wipeE v own).set k (some d)) h') P)
    (q : ∀ (l : List Nat) (h' : Hm), l.length = size → (∀ c ∈ l, small c) → Drew nb B h h' → Q (.lst (l.map fun c => .str (S [c]))) h') :
    Sat (eLc own (gN k) w tYes e v h) Q := by
  refine sa_Lc (hw.imp ?_)
  rintro _ _ ⟨rfl, rfl⟩
  refine ⟨by simp; omega, fun i acc h' => ∃ l : List Nat, acc = l.map (fun c => .str (S [c])) ∧ l.length = i ∧ (∀ c ∈ l, small c) ∧ Drew nb (B + (size - i)) _ h', ⟨[], rfl, rfl, (fun _ z => nomatch z), Drew.refl (by simpa using hb)⟩, ?_, ?_⟩
  · rintro i x acc h' hx ⟨l, rfl, hl, hsm, hd⟩
    have hi : i < size := by
      have := (List.getElem?_eq_some_iff.mp hx).1
      simpa using this
    refine ⟨rfl, _, rfl, sa_tYes ⟨fun _ => ?_, fun z => nomatch z⟩⟩
    refine he x (B + (size - (i + 1))) h' _ (hd.bow.le (by omega)) fun c h2 hc hd2 => ?_
    refine ⟨l ++ [c], by simp, by simp [hl], fun z hz => ?_, hd.trans hd2⟩
    rcases List.mem_append.mp hz with hz | hz
    · exact hsm z hz
    · rw [List.mem_singleton.mp hz]; exact hc
  · rintro acc h' ⟨l, rfl, hl, hsm, hd⟩
    have hl : l.length = size := by simpa using hl
    exact ⟨rfl, q l h' hl hsm (hd.le (by omega))⟩
theorem flat1 (l : List Nat) : (l.map fun c => [c]).flatten = l := by
  induction l with
  | nil => rfl
  | cons a r ih => simp [ih]
theorem so_joinL {l : List Nat} {h : Hm} {Q : D → Hm → Prop} (hl : l.length ≤ 1000) (q : Q (.str (S l)) h) : Sat (mJoin (.str (Str.ofString "")) [.lst (l.map fun c => .str (S [c]))] h) Q := by
  have e : (l.map fun c => D.str (S [c])) = ((l.map fun c => [c]).map S).map D.str := by simp
  rw [e]
  have e1 : ((l.map fun c => [c]).map S).map (fun x => x.length) = l.map fun _ => 1 := by
    rw [List.map_map, List.map_map]
    exact List.map_congr_left fun c _ => S_len [c]
  have e2 : (Str.ofString "").length = 0 := by decide +kernel
  have e3 : (l.map fun _ => 1).sum = l.length := by simp [List.map_const']
  refine so_join (by rw [e1, e2, e3]; omega) ?_
  rw [join_S, flat1]
  exact q
theorem word {n B : Nat} {h : Hm} {Q : D → Hm → Prop} (w : Bow n (B + 20) h) (q : ∀ x h', IsW x → Drew n B h h' → Q (.str x) h') : Sat (m_law_word [.ref n] h) Q := by
  refine sa_fn rfl ?_
  unfold m_law_word_b
  simp only [List.map_cons, List.map_nil, List.replicate, Nat.reduceSub, List.cons_append, List.nil_append]
  array_get_dec
  refine spoon w (by decide) (by decide) fun way h1 w0 w1 d1 => ?_
  array_get_dec
  refine spoon d1.bow (by decide) (by decide) fun s0 h2 s1 s2 d2 => ?_
  array_get_dec
  refine so_ixP (IntIn 1 12) (by
    refine all_cons (.mk (by decide) (by decide)) (all_cons (.mk (by decide) (by decide)) (all_cons (.mk (by decide) (by decide)) (all_cons (.mk (by decide) (by decide)) (all_cons (.mk (by omega) (by omega)) all_nil))))) w0 (by simpa using w1) ?_
  rintro _ ⟨size, rfl, z1, z2⟩
  array_get_dec
  refine ⟨rfl, ?_⟩
  array_get_dec
  refine letters_lc (B := B) (nb := n) (size := size.toNat) (Q := fun x h2 => Sat (aN _ h2) fun xs h2 => Sat (mJoin (.str (Str.ofString "")) (x :: xs) h2) Q) (by
    array_get_dec
    exact ⟨by omega, by omega, rfl, rfl⟩) (by omega) ((d1.trans d2).bow.le (by omega)) ?_ ?_
  · intro d T h' P hb' k
    refine sa_B (sa_C ?_)
    simp only [wipeE, List.foldr, List.set_cons_zero, List.set_cons_succ]
    array_get_dec
    refine spoon hb' (by decide) (by decide) fun v h3 v0 v1 d3 => ?_
    obtain ⟨c, ec, hc⟩ := abc_at v0 v1
    refine so_ixS (by rw [abc_len]; decide) ec ?_
    exact k c h3 hc d3
  · intro l h3 hl hsm d3
    array_get_dec
    refine so_joinL (by omega) (q _ _ ⟨l, rfl, by omega, by omega, hsm⟩ ((d1.trans d2).trans d3))
theorem atI_nat {α : Type} {l : List α} {i : Nat} {x : α} (e : l[i]? = some x) : L2.atI l (i : Int) = some x := by
  have hi := (List.getElem?_eq_some_iff.mp e).1
  unfold L2.atI L2.ixN
  rw [if_pos (by omega), if_pos (by omega)]
  simpa using e
theorem S_app (a b : List Nat) : S a ++ S b = S (a ++ b) := TL.ext_tl (by rw [TL.tl_append]; rfl)
inductive IsItem : D → Prop
  | word (w : Str) (h : IsW w) : IsItem (.tup [.str (Str.ofString "word"), .str w])
  | by_ (n : Int) (h0 : 1 ≤ n) (h1 : n ≤ 20000) : IsItem (.tup [.str (Str.ofString "by"), .int n])
/-- a comprehension whose elements change nothing -/
theorem sa_LcMap {own : List Nat} {k : Nat} {w : Ev → Hm → R Wk} {e : EM} {v : Ev} {h : Hm} {Q : D → Hm → Prop} {l : List D} (f : D → D) (hl : l.length ≤ 16777215) (hw : Sat (w v h) fun k h1 => k = ⟨l, fun _ => true⟩ ∧ h1 = h)
    (he : ∀ x ∈ l, ∀ P : D → Hm → Prop, P (f x) h → Sat (e ((wipeE v own).set k (some x)) h) P) (q : Q (.lst (l.map f)) h) : Sat (eLc own (gN k) w tYes e v h) Q := by
  refine sa_Lc (hw.imp ?_)
  rintro _ _ ⟨rfl, rfl⟩
  refine ⟨hl, fun i acc h' => acc = (l.take i).map f ∧ h' = _, ⟨rfl, rfl⟩, ?_, ?_⟩
  · rintro i x acc h' hx ⟨rfl, rfl⟩
    refine ⟨rfl, _, rfl, sa_tYes ⟨fun _ => ?_, fun z => nomatch z⟩⟩
    refine he x (List.mem_of_getElem? hx) _ ⟨?_, rfl⟩
    rw [List.take_add_one, hx]
    simp
  · rintro acc h' ⟨rfl, rfl⟩
    refine ⟨rfl, ?_⟩
    rw [List.take_length]
    exact q
/-- a letter: a room and items -/
inductive IsLetter : D → Prop
  | mk (r : Int) (l : List D) (h0 : 0 ≤ r) (h1 : r ≤ 20000) (h2 : 1 ≤ l.length) (h3 : l.length ≤ 8) (h4 : ∀ x ∈ l, IsItem x) : IsLetter (.tup [.int r, .tup l])
/-- draws of the bowl at n, new places beyond -/
structure DrewX (n B : Nat) (h h' : Hm) : Prop where
  bow : Bow n B h'
  lt : n < h.length
  len : h.length ≤ h'.length
  keep : ∀ m, m < h.length → m ≠ n → h'[m]? = h[m]?
theorem Drew.lt {n B : Nat} {h h' : Hm} (d : Drew n B h h') : n < h.length := by have := d.bow.lt; rw [d.len] at this; exact this
theorem Drew.x {n B : Nat} {h h' : Hm} (d : Drew n B h h') : DrewX n B h h' := ⟨d.bow, d.lt, Nat.le_of_eq d.len.symm, fun m _ hm => d.keep m hm⟩
theorem DrewX.then {n B B' : Nat} {h h1 h2 : Hm} (a : DrewX n B h h1) (b : Drew n B' h1 h2) : DrewX n B' h h2 := ⟨b.bow, a.lt, by rw [b.len]; exact a.len, fun m h0 hm => (b.keep m hm).trans (a.keep m h0 hm)⟩
theorem DrewX.le {n B B' : Nat} {h h' : Hm} (a : DrewX n B h h') (hb : B' ≤ B) : DrewX n B' h h' := ⟨a.bow.le hb, a.lt, a.len, a.keep⟩
theorem Bow.of_at {n B : Nat} {h h' : Hm} (w : Bow n B h) (e : h'[n]? = h[n]?) : Bow n B h' := by
  obtain ⟨a, b, c, w⟩ := w
  exact ⟨a, b, c, e.trans w.at_, w.a0, w.b0, w.c0, w.cB⟩
theorem DrewX.put {n B : Nat} {h h' : Hm} {k : Nat} {o : HD} (a : DrewX n B h h') (hk : h.length ≤ k) : DrewX n B h (h'.set k o) :=
  ⟨a.bow.of_at (List.getElem?_set_ne (by have := a.lt; omega)), a.lt, by rw [List.length_set]; exact a.len, fun m hm hn => by rw [List.getElem?_set_ne (by omega)]; exact a.keep m hm hn⟩
theorem DrewX.push {n B : Nat} {h h' : Hm} {o : HD} (a : DrewX n B h h') : DrewX n B h (h' ++ [o]) :=
  ⟨a.bow.of_at (List.getElem?_append_left (by have := a.lt; have := a.len; omega)), a.lt, by rw [List.length_append]; have := a.len; omega, fun m hm hn => by rw [List.getElem?_append_left (by have := a.len; omega)]; exact a.keep m hm hn⟩
theorem trOk_of {N : Nat} : ∀ {h h1 : Hm}, h.length ≤ h1.length → (∀ (m : Nat) (o p : HD), h[m]? = some o → h1[m]? = some p → (p = o ∨ HD.cl N p = true)) → trOk h h1 N = true
  | [], _, _, _ => rfl
  | o :: r, [], hl, _ => by simp at hl
  | o :: r, p :: s, hl, hk => by
    unfold trOk
    rw [trOk_of (h := r) (h1 := s) (by simpa using hl) fun m o' p' e1 e2 => hk (m + 1) o' p' (by simpa using e1) (by simpa using e2), Bool.and_true]
    rcases hk 0 o p rfl rfl with e | e
    · rw [e, HD.beq_refl]; rfl
    · rw [e]; simp
theorem Bow.cl {n B N : Nat} {h : Hm} {p : HD} (w : Bow n B h) (e : h[n]? = some p) : HD.cl N p = true := by
  obtain ⟨a, b, c, w⟩ := w
  rw [w.at_] at e
  injection e with e
  subst e
  rfl
/-- what goes when a def ends that drew -/
theorem DrewX.tr {n B : Nat} {h h' : Hm} (a : DrewX n B h h') : trOk h h' h.length = true ∧ Drew n B h (h'.take h.length) := by
  refine ⟨trOk_of a.len fun m o p e1 e2 => ?_, ?_, ?_, fun m hm => ?_⟩
  · by_cases hm : m = n
    · subst hm; exact .inr (a.bow.cl e2)
    · have := a.keep m ((List.getElem?_eq_some_iff.mp e1).1) hm
      rw [e1, e2] at this
      injection this with this
      exact .inl this
  · exact a.bow.of_at (List.getElem?_take_of_lt a.lt)
  · rw [List.length_take]; have := a.len; omega
  · by_cases hl : m < h.length
    · rw [List.getElem?_take_of_lt hl]; exact a.keep m hl hm
    · rw [List.getElem?_eq_none (l := h) (by omega), List.getElem?_eq_none (by simp only [List.length_take]; omega)]
theorem clL_all {N : Nat} : ∀ {l : List D}, (∀ x ∈ l, D.cl N x = true) → D.clL N l = true
  | [], _ => rfl
  | x :: r, h => by
    unfold D.clL
    rw [h x (by simp), clL_all fun y hy => h y (by simp [hy])]; rfl
theorem IsItem.cl {d : D} {N : Nat} (i : IsItem d) : D.cl N d = true := by
  cases i <;> rfl
theorem IsLetter.cl {d : D} {N : Nat} (i : IsLetter d) : D.cl N d = true := by
  cases i with
  | mk r l _ _ _ _ h4 =>
    simp only [D.cl, D.clL, Bool.true_and, Bool.and_true]
    exact clL_all fun x hx => (h4 x hx).cl
def m_law_unlike_b : SM :=
  (sSeq (sAsg (gN 2) (eC (.str (Str.ofString "abcdefghijklmnopqrstuvwxyz"))))
  (sSeq (sAsg (gN 3) (eNew aN))
  (sSeq (sFor (gN 4) (wR1 (eV 1)) (sSeq (sAsg (gN 5) (eF m_law_spoon (aC (eV 0) (aC (eC (.int 4)) aN))))
  (sSeq (sAsg (gN 6) (eF m_law_word (aC (eV 0) aN)))
  (sSeq (sIf (tAnd (tE (eB opEq (eV 5) (eC (.int 1)))) (tE (eB opNe (eV 3) (eLst aN)))) (sAsg (gN 6) (eSl (eB opIx (eV 3) (eU opNeg (eC (.int 1)))) pN (pE (eB opAdd (eC (.int 1)) (eF m_law_spoon (aC (eV 0) (aC (eF bLen (aC (eB opIx (eV 3) (eU opNeg (eC (.int 1)))) aN)) aN))))))) sNx)
  (sSeq (sIf (tAnd (tE (eB opEq (eV 5) (eC (.int 2)))) (tE (eB opNe (eV 3) (eLst aN)))) (sSeq (sAsg (gN 8) (eF m_law_spoon (aC (eV 0) (aC (eF bLen (aC (eB opIx (eV 3) (eU opNeg (eC (.int 1)))) aN)) aN))))
  (sAsg (gN 6) (eB opAdd (eB opAdd (eSl (eB opIx (eV 3) (eU opNeg (eC (.int 1)))) pN (pE (eV 8))) (eB opIx (eV 6) (eC (.int 0)))) (eSl (eB opIx (eV 3) (eU opNeg (eC (.int 1)))) (pE (eB opAdd (eV 8) (eC (.int 1)))) pN)))) sNx)
  (sSeq (sAsg (gN 7) (eLc [8] (gN 8) (wR1 (eB opAdd (eF bLen (aC (eV 3) aN)) (eC (.int 1)))) tYes (eSl (eB opAdd (eB opAdd (eV 6) (eB opIx (eV 2) (eB opDiv (eV 8) (eC (.int 26))))) (eB opIx (eV 2) (eB opMod (eV 8) (eC (.int 26))))) (pE (eU opNeg (eC (.int 12)))) pN)))
  (sExpr (eM "list" mAppend (eV 3) (aC (eB opIx (eLc [9] (gN 9) (wE (eB opAdd (eLst (aC (eV 6) aN)) (eV 7))) (tE (eB opNotIn (eV 9) (eV 3))) (eV 9)) (eC (.int 0))) aN)))))))))
  (sRet (eU fz (eV 3))))))
def m_law_unlike : FM := tr (fn0 2 10 m_law_unlike_b)
theorem cutS_S (l : List Nat) (lo hi : Option Int) : L2.cutS (S l) lo hi = S ((l.drop (HT.sIx l.length 0 lo)).take (HT.sIx l.length l.length hi - HT.sIx l.length 0 lo)) := by
  unfold L2.cutS
  rw [S_len]
  rfl
theorem sIx_pos {n d : Nat} {i : Int} (h : 0 ≤ i) : HT.sIx n d (some i) = min i.toNat n := by
  show (if i < 0 then (i + (n : Int)).toNat else min i.toNat n) = _
  rw [if_neg (by omega)]
theorem sIx_neg {n d : Nat} {i : Int} (h : i < 0) : HT.sIx n d (some i) = (i + n).toNat := by
  show (if i < 0 then (i + (n : Int)).toNat else min i.toNat n) = _
  rw [if_pos h]
theorem cut_to {l : List Nat} {i : Int} (h : 0 ≤ i) : L2.cutS (S l) none (some i) = S (l.take i.toNat) := by
  rw [cutS_S, sIx_pos h]
  show S ((l.drop 0).take _) = _
  congr 1
  rw [List.drop_zero, show HT.sIx l.length 0 none = 0 from rfl, Nat.sub_zero]
  by_cases hk : i.toNat ≤ l.length
  · rw [Nat.min_eq_left hk]
  · rw [Nat.min_eq_right (by omega), List.take_length, List.take_of_length_le (by omega)]
theorem cut_from {l : List Nat} {i : Int} (h : 0 ≤ i) : L2.cutS (S l) (some i) none = S (l.drop i.toNat) := by
  rw [cutS_S, sIx_pos h, show HT.sIx l.length l.length none = l.length from rfl]
  congr 1
  by_cases hk : i.toNat ≤ l.length
  · rw [Nat.min_eq_left hk, List.take_of_length_le (by simp)]
  · rw [Nat.min_eq_right (by omega), List.drop_of_length_le (by omega), List.drop_of_length_le (by omega)]; simp
theorem cut_last {l : List Nat} {i : Int} (h : i < 0) : L2.cutS (S l) (some i) none = S (l.drop (i + l.length).toNat) := by
  rw [cutS_S, sIx_neg h, show HT.sIx l.length l.length none = l.length from rfl]
  congr 1
  rw [List.take_of_length_le (by simp)]
theorem IsW.mk' {l : List Nat} (h1 : 1 ≤ l.length) (h2 : l.length ≤ 12) (h3 : ∀ c ∈ l, small c) : IsW (S l) := ⟨l, rfl, h1, h2, h3⟩
theorem abc_exact {i : Int} (h0 : 0 ≤ i) (h1 : i < 26) : L2.atI (Str.ofString "abcdefghijklmnopqrstuvwxyz").cps.toList i = some (97 + i.toNat) := by
  have e : (Str.ofString "abcdefghijklmnopqrstuvwxyz").cps.toList = (List.range 26).map (97 + ·) := by decide +kernel
  rw [e]
  obtain ⟨k, rfl⟩ := Int.eq_ofNat_of_zero_le h0
  refine atI_nat ?_
  have hk : k < 26 := by omega
  simp [hk]
/-- a list that may change, of texts, is not empty -/
theorem so_neNil {n : Nat} {h : Hm} {ws : List Str} {Q : D → Hm → Prop} (e : h[n]? = some (.lst (ws.map D.str))) (hw : ∀ w ∈ ws, PyData.strOk w = true) (q : Q (.bl (!ws.isEmpty)) h) : Sat (opNe (.ref n) (.lst []) h) Q := by
  have hd : dr h (.ref n) = .lst (ws.map D.str) := by simp [dr, lsOf, e]
  have hk : ∀ ws : List Str, (∀ w ∈ ws, PyData.strOk w = true) → D.okL 63 (ws.map D.str) = true := by
    intro ws
    induction ws with
    | nil => intro _; rfl
    | cons a r ih =>
      intro hw
      simp only [List.map_cons, D.okL, D.okN, Bool.and_eq_true]
      exact ⟨hw a (by simp), ih fun w hw' => hw w (by simp [hw'])⟩
  refine so_neD rfl (by rw [hd]; exact hk ws hw) rfl ?_
  rw [hd, show dr h (.lst []) = .lst [] from rfl]
  cases ws with
  | nil => exact q
  | cons a r => exact q
theorem flat_strs (ws : List Str) : (ws.map D.str).all flatD = true := by
  rw [List.all_eq_true]
  intro x hx
  obtain ⟨w, _, rfl⟩ := List.mem_map.mp hx
  rfl
theorem any_strs (ws : List Str) (x : Str) : ((ws.map D.str).any fun z => D.eqb z (.str x)) = decide (x ∈ ws) := by
  induction ws with
  | nil => rfl
  | cons a r ih =>
    rw [List.map_cons, List.any_cons, ih]
    by_cases h : a = x
    · subst h; simp [D.eqb]
    · have : ¬ x = a := fun e => h e.symm
      simp [D.eqb, h, this]
theorem so_notInStr {n : Nat} {h : Hm} {ws : List Str} {x : Str} {Q : D → Hm → Prop} (e : h[n]? = some (.lst (ws.map D.str))) (q : Q (.bl (!decide (x ∈ ws))) h) : Sat (opNotIn (.str x) (.ref n) h) Q :=
  so_notInR e (by rw [flat_strs]; rfl) (by rw [any_strs]; exact q)
/-- a comprehension with a question whose parts change nothing -/
theorem sa_LcFil {own : List Nat} {k : Nat} {w : Ev → Hm → R Wk} {t : TM} {e : EM} {v : Ev} {h : Hm} {Q : D → Hm → Prop} {l : List D} (p : D → Bool) (f : D → D) (hl : l.length ≤ 16777215) (hw : Sat (w v h) fun k h1 => k = ⟨l, fun _ => true⟩ ∧ h1 = h)
    (ht : ∀ x ∈ l, ∀ P : Bool → Hm → Prop, P (p x) h → Sat (t ((wipeE v own).set k (some x)) h) P) (he : ∀ x ∈ l, ∀ P : D → Hm → Prop, P (f x) h → Sat (e ((wipeE v own).set k (some x)) h) P) (q : Q (.lst ((l.filter p).map f)) h) : Sat (eLc own (gN k) w t e v h) Q := by
  refine sa_Lc (hw.imp ?_)
  rintro _ _ ⟨rfl, rfl⟩
  refine ⟨hl, fun i acc h' => acc = ((l.take i).filter p).map f ∧ h' = _, ⟨rfl, rfl⟩, ?_, ?_⟩
  · rintro i x acc h' hx ⟨rfl, rfl⟩
    have hm := List.mem_of_getElem? hx
    refine ⟨rfl, _, rfl, ht x hm _ ⟨fun hp => ?_, fun hp => ?_⟩⟩
    · refine he x hm _ ⟨?_, rfl⟩
      rw [List.take_add_one, hx]
      simp [hp]
    · refine ⟨?_, rfl⟩
      rw [List.take_add_one, hx]
      simp [hp]
  · rintro acc h' ⟨rfl, rfl⟩
    refine ⟨rfl, ?_⟩
    rw [List.take_length]
    exact q
/-- the spare words -/
def spareL (l : List Nat) (at_ : Nat) : List Nat := (l ++ [97 + at_ / 26] ++ [97 + at_ % 26]).drop (l.length + 2 - 12)
theorem spare_ok {l : List Nat} {a : Nat} (h1 : 1 ≤ l.length) (h3 : ∀ c ∈ l, small c) (ha : a < 676) : IsW (S (spareL l a)) := by
  refine .mk' ?_ ?_ ?_
  · simp [spareL]; omega
  · simp [spareL]; omega
  · intro c hc
    have hc := List.mem_of_mem_drop hc
    rcases List.mem_append.mp hc with hc | hc
    · rcases List.mem_append.mp hc with hc | hc
      · exact h3 c hc
      · rw [List.mem_singleton.mp hc]; unfold small; omega
    · rw [List.mem_singleton.mp hc]; unfold small; omega
theorem spare_inj {l : List Nat} {a b : Nat} (h : spareL l a = spareL l b) : a = b := by
  unfold spareL at h
  rw [List.append_assoc, List.append_assoc, List.drop_append_of_le_length (by omega), List.drop_append_of_le_length (by omega)] at h
  have := List.append_cancel_left h
  simp only [List.cons_append, List.nil_append, List.cons.injEq, and_true] at this
  omega
def spares (l : List Nat) (m : Nat) : List Str := (List.range m).map fun k => S (spareL l k)
theorem spares_nodup (l : List Nat) (m : Nat) : (spares l m).Nodup := by
  unfold spares
  rw [List.nodup_iff_pairwise_ne]
  refine List.Pairwise.map _ (fun a b hab e => hab (spare_inj (S_inj e))) (List.nodup_iff_pairwise_ne.mp List.nodup_range)
/-- one of the spare words is new -/
theorem fresh (l : List Nat) (ws : List Str) (w : Str) : ∃ x rest, (w :: spares l (ws.length + 1)).filter (fun z => !decide (z ∈ ws)) = x :: rest ∧ x ∉ ws ∧ x ∈ w :: spares l (ws.length + 1) := by
  have h1 : ∃ z ∈ spares l (ws.length + 1), z ∉ ws := by
    refine Classical.byContradiction fun hc => ?_
    have hs : spares l (ws.length + 1) ⊆ ws := fun z hz => Classical.byContradiction fun hn => hc ⟨z, hz, hn⟩
    have := List.Nodup.length_le_of_subset (spares_nodup l (ws.length + 1)) hs
    simp [spares] at this
    omega
  obtain ⟨z, hz, hn⟩ := h1
  have hm : z ∈ (w :: spares l (ws.length + 1)).filter (fun z => !decide (z ∈ ws)) := List.mem_filter.mpr ⟨by simp [hz], by simp [hn]⟩
  cases hf : (w :: spares l (ws.length + 1)).filter (fun z => !decide (z ∈ ws)) with
  | nil => rw [hf] at hm; exact nomatch hm
  | cons x rest =>
    have hx : x ∈ (w :: spares l (ws.length + 1)).filter (fun z => !decide (z ∈ ws)) := by rw [hf]; simp
    have := List.mem_filter.mp hx
    exact ⟨x, rest, rfl, by simpa using this.2, this.1⟩
def notIn (ws : List Str) : D → Bool
  | .str w => !decide (w ∈ ws)
  | _ => false
theorem notIn_filter (ws l : List Str) : ((l.map D.str).filter (notIn ws)).map id = (l.filter fun z => !decide (z ∈ ws)).map D.str := by
  rw [List.map_id, List.filter_map]
  rfl
def Words (ws : List Str) : Prop := ∀ w ∈ ws, IsW w
theorem Words.snoc {ws : List Str} {w : Str} (h : Words ws) (hw : IsW w) : Words (ws ++ [w]) := fun x hx => by
  rcases List.mem_append.mp hx with hx | hx
  · exact h x hx
  · rw [List.mem_singleton.mp hx]; exact hw
theorem Words.ok {ws : List Str} (h : Words ws) : ∀ w ∈ ws, PyData.strOk w = true := fun w hw => (h w hw).ok
theorem last_of {α : Type} {l : List α} (h : l ≠ []) : ∃ l' x, l = l' ++ [x] := ⟨l.dropLast, l.getLast h, (List.dropLast_concat_getLast h).symm⟩
theorem so_ixLast {n : Nat} {h : Hm} {ws : List Str} {x : Str} {Q : D → Hm → Prop} (e : h[n]? = some (.lst ((ws ++ [x]).map D.str))) (q : Q (.str x) h) : Sat (opIx (.ref n) (.int (-1)) h) Q := so_ixR e (by rw [List.map_append]; exact atI_last) q
theorem unlike {n B : Nat} {many : Int} {h : Hm} {Q : D → Hm → Prop} (hm0 : 0 ≤ many) (hm : many ≤ 600) (w : Bow n (B + 30 * many.toNat) h) (q : ∀ ws h', ws.length = many.toNat → Words ws → ws.Nodup → Drew n B h h' → Q (.lst (ws.map D.str)) h') : Sat (m_law_unlike [.ref n, .int many] h) Q := by
  refine sa_tr (sa_fn rfl ?_)
  unfold m_law_unlike_b
  simp only [List.map_cons, List.map_nil, List.replicate, Nat.reduceSub, List.cons_append, List.nil_append]
  array_get_dec
  have d0 : DrewX n (B + 30 * many.toNat) h (h ++ [.lst []]) := (Drew.refl w).x.push
  have ee : (h ++ [HD.lst []])[h.length]? = some (.lst (([] : List Str).map D.str)) := by simp
  generalize h ++ [HD.lst []] = h6 at d0 ee
  refine ss_forR many.toNat (fun i v h' => ∃ (ws : List Str) (x4 x5 x6 x7 x8 x9 : Option D), v = [some (.ref n), some (.int many), some (.str (Str.ofString "abcdefghijklmnopqrstuvwxyz")), some (.ref h.length), x4, x5, x6, x7, x8, x9] ∧ h'[h.length]? = some (.lst (ws.map D.str)) ∧ ws.length = i ∧ Words ws ∧ ws.Nodup ∧ DrewX n (B + 30 * (many.toNat - i)) h h') (by
    array_get_dec
    exact ⟨by omega, by omega, rfl, rfl⟩) ⟨[], _, _, _, _, _, _, rfl, ee, rfl, (fun _ z => nomatch z), List.nodup_nil, d0⟩ ?_ ?_
  · rintro i v h' hi ⟨ws, x4, x5, x6, x7, x8, x9, rfl, el, hl, hws, hnd, dx⟩
    simp only [List.set_cons_zero, List.set_cons_succ]
    array_get_dec
    refine spoon (B := B + 30 * (many.toNat - (i + 1)) + 29) (dx.bow.le (by omega)) (by decide) (by decide) fun way h1 p0 p1 d1 => ?_
    array_get_dec
    refine word (B := B + 30 * (many.toNat - (i + 1)) + 9) (d1.bow.le (by omega)) fun w0 h2 hw0 d2 => ?_
    array_get_dec
    have hLn : h.length ≠ n := by have := dx.lt; omega
    have el2 := (d1.trans d2).at hLn el
    have dx2 := (dx.then d1).then d2
    clear d1 d2 el dx
    obtain ⟨l0, rfl, a0, b0, c0⟩ := hw0
    have fin : ∀ (l : List Nat) (h4 : Hm) (x8 x9 : Option D), 1 ≤ l.length → l.length ≤ 12 → (∀ c ∈ l, small c) → DrewX n (B + 30 * (many.toNat - (i + 1))) h h4 → h4[h.length]? = some (.lst (ws.map D.str)) → ∀ (T : D → Hm → Prop) (Bk Gk : Ev → Hm → Prop), SatS ((sSeq (sAsg (gN 7) (eLc [8] (gN 8) (wR1 (eB opAdd (eF bLen (aC (eV 3) aN)) (eC (.int 1)))) tYes (eSl (eB opAdd (eB opAdd (eV 6) (eB opIx (eV 2) (eB opDiv (eV 8) (eC (.int 26))))) (eB opIx (eV 2) (eB opMod (eV 8) (eC (.int 26))))) (pE (eU opNeg (eC (.int 12)))) pN)))
  (sExpr (eM "list" mAppend (eV 3) (aC (eB opIx (eLc [9] (gN 9) (wE (eB opAdd (eLst (aC (eV 6) aN)) (eV 7))) (tE (eB opNotIn (eV 9) (eV 3))) (eV 9)) (eC (.int 0))) aN))))
        [some (.ref n), some (.int many), some (.str (Str.ofString "abcdefghijklmnopqrstuvwxyz")), some (.ref h.length), some (.int i), some (.int way), some (.str (S l)), x7, x8, x9] h4) (fun v h' => ∃ (ws : List Str) (x4 x5 x6 x7 x8 x9 : Option D), v = [some (.ref n), some (.int many), some (.str (Str.ofString "abcdefghijklmnopqrstuvwxyz")), some (.ref h.length), x4, x5, x6, x7, x8, x9] ∧ h'[h.length]? = some (.lst (ws.map D.str)) ∧ ws.length = i + 1 ∧ Words ws ∧ ws.Nodup ∧ DrewX n (B + 30 * (many.toNat - (i + 1))) h h') T Bk Gk := by
      intro l h4 x8 x9 l1 l2 l3 d4 e4 T Bk Gk
      array_get_dec
      refine sa_LcMap (l := (List.range (ws.length + 1)).map fun (k : Nat) => .int (k : Int)) (fun x => match x with
        | .int k => .str (S (spareL l k.toNat))
        | _ => .non) (by simp; omega) (by
          array_get_dec
          refine ⟨by omega, by simp; omega, ?_, rfl⟩
          simp) ?_ ?_
      · intro x hx P p
        obtain ⟨k, hk, rfl⟩ := List.mem_map.mp hx
        have hk : k < ws.length + 1 := by simpa using hk
        simp only [wipeE, List.foldr, List.set_cons_zero, List.set_cons_succ]
        array_get_dec
        refine so_ixS (by rw [abc_len]; decide) (abc_exact (i := (k : Int) / 26) (by omega) (by omega)) ?_
        rw [show (⟨#[97 + ((k : Int) / 26).toNat]⟩ : Str) = S [97 + k / 26] by
          have : ((k : Int) / 26).toNat = k / 26 := by omega
          rw [this]; rfl]
        refine so_addS (by rw [S_len, S_len]; simp; omega) ?_
        rw [S_app]
        array_get_dec
        refine so_ixS (by rw [abc_len]; decide) (abc_exact (i := (k : Int) % 26) (by omega) (by omega)) ?_
        rw [show (⟨#[97 + ((k : Int) % 26).toNat]⟩ : Str) = S [97 + k % 26] by
          have : ((k : Int) % 26).toNat = k % 26 := by omega
          rw [this]; rfl]
        refine so_addS (by rw [S_len, S_len]; simp; omega) ?_
        rw [S_app]
        array_get_dec
        refine so_neg ?_
        refine ⟨_, rfl, ?_⟩
        array_get_dec
        refine so_slS (by rw [S_len]; simp; omega) ?_
        rw [cut_last (by decide)]
        have e : (-12 + (((l ++ [97 + k / 26] ++ [97 + k % 26]).length : Nat) : Int)).toNat = l.length + 2 - 12 := by
          simp; omega
        rw [show -(12 : Int) = -12 from rfl, e]
        exact p
      · array_get_dec
        have es : ((List.range (ws.length + 1)).map fun (k : Nat) => D.int (k : Int)).map (fun x => match x with
          | .int k => .str (S (spareL l k.toNat))
          | _ => .non) = (spares l (ws.length + 1)).map D.str := by
          simp [spares]
        rw [es]
        have e4' := e4
        refine ⟨rcR e4, ?_⟩
        array_get_dec
        refine sa_LcFil (l := (S l :: spares l (ws.length + 1)).map D.str) (notIn ws) id (by simp [spares]; omega) (by
          array_get_dec
          refine so_addL (by simp [spares]; omega) ?_
          exact so_wkL ⟨rfl, rfl⟩) ?_ ?_ ?_
        · intro x hx P p
          obtain ⟨z, hz, rfl⟩ := List.mem_map.mp hx
          simp only [wipeE, List.foldr, List.set_cons_zero, List.set_cons_succ]
          array_get_dec
          exact so_notInStr e4 ⟨_, rfl, p⟩
        · intro x hx P p
          simp only [wipeE, List.foldr, List.set_cons_zero, List.set_cons_succ]
          array_get_dec
          exact p
        · rw [notIn_filter]
          obtain ⟨x, rest, ef, hx1, hx2⟩ := fresh l ws (S l)
          rw [ef, List.map_cons]
          array_get_dec
          refine so_append e4 (by simp; omega) ?_
          refine ⟨ws ++ [x], _, _, _, _, _, _, rfl, ?_, by simp [hl], hws.snoc ?_, ?_, d4.put (Nat.le_refl _)⟩
          · rw [List.getElem?_set_self (List.getElem?_eq_some_iff.mp e4).1, List.map_append]; rfl
          · rcases List.mem_cons.mp hx2 with e | e
            · rw [e]; exact .mk' l1 l2 l3
            · obtain ⟨k, hk, rfl⟩ := List.mem_map.mp e
              have hk : k < ws.length + 1 := by simpa using hk
              exact spare_ok l1 l3 (by omega)
          · rw [List.nodup_append]
            refine ⟨hnd, by simp, fun a ha b hb e => ?_⟩
            rw [List.mem_singleton.mp hb] at e
            exact hx1 (e ▸ ha)
    have hemp : (!ws.isEmpty) = true → ∃ ws' l', ws = ws' ++ [S l'] ∧ 1 ≤ l'.length ∧ l'.length ≤ 12 ∧ ∀ c ∈ l', small c := by
      intro he
      obtain ⟨ws', x, e⟩ := last_of (l := ws) (by intro e; rw [e] at he; exact nomatch he)
      obtain ⟨l', rfl, q1, q2, q3⟩ := hws x (by rw [e]; simp)
      exact ⟨ws', l', e, q1, q2, q3⟩
    -- the third way
    have mid : ∀ (l : List Nat) (h4 : Hm), 1 ≤ l.length → l.length ≤ 12 → (∀ c ∈ l, small c) → DrewX n (B + 30 * (many.toNat - (i + 1)) + 4) h h4 → h4[h.length]? = some (.lst (ws.map D.str)) → ∀ (T : D → Hm → Prop) (Bk Gk : Ev → Hm → Prop), SatS ((sSeq (sIf (tAnd (tE (eB opEq (eV 5) (eC (.int 2)))) (tE (eB opNe (eV 3) (eLst aN)))) (sSeq (sAsg (gN 8) (eF m_law_spoon (aC (eV 0) (aC (eF bLen (aC (eB opIx (eV 3) (eU opNeg (eC (.int 1)))) aN)) aN))))
  (sAsg (gN 6) (eB opAdd (eB opAdd (eSl (eB opIx (eV 3) (eU opNeg (eC (.int 1)))) pN (pE (eV 8))) (eB opIx (eV 6) (eC (.int 0)))) (eSl (eB opIx (eV 3) (eU opNeg (eC (.int 1)))) (pE (eB opAdd (eV 8) (eC (.int 1)))) pN)))) sNx)
  (sSeq (sAsg (gN 7) (eLc [8] (gN 8) (wR1 (eB opAdd (eF bLen (aC (eV 3) aN)) (eC (.int 1)))) tYes (eSl (eB opAdd (eB opAdd (eV 6) (eB opIx (eV 2) (eB opDiv (eV 8) (eC (.int 26))))) (eB opIx (eV 2) (eB opMod (eV 8) (eC (.int 26))))) (pE (eU opNeg (eC (.int 12)))) pN)))
  (sExpr (eM "list" mAppend (eV 3) (aC (eB opIx (eLc [9] (gN 9) (wE (eB opAdd (eLst (aC (eV 6) aN)) (eV 7))) (tE (eB opNotIn (eV 9) (eV 3))) (eV 9)) (eC (.int 0))) aN)))))
        [some (.ref n), some (.int many), some (.str (Str.ofString "abcdefghijklmnopqrstuvwxyz")), some (.ref h.length), some (.int i), some (.int way), some (.str (S l)), x7, x8, x9] h4) (fun v h' => ∃ (ws : List Str) (x4 x5 x6 x7 x8 x9 : Option D), v = [some (.ref n), some (.int many), some (.str (Str.ofString "abcdefghijklmnopqrstuvwxyz")), some (.ref h.length), x4, x5, x6, x7, x8, x9] ∧ h'[h.length]? = some (.lst (ws.map D.str)) ∧ ws.length = i + 1 ∧ Words ws ∧ ws.Nodup ∧ DrewX n (B + 30 * (many.toNat - (i + 1))) h h') T Bk Gk := by
      intro l h4 l1 l2 l3 d4 e4 T Bk Gk
      array_get_dec
      have none_ : ∀ v h, SatS (sNx v h) (fun v' h' => v' = v ∧ h' = h) T := fun v h => ⟨rfl, rfl⟩
      refine ⟨fun _ => ?_, fun _ => ⟨(fun hc => nomatch hc), fun _ => ?_⟩⟩
      · array_get_dec
        refine so_neNil e4 hws.ok ?_
        refine ⟨_, rfl, ?_⟩
        refine ⟨fun he => ?_, fun _ => ?_⟩
        · obtain ⟨ws', l', e, q1, q2, q3⟩ := hemp he
          array_get_dec
          refine so_neg ?_
          have e4' := e4
          rw [e] at e4'
          refine so_ixLast e4' ?_
          array_get_dec
          refine so_lenS (by rw [S_len]; omega) ?_
          array_get_dec
          refine spoon (B := B + 30 * (many.toNat - (i + 1)) + 3) d4.bow (by rw [S_len]; omega) (by rw [S_len]; omega) fun at_ h5 t0 t1 d5 => ?_
          rw [S_len] at t1
          have e5 := d5.at hLn e4
          have e5' := e5
          rw [e] at e5'
          array_get_dec
          refine so_neg ?_
          refine so_ixLast e5' ?_
          array_get_dec
          refine so_slS (by rw [S_len]; omega) ?_
          rw [cut_to t0]
          array_get_dec
          obtain ⟨c, ec, hc, _⟩ := atI_in (l := l) (i := 0) (by decide) (by omega)
          refine so_ixS (by rw [S_len]; omega) ec ?_
          rw [show (⟨#[c]⟩ : Str) = S [c] from rfl]
          refine so_addS (by rw [S_len, S_len]; simp; omega) ?_
          rw [S_app]
          array_get_dec
          refine so_neg ?_
          refine so_ixLast e5' ?_
          array_get_dec
          refine so_slS (by rw [S_len]; omega) ?_
          rw [cut_from (by omega)]
          refine so_addS (by rw [S_len, S_len]; simp; omega) ?_
          rw [S_app]
          have hlen : (l'.take at_.toNat ++ [c] ++ l'.drop (at_ + 1).toNat).length = l'.length := by
            simp; omega
          refine fin _ h5 _ _ (by rw [hlen]; exact q1) (by rw [hlen]; exact q2) (fun z hz => ?_) ((d4.then d5).le (by omega)) e5 T _ _
          rcases List.mem_append.mp hz with hz | hz
          · rcases List.mem_append.mp hz with hz | hz
            · exact q3 z (List.mem_of_mem_take hz)
            · rw [List.mem_singleton.mp hz]; exact l3 c hc
          · exact q3 z (List.mem_of_mem_drop hz)
        · exact ss_nx (fin l h4 _ _ l1 l2 l3 (d4.le (by omega)) e4 T _ _)
      · exact ss_nx (fin l h4 _ _ l1 l2 l3 (d4.le (by omega)) e4 T _ _)
    refine ⟨fun _ => ?_, fun _ => ⟨(fun hc => nomatch hc), fun _ => ?_⟩⟩
    · array_get_dec
      refine so_neNil el2 hws.ok ?_
      refine ⟨_, rfl, ?_⟩
      refine ⟨fun he => ?_, fun _ => ?_⟩
      · obtain ⟨ws', l', e, q1, q2, q3⟩ := hemp he
        array_get_dec
        refine so_neg ?_
        have e4' := el2
        rw [e] at e4'
        refine so_ixLast e4' ?_
        array_get_dec
        refine so_neg ?_
        refine so_ixLast e4' ?_
        array_get_dec
        refine so_lenS (by rw [S_len]; omega) ?_
        array_get_dec
        refine spoon (B := B + 30 * (many.toNat - (i + 1)) + 8) dx2.bow (by rw [S_len]; omega) (by rw [S_len]; omega) fun at_ h5 t0 t1 d5 => ?_
        rw [S_len] at t1
        array_get_dec
        refine so_slS (by rw [S_len]; omega) ?_
        rw [cut_to (by omega)]
        have ht : (l'.take (1 + at_).toNat).length = (1 + at_).toNat := by rw [List.length_take]; omega
        exact mid _ h5 (by omega) (by omega) (fun z hz => q3 z (List.mem_of_mem_take hz)) ((dx2.then d5).le (by omega)) (d5.at hLn el2) _ _ _
      · exact ss_nx (mid l0 h2 a0 b0 c0 (dx2.le (by omega)) el2 _ _ _)
    · exact ss_nx (mid l0 h2 a0 b0 c0 (dx2.le (by omega)) el2 _ _ _)
  · rintro v h' ⟨ws, x4, x5, x6, x7, x8, x9, rfl, el, hl, hws, hnd, dx⟩
    array_get_dec
    refine so_fz el ?_
    have dx3 := dx.put (o := .dead) (k := h.length) (Nat.le_refl _)
    refine ⟨?_, dx3.tr.1, q _ _ hl hws hnd (dx3.tr.2.le (B' := B) (by omega))⟩
    simp only [D.cl]
    refine clL_all fun x hx => ?_
    obtain ⟨w, _, rfl⟩ := List.mem_map.mp hx
    rfl
theorem cutD_from {l : List D} {i : Int} (h : 0 ≤ i) : cutD l (some i) none = l.drop i.toNat := by
  unfold cutD
  rw [sIx_pos h, show HT.sIx l.length l.length none = l.length from rfl]
  by_cases hk : i.toNat ≤ l.length
  · rw [Nat.min_eq_left hk, List.take_of_length_le (by simp)]
  · rw [Nat.min_eq_right (by omega), List.drop_of_length_le (by omega), List.drop_of_length_le (by omega)]; simp
theorem cutD_to {l : List D} {i : Int} (h : 0 ≤ i) : cutD l none (some i) = l.take i.toNat := by
  unfold cutD
  rw [sIx_pos h, show HT.sIx l.length 0 none = 0 from rfl, Nat.sub_zero, List.drop_zero]
  by_cases hk : i.toNat ≤ l.length
  · rw [Nat.min_eq_left hk]
  · rw [Nat.min_eq_right (by omega), List.take_length, List.take_of_length_le (by omega)]
def m_law_edge_b : SM :=
  (sSeq (sAsg (gN 4) (eC (.str (Str.ofString "abcdefghijklmnopqrstuvwxyzabcdefghijklmnopqrstuvwxyz"))))
  (sSeq (sIf (tE (eB opEq (eV 1) (eC (.int 0)))) (sSeq (sAsg (gN 8) (eB opAdd (eC (.int 1)) (eF m_law_spoon (aC (eV 0) (aC (eC (.int 3)) aN)))))
  (sSeq (sAsg (gN 7) (eLst aN))
  (sSeq (sFor (gN 9) (wE (eB opMul (eLst (aC (eC (.int 0)) (aC (eC (.int 1)) (aC (eC (.int 2)) (aC (eC (.int 3)) (aC (eC (.int 0)) (aC (eC (.int 1)) (aC (eC (.int 4)) (aC (eC (.int 0)) (aC (eC (.int 1)) (aC (eC (.int 2)) (aC (eC (.int 3)) (aC (eC (.int 4)) aN))))))))))))) (eC (.int 4)))) (sSeq (sAsg (gN 11) (eSl (eV 4) (pE (eB opAdd (eV 3) (eB opMul (eV 8) (eV 9)))) pN))
  (sAsg (gN 7) (eB opAdd (eV 7) (eLc [12] (gN 12) (wE (eSl (eV 11) pN (pE (eV 8)))) tYes (eB opMul (eV 12) (eV 2)))))))
  (sRet (eSl (eV 7) (pE (eF m_law_spoon (aC (eV 0) (aC (eC (.int 12)) aN)))) pN))))) sNx)
  (sSeq (sIf (tE (eB opEq (eV 1) (eC (.int 1)))) (sSeq (sAsg (gN 2) (eB opIx (eLst (aC (eV 2) (aC (eB opAdd (eC (.int 8)) (eF m_law_spoon (aC (eV 0) (aC (eC (.int 5)) aN)))) aN))) (eF m_law_spoon (aC (eV 0) (aC (eC (.int 2)) aN)))))
  (sSeq (sAsg (gN 10) (eF bMin (aC (eC (.int 26)) (aC (eB opAdd (eB opDiv (eC (.int 200)) (eB opAdd (eV 2) (eC (.int 2)))) (eF m_law_spoon (aC (eV 0) (aC (eC (.int 2)) aN)))) aN))))
  (sRet (eLc [9] (gN 9) (wR1 (eC (.int 40))) tYes (eB opMul (eB opIx (eV 4) (eB opAdd (eV 3) (eB opMod (eV 9) (eV 10)))) (eV 2)))))) sNx)
  (sSeq (sAsg (gN 5) (eLc [9] (gN 9) (wR1 (eC (.int 9))) tYes (eB opMul (eB opIx (eV 4) (eB opAdd (eV 3) (eV 9))) (eC (.int 12)))))
  (sSeq (sAsg (gN 6) (eLc [9] (gN 9) (wR1 (eC (.int 21))) tYes (eB opMul (eB opIx (eV 4) (eB opAdd (eV 3) (eV 9))) (eC (.int 11)))))
  (sSeq (sAsg (gN 7) (eB opAdd (eB opAdd (eSl (eV 5) pN (pE (eC (.int 5)))) (eSl (eV 6) pN (pE (eC (.int 10))))) (eSl (eV 5) pN (pE (eC (.int 1))))))
  (sSeq (sAsg (gN 7) (eB opAdd (eB opAdd (eV 7) (eSl (eV 5) (pE (eC (.int 5))) pN)) (eSl (eV 5) pN (pE (eC (.int 1))))))
  (sSeq (sAsg (gN 7) (eB opAdd (eB opAdd (eV 7) (eSl (eV 6) (pE (eC (.int 10))) pN)) (eSl (eV 5) (pE (eC (.int 5))) pN)))
  (sRet (eSl (eV 7) (pE (eF m_law_spoon (aC (eV 0) (aC (eC (.int 2)) aN)))) pN))))))))))
def m_law_edge : FM := fn0 4 13 m_law_edge_b
def m_law_row_b : SM :=
  (sSeq (sAsg (gN 2) (eF m_law_spoon (aC (eV 0) (aC (eC (.int 8)) aN))))
  (sSeq (sAsg (gN 3) (eB opMul (eF m_law_spoon (aC (eV 0) (aC (eC (.int 2)) aN))) (eV 1)))
  (sSeq (sAsg (gN 4) (eB opIx (eLst (aC (eC (.int 40)) (aC (eF m_law_spoon (aC (eV 0) (aC (eC (.int 41)) aN))) (aC (eF m_law_spoon (aC (eV 0) (aC (eC (.int 13)) aN))) aN)))) (eF m_law_spoon (aC (eV 0) (aC (eC (.int 3)) aN)))))
  (sSeq (sAsg (gN 5) (eB opIx (eLst (aC (eC (.int 12)) (aC (eC (.int 1)) (aC (eC (.int 2)) (aC (eB opAdd (eC (.int 1)) (eF m_law_spoon (aC (eV 0) (aC (eC (.int 12)) aN)))) aN))))) (eF m_law_spoon (aC (eV 0) (aC (eC (.int 4)) aN)))))
  (sSeq (sIf (tE (eB opLt (eV 2) (eC (.int 3)))) (sRet (eSl (eF m_law_edge (aC (eV 0) (aC (eV 2) (aC (eV 5) (aC (eF m_law_spoon (aC (eV 0) (aC (eC (.int 26)) aN))) aN))))) pN (pE (eV 4)))) sNx)
  (sSeq (sAsg (gN 6) (eF m_law_unlike (aC (eV 0) (aC (eB opAdd (eC (.int 1)) (eF m_law_spoon (aC (eV 0) (aC (eB opIx (eLst (aC (eC (.int 8)) (aC (eC (.int 40)) aN))) (eV 3)) aN)))) aN))))
  (sSeq (sIf (tE (eB opEq (eV 2) (eC (.int 3)))) (sRet (eLc [8] (gN 8) (wR1 (eV 4)) tYes (eB opIx (eV 6) (eB opMod (eV 8) (eF bLen (aC (eV 6) aN)))))) sNx)
  (sRet (eLc [7] (gN 7) (wR1 (eV 4)) tYes (eB opIx (eV 6) (eF m_law_spoon (aC (eV 0) (aC (eF bLen (aC (eV 6) aN)) aN)))))))))))))
def m_law_row : FM := fn0 2 9 m_law_row_b
def WdD (d : D) : Prop := ∃ w, d = .str w ∧ IsW w
theorem wds {ys : List D} (h : ∀ y ∈ ys, WdD y) : ∃ ws, ys = ws.map D.str ∧ Words ws := by
  induction ys with
  | nil => exact ⟨[], rfl, fun _ z => nomatch z⟩
  | cons y r ih =>
    obtain ⟨ws, rfl, hw⟩ := ih fun z hz => h z (by simp [hz])
    obtain ⟨w, rfl, hy⟩ := h y (by simp)
    refine ⟨w :: ws, rfl, fun z hz => ?_⟩
    rcases List.mem_cons.mp hz with e | e
    · rw [e]; exact hy
    · exact hw z e
/-- a comprehension whose elements change nothing -/
theorem sa_LcP {own : List Nat} {k : Nat} {w : Ev → Hm → R Wk} {e : EM} {v : Ev} {h : Hm} {Q : D → Hm → Prop} {l : List D} (P : D → Prop) (hl : l.length ≤ 16777215) (hw : Sat (w v h) fun k h1 => k = ⟨l, fun _ => true⟩ ∧ h1 = h)
    (he : ∀ x ∈ l, ∀ R : D → Hm → Prop, (∀ y, P y → R y h) → Sat (e ((wipeE v own).set k (some x)) h) R) (q : ∀ ys, ys.length = l.length → (∀ y ∈ ys, P y) → Q (.lst ys) h) : Sat (eLc own (gN k) w tYes e v h) Q := by
  refine sa_Lc (hw.imp ?_)
  rintro _ _ ⟨rfl, rfl⟩
  refine ⟨hl, fun i acc h' => acc.length = i ∧ (∀ y ∈ acc, P y) ∧ h' = _, ⟨rfl, (fun _ z => nomatch z), rfl⟩, ?_, ?_⟩
  · rintro i x acc h' hx ⟨hi, hp, rfl⟩
    refine ⟨rfl, _, rfl, sa_tYes ⟨fun _ => ?_, fun z => nomatch z⟩⟩
    refine he x (List.mem_of_getElem? hx) _ fun y hy => ⟨by simp [hi], fun z hz => ?_, rfl⟩
    rcases List.mem_append.mp hz with hz | hz
    · exact hp z hz
    · rw [List.mem_singleton.mp hz]; exact hy
  · rintro acc h' ⟨hi, hp, rfl⟩
    exact ⟨rfl, q acc hi hp⟩
/-- a comprehension whose elements draw -/
theorem sa_LcDraw {own : List Nat} {k : Nat} {w : Ev → Hm → R Wk} {e : EM} {v : Ev} {h : Hm} {Q : D → Hm → Prop} {l : List D} {nb B : Nat} (c : Nat) (P : D → Prop) (hl : l.length ≤ 16777215) (hw : Sat (w v h) fun k h1 => k = ⟨l, fun _ => true⟩ ∧ h1 = h) (hb : Bow nb (B + c * l.length) h)
    (he : ∀ x ∈ l, ∀ (T : Nat) (h' : Hm) (R : D → Hm → Prop), Bow nb (T + c) h' → (∀ y h2, P y → Drew nb T h' h2 → R y h2) → Sat (e ((wipeE v own).set k (some x)) h') R) (q : ∀ ys h', ys.length = l.length → (∀ y ∈ ys, P y) → Drew nb B h h' → Q (.lst ys) h') : Sat (eLc own (gN k) w tYes e v h) Q := by
  refine sa_Lc (hw.imp ?_)
  rintro _ _ ⟨rfl, rfl⟩
  refine ⟨hl, fun i acc h' => acc.length = i ∧ (∀ y ∈ acc, P y) ∧ Drew nb (B + c * (l.length - i)) _ h', ⟨rfl, (fun _ z => nomatch z), Drew.refl hb⟩, ?_, ?_⟩
  · rintro i x acc h' hx ⟨hi, hp, hd⟩
    have hil : i < l.length := (List.getElem?_eq_some_iff.mp hx).1
    refine ⟨rfl, _, rfl, sa_tYes ⟨fun _ => ?_, fun z => nomatch z⟩⟩
    have eb : B + c * (l.length - i) = B + c * (l.length - (i + 1)) + c := by
      rw [show l.length - i = l.length - (i + 1) + 1 by omega, Nat.mul_succ]; omega
    refine he x (List.mem_of_getElem? hx) (B + c * (l.length - (i + 1))) h' _ (by rw [← eb]; exact hd.bow) fun y h2 hy hd2 => ⟨by simp [hi], fun z hz => ?_, hd.trans hd2⟩
    rcases List.mem_append.mp hz with hz | hz
    · exact hp z hz
    · rw [List.mem_singleton.mp hz]; exact hy
  · rintro acc h' ⟨hi, hp, hd⟩
    exact ⟨rfl, q acc h' hi hp (hd.le (by omega))⟩
def L52 : List Nat := (List.range 26).map (97 + ·) ++ (List.range 26).map (97 + ·)
theorem letters52 : Str.ofString "abcdefghijklmnopqrstuvwxyzabcdefghijklmnopqrstuvwxyz" = S L52 := by decide +kernel
theorem L52_small : ∀ c ∈ L52, small c := by
  unfold small
  decide
theorem L52_len : L52.length = 52 := by decide
theorem repS (c : Nat) (n : Int) : repStr (S [c]) n = S (List.replicate n.toNat c) := by
  unfold repStr S
  congr 2
  induction n.toNat with
  | zero => rfl
  | succ k ih => rw [List.replicate_succ, List.flatten_cons, ih]; rfl
theorem rep_w {c : Nat} {n : Int} (hc : small c) (h1 : 1 ≤ n) (h2 : n ≤ 12) : IsW (S (List.replicate n.toNat c)) :=
  .mk' (by simp; omega) (by simp; omega) fun z hz => by rw [List.eq_of_mem_replicate hz]; exact hc
theorem so_rep {c : Nat} {n : Int} {h : Hm} {Q : D → Hm → Prop} (hc : small c) (h1 : 1 ≤ n) (h2 : n ≤ 12) (q : ∀ d, WdD d → Q d h) : Sat (opMul (.str (S [c])) (.int n) h) Q := by
  refine so_mulS ⟨by omega, by omega, by rw [S_len]; simp; omega⟩ ?_
  rw [repS]
  exact q _ ⟨_, rfl, rep_w hc h1 h2⟩
theorem so_letter {i : Int} {h : Hm} {Q : D → Hm → Prop} (h0 : 0 ≤ i) (h1 : i < 52) (q : ∀ c, small c → Q (.str (S [c])) h) : Sat (opIx (.str (S L52)) (.int i) h) Q := by
  obtain ⟨c, ec, hc, _⟩ := atI_in (l := L52) h0 (by rw [L52_len]; omega)
  exact so_ixS (by rw [S_len, L52_len]; decide) ec (q c (L52_small c hc))
theorem w_to {ws : List Str} {i : Int} (h0 : 0 ≤ i) : cutD (ws.map D.str) none (some i) = (ws.take i.toNat).map D.str := by rw [cutD_to h0, ← List.map_take]
theorem so_wTo {ws : List Str} {i : Int} {h : Hm} {Q : D → Hm → Prop} (h0 : 0 ≤ i) (q : Q (.lst ((ws.take i.toNat).map D.str)) h) : Sat (opSl (.lst (ws.map D.str)) none (some i) h) Q := so_slL (by rw [cutD_to h0, ← List.map_take]; exact q)
theorem so_wFrom {ws : List Str} {i : Int} {h : Hm} {Q : D → Hm → Prop} (h0 : 0 ≤ i) (q : Q (.lst ((ws.drop i.toNat).map D.str)) h) : Sat (opSl (.lst (ws.map D.str)) (some i) none h) Q := so_slL (by rw [cutD_from h0, ← List.map_drop]; exact q)
theorem so_wAdd {a b : List Str} {h : Hm} {Q : D → Hm → Prop} (hl : a.length + b.length ≤ 16777216) (q : Q (.lst ((a ++ b).map D.str)) h) : Sat (opAdd (.lst (a.map D.str)) (.lst (b.map D.str)) h) Q := so_addL (by simpa using hl) (by rw [← List.map_append]; exact q)
theorem Words.app {a b : List Str} (ha : Words a) (hb : Words b) : Words (a ++ b) := fun z hz => by
  rcases List.mem_append.mp hz with hz | hz
  · exact ha z hz
  · exact hb z hz
theorem Words.take {a : List Str} {k : Nat} (ha : Words a) : Words (a.take k) := fun z hz => ha z (List.mem_of_mem_take hz)
theorem Words.drop {a : List Str} {k : Nat} (ha : Words a) : Words (a.drop k) := fun z hz => ha z (List.mem_of_mem_drop hz)
theorem edge {n B : Nat} {way size first : Int} {h : Hm} {Q : D → Hm → Prop} (w : Bow n (B + 20) h) (s1 : 1 ≤ size) (s2 : size ≤ 12) (f0 : 0 ≤ first) (f1 : first < 26) (q : ∀ ws h', Words ws → ws.length ≤ 200 → Drew n B h h' → Q (.lst (ws.map D.str)) h') : Sat (m_law_edge [.ref n, .int way, .int size, .int first] h) Q := by
  refine sa_fn rfl ?_
  unfold m_law_edge_b
  simp only [List.map_cons, List.map_nil, List.replicate, Nat.reduceSub, List.cons_append, List.nil_append, letters52]
  array_get_dec
  refine ⟨fun _ => ?_, fun _ => ?_⟩
  · array_get_dec
    refine spoon w (by decide) (by decide) fun g0 h1 g1 g2 d1 => ?_
    array_get_dec
    refine ss_forL (l := (List.replicate (4 : Int).toNat [D.int 0, .int 1, .int 2, .int 3, .int 0, .int 1, .int 4, .int 0, .int 1, .int 2, .int 3, .int 4]).flatten) (fun i v h' => h' = h1 ∧ ∃ (ws : List Str) (x9 x10 x11 x12 : Option D), Words ws ∧ ws.length ≤ 3 * i ∧ v = [some (.ref n), some (.int way), some (.int size), some (.int first), some (.str (S L52)), none, none, some (.lst (ws.map D.str)), some (.int (1 + g0)), x9, x10, x11, x12]) (by
      array_get_dec
      refine so_mulL (by decide) ?_
      exact so_wkL ⟨rfl, rfl⟩) ⟨rfl, [], _, _, _, _, (fun _ z => nomatch z), Nat.le_refl _, rfl⟩ ?_ ?_
    · rintro i x v h' hx ⟨rfl, ws, x9, x10, x11, x12, hws, hl, rfl⟩
      have hx2 : IntIn 0 4 x := by
        have hm := List.mem_of_getElem? hx
        have hall : ∀ d ∈ (List.replicate (4 : Int).toNat [D.int 0, .int 1, .int 2, .int 3, .int 0, .int 1, .int 4, .int 0, .int 1, .int 2, .int 3, .int 4]).flatten, IntIn 0 4 d := by
          intro d hd
          obtain ⟨l, hl, hdl⟩ := List.mem_flatten.mp hd
          rw [List.eq_of_mem_replicate hl] at hdl
          revert d
          suffices ∀ d ∈ [D.int 0, .int 1, .int 2, .int 3, .int 0, .int 1, .int 4, .int 0, .int 1, .int 2, .int 3, .int 4], IntIn 0 4 d from fun d _ hd => this d hd
          repeat refine all_cons (.mk (by decide) (by decide)) ?_
          exact all_nil
        exact hall x hm
      have hi : i < 48 := by
        have := (List.getElem?_eq_some_iff.mp hx).1
        simpa using this
      obtain ⟨at_, rfl, t0, t1⟩ := hx2
      refine ⟨_, rfl, ?_⟩
      simp only [List.set_cons_zero, List.set_cons_succ]
      array_get_dec
      refine so_mul (mulOkL ⟨by omega, by omega⟩) ?_
      array_get_dec
      refine so_slS (by rw [S_len, L52_len]; decide) ?_
      have hmul : 0 ≤ (1 + g0) * at_ := Int.mul_nonneg (by omega) t0
      rw [cut_from (by omega)]
      array_get_dec
      refine sa_LcP (l := ((L52.drop (first + (1 + g0) * at_).toNat).take (1 + g0).toNat).map fun c => .str (S [c])) WdD (by simp; omega) (by
        array_get_dec
        refine so_slS (by rw [S_len, List.length_drop, L52_len]; omega) ?_
        rw [cut_to (by omega)]
        exact so_wkS ⟨rfl, rfl⟩) ?_ ?_
      · intro x hx R r
        obtain ⟨c, hc, rfl⟩ := List.mem_map.mp hx
        simp only [wipeE, List.foldr, List.set_cons_zero, List.set_cons_succ]
        array_get_dec
        exact so_rep (L52_small c (List.mem_of_mem_drop (List.mem_of_mem_take hc))) s1 s2 r
      · intro ys hy hp
        obtain ⟨ws2, rfl, hw2⟩ := wds hp
        have hl2 : ws2.length ≤ 3 := by
          have : ws2.length = min (1 + g0).toNat (L52.length - (first + (1 + g0) * at_).toNat) := by simpa using hy
          omega
        refine so_addL (by simp; omega) ?_
        rw [← List.map_append]
        refine ⟨rfl, ws ++ ws2, _, _, _, _, fun z hz => ?_, by simp; omega, rfl⟩
        rcases List.mem_append.mp hz with hz | hz
        · exact hws z hz
        · exact hw2 z hz
    · rintro v h' ⟨rfl, ws, x9, x10, x11, x12, hws, hl, rfl⟩
      have hl : ws.length ≤ 144 := by simpa using hl
      array_get_dec
      refine spoon d1.bow (by decide) (by decide) fun k h2 k1 k2 d2 => ?_
      refine ⟨_, rfl, ?_⟩
      array_get_dec
      refine so_slL ?_
      rw [cutD_from k1, ← List.map_drop]
      exact q _ _ (fun z hz => hws z (List.mem_of_mem_drop hz)) (by simp; omega) ((d1.trans d2).le (by omega))
  · array_get_dec
    refine ⟨fun _ => ?_, fun _ => ?_⟩
    · array_get_dec
      refine spoon w (by decide) (by decide) fun g0 h1 g1 g2 d1 => ?_
      array_get_dec
      refine spoon d1.bow (by decide) (by decide) fun k0 h2 k1 k2 d2 => ?_
      array_get_dec
      refine so_ixP (IntIn 1 12) (by
        repeat refine all_cons (.mk (by omega) (by omega)) ?_
        exact all_nil) k1 (by simpa using k2) ?_
      rintro _ ⟨sz, rfl, z1, z2⟩
      array_get_dec
      refine so_div ⟨by omega, by omega⟩ ?_
      array_get_dec
      refine spoon d2.bow (by decide) (by decide) fun j0 h3 j1 j2 d3 => ?_
      array_get_dec
      have hq : 1 ≤ 200 / (sz + 2) := Int.le_ediv_of_mul_le (by omega) (by omega)
      generalize 200 / (sz + 2) = qq at hq
      refine sa_LcP (l := (List.range (40 : Int).toNat).map fun (k : Nat) => .int (k : Int)) WdD (by simp) (by
        array_get_dec
        exact ⟨by omega, by omega, rfl, rfl⟩) ?_ ?_
      · intro x hx R r
        obtain ⟨k, hk, rfl⟩ := List.mem_map.mp hx
        simp only [wipeE, List.foldr, List.set_cons_zero, List.set_cons_succ]
        array_get_dec
        have m0 : 0 < min 26 (qq + j0) := by omega
        refine so_mod m0 ?_
        array_get_dec
        have e1 := Int.emod_nonneg (k : Int) (show min 26 (qq + j0) ≠ 0 by omega)
        have e2 := Int.emod_lt_of_pos (k : Int) m0
        refine so_letter (by omega) (by omega) fun c hc => ?_
        array_get_dec
        exact so_rep hc z1 z2 r
      · intro ys hy hp
        obtain ⟨ws2, rfl, hw2⟩ := wds hp
        refine q ws2 h3 hw2 ?_ (((d1.trans d2).trans d3).le (by omega))
        have : ws2.length = 40 := by simpa using hy
        omega
    · array_get_dec
      refine sa_LcP (l := (List.range (9 : Int).toNat).map fun (k : Nat) => .int (k : Int)) WdD (by simp) (by
        array_get_dec
        exact ⟨by omega, by omega, rfl, rfl⟩) ?_ ?_
      · intro x hx R r
        obtain ⟨k, hk, rfl⟩ := List.mem_map.mp hx
        have hk : k < 9 := by simpa using hk
        simp only [wipeE, List.foldr, List.set_cons_zero, List.set_cons_succ]
        array_get_dec
        refine so_letter (by omega) (by omega) fun c hc => ?_
        array_get_dec
        exact so_rep hc (by decide) (by decide) r
      intro ys hy hp
      obtain ⟨twelve, rfl, w12⟩ := wds hp
      have l12 : twelve.length = 9 := by simpa using hy
      array_get_dec
      refine sa_LcP (l := (List.range (21 : Int).toNat).map fun (k : Nat) => .int (k : Int)) WdD (by simp) (by
        array_get_dec
        exact ⟨by omega, by omega, rfl, rfl⟩) ?_ ?_
      · intro x hx R r
        obtain ⟨k, hk, rfl⟩ := List.mem_map.mp hx
        have hk : k < 21 := by simpa using hk
        simp only [wipeE, List.foldr, List.set_cons_zero, List.set_cons_succ]
        array_get_dec
        refine so_letter (by omega) (by omega) fun c hc => ?_
        array_get_dec
        exact so_rep hc (by decide) (by decide) r
      intro ys hy hp
      obtain ⟨eleven, rfl, w11⟩ := wds hp
      have l11 : eleven.length = 21 := by simpa using hy
      array_get_dec
      refine so_wTo (by decide) ?_
      array_get_dec
      refine so_wTo (by decide) ?_
      refine so_wAdd (by simp; omega) ?_
      array_get_dec
      refine so_wTo (by decide) ?_
      refine so_wAdd (by simp; omega) ?_
      array_get_dec
      refine so_wFrom (by decide) ?_
      refine so_wAdd (by simp; omega) ?_
      array_get_dec
      refine so_wTo (by decide) ?_
      refine so_wAdd (by simp; omega) ?_
      array_get_dec
      refine so_wFrom (by decide) ?_
      refine so_wAdd (by simp; omega) ?_
      array_get_dec
      refine so_wFrom (by decide) ?_
      refine so_wAdd (by simp; omega) ?_
      array_get_dec
      refine spoon w (by decide) (by decide) fun g0 h1 g1 g2 d1 => ?_
      refine ⟨_, rfl, ?_⟩
      array_get_dec
      refine so_wFrom g1 ?_
      exact q _ _ (((((((w12.take).app w11.take).app w12.take).app w12.drop).app w12.take).app w11.drop).app w12.drop).drop (by simp; omega) (d1.le (by omega))
theorem row {n B : Nat} {great : Int} {h : Hm} {Q : D → Hm → Prop} (hg : 0 ≤ great ∧ great ≤ 1) (w : Bow n (B + 2000) h) (q : ∀ ws h', Words ws → ws.length ≤ 200 → Drew n B h h' → Q (.lst (ws.map D.str)) h') : Sat (m_law_row [.ref n, .int great] h) Q := by
  refine sa_fn rfl ?_
  unfold m_law_row_b
  simp only [List.map_cons, List.map_nil, List.replicate, Nat.reduceSub, List.cons_append, List.nil_append]
  array_get_dec
  refine spoon w (by decide) (by decide) fun way h1 a1 a2 d1 => ?_
  array_get_dec
  refine spoon d1.bow (by decide) (by decide) fun k0 h2 b1 b2 d2 => ?_
  array_get_dec
  refine so_mul (mulOkL ⟨by omega, by omega⟩) ?_
  have hk : 0 ≤ k0 * great ∧ k0 * great ≤ 1 := by
    have h3 : k0 = 0 ∨ k0 = 1 := by omega
    rcases h3 with e | e <;> subst e <;> omega
  generalize k0 * great = kind at hk
  array_get_dec
  refine spoon d2.bow (by decide) (by decide) fun p1 h3 c1 c2 d3 => ?_
  array_get_dec
  refine spoon d3.bow (by decide) (by decide) fun p2 h4 e1 e2 d4 => ?_
  array_get_dec
  refine spoon d4.bow (by decide) (by decide) fun p3 h5 f1 f2 d5 => ?_
  array_get_dec
  refine so_ixP (IntIn 0 40) (by
    repeat refine all_cons (.mk (by omega) (by omega)) ?_
    exact all_nil) f1 (by simpa using f2) ?_
  rintro _ ⟨many, rfl, m1, m2⟩
  array_get_dec
  refine spoon d5.bow (by decide) (by decide) fun p4 h6 g1 g2 d6 => ?_
  array_get_dec
  refine spoon d6.bow (by decide) (by decide) fun p5 h7 i1 i2 d7 => ?_
  array_get_dec
  refine so_ixP (IntIn 1 12) (by
    repeat refine all_cons (.mk (by omega) (by omega)) ?_
    exact all_nil) i1 (by simpa using i2) ?_
  rintro _ ⟨size, rfl, z1, z2⟩
  array_get_dec
  have dd := (((((d1.trans d2).trans d3).trans d4).trans d5).trans d6).trans d7
  refine ⟨fun _ => ?_, fun _ => ?_⟩
  · array_get_dec
    refine spoon d7.bow (by decide) (by decide) fun p6 h8 j1 j2 d8 => ?_
    array_get_dec
    refine edge (B := B) (d8.bow.le (by omega)) z1 z2 j1 j2 fun ws h9 hw hl d9 => ?_
    array_get_dec
    refine so_slL ?_
    rw [w_to m1]
    exact q _ _ hw.take (by simp; omega) ((dd.trans d8).trans d9)
  · array_get_dec
    refine so_ixP (IntIn 8 40) (by
      repeat refine all_cons (.mk (by omega) (by omega)) ?_
      exact all_nil) hk.1 (by simp; omega) ?_
    rintro _ ⟨top, rfl, t1, t2⟩
    array_get_dec
    refine spoon d7.bow (by omega) (by omega) fun p6 h8 j1 j2 d8 => ?_
    array_get_dec
    refine unlike (B := B + 50) (by omega) (by omega) (d8.bow.le (by omega)) fun ws h9 hl hw hnd d9 => ?_
    array_get_dec
    have hwd : ∀ d ∈ ws.map D.str, WdD d := fun d hd => by
      obtain ⟨z, hz, rfl⟩ := List.mem_map.mp hd
      exact ⟨z, rfl, hw z hz⟩
    have hlen : (ws.map D.str).length = (1 + p6).toNat := by rw [List.length_map]; exact hl
    generalize ws.map D.str = ds at hwd hlen
    refine ⟨fun _ => ?_, fun _ => ?_⟩
    · array_get_dec
      refine sa_LcP (l := (List.range many.toNat).map fun (k : Nat) => .int (k : Int)) WdD (by simp; omega) (by
        array_get_dec
        exact ⟨by omega, by omega, rfl, rfl⟩) ?_ ?_
      · intro x hx R r
        obtain ⟨k, hk, rfl⟩ := List.mem_map.mp hx
        simp only [wipeE, List.foldr, List.set_cons_zero, List.set_cons_succ]
        array_get_dec
        have m0 : (0 : Int) < (ds.length : Int) := by omega
        refine so_mod m0 ?_
        exact so_ixP WdD hwd (Int.emod_nonneg _ (by omega)) (Int.emod_lt_of_pos _ m0) r
      · intro ys hy hp
        obtain ⟨ws2, rfl, hw2⟩ := wds hp
        refine q ws2 h9 hw2 ?_ (((dd.trans d8).trans d9).le (by omega))
        have : ws2.length = many.toNat := by simpa using hy
        omega
    · array_get_dec
      refine sa_LcDraw (l := (List.range many.toNat).map fun (k : Nat) => .int (k : Int)) (nb := n) (B := B) 1 WdD (by simp; omega) (by
        array_get_dec
        exact ⟨by omega, by omega, rfl, rfl⟩) (d9.bow.le (by simp; omega)) ?_ ?_
      · intro x hx T h' R hb r
        obtain ⟨k, hk, rfl⟩ := List.mem_map.mp hx
        simp only [wipeE, List.foldr, List.set_cons_zero, List.set_cons_succ]
        array_get_dec
        refine spoon hb (by omega) (by omega) fun p7 h10 l1 l2 d10 => ?_
        exact so_ixP WdD hwd l1 l2 fun y hy => r y _ hy d10
      · intro ys h10 hy hp d10
        obtain ⟨ws2, rfl, hw2⟩ := wds hp
        refine q ws2 h10 hw2 ?_ ((dd.trans d8).trans d9 |>.trans d10)
        have : ws2.length = many.toNat := by simpa using hy
        omega
/-- d is a list with these items -/
def IsL (h : Hm) (d : D) (l : List D) : Prop := d = .lst l ∨ ∃ n, d = .ref n ∧ h[n]? = some (.lst l)
section
variable {h : Hm} {d : D} {l : List D} {Q : D → Hm → Prop}
theorem IsL.non (e : IsL h d l) : D.eqb d .non = false := by
  rcases e with rfl | ⟨n, rfl, e⟩ <;> rfl
theorem IsL.len (e : IsL h d l) (q : Q (.int l.length) h) : Sat (bLen [d] h) Q := by
  rcases e with rfl | ⟨n, rfl, e⟩
  · exact so_len q
  · exact so_lenR e q
end
def m_law_kinds_b : SM :=
  (sSeq (sAsg (gN 1) (eLst (aC (eU (isX ["NoRoom"]) (eV 0)) (aC (eU (isX ["NoRow"]) (eV 0)) (aC (eU (isX ["NoWord"]) (eV 0)) aN)))))
  (sSeq (sAsg (gN 1) (eB opAdd (eV 1) (eLst (aC (eU (isX ["Wait"]) (eV 0)) aN))))
  (sSeq (sAsg (gN 1) (eB opAdd (eV 1) (eLst (aC (eU (isX ["NoText"]) (eV 0)) (aC (eU (isX ["Held"]) (eV 0)) (aC (eU (isX ["NoTalk"]) (eV 0)) aN))))))
  (sSeq (sAsg (gN 1) (eB opAdd (eV 1) (eLst (aC (eU (isX ["NoDeed"]) (eV 0)) aN))))
  (sRet (eAnd (eB opEq (eM "list" mCount (eV 1) (aC (eC (.bl true)) aN)) (eC (.int 1))) (eAnd (eU (isX ["BookError"]) (eV 0)) (eU (isX ["ValueError"]) (eV 0)))))))))
def m_law_kinds : FM := fn0 1 2 m_law_kinds_b
def m_law_b : SM :=
  (sSeq (sFor (gN 1) (wR1 (eF bMax (aC (eC (.int 1)) (aC (eF bMin (aC (eC (.int 4)) (aC (eF bLen (aC (eV 0) aN)) aN))) aN)))) (sSeq (sAsg (gN 2) (eF m_law_bowl (aC (eV 0) (aC (eV 1) aN))))
  (sSeq (sAsg (gN 3) (eF m_law_spoon (aC (eV 2) (aC (eC (.int 20001)) aN))))
  (sSeq (sAsg (gN 4) (eC (.str (Str.ofString "abcdefghijklmnopqrstuvwxyz"))))
  (sSeq (sAsg (gN 5) (eM "str" mJoin (eC (.str (Str.ofString ""))) (aC (eLc [9] (gN 9) (wR1 (eF m_law_spoon (aC (eV 2) (aC (eC (.int 9)) aN)))) tYes (eB opIx (eV 4) (eF m_law_spoon (aC (eV 2) (aC (eC (.int 26)) aN))))) aN)))
  (sSeq (sAsg (gN 6) (eLst (aC (eMx "NoWord" "number" (eV 3)) (aC (eMx "Wait" "need" (eV 3)) (aC (eMx "NoText" "at" (eV 3)) (aC (eMx "Held" "number" (eV 3)) (aC (eMx "NoTalk" "talk" (eV 3)) (aC (eMx "NoDeed" "many" (eV 3)) aN))))))))
  (sSeq (sAsg (gN 6) (eB opAdd (eV 6) (eLst (aC (eMx "NoWord" "number" (eV 3)) (aC (eMx "Wait" "need" (eV 3)) (aC (eMx "NoText" "at" (eV 3)) (aC (eMx "Held" "number" (eV 3)) aN)))))))
  (sSeq (sAsg (gN 6) (eB opAdd (eV 6) (eLst (aC (eMx "NoTalk" "talk" (eV 3)) (aC (eMx "NoDeed" "many" (eV 3)) aN)))))
  (sSeq (sIf (tE (eB opIn (eC (.bl false)) (eLc [10] (gN 10) (wE (eB opAdd (eV 6) (eLst (aC (eMx0 "NoRoom" (eV 5)) (aC (eMx0 "NoRow" (eV 5)) aN))))) tYes (eF m_law_kinds (aC (eV 10) aN))))) (sRet (eC (.bl false))) sNx)
  (sSeq (sAsg (gN 7) (eLst aN))
  (sSeq (sFor (gN 8) (wE (eTup (aC (eC (.int 0)) (aC (eC (.int 6)) aN)))) (sSeq (sAsg (gN 7) (eB opAdd (eV 7) (eLst (aC (eU (xFld "number") (eB opIx (eV 6) (eV 8))) (aC (eU (xFld "need") (eB opIx (eV 6) (eB opAdd (eV 8) (eC (.int 1))))) (aC (eU (xFld "at") (eB opIx (eV 6) (eB opAdd (eV 8) (eC (.int 2))))) aN))))))
  (sAsg (gN 7) (eB opAdd (eV 7) (eLst (aC (eU (xFld "number") (eB opIx (eV 6) (eB opAdd (eV 8) (eC (.int 3))))) (aC (eU (xFld "talk") (eB opIx (eV 6) (eB opAdd (eV 8) (eC (.int 4))))) (aC (eU (xFld "many") (eB opIx (eV 6) (eB opAdd (eV 8) (eC (.int 5))))) aN))))))))
  (sIf (tE (eB opIn (eC (.bl false)) (eLc [10] (gN 10) (wE (eV 7)) tYes (eAnd (eU (isi "int") (eV 10)) (eAnd (eNot (eU (isi "bool") (eV 10))) (eB opEq (eV 10) (eV 3))))))) (sRet (eC (.bl false))) sNx))))))))))))
  (sRet (eC (.bl true))))
def m_law : FM := fn0 1 11 m_law_b
theorem ss_is {a : SM} {v v1 : Ev} {h h1 : Hm} {N : Ev → Hm → Prop} {T : D → Hm → Prop} {B G : Ev → Hm → Prop} {Y : D → Ev → Hm → Prop} (e : a v h = .nx v1 h1) (q : N v1 h1) : SatSX Y (a v h) N T B G := by rw [e]; exact ⟨q⟩
theorem sa_LcDrawW {X : D → Hm → Prop} {Q : D → Hm → Prop} {h : Hm} {own : List Nat} {k : Nat} {w : Ev → Hm → R Wk} {e : EM} {v : Ev} {nb B : Nat} (c N : Nat) (P : D → Prop) (hN : N ≤ 16777215) (hw : SatX X (w v h) fun k h1 => ∃ l, k = ⟨l, fun _ => true⟩ ∧ l.length ≤ N ∧ Drew nb (B + c * N) h h1)
    (he : ∀ (x : D) (T : Nat) (h' : Hm) (R : D → Hm → Prop), Bow nb (T + c) h' → (∀ y h2, P y → Drew nb T h' h2 → R y h2) → Sat (e ((wipeE v own).set k (some x)) h') R) (q : ∀ ys h', ys.length ≤ N → (∀ y ∈ ys, P y) → Drew nb B h h' → Q (.lst ys) h') : SatX X (eLc own (gN k) w tYes e v h) Q := by
  refine sa_Lc (hw.imp ?_)
  rintro _ h1 ⟨l, rfl, hl, d⟩
  refine ⟨Nat.le_trans hl hN, fun i acc h' => acc.length = i ∧ (∀ y ∈ acc, P y) ∧ Drew nb (B + c * (N - i)) h h', ⟨rfl, (fun _ z => nomatch z), d⟩, ?_, ?_⟩
  · rintro i x acc h' hx ⟨hi, hp, hd⟩
    have hil : i < l.length := (List.getElem?_eq_some_iff.mp hx).1
    refine ⟨rfl, _, rfl, sa_tYes ⟨fun _ => ?_, fun z => nomatch z⟩⟩
    have eb : B + c * (N - i) = B + c * (N - (i + 1)) + c := by
      rw [show N - i = N - (i + 1) + 1 by omega, Nat.mul_succ]; omega
    refine SatX.w ?_
    refine he x (B + c * (N - (i + 1))) h' _ (by rw [← eb]; exact hd.bow) fun y h2 hy hd2 => ⟨by simp [hi], fun z hz => ?_, hd.trans hd2⟩
    rcases List.mem_append.mp hz with hz | hz
    · exact hp z hz
    · rw [List.mem_singleton.mp hz]; exact hy
  · rintro acc h' ⟨hi, hp, hd⟩
    exact ⟨rfl, q acc h' (by rw [hi]; exact hl) hp (hd.le (by omega))⟩
theorem chars_of {ys : List D} (h : ∀ y ∈ ys, ∃ c : Nat, small c ∧ y = .str (S [c])) : ∃ l : List Nat, ys = l.map fun c => .str (S [c]) := by
  induction ys with
  | nil => exact ⟨[], rfl⟩
  | cons a r ih =>
    obtain ⟨c, _, rfl⟩ := h a List.mem_cons_self
    obtain ⟨l, rfl⟩ := ih fun y hy => h y (List.mem_cons_of_mem _ hy)
    exact ⟨c :: l, rfl⟩
/-- the refusals made -/
def madeL (n : Int) : List D := [.exn "NoWord" [("number", .int n)], .exn "Wait" [("need", .int n)], .exn "NoText" [("at", .int n)], .exn "Held" [("number", .int n)], .exn "NoTalk" [("talk", .int n)], .exn "NoDeed" [("many", .int n)],
  .exn "NoWord" [("number", .int n)], .exn "Wait" [("need", .int n)], .exn "NoText" [("at", .int n)], .exn "Held" [("number", .int n)], .exn "NoTalk" [("talk", .int n)], .exn "NoDeed" [("many", .int n)]]
theorem made_w {a b c e f x6 x7 x8 x9 x10 : Option D} {n : Int} {h : Hm} :
    (sSeq (sAsg (gN 6) (eLst (aC (eMx "NoWord" "number" (eV 3)) (aC (eMx "Wait" "need" (eV 3)) (aC (eMx "NoText" "at" (eV 3)) (aC (eMx "Held" "number" (eV 3)) (aC (eMx "NoTalk" "talk" (eV 3)) (aC (eMx "NoDeed" "many" (eV 3)) aN)))))))) (sSeq (sAsg (gN 6) (eB opAdd (eV 6) (eLst (aC (eMx "NoWord" "number" (eV 3)) (aC (eMx "Wait" "need" (eV 3)) (aC (eMx "NoText" "at" (eV 3)) (aC (eMx "Held" "number" (eV 3)) aN))))))) (sAsg (gN 6) (eB opAdd (eV 6) (eLst (aC (eMx "NoTalk" "talk" (eV 3)) (aC (eMx "NoDeed" "many" (eV 3)) aN))))))) [a, b, c, some (.int n), e, f, x6, x7, x8, x9, x10] h = .nx [a, b, c, some (.int n), e, f, some (.lst (madeL n)), x7, x8, x9, x10] h := by
  kernel_rfl
theorem made_w3 {r : SM} {v : Ev} {h : Hm} {a b c : SM} : sSeq a (sSeq b (sSeq c r)) v h = sSeq (sSeq a (sSeq b c)) r v h := by
  unfold sSeq
  cases a v h with
  | nx v1 h1 =>
    dsimp only
    cases b v1 h1 <;> rfl
  | _ => rfl
theorem kinds_w {a b c e x7 x8 x9 x10 : Option D} {z : Str} {n : Int} {h : Hm} :
    ((sIf (tE (eB opIn (eC (.bl false)) (eLc [10] (gN 10) (wE (eB opAdd (eV 6) (eLst (aC (eMx0 "NoRoom" (eV 5)) (aC (eMx0 "NoRow" (eV 5)) aN))))) tYes (eF m_law_kinds (aC (eV 10) aN))))) (sRet (eC (.bl false))) sNx)) [a, b, c, some (.int n), e, some (.str z), some (.lst (madeL n)), x7, x8, x9, x10] h = .nx [a, b, c, some (.int n), e, some (.str z), some (.lst (madeL n)), x7, x8, x9, x10] h := by
  kernel_rfl
theorem fields_w {a b c e f x7 x8 x9 x10 : Option D} {n : Int} {h : Hm} :
    (sSeq (sAsg (gN 7) (eLst aN)) (sFor (gN 8) (wE (eTup (aC (eC (.int 0)) (aC (eC (.int 6)) aN)))) (sSeq (sAsg (gN 7) (eB opAdd (eV 7) (eLst (aC (eU (xFld "number") (eB opIx (eV 6) (eV 8))) (aC (eU (xFld "need") (eB opIx (eV 6) (eB opAdd (eV 8) (eC (.int 1))))) (aC (eU (xFld "at") (eB opIx (eV 6) (eB opAdd (eV 8) (eC (.int 2))))) aN))))))
  (sAsg (gN 7) (eB opAdd (eV 7) (eLst (aC (eU (xFld "number") (eB opIx (eV 6) (eB opAdd (eV 8) (eC (.int 3))))) (aC (eU (xFld "talk") (eB opIx (eV 6) (eB opAdd (eV 8) (eC (.int 4))))) (aC (eU (xFld "many") (eB opIx (eV 6) (eB opAdd (eV 8) (eC (.int 5))))) aN))))))))) [a, b, c, some (.int n), e, f, some (.lst (madeL n)), x7, x8, x9, x10] h = .nx [a, b, c, some (.int n), e, f, some (.lst (madeL n)), some (.lst (List.replicate 12 (.int n))), some (.int 6), x9, x10] h := by
  kernel_rfl
theorem fields_w2 {r : SM} {v : Ev} {h : Hm} {a b : SM} : sSeq a (sSeq b r) v h = sSeq (sSeq a b) r v h := by
  unfold sSeq
  cases a v h with
  | nx v1 h1 => rfl
  | _ => rfl
theorem law_pure (ns : List Int) (hn : ns.length ≤ 63) : ∃ h1, m_law [.scr ns] [] = .ok (.bl true) h1 := by
  have s : Sat (m_law [.scr ns] []) fun d _ => d = .bl true := by
    refine sa_fn rfl ?_
    unfold m_law_b
    simp only [List.map_cons, List.map_nil, List.replicate, Nat.reduceSub, List.cons_append, List.nil_append]
    array_get_dec
    refine ss_forR (max 1 (min 4 (ns.length : Int))).toNat (fun i v h => ∃ x1 x2 x3 x4 x5 x6 x7 x8 x9 x10, v = [some (.scr ns), x1, x2, x3, x4, x5, x6, x7, x8, x9, x10]) (by
      array_get_dec
      exact ⟨by omega, by omega, rfl, rfl⟩) ⟨_, _, _, _, _, _, _, _, _, _, rfl⟩ ?_ ?_
    · rintro i v h hi ⟨x1, x2, x3, x4, x5, x6, x7, x8, x9, x10, rfl⟩
      simp only [List.set_cons_zero, List.set_cons_succ]
      array_get_dec
      refine bowl_new (by omega) fun h1 w1 _ _ => ?_
      array_get_dec
      refine spoon (B := 999999999) w1 (by omega) (by omega) fun n h2 a1 a2 d2 => ?_
      array_get_dec
      refine ⟨rfl, ?_⟩
      array_get_dec
      refine sa_LcDrawW (nb := h.length) (B := 999999000) 1 10 (fun y => ∃ c : Nat, small c ∧ y = .str (S [c])) (by omega) ?_ ?_ ?_
      · array_get_dec
        refine spoon (B := 999999010) (d2.bow.le (by omega)) (by omega) (by omega) fun m h3 b1 b2 d3 => ?_
        refine ⟨_, rfl, by omega, by omega, _, rfl, by simp; omega, d3⟩
      · intro x T h' R w r
        simp only [wipeE, List.foldr, List.set_cons_zero, List.set_cons_succ]
        array_get_dec
        refine spoon (B := T) w (by omega) (by omega) fun m h3 b1 b2 d3 => ?_
        obtain ⟨c, e1, hc⟩ := abc_at b1 b2
        refine so_ixS (by rw [abc_len]; decide) e1 ?_
        exact r _ _ ⟨c, hc, rfl⟩ d3
      · intro ys h' hl hy d3
        obtain ⟨l, rfl⟩ := chars_of hy
        array_get_dec
        refine so_joinL (by simp at hl; omega) ?_
        rw [made_w3]
        refine ss_seq (ss_is made_w ?_)
        refine ss_seq (ss_is kinds_w ?_)
        rw [fields_w2]
        refine ss_seq (ss_is fields_w ?_)
        array_get_dec
        refine sa_LcMap (l := List.replicate 12 (.int n)) (fun _ => .bl true) (by simp) (by
          array_get_dec
          exact so_wkL ⟨rfl, rfl⟩) ?_ ?_
        · intro x hx P p
          obtain rfl := List.eq_of_mem_replicate hx
          simp only [wipeE, List.foldr, List.set_cons_zero, List.set_cons_succ]
          array_get_dec
          refine ⟨fun _ => ?_, fun z => nomatch z⟩
          array_get_dec
          refine ⟨fun _ => ?_, fun z => nomatch z⟩
          array_get_dec
          rw [decide_eq_true rfl]
          exact p
        · refine so_inF (by rfl) ?_
          refine ⟨_, rfl, (fun z => nomatch z), fun _ => ?_⟩
          array_get_dec
          exact ⟨_, _, _, _, _, _, _, _, _, _, rfl⟩
    · rintro v h ⟨x1, x2, x3, x4, x5, x6, x7, x8, x9, x10, rfl⟩
      array_get_dec
      rfl
  obtain ⟨d, h, e, rfl⟩ := s.get
  exact ⟨h, e⟩
end Lw
set_option Elab.async false
set_option linter.all false
set_option maxRecDepth 100000
set_option maxHeartbeats 8000000
namespace Lw
open PySem PySem.Spec PyProof.Rows L2 Dn
def top (i : Nat) : Stmt := PySem.Challenge.pw_nickbook_k81_errors_made.main.body.getD i (.Pass ⟨0, 0, 0, 0⟩)
structure Tx (mg : Str → Option Value) : Prop where
  n_ValueError : mg "ValueError" = none
  n_bool : mg "bool" = none
  n_int : mg "int" = none
  n_isinstance : mg "isinstance" = none
  n_len : mg "len" = none
  n_max : mg "max" = none
  n_min : mg "min" = none
  n_range : mg "range" = none
structure Ux (P : Program) (w : World) (K : PySem.W.Frag) (mg : Str → Option Value) (base : Heap) (cl : Str → Option Addr) (tb : List (Addr × Str)) : Prop where
  tab : XTab ⟨K, cl, tb⟩
  n_BookError : XNm mg cl "BookError"
  n_NoRoom : XNm mg cl "NoRoom"
  n_NoRow : XNm mg cl "NoRow"
  n_NoWord : XNm mg cl "NoWord"
  n_Wait : XNm mg cl "Wait"
  n_NoText : XNm mg cl "NoText"
  n_Held : XNm mg cl "Held"
  n_NoTalk : XNm mg cl "NoTalk"
  n_NoDeed : XNm mg cl "NoDeed"
  x_NoRoom : XNo K mg cl "NoRoom"
  x_NoRow : XNo K mg cl "NoRow"
  x_NoWord : XInK P w K mg base cl "NoWord" "number"
  x_Wait : XInK P w K mg base cl "Wait" "need"
  x_NoText : XInK P w K mg base cl "NoText" "at"
  x_Held : XInK P w K mg base cl "Held" "number"
  x_NoTalk : XInK P w K mg base cl "NoTalk" "talk"
  x_NoDeed : XInK P w K mg base cl "NoDeed" "many"
  f_at : ∀ c A, cl c = some A → PySem.W.findIn K (.ref A) "at" = some none
  f_many : ∀ c A, cl c = some A → PySem.W.findIn K (.ref A) "many" = some none
  f_need : ∀ c A, cl c = some A → PySem.W.findIn K (.ref A) "need" = some none
  f_number : ∀ c A, cl c = some A → PySem.W.findIn K (.ref A) "number" = some none
  f_talk : ∀ c A, cl c = some A → PySem.W.findIn K (.ref A) "talk" = some none
section
variable {P : Program} {w : World} {K : PySem.W.Frag} {mg : Str → Option Value} {base : Heap} {cl : Str → Option Addr} {tb : List (Addr × Str)}
abbrev s_NoWord_i : Stmt := inClass (top 4) 0
theorem sc_NoWord_i : FnScope ["self", "number"] ["self", "number"] (defScope s_NoWord_i) := ⟨rfl, rfl, rfl, by decide +kernel, rfl, by decide +kernel, by decide +kernel⟩
theorem ini_NoWord {fI A BA : Addr} {fd : FuncData} (F : Fun K "__init__" "NoWord.__init__" s_NoWord_i fI fd) (X : XCls K A) (hno : PySem.W.findIn K (.ref A) "number" = some none) (B : BIni K mg "BookError" BA) : FnOk P w K mg base CX0 1 fI fd ["self", "number"] (spIni A "number") :=
  F.ok sc_NoWord_i (fun vs H Q E h => by obtain ⟨a, y, e, _⟩ := h; subst e; rfl) fun cdv A outer s H vs Q E hr h => ⟨_, pss_cons (ps_expr (pe_bini rfl B (pa_cons (pv 0) (pa_cons pe_str pa_nil)))) (pss_one (ps_ost (pv 0) (pv 1))), ini_reads X.ox hno rfl h⟩
abbrev s_Wait_i : Stmt := inClass (top 5) 0
theorem sc_Wait_i : FnScope ["self", "need"] ["self", "need"] (defScope s_Wait_i) := ⟨rfl, rfl, rfl, by decide +kernel, rfl, by decide +kernel, by decide +kernel⟩
theorem ini_Wait {fI A BA : Addr} {fd : FuncData} (F : Fun K "__init__" "Wait.__init__" s_Wait_i fI fd) (X : XCls K A) (hno : PySem.W.findIn K (.ref A) "need" = some none) (B : BIni K mg "BookError" BA) : FnOk P w K mg base CX0 1 fI fd ["self", "need"] (spIni A "need") :=
  F.ok sc_Wait_i (fun vs H Q E h => by obtain ⟨a, y, e, _⟩ := h; subst e; rfl) fun cdv A outer s H vs Q E hr h => ⟨_, pss_cons (ps_expr (pe_bini rfl B (pa_cons (pv 0) (pa_cons pe_str pa_nil)))) (pss_one (ps_ost (pv 0) (pv 1))), ini_reads X.ox hno rfl h⟩
abbrev s_NoText_i : Stmt := inClass (top 6) 0
theorem sc_NoText_i : FnScope ["self", "at"] ["self", "at"] (defScope s_NoText_i) := ⟨rfl, rfl, rfl, by decide +kernel, rfl, by decide +kernel, by decide +kernel⟩
theorem ini_NoText {fI A BA : Addr} {fd : FuncData} (F : Fun K "__init__" "NoText.__init__" s_NoText_i fI fd) (X : XCls K A) (hno : PySem.W.findIn K (.ref A) "at" = some none) (B : BIni K mg "BookError" BA) : FnOk P w K mg base CX0 1 fI fd ["self", "at"] (spIni A "at") :=
  F.ok sc_NoText_i (fun vs H Q E h => by obtain ⟨a, y, e, _⟩ := h; subst e; rfl) fun cdv A outer s H vs Q E hr h => ⟨_, pss_cons (ps_expr (pe_bini rfl B (pa_cons (pv 0) (pa_cons pe_str pa_nil)))) (pss_one (ps_ost (pv 0) (pv 1))), ini_reads X.ox hno rfl h⟩
abbrev s_Held_i : Stmt := inClass (top 7) 0
theorem sc_Held_i : FnScope ["self", "number"] ["self", "number"] (defScope s_Held_i) := ⟨rfl, rfl, rfl, by decide +kernel, rfl, by decide +kernel, by decide +kernel⟩
theorem ini_Held {fI A BA : Addr} {fd : FuncData} (F : Fun K "__init__" "Held.__init__" s_Held_i fI fd) (X : XCls K A) (hno : PySem.W.findIn K (.ref A) "number" = some none) (B : BIni K mg "BookError" BA) : FnOk P w K mg base CX0 1 fI fd ["self", "number"] (spIni A "number") :=
  F.ok sc_Held_i (fun vs H Q E h => by obtain ⟨a, y, e, _⟩ := h; subst e; rfl) fun cdv A outer s H vs Q E hr h => ⟨_, pss_cons (ps_expr (pe_bini rfl B (pa_cons (pv 0) (pa_cons pe_str pa_nil)))) (pss_one (ps_ost (pv 0) (pv 1))), ini_reads X.ox hno rfl h⟩
abbrev s_NoTalk_i : Stmt := inClass (top 8) 0
theorem sc_NoTalk_i : FnScope ["self", "talk"] ["self", "talk"] (defScope s_NoTalk_i) := ⟨rfl, rfl, rfl, by decide +kernel, rfl, by decide +kernel, by decide +kernel⟩
theorem ini_NoTalk {fI A BA : Addr} {fd : FuncData} (F : Fun K "__init__" "NoTalk.__init__" s_NoTalk_i fI fd) (X : XCls K A) (hno : PySem.W.findIn K (.ref A) "talk" = some none) (B : BIni K mg "BookError" BA) : FnOk P w K mg base CX0 1 fI fd ["self", "talk"] (spIni A "talk") :=
  F.ok sc_NoTalk_i (fun vs H Q E h => by obtain ⟨a, y, e, _⟩ := h; subst e; rfl) fun cdv A outer s H vs Q E hr h => ⟨_, pss_cons (ps_expr (pe_bini rfl B (pa_cons (pv 0) (pa_cons pe_str pa_nil)))) (pss_one (ps_ost (pv 0) (pv 1))), ini_reads X.ox hno rfl h⟩
abbrev s_NoDeed_i : Stmt := inClass (top 9) 0
theorem sc_NoDeed_i : FnScope ["self", "many"] ["self", "many"] (defScope s_NoDeed_i) := ⟨rfl, rfl, rfl, by decide +kernel, rfl, by decide +kernel, by decide +kernel⟩
theorem ini_NoDeed {fI A BA : Addr} {fd : FuncData} (F : Fun K "__init__" "NoDeed.__init__" s_NoDeed_i fI fd) (X : XCls K A) (hno : PySem.W.findIn K (.ref A) "many" = some none) (B : BIni K mg "BookError" BA) : FnOk P w K mg base CX0 1 fI fd ["self", "many"] (spIni A "many") :=
  F.ok sc_NoDeed_i (fun vs H Q E h => by obtain ⟨a, y, e, _⟩ := h; subst e; rfl) fun cdv A outer s H vs Q E hr h => ⟨_, pss_cons (ps_expr (pe_bini rfl B (pa_cons (pv 0) (pa_cons pe_str pa_nil)))) (pss_one (ps_ost (pv 0) (pv 1))), ini_reads X.ox hno rfl h⟩
abbrev s_law_bowl : Stmt := top 11
theorem sc_law_bowl : FnScope ["script", "k", "cell", "rest"] ["script", "k"] (defScope s_law_bowl) := ⟨rfl, rfl, rfl, by decide +kernel, rfl, by decide +kernel, by decide +kernel⟩
theorem ok_law_bowl {f : Addr} {fd : FuncData} (F : Fun K "_law_bowl" "_law_bowl" s_law_bowl f fd) (g : mg "_law_bowl" = some (.ref f)) (T : Tx mg) (U : Ux P w K mg base cl tb)  : Cal P w K mg base ⟨K, cl, tb⟩ CX0 1 "_law_bowl" ["script", "k"] m_law_bowl := by
  have nd := sc_law_bowl.nd
  refine ⟨f, fd, fn_ok0 F sc_law_bowl fun cdv A outer s H E hr => ?_, g, F.kp, (F.binds fun _ _ _ _ _ _ us hl => match us, hl with | [_, _], _ => rfl)⟩
  have hr0 := hr.mono (Nat.zero_le _)
  exact (dss_cons (ds_set (i := 2) nd rfl (Or.inl rfl) (de_op do_add nox_add (de_op do_mul nox_mul de_int (de_var 1)) de_int))
  (dss_cons (ds_if (dt_cmp do_lt nox_lt (de_var 1) (de_callB (db_len rfl) nox_bLen (by rfl) T.n_len bt_len (da_cons (de_var 0) da_nil)) (nomark _)) (dss_one (ds_set (i := 2) nd rfl (Or.inl rfl) (de_ix (do_ix rfl hr0) nox_ix (de_var 0) (de_var 1) (fun _ _ => rfl)))) dss_nil)
  (dss_cons (ds_set (i := 3) nd rfl (Or.inl rfl) de_int)
  (dss_cons (ds_if (dt_cmp do_ge nox_ge (de_var 2) (de_op do_pow nox_pow de_int de_int) (nomark _)) (dss_one (ds_set (i := 3) nd rfl (Or.inl rfl) (de_op do_sub nox_sub (de_var 2) (de_op do_pow nox_pow de_int de_int)))) dss_nil)
  (dss_one (ds_ret (de_new (da_cons (de_var 3) (da_cons (de_op do_add nox_add (de_op do_mod nox_mod (de_var 2) de_int) (de_op do_mul nox_mul de_int (de_var 1))) (da_cons de_int da_nil))))))))))
abbrev s_law_spoon : Stmt := top 12
theorem sc_law_spoon : FnScope ["bowl", "below", "primes", "prime", "one", "two", "digit"] ["bowl", "below"] (defScope s_law_spoon) := ⟨rfl, rfl, rfl, by decide +kernel, rfl, by decide +kernel, by decide +kernel⟩
theorem ok_law_spoon {f : Addr} {fd : FuncData} (F : Fun K "_law_spoon" "_law_spoon" s_law_spoon f fd) (g : mg "_law_spoon" = some (.ref f)) (T : Tx mg) (U : Ux P w K mg base cl tb)  : Cal P w K mg base ⟨K, cl, tb⟩ CX0 1 "_law_spoon" ["bowl", "below"] m_law_spoon := by
  have nd := sc_law_spoon.nd
  refine ⟨f, fd, fn_ok0 F sc_law_spoon fun cdv A outer s H E hr => ?_, g, F.kp, (F.binds fun _ _ _ _ _ _ us hl => match us, hl with | [_, _], _ => rfl)⟩
  have hr0 := hr.mono (Nat.zero_le _)
  exact (dss_cons (ds_if (dt_cmp do_ge nox_ge (de_ix (do_ix rfl hr0) nox_ix (de_var 0) de_int (fun _ _ => rfl)) (de_var 1) (nomark _)) (dss_cons (ds_set (i := 6) nd rfl (Or.inl rfl) (de_op do_mod nox_mod (de_ix (do_ix rfl hr0) nox_ix (de_var 0) de_int (fun _ _ => rfl)) (de_var 1)))
  (dss_cons (ds_put hr0 (de_op do_div nox_div (de_ix (do_ix rfl hr0) nox_ix (de_var 0) de_int (fun _ _ => rfl)) (de_var 1)) (de_var 0) de_int)
  (dss_one (ds_ret (de_var 6))))) dss_nil)
  (dss_cons (ds_put hr0 (de_op do_add nox_add (de_ix (do_ix rfl hr0) nox_ix (de_var 0) de_int (fun _ _ => rfl)) de_int) (de_var 0) de_int)
  (dss_cons (ds_set (i := 2) nd rfl (Or.inl rfl) (de_lst (da_cons de_int (da_cons de_int (da_cons de_int (da_cons de_int (da_cons de_int (da_cons de_int (da_cons de_int da_nil)))))))))
  (dss_cons (ds_set (i := 2) nd rfl (Or.inl rfl) (de_op do_add nox_add (de_var 2) (de_lst (da_cons de_int da_nil))))
  (dss_cons (ds_set (i := 3) nd rfl (Or.inl rfl) (de_ix (do_ix rfl hr0) nox_ix (de_var 2) (de_op do_mod nox_mod (de_ix (do_ix rfl hr0) nox_ix (de_var 0) de_int (fun _ _ => rfl)) de_int) (fun _ _ => rfl)))
  (dss_cons (ds_set (i := 4) nd rfl (Or.inl rfl) (de_op do_add nox_add (de_op do_mul nox_mul (de_op do_mod nox_mod (de_ix (do_ix rfl hr0) nox_ix (de_var 0) de_int (fun _ _ => rfl)) (de_var 3)) (de_op do_add nox_add (de_op do_mul nox_mul de_int (de_ix (do_ix rfl hr0) nox_ix (de_var 0) de_int (fun _ _ => rfl))) de_int)) (de_op do_mul nox_mul de_int (de_ix (do_ix rfl hr0) nox_ix (de_var 0) de_int (fun _ _ => rfl)))))
  (dss_cons (ds_set (i := 4) nd rfl (Or.inl rfl) (de_op do_mod nox_mod (de_op do_pow nox_pow (de_var 4) de_int) (de_var 3)))
  (dss_cons (ds_set (i := 5) nd rfl (Or.inl rfl) (de_op do_add nox_add (de_op do_add nox_add (de_op do_mul nox_mul (de_var 4) (de_var 4)) (de_op do_mod nox_mod (de_ix (do_ix rfl hr0) nox_ix (de_var 0) de_int (fun _ _ => rfl)) de_int)) (de_ix (do_ix rfl hr0) nox_ix (de_var 0) de_int (fun _ _ => rfl))))
  (dss_one (ds_ret (de_op do_mod nox_mod (de_op do_div nox_div (de_op do_mod nox_mod (de_op do_pow nox_pow (de_var 5) de_int) (de_ix (do_ix rfl hr0) nox_ix (de_var 2) (de_op do_mod nox_mod (de_op do_add nox_add (de_ix (do_ix rfl hr0) nox_ix (de_var 0) de_int (fun _ _ => rfl)) de_int) de_int) (fun _ _ => rfl))) de_int) (de_var 1))))))))))))
abbrev s_law_kinds : Stmt := top 13
theorem sc_law_kinds : FnScope ["one", "kinds"] ["one"] (defScope s_law_kinds) := ⟨rfl, rfl, rfl, by decide +kernel, rfl, by decide +kernel, by decide +kernel⟩
theorem ok_law_kinds {f : Addr} {fd : FuncData} (F : Fun K "_law_kinds" "_law_kinds" s_law_kinds f fd) (g : mg "_law_kinds" = some (.ref f)) (T : Tx mg) (U : Ux P w K mg base cl tb)  : Cal P w K mg base ⟨K, cl, tb⟩ CX0 1 "_law_kinds" ["one"] m_law_kinds := by
  have nd := sc_law_kinds.nd
  refine ⟨f, fd, fn_ok0 F sc_law_kinds fun cdv A outer s H E hr => ?_, g, F.kp, (F.binds fun _ _ _ _ _ _ us hl => match us, hl with | [_], _ => rfl)⟩
  have hr0 := hr.mono (Nat.zero_le _)
  exact (dss_cons (ds_set (i := 1) nd rfl (Or.inl rfl) (de_lst (da_cons (de_isXn U.tab rfl U.n_NoRoom (by rfl) T.n_isinstance bt_isinstance (by rfl) (de_var 0)) (da_cons (de_isXn U.tab rfl U.n_NoRow (by rfl) T.n_isinstance bt_isinstance (by rfl) (de_var 0)) (da_cons (de_isXn U.tab rfl U.n_NoWord (by rfl) T.n_isinstance bt_isinstance (by rfl) (de_var 0)) da_nil)))))
  (dss_cons (ds_set (i := 1) nd rfl (Or.inl rfl) (de_op do_add nox_add (de_var 1) (de_lst (da_cons (de_isXn U.tab rfl U.n_Wait (by rfl) T.n_isinstance bt_isinstance (by rfl) (de_var 0)) da_nil))))
  (dss_cons (ds_set (i := 1) nd rfl (Or.inl rfl) (de_op do_add nox_add (de_var 1) (de_lst (da_cons (de_isXn U.tab rfl U.n_NoText (by rfl) T.n_isinstance bt_isinstance (by rfl) (de_var 0)) (da_cons (de_isXn U.tab rfl U.n_Held (by rfl) T.n_isinstance bt_isinstance (by rfl) (de_var 0)) (da_cons (de_isXn U.tab rfl U.n_NoTalk (by rfl) T.n_isinstance bt_isinstance (by rfl) (de_var 0)) da_nil))))))
  (dss_cons (ds_set (i := 1) nd rfl (Or.inl rfl) (de_op do_add nox_add (de_var 1) (de_lst (da_cons (de_isXn U.tab rfl U.n_NoDeed (by rfl) T.n_isinstance bt_isinstance (by rfl) (de_var 0)) da_nil))))
  (dss_one (ds_ret (de_and (de_cmp (do_eq hr0) nox_eq (de_bm PySem.F.plainAttrs_list PySem.F.slot_list_count PySem.F.type_list_count (dm_count hr0) nox_count (de_var 1) (da_cons de_bl da_nil)) de_int (nomark _)) (de_and (de_isXn U.tab rfl U.n_BookError (by rfl) T.n_isinstance bt_isinstance (by rfl) (de_var 0)) (de_one (de_isVE U.tab rfl (by rfl) T.n_isinstance bt_isinstance (by rfl) T.n_ValueError bt_VE (de_var 0)))))))))))
abbrev s_law : Stmt := top 14
theorem sc_law : FnScope ["script", "k", "bowl", "size", "letters", "some", "made", "fields", "first", "turn", "one"] ["script"] (defScope s_law) := ⟨rfl, rfl, rfl, by decide +kernel, rfl, by decide +kernel, by decide +kernel⟩
theorem okF_law {f : Addr} {fd : FuncData} (F : Fun K "law" "law" s_law f fd) (T : Tx mg) (U : Ux P w K mg base cl tb) (c_law_bowl : Cal P w K mg base ⟨K, cl, tb⟩ CX0 1 "_law_bowl" ["script", "k"] m_law_bowl) (c_law_spoon : Cal P w K mg base ⟨K, cl, tb⟩ CX0 1 "_law_spoon" ["bowl", "below"] m_law_spoon) (c_law_kinds : Cal P w K mg base ⟨K, cl, tb⟩ CX0 1 "_law_kinds" ["one"] m_law_kinds) : FnOk P w K mg base CX0 3 f fd ["script"] (spD ⟨K, cl, tb⟩ m_law) := by
  have nd := sc_law.nd
  refine fn_ok0 F sc_law fun cdv A outer s H E hr => ?_
  have hr0 := hr.mono (Nat.zero_le _)
  exact (dss_cons (ds_for PassesOwn.never rfl (di_r1 (by rfl) T.n_range (de_callB (db_max rfl) nox_bMax (by rfl) T.n_max bt_max (da_cons de_int (da_cons (de_callB (db_min rfl) nox_bMin (by rfl) T.n_min bt_min (da_cons de_int (da_cons (de_callB (db_len rfl) nox_bLen (by rfl) T.n_len bt_len (da_cons (de_var 0) da_nil)) da_nil))) da_nil)))) (dg_name (i := 1) nd rfl (Or.inl rfl)) (dss_cons (ds_set (i := 2) nd rfl (Or.inr rfl) (de_callC c_law_bowl hr (by decide) (by rfl) (fun _ => pass0X) (da_cons (de_var 0) (da_cons (de_var 1) da_nil))))
  (dss_cons (ds_set (i := 3) nd rfl (Or.inr rfl) (de_callC c_law_spoon hr (by decide) (by rfl) (fun _ => pass0X) (da_cons (de_var 2) (da_cons de_int da_nil))))
  (dss_cons (ds_set (i := 4) nd rfl (Or.inr rfl) de_str)
  (dss_cons (ds_set (i := 5) nd rfl (Or.inl rfl) (de_bm PySem.F.plainAttrs_str PySem.F.slot_str_join PySem.F.type_str_join dm_join nox_join de_str (da_cons (de_lc rfl nd (own := [("turn", 9)]) (blkOk_by (N := ["script", "k", "bowl", "size", "letters", "some", "made", "fields", "first", "turn", "one"]) (sc := defScope s_law) (by decide +kernel)) (di_r1 (by rfl) T.n_range (de_callC c_law_spoon hr (by decide) (by rfl) (fun _ => pass0X) (da_cons (de_var 2) (da_cons de_int da_nil)))) (lcg_name (by decide)) (fun _ _ _ _ _ => (pg_name (i := 9) nd rfl (Or.inl rfl))) (fun _ _ _ _ _ => dts_nil) (fun _ _ _ _ _ => (de_ix (do_ix rfl hr0) nox_ix (de_var 4) (de_callC c_law_spoon hr (by decide) (by rfl) (fun _ => pass0X) (da_cons (de_var 2) (da_cons de_int da_nil))) (fun _ _ => rfl)))) da_nil)))
  (dss_cons (ds_set (i := 6) nd rfl (Or.inl rfl) (de_lst (da_cons (de_mkx1 rfl rfl U.x_NoWord hr (by decide) (by rfl) (de_var 3)) (da_cons (de_mkx1 rfl rfl U.x_Wait hr (by decide) (by rfl) (de_var 3)) (da_cons (de_mkx1 rfl rfl U.x_NoText hr (by decide) (by rfl) (de_var 3)) (da_cons (de_mkx1 rfl rfl U.x_Held hr (by decide) (by rfl) (de_var 3)) (da_cons (de_mkx1 rfl rfl U.x_NoTalk hr (by decide) (by rfl) (de_var 3)) (da_cons (de_mkx1 rfl rfl U.x_NoDeed hr (by decide) (by rfl) (de_var 3)) da_nil))))))))
  (dss_cons (ds_set (i := 6) nd rfl (Or.inl rfl) (de_op do_add nox_add (de_var 6) (de_lst (da_cons (de_mkxK rfl rfl U.x_NoWord hr (by decide) (by rfl) (de_var 3)) (da_cons (de_mkxK rfl rfl U.x_Wait hr (by decide) (by rfl) (de_var 3)) (da_cons (de_mkxK rfl rfl U.x_NoText hr (by decide) (by rfl) (de_var 3)) (da_cons (de_mkxK rfl rfl U.x_Held hr (by decide) (by rfl) (de_var 3)) da_nil)))))))
  (dss_cons (ds_set (i := 6) nd rfl (Or.inl rfl) (de_op do_add nox_add (de_var 6) (de_lst (da_cons (de_mkxK rfl rfl U.x_NoTalk hr (by decide) (by rfl) (de_var 3)) (da_cons (de_mkxK rfl rfl U.x_NoDeed hr (by decide) (by rfl) (de_var 3)) da_nil)))))
  (dss_cons (ds_if (dt_cmp (do_in hr0) nox_in de_bl (de_lc rfl nd (own := [("one", 10)]) (blkOk_by (N := ["script", "k", "bowl", "size", "letters", "some", "made", "fields", "first", "turn", "one"]) (sc := defScope s_law) (by decide +kernel)) (di_e rfl (de_op do_add nox_add (de_var 6) (de_lst (da_cons (de_mkx0 rfl rfl U.x_NoRoom (by rfl) (de_var 5)) (da_cons (de_mkx0 rfl rfl U.x_NoRow (by rfl) (de_var 5)) da_nil))))) (lcg_name (by decide)) (fun _ _ _ _ _ => (pg_name (i := 10) nd rfl (Or.inl rfl))) (fun _ _ _ _ _ => dts_nil) (fun _ _ _ _ _ => (de_callC c_law_kinds hr (by decide) (by rfl) (fun _ => pass0X) (da_cons (de_var 10) da_nil)))) (by with_unfolding_all rfl)) (dss_one (ds_ret de_bl)) dss_nil)
  (dss_cons (ds_set (i := 7) nd rfl (Or.inl rfl) (de_lst da_nil))
  (dss_cons (ds_for PassesOwn.never rfl (di_e rfl (de_tup (da_cons de_int (da_cons de_int da_nil)))) (dg_name (i := 8) nd rfl (Or.inl rfl)) (dss_cons (ds_set (i := 7) nd rfl (Or.inl rfl) (de_op do_add nox_add (de_var 7) (de_lst (da_cons (de_xFld U.tab rfl U.f_number (de_ix (do_ix rfl hr0) nox_ix (de_var 6) (de_var 8) (fun _ _ => rfl))) (da_cons (de_xFld U.tab rfl U.f_need (de_ix (do_ix rfl hr0) nox_ix (de_var 6) (de_op do_add nox_add (de_var 8) de_int) (fun _ _ => rfl))) (da_cons (de_xFld U.tab rfl U.f_at (de_ix (do_ix rfl hr0) nox_ix (de_var 6) (de_op do_add nox_add (de_var 8) de_int) (fun _ _ => rfl))) da_nil))))))
  (dss_one (ds_set (i := 7) nd rfl (Or.inl rfl) (de_op do_add nox_add (de_var 7) (de_lst (da_cons (de_xFld U.tab rfl U.f_number (de_ix (do_ix rfl hr0) nox_ix (de_var 6) (de_op do_add nox_add (de_var 8) de_int) (fun _ _ => rfl))) (da_cons (de_xFld U.tab rfl U.f_talk (de_ix (do_ix rfl hr0) nox_ix (de_var 6) (de_op do_add nox_add (de_var 8) de_int) (fun _ _ => rfl))) (da_cons (de_xFld U.tab rfl U.f_many (de_ix (do_ix rfl hr0) nox_ix (de_var 6) (de_op do_add nox_add (de_var 8) de_int) (fun _ _ => rfl))) da_nil)))))))))
  (dss_one (ds_if (dt_cmp (do_in hr0) nox_in de_bl (de_lc rfl nd (own := [("one", 10)]) (blkOk_by (N := ["script", "k", "bowl", "size", "letters", "some", "made", "fields", "first", "turn", "one"]) (sc := defScope s_law) (by decide +kernel)) (di_e rfl (de_var 7)) (lcg_name (by decide)) (fun _ _ _ _ _ => (pg_name (i := 10) nd rfl (Or.inl rfl))) (fun _ _ _ _ _ => dts_nil) (fun _ _ _ _ _ => (de_and (de_isi (T := "int") (by decide) (by rfl) T.n_isinstance bt_isinstance (by rfl) T.n_int bt_int (de_var 10)) (de_and (de_not (de_isi (T := "bool") (by decide) (by rfl) T.n_isinstance bt_isinstance (by rfl) T.n_bool bt_bool (de_var 10))) (de_one (de_cmp (do_eq hr0) nox_eq (de_var 10) (de_var 3) (nomark _))))))) (by with_unfolding_all rfl)) (dss_one (ds_ret de_bl)) dss_nil)))))))))))))
  (dss_one (ds_ret de_bl)))
end
end Lw
set_option Elab.async false
set_option linter.all false
set_option maxRecDepth 100000
set_option maxHeartbeats 8000000
namespace Lw
open PySem PySem.Spec PyProof.Rows L2 Dn
theorem all_mk {l : PySem.W.OpenLaw} {w : World} {K : PySem.W.Frag} {h : Heap} {mg : Str → Option Value} {fa : Addr} (X : K.In h) (G : h.Ns mainGlobals mg) (hfa : mg "law" = some (.ref fa))
    {f1 f2 f3 f4 : Addr} {od1 an1 od2 an2 od3 an3 od4 an4 : Option Addr} {sl1 sl2 sl3 sl4 : Array (Option Value)} {oc1 kV1 dc1 pm1 cd1 ct1 oc2 kV2 dc2 pm2 cd2 ct2 oc3 kV3 dc3 pm3 cd3 ct3 oc4 kV4 dc4 pm4 cd4 ct4 : Value} {A_BookError A_NoRoom A_NoRow A_NoWord A_Wait A_NoText A_Held A_NoTalk A_NoDeed : Addr} {fI_NoWord : Addr} {od_NoWord an_NoWord : Option Addr} {sl_NoWord : Array (Option Value)} {oc_NoWord kV_NoWord dc_NoWord pm_NoWord cd_NoWord ct_NoWord : Value} {fI_Wait : Addr} {od_Wait an_Wait : Option Addr} {sl_Wait : Array (Option Value)} {oc_Wait kV_Wait dc_Wait pm_Wait cd_Wait ct_Wait : Value} {fI_NoText : Addr} {od_NoText an_NoText : Option Addr} {sl_NoText : Array (Option Value)} {oc_NoText kV_NoText dc_NoText pm_NoText cd_NoText ct_NoText : Value} {fI_Held : Addr} {od_Held an_Held : Option Addr} {sl_Held : Array (Option Value)} {oc_Held kV_Held dc_Held pm_Held cd_Held ct_Held : Value} {fI_NoTalk : Addr} {od_NoTalk an_NoTalk : Option Addr} {sl_NoTalk : Array (Option Value)} {oc_NoTalk kV_NoTalk dc_NoTalk pm_NoTalk cd_NoTalk ct_NoTalk : Value} {fI_NoDeed : Addr} {od_NoDeed an_NoDeed : Option Addr} {sl_NoDeed : Array (Option Value)} {oc_NoDeed kV_NoDeed dc_NoDeed pm_NoDeed cd_NoDeed ct_NoDeed : Value}
    (a1 : PySem.W.nsIn K mainGlobals "_law_bowl" = some (some (.ref f1))) (l1 : K.lookup f1 = some ⟨oc1, od1, .func (PySem.W.fnOf "_law_bowl" "_law_bowl" (defArgs s_law_bowl) (defBody s_law_bowl) (defScope s_law_bowl) .none kV1 dc1 pm1 an1 cd1 ct1), sl1⟩) (e1 : PySem.W.codeIn K cd1 "_law_bowl" = true) (k1 : PySem.W.keepIn K (.ref f1) = true)
    (a2 : PySem.W.nsIn K mainGlobals "_law_spoon" = some (some (.ref f2))) (l2 : K.lookup f2 = some ⟨oc2, od2, .func (PySem.W.fnOf "_law_spoon" "_law_spoon" (defArgs s_law_spoon) (defBody s_law_spoon) (defScope s_law_spoon) .none kV2 dc2 pm2 an2 cd2 ct2), sl2⟩) (e2 : PySem.W.codeIn K cd2 "_law_spoon" = true) (k2 : PySem.W.keepIn K (.ref f2) = true)
    (a3 : PySem.W.nsIn K mainGlobals "_law_kinds" = some (some (.ref f3))) (l3 : K.lookup f3 = some ⟨oc3, od3, .func (PySem.W.fnOf "_law_kinds" "_law_kinds" (defArgs s_law_kinds) (defBody s_law_kinds) (defScope s_law_kinds) .none kV3 dc3 pm3 an3 cd3 ct3), sl3⟩) (e3 : PySem.W.codeIn K cd3 "_law_kinds" = true) (k3 : PySem.W.keepIn K (.ref f3) = true)
    (a4 : PySem.W.nsIn K mainGlobals "law" = some (some (.ref f4))) (l4 : K.lookup f4 = some ⟨oc4, od4, .func (PySem.W.fnOf "law" "law" (defArgs s_law) (defBody s_law) (defScope s_law) .none kV4 dc4 pm4 an4 cd4 ct4), sl4⟩) (e4 : PySem.W.codeIn K cd4 "law" = true) (k4 : PySem.W.keepIn K (.ref f4) = true)
    (z_ValueError : PySem.W.nsIn K mainGlobals "ValueError" = some none)
    (z_bool : PySem.W.nsIn K mainGlobals "bool" = some none)
    (z_int : PySem.W.nsIn K mainGlobals "int" = some none)
    (z_isinstance : PySem.W.nsIn K mainGlobals "isinstance" = some none)
    (z_len : PySem.W.nsIn K mainGlobals "len" = some none)
    (z_max : PySem.W.nsIn K mainGlobals "max" = some none)
    (z_min : PySem.W.nsIn K mainGlobals "min" = some none)
    (z_range : PySem.W.nsIn K mainGlobals "range" = some none)
    (b_BookError : PySem.W.nsIn K mainGlobals "BookError" = some (some (.ref A_BookError)))
    (b_NoRoom : PySem.W.nsIn K mainGlobals "NoRoom" = some (some (.ref A_NoRoom)))
    (b_NoRow : PySem.W.nsIn K mainGlobals "NoRow" = some (some (.ref A_NoRow)))
    (b_NoWord : PySem.W.nsIn K mainGlobals "NoWord" = some (some (.ref A_NoWord)))
    (b_Wait : PySem.W.nsIn K mainGlobals "Wait" = some (some (.ref A_Wait)))
    (b_NoText : PySem.W.nsIn K mainGlobals "NoText" = some (some (.ref A_NoText)))
    (b_Held : PySem.W.nsIn K mainGlobals "Held" = some (some (.ref A_Held)))
    (b_NoTalk : PySem.W.nsIn K mainGlobals "NoTalk" = some (some (.ref A_NoTalk)))
    (b_NoDeed : PySem.W.nsIn K mainGlobals "NoDeed" = some (some (.ref A_NoDeed)))
    (q_NoRoom : PySem.W.excIn K A_NoRoom PySem.HandSPX.veTail "ValueError.__new__" = true)
    (q_NoRow : PySem.W.excIn K A_NoRow PySem.HandSPX.veTail "ValueError.__new__" = true)
    (i_NoWord : PySem.W.findIn K (.ref A_NoWord) "__init__" = some (some (.ref fI_NoWord))) (t_NoWord : PySem.W.typeIn K (.ref fI_NoWord) = some (.type "function")) (l_NoWord : K.lookup fI_NoWord = some ⟨oc_NoWord, od_NoWord, .func (PySem.W.fnOf "__init__" "NoWord.__init__" (defArgs s_NoWord_i) (defBody s_NoWord_i) (defScope s_NoWord_i) .none kV_NoWord dc_NoWord pm_NoWord an_NoWord cd_NoWord ct_NoWord), sl_NoWord⟩) (e_NoWord : PySem.W.codeIn K cd_NoWord "NoWord.__init__" = true) (k_NoWord : PySem.W.keepIn K (.ref fI_NoWord) = true)
    (i_Wait : PySem.W.findIn K (.ref A_Wait) "__init__" = some (some (.ref fI_Wait))) (t_Wait : PySem.W.typeIn K (.ref fI_Wait) = some (.type "function")) (l_Wait : K.lookup fI_Wait = some ⟨oc_Wait, od_Wait, .func (PySem.W.fnOf "__init__" "Wait.__init__" (defArgs s_Wait_i) (defBody s_Wait_i) (defScope s_Wait_i) .none kV_Wait dc_Wait pm_Wait an_Wait cd_Wait ct_Wait), sl_Wait⟩) (e_Wait : PySem.W.codeIn K cd_Wait "Wait.__init__" = true) (k_Wait : PySem.W.keepIn K (.ref fI_Wait) = true)
    (i_NoText : PySem.W.findIn K (.ref A_NoText) "__init__" = some (some (.ref fI_NoText))) (t_NoText : PySem.W.typeIn K (.ref fI_NoText) = some (.type "function")) (l_NoText : K.lookup fI_NoText = some ⟨oc_NoText, od_NoText, .func (PySem.W.fnOf "__init__" "NoText.__init__" (defArgs s_NoText_i) (defBody s_NoText_i) (defScope s_NoText_i) .none kV_NoText dc_NoText pm_NoText an_NoText cd_NoText ct_NoText), sl_NoText⟩) (e_NoText : PySem.W.codeIn K cd_NoText "NoText.__init__" = true) (k_NoText : PySem.W.keepIn K (.ref fI_NoText) = true)
    (i_Held : PySem.W.findIn K (.ref A_Held) "__init__" = some (some (.ref fI_Held))) (t_Held : PySem.W.typeIn K (.ref fI_Held) = some (.type "function")) (l_Held : K.lookup fI_Held = some ⟨oc_Held, od_Held, .func (PySem.W.fnOf "__init__" "Held.__init__" (defArgs s_Held_i) (defBody s_Held_i) (defScope s_Held_i) .none kV_Held dc_Held pm_Held an_Held cd_Held ct_Held), sl_Held⟩) (e_Held : PySem.W.codeIn K cd_Held "Held.__init__" = true) (k_Held : PySem.W.keepIn K (.ref fI_Held) = true)
    (i_NoTalk : PySem.W.findIn K (.ref A_NoTalk) "__init__" = some (some (.ref fI_NoTalk))) (t_NoTalk : PySem.W.typeIn K (.ref fI_NoTalk) = some (.type "function")) (l_NoTalk : K.lookup fI_NoTalk = some ⟨oc_NoTalk, od_NoTalk, .func (PySem.W.fnOf "__init__" "NoTalk.__init__" (defArgs s_NoTalk_i) (defBody s_NoTalk_i) (defScope s_NoTalk_i) .none kV_NoTalk dc_NoTalk pm_NoTalk an_NoTalk cd_NoTalk ct_NoTalk), sl_NoTalk⟩) (e_NoTalk : PySem.W.codeIn K cd_NoTalk "NoTalk.__init__" = true) (k_NoTalk : PySem.W.keepIn K (.ref fI_NoTalk) = true)
    (i_NoDeed : PySem.W.findIn K (.ref A_NoDeed) "__init__" = some (some (.ref fI_NoDeed))) (t_NoDeed : PySem.W.typeIn K (.ref fI_NoDeed) = some (.type "function")) (l_NoDeed : K.lookup fI_NoDeed = some ⟨oc_NoDeed, od_NoDeed, .func (PySem.W.fnOf "__init__" "NoDeed.__init__" (defArgs s_NoDeed_i) (defBody s_NoDeed_i) (defScope s_NoDeed_i) .none kV_NoDeed dc_NoDeed pm_NoDeed an_NoDeed cd_NoDeed ct_NoDeed), sl_NoDeed⟩) (e_NoDeed : PySem.W.codeIn K cd_NoDeed "NoDeed.__init__" = true) (k_NoDeed : PySem.W.keepIn K (.ref fI_NoDeed) = true)
    (y_sp : PySem.W.specialIn K (.ref A_BookError) "__getattribute__" = some (some (.builtin "type.__getattribute__"))) (y_rd : PySem.W.readsIn K A_BookError (.type "type") = true) (y_fc : PySem.W.findCls K (.ref A_BookError) (.type "type") "__init__" = some (.val (.builtin "ValueError.__init__")))
    (tb : tabB K [("BookError", A_BookError), ("NoRoom", A_NoRoom), ("NoRow", A_NoRow), ("NoWord", A_NoWord), ("Wait", A_Wait), ("NoText", A_NoText), ("Held", A_Held), ("NoTalk", A_NoTalk), ("NoDeed", A_NoDeed)] = true)
    (nf_at : nofB K [("BookError", A_BookError), ("NoRoom", A_NoRoom), ("NoRow", A_NoRow), ("NoWord", A_NoWord), ("Wait", A_Wait), ("NoText", A_NoText), ("Held", A_Held), ("NoTalk", A_NoTalk), ("NoDeed", A_NoDeed)] "at" = true)
    (nf_many : nofB K [("BookError", A_BookError), ("NoRoom", A_NoRoom), ("NoRow", A_NoRow), ("NoWord", A_NoWord), ("Wait", A_Wait), ("NoText", A_NoText), ("Held", A_Held), ("NoTalk", A_NoTalk), ("NoDeed", A_NoDeed)] "many" = true)
    (nf_need : nofB K [("BookError", A_BookError), ("NoRoom", A_NoRoom), ("NoRow", A_NoRow), ("NoWord", A_NoWord), ("Wait", A_Wait), ("NoText", A_NoText), ("Held", A_Held), ("NoTalk", A_NoTalk), ("NoDeed", A_NoDeed)] "need" = true)
    (nf_number : nofB K [("BookError", A_BookError), ("NoRoom", A_NoRoom), ("NoRow", A_NoRow), ("NoWord", A_NoWord), ("Wait", A_Wait), ("NoText", A_NoText), ("Held", A_Held), ("NoTalk", A_NoTalk), ("NoDeed", A_NoDeed)] "number" = true)
    (nf_talk : nofB K [("BookError", A_BookError), ("NoRoom", A_NoRoom), ("NoRow", A_NoRow), ("NoWord", A_NoWord), ("Wait", A_Wait), ("NoText", A_NoText), ("Held", A_Held), ("NoTalk", A_NoTalk), ("NoDeed", A_NoDeed)] "talk" = true) :
    ∃ fd : FuncData, (∀ (s : Shared) (v : Value), BindsTo s fd ⟨[v], []⟩ [("script", v)]) ∧ ∀ base : Heap, K.In base → base.Ns mainGlobals mg → FnOk l.prog w K mg base CX0 3 fa fd ["script"] (spLaw K) := by
  have e := hfa.symm.trans (PySem.W.mg_of X G a4)
  cases e
  have T : Tx mg := ⟨PySem.W.mg_none_of X G z_ValueError, PySem.W.mg_none_of X G z_bool, PySem.W.mg_none_of X G z_int, PySem.W.mg_none_of X G z_isinstance, PySem.W.mg_none_of X G z_len, PySem.W.mg_none_of X G z_max, PySem.W.mg_none_of X G z_min, PySem.W.mg_none_of X G z_range⟩
  refine ⟨PySem.W.fnOf "law" "law" (defArgs s_law) (defBody s_law) (defScope s_law) .none kV4 dc4 pm4 an4 cd4 ct4, fun s v => .of_eq rfl, fun base _ _ => ?_⟩
  have tab := tab_mk (tb := []) tb
  have lk_BookError : List.lookup ("BookError" : Str) ([("BookError", A_BookError), ("NoRoom", A_NoRoom), ("NoRow", A_NoRow), ("NoWord", A_NoWord), ("Wait", A_Wait), ("NoText", A_NoText), ("Held", A_Held), ("NoTalk", A_NoTalk), ("NoDeed", A_NoDeed)] : List (Str × Addr)) = some A_BookError := by kernel_rfl
  have lk_NoRoom : List.lookup ("NoRoom" : Str) ([("BookError", A_BookError), ("NoRoom", A_NoRoom), ("NoRow", A_NoRow), ("NoWord", A_NoWord), ("Wait", A_Wait), ("NoText", A_NoText), ("Held", A_Held), ("NoTalk", A_NoTalk), ("NoDeed", A_NoDeed)] : List (Str × Addr)) = some A_NoRoom := by kernel_rfl
  have lk_NoRow : List.lookup ("NoRow" : Str) ([("BookError", A_BookError), ("NoRoom", A_NoRoom), ("NoRow", A_NoRow), ("NoWord", A_NoWord), ("Wait", A_Wait), ("NoText", A_NoText), ("Held", A_Held), ("NoTalk", A_NoTalk), ("NoDeed", A_NoDeed)] : List (Str × Addr)) = some A_NoRow := by kernel_rfl
  have lk_NoWord : List.lookup ("NoWord" : Str) ([("BookError", A_BookError), ("NoRoom", A_NoRoom), ("NoRow", A_NoRow), ("NoWord", A_NoWord), ("Wait", A_Wait), ("NoText", A_NoText), ("Held", A_Held), ("NoTalk", A_NoTalk), ("NoDeed", A_NoDeed)] : List (Str × Addr)) = some A_NoWord := by kernel_rfl
  have lk_Wait : List.lookup ("Wait" : Str) ([("BookError", A_BookError), ("NoRoom", A_NoRoom), ("NoRow", A_NoRow), ("NoWord", A_NoWord), ("Wait", A_Wait), ("NoText", A_NoText), ("Held", A_Held), ("NoTalk", A_NoTalk), ("NoDeed", A_NoDeed)] : List (Str × Addr)) = some A_Wait := by kernel_rfl
  have lk_NoText : List.lookup ("NoText" : Str) ([("BookError", A_BookError), ("NoRoom", A_NoRoom), ("NoRow", A_NoRow), ("NoWord", A_NoWord), ("Wait", A_Wait), ("NoText", A_NoText), ("Held", A_Held), ("NoTalk", A_NoTalk), ("NoDeed", A_NoDeed)] : List (Str × Addr)) = some A_NoText := by kernel_rfl
  have lk_Held : List.lookup ("Held" : Str) ([("BookError", A_BookError), ("NoRoom", A_NoRoom), ("NoRow", A_NoRow), ("NoWord", A_NoWord), ("Wait", A_Wait), ("NoText", A_NoText), ("Held", A_Held), ("NoTalk", A_NoTalk), ("NoDeed", A_NoDeed)] : List (Str × Addr)) = some A_Held := by kernel_rfl
  have lk_NoTalk : List.lookup ("NoTalk" : Str) ([("BookError", A_BookError), ("NoRoom", A_NoRoom), ("NoRow", A_NoRow), ("NoWord", A_NoWord), ("Wait", A_Wait), ("NoText", A_NoText), ("Held", A_Held), ("NoTalk", A_NoTalk), ("NoDeed", A_NoDeed)] : List (Str × Addr)) = some A_NoTalk := by kernel_rfl
  have lk_NoDeed : List.lookup ("NoDeed" : Str) ([("BookError", A_BookError), ("NoRoom", A_NoRoom), ("NoRow", A_NoRow), ("NoWord", A_NoWord), ("Wait", A_Wait), ("NoText", A_NoText), ("Held", A_Held), ("NoTalk", A_NoTalk), ("NoDeed", A_NoDeed)] : List (Str × Addr)) = some A_NoDeed := by kernel_rfl
  have B : BIni K mg "BookError" A_BookError := ⟨PySem.W.mg_of X G b_BookError, y_sp, y_rd, y_fc⟩
  have fn_NoWord := fun_mk (st := s_NoWord_i) l_NoWord e_NoWord k_NoWord
  have fn_Wait := fun_mk (st := s_Wait_i) l_Wait e_Wait k_Wait
  have fn_NoText := fun_mk (st := s_NoText_i) l_NoText e_NoText k_NoText
  have fn_Held := fun_mk (st := s_Held_i) l_Held e_Held k_Held
  have fn_NoTalk := fun_mk (st := s_NoTalk_i) l_NoTalk e_NoTalk k_NoTalk
  have fn_NoDeed := fun_mk (st := s_NoDeed_i) l_NoDeed e_NoDeed k_NoDeed
  have U : Ux l.prog w K mg base (fun c => List.lookup c ([("BookError", A_BookError), ("NoRoom", A_NoRoom), ("NoRow", A_NoRow), ("NoWord", A_NoWord), ("Wait", A_Wait), ("NoText", A_NoText), ("Held", A_Held), ("NoTalk", A_NoTalk), ("NoDeed", A_NoDeed)] : List (Str × Addr))) [] := ⟨tab, ⟨_, lk_BookError, PySem.W.mg_of X G b_BookError⟩, ⟨_, lk_NoRoom, PySem.W.mg_of X G b_NoRoom⟩, ⟨_, lk_NoRow, PySem.W.mg_of X G b_NoRow⟩, ⟨_, lk_NoWord, PySem.W.mg_of X G b_NoWord⟩, ⟨_, lk_Wait, PySem.W.mg_of X G b_Wait⟩, ⟨_, lk_NoText, PySem.W.mg_of X G b_NoText⟩, ⟨_, lk_Held, PySem.W.mg_of X G b_Held⟩, ⟨_, lk_NoTalk, PySem.W.mg_of X G b_NoTalk⟩, ⟨_, lk_NoDeed, PySem.W.mg_of X G b_NoDeed⟩, ⟨_, lk_NoRoom, PySem.W.mg_of X G b_NoRoom, tab.ex "NoRoom" _ lk_NoRoom, q_NoRoom⟩, ⟨_, lk_NoRow, PySem.W.mg_of X G b_NoRow, tab.ex "NoRow" _ lk_NoRow, q_NoRow⟩, ⟨_, _, _, lk_NoWord, PySem.W.mg_of X G b_NoWord, tab.ex "NoWord" _ lk_NoWord, i_NoWord, t_NoWord, ini_NoWord fn_NoWord (tab.ex "NoWord" _ lk_NoWord) (nof_mk nf_number "NoWord" _ lk_NoWord) B, fn_NoWord.binds fun _ _ _ _ _ _ us hl => match us, hl with | [_, _], _ => rfl, fun_kbn fn_NoWord fun _ _ _ _ _ _ _ _ => rfl⟩, ⟨_, _, _, lk_Wait, PySem.W.mg_of X G b_Wait, tab.ex "Wait" _ lk_Wait, i_Wait, t_Wait, ini_Wait fn_Wait (tab.ex "Wait" _ lk_Wait) (nof_mk nf_need "Wait" _ lk_Wait) B, fn_Wait.binds fun _ _ _ _ _ _ us hl => match us, hl with | [_, _], _ => rfl, fun_kbn fn_Wait fun _ _ _ _ _ _ _ _ => rfl⟩, ⟨_, _, _, lk_NoText, PySem.W.mg_of X G b_NoText, tab.ex "NoText" _ lk_NoText, i_NoText, t_NoText, ini_NoText fn_NoText (tab.ex "NoText" _ lk_NoText) (nof_mk nf_at "NoText" _ lk_NoText) B, fn_NoText.binds fun _ _ _ _ _ _ us hl => match us, hl with | [_, _], _ => rfl, fun_kbn fn_NoText fun _ _ _ _ _ _ _ _ => rfl⟩, ⟨_, _, _, lk_Held, PySem.W.mg_of X G b_Held, tab.ex "Held" _ lk_Held, i_Held, t_Held, ini_Held fn_Held (tab.ex "Held" _ lk_Held) (nof_mk nf_number "Held" _ lk_Held) B, fn_Held.binds fun _ _ _ _ _ _ us hl => match us, hl with | [_, _], _ => rfl, fun_kbn fn_Held fun _ _ _ _ _ _ _ _ => rfl⟩, ⟨_, _, _, lk_NoTalk, PySem.W.mg_of X G b_NoTalk, tab.ex "NoTalk" _ lk_NoTalk, i_NoTalk, t_NoTalk, ini_NoTalk fn_NoTalk (tab.ex "NoTalk" _ lk_NoTalk) (nof_mk nf_talk "NoTalk" _ lk_NoTalk) B, fn_NoTalk.binds fun _ _ _ _ _ _ us hl => match us, hl with | [_, _], _ => rfl, fun_kbn fn_NoTalk fun _ _ _ _ _ _ _ _ => rfl⟩, ⟨_, _, _, lk_NoDeed, PySem.W.mg_of X G b_NoDeed, tab.ex "NoDeed" _ lk_NoDeed, i_NoDeed, t_NoDeed, ini_NoDeed fn_NoDeed (tab.ex "NoDeed" _ lk_NoDeed) (nof_mk nf_many "NoDeed" _ lk_NoDeed) B, fn_NoDeed.binds fun _ _ _ _ _ _ us hl => match us, hl with | [_, _], _ => rfl, fun_kbn fn_NoDeed fun _ _ _ _ _ _ _ _ => rfl⟩, nof_mk nf_at, nof_mk nf_many, nof_mk nf_need, nof_mk nf_number, nof_mk nf_talk⟩
  have c_law_bowl := ok_law_bowl (P := l.prog) (w := w) (base := base) (cl := fun c => List.lookup c ([("BookError", A_BookError), ("NoRoom", A_NoRoom), ("NoRow", A_NoRow), ("NoWord", A_NoWord), ("Wait", A_Wait), ("NoText", A_NoText), ("Held", A_Held), ("NoTalk", A_NoTalk), ("NoDeed", A_NoDeed)] : List (Str × Addr))) (tb := []) (fun_mk (st := s_law_bowl) l1 e1 k1) (PySem.W.mg_of X G a1) T U 
  have c_law_spoon := ok_law_spoon (P := l.prog) (w := w) (base := base) (cl := fun c => List.lookup c ([("BookError", A_BookError), ("NoRoom", A_NoRoom), ("NoRow", A_NoRow), ("NoWord", A_NoWord), ("Wait", A_Wait), ("NoText", A_NoText), ("Held", A_Held), ("NoTalk", A_NoTalk), ("NoDeed", A_NoDeed)] : List (Str × Addr))) (tb := []) (fun_mk (st := s_law_spoon) l2 e2 k2) (PySem.W.mg_of X G a2) T U 
  have c_law_kinds := ok_law_kinds (P := l.prog) (w := w) (base := base) (cl := fun c => List.lookup c ([("BookError", A_BookError), ("NoRoom", A_NoRoom), ("NoRow", A_NoRow), ("NoWord", A_NoWord), ("Wait", A_Wait), ("NoText", A_NoText), ("Held", A_Held), ("NoTalk", A_NoTalk), ("NoDeed", A_NoDeed)] : List (Str × Addr))) (tb := []) (fun_mk (st := s_law_kinds) l3 e3 k3) (PySem.W.mg_of X G a3) T U 
  exact law_end (C := ⟨K, fun c => List.lookup c ([("BookError", A_BookError), ("NoRoom", A_NoRoom), ("NoRow", A_NoRow), ("NoWord", A_NoWord), ("Wait", A_Wait), ("NoText", A_NoText), ("Held", A_Held), ("NoTalk", A_NoTalk), ("NoDeed", A_NoDeed)] : List (Str × Addr)), []⟩) rfl rfl (okF_law (P := l.prog) (w := w) (base := base) (cl := fun c => List.lookup c ([("BookError", A_BookError), ("NoRoom", A_NoRoom), ("NoRow", A_NoRow), ("NoWord", A_NoWord), ("Wait", A_Wait), ("NoText", A_NoText), ("Held", A_Held), ("NoTalk", A_NoTalk), ("NoDeed", A_NoDeed)] : List (Str × Addr))) (fun_mk (st := s_law) l4 e4 k4) T U c_law_bowl c_law_spoon c_law_kinds) law_pure
theorem walk {l : PySem.W.OpenLaw} {q : Program} {loose : List Str} {XP : (Str → Option Value) → Heap → Prop} {YP : World → Heap → Prop} {d : DefRec} {K : Params → PySem.W.Frag} (hn : l.most = some 63) (hdf : d.params.defaults = [])
    (hY : ∀ (w : World) (h : Heap), YP w h → (K w.params).In h)
    (F : ∀ (w : World) (mg : Str → Option Value) (fa : Addr) (h : Heap), (K w.params).In h → h.Ns mainGlobals mg → mg d.name = some (.ref fa) →
      ∃ fd : FuncData, (∀ (s : Shared) (u : Value), BindsTo s fd ⟨[u], []⟩ [("script", u)]) ∧ ∀ base : Heap, (K w.params).In base → base.Ns mainGlobals mg → FnOk l.prog w (K w.params) mg base CX0 3 fa fd ["script"] (spLaw (K w.params))) :
    PySem.W.WalkO q loose XP YP l.row.toRowW d [] (fun f vs => PySem.call f vs) :=
  L2.walk_of (n := 63) (k := 3) (x := "script") (CX := fun _ => CX0) (sp := fun w => spLaw (K w.params)) hn (by decide) hdf ⟨rfl, by decide, by decide⟩ hY F (fun _ _ a ns hl _ hS => ⟨a, ns, rfl, hS, hl, fun _ => rfl⟩) fun _ _ _ _ _ z => z
end Lw
open PySem PySem.W PyProof.Rows
set_option maxRecDepth 100000 in
set_option maxHeartbeats 0 in
theorem PySem.Challenge.cw_nickbook_k81_errors_made_holds : PySem.Challenge.rw_nickbook_k81_errors_made.Holds := by
  w_on; o_law; k_head; (case hw => w_witness2)
  k_fill
  refine Lw.walk (l := PySem.Challenge.rw_nickbook_k81_errors_made) rfl rfl (fun w h Y => PySem.W.kIn_of Y) ?F
  case F =>
    intro w mg fa h KX G hmg 
    refine' Lw.all_mk KX G hmg  ?a1 ?l1 ?e1 ?k1 ?a2 ?l2 ?e2 ?k2 ?a3 ?l3 ?e3 ?k3 ?a4 ?l4 ?e4 ?k4 ?z_ValueError ?z_bool ?z_int ?z_isinstance ?z_len ?z_max ?z_min ?z_range ?b_BookError ?b_NoRoom ?b_NoRow ?b_NoWord ?b_Wait ?b_NoText ?b_Held ?b_NoTalk ?b_NoDeed ?q_NoRoom ?q_NoRow ?i_NoWord ?t_NoWord ?l_NoWord ?e_NoWord ?k_NoWord ?i_Wait ?t_Wait ?l_Wait ?e_Wait ?k_Wait ?i_NoText ?t_NoText ?l_NoText ?e_NoText ?k_NoText ?i_Held ?t_Held ?l_Held ?e_Held ?k_Held ?i_NoTalk ?t_NoTalk ?l_NoTalk ?e_NoTalk ?k_NoTalk ?i_NoDeed ?t_NoDeed ?l_NoDeed ?e_NoDeed ?k_NoDeed ?y_sp ?y_rd ?y_fc ?tb ?nf_at ?nf_many ?nf_need ?nf_number ?nf_talk
    (case a1 => k_is); (case l1 => k_is); (case e1 => k_is); (case k1 => k_is); (case a2 => k_is); (case l2 => k_is); (case e2 => k_is); (case k2 => k_is); (case a3 => k_is); (case l3 => k_is); (case e3 => k_is); (case k3 => k_is); (case a4 => k_is); (case l4 => k_is); (case e4 => k_is); (case k4 => k_is); (case z_ValueError => k_is); (case z_bool => k_is); (case z_int => k_is); (case z_isinstance => k_is); (case z_len => k_is); (case z_max => k_is); (case z_min => k_is); (case z_range => k_is); (case b_BookError => k_is); (case b_NoRoom => k_is); (case b_NoRow => k_is); (case b_NoWord => k_is); (case b_Wait => k_is); (case b_NoText => k_is); (case b_Held => k_is); (case b_NoTalk => k_is); (case b_NoDeed => k_is); (case q_NoRoom => k_exc); (case q_NoRow => k_exc); (case i_NoWord => k_is); (case t_NoWord => k_is); (case l_NoWord => k_is); (case e_NoWord => k_is); (case k_NoWord => k_is); (case i_Wait => k_is); (case t_Wait => k_is); (case l_Wait => k_is); (case e_Wait => k_is); (case k_Wait => k_is); (case i_NoText => k_is); (case t_NoText => k_is); (case l_NoText => k_is); (case e_NoText => k_is); (case k_NoText => k_is); (case i_Held => k_is); (case t_Held => k_is); (case l_Held => k_is); (case e_Held => k_is); (case k_Held => k_is); (case i_NoTalk => k_is); (case t_NoTalk => k_is); (case l_NoTalk => k_is); (case e_NoTalk => k_is); (case k_NoTalk => k_is); (case i_NoDeed => k_is); (case t_NoDeed => k_is); (case l_NoDeed => k_is); (case e_NoDeed => k_is); (case k_NoDeed => k_is); (case y_sp => k_is); (case y_rd => k_is); (case y_fc => k_is); (case tb => kernel_rfl); (case nf_at => kernel_rfl); (case nf_many => kernel_rfl); (case nf_need => kernel_rfl); (case nf_number => kernel_rfl); (case nf_talk => kernel_rfl)
