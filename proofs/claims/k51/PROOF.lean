import PyProof.Rows.All
import Wide.All
import OpenK.AllK
import Wide.FinOn
import HandS.ForMost
import HandS.Exc
import HandS.ExcOwn
import HandS.TryOnly
import HandS.TryMany
import HandS.WordsExc
import HandS.CallSlots
import HandS.TupAny
import HandS.TupMul
import HandS.Deep
import HandS.IsInst
import HandS.Wide
import HandS.More
import HandS.Lambda
import HandS.RaiseMore
import HandS.ExcInit
import HandS.ExcIs
import KE.KExcIs
import KE.GoesRaise
import HandS.Zip
import KE.GoesMore
import KE.DataFind
import HandS.SortInts
import HandS.SetTxt0
import HandS.Set
import PyProof.Rows.SortShellAny
import HandS.EndTab
import HandS.Iter
import HandS.Text
import HandS.Style
import PyProof.ReprRoads
import PyProof.CallFns
import PyProof.ListStr
import PyProof.P3In
import HandS.DictTup
import PyProof.DictMoreH
import HandS.SortRule
import HandS.Conv
import HandS.RevRange
import HandS.SortOrd
import KE.KEqDict
import KE.SortData
import KE.KDictDisplayH
import HandS.Rev
import KE.IntTextLaws
import PyProof.ReprLen
import PySem.Challenge.RW_nickbook_k51_whole_rows_put_together
set_option Elab.async false
set_option linter.all false
set_option maxRecDepth 100000
set_option maxHeartbeats 4000000
namespace Dn
open PySem
/-- values; a list that nobody changes any more is a value, one that may change is a place -/
inductive D where
  | non | bl (b : Bool) | int (i : Int) | str (x : Str) | tup (l : List D) | lst (l : List D) | ref (n : Nat) | exn (c : Str) (fs : List (Str × D)) | scr (ns : List Int)
deriving Inhabited
/-- what stands at a place -/
inductive HD where
  | lst (l : List D) | dct (kvs : List (D × D)) | dtt (kvs : List (D × D)) | lck (kvs : List (D × D)) | lct (kvs : List (D × D)) | ins (c : Str) (fs : List (Str × D)) | dead
deriving Inhabited
abbrev Hm := List HD
abbrev Ev := List (Option D)
mutual
def D.beq : D → D → Bool
  | .non, .non => true
  | .bl a, .bl b => a == b
  | .int a, .int b => a == b
  | .str a, .str b => a == b
  | .tup a, .tup b => D.beqL a b
  | .lst a, .lst b => D.beqL a b
  | .ref a, .ref b => a == b
  | .exn c fs, .exn c' fs' => c == c' && D.beqF fs fs'
  | .scr a, .scr b => a == b
  | _, _ => false
def D.beqL : List D → List D → Bool
  | [], [] => true
  | x :: xs, y :: ys => D.beq x y && D.beqL xs ys
  | _, _ => false
def D.beqF : List (Str × D) → List (Str × D) → Bool
  | [], [] => true
  | (f, x) :: xs, (g, y) :: ys => f == g && D.beq x y && D.beqF xs ys
  | _, _ => false
end
mutual
theorem D.beq_refl : ∀ a : D, D.beq a a = true
  | .non => by simp [D.beq]
  | .bl a => by simp [D.beq]
  | .int a => by simp [D.beq]
  | .str a => by simp [D.beq]
  | .tup a => by simp [D.beq, D.beqL_refl a]
  | .lst a => by simp [D.beq, D.beqL_refl a]
  | .ref a => by simp [D.beq]
  | .exn c fs => by simp [D.beq, D.beqF_refl fs]
  | .scr a => by simp [D.beq]
theorem D.beqL_refl : ∀ a : List D, D.beqL a a = true
  | [] => by simp [D.beqL]
  | x :: xs => by simp [D.beqL, D.beq_refl x, D.beqL_refl xs]
theorem D.beqF_refl : ∀ a : List (Str × D), D.beqF a a = true
  | [] => by simp [D.beqF]
  | (f, x) :: xs => by simp [D.beqF, D.beq_refl x, D.beqF_refl xs]
end
mutual
theorem D.beq_eq : ∀ a b : D, D.beq a b = true → a = b
  | .non, b, h => by cases b <;> simp_all [D.beq]
  | .bl a, b, h => by cases b <;> simp_all [D.beq]
  | .int a, b, h => by cases b <;> simp_all [D.beq]
  | .str a, b, h => by cases b <;> simp_all [D.beq]
  | .tup a, b, h => by
    cases b with
    | tup b => rw [D.beqL_eq a b (by simpa [D.beq] using h)]
    | _ => simp [D.beq] at h
  | .lst a, b, h => by
    cases b with
    | lst b => rw [D.beqL_eq a b (by simpa [D.beq] using h)]
    | _ => simp [D.beq] at h
  | .ref a, b, h => by cases b <;> simp_all [D.beq]
  | .scr a, b, h => by cases b <;> simp_all [D.beq]
  | .exn c fs, b, h => by
    cases b with
    | exn c' fs' =>
      simp only [D.beq, Bool.and_eq_true, beq_iff_eq] at h
      rw [h.1, D.beqF_eq fs fs' h.2]
    | _ => simp [D.beq] at h
theorem D.beqL_eq : ∀ a b : List D, D.beqL a b = true → a = b
  | [], b, h => by cases b <;> simp_all [D.beqL]
  | x :: xs, [], h => by simp [D.beqL] at h
  | x :: xs, y :: ys, h => by
    simp only [D.beqL, Bool.and_eq_true] at h
    rw [D.beq_eq x y h.1, D.beqL_eq xs ys h.2]
theorem D.beqF_eq : ∀ a b : List (Str × D), D.beqF a b = true → a = b
  | [], b, h => by cases b <;> simp_all [D.beqF]
  | (f, x) :: xs, [], h => by simp [D.beqF] at h
  | (f, x) :: xs, (g, y) :: ys, h => by
    simp only [D.beqF, Bool.and_eq_true, beq_iff_eq] at h
    rw [h.1.1, D.beq_eq x y h.1.2, D.beqF_eq xs ys h.2]
end
def beqP : List (D × D) → List (D × D) → Bool
  | [], [] => true
  | (a, b) :: r, (c, d) :: s => D.beq a c && D.beq b d && beqP r s
  | _, _ => false
theorem beqP_refl : ∀ a, beqP a a = true
  | [] => rfl
  | (a, b) :: r => by simp [beqP, D.beq_refl, beqP_refl r]
theorem beqP_eq : ∀ a b, beqP a b = true → a = b
  | [], b, h => by cases b <;> simp_all [beqP]
  | (a, b) :: r, [], h => by simp [beqP] at h
  | (a, b) :: r, (c, d) :: s, h => by
    simp only [beqP, Bool.and_eq_true] at h
    rw [D.beq_eq a c h.1.1, D.beq_eq b d h.1.2, beqP_eq r s h.2]
def HD.beq : HD → HD → Bool
  | .lst a, .lst b => D.beqL a b
  | .dct a, .dct b => beqP a b
  | .dtt a, .dtt b => beqP a b
  | .lck a, .lck b => beqP a b
  | .lct a, .lct b => beqP a b
  | .ins c a, .ins c' b => c == c' && D.beqF a b
  | .dead, .dead => true
  | _, _ => false
theorem HD.beq_refl : ∀ a : HD, HD.beq a a = true
  | .lst a => D.beqL_refl a
  | .dct a => beqP_refl a
  | .dtt a => beqP_refl a
  | .lck a => beqP_refl a
  | .lct a => beqP_refl a
  | .ins c a => by simp [HD.beq, D.beqF_refl]
  | .dead => rfl
theorem HD.beq_eq : ∀ a b : HD, HD.beq a b = true → a = b
  | .lst a, b, h => by
    cases b with
    | lst b => rw [D.beqL_eq a b h]
    | _ => simp [HD.beq] at h
  | .dct a, b, h => by
    cases b with
    | dct b => rw [beqP_eq a b h]
    | _ => simp [HD.beq] at h
  | .dtt a, b, h => by
    cases b with
    | dtt b => rw [beqP_eq a b h]
    | _ => simp [HD.beq] at h
  | .lck a, b, h => by
    cases b with
    | lck b => rw [beqP_eq a b h]
    | _ => simp [HD.beq] at h
  | .lct a, b, h => by
    cases b with
    | lct b => rw [beqP_eq a b h]
    | _ => simp [HD.beq] at h
  | .ins c a, b, h => by
    cases b with
    | ins c' b =>
      simp only [HD.beq, Bool.and_eq_true, beq_iff_eq] at h
      rw [h.1, D.beqF_eq a b h.2]
    | _ => simp [HD.beq] at h
  | .dead, b, h => by cases b <;> simp_all [HD.beq]
mutual
def D.cl (n : Nat) : D → Bool
  | .tup l => D.clL n l
  | .lst l => D.clL n l
  | .ref m => decide (m < n)
  | .exn _ fs => D.clF n fs
  | _ => true
def D.clL (n : Nat) : List D → Bool
  | [] => true
  | x :: xs => D.cl n x && D.clL n xs
def D.clF (n : Nat) : List (Str × D) → Bool
  | [] => true
  | (_, x) :: xs => D.cl n x && D.clF n xs
end
def clP (n : Nat) : List (D × D) → Bool
  | [] => true
  | (a, b) :: r => D.cl n a && D.cl n b && clP n r
def HD.cl (n : Nat) : HD → Bool
  | .lst l => D.clL n l
  | .dct l => clP n l
  | .dtt l => clP n l
  | .lck l => clP n l
  | .lct l => clP n l
  | .ins _ fs => D.clF n fs
  | .dead => true
inductive R (α : Type) where
  | ok (a : α) (h : Hm) | exc (e : D) (h : Hm) | err
def R.bind {α β : Type} (r : R α) (k : α → Hm → R β) : R β :=
  match r with
  | .ok a h => k a h
  | .exc e h => .exc e h
  | .err => .err
@[simp] theorem bind_ok {α β : Type} (a : α) (h : Hm) (k : α → Hm → R β) : (R.ok a h).bind k = k a h := rfl
@[simp] theorem bind_exc {α β : Type} (e : D) (h : Hm) (k : α → Hm → R β) : (R.exc e h).bind k = .exc e h := rfl
@[simp] theorem bind_err {α β : Type} (k : α → Hm → R β) : (R.err).bind k = .err := rfl
abbrev EM := Ev → Hm → R D
abbrev TM := Ev → Hm → R Bool
abbrev AM := Ev → Hm → R (List D)
/-- a def: arguments, heap -/
abbrev FM := List D → Hm → R D
/-- what comes of a statement -/
inductive Fl where
  | nx (v : Ev) (h : Hm) | rt (d : D) (h : Hm) | bk (v : Ev) (h : Hm) | ct (v : Ev) (h : Hm) | exc (e : D) (v : Ev) (h : Hm) | err
abbrev SM := Ev → Hm → Fl
/-- a list's items, wherever it stands -/
def items (h : Hm) : D → Option (List D)
  | .lst l => some l
  | .tup l => some l
  | .ref n => match h[n]? with
    | some (.lst l) => some l
    | _ => none
  | _ => none
def eV (i : Nat) : EM := fun v h => match v[i]? with
  | some (some d) => .ok d h
  | _ => .err
def eC (d : D) : EM := fun _ h => .ok d h
def eB (op : D → D → Hm → R D) (a b : EM) : EM := fun v h => (a v h).bind fun x h1 => (b v h1).bind fun y h2 => op x y h2
def eU (op : D → Hm → R D) (a : EM) : EM := fun v h => (a v h).bind op
def aN : AM := fun _ h => .ok [] h
def aC (a : EM) (r : AM) : AM := fun v h => (a v h).bind fun x h1 => (r v h1).bind fun xs h2 => .ok (x :: xs) h2
def eTup (a : AM) : EM := fun v h => (a v h).bind fun xs h1 => if xs.length ≤ 16777216 then .ok (.tup xs) h1 else .err
def eLst (a : AM) : EM := fun v h => (a v h).bind fun xs h1 => if xs.length ≤ 16777216 then .ok (.lst xs) h1 else .err
/-- a list that may change -/
def eNew (a : AM) : EM := fun v h => (a v h).bind fun xs h1 => if xs.length ≤ 16777216 then .ok (.ref h1.length) (h1 ++ [.lst xs]) else .err
/-- a call of a def, of a builtin -/
def eF (f : FM) (a : AM) : EM := fun v h => (a v h).bind f
/-- a list is laid down for good -/
def fz (d : D) (h : Hm) : R D := match d with
  | .ref n => match h[n]? with
    | some (.lst l) => .ok (.lst l) (h.set n .dead)
    | _ => .err
  | d => .ok d h
def eIf (t : TM) (a b : EM) : EM := fun v h => (t v h).bind fun c h1 => if c then a v h1 else b v h1
def eAnd (a b : EM) : EM := fun v h => (a v h).bind fun x h1 => match x with
  | .bl true => b v h1
  | .bl false => .ok (.bl false) h1
  | _ => .err
def eOr (a b : EM) : EM := fun v h => (a v h).bind fun x h1 => match x with
  | .bl false => b v h1
  | .bl true => .ok (.bl true) h1
  | _ => .err
def eNot (a : EM) : EM := fun v h => (a v h).bind fun x h1 => match x with
  | .bl c => .ok (.bl !c) h1
  | _ => .err
def tE (a : EM) : TM := fun v h => (a v h).bind fun x h1 => match x with
  | .bl c => .ok c h1
  | _ => .err
def tAnd (a b : TM) : TM := fun v h => (a v h).bind fun c h1 => if c then b v h1 else .ok false h1
def tOr (a b : TM) : TM := fun v h => (a v h).bind fun c h1 => if c then .ok true h1 else b v h1
def tNot (a : TM) : TM := fun v h => (a v h).bind fun c h1 => .ok (!c) h1
def sNx : SM := fun v h => .nx v h
def sSeq (a b : SM) : SM := fun v h => match a v h with
  | .nx v1 h1 => b v1 h1
  | o => o
/-- the slots that a target names are filled -/
abbrev TgM := D → Ev → Hm → Option Ev
def gN (i : Nat) : TgM := fun d v _ => some (v.set i (some d))
def fillAll : List Nat → List D → Ev → Option Ev
  | [], [], v => some v
  | i :: is, d :: ds, v => fillAll is ds (v.set i (some d))
  | _, _, _ => none
def gT (is : List Nat) : TgM := fun d v _ => match d with
  | .tup l => fillAll is l v
  | _ => none
def sAsg (g : TgM) (e : EM) : SM := fun v h => match e v h with
  | .ok d h1 => match g d v h1 with
    | some v1 => .nx v1 h1
    | none => .err
  | .exc x h1 => .exc x v h1
  | .err => .err
def sExpr (e : EM) : SM := fun v h => match e v h with
  | .ok _ h1 => .nx v h1
  | .exc x h1 => .exc x v h1
  | .err => .err
def sRet (e : EM) : SM := fun v h => match e v h with
  | .ok d h1 => .rt d h1
  | .exc x h1 => .exc x v h1
  | .err => .err
def sRetN : SM := fun _ h => .rt .non h
def sBreak : SM := fun v h => .bk v h
def sCont : SM := fun v h => .ct v h
def sIf (t : TM) (a b : SM) : SM := fun v h => match t v h with
  | .ok c h1 => if c then a v h1 else b v h1
  | .exc x h1 => .exc x v h1
  | .err => .err
/-- how a for walks: the items, and what must stay true of the heap while it walks -/
structure Wk where
  its : List D
  chk : Hm → Bool
def forL (g : TgM) (b : SM) (chk : Hm → Bool) : List D → SM
  | [] => fun v h => if chk h then .nx v h else .err
  | x :: xs => fun v h => if chk h then (match g x v h with
    | some v1 => match b v1 h with
      | .nx v2 h2 => forL g b chk xs v2 h2
      | .ct v2 h2 => forL g b chk xs v2 h2
      | .bk v2 h2 => .nx v2 h2
      | o => o
    | none => .err) else .err
def sFor (g : TgM) (w : Ev → Hm → R Wk) (b : SM) : SM := fun v h => match w v h with
  | .ok k h1 => forL g b k.chk k.its v h1
  | .exc x h1 => .exc x v h1
  | .err => .err
def whL (t : TM) (b : SM) : Nat → SM
  | 0 => fun _ _ => .err
  | n + 1 => fun v h => match t v h with
    | .ok true h1 => match b v h1 with
      | .nx v2 h2 => whL t b n v2 h2
      | .ct v2 h2 => whL t b n v2 h2
      | .bk v2 h2 => .nx v2 h2
      | o => o
    | .ok false h1 => .nx v h1
    | .exc x h1 => .exc x v h1
    | .err => .err
def sWh (t : TM) (b : SM) : SM := whL t b 1000000
def wkOf (d : D) (h : Hm) : R Wk := match d with
  | .lst l => .ok ⟨l, fun _ => true⟩ h
  | .tup l => .ok ⟨l, fun _ => true⟩ h
  | .str x => .ok ⟨x.cps.toList.map fun c => .str ⟨#[c]⟩, fun _ => true⟩ h
  | .ref n => match h[n]? with
    | some (.lst l) => .ok ⟨l, fun h' => match h'[n]? with | some o => HD.beq o (.lst l) | none => false⟩ h
    | _ => .err
  | _ => .err
def wE (e : EM) : Ev → Hm → R Wk := fun v h => (e v h).bind wkOf
def wRange (lo hi : Int) (h : Hm) : R Wk := if lo < 2 ^ 62 ∧ -(2 ^ 62) ≤ lo ∧ hi < 2 ^ 62 ∧ -(2 ^ 62) ≤ hi then .ok ⟨(List.range (hi - lo).toNat).map fun (i : Nat) => .int (lo + (i : Int)), fun _ => true⟩ h else .err
def wR1 (e : EM) : Ev → Hm → R Wk := fun v h => (e v h).bind fun x h1 => match x with
  | .int n => wRange 0 n h1
  | _ => .err
def wR2 (a b : EM) : Ev → Hm → R Wk := fun v h => (a v h).bind fun x h1 => (b v h1).bind fun y h2 => match x, y with
  | .int m, .int n => wRange m n h2
  | _, _ => .err
def wipeE (v : Ev) (own : List Nat) : Ev := own.foldr (fun i w => w.set i none) v
/-- nothing is raised in there -/
def R.nx {α : Type} : R α → R α
  | .exc _ _ => .err
  | r => r
@[simp] theorem nx_ok {α : Type} (a : α) (h : Hm) : (R.ok a h).nx = .ok a h := rfl
def lcL (g : TgM) (t : TM) (e : EM) (chk : Hm → Bool) (v : Ev) : List D → Hm → R (List D)
  | [], h => if chk h then .ok [] h else .err
  | x :: xs, h => if chk h then (match g x v h with
    | some v1 => (t v1 h).nx.bind fun c h1 => if c then (e v1 h1).nx.bind fun y h2 => (lcL g t e chk v xs h2).bind fun ys h3 => .ok (y :: ys) h3 else lcL g t e chk v xs h1
    | none => .err) else .err
def eLc (own : List Nat) (g : TgM) (w : Ev → Hm → R Wk) (t : TM) (e : EM) : EM := fun v h => (w v h).bind fun k h1 =>
  if k.its.length ≤ 16777215 then (lcL g t e k.chk (wipeE v own) k.its h1).bind fun ys h2 => .ok (.lst ys) h2 else .err
def tYes : TM := fun _ h => .ok true h
def fn (np nl : Nat) (b : SM) : FM := fun ds h => if ds.length = np then match b (ds.map some ++ List.replicate (nl - np) none) h with
  | .nx _ h1 => .ok .non h1
  | .rt d h1 => .ok d h1
  | .exc e _ h1 => .exc e h1
  | _ => .err else .err
/-- a def that raises nothing -/
def fn0 (np nl : Nat) (b : SM) : FM := fun ds h => (fn np nl b ds h).nx
/-- a def whose own places go when it ends -/
def trOk : Hm → Hm → Nat → Bool
  | [], _, _ => true
  | _ :: _, [], _ => false
  | o :: r, p :: s, n => (HD.beq o p || HD.cl n p) && trOk r s n
def tr (f : FM) : FM := fun ds h => match f ds h with
  | .ok d h1 => if D.cl h.length d && trOk h h1 h.length then .ok d (h1.take h.length) else .err
  | .exc e h1 => if D.cl h.length e && trOk h h1 h.length then .exc e (h1.take h.length) else .err
  | .err => .err
end Dn
set_option Elab.async false
set_option linter.all false
set_option maxRecDepth 100000
set_option maxHeartbeats 4000000
namespace Dn
open PySem PySem.Spec PyProof.Rows L2
/-- the written part, the classes by their names -/
structure Cn where
  K : PySem.W.Frag
  cls : Str → Option Addr
  /-- tables of code objects -/
  T : List (Addr × Str)
/-- an exception that was caught: its class, its own dict's place -/
def exH (a A : Addr) (od : Option Addr) : HO := .ext fun h => ∃ oe vs, h.get? a = some oe ∧ oe.cls = .ref A ∧ oe.dict = od ∧ oe.data = .fields vs
mutual
inductive Rep (C : Cn) (Z : Hp) (m : List Addr) : D → V → Prop
  | non : Rep C Z m .non .non
  | bl (b : Bool) : Rep C Z m (.bl b) (.bl b)
  | int (i : Int) : Rep C Z m (.int i) (.int i)
  | str (x : Str) : Rep C Z m (.str x) (.str x)
  | tup {a : Addr} {vs : List V} {l : List D} : Z a = some (.tup vs) → RepL C Z m l vs → Rep C Z m (.tup l) (.ref a)
  | lst {a : Addr} {vs : List V} {l : List D} : Z a = some (.lst vs) → RepL C Z m l vs → Rep C Z m (.lst l) (.ref a)
  | scr {a : Addr} {ns : List Int} : SqL C.K Z a (ns.map V.int) → Rep C Z m (.scr ns) (.ref a)
  | ref {n : Nat} {a : Addr} : m[n]? = some a → Rep C Z m (.ref n) (.ref a)
  | exn0 {a A : Addr} {c : Str} : C.cls c = some A → Z a = some (exH a A none) → Rep C Z m (.exn c []) (.ref a)
  | exn1 {a A d : Addr} {c : Str} {fs : List (Str × D)} {gs : List (Str × V)} : C.cls c = some A → Z a = some (exH a A (some d)) → Z d = some (.xd gs) → RepF C Z m fs gs → Rep C Z m (.exn c fs) (.ref a)
inductive RepL (C : Cn) (Z : Hp) (m : List Addr) : List D → List V → Prop
  | nil : RepL C Z m [] []
  | cons {d : D} {v : V} {ds : List D} {vs : List V} : Rep C Z m d v → RepL C Z m ds vs → RepL C Z m (d :: ds) (v :: vs)
inductive RepF (C : Cn) (Z : Hp) (m : List Addr) : List (Str × D) → List (Str × V) → Prop
  | nil : RepF C Z m [] []
  | cons {f : Str} {d : D} {v : V} {ds : List (Str × D)} {vs : List (Str × V)} : Rep C Z m d v → RepF C Z m ds vs → RepF C Z m ((f, d) :: ds) ((f, v) :: vs)
end
section
variable {C : Cn} {Z Z' H : Hp} {m m' : List Addr}
theorem sqL_mono {K : PySem.W.Frag} (hz : ∀ a o, Z a = some o → Z' a = some o) {a : Addr} {xs : List V} (h : SqL K Z a xs) : SqL K Z' a xs := by
  rcases h with (h | ⟨o, h⟩) | h
  · exact .inl (.inl (hz _ _ h))
  · exact .inl (.inr ⟨o, hz _ _ h⟩)
  · exact .inr h
theorem sqT_mono {K : PySem.W.Frag} (hz : ∀ a o, Z a = some o → Z' a = some o) {a : Addr} {xs : List V} (h : SqT K Z a xs) : SqT K Z' a xs := by
  rcases h with (h | ⟨o, h⟩) | h
  · exact .inl (.inl (hz _ _ h))
  · exact .inl (.inr ⟨o, hz _ _ h⟩)
  · exact .inr h
theorem pre_get {m m' : List Addr} (hm : m <+: m') {n : Nat} {a : Addr} (h : m[n]? = some a) : m'[n]? = some a := by
  obtain ⟨t, rfl⟩ := hm
  rw [List.getElem?_append_left (List.getElem?_eq_some_iff.mp h).1]
  exact h
mutual
theorem Rep.mono (hz : ∀ a o, Z a = some o → Z' a = some o) (hm : m <+: m') : ∀ {d : D} {v : V}, Rep C Z m d v → Rep C Z' m' d v
  | _, _, .non => .non
  | _, _, .bl b => .bl b
  | _, _, .int i => .int i
  | _, _, .str x => .str x
  | _, _, .tup a b => .tup (hz _ _ a) (RepL.mono hz hm b)
  | _, _, .lst a b => .lst (hz _ _ a) (RepL.mono hz hm b)
  | _, _, .scr a => .scr (sqL_mono hz a)
  | _, _, .ref a => .ref (pre_get hm a)
  | _, _, .exn0 a b => .exn0 a (hz _ _ b)
  | _, _, .exn1 a b c r => .exn1 a (hz _ _ b) (hz _ _ c) (RepF.mono hz hm r)
theorem RepL.mono (hz : ∀ a o, Z a = some o → Z' a = some o) (hm : m <+: m') : ∀ {d : List D} {v : List V}, RepL C Z m d v → RepL C Z' m' d v
  | _, _, .nil => .nil
  | _, _, .cons a b => .cons (Rep.mono hz hm a) (RepL.mono hz hm b)
theorem RepF.mono (hz : ∀ a o, Z a = some o → Z' a = some o) (hm : m <+: m') : ∀ {d : List (Str × D)} {v : List (Str × V)}, RepF C Z m d v → RepF C Z' m' d v
  | _, _, .nil => .nil
  | _, _, .cons a b => .cons (Rep.mono hz hm a) (RepF.mono hz hm b)
end
theorem RepL.length : ∀ {d : List D} {v : List V}, RepL C Z m d v → d.length = v.length
  | _, _, .nil => rfl
  | _, _, .cons _ b => by simp [RepL.length b]
theorem RepL.get : ∀ {d : List D} {v : List V} {i : Nat} {x : D}, RepL C Z m d v → d[i]? = some x → ∃ y, v[i]? = some y ∧ Rep C Z m x y
  | _, _, _, _, .nil, e => by simp at e
  | _, _, 0, _, .cons a _, e => by simp at e; subst e; exact ⟨_, rfl, a⟩
  | _, _, i + 1, _, .cons _ b, e => by
    obtain ⟨y, h1, h2⟩ := RepL.get (i := i) b (by simpa using e)
    exact ⟨y, by simpa using h1, h2⟩
theorem RepL.getV : ∀ {d : List D} {v : List V} {i : Nat} {y : V}, RepL C Z m d v → v[i]? = some y → ∃ x, d[i]? = some x ∧ Rep C Z m x y
  | _, _, _, _, .nil, e => by simp at e
  | _, _, 0, _, .cons a _, e => by simp at e; subst e; exact ⟨_, rfl, a⟩
  | _, _, i + 1, _, .cons _ b, e => by
    obtain ⟨y, h1, h2⟩ := RepL.getV (i := i) b (by simpa using e)
    exact ⟨y, by simpa using h1, h2⟩
theorem RepL.append : ∀ {d d' : List D} {v v' : List V}, RepL C Z m d v → RepL C Z m d' v' → RepL C Z m (d ++ d') (v ++ v')
  | _, _, _, _, .nil, h => h
  | _, _, _, _, .cons a b, h => .cons a (RepL.append b h)
theorem RepL.take : ∀ {d : List D} {v : List V} (n : Nat), RepL C Z m d v → RepL C Z m (d.take n) (v.take n)
  | _, _, 0, _ => .nil
  | _, _, _ + 1, .nil => .nil
  | _, _, n + 1, .cons a b => .cons a (RepL.take n b)
theorem RepL.drop : ∀ {d : List D} {v : List V} (n : Nat), RepL C Z m d v → RepL C Z m (d.drop n) (v.drop n)
  | _, _, 0, r => r
  | _, _, _ + 1, .nil => .nil
  | _, _, n + 1, .cons _ b => RepL.drop n b
theorem RepL.set {x : D} {y : V} (r : Rep C Z m x y) : ∀ {d : List D} {v : List V} (n : Nat), RepL C Z m d v → RepL C Z m (d.set n x) (v.set n y)
  | _, _, _, .nil => .nil
  | _, _, 0, .cons _ b => .cons r b
  | _, _, n + 1, .cons a b => .cons a (RepL.set r n b)
theorem RepL.replicate : ∀ {d : List D} {v : List V} (n : Nat), RepL C Z m d v → RepL C Z m (List.replicate n d).flatten (List.replicate n v).flatten
  | _, _, 0, _ => .nil
  | _, _, n + 1, h => by
    rw [List.replicate_succ, List.replicate_succ, List.flatten_cons, List.flatten_cons]
    exact h.append (RepL.replicate n h)
theorem RepL.one {d : D} {v : V} (h : Rep C Z m d v) : RepL C Z m [d] [v] := .cons h .nil
theorem RepL.strs : ∀ {ys : List Str} {v : List V}, RepL C Z m (ys.map D.str) v → v = ys.map V.str
  | [], _, .nil => rfl
  | y :: ys, _, .cons a b => by
    cases a
    rw [RepL.strs b]; rfl
theorem RepL.ints : ∀ {ys : List Int} {v : List V}, RepL C Z m (ys.map D.int) v → v = ys.map V.int
  | [], _, .nil => rfl
  | y :: ys, _, .cons a b => by
    cases a
    rw [RepL.ints b]; rfl
theorem RepL.bls : ∀ {ys : List Bool} {v : List V}, RepL C Z m (ys.map D.bl) v → v = ys.map V.bl
  | [], _, .nil => rfl
  | y :: ys, _, .cons a b => by
    cases a
    rw [RepL.bls b]; rfl
mutual
theorem Rep.cut {k : Nat} : ∀ {d : D} {v : V}, Rep C Z m d v → D.cl k d = true → Rep C Z (m.take k) d v
  | _, _, .non, _ => .non
  | _, _, .bl b, _ => .bl b
  | _, _, .int i, _ => .int i
  | _, _, .str x, _ => .str x
  | _, _, .tup a b, h => .tup a (RepL.cut b (by simpa [D.cl] using h))
  | _, _, .lst a b, h => .lst a (RepL.cut b (by simpa [D.cl] using h))
  | _, _, .scr a, _ => .scr a
  | _, _, .ref (n := n) (a := a) e, h => .ref (by
    have hn : n < k := by simpa [D.cl] using h
    rw [List.getElem?_take_of_lt hn]; exact e)
  | _, _, .exn0 a b, _ => .exn0 a b
  | _, _, .exn1 a b c r, h => .exn1 a b c (RepF.cut r (by simpa [D.cl] using h))
theorem RepL.cut {k : Nat} : ∀ {d : List D} {v : List V}, RepL C Z m d v → D.clL k d = true → RepL C Z (m.take k) d v
  | _, _, .nil, _ => .nil
  | _, _, .cons a b, h => by
    simp only [D.clL, Bool.and_eq_true] at h
    exact .cons (Rep.cut a h.1) (RepL.cut b h.2)
theorem RepF.cut {k : Nat} : ∀ {d : List (Str × D)} {v : List (Str × V)}, RepF C Z m d v → D.clF k d = true → RepF C Z (m.take k) d v
  | _, _, .nil, _ => .nil
  | _, _, .cons a b, h => by
    simp only [D.clF, Bool.and_eq_true] at h
    exact .cons (Rep.cut a h.1) (RepF.cut b h.2)
end
mutual
theorem Rep.cl : ∀ {d : D} {v : V}, Rep C Z m d v → D.cl m.length d = true
  | _, _, .non => rfl
  | _, _, .bl b => rfl
  | _, _, .int i => rfl
  | _, _, .str x => rfl
  | _, _, .tup a b => by simpa [D.cl] using RepL.cl b
  | _, _, .lst a b => by simpa [D.cl] using RepL.cl b
  | _, _, .scr a => rfl
  | _, _, .ref e => by simpa [D.cl] using (List.getElem?_eq_some_iff.mp e).1
  | _, _, .exn0 a b => rfl
  | _, _, .exn1 a b c r => by simpa [D.cl] using RepF.cl r
theorem RepL.cl : ∀ {d : List D} {v : List V}, RepL C Z m d v → D.clL m.length d = true
  | _, _, .nil => rfl
  | _, _, .cons a b => by simp [D.clL, Rep.cl a, RepL.cl b]
theorem RepF.cl : ∀ {d : List (Str × D)} {v : List (Str × V)}, RepF C Z m d v → D.clF m.length d = true
  | _, _, .nil => rfl
  | _, _, .cons a b => by simp [D.clF, Rep.cl a, RepF.cl b]
end
end
/-- a dict's pairs: keys ints and texts -/
inductive RepK (C : Cn) (Z : Hp) (m : List Addr) : List (D × D) → List (L2.Key × V) → Prop
  | nil : RepK C Z m [] []
  | int {i : Int} {d : D} {v : V} {ds : List (D × D)} {vs : List (L2.Key × V)} : Rep C Z m d v → RepK C Z m ds vs → RepK C Z m ((.int i, d) :: ds) ((.inl i, v) :: vs)
  | str {x : Str} {d : D} {v : V} {ds : List (D × D)} {vs : List (L2.Key × V)} : Rep C Z m d v → RepK C Z m ds vs → RepK C Z m ((.str x, d) :: ds) ((.inr x, v) :: vs)
theorem RepK.mono {C : Cn} {Z Z' : Hp} {m m' : List Addr} (hz : ∀ a o, Z a = some o → Z' a = some o) (hm : m <+: m') : ∀ {d : List (D × D)} {v : List (L2.Key × V)}, RepK C Z m d v → RepK C Z' m' d v
  | _, _, .nil => .nil
  | _, _, .int a b => .int (a.mono hz hm) (RepK.mono hz hm b)
  | _, _, .str a b => .str (a.mono hz hm) (RepK.mono hz hm b)
theorem RepK.cut {C : Cn} {Z : Hp} {m : List Addr} {k : Nat} : ∀ {d : List (D × D)} {v : List (L2.Key × V)}, RepK C Z m d v → clP k d = true → RepK C Z (m.take k) d v
  | _, _, .nil, _ => .nil
  | _, _, .int a b, h => by
    simp only [clP, Bool.and_eq_true] at h
    exact .int (a.cut h.1.2) (RepK.cut b h.2)
  | _, _, .str a b, h => by
    simp only [clP, Bool.and_eq_true] at h
    exact .str (a.cut h.1.2) (RepK.cut b h.2)
theorem RepK.cl {C : Cn} {Z : Hp} {m : List Addr} : ∀ {d : List (D × D)} {v : List (L2.Key × V)}, RepK C Z m d v → clP m.length d = true
  | _, _, .nil => rfl
  | _, _, .int a b => by simp [clP, D.cl, a.cl, RepK.cl b]
  | _, _, .str a b => by simp [clP, D.cl, a.cl, RepK.cl b]
/-- keys that are tuples of numbers and texts -/
def keyE : D → Option L2.Key
  | .int i => some (.inl i)
  | .str x => some (.inr x)
  | _ => none
def keyL : List D → Option (List L2.Key)
  | [] => some []
  | x :: r => match keyE x, keyL r with
    | some k, some ks => some (k :: ks)
    | _, _ => none
def keyT : D → Option (List L2.Key)
  | .tup l => keyL l
  | _ => none
theorem keyL_cl {n : Nat} : ∀ {l : List D} {k : List L2.Key}, keyL l = some k → D.clL n l = true
  | [], _, _ => rfl
  | x :: r, k, h => by
    unfold keyL at h
    cases e1 : keyE x with
    | none => rw [e1] at h; cases h
    | some k1 =>
      cases e2 : keyL r with
      | none => rw [e1, e2] at h; cases h
      | some k2 =>
        have a : D.cl n x = true := by cases x <;> first | rfl | (simp [keyE] at e1)
        simp [D.clL, a, keyL_cl e2]
theorem keyT_cl {n : Nat} {d : D} {k : List L2.Key} (h : keyT d = some k) : D.cl n d = true := by
  cases d with
  | tup l => exact keyL_cl h
  | _ => cases h
inductive RepT (C : Cn) (Z : Hp) (m : List Addr) : List (D × D) → List (List L2.Key × V) → Prop
  | nil : RepT C Z m [] []
  | cons {a d : D} {k : List L2.Key} {v : V} {ds : List (D × D)} {vs : List (List L2.Key × V)} : keyT a = some k → Rep C Z m d v → RepT C Z m ds vs → RepT C Z m ((a, d) :: ds) ((k, v) :: vs)
theorem RepT.mono {C : Cn} {Z Z' : Hp} {m m' : List Addr} (hz : ∀ a o, Z a = some o → Z' a = some o) (hm : m <+: m') : ∀ {d : List (D × D)} {v : List (List L2.Key × V)}, RepT C Z m d v → RepT C Z' m' d v
  | _, _, .nil => .nil
  | _, _, .cons k a b => .cons k (a.mono hz hm) (RepT.mono hz hm b)
theorem RepT.cut {C : Cn} {Z : Hp} {m : List Addr} {k : Nat} : ∀ {d : List (D × D)} {v : List (List L2.Key × V)}, RepT C Z m d v → clP k d = true → RepT C Z (m.take k) d v
  | _, _, .nil, _ => .nil
  | _, _, .cons e a b, h => by
    simp only [clP, Bool.and_eq_true] at h
    exact .cons e (a.cut h.1.2) (RepT.cut b h.2)
theorem RepT.cl {C : Cn} {Z : Hp} {m : List Addr} : ∀ {d : List (D × D)} {v : List (List L2.Key × V)}, RepT C Z m d v → clP m.length d = true
  | _, _, .nil => rfl
  | _, _, .cons k a b => by simp [clP, keyT_cl k, a.cl, RepT.cl b]
/-- the class of that name, as the module's top has it -/
def ClsK (K : PySem.W.Frag) (c : Str) (A : Addr) : Prop := PySem.W.nsIn K mainGlobals c = some (some (.ref A))
theorem ClsK.uniq {K : PySem.W.Frag} {c : Str} {A B : Addr} (a : ClsK K c A) (b : ClsK K c B) : A = B := by
  have := a.symm.trans b
  injection this with e; injection e with e; injection e
def ObjAt (C : Cn) (Z : Hp) (m : List Addr) (o : HD) (a : Addr) (H : Hp) : Prop := match o with
  | .lst l => ∃ vs, H a = some (.lst vs) ∧ RepL C Z m l vs
  | .dct l => ∃ kvs, H a = some (.dK kvs) ∧ RepK C Z m l kvs
  | .dtt l => ∃ kvs, H a = some (.dT kvs) ∧ RepT C Z m l kvs
  | .lck l => ∃ o kvs, H a = some (.frz o (.dK kvs)) ∧ RepK C Z m l kvs
  | .lct l => ∃ o kvs, H a = some (.frz o (.dT kvs)) ∧ RepT C Z m l kvs
  | .ins c fs => ∃ A dx gs, ClsK C.K c A ∧ H a = some (.ins A dx gs) ∧ RepF C Z m fs gs
  | .dead => ∃ vs, H a = some (.lst vs)
theorem ObjAt.mono {C : Cn} {Z Z' H : Hp} {m m' : List Addr} (hz : ∀ a o, Z a = some o → Z' a = some o) (hm : m <+: m') {o : HD} {a : Addr} (h : ObjAt C Z m o a H) : ObjAt C Z' m' o a H := by
  cases o with
  | lst l => obtain ⟨vs, e, r⟩ := h; exact ⟨vs, e, r.mono hz hm⟩
  | dct l => obtain ⟨vs, e, r⟩ := h; exact ⟨vs, e, r.mono hz hm⟩
  | dtt l => obtain ⟨vs, e, r⟩ := h; exact ⟨vs, e, r.mono hz hm⟩
  | lck l => obtain ⟨o, vs, e, r⟩ := h; exact ⟨o, vs, e, r.mono hz hm⟩
  | lct l => obtain ⟨o, vs, e, r⟩ := h; exact ⟨o, vs, e, r.mono hz hm⟩
  | ins c fs => obtain ⟨A, dx, gs, e1, e, r⟩ := h; exact ⟨A, dx, gs, e1, e, r.mono hz hm⟩
  | dead => exact h
theorem ObjAt.cut {C : Cn} {Z H : Hp} {m : List Addr} {k : Nat} {o : HD} {a : Addr} (h : ObjAt C Z m o a H) (hc : HD.cl k o = true) : ObjAt C Z (m.take k) o a H := by
  cases o with
  | lst l => obtain ⟨vs, e, r⟩ := h; exact ⟨vs, e, r.cut hc⟩
  | dct l => obtain ⟨vs, e, r⟩ := h; exact ⟨vs, e, r.cut hc⟩
  | dtt l => obtain ⟨vs, e, r⟩ := h; exact ⟨vs, e, r.cut hc⟩
  | lck l => obtain ⟨o, vs, e, r⟩ := h; exact ⟨o, vs, e, r.cut hc⟩
  | lct l => obtain ⟨o, vs, e, r⟩ := h; exact ⟨o, vs, e, r.cut hc⟩
  | ins c fs => obtain ⟨A, dx, gs, e1, e, r⟩ := h; exact ⟨A, dx, gs, e1, e, r.cut hc⟩
  | dead => exact h
theorem ObjAt.cl {C : Cn} {Z H : Hp} {m : List Addr} {o : HD} {a : Addr} (h : ObjAt C Z m o a H) : HD.cl m.length o = true := by
  cases o with
  | lst l => obtain ⟨vs, e, r⟩ := h; exact r.cl
  | dct l => obtain ⟨vs, e, r⟩ := h; exact r.cl
  | dtt l => obtain ⟨vs, e, r⟩ := h; exact r.cl
  | lck l => obtain ⟨o, vs, e, r⟩ := h; exact r.cl
  | lct l => obtain ⟨o, vs, e, r⟩ := h; exact r.cl
  | ins c fs => obtain ⟨A, dx, gs, e1, e, r⟩ := h; exact r.cl
  | dead => rfl
theorem ObjAt.some {C : Cn} {Z H : Hp} {m : List Addr} {o : HD} {a : Addr} (h : ObjAt C Z m o a H) : ∃ u, H a = some u := by
  cases o with
  | lst l => obtain ⟨vs, e, r⟩ := h; exact ⟨_, e⟩
  | dct l => obtain ⟨vs, e, r⟩ := h; exact ⟨_, e⟩
  | dtt l => obtain ⟨vs, e, r⟩ := h; exact ⟨_, e⟩
  | lck l => obtain ⟨o, vs, e, r⟩ := h; exact ⟨_, e⟩
  | lct l => obtain ⟨o, vs, e, r⟩ := h; exact ⟨_, e⟩
  | ins c fs => obtain ⟨A, dx, gs, e1, e, r⟩ := h; exact ⟨_, e⟩
  | dead => obtain ⟨vs, e⟩ := h; exact ⟨_, e⟩
/-- neither a table nor anything of a kind of its own -/
def Plainly (o : HO) : Prop := (∀ ps, o ≠ .tbl ps) ∧ ∀ φ, o ≠ .ext φ
theorem objAt_plain {C : Cn} {Z H : Hp} {m : List Addr} {o : HD} {a : Addr} (h : ObjAt C Z m o a H) : ∃ u, H a = some u ∧ Plainly u := by
  cases o with
  | lst l => obtain ⟨vs, e, r⟩ := h; exact ⟨_, e, (fun _ z => by cases z), (fun _ z => by cases z)⟩
  | dct l => obtain ⟨vs, e, r⟩ := h; exact ⟨_, e, (fun _ z => by cases z), (fun _ z => by cases z)⟩
  | dtt l => obtain ⟨vs, e, r⟩ := h; exact ⟨_, e, (fun _ z => by cases z), (fun _ z => by cases z)⟩
  | lck l => obtain ⟨o, vs, e, r⟩ := h; exact ⟨_, e, (fun _ z => by cases z), (fun _ z => by cases z)⟩
  | lct l => obtain ⟨o, vs, e, r⟩ := h; exact ⟨_, e, (fun _ z => by cases z), (fun _ z => by cases z)⟩
  | ins c fs => obtain ⟨A, dx, gs, e1, e, r⟩ := h; exact ⟨_, e, (fun _ z => by cases z), (fun _ z => by cases z)⟩
  | dead => obtain ⟨vs, e⟩ := h; exact ⟨_, e, (fun _ z => by cases z), (fun _ z => by cases z)⟩
/-- only the object at a matters -/
theorem ObjAt.at {C : Cn} {Z H H' : Hp} {m : List Addr} {o : HD} {a : Addr} (h : ObjAt C Z m o a H) (e : H' a = H a) : ObjAt C Z m o a H' := by
  cases o with
  | lst l => obtain ⟨vs, q, r⟩ := h; exact ⟨vs, e.trans q, r⟩
  | dct l => obtain ⟨vs, q, r⟩ := h; exact ⟨vs, e.trans q, r⟩
  | dtt l => obtain ⟨vs, q, r⟩ := h; exact ⟨vs, e.trans q, r⟩
  | lck l => obtain ⟨o, vs, q, r⟩ := h; exact ⟨o, vs, e.trans q, r⟩
  | lct l => obtain ⟨o, vs, q, r⟩ := h; exact ⟨o, vs, e.trans q, r⟩
  | ins c fs => obtain ⟨A, dx, gs, e1, q, r⟩ := h; exact ⟨A, dx, gs, e1, e.trans q, r⟩
  | dead => obtain ⟨u, q⟩ := h; exact ⟨u, e.trans q⟩
structure HSim (C : Cn) (Z : Hp) (m : List Addr) (h : Hm) (H : Hp) : Prop where
  sub : ∀ a o, Z a = some o → H a = some o
  len : m.length = h.length
  nd : m.Nodup
  off : ∀ (n : Nat) (a : Addr) (o : HD), m[n]? = some a → h[n]? = some o → o ≠ HD.dead → Z a = none
  obj : ∀ (n : Nat) (a : Addr) (o : HD), m[n]? = some a → h[n]? = some o → ObjAt C Z m o a H
  tab : LamX.Tabs C.T H
  noT : ∀ a ps, Z a ≠ some (.tbl ps)
/-- nothing stands there, or a table -/
def Fr (H : Hp) (a : Addr) : Prop := ∀ o, H a = some o → ∃ ps, o = .tbl ps
/-- .. or a tuple -/
def FrT (H : Hp) (a : Addr) : Prop := ∀ o, H a = some o → (∃ ps, o = .tbl ps) ∨ ∃ xs, o = .tup xs
theorem frt_none {H : Hp} {a : Addr} (e : H a = none) : FrT H a := fun o z => by rw [e] at z; cases z
theorem frt_of {H : Hp} {a : Addr} (f : Fr H a) : FrT H a := fun o z => .inl (f o z)
theorem frt_tup {H : Hp} {a : Addr} {vs : List V} (e : H a = some (.tup vs)) : FrT H a := fun o z => by rw [e] at z; cases z; exact .inr ⟨_, rfl⟩
theorem frt_lst {H : Hp} {a : Addr} {vs : List V} (f : FrT H a) (e : H a = some (.lst vs)) : False := by
  rcases f _ e with ⟨ps, z⟩ | ⟨ps, z⟩ <;> cases z
theorem fr_none {H : Hp} {a : Addr} (e : H a = none) : Fr H a := fun o z => by rw [e] at z; cases z
theorem fr_lst {H : Hp} {a : Addr} {vs : List V} (f : Fr H a) (e : H a = some (.lst vs)) : False := by
  obtain ⟨ps, z⟩ := f _ e
  cases z
/-- tables stay where something else is put -/
theorem tabs_put {T : List (Addr × Str)} {H : Hp} {a : Addr} {o : HO} (t : LamX.Tabs T H) (f : ∀ u, H a = some u → Plainly u) : LamX.Tabs T (upd H a o) := by
  have ne : ∀ b u, H b = some u → ¬ Plainly u → b ≠ a := fun b u e n z => by subst z; exact n (f _ e)
  intro p hp
  obtain ⟨ps, h1, h2, h3⟩ := t p hp
  refine ⟨ps, by rw [upd_ne (ne _ _ h1 fun z => z.1 ps rfl)]; exact h1, h2, fun pos cv hc => ?_⟩
  obtain ⟨c, e1, e2⟩ := h3 pos cv hc
  exact ⟨c, e1, by rw [upd_ne (ne _ _ e2 fun z => z.2 _ rfl)]; exact e2⟩
structure Ext (Z : Hp) (m : List Addr) (H : Hp) (Z' : Hp) (m' : List Addr) (H' : Hp) : Prop where
  sub : ∀ a o, Z a = some o → Z' a = some o
  pre : m <+: m'
  keep : ∀ a o, H a = some o → a ∉ m → (∀ ps, o ≠ .tbl ps) → H' a = some o
  newM : ∀ a, a ∈ m' → a ∈ m ∨ Fr H a
  newZ : ∀ a, Z' a ≠ none → Z a ≠ none ∨ a ∈ m ∨ FrT H a
  frz : ∀ a o u, H a = some (.frz o u) → H' a = some (.frz o u)
theorem nfz {H : Hp} {a : Addr} {u : HO} (e : H a = some u) (h : ∀ o x, u ≠ .frz o x := by intro _ _ z; cases z) : ∀ o' x, H a ≠ some (.frz o' x) := fun o' x z => by
  rw [e] at z; injection z with z; exact h _ _ z
section
variable {C : Cn} {Z Z1 Z2 H H1 H2 : Hp} {m m1 m2 : List Addr} {h h1 : Hm}
theorem Ext.refl : Ext Z m H Z m H := ⟨fun _ _ e => e, List.prefix_refl _, fun _ _ e _ _ => e, fun _ e => .inl e, fun _ e => .inl e, fun _ _ _ e => e⟩
theorem Ext.trans (a : Ext Z m H Z1 m1 H1) (b : Ext Z1 m1 H1 Z2 m2 H2) : Ext Z m H Z2 m2 H2 := by
  have back : ∀ x, Fr H1 x → x ∈ m ∨ Fr H x := fun x e => by
    by_cases hx : x ∈ m
    · exact .inl hx
    · refine .inr fun o q => ?_
      refine Classical.byContradiction fun n => ?_
      obtain ⟨ps, z⟩ := e o (a.keep x o q hx fun ps z => n ⟨ps, z⟩)
      exact n ⟨ps, z⟩
  have backT : ∀ x, FrT H1 x → x ∈ m ∨ FrT H x := fun x e => by
    by_cases hx : x ∈ m
    · exact .inl hx
    · refine .inr fun o q => ?_
      refine Classical.byContradiction fun n => ?_
      rcases e o (a.keep x o q hx fun ps z => n (.inl ⟨ps, z⟩)) with ⟨ps, z⟩ | ⟨ps, z⟩
      · exact n (.inl ⟨ps, z⟩)
      · exact n (.inr ⟨ps, z⟩)
  refine ⟨fun x o e => b.sub x o (a.sub x o e), a.pre.trans b.pre, fun x o e hx nt => b.keep x o (a.keep x o e hx nt) (fun z => ?_) nt, fun x hx => ?_, fun x hx => ?_, fun x o u e => b.frz x o u (a.frz x o u e)⟩
  · rcases a.newM x z with q | q
    · exact hx q
    · obtain ⟨ps, y⟩ := q o e
      exact nt ps y
  · rcases b.newM x hx with q | q
    · exact a.newM x q
    · exact back x q
  · rcases b.newZ x hx with q | q | q
    · exact a.newZ x q
    · rcases a.newM x q with q | q
      · exact .inr (.inl q)
      · exact .inr (.inr (frt_of q))
    · exact .inr (backT x q)
theorem HSim.tracked (s : HSim C Z m h H) {a : Addr} (ha : a ∈ m) : ∃ o, H a = some o := by
  obtain ⟨n, hn, e⟩ := List.getElem_of_mem ha
  have e1 : m[n]? = some a := by rw [List.getElem?_eq_getElem hn, e]
  have e2 : h[n]? = some (h[n]'(by rw [← s.len]; exact hn)) := List.getElem?_eq_getElem _
  exact (s.obj n a _ e1 e2).some
theorem HSim.nz (s : HSim C Z m h H) {p : Addr} (hp : H p = none) : Z p = none := by
  cases q : Z p with
  | none => rfl
  | some o => rw [s.sub p o q] at hp; cases hp
theorem HSim.nm (s : HSim C Z m h H) {p : Addr} (hp : H p = none) : p ∉ m := fun z => by
  obtain ⟨o, e⟩ := s.tracked z
  rw [e] at hp; cases hp
/-- a new object laid down for good -/
theorem HSim.lay (s : HSim C Z m h H) {p : Addr} (hp : H p = none) (o : HO) (ho : ∀ ps, o ≠ .tbl ps := by intro _ z; cases z) : HSim C (upd Z p o) m h (upd H p o) := by
  have hz := s.nz hp
  refine ⟨fun a u e => ?_, s.len, s.nd, fun n a u e1 e2 hd => ?_, fun n a u e1 e2 => ?_, s.tab.ext fun b w e => ?_, fun a ps e => ?_⟩
  · by_cases ha : a = p
    · subst ha; rw [upd_same] at e ⊢; exact e
    · rw [upd_ne ha] at e ⊢; exact s.sub a u e
  · have : a ≠ p := fun z => by subst z; exact s.nm hp (List.mem_of_getElem? e1)
    rw [upd_ne this]; exact s.off n a u e1 e2 hd
  · have : a ≠ p := fun z => by subst z; exact s.nm hp (List.mem_of_getElem? e1)
    refine ((s.obj n a u e1 e2).mono (fun b w e => ?_) (List.prefix_refl _)).at (upd_ne this)
    rw [upd_ne (fun z => by subst z; rw [hz] at e; cases e)]; exact e
  · rw [upd_ne (fun z => by subst z; rw [hp] at e; cases e)]; exact e
  · by_cases ha : a = p
    · subst ha; rw [upd_same] at e; exact ho ps (Option.some.inj e)
    · rw [upd_ne ha] at e; exact s.noT a ps e
theorem Ext.lay (s : HSim C Z m h H) {p : Addr} (hp : H p = none) (o : HO) : Ext Z m H (upd Z p o) m (upd H p o) := by
  have hz := s.nz hp
  refine ⟨fun b w e => ?_, List.prefix_refl _, fun b w e _ _ => ?_, fun b e => .inl e, fun b e => ?_, fun b w u e => by rw [upd_ne (fun z => by subst z; rw [hp] at e; cases e)]; exact e⟩
  · rw [upd_ne (fun z => by subst z; rw [hz] at e; cases e)]; exact e
  · rw [upd_ne (fun z => by subst z; rw [hp] at e; cases e)]; exact e
  · by_cases hb : b = p
    · subst hb; exact .inr (.inr (frt_none hp))
    · rw [upd_ne hb] at e; exact .inl e
/-- a new place -/
theorem HSim.alloc (s : HSim C Z m h H) {p : Addr} (hp : H p = none) {o : HO} {d : HD} (hd : ∀ H', H' p = some o → ObjAt C Z (m ++ [p]) d p H') : HSim C Z (m ++ [p]) (h ++ [d]) (upd H p o) := by
  have hz := s.nz hp
  have old : ∀ {n : Nat} {a : Addr}, (m ++ [p])[n]? = some a → (n < m.length ∧ m[n]? = some a) ∨ (n = m.length ∧ a = p) := fun {n a} e => by
    by_cases hn : n < m.length
    · rw [List.getElem?_append_left hn] at e; exact .inl ⟨hn, e⟩
    · rw [List.getElem?_append_right (by omega)] at e
      have hk : n - m.length = 0 := by
        cases hk : n - m.length with
        | zero => rfl
        | succ k => rw [hk] at e; simp at e
      rw [hk] at e; simp at e; exact .inr ⟨by omega, e.symm⟩
  have hH : ∀ {a : Addr}, a ∈ m → a ≠ p := fun {a} ha z => by subst z; exact s.nm hp ha
  refine ⟨fun a u e => ?_, by simp [s.len], ?_, fun n a u e1 e2 hdd => ?_, fun n a u e1 e2 => ?_, s.tab.ext fun b w e => by rw [upd_ne (fun z => by subst z; rw [hp] at e; cases e)]; exact e, s.noT⟩
  · rw [upd_ne (fun z => by subst z; rw [hz] at e; cases e)]; exact s.sub a u e
  · exact List.nodup_append.mpr ⟨s.nd, by simp, fun a ha b hb => by rw [List.mem_singleton.mp hb]; exact hH ha⟩
  · rcases old e1 with ⟨hn, e⟩ | ⟨hn, rfl⟩
    · rw [List.getElem?_append_left (by rw [← s.len]; exact hn)] at e2
      exact s.off n a u e e2 hdd
    · exact hz
  · rcases old e1 with ⟨hn, e⟩ | ⟨hn, rfl⟩
    · rw [List.getElem?_append_left (by rw [← s.len]; exact hn)] at e2
      exact ((s.obj n a u e e2).mono (fun _ _ q => q) (List.prefix_append _ _)).at (upd_ne (hH (List.mem_of_getElem? e)))
    · rw [List.getElem?_append_right (by rw [← s.len, hn]; exact Nat.le_refl _), ← s.len, hn] at e2
      simp at e2; subst e2
      exact hd _ upd_same
theorem Ext.alloc (s : HSim C Z m h H) {p : Addr} (hp : H p = none) (o : HO) : Ext Z m H Z (m ++ [p]) (upd H p o) := by
  refine ⟨fun b w e => e, List.prefix_append _ _, fun b w e _ _ => ?_, fun b e => ?_, fun b e => .inl e, fun b w u e => by rw [upd_ne (fun z => by subst z; rw [hp] at e; cases e)]; exact e⟩
  · rw [upd_ne (fun z => by subst z; rw [hp] at e; cases e)]; exact e
  · rcases List.mem_append.mp e with e | e
    · exact .inl e
    · rw [List.mem_singleton.mp e]; exact .inr (fr_none hp)
/-- the object at a place is another one -/
theorem HSim.put (s : HSim C Z m h H) {n : Nat} {a : Addr} {o : HO} {d d0 : HD} (e : m[n]? = some a) (e0 : h[n]? = some d0) (hl : d0 ≠ .dead) (hd : ∀ H', H' a = some o → ObjAt C Z m d a H') : HSim C Z m (h.set n d) (upd H a o) := by
  have hz := s.off n a d0 e e0 hl
  have hn : n < h.length := (List.getElem?_eq_some_iff.mp e0).1
  refine ⟨fun b u q => ?_, by simp [s.len], s.nd, fun k b u q1 q2 hdd => ?_, fun k b u q1 q2 => ?_, tabs_put s.tab fun u q => ?_, s.noT⟩
  · rw [upd_ne (fun z => by subst z; rw [hz] at q; cases q)]; exact s.sub b u q
  · by_cases hk : n = k
    · subst hk; rw [e] at q1; cases q1; exact hz
    · rw [List.getElem?_set_ne hk] at q2; exact s.off k b u q1 q2 hdd
  · by_cases hk : n = k
    · subst hk
      rw [e] at q1; cases q1
      rw [List.getElem?_set_self hn] at q2; cases q2
      exact hd _ upd_same
    · rw [List.getElem?_set_ne hk] at q2
      have hb : b ≠ a := fun z => by
        subst z
        have h1 := List.getElem?_eq_some_iff.mp e
        have h2 := List.getElem?_eq_some_iff.mp q1
        exact hk ((List.getElem_inj s.nd).mp (h1.2.trans h2.2.symm))
      exact (s.obj k b u q1 q2).at (upd_ne hb)
  · obtain ⟨w, e1, e2⟩ := objAt_plain (s.obj n a d0 e e0)
    rw [e1] at q; cases q; exact e2
theorem Ext.put (s : HSim C Z m h H) {n : Nat} {a : Addr} (o : HO) (e : m[n]? = some a) (nf : ∀ o' x, H a ≠ some (.frz o' x)) : Ext Z m H Z m (upd H a o) :=
  ⟨fun b w q => q, List.prefix_refl _, fun b w q hb _ => by rw [upd_ne (fun z => hb (by subst z; exact List.mem_of_getElem? e))]; exact q, fun b q => .inl q, fun b q => .inl q, fun b w u q => by rw [upd_ne (fun z => by subst z; exact nf _ _ q)]; exact q⟩
/-- a list at a place is laid down for good -/
theorem HSim.freeze (s : HSim C Z m h H) {n : Nat} {a : Addr} {l : List D} {vs : List V} (e : m[n]? = some a) (e0 : h[n]? = some (.lst l)) (hv : H a = some (.lst vs)) : HSim C (upd Z a (.lst vs)) m (h.set n .dead) H := by
  have hz := s.off n a _ e e0 (fun z => nomatch z)
  have hn : n < h.length := (List.getElem?_eq_some_iff.mp e0).1
  refine ⟨fun b u q => ?_, by simp [s.len], s.nd, fun k b u q1 q2 hdd => ?_, fun k b u q1 q2 => ?_, s.tab, fun b ps q => ?_⟩
  · by_cases hb : b = a
    · subst hb; rw [upd_same] at q; rw [hv]; exact q
    · rw [upd_ne hb] at q; exact s.sub b u q
  · by_cases hk : n = k
    · subst hk; rw [List.getElem?_set_self hn] at q2; cases q2; exact absurd rfl hdd
    · rw [List.getElem?_set_ne hk] at q2
      rw [upd_ne (fun z => by
        subst z
        have h1 := List.getElem?_eq_some_iff.mp e
        have h2 := List.getElem?_eq_some_iff.mp q1
        exact hk ((List.getElem_inj s.nd).mp (h1.2.trans h2.2.symm)))]
      exact s.off k b u q1 q2 hdd
  · by_cases hk : n = k
    · subst hk; rw [List.getElem?_set_self hn] at q2; cases q2
      rw [e] at q1; cases q1
      exact ⟨_, hv⟩
    · rw [List.getElem?_set_ne hk] at q2
      exact (s.obj k b u q1 q2).mono (fun c w q => by rw [upd_ne (fun z => by subst z; rw [hz] at q; cases q)]; exact q) (List.prefix_refl _)
  · by_cases hb : b = a
    · subst hb; rw [upd_same] at q; cases q
    · rw [upd_ne hb] at q; exact s.noT b ps q
theorem Ext.freeze (s : HSim C Z m h H) {n : Nat} {a : Addr} {l : List D} (o : HO) (e : m[n]? = some a) (e0 : h[n]? = some (.lst l)) : Ext Z m H (upd Z a o) m H := by
  have hz := s.off n a _ e e0 (fun z => nomatch z)
  refine ⟨fun b w q => ?_, List.prefix_refl _, fun b w q _ _ => q, fun b q => .inl q, fun b q => ?_, fun b w u q => q⟩
  · rw [upd_ne (fun z => by subst z; rw [hz] at q; cases q)]; exact q
  · by_cases hb : b = a
    · subst hb; exact .inr (.inl (List.mem_of_getElem? e))
    · rw [upd_ne hb] at q; exact .inl q
end
end Dn
set_option Elab.async false
set_option linter.all false
set_option maxRecDepth 100000
set_option maxHeartbeats 4000000
namespace Dn
open PySem PySem.Spec PyProof.Rows L2
/-- an exception -/
def ExR (C : Cn) (Z : Hp) (m : List Addr) (H : Hp) (e : D) (c : Value) (od : Option Addr) : Prop := match e with
  | .exn n fs => ∃ A, C.cls n = some A ∧ c = .ref A ∧ ((fs = [] ∧ od = none) ∨ ∃ d gs, od = some d ∧ Z d = some (.xd gs) ∧ RepF C Z m fs gs)
  | _ => False
section
variable {α β γ δ : Type}
/-- what follows a value -/
def Post (C : Cn) (rep : Hp → List Addr → α → β → Prop) (E : XK) (r : R α) (Z : Hp) (m : List Addr) (H : Hp) (Q : β → Hp → Prop) : Prop := match r with
  | .ok d h => ∀ Z' m' H' v, Ext Z m H Z' m' H' → HSim C Z' m' h H' → rep Z' m' d v → Q v H'
  | .exc e h => ∀ Z' m' H' c od, Ext Z m H Z' m' H' → HSim C Z' m' h H' → ExR C Z' m' H' e c od → E c od H'
  | .err => False
theorem Post.imp {C : Cn} {rep : Hp → List Addr → α → β → Prop} {E : XK} {r : R α} {Z : Hp} {m : List Addr} {H : Hp} {Q Q' : β → Hp → Prop} (h : Post C rep E r Z m H Q) (hq : ∀ v H', Q v H' → Q' v H') : Post C rep E r Z m H Q' := by
  cases r with
  | ok d h' => exact fun Z' m' H' v a b c => hq _ _ (h Z' m' H' v a b c)
  | exc e h' => exact h
  | err => exact h
theorem Post.from {C : Cn} {rep : Hp → List Addr → α → β → Prop} {E : XK} {r : R α} {Z Z1 : Hp} {m m1 : List Addr} {H H1 : Hp} {Q : β → Hp → Prop} (x : Ext Z m H Z1 m1 H1) (h : Post C rep E r Z m H Q) : Post C rep E r Z1 m1 H1 Q := by
  cases r with
  | ok d h' => exact fun Z' m' H' v a b c => h Z' m' H' v (x.trans a) b c
  | exc e h' => exact fun Z' m' H' v od a b c => h Z' m' H' v od (x.trans a) b c
  | err => exact h
theorem Post.bind {C : Cn} {rep : Hp → List Addr → α → β → Prop} {rep1 : Hp → List Addr → γ → δ → Prop} {E : XK} {r : R γ} {k : γ → Hm → R α} {Z : Hp} {m : List Addr} {H : Hp} {Q : β → Hp → Prop} (h : Post C rep E (r.bind k) Z m H Q) :
    Post C rep1 E r Z m H fun v H1 => ∃ Z1 m1 d h1, Ext Z m H Z1 m1 H1 ∧ HSim C Z1 m1 h1 H1 ∧ rep1 Z1 m1 d v ∧ Post C rep E (k d h1) Z1 m1 H1 Q := by
  cases r with
  | ok d h' => exact fun Z' m' H' v a b c => ⟨Z', m', d, h', a, b, c, Post.from a h⟩
  | exc e h' => exact h
  | err => exact h
end
/-- the value is the mirror's -/
def RB (_ : Hp) (_ : List Addr) (d v : Bool) : Prop := v = d
/-- the frame -/
structure EnvR (C : Cn) (Z : Hp) (m : List Addr) (v : Ev) (σ : L2.St) : Prop where
  len : v.length = σ.length
  get : ∀ (i : Nat) (d : D), v[i]? = some (some d) → ∃ u, σ[i]? = some (some u) ∧ Rep C Z m d u
section
variable {C : Cn} {Z Z1 H H1 : Hp} {m m1 : List Addr} {v : Ev} {σ : L2.St}
theorem EnvR.mono (e : EnvR C Z m v σ) (x : Ext Z m H Z1 m1 H1) : EnvR C Z1 m1 v σ := ⟨e.len, fun i d q => let ⟨u, a, b⟩ := e.get i d q; ⟨u, a, b.mono x.sub x.pre⟩⟩
theorem EnvR.set (e : EnvR C Z m v σ) {d : D} {u : V} (r : Rep C Z m d u) (i : Nat) : EnvR C Z m (v.set i (some d)) (σ.set i (some u)) := by
  refine ⟨by simp [e.len], fun j w q => ?_⟩
  by_cases hj : i = j
  · subst hj
    have hi : i < v.length := by
      have := (List.getElem?_eq_some_iff.mp q).1
      simpa using this
    rw [List.getElem?_set_self hi] at q
    cases q
    exact ⟨u, List.getElem?_set_self (by rw [← e.len]; exact hi), r⟩
  · rw [List.getElem?_set_ne hj] at q ⊢
    exact e.get j w q
theorem EnvR.unset (e : EnvR C Z m v σ) (i : Nat) : EnvR C Z m (v.set i none) (σ.set i none) := by
  refine ⟨by simp [e.len], fun j w q => ?_⟩
  by_cases hj : i = j
  · subst hj
    have hi : i < v.length := by
      have := (List.getElem?_eq_some_iff.mp q).1
      simpa using this
    rw [List.getElem?_set_self hi] at q
    cases q
  · rw [List.getElem?_set_ne hj] at q ⊢
    exact e.get j w q
theorem EnvR.wipe (e : EnvR C Z m v σ) : ∀ own : List Nat, EnvR C Z m (wipeE v own) (wipe σ own)
  | [] => e
  | i :: r => (EnvR.wipe e r).unset i
theorem EnvR.start {N : List Str} {ds : List D} {vs : List V} {np : Nat} (r : RepL C Z m ds vs) (h : ds.length = np) : EnvR C Z m (ds.map some ++ List.replicate (N.length - np) none) (start N vs) := by
  have hl := r.length
  unfold L2.start
  rw [← h, ← hl]
  refine ⟨by simp [hl], fun i d q => ?_⟩
  by_cases hi : i < ds.length
  · rw [List.getElem?_append_left (by simpa using hi)] at q
    rw [List.getElem?_append_left (by simpa [← hl] using hi)]
    rw [List.getElem?_map] at q
    cases e : ds[i]? with
    | none => rw [e] at q; cases q
    | some x =>
      rw [e] at q; cases q
      obtain ⟨y, e2, r2⟩ := r.get e
      exact ⟨y, by rw [List.getElem?_map, e2]; rfl, r2⟩
  · rw [List.getElem?_append_right (by simpa using hi), List.getElem?_replicate] at q
    split at q <;> cases q
end
def denE (C : Cn) (E : WX) (f : EM) : TE := fun σ H Q => ∃ Z m v h, HSim C Z m h H ∧ EnvR C Z m v σ ∧ Post C (Rep C) (fun c d H' => E c d σ H') (f v h) Z m H Q
def denT (C : Cn) (E : WX) (f : TM) : TT := fun σ H Q => ∃ Z m v h, HSim C Z m h H ∧ EnvR C Z m v σ ∧ Post C RB (fun c d H' => E c d σ H') (f v h) Z m H Q
def denA (C : Cn) (E : WX) (f : AM) : TA := fun σ H Q => ∃ Z m v h, HSim C Z m h H ∧ EnvR C Z m v σ ∧ Post C (RepL C) (fun c d H' => E c d σ H') (f v h) Z m H Q
/-- a two-place operation by the mirror -/
def rD2 (C : Cn) (g : D → D → Hm → R D) : R2 := fun x y H Q => ∃ Z m h a b, HSim C Z m h H ∧ Rep C Z m a x ∧ Rep C Z m b y ∧ Post C (Rep C) (fun _ _ _ => False) (g a b h) Z m H Q
/-- a call of a value by the mirror -/
def rDF (C : Cn) (g : FM) : List V → Hp → VK → Prop := fun xs H Q => ∃ Z m h ds, HSim C Z m h H ∧ RepL C Z m ds xs ∧ Post C (Rep C) (fun _ _ _ => False) (g ds h) Z m H Q
/-- an operation of the mirror that raises nothing -/
def NoX {α : Type} (r : R α) : Prop := ∀ e h, r ≠ .exc e h
theorem Post.nox {α β : Type} {C : Cn} {rep : Hp → List Addr → α → β → Prop} {E : XK} {r : R α} {Z : Hp} {m : List Addr} {H : Hp} {Q : β → Hp → Prop} (h : Post C rep E r Z m H Q) (n : NoX r) : Post C rep (fun _ _ _ => False) r Z m H Q := by
  cases r with
  | ok d h' => exact h
  | exc e h' => exact absurd rfl (n e h')
  | err => exact h
section
variable {X : Cx} {C : Cn} {E : WX}
theorem pe_imp {e : Expr} {t t' : TE} (h : PE X e t) (hi : ∀ σ H Q, t' σ H Q → t σ H Q) : PE X e t' := ⟨fun pins s σ H Q I q => h.run pins s σ H Q I (hi _ _ _ q)⟩
theorem pt_imp {e : Expr} {t t' : TT} (h : PT X e t) (hi : ∀ σ H Q, t' σ H Q → t σ H Q) : PT X e t' := ⟨fun pins s σ H Q I q => h.run pins s σ H Q I (hi _ _ _ q)⟩
theorem pw_imp {e : Expr} {t t' : TT} (h : PW X e t) (hi : ∀ σ H Q, t' σ H Q → t σ H Q) : PW X e t' := ⟨fun w pins s σ H Q I q => h.run w pins s σ H Q I (hi _ _ _ q)⟩
theorem pa_imp {e : List Expr} {t t' : TA} (h : PA X e t) (hi : ∀ σ H Q, t' σ H Q → t σ H Q) : PA X e t' := ⟨fun w pins s σ H Q I q => h.run w pins s σ H Q I (hi _ _ _ q)⟩
theorem ps_imp {e : Stmt} {t t' : TS} (h : PS X e t) (hi : ∀ D σ H, t' D σ H → t D σ H) : PS X e t' := ⟨fun pins s σ H D I q => h.run pins s σ H D I (hi _ _ _ q)⟩
theorem pss_imp {e : List Stmt} {t t' : TS} (h : PSs X e t) (hi : ∀ D σ H, t' D σ H → t D σ H) : PSs X e t' := ⟨fun pins s σ H D I q => h.run pins s σ H D I (hi _ _ _ q)⟩
theorem de_var (i : Nat) {x : Str} {pos : Pos} (hN : X.N[i]? = some x := by rfl) (hv : Vis X.env.scope x := by first | exact Or.inl rfl | exact Or.inr (Or.inl rfl) | exact Or.inr (Or.inr rfl)) (hd : (x == ("__debug__" : Str)) = false := by decide)
    (hcd : (x == ("__classdict__" : Str)) = false := by decide) : PE X (.Name x pos) (denE C E (eV i)) := by
  refine pe_imp (pe_var hN hv hd hcd) fun σ H Q ⟨Z, m, v, h, s, e, p⟩ => ?_
  unfold eV at p
  split at p
  · rename_i d q
    obtain ⟨u, e1, r⟩ := e.get i d q
    exact ⟨u, e1, p _ _ _ _ .refl s r⟩
  · exact False.elim p
theorem de_int {i : Int} {j pos} : PE X (.Constant (.int i) j pos) (denE C E (eC (.int i))) := pe_imp pe_int fun _ _ _ ⟨_, _, _, _, s, _, p⟩ => p _ _ _ _ .refl s (.int _)
theorem de_bl {b : Bool} {j pos} : PE X (.Constant (.bool b) j pos) (denE C E (eC (.bl b))) := pe_imp pe_bl fun _ _ _ ⟨_, _, _, _, s, _, p⟩ => p _ _ _ _ .refl s (.bl _)
theorem de_non {j pos} : PE X (.Constant .none j pos) (denE C E (eC .non)) := pe_imp pe_non fun _ _ _ ⟨_, _, _, _, s, _, p⟩ => p _ _ _ _ .refl s .non
theorem de_str {x : Str} {j pos} : PE X (.Constant (.str x) j pos) (denE C E (eC (.str x))) := pe_imp pe_str fun _ _ _ ⟨_, _, _, _, s, _, p⟩ => p _ _ _ _ .refl s (.str _)
/-- a constant of the module -/
theorem de_globI {x : Str} {i : Int} {t : Tok} {pos : Pos} (hg : Gl X x) (hm : X.mg x = some (.int i t)) (hd : (x == ("__debug__" : Str)) = false := by decide) : PE X (.Name x pos) (denE C E (eC (.int i))) :=
  pe_imp (pe_glob (v := .int i) hg hm ⟨_, rfl⟩ hd) fun _ _ _ ⟨_, _, _, _, s, _, p⟩ => p _ _ _ _ .refl s (.int _)
theorem de_globS {x : Str} {i : Str} {t : Tok} {pos : Pos} (hg : Gl X x) (hm : X.mg x = some (.str i t)) (hd : (x == ("__debug__" : Str)) = false := by decide) : PE X (.Name x pos) (denE C E (eC (.str i))) :=
  pe_imp (pe_glob (v := .str i) hg hm ⟨_, rfl⟩ hd) fun _ _ _ ⟨_, _, _, _, s, _, p⟩ => p _ _ _ _ .refl s (.str _)
/-- two parts, then an operation by values -/
theorem tOp_den {r : R2} {g : D → D → Hm → R D} {fa fb : EM} (hr : ∀ x y H Q, rD2 C g x y H Q → r x y H Q) (hx : ∀ a b h, NoX (g a b h)) {σ : L2.St} {H : Hp} {Q : VK} (h : denE C E (eB g fa fb) σ H Q) : tOp r (denE C E fa) (denE C E fb) σ H Q := by
  obtain ⟨Z, m, v, h, s, e, p⟩ := h
  refine ⟨Z, m, v, h, s, e, (p.bind (rep1 := Rep C)).imp fun x H1 ⟨Z1, m1, a, h1, x1, s1, r1, p1⟩ => ?_⟩
  refine ⟨Z1, m1, v, h1, s1, e.mono x1, (p1.bind (rep1 := Rep C)).imp fun y H2 ⟨Z2, m2, b, h2, x2, s2, r2, p2⟩ => ?_⟩
  exact hr _ _ _ _ ⟨Z2, m2, h2, a, b, s2, r1.mono x2.sub x2.pre, r2, p2.nox (hx a b h2)⟩
theorem de_op {op : Operator} {a b : Expr} {pos : Pos} {g : D → D → Hm → R D} {fa fb : EM} (ho : OpR X (binaryOp op) (rD2 C g)) (hx : ∀ a b h, NoX (g a b h)) (ha : PE X a (denE C E fa)) (hb : PE X b (denE C E fb)) : PE X (.BinOp a op b pos) (denE C E (eB g fa fb)) :=
  pe_imp (pe_op ho ha hb) fun _ _ _ h => tOp_den (fun _ _ _ _ z => z) hx h
theorem de_cmp {op : CmpOp} {a b : Expr} {pos : Pos} {g : D → D → Hm → R D} {fa fb : EM} (ho : OpR X (compareOp op) (rD2 C g)) (hx : ∀ a b h, NoX (g a b h)) (ha : PE X a (denE C E fa)) (hb : PE X b (denE C E fb)) (hm : behindInMarks op b = false) : PE X (.Compare a [op] [b] pos) (denE C E (eB g fa fb)) :=
  pe_imp (pe_cmpR ho ha hb hm) fun _ _ _ h => tOp_den (fun _ _ _ _ z => z) hx h
theorem de_ix {a b : Expr} {pos : Pos} {g : D → D → Hm → R D} {fa fb : EM} (ho : IxR X (rD2 C g)) (hx : ∀ a b h, NoX (g a b h)) (ha : PE X a (denE C E fa)) (hb : PE X b (denE C E fb)) (hs : PlainIx b) : PE X (.Subscript a b pos) (denE C E (eB g fa fb)) :=
  pe_imp (pe_ix ho ha hb hs) fun _ _ _ h => tOp_den (fun _ _ _ _ z => z) hx h
theorem da_nil : PA X [] (denA C E aN) := pa_imp pa_nil fun _ _ _ ⟨_, _, _, _, s, _, p⟩ => p _ _ _ _ .refl s .nil
theorem da_cons {a : Expr} {r : List Expr} {fa : EM} {fr : AM} (ha : PE X a (denE C E fa)) (hr : PA X r (denA C E fr)) (hs : starEach (a :: r) X.env = (false, eval a X.env) :: starEach r X.env := by rfl) : PA X (a :: r) (denA C E (aC fa fr)) := by
  refine pa_imp (pa_cons ha hr hs) fun σ H Q ⟨Z, m, v, h, s, e, p⟩ => ?_
  refine ⟨Z, m, v, h, s, e, (p.bind (rep1 := Rep C)).imp fun x H1 ⟨Z1, m1, a, h1, x1, s1, r1, p1⟩ => ?_⟩
  refine ⟨Z1, m1, v, h1, s1, e.mono x1, (p1.bind (rep1 := RepL C)).imp fun y H2 ⟨Z2, m2, b, h2, x2, s2, r2, p2⟩ => ?_⟩
  exact p2 _ _ _ _ .refl s2 (.cons (r1.mono x2.sub x2.pre) r2)
theorem sz_le {n : Nat} (h : n ≤ 16777216) : n ≤ sizeLine := by rw [sizeLine_eq]; exact h
theorem de_tup {es : List Expr} {pos : Pos} {x1} {f : AM} (ha : PA X es (denA C E f)) : PE X (.Tuple es x1 pos) (denE C E (eTup f)) := by
  refine pe_imp (pe_tup ha) fun σ H Q ⟨Z, m, v, h, s, e, p⟩ => ?_
  refine ⟨Z, m, v, h, s, e, (p.bind (rep1 := RepL C)).imp fun xs H1 ⟨Z1, m1, a, h1, x1, s1, r1, p1⟩ => ?_⟩
  split at p1
  · rename_i hl
    refine ⟨by rw [← r1.length]; exact sz_le hl, fun q hq => ?_⟩
    exact p1 _ _ _ _ (Ext.lay s1 hq _) (s1.lay hq _) (.tup upd_same (r1.mono (Ext.lay s1 hq _).sub (List.prefix_refl _)))
  · exact False.elim p1
theorem de_lst {es : List Expr} {pos : Pos} {f : AM} (ha : PA X es (denA C E f)) : PE X (.List es pos) (denE C E (eLst f)) := by
  refine pe_imp (pe_lst ha) fun σ H Q ⟨Z, m, v, h, s, e, p⟩ => ?_
  refine ⟨Z, m, v, h, s, e, (p.bind (rep1 := RepL C)).imp fun xs H1 ⟨Z1, m1, a, h1, x1, s1, r1, p1⟩ => ?_⟩
  split at p1
  · rename_i hl
    refine ⟨by rw [← r1.length]; exact sz_le hl, fun q hq => ?_⟩
    exact p1 _ _ _ _ (Ext.lay s1 hq _) (s1.lay hq _) (.lst upd_same (r1.mono (Ext.lay s1 hq _).sub (List.prefix_refl _)))
  · exact False.elim p1
theorem at_new {m : List Addr} {a : Addr} {n : Nat} (h : m.length = n) : (m ++ [a])[n]? = some a := by
  subst h
  simp
theorem de_new {es : List Expr} {pos : Pos} {f : AM} (ha : PA X es (denA C E f)) : PE X (.List es pos) (denE C E (eNew f)) := by
  refine pe_imp (pe_lst ha) fun σ H Q ⟨Z, m, v, h, s, e, p⟩ => ?_
  refine ⟨Z, m, v, h, s, e, (p.bind (rep1 := RepL C)).imp fun xs H1 ⟨Z1, m1, a, h1, x1, s1, r1, p1⟩ => ?_⟩
  split at p1
  · rename_i hl
    refine ⟨by rw [← r1.length]; exact sz_le hl, fun q hq => ?_⟩
    exact p1 _ _ _ _ (Ext.alloc s1 hq _) (s1.alloc hq fun H' e => ⟨xs, e, r1.mono (fun _ _ z => z) (List.prefix_append _ _)⟩) (.ref (at_new s1.len))
  · exact False.elim p1
/-- a def's promise: it does as the mirror does -/
def spD (C : Cn) (f : FM) : Sp := fun vs H Q E => ∃ Z m h ds, HSim C Z m h H ∧ RepL C Z m ds vs ∧ Post C (Rep C) E (f ds h) Z m H Q
theorem de_call {CX : CXT} {k : Nat} {f : Addr} {fd : FuncData} {ps : List Str} {fm : FM} {x : Str} {p pos : Pos} {a : Expr} {es : List Expr} {fa : AM} (F : FnOk X.prog X.w X.K X.mg X.base CX k f fd ps (spD C fm)) (hr : Room k X.A) (hg : Gl X x) (hm : X.mg x = some (.ref f)) (hk : PySem.W.keepIn X.K (.ref f) = true) (hb : Binds X.K fd ps [])
    (hx : ∀ σ, PassesAt CX X σ (fun c d H => E c d σ H)) (ha : PA X (a :: es) (denA C E fa)) (hdb : (x == ("__debug__" : Str)) = false := by decide) (he : starEach (a :: es) X.env = (false, eval a X.env) :: starEach es X.env := by rfl) (hpl : (backTo pos (starEach es X.env)).any (·.1) = false := by rfl) :
    PE X (.Call (.Name x p) (a :: es) [] pos) (denE C E (eF fm fa)) := by
  refine ⟨fun pins s σ H Q I q => ?_⟩
  obtain ⟨Z, m, v, h, s1, e, pp⟩ := q
  refine wpAny_Call_Name_kw (ld_glob I hg hm ?_ hdb)
  have q1 : denA C E fa σ H fun vs H1 => spD C fm (vs ++ []) H1 Q (fun c d H' => E c d σ H') := ⟨Z, m, v, h, s1, e, (pp.bind (rep1 := RepL C)).imp fun xs H1 ⟨Z1, m1, a, h1, x1, s1, r1, p1⟩ => ⟨Z1, m1, h1, a, s1, by rw [List.append_nil]; exact r1, p1⟩⟩
  refine PySem.W.callWith_K (h₀ := X.base) I.ok.mod.kin hk (thn (ha.run pos pins s σ H _ I q1) fun us s1 ⟨vs, H1, I1, r, q⟩ => ⟨I1.kIn, ?_⟩) he hpl
  have r2 : Vals (vs ++ []) (us ++ []) := by rw [List.append_nil, List.append_nil]; exact r
  have hl : (us ++ []).length = ps.length := by rw [← r2.length]; exact F.len _ _ _ _ q
  refine wpAny_call (codeAny_mono (F.run X.A X.stack s1 H1 ⟨us, []⟩ (us ++ []) (vs ++ []) Q _ hr I1.env0 (hb s1 us I1.kIn hl) r2 q) fun r s' hq => ?_)
  cases r with
  | error e => exact hx σ pins H1 s1 e s' I1 hq
  | ok fl =>
    cases fl with
    | ret u => exact I1.after hq
    | next => exact False.elim hq
    | brk => exact False.elim hq
    | cont => exact False.elim hq
/-- a builtin's call -/
theorem tCB_den {r : List V → Hp → VK → Prop} {g : FM} {fa : AM} (hr : ∀ xs H Q, rDF C g xs H Q → r xs H Q) (hx : ∀ a h, NoX (g a h)) {σ : L2.St} {H : Hp} {Q : VK} (h : denE C E (eF g fa) σ H Q) : tCB r (denA C E fa) σ H Q := by
  obtain ⟨Z, m, v, h, s, e, p⟩ := h
  exact ⟨Z, m, v, h, s, e, (p.bind (rep1 := RepL C)).imp fun xs H1 ⟨Z1, m1, a, h1, x1, s1, r1, p1⟩ => hr _ _ _ ⟨Z1, m1, h1, a, s1, r1, p1.nox (hx a h1)⟩⟩
theorem de_callB {id : String} {x : Str} {p pos : Pos} {a : Expr} {es : List Expr} {g : FM} {fa : AM} (hc : CallR X (.builtin id) (rDF C g)) (hx : ∀ a h, NoX (g a h)) (hg : Gl X x) (hm : X.mg x = none) (hv : bootBuiltins x = some (.builtin id)) (ha : PA X (a :: es) (denA C E fa)) (hn : x ≠ "__name__" := by decide) (hdb : (x == ("__debug__" : Str)) = false := by decide)
    (he : starEach (a :: es) X.env = (false, eval a X.env) :: starEach es X.env := by rfl) (hpl : (backTo pos (starEach es X.env)).any (·.1) = false := by rfl) : PE X (.Call (.Name x p) (a :: es) [] pos) (denE C E (eF g fa)) :=
  pe_imp (pe_callB hc hg hm hv ha hn hdb he hpl) fun _ _ _ h => tCB_den (fun _ _ _ z => z) hx h
theorem de_callTy {T : String} {x : Str} {p pos : Pos} {a : Expr} {es : List Expr} {g : FM} {fa : AM} (hc : CallR X (.type T) (rDF C g)) (hx : ∀ a h, NoX (g a h)) (hg : Gl X x) (hm : X.mg x = none) (hv : bootBuiltins x = some (.type T)) (ha : PA X (a :: es) (denA C E fa)) (hn : x ≠ "__name__" := by decide) (hdb : (x == ("__debug__" : Str)) = false := by decide)
    (he : starEach (a :: es) X.env = (false, eval a X.env) :: starEach es X.env := by rfl) (hpl : (backTo pos (starEach es X.env)).any (·.1) = false := by rfl) : PE X (.Call (.Name x p) (a :: es) [] pos) (denE C E (eF g fa)) :=
  pe_imp (pe_callTy hc hg hm hv ha hn hdb he hpl) fun _ _ _ h => tCB_den (fun _ _ _ z => z) hx h
theorem dt_cmp {op : CmpOp} {a b : Expr} {pos : Pos} {g : D → D → Hm → R D} {fa fb : EM} (ho : OpR X (compareOp op) (rD2 C g)) (hx : ∀ a b h, NoX (g a b h)) (ha : PE X a (denE C E fa)) (hb : PE X b (denE C E fb)) (hm : behindInMarks op b = false) : PT X (.Compare a [op] [b] pos) (denT C E (tE (eB g fa fb))) := by
  refine pt_imp (pt_cmpR ho ha hb hm) fun σ H Q ⟨Z, m, v, h, s, e, p⟩ => ?_
  refine tOp_den (E := E) (fun _ _ _ _ z => z) hx ⟨Z, m, v, h, s, e, (p.bind (rep1 := Rep C)).imp fun x H1 ⟨Z1, m1, a, h1, x1, s1, r1, p1⟩ => ?_⟩
  cases r1 with
  | bl b => exact ⟨b, rfl, p1 _ _ _ _ .refl s1 rfl⟩
  | _ => exact False.elim p1
theorem dt_val {a : Expr} {fa : EM} (ha : PE X a (denE C E fa)) (he : ∀ whole, isTrue a X.env whole = (do let v ← whole; standAt a.pos; holding [v] (truthy v)) := by intro _; rfl) : PT X a (denT C E (tE fa)) := by
  refine pt_imp (pt_val ha he) fun σ H Q ⟨Z, m, v, h, s, e, p⟩ => ?_
  refine ⟨Z, m, v, h, s, e, (p.bind (rep1 := Rep C)).imp fun x H1 ⟨Z1, m1, a, h1, x1, s1, r1, p1⟩ => ?_⟩
  cases r1 with
  | bl b => exact ⟨b, rfl, p1 _ _ _ _ .refl s1 rfl⟩
  | _ => exact False.elim p1
variable {a b c : Expr} {rest : List Expr} {pos : Pos}
theorem dw_or1 {fa : TM} (ha : PT X a (denT C E fa)) : PW X (.BoolOp .Or [a] pos) (denT C E fa) := pw_or1 ha
theorem dw_or {fa fb : TM} (ha : PT X a (denT C E fa)) (hb : PW X (.BoolOp .Or (b :: rest) pos) (denT C E fb)) : PW X (.BoolOp .Or (a :: b :: rest) pos) (denT C E (tOr fa fb)) := by
  refine pw_imp (pw_or ha hb) fun σ H Q ⟨Z, m, v, h, s, e, p⟩ => ?_
  refine ⟨Z, m, v, h, s, e, (p.bind (rep1 := RB)).imp fun x H1 ⟨Z1, m1, a, h1, x1, s1, r1, p1⟩ => ?_⟩
  cases (show x = a from r1)
  cases x with
  | false => exact ⟨Z1, m1, v, h1, s1, e.mono x1, p1⟩
  | true => exact p1 _ _ _ _ .refl s1 rfl
theorem dt_bool {op} {fa : TM} (h : PW X (.BoolOp op rest pos) (denT C E fa)) : PT X (.BoolOp op rest pos) (denT C E fa) := h.pt
theorem dt_not {fa : TM} (ha : PT X a (denT C E fa)) : PT X (.UnaryOp .Not a pos) (denT C E (tNot fa)) := by
  refine pt_imp (pt_not ha) fun σ H Q ⟨Z, m, v, h, s, e, p⟩ => ?_
  refine ⟨Z, m, v, h, s, e, (p.bind (rep1 := RB)).imp fun x H1 ⟨Z1, m1, a, h1, x1, s1, r1, p1⟩ => ?_⟩
  cases (show x = a from r1)
  exact p1 _ _ _ _ .refl s1 rfl
/-- .. as values -/
theorem de_one {op} {fa : EM} (h : PE X a (denE C E fa)) : PE X (.BoolOp op [a] pos) (denE C E fa) := pe_one h
theorem de_and {fa fb : EM} (ha : PE X a (denE C E fa)) (hb : PE X (.BoolOp .And (b :: rest) pos) (denE C E fb)) : PE X (.BoolOp .And (a :: b :: rest) pos) (denE C E (eAnd fa fb)) := by
  refine pe_imp (pe_and ha hb) fun σ H Q ⟨Z, m, v, h, s, e, p⟩ => ?_
  refine ⟨Z, m, v, h, s, e, (p.bind (rep1 := Rep C)).imp fun x H1 ⟨Z1, m1, a, h1, x1, s1, r1, p1⟩ => ?_⟩
  cases r1 with
  | bl c =>
    cases c with
    | true => exact ⟨_, rfl, ⟨Z1, m1, v, h1, s1, e.mono x1, p1⟩⟩
    | false => exact ⟨_, rfl, p1 _ _ _ _ .refl s1 (.bl _)⟩
  | _ => exact False.elim p1
theorem de_not {fa : EM} (ha : PE X a (denE C E fa)) : PE X (.UnaryOp .Not a pos) (denE C E (eNot fa)) := by
  refine pe_imp (pe_not ha) fun σ H Q ⟨Z, m, v, h, s, e, p⟩ => ?_
  refine ⟨Z, m, v, h, s, e, (p.bind (rep1 := Rep C)).imp fun x H1 ⟨Z1, m1, a, h1, x1, s1, r1, p1⟩ => ?_⟩
  cases r1 with
  | bl c => exact ⟨_, rfl, p1 _ _ _ _ .refl s1 (.bl _)⟩
  | _ => exact False.elim p1
theorem de_if {ft : TM} {fa fb : EM} (hc : PT X c (denT C E ft)) (ha : PE X a (denE C E fa)) (hb : PE X b (denE C E fb)) : PE X (.IfExp c a b pos) (denE C E (eIf ft fa fb)) := by
  refine pe_imp (pe_ifExp hc ha hb) fun σ H Q ⟨Z, m, v, h, s, e, p⟩ => ?_
  refine ⟨Z, m, v, h, s, e, (p.bind (rep1 := RB)).imp fun x H1 ⟨Z1, m1, a, h1, x1, s1, r1, p1⟩ => ?_⟩
  cases (show x = a from r1)
  cases x with
  | true => exact ⟨Z1, m1, v, h1, s1, e.mono x1, p1⟩
  | false => exact ⟨Z1, m1, v, h1, s1, e.mono x1, p1⟩
/-- a < b <= c -/
def eChain (g g' : D → D → Hm → R D) (fa fb fc : EM) : EM := fun v h => (fa v h).bind fun x h1 => (fb v h1).bind fun y h2 => (g x y h2).bind fun z h3 => match z with
  | .bl true => (fc v h3).bind fun w h4 => g' y w h4
  | .bl false => .ok (.bl false) h3
  | _ => .err
theorem tChain_den {r r' : R2} {g g' : D → D → Hm → R D} {fa fb fc : EM} (hr : ∀ x y H Q, rD2 C g x y H Q → r x y H Q) (hr' : ∀ x y H Q, rD2 C g' x y H Q → r' x y H Q) (hx : ∀ a b h, NoX (g a b h)) (hx' : ∀ a b h, NoX (g' a b h)) {σ : L2.St} {H : Hp} {Q : VK}
    (h : denE C E (eChain g g' fa fb fc) σ H Q) : tChain r r' (denE C E fa) (denE C E fb) (denE C E fc) σ H Q := by
  obtain ⟨Z, m, v, h, s, e, p⟩ := h
  refine ⟨Z, m, v, h, s, e, (p.bind (rep1 := Rep C)).imp fun x H1 ⟨Z1, m1, a, h1, x1, s1, r1, p1⟩ => ?_⟩
  refine ⟨Z1, m1, v, h1, s1, e.mono x1, (p1.bind (rep1 := Rep C)).imp fun y H2 ⟨Z2, m2, b, h2, x2, s2, r2, p2⟩ => ?_⟩
  refine hr _ _ _ _ ⟨Z2, m2, h2, a, b, s2, r1.mono x2.sub x2.pre, r2, Post.nox ((p2.bind (rep1 := Rep C)).imp fun z H3 ⟨Z3, m3, d, h3, x3, s3, r3, p3⟩ => ?_) (hx a b h2)⟩
  cases r3 with
  | bl k =>
    refine ⟨k, rfl, ?_⟩
    cases k with
    | true =>
      refine ⟨Z3, m3, v, h3, s3, (e.mono x1 |>.mono x2 |>.mono x3), (p3.bind (rep1 := Rep C)).imp fun w H4 ⟨Z4, m4, f, h4, x4, s4, r4, p4⟩ => ?_⟩
      exact hr' _ _ _ _ ⟨Z4, m4, h4, b, f, s4, (r2.mono x3.sub x3.pre).mono x4.sub x4.pre, r4, p4.nox (hx' b f h4)⟩
    | false => exact p3 _ _ _ _ .refl s3 (.bl _)
  | _ => exact False.elim p3
theorem de_chain {op op' : CmpOp} {g g' : D → D → Hm → R D} {fa fb fc : EM} (ho : OpR X (compareOp op) (rD2 C g)) (ho' : OpR X (compareOp op') (rD2 C g')) (hx : ∀ a b h, NoX (g a b h)) (hx' : ∀ a b h, NoX (g' a b h)) (ha : PE X a (denE C E fa)) (hb : PE X b (denE C E fb)) (hc : PE X c (denE C E fc))
    (hm : lastMarks [op, op'] [b, c] = false := by with_unfolding_all rfl) : PE X (.Compare a [op, op'] [b, c] pos) (denE C E (eChain g g' fa fb fc)) :=
  pe_imp (pe_chain ho ho' ha hb hc hm) fun _ _ _ h => tChain_den (fun _ _ _ _ z => z) (fun _ _ _ _ z => z) hx hx' h
theorem dt_chain {op op' : CmpOp} {g g' : D → D → Hm → R D} {fa fb fc : EM} (ho : OpR X (compareOp op) (rD2 C g)) (ho' : OpR X (compareOp op') (rD2 C g')) (hx : ∀ a b h, NoX (g a b h)) (hx' : ∀ a b h, NoX (g' a b h)) (ha : PE X a (denE C E fa)) (hb : PE X b (denE C E fb)) (hc : PE X c (denE C E fc))
    (hm : lastMarks [op, op'] [b, c] = false := by with_unfolding_all rfl) : PT X (.Compare a [op, op'] [b, c] pos) (denT C E (tE (eChain g g' fa fb fc))) := by
  refine pt_imp (pt_chain ho ho' ha hb hc hm) fun σ H Q ⟨Z, m, v, h, s, e, p⟩ => ?_
  refine tChain_den (E := E) (fun _ _ _ _ z => z) (fun _ _ _ _ z => z) hx hx' ⟨Z, m, v, h, s, e, (p.bind (rep1 := Rep C)).imp fun x H1 ⟨Z1, m1, a, h1, x1, s1, r1, p1⟩ => ?_⟩
  cases r1 with
  | bl b => exact ⟨b, rfl, p1 _ _ _ _ .refl s1 rfl⟩
  | _ => exact False.elim p1
end
end Dn
set_option Elab.async false
set_option linter.all false
set_option maxRecDepth 100000
set_option maxHeartbeats 4000000
namespace Dn
open PySem PySem.Spec PyProof.Rows L2
/-- what follows a statement -/
def PostS (C : Cn) (E : WX) (r : Fl) (Z : Hp) (m : List Addr) (H : Hp) (K : Ends) : Prop := match r with
  | .nx v h => ∀ Z' m' H' σ, Ext Z m H Z' m' H' → HSim C Z' m' h H' → EnvR C Z' m' v σ → K.nx σ H'
  | .rt d h => ∀ Z' m' H' u, Ext Z m H Z' m' H' → HSim C Z' m' h H' → Rep C Z' m' d u → K.rt u H'
  | .bk v h => ∀ Z' m' H' σ, Ext Z m H Z' m' H' → HSim C Z' m' h H' → EnvR C Z' m' v σ → K.bk σ H'
  | .ct v h => ∀ Z' m' H' σ, Ext Z m H Z' m' H' → HSim C Z' m' h H' → EnvR C Z' m' v σ → K.ct σ H'
  | .exc e v h => ∀ Z' m' H' σ c od, Ext Z m H Z' m' H' → HSim C Z' m' h H' → EnvR C Z' m' v σ → ExR C Z' m' H' e c od → E c od σ H'
  | .err => False
theorem PostS.from {C : Cn} {E : WX} {r : Fl} {Z Z1 : Hp} {m m1 : List Addr} {H H1 : Hp} {K : Ends} (x : Ext Z m H Z1 m1 H1) (h : PostS C E r Z m H K) : PostS C E r Z1 m1 H1 K := by
  cases r with
  | nx v g => exact fun Z' m' H' σ a b c => h Z' m' H' σ (x.trans a) b c
  | rt v g => exact fun Z' m' H' σ a b c => h Z' m' H' σ (x.trans a) b c
  | bk v g => exact fun Z' m' H' σ a b c => h Z' m' H' σ (x.trans a) b c
  | ct v g => exact fun Z' m' H' σ a b c => h Z' m' H' σ (x.trans a) b c
  | exc e v g => exact fun Z' m' H' σ q od a b c => h Z' m' H' σ q od (x.trans a) b c
  | err => exact h
def denS (C : Cn) (E : WX) (f : SM) : TS := fun K σ H => ∃ Z m v h, HSim C Z m h H ∧ EnvR C Z m v σ ∧ PostS C E (f v h) Z m H K
/-- a target -/
def denG (C : Cn) (g : TgM) : TG := fun x σ H Q => ∃ Z m v h d, HSim C Z m h H ∧ EnvR C Z m v σ ∧ Rep C Z m d x ∧ ∃ v1, g d v h = some v1 ∧ ∀ σ1, EnvR C Z m v1 σ1 → Q σ1 H
/-- from an expression to what follows it in a statement -/
theorem Post.stm {C : Cn} {E : WX} {r : R D} {k : D → Hm → Fl} {v : Ev} {σ : L2.St} {Z : Hp} {m : List Addr} {H : Hp} {K : Ends} (e : EnvR C Z m v σ)
    (h : PostS C E (match r with | .ok d h1 => k d h1 | .exc x h1 => .exc x v h1 | .err => .err) Z m H K) :
    Post C (Rep C) (fun c d H' => E c d σ H') r Z m H fun x H1 => ∃ Z1 m1 d h1, Ext Z m H Z1 m1 H1 ∧ HSim C Z1 m1 h1 H1 ∧ Rep C Z1 m1 d x ∧ PostS C E (k d h1) Z1 m1 H1 K := by
  cases r with
  | ok d h1 => exact fun Z' m' H' v a b c => ⟨Z', m', d, h1, a, b, c, PostS.from a h⟩
  | exc x h1 => exact fun Z' m' H' c od a b q => h Z' m' H' σ c od a b (e.mono a) q
  | err => exact h
section
variable {X : Cx} {C : Cn} {E : WX} {pos : Pos}
theorem dss_nil : PSs X [] (denS C E sNx) := pss_imp pss_nil fun K σ H ⟨Z, m, v, h, s, e, p⟩ => p _ _ _ _ .refl s e
theorem dss_cons {st : Stmt} {rest : List Stmt} {fa fb : SM} (ha : PS X st (denS C E fa)) (hb : PSs X rest (denS C E fb)) : PSs X (st :: rest) (denS C E (sSeq fa fb)) := by
  refine pss_imp (pss_cons ha hb) fun K σ H ⟨Z, m, v, h, s, e, p⟩ => ?_
  refine ⟨Z, m, v, h, s, e, ?_⟩
  unfold sSeq at p
  cases q : fa v h with
  | nx v1 h1 =>
    rw [q] at p
    exact fun Z' m' H' σ' a b c => ⟨Z', m', v1, h1, b, c, PostS.from a p⟩
  | rt _ _ => rw [q] at p; exact p
  | bk _ _ => rw [q] at p; exact p
  | ct _ _ => rw [q] at p; exact p
  | exc _ _ _ => rw [q] at p; exact p
  | err => rw [q] at p; exact p
theorem dss_one {st : Stmt} {fa : SM} (ha : PS X st (denS C E fa)) : PSs X [st] (denS C E fa) := pss_one ha
theorem ds_break : PS X (.Break pos) (denS C E sBreak) := ps_imp ps_break fun K σ H ⟨Z, m, v, h, s, e, p⟩ => p _ _ _ _ .refl s e
theorem ds_expr {a : Expr} {fa : EM} (ha : PE X a (denE C E fa)) (hs : swapsWith a none pos.line X.env = pure false := by rfl) : PS X (.Expr a pos) (denS C E (sExpr fa)) := by
  refine ps_imp (ps_expr ha hs) fun K σ H ⟨Z, m, v, h, s, e, p⟩ => ?_
  refine ⟨Z, m, v, h, s, e, (Post.stm (k := fun _ h1 => .nx v h1) e p).imp fun x H1 ⟨Z1, m1, d, h1, x1, s1, r1, p1⟩ => p1 _ _ _ _ .refl s1 (e.mono x1)⟩
theorem ds_ret {a : Expr} {fa : EM} (ha : PE X a (denE C E fa)) : PS X (.Return (some a) pos) (denS C E (sRet fa)) := by
  refine ps_imp (ps_ret ha) fun K σ H ⟨Z, m, v, h, s, e, p⟩ => ?_
  refine ⟨Z, m, v, h, s, e, (Post.stm (k := fun d h1 => .rt d h1) e p).imp fun x H1 ⟨Z1, m1, d, h1, x1, s1, r1, p1⟩ => p1 _ _ _ _ .refl s1 r1⟩
theorem ds_if {c : Expr} {a b : List Stmt} {ft : TM} {fa fb : SM} (hc : PT X c (denT C E ft)) (ha : PSs X a (denS C E fa)) (hb : PSs X b (denS C E fb)) : PS X (.If c a b pos) (denS C E (sIf ft fa fb)) := by
  refine ps_imp (ps_if hc ha hb) fun K σ H ⟨Z, m, v, h, s, e, p⟩ => ?_
  refine ⟨Z, m, v, h, s, e, ?_⟩
  unfold sIf at p
  cases q : ft v h with
  | ok k h1 =>
    rw [q] at p
    intro Z' m' H' b0 x b1 r
    cases (show b0 = k from r)
    cases k with
    | true => exact ⟨Z', m', v, h1, b1, e.mono x, PostS.from x p⟩
    | false => exact ⟨Z', m', v, h1, b1, e.mono x, PostS.from x p⟩
  | exc x h1 => rw [q] at p; exact fun Z' m' H' c od a b r => p Z' m' H' σ c od a b (e.mono a) r
  | err => rw [q] at p; exact p
theorem dg_name {i : Nat} {x : Str} (hN : X.N.Nodup) (hi : X.N[i]? = some x) (hx : Loc X.env.scope x) (hf : X.fn x = true ∨ X.env.scope.names.lookup x = some .local := by first | exact .inl rfl | exact .inr rfl | assumption) : PG X (.Name x pos) (denG C (gN i)) := by
  refine ⟨fun pins s σ H x u Q I r q => (pg_name (pos := pos) hN hi hx hf).run pins s σ H x u Q I r ?_⟩
  obtain ⟨Z, m, v, h, d, s1, e, rd, v1, q1, k⟩ := q
  cases q1
  exact k _ (e.set rd i)
/-- the names of a tuple target -/
structure PGn (X : Cx) (es : List Expr) (is : List Nat) : Prop where
  ok : ∃ t : TGs, PGs X es t ∧ ∀ (C : Cn) (Z : Hp) (m : List Addr) (ds : List D) (vs : List V) (v v1 : Ev) (σ : L2.St) (H : Hp) (Q : L2.St → Hp → Prop), RepL C Z m ds vs → EnvR C Z m v σ → fillAll is ds v = some v1 → (∀ σ1, EnvR C Z m v1 σ1 → Q σ1 H) → t vs σ H Q
  len : (assignEach es X.env).length = is.length
theorem dgn_nil : PGn X [] [] := ⟨⟨_, pgs_nil, fun C Z m ds vs v v1 σ H Q r e f k => by
  cases r with
  | nil => cases f; exact ⟨rfl, k _ e⟩
  | cons _ _ => cases f⟩, rfl⟩
theorem dgn_cons {i : Nat} {x : Str} {es : List Expr} {is : List Nat} (hr : PGn X es is) (hN : X.N.Nodup) (hi : X.N[i]? = some x) (hx : Loc X.env.scope x) (hf : X.fn x = true ∨ X.env.scope.names.lookup x = some .local := by first | exact .inl rfl | exact .inr rfl | assumption)
    (hs : (assignEach (.Name x pos :: es) X.env).map (·.2) = assign (.Name x pos) X.env :: (assignEach es X.env).map (·.2) := by rfl) : PGn X (.Name x pos :: es) (i :: is) := by
  obtain ⟨⟨t, ht, k⟩, hl⟩ := hr
  refine ⟨⟨_, pgs_cons (pg_name (pos := pos) hN hi hx hf) ht hs, fun C Z m ds vs v v1 σ H Q r e f q => ?_⟩, ?_⟩
  · cases r with
    | nil => cases f
    | cons a b => exact ⟨_, _, rfl, k C Z m _ _ _ _ _ H Q b (e.set a i) f q⟩
  · have h1 := congrArg List.length hs
    simp only [List.length_map, List.length_cons] at h1 ⊢
    rw [h1, hl]
theorem dg_tup {es : List Expr} {k : Nat} {is : List Nat} (hK : C.K = X.K) (hc : X.calm = true) (h : PGn X es is) (hst : (assignEach es X.env).findIdx? (·.1) = none := by rfl) : PG X (.Tuple es k pos) (denG C (gT is)) := by
  obtain ⟨⟨t, ht, k0⟩, hl⟩ := h
  refine ⟨fun pins s σ H x u Q I r q => ?_⟩
  obtain ⟨Z, m, v, h, d, s1, e, rd, v1, q1, kk⟩ := q
  have hfl : ∀ (is : List Nat) (l : List D) (v v1 : Ev), fillAll is l v = some v1 → l.length = is.length := by
    intro is
    induction is with
    | nil => intro l v v1 h; cases l with
      | nil => rfl
      | cons _ _ => cases h
    | cons i is ih => intro l v v1 h; cases l with
      | nil => cases h
      | cons d l => simp [ih l _ _ h]
  cases rd with
  | @tup a vs l hq rl =>
    refine (pg_tup (pos := pos) hc ht hl hst).run pins s σ H _ u Q I r ⟨_, vs, rfl, .inl (.inl (s1.sub _ _ hq)), ?_, k0 _ Z m _ vs v v1 σ H Q rl e q1 kk⟩
    rw [← rl.length]
    exact hfl is l v v1 q1
  | _ => cases q1
/-- x = e, a, b = e -/
theorem ds_asg {tg a : Expr} {fa : EM} {g : TgM} (ha : PE X a (denE C E fa)) (hg : PG X tg (denG C g)) (hs : swapsWithSole [tg] a pos.line X.env = pure false := by rfl) (hw : swappedStores [tg] a X.env = pure none := by rfl)
    (h1 : (assignEach [tg] X.env).map (·.2) = [assign tg X.env] := by rfl) : PS X (.Assign [tg] a pos) (denS C E (sAsg g fa)) := by
  refine ps_imp (ps_asg ha hg hs hw h1) fun K σ H ⟨Z, m, v, h, s, e, p⟩ => ?_
  refine ⟨Z, m, v, h, s, e, (Post.stm (k := fun d h1 => match g d v h1 with | some v1 => .nx v1 h1 | none => .err) e p).imp fun x H1 ⟨Z1, m1, d, h1, x1, s1, r1, p1⟩ => ?_⟩
  cases q : g d v h1 with
  | none => rw [q] at p1; exact False.elim p1
  | some v1 =>
    rw [q] at p1
    exact ⟨Z1, m1, v, h1, d, s1, e.mono x1, r1, v1, q, fun σ1 e1 => p1 _ _ _ _ .refl s1 e1⟩
/-- x = [.. for ..] on one line, x a local -/
theorem ds_set {i : Nat} {x : Str} {a : Expr} {fa : EM} {pos' : Pos} (hN : X.N.Nodup) (hi : X.N[i]? = some x) (hx : Loc X.env.scope x) (ha : PE X a (denE C E fa)) (hs : swapsWith a (some (.Name x pos')) pos.line X.env = pure false := by rfl) (hf : X.fn x = true ∨ X.env.scope.names.lookup x = some .local := by first | exact .inl rfl | exact .inr rfl | assumption) :
    PS X (.Assign [.Name x pos'] a pos) (denS C E (sAsg (gN i) fa)) := by
  refine ps_imp (L2.ps_set hN hi hx ha hs hf) fun K σ H ⟨Z, m, v, h, s, e, p⟩ => ?_
  refine ⟨Z, m, v, h, s, e, (Post.stm (k := fun d h1 => match gN i d v h1 with | some v1 => .nx v1 h1 | none => .err) e p).imp fun x H1 ⟨Z1, m1, d, h1, x1, s1, r1, p1⟩ => ?_⟩
  exact p1 _ _ _ _ .refl s1 ((e.mono x1).set r1 i)
/-- the walk's items come, whatever the mirror's state, as long as the check holds -/
def WkOk (C : Cn) (J : It) (k : Wk) (Z : Hp) (m : List Addr) (H0 : Hp) : Prop := ∀ (i : Nat) (Z' : Hp) (m' : List Addr) (h : Hm) (H : Hp), (∀ a o, Z a = some o → Z' a = some o) → m <+: m' → (∀ a o u, H0 a = some (.frz o u) → H a = some (.frz o u)) → HSim C Z' m' h H → k.chk h = true →
  (i < k.its.length → J.go i H ∧ ∀ x H', J.yld i H x H' → ∃ d Z1, k.its[i]? = some d ∧ Ext Z' m' H Z1 m' H' ∧ HSim C Z1 m' h H' ∧ Rep C Z1 m' d x) ∧ (k.its.length ≤ i → J.stop i H)
/-- what a for walks -/
def denW (C : Cn) (E : WX) (w : Ev → Hm → R Wk) : TI := fun σ H Q => ∃ Z m v h, HSim C Z m h H ∧ EnvR C Z m v σ ∧ (match w v h with
  | .ok k h1 => ∀ Z1 m1 H1 J, Ext Z m H Z1 m1 H1 → HSim C Z1 m1 h1 H1 → WkOk C J k Z1 m1 H1 → Q J H1
  | .exc e h1 => ∀ Z' m' H' c od, Ext Z m H Z' m' H' → HSim C Z' m' h1 H' → ExR C Z' m' H' e c od → E c od σ H'
  | .err => False)
theorem ds_for {tg iter : Expr} {body : List Stmt} {g : TgM} {w : Ev → Hm → R Wk} {fb : SM} (hp : PassesOwn (model X.prog X.w) X.A X.env X.xe) (hc : X.calm = true) (hi : PI X tg iter (denW C E w)) (hg : PG X tg (denG C g)) (hb : PSs X body (denS C E fb))
    (hs : ∀ x, foldedSetIterable iter X.env x = pure x := by intro _; rfl) : PS X (.For tg iter body [] pos) (denS C E (sFor g w fb)) := by
  refine ps_imp (ps_for hp hc hi hg hb hs) fun K σ H ⟨Z, m, v, h, s, e, p⟩ => ?_
  refine ⟨Z, m, v, h, s, e, ?_⟩
  unfold sFor at p
  cases q : w v h with
  | exc x h1 => rw [q] at p; exact fun Z' m' H' c od a b r => p Z' m' H' σ c od a b (e.mono a) r
  | err => rw [q] at p; exact p
  | ok k h1 =>
    rw [q] at p
    intro Z1 m1 H1 J x1 s1 ok
    have p : PostS C E (forL g fb k.chk k.its v h1) Z m H K := p
    refine ⟨fun i n σ2 H2 => n = k.its.length - i ∧ i ≤ k.its.length ∧ ∃ Z2 m2 v2 h2, Ext Z1 m1 H1 Z2 m2 H2 ∧ HSim C Z2 m2 h2 H2 ∧ EnvR C Z2 m2 v2 σ2 ∧ PostS C E (forL g fb k.chk (k.its.drop i) v2 h2) Z2 m2 H2 K,
      ⟨_, rfl, Nat.zero_le _, Z1, m1, v, h1, .refl, s1, e.mono x1, PostS.from x1 p⟩, ?_⟩
    rintro i n σ2 H2 ⟨rfl, hi, Z2, m2, v2, h2, x2, s2, e2, p2⟩
    by_cases hc2 : k.chk h2 = true
    · obtain ⟨o1, o2⟩ := ok i Z2 m2 h2 H2 x2.sub x2.pre x2.frz s2 hc2
      by_cases hlt : i < k.its.length
      · obtain ⟨go, y⟩ := o1 hlt
        refine .inr ⟨go, fun σ' H' => i + 1 ≤ k.its.length ∧ ∃ Z2 m2 v2 h2, Ext Z1 m1 H1 Z2 m2 H' ∧ HSim C Z2 m2 h2 H' ∧ EnvR C Z2 m2 v2 σ' ∧ PostS C E (forL g fb k.chk (k.its.drop (i + 1)) v2 h2) Z2 m2 H' K,
          fun σ' H' z => ⟨k.its.length - (i + 1), by omega, rfl, z⟩, fun x H' yy => ?_⟩
        obtain ⟨d, Z3, hd, x3, s3, r3⟩ := y x H' yy
        have hdrop : k.its.drop i = d :: k.its.drop (i + 1) := by
          obtain ⟨hl, he⟩ := List.getElem?_eq_some_iff.mp hd
          rw [List.drop_eq_getElem_cons hl, he]
        rw [hdrop] at p2
        simp only [forL, hc2, if_true] at p2
        cases qg : g d v2 h2 with
        | none => rw [qg] at p2; exact False.elim p2
        | some v3 =>
          rw [qg] at p2
          refine ⟨Z3, m2, v2, h2, d, s3, e2.mono x3, r3, v3, qg, fun σ3 e3 => ?_⟩
          refine ⟨Z3, m2, v3, h2, s3, e3, ?_⟩
          have p2 : PostS C E (match fb v3 h2 with | .nx v2 h2 => forL g fb k.chk (k.its.drop (i + 1)) v2 h2 | .ct v2 h2 => forL g fb k.chk (k.its.drop (i + 1)) v2 h2 | .bk v2 h2 => .nx v2 h2 | o => o) Z2 m2 H2 K := p2
          cases qb : fb v3 h2 with
          | nx v4 h4 => rw [qb] at p2; exact fun Z' m' H' σ' a b c => ⟨hlt, Z', m', v4, h4, x2.trans (x3.trans a), b, c, PostS.from (x3.trans a) p2⟩
          | ct v4 h4 => rw [qb] at p2; exact fun Z' m' H' σ' a b c => ⟨hlt, Z', m', v4, h4, x2.trans (x3.trans a), b, c, PostS.from (x3.trans a) p2⟩
          | bk v4 h4 => rw [qb] at p2; exact fun Z' m' H' σ' a b c => p2 Z' m' H' σ' (x3.trans a) b c
          | rt d4 h4 => rw [qb] at p2; exact fun Z' m' H' σ' a b c => p2 Z' m' H' σ' (x3.trans a) b c
          | exc e4 v4 h4 => rw [qb] at p2; exact fun Z' m' H' σ' c od a b r => p2 Z' m' H' σ' c od (x3.trans a) b r
          | err => rw [qb] at p2; exact False.elim p2
      · have hi2 : i = k.its.length := by omega
        subst hi2
        rw [List.drop_length] at p2
        simp only [forL, hc2, if_true] at p2
        exact .inl ⟨o2 (Nat.le_refl _), p2 _ _ _ _ .refl s2 e2⟩
    · exfalso
      cases hd : k.its.drop i with
      | nil => rw [hd] at p2; simp only [forL, hc2] at p2; exact p2
      | cons d r => rw [hd] at p2; simp only [forL, hc2] at p2; exact p2
theorem ds_while {c : Expr} {body : List Stmt} {ft : TM} {fb : SM} (hp : PassesOwn (model X.prog X.w) X.A X.env X.xe) (hc : PT X c (denT C E ft)) (hb : PSs X body (denS C E fb)) : PS X (.While c body [] pos) (denS C E (sWh ft fb)) := by
  refine ps_imp (ps_while hp hc hb) fun K σ H ⟨Z, m, v, h, s, e, p⟩ => ?_
  refine ⟨fun n σ H => ∃ Z m v h, HSim C Z m h H ∧ EnvR C Z m v σ ∧ PostS C E (whL ft fb n v h) Z m H K, ⟨1000000, Z, m, v, h, s, e, p⟩, ?_⟩
  rintro n σ H ⟨Z, m, v, h, s, e, p⟩
  cases n with
  | zero => exact False.elim p
  | succ n =>
    refine ⟨Z, m, v, h, s, e, ?_⟩
    unfold whL at p
    cases q : ft v h with
    | exc x h1 => rw [q] at p; exact fun Z' m' H' c od a b r => p Z' m' H' σ c od a b (e.mono a) r
    | err => rw [q] at p; exact p
    | ok k h1 =>
      rw [q] at p
      intro Z1 m1 H1 b x1 s1 r
      cases (show b = k from r)
      cases k with
      | false => exact p Z1 m1 H1 σ x1 s1 (e.mono x1)
      | true =>
        refine ⟨fun σ' H' => ∃ Z m v h, HSim C Z m h H' ∧ EnvR C Z m v σ' ∧ PostS C E (whL ft fb n v h) Z m H' K, fun σ' H' z => ⟨n, Nat.lt_succ_self _, z⟩, ?_⟩
        refine ⟨Z1, m1, v, h1, s1, e.mono x1, ?_⟩
        have p : PostS C E (match fb v h1 with | .nx v2 h2 => whL ft fb n v2 h2 | .ct v2 h2 => whL ft fb n v2 h2 | .bk v2 h2 => .nx v2 h2 | o => o) Z m H K := p
        cases qb : fb v h1 with
        | nx v4 h4 => rw [qb] at p; exact fun Z' m' H' σ' a b c => ⟨Z', m', v4, h4, b, c, PostS.from (x1.trans a) p⟩
        | ct v4 h4 => rw [qb] at p; exact fun Z' m' H' σ' a b c => ⟨Z', m', v4, h4, b, c, PostS.from (x1.trans a) p⟩
        | bk v4 h4 => rw [qb] at p; exact fun Z' m' H' σ' a b c => p Z' m' H' σ' (x1.trans a) b c
        | rt d4 h4 => rw [qb] at p; exact fun Z' m' H' σ' a b c => p Z' m' H' σ' (x1.trans a) b c
        | exc e4 v4 h4 => rw [qb] at p; exact fun Z' m' H' σ' c od a b r => p Z' m' H' σ' c od (x1.trans a) b r
        | err => rw [qb] at p; exact False.elim p
end
end Dn
set_option Elab.async false
set_option linter.all false
set_option maxRecDepth 100000
set_option maxHeartbeats 4000000
namespace Dn
open PySem PySem.Spec PyProof.Rows L2
theorem wipe_get (σ : L2.St) : ∀ (vs : List Nat) (j : Nat), (wipe σ vs)[j]? = if j ∈ vs then (σ[j]?).map (fun _ => none) else σ[j]?
  | [], j => by simp [wipe]
  | v :: vs, j => by
    unfold wipe
    by_cases hj : v = j
    · subst hj
      rw [List.getElem?_set, if_pos rfl, wipe_length, if_pos List.mem_cons_self]
      by_cases hl : v < σ.length
      · rw [if_pos hl, List.getElem?_eq_getElem hl]; rfl
      · rw [if_neg hl, List.getElem?_eq_none (by omega)]; rfl
    · rw [List.getElem?_set_ne hj, wipe_get σ vs j]
      simp [List.mem_cons, Ne.symm hj]
theorem wipe_set {σ : L2.St} {vs : List Nat} {i : Nat} (x : Option V) (h : i ∈ vs) : wipe (σ.set i x) vs = wipe σ vs := by
  apply List.ext_getElem?
  intro j
  rw [wipe_get, wipe_get]
  by_cases hj : j ∈ vs
  · rw [if_pos hj, if_pos hj, List.getElem?_set]
    by_cases hi : i = j
    · subst hi
      rw [if_pos rfl]
      by_cases hl : i < σ.length
      · rw [if_pos hl, List.getElem?_eq_getElem hl]; rfl
      · rw [if_neg hl, List.getElem?_eq_none (by omega)]
    · rw [if_neg hi]
  · rw [if_neg hj, if_neg hj, List.getElem?_set_ne (fun z => hj (by rw [← z]; exact h))]
theorem wipe_wipe (σ : L2.St) (vs : List Nat) : wipe (wipe σ vs) vs = wipe σ vs := by
  apply List.ext_getElem?
  intro j
  rw [wipe_get, wipe_get]
  by_cases hj : j ∈ vs
  · rw [if_pos hj]
    simp only [hj, if_true, Option.map_map]
    rfl
  · rw [if_neg hj]
def fillS : List Nat → List V → L2.St → L2.St
  | i :: is, x :: xs, σ => fillS is xs (σ.set i (some x))
  | _, _, σ => σ
theorem wipe_fill {vs : List Nat} : ∀ (is : List Nat) (xs : List V) (σ : L2.St), (∀ i ∈ is, i ∈ vs) → wipe (fillS is xs σ) vs = wipe σ vs
  | [], _, _, _ => by unfold fillS; rfl
  | _ :: _, [], _, _ => by unfold fillS; rfl
  | i :: is, x :: xs, σ, h => by
    unfold fillS
    rw [wipe_fill is xs _ fun j hj => h j (List.mem_cons_of_mem _ hj), wipe_set _ (h i List.mem_cons_self)]
theorem EnvR.fill {C : Cn} {Z : Hp} {m : List Addr} : ∀ (is : List Nat) (ds : List D) (xs : List V) (v v1 : Ev) (σ : L2.St), EnvR C Z m v σ → RepL C Z m ds xs → fillAll is ds v = some v1 → EnvR C Z m v1 (fillS is xs σ) ∧ xs.length = is.length
  | [], _, _, v, v1, σ, e, .nil, h => by cases h; exact ⟨by unfold fillS; exact e, rfl⟩
  | [], _, _, _, _, _, _, .cons _ _, h => by cases h
  | i :: is, _, _, _, _, _, _, .nil, h => by cases h
  | i :: is, _, _, v, v1, σ, e, .cons a b, h => by
    have z := EnvR.fill is _ _ (v.set i _) v1 (σ.set i _) (e.set a i) b h
    exact ⟨by unfold fillS; exact z.1, by simp [z.2]⟩
def gNames : List Nat → TGs
  | [] => gNil
  | i :: is => gCons (gName i) (gNames is)
theorem gNames_fill : ∀ (is : List Nat) (xs : List V) (σ : L2.St) (H : Hp) (Q : L2.St → Hp → Prop), xs.length = is.length → Q (fillS is xs σ) H → gNames is xs σ H Q
  | [], [], σ, H, Q, _, q => ⟨rfl, by unfold fillS at q; exact q⟩
  | i :: is, x :: xs, σ, H, Q, h, q => ⟨x, xs, rfl, gNames_fill is xs _ H Q (by simpa using h) (by unfold fillS at q; exact q)⟩
/-- a comprehension's target: its reading's slots are known -/
structure LcG (C : Cn) (g : TgM) (t : TG) (own : List Nat) : Prop where
  ok : ∀ (Z : Hp) (m : List Addr) (d : D) (x : V) (v v1 : Ev) (h : Hm) (σ : L2.St) (H : Hp) (Q : L2.St → Hp → Prop), (∀ a o, Z a = some o → H a = some o) → Rep C Z m d x → EnvR C Z m v σ → g d v h = some v1 → (∀ σ1, EnvR C Z m v1 σ1 → wipe σ1 own = wipe σ own → Q σ1 H) → t x σ H Q
theorem lcg_name {C : Cn} {i : Nat} {own : List Nat} (hi : i ∈ own) : LcG C (gN i) (gName i) own := ⟨fun Z m d x v v1 h σ H Q _ r e q k => by
  cases q
  exact k _ (e.set r i) (wipe_set _ hi)⟩
theorem lcg_tup {C : Cn} {is own : List Nat} (hi : ∀ i ∈ is, i ∈ own) : LcG C (gT is) (gTup C.K is.length (gNames is)) own := ⟨fun Z m d x v v1 h σ H Q zs r e q k => by
  cases r with
  | @tup a vs l hq rl =>
    obtain ⟨e1, hl⟩ := EnvR.fill is l vs v v1 σ e rl q
    exact ⟨a, vs, rfl, .inl (.inl (zs _ _ hq)), hl, gNames_fill is vs σ H Q hl (k _ e1 (wipe_fill is vs σ hi))⟩
  | _ => cases q⟩
theorem HSim.side {C : Cn} {Z H : Hp} {m : List Addr} {h : Hm} (s : HSim C Z m h H) {p : Addr} (o : HO) (hm : p ∉ m) (hz : Z p = none) (hp : ∀ u, H p = some u → Plainly u) : HSim C Z m h (upd H p o) := by
  refine ⟨fun a u e => ?_, s.len, s.nd, s.off, fun n a u e1 e2 => ?_, tabs_put s.tab hp, s.noT⟩
  · rw [upd_ne (fun z => by subst z; rw [hz] at e; cases e)]; exact s.sub a u e
  · exact (s.obj n a u e1 e2).at (upd_ne fun z => hm (by subst z; exact List.mem_of_getElem? e1))
theorem Post.base {α β γ δ : Type} {C : Cn} {rep : Hp → List Addr → α → β → Prop} {rep1 : Hp → List Addr → γ → δ → Prop} {E : XK} {r : R γ} {k : γ → Hm → R α} {Z Zb : Hp} {m mb : List Addr} {H Hb : Hp} {Q : β → Hp → Prop} (h : Post C rep E (r.nx.bind k) Zb mb Hb Q) :
    Post C rep1 (fun _ _ _ => False) r Z m H fun v H1 => ∃ Z1 m1 d h1, Ext Z m H Z1 m1 H1 ∧ HSim C Z1 m1 h1 H1 ∧ rep1 Z1 m1 d v ∧ Post C rep E (k d h1) Zb mb Hb Q := by
  cases r with
  | ok d h' => exact fun Z' m' H' v a b c => ⟨Z', m', d, h', a, b, c, h⟩
  | exc e h' => exact False.elim h
  | err => exact h
theorem HSim.fin {C : Cn} {Z H : Hp} {m : List Addr} {h : Hm} (s : HSim C Z m h H) {p : Addr} {o : HO} (hm : p ∉ m) (hz : Z p = none) (hp : H p = some o) (ho : ∀ ps, o ≠ .tbl ps := by intro _ z; cases z) : HSim C (upd Z p o) m h H := by
  refine ⟨fun a u e => ?_, s.len, s.nd, fun n a u e1 e2 hd => ?_, fun n a u e1 e2 => ?_, s.tab, fun a ps e => ?_⟩
  · by_cases ha : a = p
    · subst ha; rw [upd_same] at e; rw [hp]; exact e
    · rw [upd_ne ha] at e; exact s.sub a u e
  · rw [upd_ne (fun z => hm (by subst z; exact List.mem_of_getElem? e1))]; exact s.off n a u e1 e2 hd
  · exact (s.obj n a u e1 e2).mono (fun b w e => by rw [upd_ne (fun z => by subst z; rw [hz] at e; cases e)]; exact e) (List.prefix_refl _)
  · by_cases ha : a = p
    · subst ha; rw [upd_same] at e; exact ho ps (Option.some.inj e)
    · rw [upd_ne ha] at e; exact s.noT a ps e
theorem Ext.side {Z H Z' H' : Hp} {m m' : List Addr} (x : Ext Z m H Z' m' H') {p : Addr} (o : HO) (hp : H p = none) : Ext Z m H Z' m' (upd H' p o) :=
  ⟨x.sub, x.pre, fun a u e hm nt => by rw [upd_ne (fun z => by subst z; rw [hp] at e; cases e)]; exact x.keep a u e hm nt, x.newM, x.newZ, fun a u w e => by rw [upd_ne (fun z => by subst z; rw [hp] at e; cases e)]; exact x.frz a u w e⟩
theorem Ext.fin {Z H Z' H' : Hp} {m m' : List Addr} (x : Ext Z m H Z' m' H') {p : Addr} (o : HO) (hp : H p = none) (hz : Z' p = none) : Ext Z m H (upd Z' p o) m' H' := by
  refine ⟨fun a u e => ?_, x.pre, x.keep, x.newM, fun a e => ?_, x.frz⟩
  · have := x.sub a u e
    rw [upd_ne (fun z => by subst z; rw [hz] at this; cases this)]; exact this
  · by_cases ha : a = p
    · subst ha; exact .inr (.inr (frt_none hp))
    · rw [upd_ne ha] at e; exact x.newZ a e
section
variable {X : Cx} {C : Cn} {E : WX} {pos : Pos}
/-- nothing is let out -/
abbrev EF : WX := fun _ _ _ _ => False
theorem tLc_den {wi : TI} {t : TG} {tt : TT} {te : TE} {own : List Nat} {g : TgM} {w : Ev → Hm → R Wk} {ft : TM} {fe : EM} (hw : ∀ σ H Q, denW C E w σ H Q → wi σ H Q) (hg : LcG C g t own) (ht : ∀ σ H Q, denT C EF ft σ H Q → tt σ H Q) (he : ∀ σ H Q, denE C EF fe σ H Q → te σ H Q)
    {σ : L2.St} {H : Hp} {Q : VK} (hq : denE C E (eLc own g w ft fe) σ H Q) : tLc wi t tt te own σ H Q := by
  obtain ⟨Z, m, v, h, s, e, p⟩ := hq
  refine hw _ _ _ ⟨Z, m, v, h, s, e, ?_⟩
  unfold eLc at p
  cases q : w v h with
  | exc x h1 => rw [q] at p; exact p
  | err => rw [q] at p; exact p
  | ok k h1 =>
    rw [q] at p
    have p : Post C (Rep C) (fun c d H' => E c d σ H') (if k.its.length ≤ 16777215 then (lcL g ft fe k.chk (wipeE v own) k.its h1).bind fun ys h2 => .ok (.lst ys) h2 else .err) Z m H Q := p
    intro Zb mb Hb J xb sb ok q0 hD
    have p := Post.from xb p
    split at p
    case isFalse => exact False.elim p
    rename_i hsz
    have hDm := sb.nm hD
    have hDz := sb.nz hD
    refine ⟨fun i n H2 => n = k.its.length - i ∧ i ≤ k.its.length ∧ ∃ Z2 m2 h2 acc vs, Ext Zb mb Hb Z2 m2 H2 ∧ HSim C Z2 m2 h2 H2 ∧ H2 q0 = some (.lst vs) ∧ RepL C Z2 m2 acc vs ∧ q0 ∉ m2 ∧ Z2 q0 = none ∧ acc.length ≤ i ∧
      Post C (Rep C) (fun c d H' => E c d σ H') ((lcL g ft fe k.chk (wipeE v own) (k.its.drop i) h2).bind fun ys h3 => .ok (.lst (acc ++ ys)) h3) Zb mb Hb Q,
      ⟨_, rfl, Nat.zero_le _, Zb, mb, h1, [], [], ⟨fun _ _ z => z, List.prefix_refl _, fun a o z _ _ => by rw [upd_ne (fun y => by subst y; rw [hD] at z; cases z)]; exact z, fun _ z => .inl z, fun _ z => .inl z, fun a o u z => by rw [upd_ne (fun y => by subst y; rw [hD] at z; cases z)]; exact z⟩, sb.side _ hDm hDz (fun u z => by rw [hD] at z; cases z), upd_same, .nil, hDm, hDz, Nat.le_refl _, p⟩, ?_⟩
    rintro i n H2 ⟨rfl, hi, Z2, m2, h2, acc, vs, x2, s2, hv, ra, d1, d2, hal, p2⟩
    have hck : k.chk h2 = true := by
      cases hc : k.chk h2 with
      | true => rfl
      | false =>
        exfalso
        cases hd : k.its.drop i with
        | nil => rw [hd] at p2; simp only [lcL, hc] at p2; exact p2
        | cons d r => rw [hd] at p2; simp only [lcL, hc] at p2; exact p2
    obtain ⟨o1, o2⟩ := ok i Z2 m2 h2 H2 x2.sub x2.pre x2.frz s2 hck
    by_cases hlt : i < k.its.length
    · obtain ⟨go, y⟩ := o1 hlt
      refine .inr ⟨go, fun H' => i + 1 ≤ k.its.length ∧ ∃ Z2 m2 h2 acc vs, Ext Zb mb Hb Z2 m2 H' ∧ HSim C Z2 m2 h2 H' ∧ H' q0 = some (.lst vs) ∧ RepL C Z2 m2 acc vs ∧ q0 ∉ m2 ∧ Z2 q0 = none ∧ acc.length ≤ i + 1 ∧
        Post C (Rep C) (fun c d H' => E c d σ H') ((lcL g ft fe k.chk (wipeE v own) (k.its.drop (i + 1)) h2).bind fun ys h3 => .ok (.lst (acc ++ ys)) h3) Zb mb Hb Q,
        fun H' z => ⟨_, by omega, rfl, z⟩, fun x H3 yy => ?_⟩
      obtain ⟨d, Z3, hd, x3, s3, r3⟩ := y x H3 yy
      have hdrop : k.its.drop i = d :: k.its.drop (i + 1) := by
        obtain ⟨hl, he⟩ := List.getElem?_eq_some_iff.mp hd
        rw [List.drop_eq_getElem_cons hl, he]
      rw [hdrop] at p2
      simp only [lcL, hck, if_true] at p2
      -- q0 is beside all that goes on
      have side : ∀ {Z' : Hp} {m' : List Addr} {H' : Hp}, Ext Z2 m2 H2 Z' m' H' → q0 ∉ m' ∧ Z' q0 = none ∧ H' q0 = some (.lst vs) := fun {Z' m' H'} x => by
        refine ⟨fun z => ?_, ?_, x.keep q0 _ hv d1 (fun _ z => by cases z)⟩
        · rcases x.newM q0 z with a | a
          · exact d1 a
          · exact fr_lst a hv
        · cases q : Z' q0 with
          | none => rfl
          | some u =>
            rcases x.newZ q0 (by rw [q]; simp) with a | a | a
            · exact absurd d2 a
            · exact absurd a d1
            · exact (frt_lst a hv).elim
      cases qg : g d (wipeE v own) h2 with
      | none => rw [qg] at p2; exact False.elim p2
      | some v1 =>
        rw [qg] at p2
        have e0 : EnvR C Z3 m2 (wipeE v own) (wipe σ own) := (((e.mono xb).mono x2).mono x3).wipe own
        refine hg.ok Z3 m2 d x _ v1 h2 _ H3 _ s3.sub r3 e0 qg fun σ1 e1 hw1 => ⟨by rw [hw1, wipe_wipe], ?_⟩
        have p3 : Post C (Rep C) (fun c d H' => E c d σ H') ((ft v1 h2).nx.bind fun c h1 => (if c then (fe v1 h1).nx.bind fun y h2 => (lcL g ft fe k.chk (wipeE v own) (k.its.drop (i + 1)) h2).bind fun ys h3 => .ok (y :: ys) h3 else lcL g ft fe k.chk (wipeE v own) (k.its.drop (i + 1)) h1).bind fun ys h3 => .ok (.lst (acc ++ ys)) h3) Zb mb Hb Q := by
          have : (((ft v1 h2).nx.bind fun c h1 => if c then (fe v1 h1).nx.bind fun y h2 => (lcL g ft fe k.chk (wipeE v own) (k.its.drop (i + 1)) h2).bind fun ys h3 => R.ok (y :: ys) h3 else lcL g ft fe k.chk (wipeE v own) (k.its.drop (i + 1)) h1).bind fun ys h3 => R.ok (Dn.D.lst (acc ++ ys)) h3) = ((ft v1 h2).nx.bind fun c h1 => (if c then (fe v1 h1).nx.bind fun y h2 => (lcL g ft fe k.chk (wipeE v own) (k.its.drop (i + 1)) h2).bind fun ys h3 => R.ok (y :: ys) h3 else lcL g ft fe k.chk (wipeE v own) (k.its.drop (i + 1)) h1).bind fun ys h3 => .ok (.lst (acc ++ ys)) h3) := by
            cases ft v1 h2 <;> rfl
          rw [← this]; exact p2
        refine ht _ _ _ ⟨Z3, m2, v1, h2, s3, e1, (Post.base (rep1 := RB) p3).imp fun b H4 ⟨Z4, m4, b', h4, x4, s4, r4, p4⟩ => ?_⟩
        cases (show b = b' from r4)
        cases b with
        | false =>
          obtain ⟨t1, t2, t3⟩ := side (x3.trans x4)
          exact ⟨hlt, Z4, m4, h4, acc, vs, x2.trans (x3.trans x4), s4, t3, ra.mono (x3.trans x4).sub (x3.trans x4).pre, t1, t2, by omega, p4⟩
        | true =>
          have p5 : Post C (Rep C) (fun c d H' => E c d σ H') ((fe v1 h4).nx.bind fun y h2 => (lcL g ft fe k.chk (wipeE v own) (k.its.drop (i + 1)) h2).bind fun ys h3 => .ok (.lst ((acc ++ [y]) ++ ys)) h3) Zb mb Hb Q := by
            have : (((fe v1 h4).nx.bind fun y h2 => (lcL g ft fe k.chk (wipeE v own) (k.its.drop (i + 1)) h2).bind fun ys h3 => R.ok (y :: ys) h3).bind fun ys h3 => R.ok (Dn.D.lst (acc ++ ys)) h3) = ((fe v1 h4).nx.bind fun y h2 => (lcL g ft fe k.chk (wipeE v own) (k.its.drop (i + 1)) h2).bind fun ys h3 => .ok (.lst ((acc ++ [y]) ++ ys)) h3) := by
              cases fe v1 h4 with
              | ok y h5 =>
                simp only [nx_ok, bind_ok]
                cases lcL g ft fe k.chk (wipeE v own) (k.its.drop (i + 1)) h5 <;> simp [R.bind, List.append_assoc]
              | exc _ _ => rfl
              | err => rfl
            rw [← this]; exact p4
          refine he _ _ _ ⟨Z4, m4, v1, h4, s4, e1.mono x4, (Post.base (rep1 := Rep C) p5).imp fun y H5 ⟨Z5, m5, y', h5, x5, s5, r5, p6⟩ => ?_⟩
          obtain ⟨t1, t2, t3⟩ := side (x3.trans (x4.trans x5))
          have hlen := ra.length
          refine ⟨vs, t3, by rw [sizeLine_eq]; omega, hlt, Z5, m5, h5, acc ++ [y'], vs ++ [y], (x2.trans (x3.trans (x4.trans x5))).side _ hD, s5.side _ t1 t2 (fun u z => by rw [t3] at z; cases z; exact ⟨(fun _ z => by cases z), fun _ z => by cases z⟩), upd_same, (ra.mono (x3.trans (x4.trans x5)).sub (x3.trans (x4.trans x5)).pre).append (.one r5), t1, t2, by simp; omega, p6⟩
    · have hi2 : i = k.its.length := by omega
      subst hi2
      rw [List.drop_length] at p2
      simp only [lcL, hck, if_true, bind_ok, List.append_nil] at p2
      refine .inl ⟨o2 (Nat.le_refl _), p2 (upd Z2 q0 (.lst vs)) m2 H2 _ (x2.fin _ hD d2) (s2.fin d1 d2 hv) (.lst upd_same (ra.mono (fun a o z => ?_) (List.prefix_refl _)))⟩
      rw [upd_ne (fun y => by subst y; rw [d2] at z; cases z)]; exact z
end
end Dn
set_option Elab.async false
set_option linter.all false
set_option maxRecDepth 100000
set_option maxHeartbeats 4000000
namespace Dn
open PySem PySem.Spec PyProof.Rows L2
section
variable {X : Cx} {C : Cn} {E : WX} {pos : Pos}
theorem pts_imp {e : List Expr} {t t' : TT} (h : PTs X e t) (hi : ∀ σ H Q, t' σ H Q → t σ H Q) : PTs X e t' := ⟨fun pins s σ H Q I q => h.run pins s σ H Q I (hi _ _ _ q)⟩
theorem dts_nil : PTs X [] (denT C E Dn.tYes) := pts_imp pts_nil fun _ _ _ ⟨_, _, _, _, s, _, p⟩ => p _ _ _ _ .refl s rfl
theorem dts_one {c : Expr} {fc : TM} (h : PT X c (denT C E fc)) : PTs X [c] (denT C E fc) := pts_one h
variable {elt tg iter : Expr} {ifs : List Expr} {scope : Scope} {own : List (Str × Nat)} {g : TgM} {t : TG} {w : Ev → Hm → R Wk} {ft : TM} {fe : EM}
theorem de_lc (hc : X.calm = true) (hN : X.N.Nodup) (ok : BlkOk X.N X.env.scope scope own) (hi : PI X tg iter (denW C E w)) (hl : LcG C g t (own.map (·.2)))
    (hg : ∀ (s : Shared) (H : Hp) (Ca : Addr) (cl : List (Str × Addr)) (fp : List Addr), PG (X.blk s H scope (compEnvC scope cl Ca X.env) fp) tg t) (ht : ∀ (s : Shared) (H : Hp) (Ca : Addr) (cl : List (Str × Addr)) (fp : List Addr), PTs (X.blk s H scope (compEnvC scope cl Ca X.env) fp) ifs (denT C EF ft))
    (he : ∀ (s : Shared) (H : Hp) (Ca : Addr) (cl : List (Str × Addr)) (fp : List Addr), PE (X.blk s H scope (compEnvC scope cl Ca X.env) fp) elt (denE C EF fe)) (hs : ∀ x, foldedSetIterable iter X.env x = pure x := by intro _; rfl) :
    PE X (.ListComp elt [⟨tg, iter, ifs, 0⟩] scope pos) (denE C E (eLc (own.map (·.2)) g w ft fe)) :=
  pe_imp (pe_lc hc hN hi ok hg ht he hs) fun σ H Q q => tLc_den (fun _ _ _ z => z) hl (fun _ _ _ z => z) (fun _ _ _ z => z) q
/-- x = [.. for ..] on one line -/
theorem ds_setLc {i : Nat} {y : Str} {py spos : Pos} (hc : X.calm = true) (hN : X.N.Nodup) (hy : X.N[i]? = some y) (hyl : X.env.scope.names.lookup y = some .local)
    (hsw : swapsWith (.ListComp elt [⟨tg, iter, ifs, 0⟩] scope pos) (some (.Name y py)) spos.line X.env = pure true) (ok : BlkOk X.N X.env.scope scope own) (hi : PI X tg iter (denW C E w)) (hl : LcG C g t (own.map (·.2)))
    (hg : ∀ (s : Shared) (H : Hp) (Ca : Addr) (cl : List (Str × Addr)) (fp : List Addr), PG (X.blk s H scope (compEnvC scope cl Ca X.env) fp) tg t) (ht : ∀ (s : Shared) (H : Hp) (Ca : Addr) (cl : List (Str × Addr)) (fp : List Addr), PTs (X.blk s H scope (compEnvC scope cl Ca X.env) fp) ifs (denT C EF ft))
    (he : ∀ (s : Shared) (H : Hp) (Ca : Addr) (cl : List (Str × Addr)) (fp : List Addr), PE (X.blk s H scope (compEnvC scope cl Ca X.env) fp) elt (denE C EF fe)) (hs : ∀ x, foldedSetIterable iter X.env x = pure x := by intro _; rfl) :
    PS X (.Assign [.Name y py] (.ListComp elt [⟨tg, iter, ifs, 0⟩] scope pos) spos) (denS C E (sAsg (gN i) (eLc (own.map (·.2)) g w ft fe))) := by
  refine ps_imp (ps_setLc hc hN hy hyl hsw hi ok hg ht he hs) fun K σ H ⟨Z, m, v, h, s, e, p⟩ => ?_
  refine tLc_den (E := E) (fun _ _ _ z => z) hl (fun _ _ _ z => z) (fun _ _ _ z => z) ⟨Z, m, v, h, s, e, (Post.stm (k := fun d h1 => match gN i d v h1 with | some v1 => .nx v1 h1 | none => .err) e p).imp fun x H1 ⟨Z1, m1, d, h1, x1, s1, r1, p1⟩ => ?_⟩
  exact p1 _ _ _ _ .refl s1 ((e.mono x1).set r1 i)
theorem wk_list {H0 : Hp} {Z H : Hp} {m : List Addr} {a : Addr} {vs : List V} {l : List D} (hK : C.K = X.K) (hq : SqL C.K Z a vs) (r : RepL C Z m l vs) : WkOk C (Itl X.K a) ⟨l, fun _ => true⟩ Z m H0 := by
  intro i Z' m' h H hz hm _ s _
  have q : SqL X.K H a vs := hK ▸ sqL_mono s.sub (sqL_mono hz hq)
  have r' := r.mono hz hm
  have hl := r.length
  refine ⟨fun hi => ⟨⟨vs, vs[i]'(by rw [← hl]; exact hi), q, List.getElem?_eq_getElem _⟩, fun x H' y => ?_⟩, fun hi => ⟨vs, q, by rw [← hl]; exact hi⟩⟩
  obtain ⟨rfl, y⟩ := y
  obtain ⟨d, e, rd⟩ := r'.getV (y vs q)
  exact ⟨d, Z', e, .refl, s, rd⟩
theorem wk_tup {H0 : Hp} {Z H : Hp} {m : List Addr} {a : Addr} {vs : List V} {l : List D} (hK : C.K = X.K) (hq : SqT C.K Z a vs) (r : RepL C Z m l vs) : WkOk C (Itt X.K a) ⟨l, fun _ => true⟩ Z m H0 := by
  intro i Z' m' h H hz hm _ s _
  have q : SqT X.K H a vs := hK ▸ sqT_mono s.sub (sqT_mono hz hq)
  have r' := r.mono hz hm
  have hl := r.length
  refine ⟨fun hi => ⟨⟨vs, vs[i]'(by rw [← hl]; exact hi), q, List.getElem?_eq_getElem _⟩, fun x H' y => ?_⟩, fun hi => ⟨vs, q, by rw [← hl]; exact hi⟩⟩
  obtain ⟨rfl, y⟩ := y
  obtain ⟨d, e, rd⟩ := r'.getV (y vs q)
  exact ⟨d, Z', e, .refl, s, rd⟩
theorem wk_ref {H0 : Hp} {Z H : Hp} {m : List Addr} {n : Nat} {a : Addr} {l : List D} (e : m[n]? = some a) : WkOk C (Itl X.K a) ⟨l, fun h' => match h'[n]? with | some o => HD.beq o (.lst l) | none => false⟩ Z m H0 := by
  intro i Z' m' h H hz hm _ s hc
  have hh : h[n]? = some (.lst l) := by
    cases q : h[n]? with
    | none => simp [q] at hc
    | some o => simp [q] at hc; rw [HD.beq_eq _ _ hc]
  obtain ⟨vs, hv, r⟩ := s.obj n a _ (pre_get hm e) hh
  have q : SqL X.K H a vs := .inl (.inl hv)
  have hl := r.length
  refine ⟨fun hi => ⟨⟨vs, vs[i]'(by rw [← hl]; exact hi), q, List.getElem?_eq_getElem _⟩, fun x H' y => ?_⟩, fun hi => ⟨vs, q, by rw [← hl]; exact hi⟩⟩
  obtain ⟨rfl, y⟩ := y
  obtain ⟨d, e, rd⟩ := r.getV (y vs q)
  exact ⟨d, Z', e, .refl, s, rd⟩
theorem wk_str {H0 : Hp} {Z : Hp} {m : List Addr} {x : Str} : WkOk C (Its x) ⟨x.cps.toList.map fun c => .str ⟨#[c]⟩, fun _ => true⟩ Z m H0 := by
  intro i Z' m' h H hz hm _ s _
  refine ⟨fun hi => ⟨(show i < x.cps.size by simpa using hi), fun y H' ⟨rfl, c, hc, e⟩ => ⟨.str ⟨#[c]⟩, Z', ?_, .refl, s, by rw [e]; exact .str _⟩⟩, fun hi => (show x.cps.size ≤ i by simpa using hi)⟩
  simp [hc]
theorem wk_range {H0 : Hp} {Z : Hp} {m : List Addr} {lo : Int} {n : Nat} : WkOk C (Itr lo n) ⟨(List.range n).map fun (i : Nat) => .int (lo + (i : Int)), fun _ => true⟩ Z m H0 := by
  intro i Z' m' h H hz hm _ s _
  refine ⟨fun hi => ⟨(show i < n by simpa using hi), fun y H' ⟨e1, e⟩ => ?_⟩, fun hi => (show n ≤ i by simpa using hi)⟩
  subst e1
  refine ⟨.int (lo + i), Z', ?_, .refl, s, by rw [e]; exact .int _⟩
  have : i < n := by simpa using hi
  simp [this]
/-- over a list, a tuple, a text -/
theorem di_e {a : Expr} {fa : EM} (hK : C.K = X.K) (ha : PE X a (denE C E fa)) : PI X tg a (denW C E (wE fa)) := by
  refine ⟨fun pins s0 σ H R I q => ?_⟩
  obtain ⟨Z, m, v, h, s, e, p⟩ := q
  unfold wE at p
  cases qa : fa v h with
  | err => rw [qa] at p; exact False.elim p
  | exc x h1 =>
    rw [qa] at p
    refine (pi_list ha).run pins s0 σ H R I ⟨Z, m, v, h, s, e, ?_⟩
    rw [qa]; exact p
  | ok d h1 =>
    rw [qa] at p
    simp only [bind_ok] at p
    cases d with
    | lst l =>
      refine (pi_list ha).run pins s0 σ H R I ⟨Z, m, v, h, s, e, ?_⟩
      rw [qa]
      intro Z' m' H' u x s' r
      cases r with
      | lst hq rl => exact ⟨_, rfl, ⟨_, .inl (.inl (s'.sub _ _ hq))⟩, p Z' m' H' _ x s' (wk_list (H := H') hK (.inl (.inl hq)) rl)⟩
    | tup l =>
      refine (pi_tup ha).run pins s0 σ H R I ⟨Z, m, v, h, s, e, ?_⟩
      rw [qa]
      intro Z' m' H' u x s' r
      cases r with
      | tup hq rl => exact ⟨_, rfl, ⟨_, .inl (.inl (s'.sub _ _ hq))⟩, p Z' m' H' _ x s' (wk_tup (H := H') hK (.inl (.inl hq)) rl)⟩
    | str y =>
      refine (pi_str ha).run pins s0 σ H R I ⟨Z, m, v, h, s, e, ?_⟩
      rw [qa]
      intro Z' m' H' u x s' r
      cases r with
      | str y => exact ⟨_, rfl, p Z' m' H' _ x s' wk_str⟩
    | ref n =>
      refine (pi_list ha).run pins s0 σ H R I ⟨Z, m, v, h, s, e, ?_⟩
      rw [qa]
      intro Z' m' H' u x s' r
      cases r with
      | ref en =>
        simp only [wkOf] at p
        split at p
        · rename_i l hl
          split at hl
          · rename_i l' hl'
            cases hl
            obtain ⟨vs, hv, rl⟩ := s'.obj n _ _ en hl'
            exact ⟨_, rfl, ⟨_, .inl (.inl hv)⟩, p Z' m' H' _ x s' (wk_ref (H := H') en)⟩
          · cases hl
        · rename_i hl; split at hl <;> cases hl
        · exact False.elim p
    | _ => exact False.elim p
theorem di_r1 {a : Expr} {fa : EM} {p pos : Pos} (hg : Gl X "range") (hm : X.mg "range" = none) (ha : PE X a (denE C E fa)) (hs : starEach [a] X.env = [(false, eval a X.env)] := by rfl) : PI X tg (.Call (.Name "range" p) [a] [] pos) (denW C E (wR1 fa)) := by
  refine ⟨fun pins s0 σ H R I q => (pi_range1 hg hm (pa_cons ha pa_nil hs) hs).run pins s0 σ H R I ?_⟩
  obtain ⟨Z, m, v, h, s, e, p⟩ := q
  refine ⟨Z, m, v, h, s, e, ?_⟩
  unfold wR1 at p
  cases qa : fa v h with
  | err => rw [qa] at p; exact False.elim p
  | exc x h1 => rw [qa] at p; exact p
  | ok d h1 =>
    rw [qa] at p
    intro Z' m' H' u x s' r
    simp only [bind_ok] at p
    cases r with
    | int n =>
      simp only [wRange] at p
      split at p
      · rename_i k h2 hb
        split at hb
        · rename_i hc
          cases hb
          refine ⟨n, rfl, hc.2.2.2, hc.2.2.1, p Z' m' H' _ x s' ?_⟩
          have := wk_range (C := C) (H0 := H') (Z := Z') (m := m') (lo := 0) (n := n.toNat)
          simpa using this
        · cases hb
      · rename_i hb; split at hb <;> cases hb
      · exact False.elim p
    | _ => exact False.elim p
theorem de_fz {a : Expr} {fa : EM} (ha : PE X a (denE C E fa)) : PE X a (denE C E (eU fz fa)) := by
  refine pe_imp ha fun σ H Q ⟨Z, m, v, h, s, e, p⟩ => ?_
  refine ⟨Z, m, v, h, s, e, (p.bind (rep1 := Rep C)).imp fun x H1 ⟨Z1, m1, d, h1, x1, s1, r1, p1⟩ => ?_⟩
  cases r1 with
  | @ref n a en =>
    unfold fz at p1
    cases q : h1[n]? with
    | none => simp [q] at p1; exact False.elim p1
    | some o =>
      cases o with
      | lst l =>
        simp [q] at p1
        obtain ⟨vs, hv, rl⟩ := s1.obj n a _ en q
        have xz := Ext.freeze s1 (.lst vs) en q
        exact p1 _ _ _ _ xz (s1.freeze en q hv) (.lst upd_same (rl.mono xz.sub (List.prefix_refl _)))
      | _ => simp [q] at p1; exact False.elim p1
  | non => exact p1 _ _ _ _ .refl s1 .non
  | bl b => exact p1 _ _ _ _ .refl s1 (.bl _)
  | int b => exact p1 _ _ _ _ .refl s1 (.int _)
  | str b => exact p1 _ _ _ _ .refl s1 (.str _)
  | tup a b => exact p1 _ _ _ _ .refl s1 (.tup a b)
  | lst a b => exact p1 _ _ _ _ .refl s1 (.lst a b)
  | scr a => exact p1 _ _ _ _ .refl s1 (.scr a)
  | exn0 a b => exact p1 _ _ _ _ .refl s1 (.exn0 a b)
  | exn1 a b c d => exact p1 _ _ _ _ .refl s1 (.exn1 a b c d)
end
section
variable {P : Program} {w : World} {K : PySem.W.Frag} {mg : Str → Option Value} {base : Heap} {C : Cn}
theorem spD_len {f : FM} {np : Nat} (hf : ∀ ds h, ds.length ≠ np → f ds h = .err) : ∀ vs H Q E, spD C f vs H Q E → vs.length = np := fun vs H Q E ⟨Z, m, h, ds, s, r, p⟩ => by
  by_cases hl : ds.length = np
  · rw [← hl, r.length]
  · rw [hf ds h hl] at p; exact False.elim p
theorem fn_end {E : WX} {Ex : XK} {N : List Str} {b : SM} {ds : List D} {vs : List V} {Z : Hp} {m : List Addr} {h : Hm} {H : Hp} {Q : VK} (s : HSim C Z m h H) (r : RepL C Z m ds vs) {np : Nat} (hE : ∀ c d σ H, Ex c d H → E c d σ H) (p : Post C (Rep C) Ex (fn np N.length b ds h) Z m H Q) :
    denS C E b { nx := fun _ H' => Q .non H', rt := Q } (start N vs) H := by
  unfold fn at p
  split at p
  · rename_i hl
    refine ⟨Z, m, _, h, s, EnvR.start r hl, ?_⟩
    generalize b (ds.map some ++ List.replicate (N.length - np) none) h = o at p ⊢
    cases o with
    | nx v1 h1 => exact fun Z' m' H' σ a b c => p Z' m' H' _ a b .non
    | rt d h1 => exact fun Z' m' H' u a b c => p Z' m' H' _ a b c
    | exc e v1 h1 => exact fun Z' m' H' σ c od a b _ r => hE _ _ _ _ (p Z' m' H' c od a b r)
    | _ => exact False.elim p
  · exact False.elim p
/-- a def that raises nothing -/
theorem fn_ok0 {x qual : Str} {st : Stmt} {f : Addr} {fd : FuncData} {N ps : List Str} {k : Nat} {b : SM} (F : Fun K x qual st f fd) (S : FnScope N ps (defScope st))
    (hbody : ∀ (cdv : Value) (A : Around) (outer : List Env) (s : Shared) (H : Hp) (E : XK), Room k (A.deeper (envOfC qual (defScope st) s.heap.objs.size f cdv)) → PSs (cxOf CX0 P w K mg base N qual (defScope st) f cdv A outer s H E).nox (defBody st) (denS C EF b)) :
    FnOk P w K mg base CX0 (k + 1) f fd ps (spD C (fn0 ps.length N.length b)) := by
  refine F.ok S (spD_len fun ds h hl => by unfold fn0 fn; rw [if_neg hl]; rfl) fun cdv A outer s H vs Q E hr hsp => ⟨_, hbody cdv A outer s H E hr, ?_⟩
  obtain ⟨Z, m, h, ds, s1, r, p⟩ := hsp
  refine fn_end (Ex := fun _ _ _ => False) (np := ps.length) s1 r (fun _ _ _ _ z => z) ?_
  unfold fn0 at p
  cases q : fn ps.length N.length b ds h with
  | ok d h1 => rw [q] at p; exact p
  | exc e h1 => rw [q] at p; exact False.elim p
  | err => rw [q] at p; exact p
theorem trOk_len : ∀ (h h1 : Hm) (n : Nat), trOk h h1 n = true → h.length ≤ h1.length
  | [], _, _, _ => Nat.zero_le _
  | _ :: _, [], _, e => by simp [trOk] at e
  | o :: r, p :: s, n, e => by
    simp only [trOk, Bool.and_eq_true] at e
    have := trOk_len r s n e.2
    simp; omega
theorem trOk_get : ∀ (h h1 : Hm) (n i : Nat) (o p : HD), trOk h h1 n = true → h[i]? = some o → h1[i]? = some p → p = o ∨ HD.cl n p = true
  | [], _, _, _, _, _, _, e, _ => by simp at e
  | _ :: _, [], _, _, _, _, _, _, e => by simp at e
  | a :: r, b :: s, n, 0, o, p, e, e1, e2 => by
    simp only [trOk, Bool.and_eq_true, Bool.or_eq_true] at e
    simp at e1 e2; subst e1; subst e2
    rcases e.1 with q | q
    · exact .inl (HD.beq_eq _ _ q).symm
    · exact .inr q
  | a :: r, b :: s, n, i + 1, o, p, e, e1, e2 => by
    simp only [trOk, Bool.and_eq_true] at e
    exact trOk_get r s n i o p e.2 (by simpa using e1) (by simpa using e2)
theorem tr_sim {Z Z' H H' : Hp} {m m' : List Addr} {h h1 : Hm} (s : HSim C Z m h H) (x : Ext Z m H Z' m' H') (s' : HSim C Z' m' h1 H') (ht : trOk h h1 h.length = true) : Ext Z m H Z' m H' ∧ HSim C Z' m (h1.take h.length) H' ∧ m'.take h.length = m := by
  have hm : m'.take h.length = m := by
    obtain ⟨t, rfl⟩ := x.pre
    rw [← s.len]; simp
  have hl := trOk_len _ _ _ ht
  refine ⟨⟨x.sub, List.prefix_refl _, x.keep, fun a e => .inl e, x.newZ, x.frz⟩, ⟨s'.sub, by simp [s.len, Nat.min_eq_left hl], s.nd, fun n a o e1 e2 hd => ?_, fun n a o e1 e2 => ?_, s'.tab, s'.noT⟩, hm⟩
  · have hn : n < h.length := by rw [← s.len]; exact (List.getElem?_eq_some_iff.mp e1).1
    rw [List.getElem?_take_of_lt hn] at e2
    exact s'.off n a o (pre_get x.pre e1) e2 hd
  · have hn : n < h.length := by rw [← s.len]; exact (List.getElem?_eq_some_iff.mp e1).1
    rw [List.getElem?_take_of_lt hn] at e2
    have z := s'.obj n a o (pre_get x.pre e1) e2
    have hc : HD.cl h.length o = true := by
      rcases trOk_get _ _ _ n _ _ ht (List.getElem?_eq_getElem hn) e2 with q | q
      · have := (s.obj n a _ e1 (List.getElem?_eq_getElem hn)).cl
        rw [s.len] at this
        rw [q]; exact this
      · exact q
    have := z.cut hc
    rwa [hm] at this
theorem fn_tr {CX : CXT} {k : Nat} {f : Addr} {fd : FuncData} {ps : List Str} {fm : FM} (F : FnOk P w K mg base CX k f fd ps (spD C fm)) : FnOk P w K mg base CX k f fd ps (spD C (tr fm)) := by
  refine F.imp fun vs H Q E ⟨Z, m, h, ds, s, r, p⟩ => ⟨Z, m, h, ds, s, r, ?_⟩
  unfold tr at p
  cases q : fm ds h with
  | err => rw [q] at p; exact False.elim p
  | ok d h1 =>
    rw [q] at p
    simp only at p
    split at p
    · rename_i hc
      simp only [Bool.and_eq_true] at hc
      intro Z' m' H' v x s' rv
      obtain ⟨x2, s2, hm⟩ := tr_sim s x s' hc.2
      refine p Z' m H' v x2 s2 ?_
      have := rv.cut hc.1
      rwa [hm] at this
    · exact False.elim p
  | exc d h1 =>
    rw [q] at p
    simp only at p
    split at p
    · rename_i hc
      simp only [Bool.and_eq_true] at hc
      intro Z' m' H' c od x s' rv
      obtain ⟨x2, s2, hm⟩ := tr_sim s x s' hc.2
      refine p Z' m H' c od x2 s2 ?_
      cases d with
      | exn n fs =>
        obtain ⟨A, e1, e2, e3⟩ := rv
        refine ⟨A, e1, e2, ?_⟩
        rcases e3 with e3 | ⟨d, gs, q1, q2, q3⟩
        · exact .inl e3
        · refine .inr ⟨d, gs, q1, q2, ?_⟩
          have := q3.cut (k := h.length) (by simpa [D.cl] using hc.1)
          rwa [hm] at this
      | _ => exact False.elim rv
    · exact False.elim p
end
end Dn
set_option Elab.async false
set_option linter.all false
set_option maxRecDepth 100000
set_option maxHeartbeats 4000000
namespace Dn
open PySem PySem.Spec PyProof.Rows L2
/-- a list, wherever it stands -/
def lsOf (h : Hm) : D → Option (List D)
  | .lst l => some l
  | .ref n => match h[n]? with
    | some (.lst l) => some l
    | _ => none
  | _ => none
def dr (h : Hm) (d : D) : D := match lsOf h d with
  | some l => .lst l
  | none => d
def keyD : D → Option L2.Key
  | .int i => some (.inl i)
  | .str x => some (.inr x)
  | _ => none
def dVal (k : L2.Key) : List (D × D) → Option D
  | [] => none
  | (a, d) :: r => if keyD a = some k then some d else dVal k r
def dPut (a : D) (k : L2.Key) (x : D) (l : List (D × D)) : List (D × D) := if (dVal k l).isSome = true then l.map (fun kv => if keyD kv.1 = some k then (kv.1, x) else kv) else l ++ [(a, x)]
def dcOf (h : Hm) : D → Option (List (D × D))
  | .ref n => match h[n]? with
    | some (.dct l) => some l
    | _ => none
  | _ => none
mutual
def D.pd : D → PyData
  | .non => .none | .bl b => .bool b | .int i => .int i | .str x => .str x
  | .tup l => .tuple (D.pdL l) | .lst l => .list (D.pdL l) | _ => .none
def D.pdL : List D → List PyData
  | [] => []
  | x :: xs => D.pd x :: D.pdL xs
end
mutual
def D.eqb : D → D → Bool
  | .non, .non => true
  | .bl a, .bl b => a == b
  | .bl a, .int j => (if a then 1 else 0) == j
  | .int i, .bl b => i == (if b then 1 else 0)
  | .int i, .int j => i == j
  | .str x, .str y => x == y
  | .lst xs, .lst ys => D.eqbL xs ys
  | .tup xs, .tup ys => D.eqbL xs ys
  | _, _ => false
def D.eqbL : List D → List D → Bool
  | [], [] => true
  | x :: xs, y :: ys => D.eqb x y && D.eqbL xs ys
  | _, _ => false
end
mutual
/-- plain data of depth at most n, its texts of signs alone -/
def D.okN : Nat → D → Bool
  | _, .non => true
  | _, .bl _ => true
  | _, .int _ => true
  | _, .str x => PyData.strOk x
  | n + 1, .tup l => D.okL n l
  | n + 1, .lst l => D.okL n l
  | _, _ => false
def D.okL : Nat → List D → Bool
  | _, [] => true
  | n, x :: xs => D.okN n x && D.okL n xs
end
mutual
theorem D.okN_lay : ∀ (n : Nat) (d : D), D.okN n d = true → d.pd.canLay0 = true ∧ d.pd.depth ≤ n
  | _, .non, _ => ⟨rfl, Nat.zero_le _⟩
  | _, .bl _, _ => ⟨rfl, Nat.zero_le _⟩
  | _, .int _, _ => ⟨rfl, Nat.zero_le _⟩
  | _, .str x, h => ⟨by simpa [D.pd, PyData.canLay0, D.okN] using h, Nat.zero_le _⟩
  | n + 1, .tup l, h => by
    obtain ⟨a, b⟩ := D.okL_lay n l (by simpa [D.okN] using h)
    exact ⟨by simpa [D.pd, PyData.canLay0] using a, by simp [D.pd, PyData.depth]; exact b⟩
  | n + 1, .lst l, h => by
    obtain ⟨a, b⟩ := D.okL_lay n l (by simpa [D.okN] using h)
    exact ⟨by simpa [D.pd, PyData.canLay0] using a, by simp [D.pd, PyData.depth]; exact b⟩
  | 0, .tup _, h => by simp [D.okN] at h
  | 0, .lst _, h => by simp [D.okN] at h
  | _, .ref _, h => by simp [D.okN] at h
  | _, .exn _ _, h => by simp [D.okN] at h
  | _, .scr _, h => by simp [D.okN] at h
theorem D.okL_lay : ∀ (n : Nat) (l : List D), D.okL n l = true → PyData.canLayAll0 (D.pdL l) = true ∧ PyData.depthAll (D.pdL l) ≤ n
  | _, [], _ => ⟨rfl, Nat.zero_le _⟩
  | n, x :: xs, h => by
    simp only [D.okL, Bool.and_eq_true] at h
    obtain ⟨a, b⟩ := D.okN_lay n x h.1
    obtain ⟨c, d⟩ := D.okL_lay n xs h.2
    exact ⟨by simp [D.pdL, PyData.canLayAll0, a, c], by simp [D.pdL, PyData.depthAll]; omega⟩
end
theorem D.shaped {d : D} (h : D.okN 64 d = true) : SeqAt.shaped d.pd = true := by
  obtain ⟨a, b⟩ := D.okN_lay 64 d h
  unfold SeqAt.shaped
  simp [a, b]
mutual
theorem D.eqv_eqb : ∀ (n k : Nat) (a b : D), D.okN n a = true → D.okN k b = true → PyData.eqv a.pd b.pd = D.eqb a b
  | n, k, a, b, ha, hb => by
    cases a with
    | tup l =>
      cases b with
      | tup l' =>
        cases n with
        | zero => simp [D.okN] at ha
        | succ n =>
          cases k with
          | zero => simp [D.okN] at hb
          | succ k => simp only [D.pd, PyData.eqv, D.eqb]; exact D.eqv_eqbL n k l l' (by simpa [D.okN] using ha) (by simpa [D.okN] using hb)
      | ref _ => simp [D.okN] at hb
      | exn _ _ => simp [D.okN] at hb
      | scr _ => simp [D.okN] at hb
      | _ => simp [D.pd, PyData.eqv, D.eqb]
    | lst l =>
      cases b with
      | lst l' =>
        cases n with
        | zero => simp [D.okN] at ha
        | succ n =>
          cases k with
          | zero => simp [D.okN] at hb
          | succ k => simp only [D.pd, PyData.eqv, D.eqb]; exact D.eqv_eqbL n k l l' (by simpa [D.okN] using ha) (by simpa [D.okN] using hb)
      | ref _ => simp [D.okN] at hb
      | exn _ _ => simp [D.okN] at hb
      | scr _ => simp [D.okN] at hb
      | _ => simp [D.pd, PyData.eqv, D.eqb]
    | ref _ => simp [D.okN] at ha
    | exn _ _ => simp [D.okN] at ha
    | scr _ => simp [D.okN] at ha
    | _ =>
      cases b with
      | ref _ => simp [D.okN] at hb
      | exn _ _ => simp [D.okN] at hb
      | scr _ => simp [D.okN] at hb
      | _ => simp [D.pd, PyData.eqv, D.eqb]
theorem D.eqv_eqbL : ∀ (n k : Nat) (a b : List D), D.okL n a = true → D.okL k b = true → PyData.eqvAll (D.pdL a) (D.pdL b) = D.eqbL a b
  | _, _, [], [], _, _ => rfl
  | _, _, [], _ :: _, _, _ => rfl
  | _, _, _ :: _, [], _, _ => rfl
  | n, k, x :: xs, y :: ys, ha, hb => by
    simp only [D.okL, Bool.and_eq_true] at ha hb
    simp only [D.pdL, PyData.eqvAll, D.eqbL]
    rw [D.eqv_eqb n k x y ha.1 hb.1, D.eqv_eqbL n k xs ys ha.2 hb.2]
end
section
variable {C : Cn} {Z H : Hp} {m : List Addr} {h : Hm}
mutual
theorem Rep.dp {K : PySem.W.Frag} (hz : ∀ a o, Z a = some o → H a = some o) : ∀ {d : D} {v : V} (n : Nat), Rep C Z m d v → D.okN n d = true → Dp K H v d.pd
  | _, _, _, .non, _ => .non
  | _, _, _, .bl b, _ => .bl b
  | _, _, _, .int i, _ => .int i
  | _, _, _, .str x, _ => .str x
  | _, _, n + 1, .tup a b, e => .tup (.inl (.inl (hz _ _ a))) (RepL.dp hz n b (by simpa [D.okN] using e))
  | _, _, n + 1, .lst a b, e => .lst (.inl (.inl (hz _ _ a))) (RepL.dp hz n b (by simpa [D.okN] using e))
  | _, _, 0, .tup a b, e => by simp [D.okN] at e
  | _, _, 0, .lst a b, e => by simp [D.okN] at e
  | _, _, _, .scr _, e => by simp [D.okN] at e
  | _, _, _, .ref _, e => by simp [D.okN] at e
theorem RepL.dp {K : PySem.W.Frag} (hz : ∀ a o, Z a = some o → H a = some o) : ∀ {d : List D} {v : List V} (n : Nat), RepL C Z m d v → D.okL n d = true → DpAll K H v (D.pdL d)
  | _, _, _, .nil, _ => .nil
  | _, _, n, .cons a b, e => by
    simp only [D.okL, Bool.and_eq_true] at e
    exact .cons (Rep.dp hz n a e.1) (RepL.dp hz n b e.2)
end
/-- a list's object -/
theorem ls_at {d : D} {x : V} {l : List D} (s : HSim C Z m h H) (r : Rep C Z m d x) (e : lsOf h d = some l) : ∃ a vs, x = .ref a ∧ H a = some (.lst vs) ∧ RepL C Z m l vs := by
  cases r with
  | lst hz rl => cases e; exact ⟨_, _, rfl, s.sub _ _ hz, rl⟩
  | @ref n a en =>
    unfold lsOf at e
    cases q : h[n]? with
    | none => simp [q] at e
    | some o =>
      cases o with
      | lst l' =>
        simp [q] at e
        subst e
        obtain ⟨vs, hv, rl⟩ := s.obj n a _ en q
        exact ⟨a, vs, rfl, hv, rl⟩
      | _ => simp [q] at e
  | _ => cases e
theorem dr_dp {K : PySem.W.Frag} {d : D} {x : V} {n : Nat} (s : HSim C Z m h H) (r : Rep C Z m d x) (e : D.okN n (dr h d) = true) : Dp K H x (dr h d).pd := by
  unfold dr at e ⊢
  cases q : lsOf h d with
  | none => rw [q] at e; exact r.dp s.sub n e
  | some l =>
    rw [q] at e
    obtain ⟨a, vs, rfl, hv, rl⟩ := ls_at s r q
    cases n with
    | zero => simp [D.okN] at e
    | succ n => exact .lst (.inl (.inl hv)) (rl.dp s.sub n (by simpa [D.okN] using e))
theorem dc_at {d : D} {x : V} {l : List (D × D)} (s : HSim C Z m h H) (r : Rep C Z m d x) (e : dcOf h d = some l) : ∃ n a kvs, d = .ref n ∧ m[n]? = some a ∧ h[n]? = some (.dct l) ∧ x = .ref a ∧ H a = some (.dK kvs) ∧ RepK C Z m l kvs := by
  cases r with
  | @ref n a en =>
    unfold dcOf at e
    cases q : h[n]? with
    | none => simp [q] at e
    | some o =>
      cases o with
      | dct l' =>
        simp [q] at e
        subst e
        obtain ⟨vs, hv, rl⟩ := s.obj n a _ en q
        exact ⟨n, a, vs, rfl, en, q, rfl, hv, rl⟩
      | _ => simp [q] at e
  | _ => cases e
theorem key_rep {d : D} {x : V} {k : L2.Key} (r : Rep C Z m d x) (e : keyD d = some k) : x = kV k := by
  cases r with
  | int i => obtain rfl := Option.some.inj (show some (Sum.inl i) = some k from e); rfl
  | str i => obtain rfl := Option.some.inj (show some (Sum.inr i) = some k from e); rfl
  | _ => simp [keyD] at e
theorem RepK.len : ∀ {l : List (D × D)} {kvs : List (L2.Key × V)}, RepK C Z m l kvs → l.length = kvs.length
  | _, _, .nil => rfl
  | _, _, .int _ b => by simp [RepK.len b]
  | _, _, .str _ b => by simp [RepK.len b]
theorem dVal_pos {a d : D} {k : L2.Key} {r : List (D × D)} (h : keyD a = some k) : dVal k ((a, d) :: r) = some d := if_pos h
theorem dVal_neg {a d : D} {k : L2.Key} {r : List (D × D)} (h : ¬ keyD a = some k) : dVal k ((a, d) :: r) = dVal k r := if_neg h
theorem RepK.val (k : L2.Key) : ∀ {l : List (D × D)} {kvs : List (L2.Key × V)}, RepK C Z m l kvs → (∀ d, dVal k l = some d → ∃ v, valV kvs k = some v ∧ Rep C Z m d v) ∧ (dVal k l = none → valV kvs k = none)
  | _, _, .nil => ⟨(fun d e => nomatch e), fun _ => rfl⟩
  | _, _, .int (i := i) (d := d) (v := v) (ds := ds) (vs := vs) a b => by
    obtain ⟨h1, h2⟩ := RepK.val k b
    by_cases hk : keyD (D.int i) = some k
    · rw [dVal_pos hk, valV_pos (p := (Sum.inl i, v)) (Option.some.inj (show some (Sum.inl i) = some k from hk))]
      exact ⟨fun d' e => by injection e with e; subst e; exact ⟨_, rfl, a⟩, fun e => nomatch e⟩
    · rw [dVal_neg hk, valV_neg (p := (Sum.inl i, v)) (fun e => hk (congrArg some e))]
      exact ⟨h1, h2⟩
  | _, _, .str (x := i) (d := d) (v := v) (ds := ds) (vs := vs) a b => by
    obtain ⟨h1, h2⟩ := RepK.val k b
    by_cases hk : keyD (D.str i) = some k
    · rw [dVal_pos hk, valV_pos (p := (Sum.inr i, v)) (Option.some.inj (show some (Sum.inr i) = some k from hk))]
      exact ⟨fun d' e => by injection e with e; subst e; exact ⟨_, rfl, a⟩, fun e => nomatch e⟩
    · rw [dVal_neg hk, valV_neg (p := (Sum.inr i, v)) (fun e => hk (congrArg some e))]
      exact ⟨h1, h2⟩
theorem RepK.some_eq (k : L2.Key) {l : List (D × D)} {kvs : List (L2.Key × V)} (r : RepK C Z m l kvs) : (dVal k l).isSome = (valV kvs k).isSome := by
  obtain ⟨h1, h2⟩ := r.val k
  cases e : dVal k l with
  | none => rw [h2 e]; rfl
  | some d => obtain ⟨v, hv, _⟩ := h1 d e; rw [hv]; rfl
theorem RepK.repl (k : L2.Key) {y : D} {w : V} (ry : Rep C Z m y w) : ∀ {l : List (D × D)} {kvs : List (L2.Key × V)}, RepK C Z m l kvs → RepK C Z m (l.map fun kv => if keyD kv.1 = some k then (kv.1, y) else kv) (kvs.map fun kv => if kv.1 = k then (kv.1, w) else kv)
  | _, _, .nil => .nil
  | _, _, .int (i := i) (d := d) (v := v) (ds := ds) (vs := vs) a b => by
    have ih := RepK.repl k ry b
    by_cases hk : keyD (D.int i) = some k
    · have h2 : (Sum.inl i : L2.Key) = k := Option.some.inj (show some (Sum.inl i) = some k from hk)
      have e1 : (if keyD (D.int i, d).1 = some k then ((D.int i, d).1, y) else (D.int i, d)) = (D.int i, y) := if_pos hk
      have e2 : (if ((Sum.inl i, v) : L2.Key × V).1 = k then (((Sum.inl i, v) : L2.Key × V).1, w) else (Sum.inl i, v)) = (Sum.inl i, w) := if_pos h2
      rw [List.map_cons, List.map_cons, e1, e2]
      exact .int ry ih
    · have h2 : ¬ (Sum.inl i : L2.Key) = k := fun e => hk (congrArg some e)
      have e1 : (if keyD (D.int i, d).1 = some k then ((D.int i, d).1, y) else (D.int i, d)) = (D.int i, d) := if_neg hk
      have e2 : (if ((Sum.inl i, v) : L2.Key × V).1 = k then (((Sum.inl i, v) : L2.Key × V).1, w) else (Sum.inl i, v)) = (Sum.inl i, v) := if_neg h2
      rw [List.map_cons, List.map_cons, e1, e2]
      exact .int a ih
  | _, _, .str (x := i) (d := d) (v := v) (ds := ds) (vs := vs) a b => by
    have ih := RepK.repl k ry b
    by_cases hk : keyD (D.str i) = some k
    · have h2 : (Sum.inr i : L2.Key) = k := Option.some.inj (show some (Sum.inr i) = some k from hk)
      have e1 : (if keyD (D.str i, d).1 = some k then ((D.str i, d).1, y) else (D.str i, d)) = (D.str i, y) := if_pos hk
      have e2 : (if ((Sum.inr i, v) : L2.Key × V).1 = k then (((Sum.inr i, v) : L2.Key × V).1, w) else (Sum.inr i, v)) = (Sum.inr i, w) := if_pos h2
      rw [List.map_cons, List.map_cons, e1, e2]
      exact .str ry ih
    · have h2 : ¬ (Sum.inr i : L2.Key) = k := fun e => hk (congrArg some e)
      have e1 : (if keyD (D.str i, d).1 = some k then ((D.str i, d).1, y) else (D.str i, d)) = (D.str i, d) := if_neg hk
      have e2 : (if ((Sum.inr i, v) : L2.Key × V).1 = k then (((Sum.inr i, v) : L2.Key × V).1, w) else (Sum.inr i, v)) = (Sum.inr i, v) := if_neg h2
      rw [List.map_cons, List.map_cons, e1, e2]
      exact .str a ih
theorem RepK.snoc {a y : D} {w : V} {k : L2.Key} (hk : keyD a = some k) (ry : Rep C Z m y w) : ∀ {l : List (D × D)} {kvs : List (L2.Key × V)}, RepK C Z m l kvs → RepK C Z m (l ++ [(a, y)]) (kvs ++ [(k, w)])
  | _, _, .nil => by
    cases a with
    | int i => obtain rfl := Option.some.inj (show some (Sum.inl i) = some k from hk); exact .int ry .nil
    | str i => obtain rfl := Option.some.inj (show some (Sum.inr i) = some k from hk); exact .str ry .nil
    | _ => simp [keyD] at hk
  | _, _, .int a b => .int a (RepK.snoc hk ry b)
  | _, _, .str a b => .str a (RepK.snoc hk ry b)
theorem RepK.put {a y : D} {w : V} {k : L2.Key} (hk : keyD a = some k) (ry : Rep C Z m y w) {l : List (D × D)} {kvs : List (L2.Key × V)} (r : RepK C Z m l kvs) : RepK C Z m (dPut a k y l) (putK kvs k w) := by
  unfold dPut putK
  rw [valV_any, ← r.some_eq k]
  split
  · exact r.repl k ry
  · exact r.snoc hk ry
end
def opAdd (x y : D) (h : Hm) : R D := match x, y with
  | .int a, .int b => .ok (.int (a + b)) h
  | .str a, .str b => if a.length + b.length ≤ 16777216 then .ok (.str (a ++ b)) h else .err
  | .tup a, .tup b => if a.length + b.length ≤ 16777216 then .ok (.tup (a ++ b)) h else .err
  | x, y => match lsOf h x, lsOf h y with
    | some a, some b => if a.length + b.length ≤ 16777216 then .ok (.lst (a ++ b)) h else .err
    | _, _ => .err
def opSub (x y : D) (h : Hm) : R D := match x, y with
  | .int a, .int b => .ok (.int (a - b)) h
  | _, _ => .err
def mulOk (a b : Int) : Bool := (decide (-(2 ^ 64) < a) && decide (a < 2 ^ 64)) || (decide (-(2 ^ 64) < b) && decide (b < 2 ^ 64))
def repStr (x : Str) (n : Int) : Str := ⟨(List.replicate n.toNat x.cps.toList).flatten.toArray⟩
def opMul (x y : D) (h : Hm) : R D := match x, y with
  | .int a, .int b => if mulOk a b then .ok (.int (a * b)) h else .err
  | .str a, .int n => if -1000000 ≤ n ∧ n ≤ 1000000 ∧ a.length * n.toNat ≤ 1000000 then .ok (.str (repStr a n)) h else .err
  | x, .int n => match lsOf h x with
    | some l => if -1000000 ≤ n ∧ n ≤ 1000000 ∧ l.length * n.toNat ≤ 16777216 then .ok (.lst (List.replicate n.toNat l).flatten) h else .err
    | none => .err
  | _, _ => .err
def opMod (x y : D) (h : Hm) : R D := match x, y with
  | .int a, .int b => if 0 < b then .ok (.int (a % b)) h else .err
  | _, _ => .err
def opDiv (x y : D) (h : Hm) : R D := match x, y with
  | .int a, .int b => if 0 < b ∧ b < 1267650600228229401496703205376 then .ok (.int (a / b)) h else .err
  | _, _ => .err
def opPow (x y : D) (h : Hm) : R D := match x, y with
  | .int a, .int b => if 0 ≤ b ∧ b ≤ 1000000 ∧ -(2 ^ 63) < a ∧ a < 2 ^ 64 then .ok (.int (a ^ b.toNat)) h else .err
  | _, _ => .err
def opNeg (x : D) (h : Hm) : R D := match x with
  | .int a => .ok (.int (-a)) h
  | _ => .err
def opLt (x y : D) (h : Hm) : R D := match x, y with
  | .int a, .int b => .ok (.bl (decide (a < b))) h
  | _, _ => .err
def opLe (x y : D) (h : Hm) : R D := match x, y with
  | .int a, .int b => .ok (.bl (decide (a ≤ b))) h
  | .str a, .str b => .ok (.bl (!decide (b.cps.toList < a.cps.toList))) h
  | _, _ => .err
def opGt (x y : D) (h : Hm) : R D := match x, y with
  | .int a, .int b => .ok (.bl (decide (b < a))) h
  | _, _ => .err
def opGe (x y : D) (h : Hm) : R D := match x, y with
  | .int a, .int b => .ok (.bl (decide (b ≤ a))) h
  | _, _ => .err
def scalD : D → D → Bool
  | .non, .non => true | .non, .int _ => true | .int _, .non => true | .non, .bl _ => true | .bl _, .non => true | .non, .str _ => true | .str _, .non => true
  | .int _, .int _ => true | .bl _, .bl _ => true | .str _, .str _ => true
  | .int _, .str _ => true | .str _, .int _ => true | .bl _, .str _ => true | .str _, .bl _ => true
  | _, _ => false
def opEq (x y : D) (h : Hm) : R D := if scalD x y then .ok (.bl (D.eqb x y)) h else
  if D.okN 64 (dr h x) && D.okN 64 (dr h y) then .ok (.bl (D.eqb (dr h x) (dr h y))) h else .err
def opNe (x y : D) (h : Hm) : R D := if scalD x y then .ok (.bl (!D.eqb x y)) h else
  if D.okN 64 (dr h x) && D.okN 64 (dr h y) then .ok (.bl (!D.eqb (dr h x) (dr h y))) h else .err
def flatD : D → Bool
  | .non => true | .bl _ => true | .int _ => true | .str _ => true
  | _ => false
def ixD (x y : D) (h : Hm) : R D := match dcOf h x with
  | some l => (match keyD y with
    | some k => (match dVal k l with
      | some d => .ok d h
      | none => .err)
    | none => .err)
  | none => .err
def inK (neg : Bool) (x y : D) (h : Hm) : R D := match dcOf h y with
  | some l => (match keyD x with
    | some k => .ok (.bl (neg ^^ (dVal k l).isSome)) h
    | none => .err)
  | none => .err
def inD (neg : Bool) (x y : D) (h : Hm) : R D := match y with
  | .str z => match x with
    | .str s => match s.cps.toList with
      | [c] => .ok (.bl (neg ^^ decide (c ∈ z.cps.toList))) h
      | _ => .err
    | _ => .err
  | y => match items h y with
    | some l => if flatD x && l.all flatD then .ok (.bl (neg ^^ l.any fun z => D.eqb z x)) h else
      if (lsOf h y).isSome && D.okN 64 x && D.okL 63 l then .ok (.bl (neg ^^ l.any fun z => D.eqb z x)) h else .err
    | none => inK neg x y h
def opIn : D → D → Hm → R D := inD false
def opNotIn : D → D → Hm → R D := inD true
def opIsN (x y : D) (h : Hm) : R D := match y with
  | .non => match x with
    | .non => .ok (.bl true) h
    | _ => .ok (.bl false) h
  | _ => .err
def opNotN (x y : D) (h : Hm) : R D := match y with
  | .non => match x with
    | .non => .ok (.bl false) h
    | _ => .ok (.bl true) h
  | _ => .err
def opIx (x y : D) (h : Hm) : R D := match y with
  | .int i => match x with
    | .str z => if z.length ≤ 16777216 then (match atI z.cps.toList i with
      | some c => .ok (.str ⟨#[c]⟩) h
      | none => .err) else .err
    | .scr ns => match atI ns i with
      | some n => .ok (.int n) h
      | none => .err
    | .tup l => match atI l i with
      | some d => .ok d h
      | none => .err
    | x => match lsOf h x with
      | some l => (match atI l i with
        | some d => .ok d h
        | none => .err)
      | none => ixD x y h
  | _ => ixD x y h
def cutD (l : List D) (lo hi : Option Int) : List D := (l.drop (HT.sIx l.length 0 lo)).take (HT.sIx l.length l.length hi - HT.sIx l.length 0 lo)
def opSl (x : D) (lo hi : Option Int) (h : Hm) : R D := match x with
  | .str z => if z.length ≤ 16777216 then .ok (.str (cutS z lo hi)) h else .err
  | .tup l => .ok (.tup (cutD l lo hi)) h
  | x => match lsOf h x with
    | some l => .ok (.lst (cutD l lo hi)) h
    | none => .err
/-- a part of a slice -/
abbrev PM := Ev → Hm → R (Option Int)
def pN : PM := fun _ h => .ok none h
def pE (e : EM) : PM := fun v h => (e v h).bind fun x h1 => match x with
  | .int i => .ok (some i) h1
  | _ => .err
def eSl (a : EM) (lo hi : PM) : EM := fun v h => (a v h).bind fun x h1 => (lo v h1).bind fun l h2 => (hi v h2).bind fun u h3 => opSl x l u h3
theorem atI_map {α β : Type} (f : α → β) (l : List α) (i : Int) : atI (l.map f) i = (atI l i).map f := by
  unfold atI
  rw [List.length_map]
  cases ixN l.length i with
  | none => rfl
  | some j => simp [List.getElem?_map]
theorem atI_rep {C : Cn} {Z : Hp} {m : List Addr} {l : List D} {vs : List V} {i : Int} {d : D} (r : RepL C Z m l vs) (e : atI l i = some d) : ∃ v, atI vs i = some v ∧ Rep C Z m d v := by
  unfold atI at e ⊢
  rw [← r.length]
  cases q : ixN l.length i with
  | none => rw [q] at e; cases e
  | some j =>
    rw [q] at e
    exact r.get e
theorem cut_rep {C : Cn} {Z : Hp} {m : List Addr} {l : List D} {vs : List V} (r : RepL C Z m l vs) (lo hi : Option Int) : RepL C Z m (cutD l lo hi) (cutV vs lo hi) := by
  unfold cutD cutV
  rw [← r.length]
  exact (r.drop _).take _
section
variable {X : Cx} {C : Cn} {E : WX}
theorem do_add : OpR X (binaryOp .Add) (rD2 C opAdd) := by
  intro pins s σ H x y v u Q I rx ry ⟨Z, m, h, a, b, sm, ra, rb, p⟩
  have lists : ∀ (a b : D) (l1 l2 : List D), lsOf h a = some l1 → lsOf h b = some l2 → Rep C Z m a x → Rep C Z m b y → Post C (Rep C) (fun _ _ _ => False) (if l1.length + l2.length ≤ 16777216 then .ok (.lst (l1 ++ l2)) h else .err) Z m H Q → wpAny (model X.prog X.w) X.A (binaryOp .Add v u) (EP X pins σ Q) X.xe s := fun a b l1 l2 e1 e2 ra rb p => by
    obtain ⟨a1, v1, rfl, h1, r1⟩ := ls_at sm ra e1
    obtain ⟨a2, v2, rfl, h2, r2⟩ := ls_at sm rb e2
    split at p
    · rename_i hl
      refine op_cat pins s σ H _ _ v u Q I rx ry ⟨a1, a2, v1, v2, rfl, rfl, h1, h2, by rw [← r1.length, ← r2.length]; exact sz_le hl, fun q hq => ?_⟩
      have xz := Ext.lay sm hq (.lst (v1 ++ v2))
      exact p _ _ _ _ xz (sm.lay hq _) (.lst upd_same ((r1.append r2).mono xz.sub (List.prefix_refl _)))
    · exact False.elim p
  have gen : ∀ (r : R D), (match lsOf h a, lsOf h b with | some a, some b => if a.length + b.length ≤ 16777216 then R.ok (D.lst (a ++ b)) h else R.err | _, _ => R.err) = r → Post C (Rep C) (fun _ _ _ => False) r Z m H Q → wpAny (model X.prog X.w) X.A (binaryOp .Add v u) (EP X pins σ Q) X.xe s := fun r e p => by
    subst e
    cases e1 : lsOf h a with
    | none => simp [e1] at p; exact False.elim p
    | some l1 =>
      cases e2 : lsOf h b with
      | none => simp [e1, e2] at p; exact False.elim p
      | some l2 =>
        rw [e1, e2] at p
        exact lists a b l1 l2 e1 e2 ra rb p
  cases a with
  | int i =>
    cases b with
    | int j => cases ra; cases rb; exact op_add pins s σ H _ _ v u Q I rx ry ⟨i, j, rfl, rfl, p _ _ _ _ .refl sm (.int _)⟩
    | _ => exact gen _ rfl p
  | str i =>
    cases b with
    | str j =>
      cases ra; cases rb
      simp only [opAdd] at p
      split at p
      · rename_i hl
        exact op_add_str pins s σ H _ _ v u Q I rx ry ⟨i, j, rfl, rfl, sz_le hl, p _ _ _ _ .refl sm (.str _)⟩
      · exact False.elim p
    | _ => exact gen _ rfl p
  | tup l1 =>
    cases b with
    | tup l2 =>
      cases ra with
      | @tup a1 v1 _ h1 r1 =>
        cases rb with
        | @tup a2 v2 _ h2 r2 =>
          simp only [opAdd] at p
          split at p
          · rename_i hl
            have n1 := r1.length
            have n2 := r2.length
            refine op_catA pins s σ H _ _ v u Q I rx ry ⟨a1, a2, v1, v2, rfl, rfl, .inl (.inl (sm.sub _ _ h1)), .inl (.inl (sm.sub _ _ h2)), by rw [← n1, ← n2]; exact sz_le hl, fun z => ?_, fun z z2 => ?_, fun z z2 q hq => ?_⟩
            · subst z
              have : l1 = [] := List.length_eq_zero_iff.mp n1
              subst this
              exact p _ _ _ _ .refl sm (.tup h2 r2)
            · subst z2
              have : l2 = [] := List.length_eq_zero_iff.mp n2
              subst this
              rw [List.append_nil] at p
              exact p _ _ _ _ .refl sm (.tup h1 r1)
            · have xz := Ext.lay sm hq (.tup (v1 ++ v2))
              exact p _ _ _ _ xz (sm.lay hq _) (.tup upd_same ((r1.append r2).mono xz.sub (List.prefix_refl _)))
          · exact False.elim p
    | _ => exact gen _ rfl p
  | _ => exact gen _ (by cases b <;> rfl) p
theorem do_sub : OpR X (binaryOp .Sub) (rD2 C opSub) := by
  intro pins s σ H x y v u Q I rx ry ⟨Z, m, h, a, b, sm, ra, rb, p⟩
  cases ra <;> cases rb <;> first | exact False.elim p | skip
  exact op_sub pins s σ H _ _ v u Q I rx ry ⟨_, _, rfl, rfl, p _ _ _ _ .refl sm (.int _)⟩
theorem do_mod : OpR X (binaryOp .Mod) (rD2 C opMod) := by
  intro pins s σ H x y v u Q I rx ry ⟨Z, m, h, a, b, sm, ra, rb, p⟩
  cases ra <;> cases rb <;> first | exact False.elim p | skip
  simp only [opMod] at p
  split at p
  · rename_i hc
    exact op_mod pins s σ H _ _ v u Q I rx ry ⟨_, _, rfl, rfl, hc, p _ _ _ _ .refl sm (.int _)⟩
  · exact False.elim p
theorem do_div : OpR X (binaryOp .FloorDiv) (rD2 C opDiv) := by
  intro pins s σ H x y v u Q I rx ry ⟨Z, m, h, a, b, sm, ra, rb, p⟩
  cases ra <;> cases rb <;> first | exact False.elim p | skip
  simp only [opDiv] at p
  split at p
  · rename_i hc
    exact op_fdivW pins s σ H _ _ v u Q I rx ry ⟨_, _, rfl, rfl, wide_div (b := 100) hc.1 (by omega) (by decide) (by decide), p _ _ _ _ .refl sm (.int _)⟩
  · exact False.elim p
theorem do_pow : OpR X (binaryOp .Pow) (rD2 C opPow) := by
  intro pins s σ H x y v u Q I rx ry ⟨Z, m, h, a, b, sm, ra, rb, p⟩
  cases ra <;> cases rb <;> first | exact False.elim p | skip
  simp only [opPow] at p
  split at p
  · rename_i hc
    exact op_pow pins s σ H _ _ v u Q I rx ry ⟨_, _, rfl, rfl, ⟨hc.1, hc.2.1, by omega⟩, p _ _ _ _ .refl sm (.int _)⟩
  · exact False.elim p
theorem foldl_cps (l : List Nat) : ∀ (k : Nat) (acc : List Nat), (List.replicate k l.toArray).foldl (· ++ ·) acc.toArray = (acc ++ (List.replicate k l).flatten).toArray
  | 0, acc => by simp
  | k + 1, acc => by
    have e : acc.toArray ++ l.toArray = (acc ++ l).toArray := by simp
    rw [List.replicate_succ, List.foldl_cons, e, foldl_cps l k (acc ++ l), List.replicate_succ, List.flatten_cons, List.append_assoc]
theorem repStr_len (x : Str) (n : Int) : (repStr x n).length = x.length * n.toNat := by
  unfold repStr Str.length
  simp [List.length_flatten, List.sum_replicate_nat, Nat.mul_comm]
theorem repStr_made (x : Str) (n : Int) (t : Tok) {Q : Value → Shared → Prop} {s : Shared} (hl : x.length * n.toNat ≤ 1000000) (h : ∀ t' k, Q (.str (repStr x n) t') { s with toks := k }) (h0 : ∀ t', Q (.str (repStr x n) t') s) :
    (if n < 1 then Made.str Str.empty else if (n == 1 || x.length == 0) = true then Made.val (.str x t) else Made.str ⟨(List.replicate n.toNat x.cps).foldl (· ++ ·) #[]⟩).post Q s := by
  by_cases h1 : n < 1
  · rw [if_pos h1]
    have : repStr x n = Str.empty := by
      unfold repStr
      rw [show n.toNat = 0 by omega]
      rfl
    rw [this] at h
    exact ⟨by show 0 ≤ sizeLine; exact Nat.zero_le _, h _ _⟩
  · rw [if_neg h1]
    by_cases h2 : (n == 1 || x.length == 0) = true
    · rw [if_pos h2]
      have : repStr x n = x := by
        obtain ⟨⟨l⟩⟩ := x
        rw [Bool.or_eq_true, beq_iff_eq, beq_iff_eq] at h2
        rcases h2 with h2 | h2
        · subst h2; unfold repStr; simp
        · have : l = [] := List.length_eq_zero_iff.mp (by simpa [Str.length] using h2)
          subst this
          unfold repStr; simp
      rw [this] at h0
      exact h0 t
    · rw [if_neg h2]
      have : repStr x n = ⟨(List.replicate n.toNat x.cps).foldl (· ++ ·) #[]⟩ := by
        obtain ⟨⟨l⟩⟩ := x
        unfold repStr
        have := foldl_cps l n.toNat []
        simp only [List.nil_append] at this
        rw [this]
      refine ⟨?_, ?_⟩
      · rw [← this, repStr_len, sizeLine_eq]; omega
      · rw [← this]; exact h _ _
theorem do_mul : OpR X (binaryOp .Mult) (rD2 C opMul) := by
  intro pins s σ H x y v u Q I rx ry ⟨Z, m, h, a, b, sm, ra, rb, p⟩
  have lists : ∀ (n : Int) (l : List D), y = .int n → lsOf h a = some l → Post C (Rep C) (fun _ _ _ => False) (if -1000000 ≤ n ∧ n ≤ 1000000 ∧ l.length * n.toNat ≤ 16777216 then R.ok (D.lst (List.replicate n.toNat l).flatten) h else R.err) Z m H Q → wpAny (model X.prog X.w) X.A (binaryOp .Mult v u) (EP X pins σ Q) X.xe s := fun n l1 ey e1 p => by
    subst ey
    obtain ⟨a1, v1, rfl, h1, r1⟩ := ls_at sm ra e1
    split at p
    · rename_i hl
      refine op_rep pins s σ H _ _ v u Q I rx ry ⟨a1, n, v1, rfl, rfl, h1, by omega, by omega, by rw [← r1.length]; exact sz_le hl.2.2, fun q hq => ?_⟩
      have xz := Ext.lay sm hq (.lst (List.replicate n.toNat v1).flatten)
      exact p _ _ _ _ xz (sm.lay hq _) (.lst upd_same ((r1.replicate _).mono xz.sub (List.prefix_refl _)))
    · exact False.elim p
  cases rb with
  | int n =>
    cases a with
    | int i =>
      cases ra
      simp only [opMul] at p
      split at p
      · rename_i hc
        refine op_mul pins s σ H _ _ v u Q I rx ry ⟨_, _, rfl, rfl, ?_, p _ _ _ _ .refl sm (.int _)⟩
        simp only [mulOk, Bool.or_eq_true, Bool.and_eq_true, decide_eq_true_eq] at hc
        exact hc
      · exact False.elim p
    | str z =>
      cases ra
      simp only [opMul] at p
      split at p
      · rename_i hc
        obtain ⟨t, rfl⟩ := rx
        obtain ⟨t', rfl⟩ := ry
        have hlen : ¬ n < 1 → (z.length : Int) * n ≤ 1000000 := fun h1 => by
          have : ((z.length * n.toNat : Nat) : Int) ≤ 1000000 := Int.ofNat_le.mpr hc.2.2
          have e : ((n.toNat : Nat) : Int) = n := Int.toNat_of_nonneg (by omega)
          rw [Int.natCast_mul, e] at this
          exact this
        refine PySem.P.mul_str ?_ (fun h1 h2 => ?_) (fun h1 h2 => ?_) (repStr_made z n t hc.2.2 (fun t' k => ⟨.str (repStr z n), H, I.tok k, ⟨_, rfl⟩, p _ _ _ _ .refl sm (.str _)⟩) (fun t' => ⟨.str (repStr z n), H, I, ⟨_, rfl⟩, p _ _ _ _ .refl sm (.str _)⟩))
        · rw [Bool.or_eq_false_iff, decide_eq_false_iff_not, decide_eq_false_iff_not]
          omega
        · have h3 := hlen h1
          intro h4
          have h5 : n * ((2 ^ 63 - 1) / n) > 2 ^ 63 - 1 - n := by
            have := Int.mul_ediv_add_emod (2 ^ 63 - 1) n
            have := Int.emod_lt_of_pos (2 ^ 63 - 1) (show 0 < n by omega)
            omega
          have h6 : n * ((2 ^ 63 - 1) / n) ≤ n * (z.length : Int) := Int.mul_le_mul_of_nonneg_left (by omega) (by omega)
          rw [Int.mul_comm n (z.length : Int)] at h6
          omega
        · unfold Builtin.Str.tooLong
          rw [decide_eq_false_iff_not, sizeLine_eq]
          have := hc.2.2
          omega
      · exact False.elim p
    | _ =>
      simp only [opMul] at p
      split at p
      · rename_i l hl; exact lists n l rfl hl p
      · exact False.elim p
  | _ => cases a <;> exact False.elim p
end
end Dn
set_option Elab.async false
set_option linter.all false
set_option maxRecDepth 100000
set_option maxHeartbeats 4000000
namespace Dn
open PySem PySem.Spec PyProof.Rows L2
section
variable {X : Cx} {C : Cn} {E : WX}
theorem hu64 {A : Around} (hr : Room 0 A) : A.units + 64 < cLine := by have := hr.un; omega
theorem hu65 {A : Around} (hr : Room 0 A) : A.units + 65 < cLine := by have := hr.un; omega
theorem do_lt : OpR X (compareOp .Lt) (rD2 C opLt) := by
  intro pins s σ H x y v u Q I rx ry ⟨Z, m, h, a, b, sm, ra, rb, p⟩
  cases ra <;> cases rb <;> first | exact False.elim p | skip
  exact op_lt pins s σ H _ _ v u Q I rx ry ⟨_, _, rfl, rfl, p _ _ _ _ .refl sm (.bl _)⟩
theorem do_le : OpR X (compareOp .LtE) (rD2 C opLe) := by
  intro pins s σ H x y v u Q I rx ry ⟨Z, m, h, a, b, sm, ra, rb, p⟩
  cases ra <;> cases rb <;> first | exact False.elim p | skip
  · exact op_le pins s σ H _ _ v u Q I rx ry ⟨_, _, rfl, rfl, p _ _ _ _ .refl sm (.bl _)⟩
  · exact op_le_str pins s σ H _ _ v u Q I rx ry ⟨_, _, rfl, rfl, p _ _ _ _ .refl sm (.bl _)⟩
theorem do_gt : OpR X (compareOp .Gt) (rD2 C opGt) := by
  intro pins s σ H x y v u Q I rx ry ⟨Z, m, h, a, b, sm, ra, rb, p⟩
  cases ra <;> cases rb <;> first | exact False.elim p | skip
  exact op_gt pins s σ H _ _ v u Q I rx ry ⟨_, _, rfl, rfl, p _ _ _ _ .refl sm (.bl _)⟩
theorem do_ge : OpR X (compareOp .GtE) (rD2 C opGe) := by
  intro pins s σ H x y v u Q I rx ry ⟨Z, m, h, a, b, sm, ra, rb, p⟩
  cases ra <;> cases rb <;> first | exact False.elim p | skip
  exact op_ge pins s σ H _ _ v u Q I rx ry ⟨_, _, rfl, rfl, p _ _ _ _ .refl sm (.bl _)⟩
theorem scal_rep {Z : Hp} {m : List Addr} {a b : D} {x y : V} (ra : Rep C Z m a x) (rb : Rep C Z m b y) (hs : scalD a b = true) : scal x y = true ∧ decide (x = y) = D.eqb a b := by
  cases ra <;> cases rb <;> first | (simp [scalD] at hs; done) | skip
  all_goals refine ⟨rfl, ?_⟩
  all_goals simp only [D.eqb]
  all_goals first
    | exact decide_eq_true rfl
    | exact decide_eq_false (fun z => by cases z)
    | (rw [Bool.eq_iff_iff]; simp)
theorem do_eq (hr : Room 0 X.A) : OpR X (compareOp .Eq) (rD2 C opEq) := by
  intro pins s σ H x y v u Q I rx ry ⟨Z, m, h, a, b, sm, ra, rb, p⟩
  unfold opEq at p
  split at p
  · rename_i hs
    obtain ⟨h1, h2⟩ := scal_rep ra rb hs
    exact op_eq pins s σ H _ _ v u Q I rx ry ⟨h1, by rw [h2]; exact p _ _ _ _ .refl sm (.bl _)⟩
  · split at p
    · rename_i hc
      simp only [Bool.and_eq_true] at hc
      refine op_eqD (hu64 hr) pins s σ H _ _ v u Q I rx ry ⟨_, _, dr_dp sm ra hc.1, dr_dp sm rb hc.2, D.shaped hc.1, D.shaped hc.2, ?_⟩
      rw [D.eqv_eqb 64 64 _ _ hc.1 hc.2]
      exact p _ _ _ _ .refl sm (.bl _)
    · exact False.elim p
theorem do_ne (hr : Room 0 X.A) : OpR X (compareOp .NotEq) (rD2 C opNe) := by
  intro pins s σ H x y v u Q I rx ry ⟨Z, m, h, a, b, sm, ra, rb, p⟩
  unfold opNe at p
  split at p
  · rename_i hs
    obtain ⟨h1, h2⟩ := scal_rep ra rb hs
    exact op_ne pins s σ H _ _ v u Q I rx ry ⟨h1, by rw [h2]; exact p _ _ _ _ .refl sm (.bl _)⟩
  · split at p
    · rename_i hc
      simp only [Bool.and_eq_true] at hc
      refine op_neD (hu64 hr) pins s σ H _ _ v u Q I rx ry ⟨_, _, dr_dp sm ra hc.1, dr_dp sm rb hc.2, D.shaped hc.1, D.shaped hc.2, ?_⟩
      rw [D.eqv_eqb 64 64 _ _ hc.1 hc.2]
      exact p _ _ _ _ .refl sm (.bl _)
    · exact False.elim p
theorem flat_rep {Z : Hp} {m : List Addr} {a : D} {x : V} (ra : Rep C Z m a x) (h : flatD a = true) : flatV x = true := by
  cases ra <;> first | rfl | cases h
theorem flatL_rep {Z : Hp} {m : List Addr} : ∀ {l : List D} {xs : List V}, RepL C Z m l xs → l.all flatD = true → xs.all flatV = true
  | _, _, .nil, _ => rfl
  | _, _, .cons a b, h => by
    simp only [List.all_cons, Bool.and_eq_true] at h ⊢
    exact ⟨flat_rep a h.1, flatL_rep b h.2⟩
theorem eqV_rep {Z : Hp} {m : List Addr} {a b : D} {x y : V} (ra : Rep C Z m a x) (rb : Rep C Z m b y) (ha : flatD a = true) (hb : flatD b = true) : eqV x y = D.eqb a b := by
  cases ra <;> cases rb <;> first | rfl | (simp [flatD] at ha; done) | (simp [flatD] at hb; done)
theorem inV_rep {Z : Hp} {m : List Addr} {a : D} {x : V} (ra : Rep C Z m a x) (ha : flatD a = true) : ∀ {l : List D} {xs : List V}, RepL C Z m l xs → l.all flatD = true → inV x xs = l.any fun z => D.eqb z a
  | _, _, .nil, _ => rfl
  | _, _, .cons b r, h => by
    simp only [List.all_cons, Bool.and_eq_true] at h
    have := inV_rep ra ha r h.2
    unfold inV at this ⊢
    rw [List.any_cons, List.any_cons, this, eqV_rep b ra h.1 ha]
theorem pdL_any {n k : Nat} {a : D} (ha : D.okN n a = true) : ∀ {l : List D}, D.okL k l = true → ((D.pdL l).any fun z => PyData.eqv z a.pd) = l.any fun z => D.eqb z a
  | [], _ => rfl
  | x :: xs, h => by
    simp only [D.okL, Bool.and_eq_true] at h
    simp only [D.pdL, List.any_cons]
    rw [D.eqv_eqb k n x a h.1 ha, pdL_any ha h.2]
theorem do_inD (neg : Bool) (op : CmpOp) (hr : Room 0 X.A) (h1 : OpR X (compareOp op) (rIn X.K neg))
    (h2 : OpR X (compareOp op) (fun x y H Q => ∃ d ds, Dp X.K H x d ∧ Dp X.K H y (.list ds) ∧ SeqAt.shaped d = true ∧ SeqAt.shaped (.list ds) = true ∧ Q (.bl (neg ^^ ds.any fun z => PyData.eqv z d)) H))
    (h3 : OpR X (compareOp op) (fun x y H Q => ∃ (c : Nat) (z : Str), x = .str ⟨#[c]⟩ ∧ y = .str z ∧ Q (.bl (neg ^^ decide (c ∈ z.cps.toList))) H))
    (h4 : OpR X (compareOp op) (fun y x H Q => ∃ a o, x = .ref a ∧ DGet H a y o ∧ Q (.bl (neg ^^ o.isSome)) H)) : OpR X (compareOp op) (rD2 C (inD neg)) := by
  intro pins s σ H x y v u Q I rx ry ⟨Z, m, h, a, b, sm, ra, rb, p⟩
  have main : ∀ l : List D, items h b = some l → (∃ p xs, y = .ref p ∧ (SqL X.K H p xs ∨ SqT X.K H p xs) ∧ RepL C Z m l xs) → ((lsOf h b).isSome = true → lsOf h b = some l) →
      Post C (Rep C) (fun _ _ _ => False) (if flatD a && l.all flatD then .ok (.bl (neg ^^ l.any fun z => D.eqb z a)) h else if (lsOf h b).isSome && D.okN 64 a && D.okL 63 l then .ok (.bl (neg ^^ l.any fun z => D.eqb z a)) h else .err) Z m H Q → wpAny (model X.prog X.w) X.A (compareOp op v u) (EP X pins σ Q) X.xe s := fun l hl ⟨q, xs, hy, hq, rl⟩ hls p => by
    split at p
    · rename_i hc
      simp only [Bool.and_eq_true] at hc
      refine h1 pins s σ H _ _ v u Q I rx ry ⟨q, xs, hy, hq, flat_rep ra hc.1, flatL_rep rl hc.2, ?_⟩
      rw [inV_rep ra hc.1 rl hc.2]
      have := p _ _ _ _ .refl sm (.bl _)
      cases neg <;> simpa using this
    · split at p
      · rename_i hc
        simp only [Bool.and_eq_true] at hc
        have hl2 := hls hc.1.1
        have hd : D.okN 64 (dr h b) = true := by unfold dr; rw [hl2]; simpa [D.okN] using hc.2
        have dpb := dr_dp (K := X.K) sm rb hd
        have hsh := D.shaped hd
        have e : (dr h b).pd = .list (D.pdL l) := by unfold dr; rw [hl2]; rfl
        rw [e] at dpb hsh
        refine h2 pins s σ H _ _ v u Q I rx ry ⟨_, _, ra.dp sm.sub 64 hc.1.2, dpb, D.shaped hc.1.2, hsh, ?_⟩
        rw [pdL_any hc.1.2 hc.2]
        exact p _ _ _ _ .refl sm (.bl _)
      · exact False.elim p
  cases rb with
  | str z =>
    simp only [inD] at p
    cases ra with
    | str w =>
      simp only at p
      split at p
      · rename_i c hc
        obtain ⟨⟨w⟩⟩ := w
        simp only at hc
        subst hc
        exact h3 pins s σ H _ _ v u Q I rx ry ⟨c, z, rfl, rfl, p _ _ _ _ .refl sm (.bl _)⟩
      · exact False.elim p
    | _ => exact False.elim p
  | @tup q vs l hz rl => exact main l rfl ⟨q, vs, rfl, .inr (.inl (.inl (sm.sub _ _ hz))), rl⟩ (fun z => by cases z) p
  | @lst q vs l hz rl => exact main l rfl ⟨q, vs, rfl, .inl (.inl (.inl (sm.sub _ _ hz))), rl⟩ (fun z => rfl) p
  | @ref n q en =>
    simp only [inD] at p
    cases e : items h (.ref n) with
    | none =>
      rw [e] at p
      simp only [inK] at p
      split at p
      · rename_i l hl
        split at p
        · rename_i k hk
          obtain ⟨n', a', kvs, e1, e2, e3, e4, e5, rk⟩ := dc_at sm (.ref en) hl
          cases e4
          have ek := key_rep ra hk
          subst ek
          refine h4 pins s σ H _ _ v u Q I rx ry ⟨_, _, rfl, DGet.k e5, ?_⟩
          rw [← rk.some_eq k]
          exact p _ _ _ _ .refl sm (.bl _)
        · exact False.elim p
      · exact False.elim p
    | some l =>
      have e2 : lsOf h (.ref n) = some l := e
      obtain ⟨q', vs, e1, hv, rl⟩ := ls_at sm (.ref en) e2
      cases e1
      rw [e] at p
      exact main l e ⟨q, vs, rfl, .inl (.inl (.inl hv)), rl⟩ (fun _ => e2) p
  | _ => exact False.elim p
theorem do_in (hr : Room 0 X.A) : OpR X (compareOp .In) (rD2 C opIn) :=
  do_inD false .In hr op_in_seq (fun pins s σ H x y v u Q I rx ry ⟨d, ds, a, b, c, e, q⟩ => op_inD (hu65 hr) pins s σ H x y v u Q I rx ry ⟨d, ds, a, b, c, e, by simpa using q⟩) (fun pins s σ H x y v u Q I rx ry ⟨c, z, a, b, q⟩ => op_in_sign pins s σ H x y v u Q I rx ry ⟨c, z, a, b, by simpa using q⟩) (fun pins s σ H x y v u Q I rx ry ⟨a, o, ex, g, q⟩ => by
    subst ex
    obtain rfl : u = Value.ref a := ry
    exact d_in (by have := hr.un; omega) I g rx fun s3 I3 => ⟨.bl o.isSome, H, I3, rfl, by simpa using q⟩)
theorem do_notIn (hr : Room 0 X.A) : OpR X (compareOp .NotIn) (rD2 C opNotIn) :=
  do_inD true .NotIn hr op_notIn_seq (fun pins s σ H x y v u Q I rx ry ⟨d, ds, a, b, c, e, q⟩ => op_notInD (hu65 hr) pins s σ H x y v u Q I rx ry ⟨d, ds, a, b, c, e, by simpa using q⟩) (fun pins s σ H x y v u Q I rx ry ⟨c, z, a, b, q⟩ => op_notIn_sign pins s σ H x y v u Q I rx ry ⟨c, z, a, b, by simpa using q⟩) (fun pins s σ H x y v u Q I rx ry ⟨a, o, ex, g, q⟩ => by
    subst ex
    obtain rfl : u = Value.ref a := ry
    exact d_notIn (by have := hr.un; omega) I g rx fun s3 I3 => ⟨.bl (!o.isSome), H, I3, rfl, by simpa using q⟩)
theorem do_isN : OpR X (compareOp .Is) (rD2 C opIsN) := by
  intro pins s σ H x y v u Q I rx ry ⟨Z, m, h, a, b, sm, ra, rb, p⟩
  cases rb <;> first | exact False.elim p | skip
  refine op_isN pins s σ H _ _ v u Q I rx ry ⟨rfl, ?_⟩
  cases ra <;> exact p _ _ _ _ .refl sm (.bl _)
theorem ix_dict (hu : X.A.units + 1 < cLine) : IxR X (fun x y H Q => ∃ a v, x = .ref a ∧ DGet H a y (some v) ∧ Q v H) := by
  intro value slice pins s σ H x y v u Q I rx ry ⟨a, w, ex, g, q⟩ hs
  subst ex
  obtain rfl : v = Value.ref a := rx
  have hT := dict_typeIs I g
  unfold subscriptTail
  refine wpAny_bind ?_
  rw [getitemInPython_of_ne hT.not_modules]
  refine wpAny_bind (wpAny_specialOf hT PySem.F.slot_dict_getitem.lookup ?_)
  have fin : wpAny (model X.prog X.w) X.A (subscripted slice false (.ref a) u) (fun r s₃ => wpAny (model X.prog X.w) X.A (letTemporaryGo value (.ref a) r >>= fun _ => pure r) (EP X pins σ Q) X.xe s₃) X.xe s := by
    rw [hs]
    exact wpAny_operating (wpAny_mono (d_getItem hu I g ry fun w' s3 I3 rw' => ⟨w, H, I3, rw', q⟩) (fun r s₃ h₃ => wpAny_bind (wpAny_letTemporaryGo (wpAny_pure h₃))) fun _ _ x => x)
  first
    | exact wpAny_pure (wpAny_bind fin)
    | exact wpAny_bind (wpAny_pure (wpAny_bind fin))
    | exact wpAny_bind fin
theorem do_ix (hK : C.K = X.K) (hr : Room 0 X.A) : IxR X (rD2 C opIx) := by
  intro value slice pins s σ H x y v u Q I rx ry ⟨Z, m, h, a, b, sm, ra, rb, p⟩ hs
  have dicts : Post C (Rep C) (fun _ _ _ => False) (ixD a b h) Z m H Q → wpAny (model X.prog X.w) X.A (subscriptTail value slice v u) (EP X pins σ Q) X.xe s := fun p => by
    unfold ixD at p
    split at p
    · rename_i l hl
      split at p
      · rename_i k hk
        split at p
        · rename_i d hd
          obtain ⟨n', a', kvs, e1, e2, e3, e4, e5, rk⟩ := dc_at sm ra hl
          obtain ⟨w, hw, rw'⟩ := (rk.val k).1 d hd
          have ek := key_rep rb hk
          refine ix_dict (by have := hr.un; omega) value slice pins s σ H _ _ v u Q I rx ry ⟨a', w, e4, ?_, p _ _ _ _ .refl sm rw'⟩ hs
          rw [ek, ← hw]
          exact DGet.k e5
        · exact False.elim p
      · exact False.elim p
    · exact False.elim p
  have lists : ∀ (i : Int) (l : List D), y = .int i → lsOf h a = some l → Post C (Rep C) (fun _ _ _ => False) (match atI l i with | some d => .ok d h | none => .err) Z m H Q → wpAny (model X.prog X.w) X.A (subscriptTail value slice v u) (EP X pins σ Q) X.xe s := fun i l ey e1 p => by
    subst ey
    obtain ⟨a1, v1, rfl, h1, r1⟩ := ls_at sm ra e1
    split at p
    · rename_i d hd
      obtain ⟨w, hw, rw'⟩ := atI_rep r1 hd
      exact ix_list value slice pins s σ H _ _ v u Q I rx ry ⟨a1, v1, i, w, rfl, rfl, .inl (.inl h1), hw, p _ _ _ _ .refl sm rw'⟩ hs
    · exact False.elim p
  cases rb with
  | int i =>
    cases a with
    | str z =>
      cases ra
      simp only [opIx] at p
      split at p
      · rename_i hl
        split at p
        · rename_i c hc
          exact ix_str value slice pins s σ H _ _ v u Q I rx ry ⟨z, i, c, rfl, rfl, sz_le hl, hc, p _ _ _ _ .refl sm (.str _)⟩ hs
        · exact False.elim p
      · exact False.elim p
    | scr ns =>
      cases ra with
      | @scr q _ hq =>
        simp only [opIx] at p
        split at p
        · rename_i n hn
          refine ix_list value slice pins s σ H _ _ v u Q I rx ry ⟨q, _, i, .int n, rfl, rfl, hK ▸ sqL_mono sm.sub hq, ?_, p _ _ _ _ .refl sm (.int _)⟩ hs
          rw [atI_map, hn]; rfl
        · exact False.elim p
    | tup l =>
      cases ra with
      | @tup q vs _ hz rl =>
        simp only [opIx] at p
        split at p
        · rename_i d hd
          obtain ⟨w, hw, rw'⟩ := atI_rep rl hd
          exact ix_tup value slice pins s σ H _ _ v u Q I rx ry ⟨q, vs, i, w, rfl, rfl, .inl (.inl (sm.sub _ _ hz)), hw, p _ _ _ _ .refl sm rw'⟩ hs
        · exact False.elim p
    | _ =>
      simp only [opIx] at p
      split at p
      · rename_i l hl; exact lists i l rfl hl p
      · exact dicts p
  | _ => exact dicts p
def rDS (C : Cn) (g : D → Option Int → Option Int → Hm → R D) : V → Option Int → Option Int → Hp → VK → Prop := fun x lo hi H Q => ∃ Z m h a, HSim C Z m h H ∧ Rep C Z m a x ∧ Post C (Rep C) (fun _ _ _ => False) (g a lo hi h) Z m H Q
theorem do_sl : SlR X (rDS C opSl) := by
  intro pins s σ H x v vl vu lo hi sl Q I rx hs pl pu ⟨Z, m, h, a, sm, ra, p⟩
  have lists : ∀ (l : List D), lsOf h a = some l → Post C (Rep C) (fun _ _ _ => False) (.ok (.lst (cutD l lo hi)) h) Z m H Q → ∃ T id, typeLookup (.type T) "__getitem__" = pure (some (.builtin id)) ∧ s.TypeIs v T ∧ wpAny (model X.prog X.w) X.A (getItem v (.ref sl)) (EP X pins σ Q) X.xe s := fun l e1 p => by
    obtain ⟨a1, v1, rfl, h1, r1⟩ := ls_at sm ra e1
    refine sl_list pins s σ H _ v vl vu lo hi sl Q I rx hs pl pu ⟨a1, v1, rfl, .inl (.inl h1), fun q hq => ?_⟩
    have xz := Ext.lay sm hq (.lst (cutV v1 lo hi))
    exact p _ _ _ _ xz (sm.lay hq _) (.lst upd_same ((cut_rep r1 lo hi).mono xz.sub (List.prefix_refl _)))
  cases a with
  | str z =>
    cases ra
    simp only [opSl] at p
    split at p
    · rename_i hl
      exact sl_str pins s σ H _ v vl vu lo hi sl Q I rx hs pl pu ⟨z, rfl, sz_le hl, p _ _ _ _ .refl sm (.str _)⟩
    · simp only [Post] at p
  | tup l =>
    cases ra with
    | @tup q vs _ hz rl =>
      simp only [opSl] at p
      refine sl_tupA pins s σ H _ v vl vu lo hi sl Q I rx hs pl pu ⟨q, vs, rfl, .inl (.inl (sm.sub _ _ hz)), fun hw => ?_, fun hw p' hp' => ?_⟩
      · have e : cutD l lo hi = l := by
          unfold cutD
          rw [rl.length, hw.1, hw.2, List.drop_zero, Nat.sub_zero, ← rl.length, List.take_length]
        rw [e] at p
        exact p _ _ _ _ .refl sm (.tup hz rl)
      · have xz := Ext.lay sm hp' (.tup (cutV vs lo hi))
        exact p _ _ _ _ xz (sm.lay hp' _) (.tup upd_same ((cut_rep rl lo hi).mono xz.sub (List.prefix_refl _)))
  | _ =>
    simp only [opSl] at p
    split at p
    · rename_i l hl; exact lists l hl p
    · exact False.elim p
theorem nox_sl : ∀ a lo hi h, NoX (opSl a lo hi h) := by
  intro a lo hi h e g
  unfold opSl
  repeat' split
  all_goals simp
structure PP (X : Cx) (C : Cn) (E : WX) (e : Option Expr) (f : PM) : Prop where
  ok : ∃ t : TO, PO X e t ∧ ∀ σ H Q, (∃ Z m v h, HSim C Z m h H ∧ EnvR C Z m v σ ∧ Post C (fun _ _ d v => v = d) (fun c d H' => E c d σ H') (f v h) Z m H Q) → t σ H Q
theorem dp_none : PP X C E none pN := ⟨_, po_none, fun σ H Q ⟨Z, m, v, h, s, e, p⟩ => p _ _ _ _ .refl s rfl⟩
theorem dp_some {a : Expr} {fa : EM} (ha : PE X a (denE C E fa)) : PP X C E (some a) (pE fa) := by
  refine ⟨_, po_some ha, fun σ H Q ⟨Z, m, v, h, s, e, p⟩ => ⟨Z, m, v, h, s, e, (p.bind (rep1 := Rep C)).imp fun x H1 ⟨Z1, m1, d, h1, x1, s1, r1, p1⟩ => ?_⟩⟩
  cases r1 with
  | int i => exact ⟨i, rfl, p1 _ _ _ _ .refl s1 rfl⟩
  | _ => exact False.elim p1
theorem de_sl {a : Expr} {lo hi : Option Expr} {p2 pos : Pos} {fa : EM} {fl fh : PM} (ha : PE X a (denE C E fa)) (hl : PP X C E lo fl) (hh : PP X C E hi fh) : PE X (.Subscript a (.Slice lo hi none p2) pos) (denE C E (eSl fa fl fh)) := by
  obtain ⟨tl, hl, kl⟩ := hl
  obtain ⟨th, hh, kh⟩ := hh
  refine pe_imp (pe_slice (do_sl (C := C)) ha hl hh) fun σ H Q ⟨Z, m, v, h, s, e, p⟩ => ?_
  refine ⟨Z, m, v, h, s, e, (p.bind (rep1 := Rep C)).imp fun x H1 ⟨Z1, m1, d, h1, x1, s1, r1, p1⟩ => ?_⟩
  refine kl _ _ _ ⟨Z1, m1, v, h1, s1, e.mono x1, (p1.bind (rep1 := fun _ _ d v => v = d)).imp fun l H2 ⟨Z2, m2, l', h2, x2, s2, r2, p2⟩ => ?_⟩
  subst r2
  refine kh _ _ _ ⟨Z2, m2, v, h2, s2, (e.mono x1).mono x2, (p2.bind (rep1 := fun _ _ d v => v = d)).imp fun l H3 ⟨Z3, m3, l', h3, x3, s3, r3, p3⟩ => ?_⟩
  subst r3
  exact ⟨Z3, m3, h3, d, s3, (r1.mono x2.sub x2.pre).mono x3.sub x3.pre, p3.nox (nox_sl _ _ _ _)⟩
def opSlN (x : D) (lo hi : Option Int) (h : Hm) : R D := match lsOf h x with
  | some l => .ok (.ref h.length) (h ++ [.lst (cutD l lo hi)])
  | none => .err
def eSlN (a : EM) (lo hi : PM) : EM := fun v h => (a v h).bind fun x h1 => (lo v h1).bind fun l h2 => (hi v h2).bind fun u h3 => opSlN x l u h3
def putIx (o i x : D) (h : Hm) : Option Hm := match o with
  | .ref n => match h[n]?, i with
    | some (.lst l), .int k => (ixN l.length k).map fun j => h.set n (.lst (l.set j x))
    | some (.dct l), i => if l.length < 16777216 then (keyD i).map fun k => h.set n (.dct (dPut i k x l)) else none
    | _, _ => none
  | _ => none
def sPut (fo fi fe : EM) : SM := fun v h => match (fe v h).bind (fun x h1 => (fo v h1).bind fun o h2 => (fi v h2).bind fun i h3 => match putIx o i x h3 with
    | some h4 => R.ok () h4
    | none => .err) with
  | .ok _ h4 => .nx v h4
  | .exc e h4 => .exc e v h4
  | .err => .err
def rSetDc : TSet := fun o i v H Q => ∃ a H', o = .ref a ∧ DPut H a i v H' ∧ Q H'
theorem set_dc (hu : X.A.units + 1 < cLine) : PSet X rSetDc := by
  intro pins s σ H o i v ov iv u Q I ro ri rv h
  obtain ⟨a, H', eo, g, q⟩ := h
  subst eo
  cases (show ov = Value.ref a from ro)
  exact d_setItem hu I g ri rv fun s' I' => ⟨H', I', q⟩
theorem set_both (hu : X.A.units + 1 < cLine) : PSet X (fun o i v H Q => rSetL o i v H Q ∨ rSetDc o i v H Q) := by
  intro pins s σ H o i v ov iv u Q I ro ri rv h
  rcases h with h | h
  · exact set_list pins s σ H o i v ov iv u Q I ro ri rv h
  · exact set_dc hu pins s σ H o i v ov iv u Q I ro ri rv h
theorem ds_put {o i e : Expr} {p1 pos : Pos} {fo fi fe : EM} (hr : Room 0 X.A) (he : PE X e (denE C E fe)) (ho : PE X o (denE C E fo)) (hi : PE X i (denE C E fi))
    (ha : ∀ v, assign (.Subscript o i p1) X.env v = (do
      let ov ← holding [v] (eval o X.env)
      let iv ← holding [v, ov] (eval i X.env)
      standAt p1
      holding [v, ov, iv] (setItem ov iv v)
      release [v, ov, iv] []) := by intro _; rfl)
    (hs : swapsWithSole [.Subscript o i p1] e pos.line X.env = pure false := by rfl) (hw : swappedStores [.Subscript o i p1] e X.env = pure none := by rfl)
    (h1 : (assignEach [.Subscript o i p1] X.env).map (·.2) = [assign (.Subscript o i p1) X.env] := by rfl) : PS X (.Assign [.Subscript o i p1] e pos) (denS C E (sPut fo fi fe)) := by
  refine ps_imp (ps_asg he (pg_sub ho hi (set_both (by have := hr.un; omega)) ha) hs hw h1) fun K σ H ⟨Z, m, v, h, s, ev, p⟩ => ?_
  have p : Post C (fun _ _ (_ : Unit) (_ : Unit) => True) (fun c d H' => E c d σ H') ((fe v h).bind (fun x h1 => (fo v h1).bind fun o h2 => (fi v h2).bind fun i h3 => match putIx o i x h3 with | some h4 => R.ok () h4 | none => .err)) Z m H fun _ H' => K.nx σ H' := by
    unfold sPut at p
    generalize (fe v h).bind (fun x h1 => (fo v h1).bind fun o h2 => (fi v h2).bind fun i h3 => match putIx o i x h3 with | some h4 => R.ok () h4 | none => .err) = r at p ⊢
    cases r with
    | ok _ h4 => exact fun Z' m' H' _ a b _ => p Z' m' H' σ a b (ev.mono a)
    | exc x h4 => exact fun Z' m' H' c od a b r => p Z' m' H' σ c od a b (ev.mono a) r
    | err => exact p
  refine ⟨Z, m, v, h, s, ev, (p.bind (rep1 := Rep C)).imp fun x H1 ⟨Z1, m1, x', h1, x1, s1, r1, p1⟩ => ?_⟩
  refine ⟨Z1, m1, v, h1, s1, ev.mono x1, (p1.bind (rep1 := Rep C)).imp fun o H2 ⟨Z2, m2, o', h2, x2, s2, r2, p2⟩ => ?_⟩
  refine ⟨Z2, m2, v, h2, s2, (ev.mono x1).mono x2, (p2.bind (rep1 := Rep C)).imp fun i H3 ⟨Z3, m3, i', h3, x3, s3, r3, p3⟩ => ?_⟩
  have rx := (r1.mono x2.sub x2.pre).mono x3.sub x3.pre
  have ro := r2.mono x3.sub x3.pre
  unfold putIx at p3
  cases ro with
  | @ref n a en =>
    simp only at p3
    cases q : h3[n]? with
    | none => simp [q] at p3; exact False.elim p3
    | some ob =>
      cases ob with
      | lst l =>
        cases r3 with
        | int k =>
          simp only [q] at p3
          obtain ⟨vs, hv, rl⟩ := s3.obj n a _ en q
          cases hj : ixN l.length k with
          | none => simp [hj] at p3; exact False.elim p3
          | some j =>
            simp only [hj, Option.map_some] at p3
            refine .inl ⟨a, vs, k, j, rfl, rfl, hv, by rw [← rl.length]; exact hj, ?_⟩
            have xz := Ext.put s3 (.lst (vs.set j x)) en (nfz hv)
            exact p3 _ _ _ () xz (s3.put en q (fun z => nomatch z) fun H' e => ⟨_, e, rl.set rx j⟩) trivial
        | _ => simp [q] at p3; exact False.elim p3
      | dct l =>
        simp only [q] at p3
        split at p3
        · rename_i h4 he4
          split at he4
          · rename_i hlt
            cases hk : keyD i' with
            | none => rw [hk] at he4; exact nomatch he4
            | some k =>
              rw [hk] at he4
              injection he4 with he4
              subst he4
              obtain ⟨vs, hv, rk⟩ := s3.obj n a _ en q
              have ek := key_rep r3 hk
              subst ek
              refine .inr ⟨a, _, rfl, DPut.k hv (by rw [← rk.len, sizeLine_eq]; exact hlt), ?_⟩
              have xz := Ext.put s3 (.dK (putK vs k x)) en (nfz hv)
              exact p3 _ _ _ () xz (s3.put en q (fun z => nomatch z) fun H' e => ⟨_, e, rk.put hk rx⟩) trivial
          · exact nomatch he4
        · exact False.elim p3
      | _ => simp [q] at p3; exact False.elim p3
  | _ => exact False.elim p3
end
end Dn
set_option Elab.async false
set_option linter.all false
set_option maxRecDepth 100000
set_option maxHeartbeats 4000000
namespace Dn
open PySem PySem.Spec PyProof.Rows L2
def strsOf : List D → Option (List Str)
  | [] => some []
  | .str x :: r => (strsOf r).map (x :: ·)
  | _ => none
def intsOf : List D → Option (List Int)
  | [] => some []
  | .int x :: r => (intsOf r).map (x :: ·)
  | _ => none
def blsOf : List D → Option (List Bool)
  | [] => some []
  | .bl x :: r => (blsOf r).map (x :: ·)
  | _ => none
theorem strsOf_map : ∀ ws : List Str, strsOf (ws.map D.str) = some ws
  | [] => rfl
  | w :: ws => by simp [strsOf, strsOf_map ws]
theorem intsOf_map : ∀ ws : List Int, intsOf (ws.map D.int) = some ws
  | [] => rfl
  | w :: ws => by simp [intsOf, intsOf_map ws]
theorem blsOf_map : ∀ ws : List Bool, blsOf (ws.map D.bl) = some ws
  | [] => rfl
  | w :: ws => by simp [blsOf, blsOf_map ws]
theorem strsOf_eq : ∀ {l : List D} {ws : List Str}, strsOf l = some ws → l = ws.map D.str
  | [], _, e => by cases e; rfl
  | d :: r, ws, e => by
    cases d with
    | str x =>
      simp only [strsOf] at e
      cases q : strsOf r with
      | none => rw [q] at e; cases e
      | some ws' => rw [q] at e; cases e; rw [List.map_cons, ← strsOf_eq q]
    | _ => cases e
theorem intsOf_eq : ∀ {l : List D} {ws : List Int}, intsOf l = some ws → l = ws.map D.int
  | [], _, e => by cases e; rfl
  | d :: r, ws, e => by
    cases d with
    | int x =>
      simp only [intsOf] at e
      cases q : intsOf r with
      | none => rw [q] at e; cases e
      | some ws' => rw [q] at e; cases e; rw [List.map_cons, ← intsOf_eq q]
    | _ => cases e
theorem blsOf_eq : ∀ {l : List D} {ws : List Bool}, blsOf l = some ws → l = ws.map D.bl
  | [], _, e => by cases e; rfl
  | d :: r, ws, e => by
    cases d with
    | bl x =>
      simp only [blsOf] at e
      cases q : blsOf r with
      | none => rw [q] at e; cases e
      | some ws' => rw [q] at e; cases e; rw [List.map_cons, ← blsOf_eq q]
    | _ => cases e
def bLen : FM := fun ds h => match ds with
  | [.str x] => if x.length ≤ 16777216 then .ok (.int x.length) h else .err
  | [.scr ns] => .ok (.int ns.length) h
  | [.tup l] => .ok (.int l.length) h
  | [d] => match lsOf h d with
    | some l => .ok (.int l.length) h
    | none => match dcOf h d with
      | some l => .ok (.int l.length) h
      | none => .err
  | _ => .err
def mxL : List Int → Int
  | [] => 0
  | x :: xs => xs.foldl max x
def mnL : List Int → Int
  | [] => 0
  | x :: xs => xs.foldl min x
def bMax : FM := fun ds h => match ds with
  | [.int a, .int b] => .ok (.int (max a b)) h
  | [d] => match lsOf h d with
    | some l => (match intsOf l with
      | some ns => if 0 < ns.length then .ok (.int (mxL ns)) h else .err
      | none => .err)
    | none => .err
  | _ => .err
def bMin : FM := fun ds h => match ds with
  | [.int a, .int b] => .ok (.int (min a b)) h
  | [d] => match lsOf h d with
    | some l => (match intsOf l with
      | some ns => if 0 < ns.length then .ok (.int (mnL ns)) h else .err
      | none => .err)
    | none => .err
  | _ => .err
def bSum : FM := fun ds h => match ds with
  | [d] => match lsOf h d with
    | some l => (match intsOf l with
      | some ns => .ok (.int ns.sum) h
      | none => .err)
    | none => .err
  | _ => .err
def bAll : FM := fun ds h => match ds with
  | [d] => match lsOf h d with
    | some l => (match blsOf l with
      | some ns => .ok (.bl (ns.all id)) h
      | none => .err)
    | none => .err
  | _ => .err
def bInt : FM := fun ds h => match ds with
  | [.int a] => .ok (.int a) h
  | [.bl b] => .ok (.int (if b then 1 else 0)) h
  | [.str x] => match intText? x with
    | some n => if x.length ≤ 640 then .ok (.int n) h else .err
    | none => .err
  | _ => .err
def strI (i : Int) : Str := (toString i : String)
def bStr : FM := fun ds h => match ds with
  | [.int a] => if a.natAbs < 2 ^ 64 then .ok (.str (strI a)) h else .err
  | [.str x] => .ok (.str x) h
  | _ => .err
def bList : FM := fun ds h => match ds with
  | [.tup l] => .ok (.lst l) h
  | [d] => match lsOf h d with
    | some l => .ok (.lst l) h
    | none => .err
  | _ => .err
def bTuple : FM := fun ds h => match ds with
  | [.tup l] => .ok (.tup l) h
  | [d] => match lsOf h d with
    | some l => .ok (.tup l) h
    | none => .err
  | _ => .err
/-- isinstance(x, T), T a built-in type -/
def tyD (h : Hm) : D → Option String
  | .non => some "NoneType" | .bl _ => some "bool" | .int _ => some "int" | .str _ => some "str" | .tup _ => some "tuple" | .lst _ => some "list"
  | .ref n => match h[n]? with
    | some (.lst _) => some "list"
    | some (.dct _) => some "dict"
    | _ => none
  | _ => none
def isTy (t T : String) : Bool := t == T || (t == "bool" && T == "int")
def isi (T : String) (d : D) (h : Hm) : R D := match tyD h d with
  | some t => .ok (.bl (isTy t T)) h
  | none => .err
abbrev MM := D → List D → Hm → R D
def mAppend : MM := fun d xs h => match d, xs with
  | .ref n, [x] => match h[n]? with
    | some (.lst l) => if l.length < 16777216 then .ok .non (h.set n (.lst (l ++ [x]))) else .err
    | _ => .err
  | _, _ => .err
def mExtend : MM := fun d xs h => match d, xs with
  | .ref n, [x] => match h[n]?, lsOf h x with
    | some (.lst l), some k => if l.length + k.length ≤ 16777216 then .ok .non (h.set n (.lst (l ++ k))) else .err
    | _, _ => .err
  | _, _ => .err
def mPop : MM := fun d xs h => match d, xs with
  | .ref n, [] => match h[n]? with
    | some (.lst l) => (match l[l.length - 1]? with
      | some x => .ok x (h.set n (.lst l.dropLast))
      | none => .err)
    | _ => .err
  | .ref n, [.int 0] => match h[n]? with
    | some (.lst (x :: l)) => .ok x (h.set n (.lst l))
    | _ => .err
  | _, _ => .err
def mInsert : MM := fun d xs h => match d, xs with
  | .ref n, [.int i, x] => match h[n]? with
    | some (.lst l) => if l.length < 16777216 ∧ 0 ≤ i ∧ i < 2 ^ 62 then .ok .non (h.set n (.lst (l.take i.toNat ++ [x] ++ l.drop i.toNat))) else .err
    | _ => .err
  | _, _ => .err
def mJoin : MM := fun d xs h => match d, xs with
  | .str a, [x] => match items h x with
    | some l => (match strsOf l with
      | some ys => if (ys.map (·.length)).sum + ys.length * a.length ≤ 16777216 then .ok (.str (Str.join a ys)) h else .err
      | none => .err)
    | none => .err
  | _, _ => .err
/-- the receiver is of that type -/
def isRc (T : String) (d : D) (h : Hm) : Bool := match d with
  | .str _ => T == "str"
  | d => (lsOf h d).isSome && T == "list"
def eM (T : String) (g : MM) (o : EM) (a : AM) : EM := fun v h => (o v h).bind fun x h1 => if isRc T x h1 then (a v h1).bind fun xs h2 => g x xs h2 else .err
theorem foldl_max (l : List Int) : ∀ x : Int, (l.foldl max x = x ∨ l.foldl max x ∈ l) ∧ x ≤ l.foldl max x ∧ ∀ y ∈ l, y ≤ l.foldl max x := by
  induction l with
  | nil => intro x; exact ⟨.inl rfl, Int.le_refl _, fun _ h => nomatch h⟩
  | cons a l ih =>
    intro x
    obtain ⟨h1, h2, h3⟩ := ih (max x a)
    rw [List.foldl_cons]
    refine ⟨?_, by omega, fun y hy => ?_⟩
    · rcases h1 with h1 | h1
      · rw [h1]
        by_cases hx : x ≤ a
        · rw [Int.max_eq_right hx]; exact .inr (List.mem_cons_self ..)
        · rw [Int.max_eq_left (by omega)]; exact .inl rfl
      · exact .inr (List.mem_cons_of_mem _ h1)
    · rcases List.mem_cons.mp hy with rfl | hy
      · omega
      · exact h3 y hy
theorem foldl_min (l : List Int) : ∀ x : Int, (l.foldl min x = x ∨ l.foldl min x ∈ l) ∧ l.foldl min x ≤ x ∧ ∀ y ∈ l, l.foldl min x ≤ y := by
  induction l with
  | nil => intro x; exact ⟨.inl rfl, Int.le_refl _, fun _ h => nomatch h⟩
  | cons a l ih =>
    intro x
    obtain ⟨h1, h2, h3⟩ := ih (min x a)
    rw [List.foldl_cons]
    refine ⟨?_, by omega, fun y hy => ?_⟩
    · rcases h1 with h1 | h1
      · rw [h1]
        by_cases hx : a ≤ x
        · rw [Int.min_eq_right hx]; exact .inr (List.mem_cons_self ..)
        · rw [Int.min_eq_left (by omega)]; exact .inl rfl
      · exact .inr (List.mem_cons_of_mem _ h1)
    · rcases List.mem_cons.mp hy with rfl | hy
      · omega
      · exact h3 y hy
theorem mxL_mem {l : List Int} (h : 0 < l.length) : mxL l ∈ l ∧ ∀ y ∈ l, y ≤ mxL l := by
  cases l with
  | nil => simp at h
  | cons x xs =>
    obtain ⟨h1, h2, h3⟩ := foldl_max xs x
    refine ⟨?_, fun y hy => ?_⟩
    · rcases h1 with h1 | h1
      · show xs.foldl max x ∈ x :: xs
        rw [h1]; exact List.mem_cons_self ..
      · exact List.mem_cons_of_mem _ h1
    · rcases List.mem_cons.mp hy with rfl | hy
      · exact h2
      · exact h3 y hy
theorem mnL_mem {l : List Int} (h : 0 < l.length) : mnL l ∈ l ∧ ∀ y ∈ l, mnL l ≤ y := by
  cases l with
  | nil => simp at h
  | cons x xs =>
    obtain ⟨h1, h2, h3⟩ := foldl_min xs x
    refine ⟨?_, fun y hy => ?_⟩
    · rcases h1 with h1 | h1
      · show xs.foldl min x ∈ x :: xs
        rw [h1]; exact List.mem_cons_self ..
      · exact List.mem_cons_of_mem _ h1
    · rcases List.mem_cons.mp hy with rfl | hy
      · exact h2
      · exact h3 y hy
section
variable {X : Cx} {C : Cn} {E : WX}
theorem repL_one {Z : Hp} {m : List Addr} {d : D} {xs : List V} (r : RepL C Z m [d] xs) : ∃ x, xs = [x] ∧ Rep C Z m d x := by
  cases r with
  | cons a b => cases b; exact ⟨_, rfl, a⟩
theorem nox_bLen : ∀ a h, NoX (bLen a h) := by intro a h e g; unfold bLen; repeat' split
                                               all_goals simp
theorem nox_bMax : ∀ a h, NoX (bMax a h) := by intro a h e g; unfold bMax; repeat' split
                                               all_goals simp
theorem nox_bMin : ∀ a h, NoX (bMin a h) := by intro a h e g; unfold bMin; repeat' split
                                               all_goals simp
theorem nox_bSum : ∀ a h, NoX (bSum a h) := by intro a h e g; unfold bSum; repeat' split
                                               all_goals simp
theorem nox_bAll : ∀ a h, NoX (bAll a h) := by intro a h e g; unfold bAll; repeat' split
                                               all_goals simp
theorem nox_bInt : ∀ a h, NoX (bInt a h) := by intro a h e g; unfold bInt; repeat' split
                                               all_goals simp
theorem nox_bStr : ∀ a h, NoX (bStr a h) := by intro a h e g; unfold bStr; repeat' split
                                               all_goals simp
theorem nox_bList : ∀ a h, NoX (bList a h) := by intro a h e g; unfold bList; repeat' split
                                                 all_goals simp
theorem nox_bTuple : ∀ a h, NoX (bTuple a h) := by intro a h e g; unfold bTuple; repeat' split
                                                   all_goals simp
theorem nox_add : ∀ a b h, NoX (opAdd a b h) := by intro a b h e g; unfold opAdd; repeat' split
                                                   all_goals simp
theorem nox_sub : ∀ a b h, NoX (opSub a b h) := by intro a b h e g; unfold opSub; repeat' split
                                                   all_goals simp
theorem nox_mul : ∀ a b h, NoX (opMul a b h) := by intro a b h e g; unfold opMul; repeat' split
                                                   all_goals simp
theorem nox_mod : ∀ a b h, NoX (opMod a b h) := by intro a b h e g; unfold opMod; repeat' split
                                                   all_goals simp
theorem nox_div : ∀ a b h, NoX (opDiv a b h) := by intro a b h e g; unfold opDiv; repeat' split
                                                   all_goals simp
theorem nox_pow : ∀ a b h, NoX (opPow a b h) := by intro a b h e g; unfold opPow; repeat' split
                                                   all_goals simp
theorem nox_lt : ∀ a b h, NoX (opLt a b h) := by intro a b h e g; unfold opLt; repeat' split
                                                 all_goals simp
theorem nox_le : ∀ a b h, NoX (opLe a b h) := by intro a b h e g; unfold opLe; repeat' split
                                                 all_goals simp
theorem nox_gt : ∀ a b h, NoX (opGt a b h) := by intro a b h e g; unfold opGt; repeat' split
                                                 all_goals simp
theorem nox_ge : ∀ a b h, NoX (opGe a b h) := by intro a b h e g; unfold opGe; repeat' split
                                                 all_goals simp
theorem nox_eq : ∀ a b h, NoX (opEq a b h) := by intro a b h e g; unfold opEq; repeat' split
                                                 all_goals simp
theorem nox_ne : ∀ a b h, NoX (opNe a b h) := by intro a b h e g; unfold opNe; repeat' split
                                                 all_goals simp
theorem nox_ixD : ∀ a b h, NoX (ixD a b h) := by intro a b h e g; unfold ixD; repeat' split
                                                 all_goals simp
theorem nox_inK (n : Bool) : ∀ a b h, NoX (inK n a b h) := by intro a b h e g; unfold inK; repeat' split
                                                              all_goals simp
theorem nox_inD (n : Bool) : ∀ a b h, NoX (inD n a b h) := by intro a b h e g; unfold inD; repeat' split
                                                              all_goals first | exact nox_inK _ _ _ _ _ _ | simp
theorem nox_in : ∀ a b h, NoX (opIn a b h) := nox_inD false
theorem nox_notIn : ∀ a b h, NoX (opNotIn a b h) := nox_inD true
theorem nox_isN : ∀ a b h, NoX (opIsN a b h) := by intro a b h e g; unfold opIsN; repeat' split
                                                   all_goals simp
theorem nox_ix : ∀ a b h, NoX (opIx a b h) := by intro a b h e g; unfold opIx; repeat' split
                                                 all_goals first | exact nox_ixD _ _ _ _ _ | simp
theorem nox_append : ∀ d a h, NoX (mAppend d a h) := by intro d a h e g; unfold mAppend; repeat' split
                                                        all_goals simp
theorem nox_extend : ∀ d a h, NoX (mExtend d a h) := by intro d a h e g; unfold mExtend; repeat' split
                                                        all_goals simp
theorem nox_pop : ∀ d a h, NoX (mPop d a h) := by intro d a h e g; unfold mPop; repeat' split
                                                  all_goals simp
theorem nox_insert : ∀ d a h, NoX (mInsert d a h) := by intro d a h e g; unfold mInsert; repeat' split
                                                        all_goals simp
theorem nox_join : ∀ d a h, NoX (mJoin d a h) := by intro d a h e g; unfold mJoin; repeat' split
                                                    all_goals simp
theorem db_len (hK : C.K = X.K) : CallR X (.builtin "len") (rDF C bLen) := by
  intro pins s σ H xs us Q I r ⟨Z, m, h, ds, sm, rd, p⟩
  unfold bLen at p
  split at p
  · obtain ⟨x, rfl, rx⟩ := repL_one rd
    cases rx
    split at p
    · rename_i hl; exact call_len_str pins s σ H _ us Q I r ⟨_, rfl, sz_le hl, p _ _ _ _ .refl sm (.int _)⟩
    · exact False.elim p
  · obtain ⟨x, rfl, rx⟩ := repL_one rd
    cases rx with
    | scr hq =>
      refine call_len_seq pins s σ H _ us Q I r ⟨_, _, rfl, .inl (hK ▸ sqL_mono sm.sub hq), ?_⟩
      rw [List.length_map]
      exact p _ _ _ _ .refl sm (.int _)
  · obtain ⟨x, rfl, rx⟩ := repL_one rd
    cases rx with
    | tup hq rl =>
      refine call_len_seq pins s σ H _ us Q I r ⟨_, _, rfl, .inr (.inl (.inl (sm.sub _ _ hq))), ?_⟩
      rw [← rl.length]
      exact p _ _ _ _ .refl sm (.int _)
  · obtain ⟨x, rfl, rx⟩ := repL_one rd
    split at p
    · rename_i l hl
      obtain ⟨a, vs, rfl, hv, rl⟩ := ls_at sm rx hl
      refine call_len_seq pins s σ H _ us Q I r ⟨_, _, rfl, .inl (.inl (.inl hv)), ?_⟩
      rw [← rl.length]
      exact p _ _ _ _ .refl sm (.int _)
    · split at p
      · rename_i l hl
        obtain ⟨n, a, kvs, _, _, _, e4, e5, rk⟩ := dc_at sm rx hl
        subst e4
        obtain ⟨u, eu, ru⟩ := vals1 r
        subst eu
        obtain rfl : u = Value.ref a := ru
        refine d_len I (.inl e5) fun t s' I' => ⟨.int kvs.length, H, I', ⟨t, rfl⟩, ?_⟩
        rw [← rk.len]
        exact p _ _ _ _ .refl sm (.int _)
      · exact False.elim p
  · exact False.elim p
theorem db_max (hc : X.calm = true) : CallR X (.builtin "max") (rDF C bMax) := by
  intro pins s σ H xs us Q I r ⟨Z, m, h, ds, sm, rd, p⟩
  unfold bMax at p
  split at p
  · rename_i a b
    cases rd with
    | cons ra rd =>
      cases rd with
      | cons rb rd =>
        cases rd; cases ra; cases rb
        refine call_max2 hc pins s σ H _ us Q I r ⟨_, _, rfl, ?_⟩
        have e : (if b > a then b else a) = max a b := by
          rw [Int.max_def]; split <;> split <;> omega
        rw [e]
        exact p _ _ _ _ .refl sm (.int _)
  · obtain ⟨x, rfl, rx⟩ := repL_one rd
    split at p
    · rename_i l hl
      split at p
      · rename_i ns hn
        split at p
        · rename_i hpos
          obtain ⟨a, vs, rfl, hv, rl⟩ := ls_at sm rx hl
          have e := intsOf_eq hn
          subst e
          cases rl.ints
          refine cr_max hc pins s σ H _ us Q I r ⟨a, ns, rfl, .inl (.inl hv), hpos, fun k hk hub => ?_⟩
          obtain ⟨h1, h2⟩ := mxL_mem hpos
          have : k = mxL ns := Int.le_antisymm (h2 k hk) (hub _ h1)
          rw [this]
          exact p _ _ _ _ .refl sm (.int _)
        · exact False.elim p
      · exact False.elim p
    · exact False.elim p
  · exact False.elim p
theorem db_min (hc : X.calm = true) : CallR X (.builtin "min") (rDF C bMin) := by
  intro pins s σ H xs us Q I r ⟨Z, m, h, ds, sm, rd, p⟩
  unfold bMin at p
  split at p
  · rename_i a b
    cases rd with
    | cons ra rd =>
      cases rd with
      | cons rb rd =>
        cases rd; cases ra; cases rb
        refine call_min2 hc pins s σ H _ us Q I r ⟨_, _, rfl, ?_⟩
        have e : (if b < a then b else a) = min a b := by
          rw [Int.min_def]; split <;> split <;> omega
        rw [e]
        exact p _ _ _ _ .refl sm (.int _)
  · obtain ⟨x, rfl, rx⟩ := repL_one rd
    split at p
    · rename_i l hl
      split at p
      · rename_i ns hn
        split at p
        · rename_i hpos
          obtain ⟨a, vs, rfl, hv, rl⟩ := ls_at sm rx hl
          have e := intsOf_eq hn
          subst e
          cases rl.ints
          refine cr_min hc pins s σ H _ us Q I r ⟨a, ns, rfl, .inl (.inl hv), hpos, fun k hk hub => ?_⟩
          obtain ⟨h1, h2⟩ := mnL_mem hpos
          have : k = mnL ns := Int.le_antisymm (hub _ h1) (h2 k hk)
          rw [this]
          exact p _ _ _ _ .refl sm (.int _)
        · exact False.elim p
      · exact False.elim p
    · exact False.elim p
  · exact False.elim p
theorem db_sum (hc : X.calm = true) : CallR X (.builtin "sum") (rDF C bSum) := by
  intro pins s σ H xs us Q I r ⟨Z, m, h, ds, sm, rd, p⟩
  unfold bSum at p
  split at p
  · obtain ⟨x, rfl, rx⟩ := repL_one rd
    split at p
    · rename_i l hl
      split at p
      · rename_i ns hn
        obtain ⟨a, vs, rfl, hv, rl⟩ := ls_at sm rx hl
        have e := intsOf_eq hn
        subst e
        cases rl.ints
        exact cr_sum hc pins s σ H _ us Q I r ⟨a, ns, rfl, .inl (.inl hv), p _ _ _ _ .refl sm (.int _)⟩
      · exact False.elim p
    · exact False.elim p
  · exact False.elim p
theorem db_all (hc : X.calm = true) : CallR X (.builtin "all") (rDF C bAll) := by
  intro pins s σ H xs us Q I r ⟨Z, m, h, ds, sm, rd, p⟩
  unfold bAll at p
  split at p
  · obtain ⟨x, rfl, rx⟩ := repL_one rd
    split at p
    · rename_i l hl
      split at p
      · rename_i ns hn
        obtain ⟨a, vs, rfl, hv, rl⟩ := ls_at sm rx hl
        have e := blsOf_eq hn
        subst e
        cases rl.bls
        exact cr_all hc pins s σ H _ us Q I r ⟨a, ns, rfl, .inl (.inl hv), p _ _ _ _ .refl sm (.bl _)⟩
      · exact False.elim p
    · exact False.elim p
  · exact False.elim p
theorem db_int : CallR X (.type "int") (rDF C bInt) := by
  intro pins s σ H xs us Q I r ⟨Z, m, h, ds, sm, rd, p⟩
  unfold bInt at p
  split at p
  · obtain ⟨x, rfl, rx⟩ := repL_one rd
    cases rx
    exact call_int1 pins s σ H _ us Q I r (.inl ⟨_, rfl, p _ _ _ _ .refl sm (.int _)⟩)
  · obtain ⟨x, rfl, rx⟩ := repL_one rd
    cases rx
    exact call_int1 pins s σ H _ us Q I r (.inr ⟨_, rfl, p _ _ _ _ .refl sm (.int _)⟩)
  · obtain ⟨x, rfl, rx⟩ := repL_one rd
    cases rx
    split at p
    · rename_i n hn
      split at p
      · rename_i hl; exact call_int_str pins s σ H _ us Q I r ⟨_, n, rfl, hn, hl, p _ _ _ _ .refl sm (.int _)⟩
      · exact False.elim p
    · exact False.elim p
  · exact False.elim p
theorem db_str : CallR X (.type "str") (rDF C bStr) := by
  intro pins s σ H xs us Q I r ⟨Z, m, h, ds, sm, rd, p⟩
  unfold bStr at p
  split at p
  · obtain ⟨x, rfl, rx⟩ := repL_one rd
    cases rx
    split at p
    · rename_i hl
      exact call_str_int pins s σ H _ us Q I r ⟨_, rfl, Nat.lt_of_lt_of_le (PySem.Flt.log2_lt_of (by decide : 0 < 64) hl) (by decide), p _ _ _ _ .refl sm (.str _)⟩
    · exact False.elim p
  · obtain ⟨x, rfl, rx⟩ := repL_one rd
    cases rx
    exact SkE.call_str_str pins s σ H _ us Q I r ⟨_, rfl, p _ _ _ _ .refl sm (.str _)⟩
  · exact False.elim p
theorem db_list : CallR X (.type "list") (rDF C bList) := by
  intro pins s σ H xs us Q I r ⟨Z, m, h, ds, sm, rd, p⟩
  unfold bList at p
  split at p
  · obtain ⟨x, rfl, rx⟩ := repL_one rd
    cases rx with
    | tup hq rl =>
      refine call_list_of pins s σ H _ us Q I r ⟨_, _, rfl, .inr (.inl (.inl (sm.sub _ _ hq))), fun q hq' => ?_⟩
      exact p _ _ _ _ (Ext.lay sm hq' _) (sm.lay hq' _) (.lst upd_same (rl.mono (Ext.lay sm hq' _).sub (List.prefix_refl _)))
  · obtain ⟨x, rfl, rx⟩ := repL_one rd
    split at p
    · rename_i l hl
      obtain ⟨a, vs, rfl, hv, rl⟩ := ls_at sm rx hl
      refine call_list_of pins s σ H _ us Q I r ⟨_, _, rfl, .inl (.inl (.inl hv)), fun q hq' => ?_⟩
      have xz := Ext.lay sm hq' (.lst vs)
      exact p _ _ _ _ xz (sm.lay hq' _) (.lst upd_same (rl.mono xz.sub (List.prefix_refl _)))
    · exact False.elim p
  · exact False.elim p
theorem db_tuple : CallR X (.type "tuple") (rDF C bTuple) := by
  intro pins s σ H xs us Q I r ⟨Z, m, h, ds, sm, rd, p⟩
  unfold bTuple at p
  split at p
  · obtain ⟨x, rfl, rx⟩ := repL_one rd
    cases rx with
    | tup hq rl => exact call_tuple_of pins s σ H _ us Q I r ⟨_, _, rfl, .inr ⟨.inl (.inl (sm.sub _ _ hq)), p _ _ _ _ .refl sm (.tup hq rl)⟩⟩
  · obtain ⟨x, rfl, rx⟩ := repL_one rd
    split at p
    · rename_i l hl
      obtain ⟨a, vs, rfl, hv, rl⟩ := ls_at sm rx hl
      refine call_tuple_of pins s σ H _ us Q I r ⟨_, _, rfl, .inl ⟨.inl (.inl hv), fun q hq' => ?_⟩⟩
      have xz := Ext.lay sm hq' (.tup vs)
      exact p _ _ _ _ xz (sm.lay hq' _) (.tup upd_same (rl.mono xz.sub (List.prefix_refl _)))
    · exact False.elim p
  · exact False.elim p
/-- the built-in types that are asked -/
def tysA : List String := ["int", "bool", "str", "tuple", "list", "dict"]
theorem kit_all : (["NoneType", "bool", "int", "str", "tuple", "list", "dict"].all fun t => tysA.all fun T => kitB t T == some (isTy t T)) = true := by decide +kernel
theorem kit_is {t T : String} (ht : t ∈ ["NoneType", "bool", "int", "str", "tuple", "list", "dict"]) (hT : T ∈ tysA) : kitB t T = some (isTy t T) := by
  have := List.all_eq_true.mp (List.all_eq_true.mp kit_all t ht) T hT
  exact beq_iff_eq.mp this
theorem nox_isi (T : String) : ∀ a h, NoX (isi T a h) := by intro a h e g; unfold isi; repeat' split
                                                            all_goals simp
theorem de_isi {T : String} {x : Str} {a : Expr} {p pt pos : Pos} {fa : EM} (hT : T ∈ tysA) (hg : Gl X "isinstance") (hm : X.mg "isinstance" = none) (hv : bootBuiltins "isinstance" = some (.builtin "isinstance")) (hgT : Gl X x) (hmT : X.mg x = none) (hvT : bootBuiltins x = some (.type T)) (ha : PE X a (denE C E fa))
    (hnT : x ≠ "__name__" := by decide) (hdT : (x == ("__debug__" : Str)) = false := by decide)
    (he : starEach [a, .Name x pt] X.env = (false, eval a X.env) :: starEach [.Name x pt] X.env := by rfl) (he2 : starEach [.Name x pt] X.env = (false, eval (.Name x pt) X.env) :: starEach [] X.env := by rfl)
    (hpl : (backTo pos (starEach [.Name x pt] X.env)).any (·.1) = false := by rfl) : PE X (.Call (.Name "isinstance" p) [a, .Name x pt] [] pos) (denE C E (eU (isi T) fa)) := by
  refine pe_imp (pe_callB call_isi hg hm hv (pa_cons ha (pa_cons (pe_bltn (v := .ty T) hgT hmT hvT rfl hnT hdT) pa_nil he2) he) (by decide) (by decide) he hpl) fun σ H Q ⟨Z, m, v, h, s, e, p⟩ => ?_
  refine ⟨Z, m, v, h, s, e, (p.bind (rep1 := Rep C)).imp fun y H1 ⟨Z1, m1, d, h1, x1, s1, r1, p1⟩ => ?_⟩
  have p1 := p1.nox (nox_isi T _ _)
  unfold isi at p1
  have fin : ∀ (t : String), t ∈ ["NoneType", "bool", "int", "str", "tuple", "list", "dict"] → tyD h1 d = some t → TyX X.K H1 y (.type t) → ∃ (x c : V) (t u : Value) (b : Bool), [y, V.ty T] = [x, c] ∧ ClsV c u ∧ TyX X.K H1 x t ∧ PySem.W.kitOne X.K t u = some b ∧ Q (.bl b) H1 := fun t ht e ty => by
    rw [e] at p1
    exact ⟨y, .ty T, .type t, .type T, isTy t T, rfl, .ty T, ty, kit_ty (kit_is ht hT), p1 _ _ _ _ .refl s1 (.bl _)⟩
  cases r1 with
  | non => exact fin _ (by decide) rfl (.base .non)
  | bl b => exact fin _ (by decide) rfl (.base (.bl b))
  | int b => exact fin _ (by decide) rfl (.base (.int b))
  | str b => exact fin _ (by decide) rfl (.base (.str b))
  | tup hq rl => exact fin _ (by decide) rfl (.base (.tup (s1.sub _ _ hq)))
  | lst hq rl => exact fin _ (by decide) rfl (.base (.lst (s1.sub _ _ hq)))
  | scr hq => exact False.elim p1
  | exn0 _ _ => exact False.elim p1
  | exn1 _ _ _ _ => exact False.elim p1
  | @ref n a en =>
    unfold tyD at p1
    cases q : h1[n]? with
    | none => simp [q] at p1; exact False.elim p1
    | some o =>
      cases o with
      | lst l =>
        obtain ⟨vs, hv, rl⟩ := s1.obj n a _ en q
        exact fin "list" (by decide) (by unfold tyD; simp [q]) (.base (.lst hv))
      | dct l =>
        obtain ⟨vs, hv, rl⟩ := s1.obj n a _ en q
        exact fin "dict" (by decide) (by unfold tyD; simp [q]) (.base (.dK hv))
      | _ => simp [q] at p1; exact False.elim p1
def rDM (C : Cn) (g : MM) : V → List V → Hp → VK → Prop := fun x xs H Q => ∃ Z m h d ds, HSim C Z m h H ∧ Rep C Z m d x ∧ RepL C Z m ds xs ∧ Post C (Rep C) (fun _ _ _ => False) (g d ds h) Z m H Q
theorem tyV_rc {T : String} {Z : Hp} {m : List Addr} {h : Hm} {H : Hp} {d : D} {x : V} (s : HSim C Z m h H) (r : Rep C Z m d x) (e : isRc T d h = true) : tyV X.K T x H := by
  have ls : ∀ l, lsOf h d = some l → T = "list" → tyV X.K T x H := fun l hl ht => by
    obtain ⟨a, vs, rfl, hv, _⟩ := ls_at s r hl
    exact .inl ⟨ht, vs, .inl (.inl hv)⟩
  cases d with
  | str z => cases r; exact beq_iff_eq.mp e
  | _ =>
    simp only [isRc, Bool.and_eq_true, beq_iff_eq] at e
    obtain ⟨l, hl⟩ := Option.isSome_iff_exists.mp e.1
    exact ls l hl e.2
theorem de_bm {T id : String} {name : Str} {o a : Expr} {es : List Expr} {apos cpos : Pos} {g : MM} {fo : EM} {fa : AM} (pa : PlainAttrs T) (slot : Slot T name id) (hty : typeOf (.builtin id) = pure (.type "method_descriptor")) (hm : MtR X id (rDM C g)) (hx : ∀ d a h, NoX (g d a h)) (ho : PE X o (denE C E fo)) (ha : PA X (a :: es) (denA C E fa))
    (hbase : attributeBase o name X.env (eval o X.env) = eval o X.env := by rfl)
    (hfew : ((backTo cpos (starEach (a :: es) X.env)).all (fun x => !x.1) && (backToKw cpos (keywordEach [] X.env)).all (fun x => x.1.isSome)
      && decide ((a :: es).length + ([] : List Keyword).length + (if ([] : List Keyword).isEmpty then 0 else 1) < 30)) = true := by rfl)
    (hline : (apos.endLine == cpos.line) = true := by rfl) (hs : starEach (a :: es) X.env = (false, eval a X.env) :: starEach es X.env := by rfl) (hplain : (backTo cpos (starEach es X.env)).any (·.1) = false := by rfl) :
    PE X (.Call (.Attribute o name apos) (a :: es) [] cpos) (denE C E (eM T g fo fa)) := by
  refine pe_imp (pe_bm pa slot hty hm ho ha hbase hfew hline hs hplain) fun σ H Q ⟨Z, m, v, h, s, e, p⟩ => ?_
  refine ⟨Z, m, v, h, s, e, (p.bind (rep1 := Rep C)).imp fun y H1 ⟨Z1, m1, d, h1, x1, s1, r1, p1⟩ => ?_⟩
  split at p1
  · rename_i hr
    refine ⟨tyV_rc s1 r1 hr, Z1, m1, v, h1, s1, e.mono x1, (p1.bind (rep1 := RepL C)).imp fun ys H2 ⟨Z2, m2, ds, h2, x2, s2, r2, p2⟩ => ?_⟩
    exact ⟨Z2, m2, h2, d, ds, s2, r1.mono x2.sub x2.pre, r2, p2.nox (hx _ _ _)⟩
  · exact False.elim p1
theorem de_bm0 {T id : String} {name : Str} {o : Expr} {apos cpos : Pos} {g : MM} {fo : EM} (pa : PlainAttrs T) (slot : Slot T name id) (hty : typeOf (.builtin id) = pure (.type "method_descriptor")) (hm : MtR X id (rDM C g)) (hx : ∀ d a h, NoX (g d a h)) (ho : PE X o (denE C E fo))
    (hbase : attributeBase o name X.env (eval o X.env) = eval o X.env := by rfl) (hline : (apos.endLine == cpos.line) = true := by rfl) : PE X (.Call (.Attribute o name apos) [] [] cpos) (denE C E (eM T g fo aN)) := by
  refine pe_imp (pe_bm0 pa slot hty hm ho hbase hline) fun σ H Q ⟨Z, m, v, h, s, e, p⟩ => ?_
  refine ⟨Z, m, v, h, s, e, (p.bind (rep1 := Rep C)).imp fun y H1 ⟨Z1, m1, d, h1, x1, s1, r1, p1⟩ => ?_⟩
  split at p1
  · rename_i hr
    exact ⟨tyV_rc s1 r1 hr, Z1, m1, h1, d, [], s1, r1, .nil, Post.nox p1 (hx _ _ _)⟩
  · exact False.elim p1
theorem dm_append : MtR X "list.append" (rDM C mAppend) := by
  intro pins s σ H x xs v us Q I rx rs ⟨Z, m, h, d, ds, sm, rd, rds, p⟩
  unfold mAppend at p
  split at p
  · rename_i n y
    cases rd with
    | @ref _ a en =>
      obtain ⟨z, rfl, rz⟩ := repL_one rds
      split at p
      · rename_i l hl
        split at p
        · rename_i hlen
          obtain ⟨vs, hv, rl⟩ := sm.obj n a _ en hl
          refine mt_append pins s σ H _ _ v us Q I rx rs ⟨a, vs, z, rfl, rfl, hv, by rw [sizeLine_eq, ← rl.length]; exact hlen, ?_⟩
          exact p _ _ _ _ (Ext.put sm _ en (nfz hv)) (sm.put en hl (fun z => nomatch z) fun H' e => ⟨_, e, rl.append (.one rz)⟩) .non
        · exact False.elim p
      · exact False.elim p
  · exact False.elim p
theorem dm_extend : MtR X "list.extend" (rDM C mExtend) := by
  intro pins s σ H x xs v us Q I rx rs ⟨Z, m, h, d, ds, sm, rd, rds, p⟩
  unfold mExtend at p
  split at p
  · rename_i n y
    cases rd with
    | @ref _ a en =>
      obtain ⟨z, rfl, rz⟩ := repL_one rds
      split at p
      · rename_i l k hl hk
        split at p
        · rename_i hlen
          obtain ⟨vs, hv, rl⟩ := sm.obj n a _ en hl
          obtain ⟨b, ws, rfl, hw, rk⟩ := ls_at sm rz hk
          refine mt_extend pins s σ H _ _ v us Q I rx rs ⟨a, b, vs, ws, rfl, rfl, hv, hw, by rw [sizeLine_eq, ← rl.length, ← rk.length]; exact hlen, ?_⟩
          exact p _ _ _ _ (Ext.put sm _ en (nfz hv)) (sm.put en hl (fun z => nomatch z) fun H' e => ⟨_, e, rl.append rk⟩) .non
        · exact False.elim p
      · exact False.elim p
  · exact False.elim p
theorem dm_pop : MtR X "list.pop" (rDM C mPop) := by
  intro pins s σ H x xs v us Q I rx rs ⟨Z, m, h, d, ds, sm, rd, rds, p⟩
  unfold mPop at p
  split at p
  · rename_i n
    cases rd with
    | @ref _ a en =>
      cases rds
      split at p
      · rename_i l hl
        split at p
        · rename_i y hy
          obtain ⟨vs, hv, rl⟩ := sm.obj n a _ en hl
          obtain ⟨w, hw, rw'⟩ := rl.get hy
          rw [rl.length] at hw
          refine mt_pop pins s σ H _ _ v us Q I rx rs ⟨a, vs, w, rfl, rfl, hv, hw, ?_⟩
          refine p _ _ _ _ (Ext.put sm _ en (nfz hv)) (sm.put en hl (fun z => nomatch z) fun H' e => ⟨_, e, ?_⟩) rw'
          rw [List.dropLast_eq_take, List.dropLast_eq_take, rl.length]
          exact rl.take _
        · exact False.elim p
      · exact False.elim p
  · rename_i n
    cases rd with
    | @ref _ a en =>
      obtain ⟨z, rfl, rz⟩ := repL_one rds
      cases rz
      split at p
      · rename_i y l hl
        obtain ⟨vs, hv, rl⟩ := sm.obj n a _ en hl
        cases rl with
        | cons ry rl =>
          refine mt_popAt pins s σ H _ _ v us Q I rx rs ⟨a, _, 0, 0, _, rfl, rfl, hv, by decide, by decide, ?_, rfl, ?_⟩
          · rw [seqIndex_of (by decide) (by simp)]; rfl
          · exact p _ _ _ _ (Ext.put sm _ en (nfz hv)) (sm.put en hl (fun z => nomatch z) fun H' e => ⟨_, e, rl⟩) ry
      · exact False.elim p
  · exact False.elim p
theorem dm_insert : MtR X "list.insert" (rDM C mInsert) := by
  intro pins s σ H x xs v us Q I rx rs ⟨Z, m, h, d, ds, sm, rd, rds, p⟩
  unfold mInsert at p
  split at p
  · rename_i n i y
    cases rd with
    | @ref _ a en =>
      cases rds with
      | cons ri rds =>
        obtain ⟨z, rfl, rz⟩ := repL_one rds
        cases ri
        split at p
        · rename_i l hl
          split at p
          · rename_i hlen
            obtain ⟨vs, hv, rl⟩ := sm.obj n a _ en hl
            refine mt_insert pins s σ H _ _ v us Q I rx rs ⟨a, vs, i, z, rfl, rfl, hv, by rw [sizeLine_eq, ← rl.length]; exact hlen.1, hlen.2.1, by omega, ?_⟩
            exact p _ _ _ _ (Ext.put sm _ en (nfz hv)) (sm.put en hl (fun z => nomatch z) fun H' e => ⟨_, e, ((rl.take _).append (.one rz)).append (rl.drop _)⟩) .non
          · exact False.elim p
        · exact False.elim p
  · exact False.elim p
theorem dm_join : MtR X "str.join" (rDM C mJoin) := by
  intro pins s σ H x xs v us Q I rx rs ⟨Z, m, h, d, ds, sm, rd, rds, p⟩
  unfold mJoin at p
  split at p
  · rename_i a y
    cases rd
    obtain ⟨z, rfl, rz⟩ := repL_one rds
    split at p
    · rename_i l hl
      split at p
      · rename_i ys hys
        split at p
        · rename_i hlen
          have e := strsOf_eq hys
          subst e
          have fin : ∀ q : Addr, z = .ref q → (SqL X.K H q (ys.map V.str) ∨ SqT X.K H q (ys.map V.str)) → wpAny (model X.prog X.w) X.A (call (.builtin "str.join") (v :: us)) (EP X pins σ Q) X.xe s := fun q e hq => by
            subst e
            exact mt_join pins s σ H _ _ v us Q I rx rs ⟨a, q, ys, rfl, rfl, hq, hlen, by rw [show Txt.join a ys = Str.join a ys from TL.join_eq a ys]; exact p _ _ _ _ .refl sm (.str _)⟩
          cases rz with
          | tup hq rl => cases hl; cases rl.strs; exact fin _ rfl (.inr (.inl (.inl (sm.sub _ _ hq))))
          | lst hq rl => cases hl; cases rl.strs; exact fin _ rfl (.inl (.inl (.inl (sm.sub _ _ hq))))
          | @ref n b en =>
            obtain ⟨b', ws, e1, hw, rk⟩ := ls_at sm (.ref en) (show lsOf h (.ref n) = some _ from hl)
            cases e1
            cases rk.strs
            exact fin _ rfl (.inl (.inl (.inl hw)))
          | _ => cases hl
        · exact False.elim p
      · exact False.elim p
    · exact False.elim p
  · exact False.elim p
end
end Dn
set_option Elab.async false
set_option linter.all false
set_option maxRecDepth 100000
set_option maxHeartbeats 4000000
namespace Dn
open PySem PySem.Spec PyProof.Rows L2
/-- a def as it stands behind the top, with what it does -/
structure Cal (P : Program) (w : World) (K : PySem.W.Frag) (mg : Str → Option Value) (base : Heap) (C : Cn) (CX : CXT) (k : Nat) (x : Str) (ps : List Str) (fm : FM) : Prop where
  ok : ∃ (f : Addr) (fd : FuncData), FnOk P w K mg base CX k f fd ps (spD C fm) ∧ mg x = some (.ref f) ∧ PySem.W.keepIn K (.ref f) = true ∧ Binds K fd ps []
theorem Cal.tr {P : Program} {w : World} {K : PySem.W.Frag} {mg : Str → Option Value} {base : Heap} {C : Cn} {CX : CXT} {k : Nat} {x : Str} {ps : List Str} {fm : FM} (c : Cal P w K mg base C CX k x ps fm) : Cal P w K mg base C CX k x ps (tr fm) := by
  obtain ⟨f, fd, a, b, c, d⟩ := c.ok
  exact ⟨f, fd, fn_tr a, b, c, d⟩
section
variable {X : Cx} {C : Cn} {E : WX}
theorem de_callC {CX : CXT} {k j : Nat} {ps : List Str} {fm : FM} {x : Str} {p pos : Pos} {a : Expr} {es : List Expr} {fa : AM} (c : Cal X.prog X.w X.K X.mg X.base C CX k x ps fm) (hr : Room j X.A) (hj : k ≤ j) (hg : Gl X x)
    (hx : ∀ σ, PassesAt CX X σ (fun c d H => E c d σ H)) (ha : PA X (a :: es) (denA C E fa)) (hdb : (x == ("__debug__" : Str)) = false := by decide) (he : starEach (a :: es) X.env = (false, eval a X.env) :: starEach es X.env := by rfl) (hpl : (backTo pos (starEach es X.env)).any (·.1) = false := by rfl) :
    PE X (.Call (.Name x p) (a :: es) [] pos) (denE C E (eF fm fa)) := by
  obtain ⟨f, fd, F, hm, hk, hb⟩ := c.ok
  exact de_call F (hr.mono hj) hg hm hk hb hx ha hdb he hpl
theorem de_gI {x : Str} {i : Int} {pos : Pos} (hg : Gl X x) (hm : ∃ t, X.mg x = some (.int i t)) (hd : (x == ("__debug__" : Str)) = false := by decide) : PE X (.Name x pos) (denE C E (eC (.int i))) := by
  obtain ⟨t, h⟩ := hm
  exact de_globI hg h hd
theorem de_gS {x : Str} {i : Str} {pos : Pos} (hg : Gl X x) (hm : ∃ t, X.mg x = some (.str i t)) (hd : (x == ("__debug__" : Str)) = false := by decide) : PE X (.Name x pos) (denE C E (eC (.str i))) := by
  obtain ⟨t, h⟩ := hm
  exact de_globS hg h hd
end
theorem bt_len : bootBuiltins "len" = some (.builtin "len") := by decide +kernel
theorem bt_max : bootBuiltins "max" = some (.builtin "max") := by decide +kernel
theorem bt_min : bootBuiltins "min" = some (.builtin "min") := by decide +kernel
theorem bt_sum : bootBuiltins "sum" = some (.builtin "sum") := by decide +kernel
theorem bt_all : bootBuiltins "all" = some (.builtin "all") := by decide +kernel
theorem bt_isinstance : bootBuiltins "isinstance" = some (.builtin "isinstance") := by decide +kernel
theorem bt_sorted : bootBuiltins "sorted" = some (.builtin "sorted") := by decide +kernel
theorem bt_int : bootBuiltins "int" = some (.type "int") := by decide +kernel
theorem bt_bool : bootBuiltins "bool" = some (.type "bool") := by decide +kernel
theorem bt_str : bootBuiltins "str" = some (.type "str") := by decide +kernel
theorem bt_list : bootBuiltins "list" = some (.type "list") := by decide +kernel
theorem bt_tuple : bootBuiltins "tuple" = some (.type "tuple") := by decide +kernel
theorem bt_set : bootBuiltins "set" = some (.type "set") := by decide +kernel
/-- the law's: a list of at most 63 ints is handed in, True comes out -/
def spLaw (K : PySem.W.Frag) : Sp := fun vs H Q _ => ∃ (a : Addr) (ns : List Int), vs = [.ref a] ∧ SqL K H a (ns.map V.int) ∧ ns.length ≤ 63 ∧ ∀ H', Q (.bl true) H'
/-- the same where tables of code objects are known -/
def spLawT (K : PySem.W.Frag) (T : List (Addr × Str)) : Sp := fun vs H Q _ => ∃ (a : Addr) (ns : List Int), vs = [.ref a] ∧ SqL K H a (ns.map V.int) ∧ ns.length ≤ 63 ∧ LamX.Tabs T H ∧ ∀ H', Q (.bl true) H'
theorem law_endT {P : Program} {w : World} {K : PySem.W.Frag} {mg : Str → Option Value} {base : Heap} {C : Cn} {CX : CXT} {k : Nat} {f : Addr} {fd : FuncData} {ps : List Str} {fm : FM} (hK : C.K = K) (F : FnOk P w K mg base CX k f fd ps (spD C fm))
    (h : ∀ ns : List Int, ns.length ≤ 63 → ∃ h1, fm [.scr ns] [] = .ok (.bl true) h1) : FnOk P w K mg base CX k f fd ps (spLawT K C.T) := by
  refine F.imp fun vs H Q E ⟨a, ns, e, hq, hl, tb, q⟩ => ?_
  subst e
  have fin : ∀ Z : Hp, (∀ b o, Z b = some o → H b = some o) → (∀ b ps, Z b ≠ some (.tbl ps)) → SqL C.K Z a (ns.map V.int) → spD C fm [.ref a] H Q E := fun Z hz hn hs => by
    refine ⟨Z, [], [], [.scr ns], ⟨hz, rfl, List.nodup_nil, fun n a o e => by simp at e, fun n a o e => by simp at e, tb, hn⟩, .cons (.scr hs) .nil, ?_⟩
    obtain ⟨h1, e1⟩ := h ns hl
    rw [e1]
    intro Z' m' H' v _ _ r
    cases r
    exact q H'
  have one : ∀ o : HO, H a = some o → (∀ ps, o ≠ .tbl ps) → (∀ b u, (if b = a then some o else none) = some u → H b = some u) ∧ ∀ b ps, (if b = a then some o else none) ≠ some (HO.tbl ps) := fun o e n => by
    refine ⟨fun b u z => ?_, fun b ps z => ?_⟩
    · by_cases hb : b = a
      · rw [if_pos hb] at z; rw [hb, e]; exact z
      · rw [if_neg hb] at z; cases z
    · by_cases hb : b = a
      · rw [if_pos hb] at z; exact n ps (Option.some.inj z)
      · rw [if_neg hb] at z; cases z
  rcases hq with (hq | ⟨o, hq⟩) | hq
  · obtain ⟨z1, z2⟩ := one _ hq fun _ z => by cases z
    exact fin (fun b => if b = a then some (.lst (ns.map V.int)) else none) z1 z2 (.inl (.inl (by show (if a = a then _ else _) = _; rw [if_pos rfl])))
  · obtain ⟨z1, z2⟩ := one _ hq fun _ z => by cases z
    exact fin (fun b => if b = a then some (.frz o (.lst (ns.map V.int))) else none) z1 z2 (.inl (.inr ⟨o, by show (if a = a then _ else _) = _; rw [if_pos rfl]⟩))
  · exact fin (fun _ => none) (fun b o z => nomatch z) (fun b ps z => nomatch z) (.inr (by rw [hK]; exact hq))
theorem law_end {P : Program} {w : World} {K : PySem.W.Frag} {mg : Str → Option Value} {base : Heap} {C : Cn} {CX : CXT} {k : Nat} {f : Addr} {fd : FuncData} {ps : List Str} {fm : FM} (hK : C.K = K) (hT : C.T = []) (F : FnOk P w K mg base CX k f fd ps (spD C fm))
    (h : ∀ ns : List Int, ns.length ≤ 63 → ∃ h1, fm [.scr ns] [] = .ok (.bl true) h1) : FnOk P w K mg base CX k f fd ps (spLaw K) :=
  (law_endT hK F h).imp fun vs H Q E ⟨a, ns, e, hq, hl, q⟩ => ⟨a, ns, e, hq, hl, by rw [hT]; exact fun p hp => (by simp at hp), q⟩
end Dn
set_option Elab.async false
set_option linter.all false
set_option maxRecDepth 100000
set_option maxHeartbeats 4000000
namespace Dn
open PySem PySem.Spec PyProof.Rows L2
variable {X : Cx} {C : Cn} {E : WX} {tg : Expr}
def enumL (l : List D) : List D := l.mapIdx fun i x => .tup [.int (i : Int), x]
def wEnumOf (d : D) (h : Hm) : R Wk := match d with
  | .lst l => .ok ⟨enumL l, fun _ => true⟩ h
  | .ref n => match h[n]? with
    | some (.lst l) => .ok ⟨enumL l, fun h' => match h'[n]? with | some o => HD.beq o (.lst l) | none => false⟩ h
    | _ => .err
  | _ => .err
theorem wk_enumAt {Z' H : Hp} {m' : List Addr} {h : Hm} {a : Addr} {vs : List V} {l : List D} (s : HSim C Z' m' h H) (q : SqL X.K H a vs) (r' : RepL C Z' m' l vs) (i : Nat) :
    (i < (enumL l).length → (Ite X.K a).go i H ∧ ∀ x H', (Ite X.K a).yld i H x H' → ∃ d Z1, (enumL l)[i]? = some d ∧ Ext Z' m' H Z1 m' H' ∧ HSim C Z1 m' h H' ∧ Rep C Z1 m' d x) ∧ ((enumL l).length ≤ i → (Ite X.K a).stop i H) := by
  have hl := r'.length
  have hle : (enumL l).length = l.length := by simp [enumL]
  refine ⟨fun hi => ⟨⟨vs, vs[i]'(by rw [← hl, ← hle]; exact hi), q, List.getElem?_eq_getElem _⟩, fun x H' y => ?_⟩, fun hi => ⟨vs, q, by rw [← hl, ← hle]; exact hi⟩⟩
  obtain ⟨T, z, rfl, hT, rfl, y⟩ := y
  obtain ⟨d, e, rd⟩ := r'.getV (y vs q)
  refine ⟨.tup [.int (i : Int), d], upd Z' T (.tup [.int (i : Nat), z]), by simp [enumL, e], Ext.lay s hT _, s.lay hT _, .tup upd_same ?_⟩
  exact .cons (.int _) (.cons (rd.mono (Ext.lay s hT _).sub (List.prefix_refl _)) .nil)
theorem wk_enum {H0 : Hp} {Z H : Hp} {m : List Addr} {a : Addr} {vs : List V} {l : List D} (hK : C.K = X.K) (hq : SqL C.K Z a vs) (r : RepL C Z m l vs) : WkOk C (Ite X.K a) ⟨enumL l, fun _ => true⟩ Z m H0 := by
  intro i Z' m' h H hz hm _ s _
  exact wk_enumAt s (hK ▸ sqL_mono s.sub (sqL_mono hz hq)) (r.mono hz hm) i
theorem wk_enumR {H0 : Hp} {Z H : Hp} {m : List Addr} {n : Nat} {a : Addr} {l : List D} (e : m[n]? = some a) : WkOk C (Ite X.K a) ⟨enumL l, fun h' => match h'[n]? with | some o => HD.beq o (.lst l) | none => false⟩ Z m H0 := by
  intro i Z' m' h H hz hm _ s hc
  have hh : h[n]? = some (.lst l) := by
    cases q : h[n]? with
    | none => simp [q] at hc
    | some o => simp [q] at hc; rw [HD.beq_eq _ _ hc]
  obtain ⟨vs, hv, r⟩ := s.obj n a _ (pre_get hm e) hh
  exact wk_enumAt s (.inl (.inl hv)) r i
/-- a statement that is never reached -/
def sErr : SM := fun _ _ => .err
end Dn
set_option Elab.async false
set_option linter.all false
set_option maxRecDepth 100000
set_option maxHeartbeats 4000000
namespace Dn
open PySem PySem.Spec PyProof.Rows L2
/-- whether an exception of class c is one of T -/
def xIs (c T : Str) : Bool := c == T || T == "BookError" || T == "ValueError"
/-- raise of a class of the program -/
def sRs0 (c : Str) : SM := fun v h => .exc (.exn c []) v h
def sRs1 (c f : Str) (e : EM) : SM := fun v h => match e v h with
  | .ok d h1 => .exc (.exn c [(f, d)]) v h1
  | .exc x h1 => .exc x v h1
  | .err => .err
def Fl.nox : Fl → Fl
  | .exc _ _ _ => .err
  | o => o
/-- try: b, except T: k -/
def sTry (b : SM) (t : Str → Bool) (k : D → SM) : SM := fun v h => match b v h with
  | .exc (.exn c fs) v1 h1 => if t c then (k (.exn c fs) v1 h1).nox else .exc (.exn c fs) v1 h1
  | .exc _ _ _ => .err
  | o => o
def oexB (K : PySem.W.Frag) (C : Addr) : Bool := match K.lookup C with
  | some ⟨.type "type", _, .cls cd, sl⟩ => (match cd.mro, sl.toList with
    | .ref C' :: bm, [_, _, _, _, some (.builtin n), _] => C' == C && n == "ValueError.__new__" && !cd.hasDel && cd.hasDict && PySem.HandSPX.refsVE bm
    | _, _ => false)
  | _ => false
theorem oexB_ok {K : PySem.W.Frag} {C : Addr} (q : oexB K C = true) : ∃ nm q N bs bm sn sub ab col dd k0 k1 k2 k3 k5, K.lookup C = some (excClassObj nm q C N bs bm true sn sub ab col dd k0 k1 k2 k3 k5 "ValueError.__new__") ∧ PySem.HandSPX.refsVE bm = true := by
  unfold oexB at q
  split at q
  · rename_i dd cd sl ho
    split at q
    · rename_i C' bm k0 k1 k2 k3 n k5 hm hs
      simp only [Bool.and_eq_true, beq_iff_eq, Bool.not_eq_true'] at q
      obtain ⟨⟨⟨⟨e1, e2⟩, hdel⟩, hdc⟩, ht⟩ := q
      subst e1 e2
      obtain ⟨nm, bs, mro, ns, qn, hd, sn, sub, ab, col, del⟩ := cd
      dsimp only at hm hdel hdc
      subst hm hdel hdc
      have hsl : sl = #[k0, k1, k2, k3, some (.builtin "ValueError.__new__"), k5] := by
        obtain ⟨l⟩ := sl
        simp only at hs
        rw [hs]
      subst hsl
      exact ⟨nm, qn, ns, bs, bm, sn, sub, ab, col, dd, k0, k1, k2, k3, k5, ho, ht⟩
    · cases q
  · cases q
def xcB (K : PySem.W.Frag) (C : Addr) : Bool := oexB K C && (decide (PySem.W.findIn K (.ref C) "__setattr__" = some (some (.builtin "object.__setattr__"))) && (decide (PySem.W.subIn K (.ref C) (.type "BaseException") = some true) && (decide (PySem.W.typeIn K (.ref C) = some (.type "type")) && (PySem.W.keepIn K (.ref C) &&
  (decide (PySem.W.findIn K (.ref C) "__getattribute__" = some (some (.builtin "BaseException.__getattribute__"))) && (decide (PySem.W.findIn K (.ref C) "__getattr__" = some none) && (PySem.W.hasDictIn K C && (decide (PySem.W.findIn K (.ref C) "__class__" = some (some (.builtin "object.__class__"))) &&
  (decide (PySem.W.specialIn K (.builtin "object.__class__") "__get__" = some (some (.builtin "getset_descriptor.__get__"))) && (decide (PySem.W.takesIn K (.builtin "object.__class__") = some true) && decide (PySem.W.mroIn K C (.type "object") = some true)))))))))))
structure XCls (K : PySem.W.Frag) (C : Addr) : Prop where
  ox : OexC K C
  ex : ExcC K C
theorem xcB_ok {K : PySem.W.Frag} {C : Addr} (q : xcB K C = true) : XCls K C := by
  simp only [xcB, Bool.and_eq_true, decide_eq_true_eq] at q
  obtain ⟨h0, h1, h2, h3, h4, h5, h6, h7, h8, h9, h10, h11⟩ := q
  exact ⟨⟨oexB_ok h0, h1, h2, h3, h4⟩, ⟨h5, h6, h2, h7, h8, h9, h10, h11⟩⟩
/-- a class's own __init__(self, f): self.f = f -/
def spIni (A : Addr) (f : Str) : Sp := fun vs H Q _ => ∃ (a : Addr) (y : V), vs = [.ref a, y] ∧ H a = some (exo a A none) ∧ ∀ dx, H dx = none → dx ≠ a → Q .non (upd (upd H dx (exd dx [(f, y)])) a (exo a A (some dx)))
/-- B.__init__(self, ..), B a class of the program that has ValueError's -/
structure BIni (K : PySem.W.Frag) (mg : Str → Option Value) (B : Str) (A : Addr) : Prop where
  gl : mg B = some (.ref A)
  sp : PySem.W.specialIn K (.ref A) "__getattribute__" = some (some (.builtin "type.__getattribute__"))
  rd : PySem.W.readsIn K A (.type "type") = true
  fc : PySem.W.findCls K (.ref A) (.type "type") "__init__" = some (.val (.builtin "ValueError.__init__"))
section
variable {X : Cx} {C : Cn} {E : WX}
theorem pe_bini {B : Str} {BA : Addr} {e : Expr} {es : List Expr} {ta : TA} {p1 p2 pos : Pos} {pl : Sem Bool} (hg : Gl X B) (T : BIni X.K X.mg B BA) (ha : PA X (e :: es) ta) (hd : (B == ("__debug__" : Str)) = false := by decide)
    (hc : eval (.Call (.Attribute (.Name B p1) "__init__" p2) (e :: es) [] pos) X.env = (do
      let ov ← eval (.Name B p1) X.env
      standAt p2.atName
      let (f, first) ← holding [ov] (getMethod ov "__init__" pl)
      callWith pos f first (backTo pos (starEach (e :: es) X.env)) (backToKw pos (keywordEach [] X.env))) := by rfl)
    (he : starEach (e :: es) X.env = (false, eval e X.env) :: starEach es X.env := by rfl) (hpl : (backTo pos (starEach es X.env)).any (·.1) = false := by rfl) :
    PE X (.Call (.Attribute (.Name B p1) "__init__" p2) (e :: es) [] pos) (tVeI X.K ta) := by
  refine ⟨fun pins s σ H Q I h => ?_⟩
  refine PySem.W.methodCall_KW (ld_glob I hg T.gl ?_ hd) hc
  refine PySem.W.method_cls I.kIn T.sp (PySem.W.cls_value I.kIn T.rd T.fc rfl ?_)
  show wpAny _ _ (callWith pos (Value.builtin "ValueError.__init__") [] (backTo pos (starEach (e :: es) X.env)) []) _ _ _
  refine PyProof.Rows.callWith_method1 (thn (ha.run pos pins _ σ H _ (I.tok _) h) fun us s1 ⟨vs, H1, I1, r1, a, A, ws, ev, hl, T, ea, q⟩ => ?_) he hpl
  subst ev
  cases r1 with
  | @cons _ u0 _ ur ra rw' =>
    obtain rfl : u0 = Value.ref a := ra
    have hlen : ur.length ≤ sizeLine := by
      rw [← Paired.length rw', sizeLine_eq]
      omega
    exact oinit_ok T I1 ea hlen fun s' J => ⟨.non, H1, J, rfl, q⟩
/-- what such an __init__ does -/
theorem ini_reads {K : PySem.W.Frag} {A : Addr} {f m : Str} {N : List Str} (T : OexC K A) (hno : PySem.W.findIn K (.ref A) f = some none) (hN : N.length = 2) {vs : List V} {H : Hp} {Q : VK} {Ex : XK} (h : spIni A f vs H Q Ex) :
    tSeq (tDrop (tVeI K (tCons (tVar 0) (tCons (tC (.str m)) tNil)))) (tOst K f (tVar 0) (tVar 1)) { nx := fun _ H' => Q .non H', rt := Q } (L2.start N vs) H := by
  obtain ⟨a, y, rfl, ha, q⟩ := h
  have e : L2.start N [.ref a, y] = [some (.ref a), some y] := by unfold L2.start; rw [hN]; rfl
  rw [e]
  exact ⟨_, rfl, a, A, [.str m], rfl, (show 1 ≤ 1000 by omega), T, ha, _, rfl, _, rfl, a, A, rfl, T, hno, .inl ⟨ha, q⟩⟩
theorem ds_rs0 {c m : Str} {A : Addr} {j : Nat} {p p2 pos pos' : Pos} (hc : X.calm = true) (tk : Takes X E) (cl : C.cls c = some A) (gC : X.mg c = some (.ref A)) (T : XCls X.K A) (xP : PySem.W.excIn X.K A PySem.HandSPX.veTail "ValueError.__new__" = true) (hg : Gl X c) (hd : (c == ("__debug__" : Str)) = false := by decide) :
    PS X (.Raise (some (.Call (.Name c p) [.Constant (.str m) j p2] [] pos)) none pos') (denS C E (sRs0 c)) :=
  ps_imp (ps_raise hc tk (pmk_own PySem.F.excBase_ValueError xP gC T.ox.kC (raises_own T.ox.exC T.ox.tyC) hg hd)) fun K σ H ⟨Z, m, v, h, s, e, p⟩ => p _ _ _ σ _ _ .refl s e ⟨A, cl, rfl, .inl ⟨rfl, rfl⟩⟩
theorem ds_rs1 {c f : Str} {A fI : Addr} {k : Nat} {fd : FuncData} {ps : List Str} {a : Expr} {fa : EM} {p pos pos' : Pos} (hc : X.calm = true) (tk : Takes X E) (cl : C.cls c = some A) (gC : X.mg c = some (.ref A)) (T : XCls X.K A) (iC : PySem.W.findIn X.K (.ref A) "__init__" = some (some (.ref fI))) (tI : PySem.W.typeIn X.K (.ref fI) = some (.type "function"))
    (F1 : FnOk X.prog X.w X.K X.mg X.base CX0 k fI fd ps (spIni A f)) (hb : Binds X.K fd ps []) (hr : Room (k + 1) X.A) (hg : Gl X c) (ha : PE X a (denE C E fa)) (hd : (c == ("__debug__" : Str)) = false := by decide)
    (he : starEach [a] X.env = [(false, eval a X.env)] := by rfl) : PS X (.Raise (some (.Call (.Name c p) [a] [] pos)) none pos') (denS C E (sRs1 c f fa)) := by
  refine ps_imp (ps_raise hc tk (pmk_oex T.ox iC tI F1 hr hb .nil pass0 hg gC (pa_cons ha pa_nil he) hd he)) fun K σ H ⟨Z, m, v, h, s, e, p⟩ => ?_
  refine ⟨Z, m, v, h, s, e, (Post.stm (k := fun d h1 => .exc (.exn c [(f, d)]) v h1) e p).imp fun x H1 ⟨Z1, m1, d, h1, x1, s1, r1, p1⟩ => ⟨(show 1 ≤ 1000 by omega), fun b hb1 => ⟨b, x, rfl, upd_same, fun dx hdx hne => ⟨rfl, dx, [(f, x)], upd_same, ?_, ?_, ?_⟩⟩⟩⟩
  · rw [upd_ne hne, upd_same]
  · rw [upd_ne hne] at hdx; exact hdx
  · rw [upd_ne hne] at hdx
    have eH : upd (del (upd (upd (upd H1 b (exo b A none)) dx (exd dx [(f, x)])) b (exo b A (some dx))) b) dx (.xd [(f, x)]) = upd H1 dx (.xd [(f, x)]) := by
      funext q
      by_cases h1 : q = dx
      · subst h1; rw [upd_same, upd_same]
      · rw [upd_ne h1, upd_ne h1]
        by_cases h2 : q = b
        · subst h2; rw [del_same, hb1]
        · rw [del_ne h2, upd_ne h2, upd_ne h1, upd_ne h2]
    rw [eH]
    have xz := Ext.lay s1 hdx (.xd [(f, x)])
    exact p1 _ _ _ σ _ _ xz (s1.lay hdx _) ((e.mono x1).mono xz) ⟨A, cl, rfl, .inr ⟨dx, [(f, x)], rfl, upd_same, .cons (r1.mono xz.sub (List.prefix_refl _)) .nil⟩⟩
end
/-- more is tracked -/
def Grow (H H' : Hp) : Prop := ∀ b o, H b = some o → H' b = some o
theorem exH_ok {P : Program} {w : World} {H : Hp} {h : Heap} {a A : Addr} {od : Option Addr} {oe : Obj} {vs : Array Value} (e : h.get? a = some oe) (z : Zc (.ref A) od oe) (d : oe.data = .fields vs) : ObjOk P w H h a (exH a A od) :=
  ⟨⟨oe, vs, e, z.1, z.2, d⟩, ⟨oe, e⟩, fun h1 h2 y k => let ⟨o, v, a1, a2, a3, a4⟩ := y; ⟨o, v, k _ a1, a2, a3, a4⟩⟩
section
variable {X : Cx} {pins : List (Addr × Obj)} {σ : L2.St} {H : Hp} {s : Shared}
/-- an object of ours that was not tracked -/
theorem inv_track {a : Addr} {o : HO} {oa : Obj} (I : Inv X pins σ H s) (ha : s.heap.get? a = some oa) (hn : H a = none) (hL : a ≠ X.env.locals) (hF : a ∉ X.fs) (hc : ∀ v, oa.data ≠ .cell v) (hp : ∀ p ∈ X.pn ++ pins, p.1 ≠ a) (h0 : ∀ u, X.s_0.heap.get? a = some u → X.H_0 a = none → a ∈ X.ex)
    (new : ObjOk X.prog X.w (upd H a o) s.heap a o) : Inv X pins σ (upd H a o) s := by
  refine ⟨I.ok, I.os, I.bare, ⟨I.base.keep, I.base.slot, fun b u e n hx => ?_, I.base.there, fun b xs e => ?_, fun b u xs e => ?_, fun b ps e => ?_⟩, I.loc, I.cell, ?_, fun x c e => ?_, fun p hp' => ?_, fun b u e => ?_, I.len⟩
  · by_cases hb : b = a
    · subst hb; exact absurd (h0 u e n) hx
    · rw [upd_ne hb]; exact I.base.free b u e n hx
  · have := I.base.tups b xs e
    rw [upd_ne (ne_of_none this hn)]; exact this
  · have := I.base.frzs b u xs e
    rw [upd_ne (ne_of_none this hn)]; exact this
  · obtain ⟨more, q⟩ := I.base.tbls b ps e
    exact ⟨more, by rw [upd_ne (ne_of_none q hn)]; exact q⟩
  · rw [upd_ne (Ne.symm hL)]; exact I.free
  · obtain ⟨v, oc, hoc, hd⟩ := I.cell x c e
    rw [upd_ne (fun z => by subst z; rw [ha] at hoc; cases hoc; exact hc _ hd)]
    exact I.freeC x c e
  · obtain ⟨a1, a2, a3⟩ := I.pin p hp'
    exact ⟨a1, by rw [upd_ne (hp p hp')]; exact a2, a3⟩
  · by_cases hb : b = a
    · subst hb; rw [upd_same] at e; cases e; exact new
    · rw [upd_ne hb] at e
      exact (I.hok b u e).stay (fun _ _ _ q => q) (fun c q => by rw [upd_ne (ne_of_none q hn)]; exact q) fun c xs q => by rw [upd_ne (ne_of_none q hn)]; exact q
end
/-- an except clause's test: what it gives of a class -/
def HTest (X : Cx) (te : Expr) (f : Value → Option Bool) : Prop := ∀ (a : Addr) (oe : Obj) (pins : List (Addr × Obj)) (σ : L2.St) (H : Hp) (s : Shared) (b : Bool), Inv X pins σ H s → s.heap.get? a = some oe → f oe.cls = some b → ∀ (A : Around) (Q : Value → Shared → Prop) (E : Value → Shared → Prop),
  (∀ c h' t', (∀ x o, s.heap.get? x = some o → h'.get? x = some o) → PySem.W.Looks (model X.prog X.w) h' (excMatches (.ref a) c) b → Q c { s with heap := h', toks := t' }) → wpAny (model X.prog X.w) A (eval te X.env) Q E s
/-- what a clause wishes -/
def wTry (f : Value → Option Bool) (nm : Option Nat) (ts : TS) (Wout : WX) (D : Ends) : WX := fun cls d σ H =>
  ∃ b A, cls = .ref A ∧ f cls = some b ∧ (b = true → ∀ a, H a = none → match nm with
    | none => ts D σ (upd H a (exH a A d))
    | some i => ts { nx := fun σ' H' => D.nx (σ'.set i none) H', rt := D.rt, bk := fun σ' H' => D.bk (σ'.set i none) H', ct := fun σ' H' => D.ct (σ'.set i none) H' } (σ.set i (some (.ref a))) (upd H a (exH a A d))) ∧ (b = false → Wout cls d σ H)
section
variable {X : Cx} {te : Expr} {f : Value → Option Bool} {body suite : List Stmt} {b₀ : Stmt} {pos pos' : Pos} {tb : WX → TS} {ts : TS} {Wout : WX}
/-- try: body, except te (as n): suite; in the suite the exception is an object like others -/
theorem ps_tryT {nm : Option (Str × Nat)} (hs : X.stack = X.env :: X.outer) (hf : X.env.frame = some X.env.locals) (ht : HTest X te f) (tk : Takes X Wout) (hnm : ∀ n i, nm = some (n, i) → X.N.Nodup ∧ X.N[i]? = some n ∧ X.env.kindOf n = some .local)
    (hb : ∀ (W : WX) (pn : List (Addr × Obj)) (xe : Value → Shared → Prop), Takes (X.tr pn xe) W → PassesOwn (model X.prog X.w) X.A X.env xe → PSs (X.tr pn xe) body (tb W))
    (hsu : ∀ (a : Addr) (pn : List (Addr × Obj)), PSs (X.suite a pn) (b₀ :: suite) ts) :
    PS X (.Try body [.ExceptHandler (some te) (nm.map (·.1)) (b₀ :: suite) pos'] [] [] pos) (fun D σ H => tb (wTry f (nm.map (·.2)) ts Wout D) D σ H) := by
  refine ⟨fun pins s σ H D I h => ?_⟩
  have ok := I.ok
  have hfr : X.A.frames = some (X.env :: X.outer) := by rw [ok.frames, hs]
  refine wpAny_Try_except ?_
  refine wpAny_mono ((hb (wTry f (nm.map (·.2)) ts Wout D) (X.pn ++ pins) (fun e s₁ => wpAny (model X.prog X.w) X.A (noteFrame e X.env) (fun _ s₂ => wpAny (model X.prog X.w) X.A (setFlight e none) (fun _ s₃ =>
    wpAny (model X.prog X.w) X.A (handleBy e X.env [.ExceptHandler (some te) (nm.map (·.1)) (b₀ :: suite) pos']) (SP X pins D) X.xe s₃) X.xe s₂) X.xe s₁) (fun u s' xx => ?_) PassesOwn.looking).run [] s σ H D (I.toTry _) h) (fun f s1 hsp => ?_) (fun e s1 he => he)
  · obtain ⟨a, B, sI, pins', σ', H', cls, d, rfl, J', nb, up, sky, na, os, ag, b, A, rfl, hb1, hyes, hno⟩ := xx
    have J : Inv X pins σ' H' sI := J'.ofTry ok
    have sky' : Sky B (X.env :: X.outer) a (Zc (.ref A) d) X.env.locals s'.heap := by rw [← hs]; exact sky
    show wpAny (model X.prog X.w) X.A (noteFrame (.ref a) X.env) _ _ _
    refine Sky.land Zc.steady hfr hf sky' fun h3 fl3 up3 => ?_
    have J3 : Inv X pins σ' H' { s' with heap := h3 } := J.landed nb fl3.1 (up.trans up3) os ag
    obtain ⟨oe3, vs3, he3, hz3, hd3⟩ := fl3.there
    have nfr : a ∉ frs (X.env :: X.outer) := fun hm => by
      obtain ⟨_, o', e', hnf⟩ := fl3.2.2.1.mem hm
      rw [he3] at e'; cases e'
      exact hnf _ hd3
    have nL : a ≠ X.env.locals := fun z => nfr (List.mem_filterMap.mpr ⟨X.env, List.mem_cons_self, by rw [hf, z]⟩)
    have nF : a ∉ X.fs := fun hm => by
      obtain ⟨e, he, q⟩ := List.mem_filterMap.mp hm
      exact nfr (List.mem_filterMap.mpr ⟨e, List.mem_cons_of_mem _ he, q⟩)
    have Ba : B.get? a = none := fl3.2.1
    have old : ∀ u, sI.heap.get? a = some u → False := fun u e => by
      have := nb a u e (by rw [hs]; exact nfr)
      rw [Ba] at this; cases this
    have hp0 : ∀ p ∈ X.pn ++ pins, p.1 ≠ a := fun p hp z => old _ (by rw [← z]; exact (J.pin p hp).1)
    have h00 : ∀ u, X.s_0.heap.get? a = some u → X.H_0 a = none → a ∈ X.ex := fun u e n => by
      by_cases hx : a ∈ X.ex
      · exact hx
      · exact absurd (J.base.keep a u e n nF hx) fun z => old _ z
    refine wpAny_handleBy_cons (codeAny_handlers_test ?_) (by intro q; cases q)
    have hb1' : f oe3.cls = some b := by rw [hz3.1]; exact hb1
    refine ht a oe3 pins σ' H' { s' with heap := h3 } b J3 he3 hb1' _ _ _ fun c h5 t5 k5 L5 => L5.here ?_
    have fl5 : HandSPX.FlyingZ B (X.env :: X.outer) a (Zc (.ref A) d) h5 := by
      obtain ⟨x1, x2, x3, oe, vs, T, oT, ts', y1, y2, y3, y4, y5, y6, y7, y8⟩ := fl3
      exact ⟨fun b o e => k5 _ _ (x1 b o e), x2, x3.of_keeps fun b o e _ => ⟨o, k5 _ _ e, rfl⟩, oe, vs, T, oT, ts', k5 _ _ y1, y2, y3, y4, y5, y6, k5 _ _ y7, y8⟩
    have up5 : sI.heap.UpToSlots h5 := (up.trans up3).trans (Heap.UpToSlots.of_keeps k5)
    cases b with
    | true =>
      have hsuite : ∀ {h4 : Heap} {t4 : Nat}, HandSPX.FlyingZ B (X.env :: X.outer) a (Zc (.ref A) d) h4 → sI.heap.UpToSlots h4 → Inv (X.suite a (X.pn ++ pins)) [] σ' (upd H' a (exH a A d)) { s' with heap := h4, toks := t4 } := fun {h4 t4} fl4 up4 => by
        have J4 : Inv X pins σ' H' { s' with heap := h4, toks := t4 } := J.landed (s' := { s' with heap := h4, toks := t4 }) nb fl4.1 up4 os ag
        obtain ⟨oe4, vs4, he4, hz4, hd4⟩ := fl4.there
        have J5 := inv_track J4 (o := exH a A d) he4 na nL nF (fun v z => by rw [hd4] at z; cases z) hp0 h00 (exH_ok he4 hz4 hd4)
        exact ⟨J5.ok.suite _ _, J5.os, J5.bare, J5.base, J5.loc, J5.cell, J5.free, J5.freeC, fun p hp => J5.pin p (by rw [List.append_nil] at hp; exact hp), J5.hok, J5.len⟩
      have back : ∀ {σ6 : L2.St} {H6 : Hp} {s6 : Shared}, Inv (X.suite a (X.pn ++ pins)) [] σ6 H6 s6 → Inv X pins σ6 H6 s6 := fun {σ6 H6 s6} I6 => ⟨ok, I6.os, I6.bare, I6.base, I6.loc, I6.cell, I6.free, I6.freeC, fun p hp => I6.pin p (List.mem_append_left _ hp), I6.hok, I6.len⟩
      cases nm with
      | none =>
        refine codeAny_handlers_suite ?_
        refine HandSPX.lands_againZ fl5 fun h4 fl4 up4 => ?_
        have S4 := hsuite (t4 := t5) fl4 (up5.trans up4)
        refine wpAny_mono ((hsu a (X.pn ++ pins)).run [] _ _ _ D S4 (hyes rfl a na)) (fun f s6 hsp => ?_) (fun _ _ z => False.elim z)
        cases f with
        | next => obtain ⟨σ6, H6, S6, q6⟩ := hsp; exact ⟨_, _, back S6, q6⟩
        | brk => obtain ⟨σ6, H6, S6, q6⟩ := hsp; exact ⟨_, _, back S6, q6⟩
        | cont => obtain ⟨σ6, H6, S6, q6⟩ := hsp; exact ⟨_, _, back S6, q6⟩
        | ret u => obtain ⟨v6, σ6, H6, S6, r6, q6⟩ := hsp; exact ⟨_, _, _, back S6, r6, q6⟩
      | some ni =>
        obtain ⟨n, i⟩ := ni
        obtain ⟨hN, hi, hln⟩ := hnm n i rfl
        refine codeAny_handlers_suite_as ?_
        refine HandSPX.lands_againZ fl5 fun h4 fl4 up4 => ?_
        have S4 := hsuite (t4 := t5) fl4 (up5.trans up4)
        refine store_ok (X := X.suite a (X.pn ++ pins)) (v := .ref a) S4 hN hi (.inl hln) rfl (fun s5 S5 => ?_) (.inr hln)
        refine wpAny_mono ((hsu a (X.pn ++ pins)).run [] s5 _ _ _ S5 (hyes rfl a na)) (fun f s6 hsp => ?_) (fun _ _ z => False.elim z)
        have end_ : ∀ {σ6 : L2.St} {H6 : Hp} {Q : Shared → Prop}, Inv (X.suite a (X.pn ++ pins)) [] σ6 H6 s6 → (∀ s7, Inv X pins (σ6.set i none) H6 s7 → Q s7) →
            wpAny (model X.prog X.w) X.A (do bindName X.env n .none; unbindBehindTheSuite X.env n pos') (fun _ s7 => Q s7) X.xe s6 := fun {σ6 H6 Q} S6 hq => gone_ok (back S6) hN hi hln hq
        cases f with
        | next => obtain ⟨σ6, H6, S6, q6⟩ := hsp; exact end_ S6 fun s7 J7 => ⟨_, _, J7, q6⟩
        | brk => obtain ⟨σ6, H6, S6, q6⟩ := hsp; exact end_ S6 fun s7 J7 => ⟨_, _, J7, q6⟩
        | cont => obtain ⟨σ6, H6, S6, q6⟩ := hsp; exact end_ S6 fun s7 J7 => ⟨_, _, J7, q6⟩
        | ret u => obtain ⟨v6, σ6, H6, S6, r6, q6⟩ := hsp; exact end_ S6 fun s7 J7 => ⟨_, _, _, J7, r6, q6⟩
    | false =>
      show wpAny _ X.A (handleBy (.ref a) X.env []) _ _ _
      refine wpAny_handleBy_nil ?_
      obtain ⟨k1, k2, k3, oe, vs, T, oT, ts', he, hz, hd, h1, hr⟩ := id fl5
      unfold PySem.passOn
      refine wpAny_bind (wpAny_field he hd h1 ?_)
      rw [if_neg (show ¬ ((Value.ref T == Value.none) = true) from by simp)]
      have fin : wpAny (model X.prog X.w) X.A (setFlight (.ref a) X.env.frame) (fun _ s4 => wpAny (model X.prog X.w) X.A (throw (.ref a) : Sem Flow) (SP X pins D) X.xe s4) X.xe { s' with heap := h5, toks := t5 } := by
        rw [hf]
        refine HandSPX.setFlight_upZ fl5 fun h4 hh4 up4 => wpAny_throw (tk _ _ ?_)
        exact ⟨a, B, sI, pins, σ', H', .ref A, d, rfl, J, nb, up5.trans up4, .inr (.inr (by rw [hs]; exact hh4)), na, os, ag, hno rfl⟩
      first
        | exact wpAny_bind (wpAny_pure (wpAny_bind fin))
        | exact wpAny_bind fin
  · cases f with
    | next => obtain ⟨σ', H', J', q⟩ := hsp; exact wpAny_execs_nil ⟨σ', H', J'.ofTry ok, q⟩
    | brk => obtain ⟨σ', H', J', q⟩ := hsp; exact ⟨σ', H', J'.ofTry ok, q⟩
    | cont => obtain ⟨σ', H', J', q⟩ := hsp; exact ⟨σ', H', J'.ofTry ok, q⟩
    | ret u => obtain ⟨v, σ', H', J', r, q⟩ := hsp; exact ⟨v, σ', H', J'.ofTry ok, r, q⟩
end
end Dn
set_option Elab.async false
set_option linter.all false
set_option maxRecDepth 100000
set_option maxHeartbeats 4000000
namespace Dn
open PySem PySem.Spec PyProof.Rows L2
/-- two classes in an except clause -/
theorem ht_two {X : Cx} {x y : Str} {A B : Addr} {p1 p2 pos : Pos} {k : Nat} (hx : Gl X x) (mx : X.mg x = some (.ref A)) (hy : Gl X y) (my : X.mg y = some (.ref B)) (dx : (x == ("__debug__" : Str)) = false := by decide) (dy : (y == ("__debug__" : Str)) = false := by decide)
    (hs : starEach [.Name x p1, .Name y p2] X.env = [(false, eval (.Name x p1) X.env), (false, eval (.Name y p2) X.env)] := by rfl) :
    HTest X (.Tuple [.Name x p1, .Name y p2] k pos) (fun t => PySem.W.exmAny X.K t [.ref A, .ref B]) := by
  intro a oe pins σ H s b I ha hf Ar Q E kk
  have nm : ∀ {z : Str} {D : Addr} {p : Pos} {Q : Value → Shared → Prop}, Gl X z → X.mg z = some (.ref D) → (z == ("__debug__" : Str)) = false → Q (.ref D) s → wpAny (model X.prog X.w) Ar (eval (.Name z p) X.env) Q E s := fun hz mz dz q =>
    Calls.Name_function_global I.ok.kind hz (Calls.loadGlobal_global (by rw [I.ok.glob]; exact I.mod.glob.keeps I.bk) mz q) dz
  refine wpAny_Tuple_spliced ?_
  rw [hs]
  refine Calls.spliced_cons (nm hx mx dx (Calls.spliced_cons (nm hy my dy (Calls.spliced_nil ⟨by show 2 ≤ sizeLine; rw [sizeLine_eq]; decide, ?_⟩))))
  refine kk _ _ _ (fun b o e => Heap.get?_push_of_some _ e) ?_
  have LT : PySem.W.Looks (model X.prog X.w) (s.heap.push { cls := .type "tuple", data := .seq [Value.ref A, .ref B].toArray }) (typeOf (.ref a)) oe.cls := fun A Q E s k q => wpAny_typeOf_ref (k _ _ (Heap.get?_push_of_some _ ha)) q
  exact PySem.W.exm_tup2 (M := model X.prog X.w) (I.kIn.keeps fun b o e => Heap.get?_push_of_some _ e) LT (Heap.get?_push_size _ rfl) hf
section
variable {X : Cx} {C : Cn} {E : WX}
theorem exn_lay {Z H : Hp} {m : List Addr} {h : Hm} {c : Str} {fs : List (Str × D)} {cl : Value} {A : Addr} {od : Option Addr} {a : Addr} (s : HSim C Z m h H) (na : H a = none) (r : ExR C Z m H (.exn c fs) cl od) (e : cl = .ref A) :
    HSim C (upd Z a (exH a A od)) m h (upd H a (exH a A od)) ∧ Ext Z m H (upd Z a (exH a A od)) m (upd H a (exH a A od)) ∧ Rep C (upd Z a (exH a A od)) m (.exn c fs) (.ref a) := by
  have x := Ext.lay s na (exH a A od)
  refine ⟨s.lay na _, x, ?_⟩
  obtain ⟨A', h1, h2, h3⟩ := r
  rw [h2] at e; cases e
  rcases h3 with ⟨rfl, rfl⟩ | ⟨d, gs, rfl, h4, h5⟩
  · exact .exn0 h1 upd_same
  · exact .exn1 h1 upd_same (x.sub _ _ h4) (h5.mono x.sub (List.prefix_refl _))
theorem PostS.nox {r : Fl} {Z : Hp} {m : List Addr} {H : Hp} {K : Ends} (h : PostS C E r.nox Z m H K) : PostS C EF r Z m H K := by
  cases r with
  | exc e v h' => exact False.elim h
  | nx v h' => exact h
  | rt v h' => exact h
  | bk v h' => exact h
  | ct v h' => exact h
  | err => exact h
theorem ds_try {te : Expr} {f : Value → Option Bool} {t : Str → Bool} {body suite : List Stmt} {b₀ : Stmt} {pos pos' : Pos} {fb fs : SM} (hs : X.stack = X.env :: X.outer) (hf : X.env.frame = some X.env.locals) (ht : HTest X te f) (tk : Takes X E) (hX : ∀ c A, C.cls c = some A → f (.ref A) = some (t c))
    (hb : ∀ (W : WX) (pn : List (Addr × Obj)) (xe : Value → Shared → Prop), Takes (X.tr pn xe) W → PassesOwn (model X.prog X.w) X.A X.env xe → PSs (X.tr pn xe) body (denS C W fb))
    (hsu : ∀ (a : Addr) (pn : List (Addr × Obj)), PSs (X.suite a pn) (b₀ :: suite) (denS C EF fs)) :
    PS X (.Try body [.ExceptHandler (some te) none (b₀ :: suite) pos'] [] [] pos) (denS C E (sTry fb t fun _ => fs)) := by
  refine ps_imp (ps_tryT (nm := none) (tb := fun W => denS C W fb) hs hf ht tk (fun _ _ z => nomatch z) hb hsu) fun D σ H ⟨Z, m, v, h, s, e, p⟩ => ?_
  refine ⟨Z, m, v, h, s, e, ?_⟩
  unfold sTry at p
  cases q : fb v h with
  | exc x v1 h1 =>
    rw [q] at p
    cases x with
    | exn c gs =>
      intro Z1 m1 H1 σ1 cl od x1 s1 e1 r1
      obtain ⟨A, hA, rfl, hr⟩ := id r1
      refine ⟨t c, A, rfl, hX c A hA, fun ht => fun a na => ?_, fun hf => ?_⟩
      · simp only [ht, if_true] at p
        obtain ⟨s2, x2, _⟩ := exn_lay s1 na r1 rfl
        exact ⟨_, m1, v1, h1, s2, e1.mono x2, PostS.from (x1.trans x2) (PostS.nox p)⟩
      · simp only [hf] at p
        exact p _ _ _ _ _ _ x1 s1 e1 r1
    | _ => exact False.elim p
  | nx _ _ => rw [q] at p; exact p
  | rt _ _ => rw [q] at p; exact p
  | bk _ _ => rw [q] at p; exact p
  | ct _ _ => rw [q] at p; exact p
  | err => rw [q] at p; exact p
/-- the classes of exceptions by their names, and what isinstance says of them -/
structure XTab (C : Cn) : Prop where
  ex : ∀ c A, C.cls c = some A → XCls C.K A
  is : ∀ c A T B, C.cls c = some A → C.cls T = some B → PySem.W.kitOne C.K (.ref A) (.ref B) = some (xIs c T)
  ve : ∀ c A, C.cls c = some A → PySem.W.kitOne C.K (.ref A) (.type "ValueError") = some true
  em : ∀ c A T B, C.cls c = some A → C.cls T = some B → PySem.W.exmOne C.K (.ref A) (.ref B) = some (xIs c T)
end
section
variable {P : Program} {w : World} {K : PySem.W.Frag} {mg : Str → Option Value} {base : Heap} {C : Cn}
theorem fn_okX {x qual : Str} {st : Stmt} {f : Addr} {fd : FuncData} {N ps : List Str} {k : Nat} {b : SM} (F : Fun K x qual st f fd) (S : FnScope N ps (defScope st))
    (hbody : ∀ (cdv : Value) (A : Around) (outer : List Env) (s : Shared) (H : Hp) (E : XK), Room k (A.deeper (envOfC qual (defScope st) s.heap.objs.size f cdv)) → Takes (cxOf (L2.CX P w) P w K mg base N qual (defScope st) f cdv A outer s H E) (fun c d _ H => E c d H) → PSs (cxOf (L2.CX P w) P w K mg base N qual (defScope st) f cdv A outer s H E) (defBody st) (denS C (fun c d _ H => E c d H) b)) :
    FnOk P w K mg base (L2.CX P w) (k + 1) f fd ps (spD C (fn ps.length N.length b)) := by
  refine F.okX S (spD_len fun ds h hl => by unfold fn; rw [if_neg hl]) fun cdv A outer s H vs Q E hr hsp => ⟨_, hbody cdv A outer s H E hr (takes_of rfl rfl rfl rfl), ?_⟩
  obtain ⟨Z, m, h, ds, s1, r, p⟩ := hsp
  exact fn_end (E := fun c d _ H => E c d H) (Ex := E) (np := ps.length) s1 r (fun _ _ _ _ z => z) p
end
theorem passX {X : Cx} {E : WX} (tk : Takes X E) (σ : L2.St) : PassesAt (L2.CX X.prog X.w) X σ (fun c d H => E c d σ H) := fun _ _ _ e s' I c => tk e s' (XE.of_call I (fun _ _ _ h => h) c)
theorem takesF {X : Cx} : Takes X EF := fun _ _ ⟨_, _, _, _, _, _, _, _, _, _, _, _, _, _, _, _, w⟩ => w.elim
end Dn
set_option Elab.async false
set_option linter.all false
set_option maxRecDepth 100000
set_option maxHeartbeats 4000000
namespace Dn
open PySem PySem.Spec PyProof.Rows L2
def lcLX (g : TgM) (t : TM) (e : EM) (chk : Hm → Bool) (v : Ev) : List D → Hm → R (List D)
  | [], h => if chk h then .ok [] h else .err
  | x :: xs, h => if chk h then (match g x v h with
    | some v1 => (t v1 h).nx.bind fun c h1 => if c then (e v1 h1).bind fun y h2 => (lcLX g t e chk v xs h2).bind fun ys h3 => .ok (y :: ys) h3 else lcLX g t e chk v xs h1
    | none => .err) else .err
def eLcX (own : List Nat) (g : TgM) (w : Ev → Hm → R Wk) (t : TM) (e : EM) : EM := fun v h => (w v h).bind fun k h1 =>
  if k.its.length ≤ 16777215 then (lcLX g t e k.chk (wipeE v own) k.its h1).bind fun ys h2 => .ok (.lst ys) h2 else .err
end Dn
set_option Elab.async false
set_option linter.all false
set_option maxRecDepth 100000
set_option maxHeartbeats 4000000
namespace Dn
open PySem PySem.Spec PyProof.Rows L2
open AutoSeq1 (wpAny_loadPart')
theorem enumT_new (l : Addr) (items : Array Value) (n : Nat) (dct : Option Addr) (sl : Array (Option Value)) :
    Meets (Builtin.«enumerate.__new__» ⟨[.type "enumerate", .ref l], []⟩) (fun _ R s => s.heap.get? l = some { cls := .type "tuple", dict := dct, data := .seq items n, slots := sl } ∧
      R (.ok (.ret (.ref (s.heap.push { cls := .type "tuple_iterator", data := .fields #[.ref l, .int 0 0] }).objs.size)))
        { s with heap := (s.heap.push { cls := .type "tuple_iterator", data := .fields #[.ref l, .int 0 0] }).push { cls := .type "enumerate", data := .fields #[.none, .bool false, .ref s.heap.objs.size, rawInt 0, .none, .none] } }) :=
  .of_wp fun prog w A R s h => by
    obtain ⟨hp, g, d, tk, os⟩ := s; obtain ⟨hl, h⟩ := h
    have hsub := sub_enumerate
    have hL : Heap.IsTuple (Shared.heap ⟨hp, g, d, tk, os⟩) l items := ⟨_, hl, rfl, n, rfl⟩
    wp_walk using wpAny_loadPart' hl
    refine wpAny_stack_any fun st => wpAny_pure ?_
    split
    · rename_i c _ _ _ _ _
      cases (c == Value.type "enumerate")
      · wp_walk using wpAny_loadPart' hl, wpAny_pyIter_tuple hL
        exact ⟨_, rfl, h⟩
      · wp_walk using wpAny_loadPart' hl, wpAny_pyIter_tuple hL
        exact ⟨_, rfl, h⟩
    · wp_walk using wpAny_loadPart' hl, wpAny_pyIter_tuple hL
      exact ⟨_, rfl, h⟩
theorem call_enumT {prog : Program} {w : World} {A : Around} {E : Value → Shared → Prop} {s : Shared} {l : Addr} {items : Array Value} {Q : Value → Shared → Prop} (hL : s.heap.IsTuple l items)
    (h : ∀ h', IsEnum h' (s.heap.objs.size + 1) s.heap.objs.size 0 .none → h'.IsTupleIter s.heap.objs.size l 0 → h'.objs.size = s.heap.objs.size + 2 →
      (∀ b o, s.heap.get? b = some o → h'.get? b = some o) → Q (.ref (s.heap.objs.size + 1)) { s with heap := h' }) :
    wpAny (model prog w) A (call (.type "enumerate") [.ref l]) Q E s := by
  obtain ⟨⟨c, dct, dt, sl⟩, hl, hc, n, hd⟩ := hL
  replace hc : c = .type "tuple" := hc
  replace hd : dt = .seq items n := hd
  subst hc hd
  refine callType_new F.called_enumerate (by decide) (F.typeCall_enumerate_1 _) (F.newCall_enumerate_1 _) (fun obj => F.args_object_init_2 obj _) F.entry_enumerate_new
    (enumT_new l items n dct sl) ⟨hl, ?_⟩
  have hz : (s.heap.push { cls := .type "tuple_iterator", data := .fields #[.ref l, .int 0 0] }).objs.size = s.heap.objs.size + 1 := Heap.size_push ..
  show _ ∧ _
  rw [hz]
  have he : IsEnum ((s.heap.push { cls := .type "tuple_iterator", data := .fields #[.ref l, .int 0 0] }).push
      { cls := .type "enumerate", data := .fields #[.none, .bool false, .ref s.heap.objs.size, rawInt 0, .none, .none] }) (s.heap.objs.size + 1) s.heap.objs.size 0 .none := by
    have := Heap.get?_push_size (s.heap.push { cls := .type "tuple_iterator", data := .fields #[.ref l, .int 0 0] })
      (o := { cls := .type "enumerate", data := .fields #[.none, .bool false, .ref s.heap.objs.size, rawInt 0, .none, .none] }) rfl
    rw [hz] at this; exact this
  refine ⟨⟨_, he, rfl⟩, h _ he ⟨_, Heap.get?_push_of_some _ (Heap.get?_push_size _ rfl), rfl, rfl⟩ (by rw [Heap.size_push, hz]) fun b o x => Heap.get?_push_of_some _ (Heap.get?_push_of_some _ x)⟩
theorem wpAny_pyNext_enum_endU {prog : Program} {w : World} {A : Around} {E : Value → Shared → Prop} {s : Shared} {e it l : Addr} {i : Nat} {items : Array Value} {old : Value} {Q : Option Value → Shared → Prop} (hh : A.handled = none)
    (he : IsEnum s.heap e it i old) (hit : s.heap.IsTupleIter it l i) (hl : s.heap.IsTuple l items) (hx : items[i]? = none)
    (hQ : ∀ h', Heap.ExtBut it s.heap h' → Q none { s with heap := h' }) : wpAny (model prog w) A (pyNext (.ref e)) Q E s := by
  have hT : s.TypeIs (.ref e) "enumerate" := ⟨_, he, rfl⟩
  unfold pyNext
  refine wpAny_bind (wpAny_attempt (wpAny_callSpecial?_slot (name := Str.ofString "__next__") hT F.slot_enumerate_next
    (wpAny_call_entry F.slot_enumerate_next hT F.entry_enumerate_next ?_ (F.args_enumerate_next_1 _))))
  show wpAny _ _ (field (.ref e) 2 >>= _) _ _ _
  refine wpAny_bind (wpAny_field he rfl (x := .ref it) rfl ?_)
  refine wpAny_bind (wpAny_nextOf_tuple_end hh hit hl hx fun h' x he' hx' => ?_)
  obtain ⟨o, ho, hc⟩ := hx'
  refine wpAny_bind (wpAny_isInstance (T := "StopIteration") (b := true) ⟨o, ho, hc⟩ isSubtype_stop ?_)
  exact wpAny_pure (hQ _ he')
/-- the tuple at a as it stands at each turn, each item in a new pair -/
def IteT (K : PySem.W.Frag) (a : Addr) : It :=
  ⟨fun i H => ∃ (xs : List V) (x : V), SqT K H a xs ∧ xs[i]? = some x, fun i H v H' => ∃ T x, v = .ref T ∧ H T = none ∧ H' = upd H T (.tup [.int (i : Nat), x]) ∧ ∀ xs, SqT K H a xs → xs[i]? = some x, fun i H => ∃ xs : List V, SqT K H a xs ∧ xs.length ≤ i⟩
theorem turn_enumT {P : Program} {w : World} {K : PySem.W.Frag} {elts : List Expr} {kk : Nat} {tpos : Pos} (a e it : Addr) (hai : a ≠ it) :
    Turn P w K (.Tuple elts kk tpos) (IteT K a) [e, it] e (fun i h => (∃ old, IsEnum h e it ((i : Nat) : Int) old) ∧ h.IsTupleIter it a i ∧ e ≠ it) where
  mem := by simp
  obj := fun i h st b hb => by
    obtain ⟨⟨old, he⟩, ⟨o, ho, hc, hd⟩, _⟩ := st
    have e' : b = e ∨ b = it := by simpa using hb
    rcases e' with z | z
    · rw [z]; exact ⟨_, he, fun v q => nomatch q⟩
    · rw [z]; exact ⟨o, ho, fun v q => by rw [hd] at q; cases q⟩
  keep := fun i h h' st k => let ⟨⟨old, he⟩, hi, hne⟩ := st; ⟨⟨old, k e (by simp) _ he⟩, hi.at fun o q => k it (by simp) o q, hne⟩
  item := by
    intro X hP hw hK hc i pins s σ H E I hf st hg
    subst hP hw hK
    obtain ⟨⟨old, he⟩, hit, hne⟩ := st
    obtain ⟨xs, x, hq, hx⟩ := hg
    obtain ⟨its, rv, p, hz⟩ := I.tuple hq
    obtain ⟨u, hu, ru⟩ := rv.get hx
    have hi : i < its.toArray.size := by
      have := (List.getElem?_eq_some_iff.mp hu).1
      simpa using this
    have hel : e < s.heap.objs.size := Heap.lt_size he
    have hil : it < s.heap.objs.size := by obtain ⟨_, q, _⟩ := hit; exact Heap.lt_size q
    have hae : e ∉ [it, a] := by
      obtain ⟨oa, ha, hac, _⟩ := id p
      simp only [List.mem_cons, List.not_mem_nil, or_false, not_or]
      refine ⟨hne, fun z => ?_⟩
      subst z
      have he' := he
      unfold IsEnum at he'
      rw [ha] at he'; cases he'; exact absurd (show Value.type "enumerate" = Value.type "tuple" from hac) (by decide)
    refine wpAny_pyNext_enum_itemD (Draws.tuple (A := X.A.in1) (I.ok.hd hc) it a hai its.toArray) he ⟨hit, p⟩ hi hne hae fun u' h' tk hP ho hit' hT hsz hk => ?_
    have eu : u' = u := by
      have h1 : its.toArray[i]? = some u' := hP
      have h2 : its.toArray[i]? = some u := by simpa using hu
      rw [h1] at h2; cases h2; rfl
    subst eu
    refine ⟨_, rfl, wpAny_letOwnedTupleGo_enum (s := { s with heap := h', toks := tk + 1 }) ho fun h'' he' sb => ?_⟩
    have hT2 : h''.get? s.heap.objs.size = some { cls := .type "tuple", data := .seq #[.int i tk, u'] } := (sb.2 _ (Nat.ne_of_gt hel)).trans hT
    have new : ObjOk X.prog X.w (upd H s.heap.objs.size (.tup [.int (i : Nat), x])) h'' s.heap.objs.size (.tup [.int (i : Nat), x]) :=
      ⟨by show 2 ≤ sizeLine; decide, [.int i tk, u'], .cons ⟨_, rfl⟩ (.cons ru .nil), ⟨_, hT2, rfl, _, rfl⟩⟩
    have I1 : Inv X pins σ (upd H s.heap.objs.size (.tup [.int (i : Nat), x])) { s with heap := h'', toks := tk + 1 } :=
      I.turnedNew (t' := tk + 1) (ch := [e, it]) (fun b ob hb q => (sb.2 b (fun z => hb (by simp [z]))).trans (hk b ob (fun z => hb (by simp [z])) (fun z => hb (by simp [z])) q)) hf (Nat.le_refl _) new
    refine ⟨.ref s.heap.objs.size, _, I1, rfl, ⟨_, x, rfl, I.hok.fresh (Nat.le_refl _), rfl, fun ys hy => by rw [I.tuple_inj hy hq]; exact hx⟩, ⟨⟨u', ?_⟩, hit'.1.at fun o q => (sb.2 it (Ne.symm hne)).trans q, hne⟩, fun b hb => ?_⟩
    · have e1 : ((i + 1 : Nat) : Int) = (i : Int) + 1 := by omega
      rw [e1]; exact he'
    · have hb' : b < s.heap.objs.size := by
        have e' : b = e ∨ b = it := by simpa using hb
        rcases e' with z | z
        · rw [z]; exact hel
        · rw [z]; exact hil
      rw [upd_ne (Nat.ne_of_lt hb')]
      exact (hf b hb).1
  done := by
    intro X hP hw hK hc i pins s σ H E I hf st hg
    subst hP hw hK
    obtain ⟨⟨old, he⟩, hit, hne⟩ := st
    obtain ⟨xs, hq, hx⟩ := hg
    obtain ⟨its, rv, p, hz⟩ := I.tuple hq
    obtain ⟨f0, f1, f2, f3, f4, f5⟩ := hf it (by simp)
    have hl := rv.length
    refine wpAny_pyNext_enum_endU (I.ok.hd hc) he hit p (by simp; omega) fun h' eb => ⟨rfl, I.turned (t' := s.toks) (fun b o hb q => eb b o hb q) f0 f1 f3 f4 f5⟩
  self := fun A i s Q E st h => let ⟨⟨_, he⟩, _⟩ := st; wpAny_pyIter_enum he h
def iEnumT (K : PySem.W.Frag) (ta : TA) : TI := fun σ H R => ta σ H fun vs H1 => ∃ a xs, vs = [.ref a] ∧ ((SqL K H1 a xs ∧ R (Ite K a) H1) ∨ (SqT K H1 a xs ∧ R (IteT K a) H1))
theorem pi_enumT {X : Cx} {e : Expr} {ta : TA} {p pos tpos : Pos} {elts : List Expr} {kk : Nat} (hg : Gl X "enumerate") (hm : X.mg "enumerate" = none) (ha : PA X [e] ta) (hs : starEach [e] X.env = [(false, eval e X.env)] := by rfl) :
    PI X (.Tuple elts kk tpos) (.Call (.Name "enumerate" p) [e] [] pos) (iEnumT X.K ta) := by
  refine ⟨fun pins s σ H R I h => ?_⟩
  refine Call_ (ld_blt I hg hm boot_enumerate (PyProof.Rows.callWith_type1 (thn (ha.run pos pins s σ H _ I h) fun us s1 ⟨vs, H1, I1, r1, q1⟩ => ?_) hs rfl))
  obtain ⟨a, xs, ex, q1⟩ := q1
  subst ex
  cases r1 with
  | cons r rr =>
    cases rr
    cases r
    have fr : ∀ b ∈ [s1.heap.objs.size + 1, s1.heap.objs.size], FpOk X pins H1 b := fun b hb => by
      have e' : b = s1.heap.objs.size + 1 ∨ b = s1.heap.objs.size := by simpa using hb
      have hle : s1.heap.objs.size ≤ b := by
        rcases e' with z | z
        · rw [z]; exact Nat.le_add_right _ _
        · rw [z]; exact Nat.le_refl _
      exact I1.fpOk hle (I1.hok.fresh hle)
    rcases q1 with ⟨hq, q⟩ | ⟨hq, q⟩
    · obtain ⟨its, rv, p', hz⟩ := I1.list hq
      refine call_enumerate_list p'.isList fun h' he hit hsz hk => wpAny_pyIter_enum he ?_
      have I2 : Inv X pins σ H1 { s1 with heap := h' } := I1.kept (t' := s1.toks) hk
      exact ⟨s1.heap.objs.size + 1, [s1.heap.objs.size + 1, s1.heap.objs.size], _, _, H1, rfl, I2, turn_enum a (s1.heap.objs.size + 1) s1.heap.objs.size, ⟨⟨.none, he⟩, hit, Nat.succ_ne_self _⟩, fr, q⟩
    · obtain ⟨its, rv, p', hz⟩ := I1.tuple hq
      have hne : a ≠ s1.heap.objs.size := by
        obtain ⟨oa, ha, _⟩ := id p'
        exact Nat.ne_of_lt (Heap.lt_size ha)
      refine call_enumT p' fun h' he hit hsz hk => wpAny_pyIter_enum he ?_
      have I2 : Inv X pins σ H1 { s1 with heap := h' } := I1.kept (t' := s1.toks) hk
      exact ⟨s1.heap.objs.size + 1, [s1.heap.objs.size + 1, s1.heap.objs.size], _, _, H1, rfl, I2, turn_enumT a (s1.heap.objs.size + 1) s1.heap.objs.size hne, ⟨⟨.none, he⟩, hit, Nat.succ_ne_self _⟩, fr, q⟩
variable {X : Cx} {C : Cn} {E : WX} {tg : Expr}
def wEnumTOf (d : D) (h : Hm) : R Wk := match d with
  | .tup l => .ok ⟨enumL l, fun _ => true⟩ h
  | d => wEnumOf d h
def wEnT (e : EM) : Ev → Hm → R Wk := fun v h => (e v h).bind wEnumTOf
theorem wk_enumT {H0 : Hp} {Z H : Hp} {m : List Addr} {a : Addr} {vs : List V} {l : List D} (hK : C.K = X.K) (hq : SqT C.K Z a vs) (r : RepL C Z m l vs) : WkOk C (IteT X.K a) ⟨enumL l, fun _ => true⟩ Z m H0 := by
  intro i Z' m' h H hz hm _ s _
  have q : SqT X.K H a vs := hK ▸ sqT_mono s.sub (sqT_mono hz hq)
  have r' := r.mono hz hm
  have hl := r'.length
  have hle : (enumL l).length = l.length := by simp [enumL]
  refine ⟨fun hi => ⟨⟨vs, vs[i]'(by rw [← hl, ← hle]; exact hi), q, List.getElem?_eq_getElem _⟩, fun x H' y => ?_⟩, fun hi => ⟨vs, q, by rw [← hl, ← hle]; exact hi⟩⟩
  obtain ⟨T, z, rfl, hT, rfl, y⟩ := y
  obtain ⟨d, e, rd⟩ := r'.getV (y vs q)
  refine ⟨.tup [.int (i : Int), d], upd Z' T (.tup [.int (i : Nat), z]), by simp [enumL, e], Ext.lay s hT _, s.lay hT _, .tup upd_same ?_⟩
  exact .cons (.int _) (.cons (rd.mono (Ext.lay s hT _).sub (List.prefix_refl _)) .nil)
theorem di_enT {a : Expr} {fa : EM} {p pos tpos : Pos} {elts : List Expr} {kk : Nat} (hK : C.K = X.K) (hg : Gl X "enumerate") (hm : X.mg "enumerate" = none) (ha : PE X a (denE C E fa)) (hs : starEach [a] X.env = [(false, eval a X.env)] := by rfl) : PI X (.Tuple elts kk tpos) (.Call (.Name "enumerate" p) [a] [] pos) (denW C E (wEnT fa)) := by
  refine ⟨fun pins s0 σ H R I q => (pi_enumT hg hm (pa_cons ha pa_nil hs) hs).run pins s0 σ H R I ?_⟩
  obtain ⟨Z, m, v, h, s, e, p⟩ := q
  refine ⟨Z, m, v, h, s, e, ?_⟩
  unfold wEnT at p
  cases qa : fa v h with
  | err => rw [qa] at p; exact False.elim p
  | exc x h1 => rw [qa] at p; exact p
  | ok d h1 =>
    rw [qa] at p
    intro Z' m' H' u x s' r
    simp only [bind_ok] at p
    cases d with
    | lst l =>
      cases r with
      | lst hq rl => exact ⟨_, _, rfl, .inl ⟨.inl (.inl (s'.sub _ _ hq)), p Z' m' H' _ x s' (wk_enum (H := H') hK (.inl (.inl hq)) rl)⟩⟩
    | tup l =>
      cases r with
      | tup hq rl => exact ⟨_, _, rfl, .inr ⟨.inl (.inl (s'.sub _ _ hq)), p Z' m' H' _ x s' (wk_enumT (H := H') hK (.inl (.inl hq)) rl)⟩⟩
    | ref n =>
      cases r with
      | ref en =>
        simp only [wEnumTOf, wEnumOf] at p
        split at p
        · rename_i l hl
          split at hl
          · rename_i l' hl'
            cases hl
            obtain ⟨vs, hv, rl⟩ := s'.obj n _ _ en hl'
            exact ⟨_, _, rfl, .inl ⟨.inl (.inl hv), p Z' m' H' _ x s' (wk_enumR (H := H') en)⟩⟩
          · cases hl
        · rename_i hl; split at hl <;> cases hl
        · exact False.elim p
    | _ => exact False.elim p
end Dn
set_option Elab.async false
set_option linter.all false
set_option maxRecDepth 100000
set_option maxHeartbeats 4000000
namespace Dn
open PySem PySem.Spec PyProof.Rows L2
structure XNm (mg : Str → Option Value) (cl : Str → Option Addr) (c : Str) : Prop where
  ok : ∃ A, cl c = some A ∧ mg c = some (.ref A)
structure XNo (K : PySem.W.Frag) (mg : Str → Option Value) (cl : Str → Option Addr) (c : Str) : Prop where
  ok : ∃ A, cl c = some A ∧ mg c = some (.ref A) ∧ XCls K A ∧ PySem.W.excIn K A PySem.HandSPX.veTail "ValueError.__new__" = true
structure XIn (P : Program) (w : World) (K : PySem.W.Frag) (mg : Str → Option Value) (base : Heap) (cl : Str → Option Addr) (c f : Str) : Prop where
  ok : ∃ A fI fd, cl c = some A ∧ mg c = some (.ref A) ∧ XCls K A ∧ PySem.W.findIn K (.ref A) "__init__" = some (some (.ref fI)) ∧ PySem.W.typeIn K (.ref fI) = some (.type "function") ∧ FnOk P w K mg base CX0 1 fI fd ["self", f] (spIni A f) ∧ Binds K fd ["self", f] []
/-- the classes' table, computed -/
def tabB (K : PySem.W.Frag) (l : List (Str × Addr)) : Bool := l.all fun p => xcB K p.2 && (decide (PySem.W.kitOne K (.ref p.2) (.type "ValueError") = some true) && l.all fun q => decide (PySem.W.kitOne K (.ref p.2) (.ref q.2) = some (xIs p.1 q.1)) && decide (PySem.W.exmOne K (.ref p.2) (.ref q.2) = some (xIs p.1 q.1)))
def nofB (K : PySem.W.Frag) (l : List (Str × Addr)) (f : Str) : Bool := l.all fun p => decide (PySem.W.findIn K (.ref p.2) f = some none)
theorem lookup_mem {c : Str} {A : Addr} : ∀ {l : List (Str × Addr)}, l.lookup c = some A → (c, A) ∈ l
  | [], h => by simp at h
  | (k, v) :: r, h => by
    rw [List.lookup_cons] at h
    cases hb : c == k with
    | true => rw [hb] at h; cases h; rw [beq_iff_eq.mp hb]; exact List.mem_cons_self
    | false => rw [hb] at h; exact List.mem_cons_of_mem _ (lookup_mem h)
theorem tab_mk {K : PySem.W.Frag} {l : List (Str × Addr)} {tb : List (Addr × Str)} (h : tabB K l = true) : XTab ⟨K, fun c => l.lookup c, tb⟩ := by
  have h1 := List.all_eq_true.mp h
  have g : ∀ c A, l.lookup c = some A → xcB K A = true ∧ PySem.W.kitOne K (.ref A) (.type "ValueError") = some true ∧ ∀ T B, l.lookup T = some B → PySem.W.kitOne K (.ref A) (.ref B) = some (xIs c T) ∧ PySem.W.exmOne K (.ref A) (.ref B) = some (xIs c T) := fun c A e => by
    have := h1 _ (lookup_mem e)
    simp only [Bool.and_eq_true, decide_eq_true_eq] at this
    refine ⟨this.1, this.2.1, fun T B e2 => ?_⟩
    have := List.all_eq_true.mp this.2.2 _ (lookup_mem e2)
    simpa using this
  exact ⟨fun c A e => xcB_ok (g c A e).1, fun c A T B e1 e2 => ((g c A e1).2.2 T B e2).1, fun c A e => (g c A e).2.1, fun c A T B e1 e2 => ((g c A e1).2.2 T B e2).2⟩
theorem nof_mk {K : PySem.W.Frag} {l : List (Str × Addr)} {f : Str} (h : nofB K l f = true) : ∀ c A, l.lookup c = some A → PySem.W.findIn K (.ref A) f = some none := fun c A e => by
  have := List.all_eq_true.mp h _ (lookup_mem e)
  simpa using this
section
variable {X : Cx} {C : Cn} {E : WX}
theorem ds_raise0 {c m : Str} {j : Nat} {p p2 pos pos' : Pos} (hc : X.calm = true) (tk : Takes X E) (x : XNo X.K X.mg C.cls c) (hg : Gl X c) (hd : (c == ("__debug__" : Str)) = false := by decide) :
    PS X (.Raise (some (.Call (.Name c p) [.Constant (.str m) j p2] [] pos)) none pos') (denS C E (sRs0 c)) := by
  obtain ⟨A, h1, h2, h3, h4⟩ := x.ok
  exact ds_rs0 hc tk h1 h2 h3 h4 hg hd
theorem ds_raise1 {c f : Str} {k : Nat} {a : Expr} {fa : EM} {p pos pos' : Pos} (hc : X.calm = true) (tk : Takes X E) (x : XIn X.prog X.w X.K X.mg X.base C.cls c f) (hr : Room k X.A) (hk : 2 ≤ k) (hg : Gl X c) (ha : PE X a (denE C E fa)) (hd : (c == ("__debug__" : Str)) = false := by decide)
    (he : starEach [a] X.env = [(false, eval a X.env)] := by rfl) : PS X (.Raise (some (.Call (.Name c p) [a] [] pos)) none pos') (denS C E (sRs1 c f fa)) := by
  obtain ⟨A, fI, fd, h1, h2, h3, h4, h5, h6, h7⟩ := x.ok
  exact ds_rs1 hc tk h1 h2 h3 h4 h5 h6 h7 (hr.mono hk) hg ha hd he
section
variable {T : Str} {body suite : List Stmt} {b₀ : Stmt} {np pos pos' : Pos} {fb fs : SM}
theorem ds_try2 {U : Str} {p1 p2 pp : Pos} {k : Nat} (hs : X.stack = X.env :: X.outer) (hf : X.env.frame = some X.env.locals) (tab : XTab C) (hK : C.K = X.K) (nT : XNm X.mg C.cls T) (nU : XNm X.mg C.cls U) (hgT : Gl X T) (hgU : Gl X U) (tk : Takes X E)
    (hb : ∀ (W : WX) (pn : List (Addr × Obj)) (xe : Value → Shared → Prop), Takes (X.tr pn xe) W → PassesOwn (model X.prog X.w) X.A X.env xe → PSs (X.tr pn xe) body (denS C W fb))
    (hsu : ∀ (a : Addr) (pn : List (Addr × Obj)), PSs (X.suite a pn) (b₀ :: suite) (denS C EF fs)) (hdT : (T == ("__debug__" : Str)) = false := by decide) (hdU : (U == ("__debug__" : Str)) = false := by decide)
    (hst : starEach [.Name T p1, .Name U p2] X.env = [(false, eval (.Name T p1) X.env), (false, eval (.Name U p2) X.env)] := by rfl) :
    PS X (.Try body [.ExceptHandler (some (.Tuple [.Name T p1, .Name U p2] k pp)) none (b₀ :: suite) pos'] [] [] pos) (denS C E (sTry fb (fun c => xIs c T || xIs c U) fun _ => fs)) := by
  obtain ⟨A, h1, h2⟩ := nT.ok
  obtain ⟨B, h3, h4⟩ := nU.ok
  refine ds_try hs hf (ht_two hgT h2 hgU h4 hdT hdU hst) tk (fun c D e => ?_) hb hsu
  have q1 := tab.em c D T A e h1
  have q2 := tab.em c D U B e h3
  rw [hK] at q1 q2
  simp only [PySem.W.exmAny, q1, q2, Bool.or_false]
end
end
theorem pass0X {X : Cx} {σ : L2.St} {Ex : XK} : PassesAt CX0 X σ Ex := fun _ _ _ _ _ _ h => False.elim h
end Dn
set_option Elab.async false
set_option linter.all false
set_option maxRecDepth 100000
set_option maxHeartbeats 4000000
namespace Dn
open PySem PySem.Spec PyProof.Rows L2
def opNotB (x y : D) (h : Hm) : R D := match x, y with
  | .bl a, .bl b => .ok (.bl (!(a == b))) h
  | _, _ => .err
section
variable {X : Cx} {C : Cn} {E : WX}
theorem do_notB : OpR X (compareOp .IsNot) (rD2 C opNotB) := by
  intro pins s σ H x y v u Q I rx ry ⟨Z, m, h, a, b, sm, ra, rb, p⟩
  cases ra <;> cases rb <;> first | exact False.elim p | skip
  cases rx
  cases ry
  refine wpAny_isNot_plain rfl (fin_bl I (p _ _ _ _ .refl sm (.bl _)) ?_)
  rename_i a b
  (clear p; cases a <;> cases b <;> first | rfl | decide | simp)
theorem nox_notB : ∀ a b h, NoX (opNotB a b h) := by intro a b h e g; unfold opNotB; repeat' split
                                                     all_goals simp
end
end Dn
set_option Elab.async false
set_option linter.all false
set_option maxRecDepth 100000
set_option maxHeartbeats 4000000
namespace Dn
open PySem PySem.Spec PyProof.Rows L2
def ins1 (x : Int) : List Int → List Int
  | [] => [x]
  | y :: r => if x ≤ y then x :: y :: r else y :: ins1 x r
def srt : List Int → List Int
  | [] => []
  | x :: r => ins1 x (srt r)
end Dn
set_option Elab.async false
set_option linter.all false
set_option maxRecDepth 100000
set_option maxHeartbeats 4000000
namespace Dn
open PySem PySem.Spec PyProof.Rows L2
end Dn
set_option Elab.async false
set_option linter.all false
set_option maxRecDepth 100000
set_option maxHeartbeats 4000000
namespace Dn
open PySem PySem.Spec PyProof.Rows L2
end Dn
set_option Elab.async false
set_option linter.all false
set_option maxRecDepth 100000
set_option maxHeartbeats 4000000
namespace Dn
open PySem PySem.Spec PyProof.Rows L2 PySem.Froz
def insT (x : Str) : List Str → List Str
  | [] => [x]
  | y :: l => if x.cps.toList < y.cps.toList then x :: y :: l else y :: insT x l
def srtT : List Str → List Str
  | [] => []
  | x :: l => insT x (srtT l)
def NotA (a b : Str) : Prop := ¬ b.cps.toList < a.cps.toList
theorem insT_perm (x : Str) : ∀ l, (insT x l).Perm (x :: l)
  | [] => .refl _
  | y :: l => by
    unfold insT
    split
    · exact .refl _
    · exact ((insT_perm x l).cons y).trans (.swap x y l)
theorem srtT_perm : ∀ l, (srtT l).Perm l
  | [] => .refl _
  | x :: l => (insT_perm x (srtT l)).trans ((srtT_perm l).cons x)
theorem nat_lt_tri : ∀ a b : List Nat, ¬ a < b → ¬ b < a → a = b
  | [], [], _, _ => rfl
  | [], _ :: _, h, _ => absurd (List.Lex.nil) h
  | _ :: _, [], _, h => absurd (List.Lex.nil) h
  | x :: a, y :: b, h, g => by
    have e : x = y := by
      rcases Nat.lt_trichotomy x y with c | c | c
      · exact absurd (List.Lex.rel c) h
      · exact c
      · exact absurd (List.Lex.rel c) g
    subst e
    rw [nat_lt_tri a b (fun z => h (List.Lex.cons z)) (fun z => g (List.Lex.cons z))]
theorem NotA.trans {a b c : Str} (h : NotA a b) (g : NotA b c) : NotA a c := fun z => by
  have q1 : b.cps.toList ≤ c.cps.toList := g
  have q2 : a.cps.toList ≤ b.cps.toList := h
  exact absurd z (show ¬ (c.cps.toList < a.cps.toList) from List.not_lt.mpr (List.le_trans q2 q1))
theorem NotA.anti {a b : Str} (h : NotA a b) (g : NotA b a) : a = b := by
  have e := nat_lt_tri _ _ g h
  obtain ⟨⟨x⟩⟩ := a
  obtain ⟨⟨y⟩⟩ := b
  have e : x = y := e
  rw [e]
theorem insT_pw {x : Str} : ∀ {l : List Str}, l.Pairwise NotA → (insT x l).Pairwise NotA
  | [], _ => List.pairwise_singleton _ _
  | y :: l, h => by
    obtain ⟨h1, h2⟩ := List.pairwise_cons.mp h
    unfold insT
    split
    · rename_i c
      have cy : NotA x y := fun z => List.lt_asymm c z
      exact List.pairwise_cons.mpr ⟨fun z hz => by
        rcases List.mem_cons.mp hz with e | e
        · rw [e]; exact cy
        · exact cy.trans (h1 z e), h⟩
    · rename_i c
      refine List.pairwise_cons.mpr ⟨fun z hz => ?_, insT_pw h2⟩
      rcases List.mem_cons.mp ((insT_perm x l).mem_iff.mp hz) with e | e
      · rw [e]; exact c
      · exact h1 z e
theorem srtT_pw : ∀ l, (srtT l).Pairwise NotA
  | [] => List.Pairwise.nil
  | x :: l => insT_pw (srtT_pw l)
theorem srtT_uniq : ∀ {a b : List Str}, a.Perm b → a.Pairwise NotA → b.Pairwise NotA → a = b
  | [], b, p, _, _ => (List.Perm.nil_eq p)
  | x :: a, [], p, _, _ => absurd p.length_eq (by simp)
  | x :: a, y :: b, p, h, g => by
    obtain ⟨h1, h2⟩ := List.pairwise_cons.mp h
    obtain ⟨g1, g2⟩ := List.pairwise_cons.mp g
    have e : x = y := by
      rcases List.mem_cons.mp (p.mem_iff.mp List.mem_cons_self) with c | c
      · exact c
      · rcases List.mem_cons.mp (p.mem_iff.mpr (List.mem_cons_self (a := y))) with d | d
        · exact d.symm
        · exact (h1 y d).anti (g1 x c)
    subst e
    rw [srtT_uniq ((List.perm_cons x).mp p) h2 g2]
theorem rising_pw : ∀ {l : List Str} {p : Str}, risingS p l = true → (∀ y ∈ l, NotA p y) ∧ l.Pairwise NotA
  | [], _, _ => ⟨(fun _ h => nomatch h), List.Pairwise.nil⟩
  | x :: r, p, h => by
    have h' : (!ltCps x.cps.toList p.cps.toList && risingS x r) = true := h
    simp only [Bool.and_eq_true, Bool.not_eq_true'] at h'
    obtain ⟨a, b⟩ := h'
    obtain ⟨c, d⟩ := rising_pw b
    rw [ltCps_eq] at a
    have a' : NotA p x := of_decide_eq_false a
    refine ⟨fun y hy => ?_, List.pairwise_cons.mpr ⟨c, d⟩⟩
    rcases List.mem_cons.mp hy with e | e
    · rw [e]; exact a'
    · exact a'.trans (c y e)
theorem sorted_pw : ∀ {l : List Str}, sortedS l = true → l.Pairwise NotA
  | [], _ => List.Pairwise.nil
  | x :: r, h => by
    obtain ⟨c, d⟩ := rising_pw (show risingS x r = true from h)
    exact List.pairwise_cons.mpr ⟨c, d⟩
theorem srtT_of {a b : List Str} (p : a.Perm b) (h : sortedS a = true) : a = srtT b := srtT_uniq (p.trans (srtT_perm b).symm) (sorted_pw h) (srtT_pw b)
/-- each text once -/
def ddG (σ : List Str) : List Str → List Str
  | [] => σ
  | x :: l => ddG (if x ∈ σ then σ else x :: σ) l
def ddT (l : List Str) : List Str := ddG [] l
theorem ddG_mem : ∀ (l σ : List Str) (k : Str), k ∈ ddG σ l ↔ k ∈ σ ∨ k ∈ l
  | [], σ, k => by simp [ddG]
  | x :: l, σ, k => by
    unfold ddG
    rw [ddG_mem l]
    split
    · rename_i c
      constructor
      · rintro (h | h)
        · exact .inl h
        · exact .inr (List.mem_cons_of_mem _ h)
      · rintro (h | h)
        · exact .inl h
        · rcases List.mem_cons.mp h with e | e
          · rw [e]; exact .inl c
          · exact .inr e
    · simp only [List.mem_cons]
      constructor
      · rintro ((h | h) | h)
        · exact .inr (.inl h)
        · exact .inl h
        · exact .inr (.inr h)
      · rintro (h | h | h)
        · exact .inl (.inr h)
        · exact .inl (.inl h)
        · exact .inr h
theorem ddT_mem {l : List Str} {k : Str} : k ∈ ddT l ↔ k ∈ l := by
  rw [ddT, ddG_mem]
  simp
theorem ddG_nodup : ∀ (l σ : List Str), σ.Nodup → (ddG σ l).Nodup
  | [], σ, h => h
  | x :: l, σ, h => by
    unfold ddG
    split
    · exact ddG_nodup l σ h
    · rename_i c
      exact ddG_nodup l _ (List.nodup_cons.mpr ⟨c, h⟩)
theorem ddT_nodup (l : List Str) : (ddT l).Nodup := ddG_nodup l [] List.nodup_nil
theorem ddG_len : ∀ (l σ : List Str), (ddG σ l).length ≤ σ.length + l.length
  | [], σ => by simp [ddG]
  | x :: l, σ => by
    unfold ddG
    refine Nat.le_trans (ddG_len l _) ?_
    split <;> simp only [List.length_cons] <;> omega
theorem ddT_len (l : List Str) : (ddT l).length ≤ l.length := by
  have := ddG_len l []
  simpa [ddT] using this
/-- sorted(set(l)) -/
def bSSet : FM := fun ds h => match ds with
  | [d] => match lsOf h d with
    | some l => match strsOf l with
      | some ws => if ws.length < 4095 then .ok (.lst ((srtT (ddT ws)).map D.str)) h else .err
      | none => .err
    | none => .err
  | _ => .err
theorem nox_bSSet : ∀ a h, NoX (bSSet a h) := by intro a h e g; unfold bSSet; repeat' split
                                                 all_goals simp
structure TxK (w : World) (D : SD) : Prop where
  ris : Ris D.2.2.place.toList
  led : w.params.followText "set-order" = true ∨ D.2.2.led = true
theorem TxK.tail {w : World} {ep : Nat} {es : Array (Int × Value)} {t : SetTable} {b : Bool} (r : Ris t.place.toList) (l : w.params.followText "set-order" = true ∨ t.led = true) : TxK w (tailTx ep es t b) := by
  unfold tailTx
  by_cases c : (!b && t.tooFull) = true
  · rw [if_pos c]
    exact ⟨relayAll_ris _ _ _, by rw [relayAll_led]; exact l⟩
  · rw [if_neg c]
    exact ⟨r, l⟩
theorem TxK.add {w : World} {D : SD} {h : Int} {v : Value} (x : TxK w D) : TxK w (addTx h v D) := by
  obtain ⟨es, ep, t⟩ := D
  obtain ⟨r, l⟩ := x
  have r1 := layNew_ris t es h v r
  have l1 : w.params.followText "set-order" = true ∨ (layNew t es h v).2.1.led = true := by rw [layNew_led]; exact l
  unfold addTx
  refine TxK.tail ?_ ?_
  · split <;> exact r1
  · split <;> exact l1
section
variable {P : Program} {w : World} {A : Around} {E : Value → Shared → Prop} {s : Shared}
/-- a text that is there already -/
theorem add_old {a : Addr} {D : SD} {l : List Str} {k : Str} {u : Tok} {Q : Bool → Shared → Prop} (ho : s.heap.get? a = some (sObj "set" D)) (F : TxOk P w D l) (hk : k ∈ l) (hb : l.length < scanBound)
    (h : Q false s) : wpAny (model P w) A (setAddHashed a (.str k u) (hashStr w k)) Q E s := by
  obtain ⟨es, ep, t⟩ := D
  have hfit : t.fits es.size = true := F.fit
  have hall : ElemsOf (strKind P w) es.toList := F.el
  have hn : es.size = l.length := F.sz
  have hbs : es.size < scanBound := by rw [hn]; exact hb
  have hkk := is_str (P := P) (w := w) k u
  obtain ⟨e0, he0, hi0⟩ := (F.mem k).mp hk
  unfold setAddHashed setAddHashedIn
  refine wpAny_holding (wpAny_bind (wpAny_setState_of ho (show (sObj "set" (es, ep, t)).data = .set es ep t from rfl) hfit ?_))
  dsimp only
  rw [byScan_of (show (Value.str k u).scannable = true from rfl) hbs hall]
  simp only [↓reduceIte]
  unfold setAddByScan
  refine wpAny_bind (wpAny_bind (wpAny_rule ?_))
  refine wpAny_bind (wpAny_setScan_of (knd := strKind P w) (k := k) hkk ho (show (sObj "set" (es, ep, t)).data = .set es ep t from rfl) hfit hall ?_)
  cases hq : List.findIdx? (fun e => (strKind P w).is k e.2) es.toList with
  | some j => exact wpAny_pure (wpAny_pure h)
  | none =>
    have c := List.findIdx?_eq_none_iff.mp hq e0 he0
    rw [hi0] at c
    cases c
def fmT (val : Nat → Str) (i : Nat) : List Str := ddT ((List.range i).map val)
theorem ddG_snoc : ∀ (l σ : List Str) (x : Str), ddG σ (l ++ [x]) = if x ∈ ddG σ l then ddG σ l else x :: ddG σ l
  | [], σ, x => rfl
  | y :: l, σ, x => ddG_snoc l _ x
theorem fmT_succ (val : Nat → Str) (i : Nat) : fmT val (i + 1) = if val i ∈ fmT val i then fmT val i else val i :: fmT val i := by
  unfold fmT ddT
  rw [List.range_succ, List.map_append]
  exact ddG_snoc _ _ _
theorem fmT_len (val : Nat → Str) (i : Nat) : (fmT val i).length ≤ i := by
  have := ddT_len ((List.range i).map val)
  simpa [fmT] using this
/-- the set at a holds the texts l -/
def SetSt (P : Program) (w : World) (h : Heap) (a : Addr) (l : List Str) : Prop := ∃ D, h.get? a = some (sObj "set" D) ∧ TxOk P w D l ∧ TxK w D
theorem SetSt.at {P : Program} {w : World} {h h' : Heap} {a : Addr} {l : List Str} (x : SetSt P w h a l) (k : ∀ o, h.get? a = some o → h'.get? a = some o) : SetSt P w h' a l := by
  obtain ⟨D, h1, r⟩ := x
  exact ⟨D, k _ h1, r⟩
theorem strs_at : ∀ {vs : List Value} {ws : List Str}, StrsAre vs ws → ∀ (i : Nat) (v : Value), vs[i]? = some v → ∃ t, v = .str (ws.getD i default) t
  | _, _, .nil, i, v, e => by simp at e
  | _, _, .cons y t r, 0, v, e => ⟨t, (Option.some.inj e).symm⟩
  | _, _, .cons y t r, i + 1, v, e => strs_at r i v (by simpa using e)
theorem getD_range (ws : List Str) : (List.range ws.length).map (fun i => ws.getD i default) = ws := by
  apply List.ext_getElem
  · simp
  · intro i h1 h2
    simp only [List.getElem_map, List.getElem_range]
    rw [List.getD_eq_getElem?_getD, List.getElem?_eq_getElem h2]
    rfl
theorem loop_setT {R : Result → Shared → Prop} {I : Addr} {fp wr : List Addr} {G : Array GenState → Array GenState → Prop} {n : Nat} {Pv : Nat → Value → Prop} {St : Nat → Shared → Prop} (W : WalksS P w A.in1 I fp wr G n Pv St) {S : Addr} (hS : S ∉ fp)
    {val : Nat → Str} (hv : ∀ i v, Pv i v → ∃ t, v = .str (val i) t) (hb : n + 1 < scanBound) : ∀ (k i : Nat) (s : Shared), n - i = k → i ≤ n → St i s → SetSt P w s.heap S (fmT val i) →
      (∀ s', Moved (S :: wr) G s s' → SetSt P w s'.heap S (fmT val n) → R (.ok (.ret .none)) s') → codeAny (model P w) A (.builtin "set.update.loop" ⟨[.ref S, .ref I], []⟩) R s := by
  have hw : S ∉ wr := fun z => hS (W.sub _ z)
  intro k
  induction k with
  | zero =>
    intro i s e hi st hs hR
    have hin : i = n := by omega
    subst hin
    refine codeAny_builtin F.entry_set_update_loop ?_
    rw [Around.under_plainId F.plain_set_update_loop _]
    show wpAny _ A.in1 (pyNext (.ref I) >>= _) _ _ s
    refine wpAny_bind (W.done s _ _ st fun s' mv => wpAny_pure (hR s' (mv.mono fun b z => List.mem_cons_of_mem _ z) (hs.at fun o q => mv.heap S o hw q)))
  | succ k ih =>
    intro i s e hi st hs hR
    have hlt : i < n := by omega
    refine codeAny_builtin F.entry_set_update_loop ?_
    rw [Around.under_plainId F.plain_set_update_loop _]
    show wpAny _ A.in1 (pyNext (.ref I) >>= _) _ _ s
    refine wpAny_bind (W.item i s _ _ hlt st fun v s1 hp st1 mv => ?_)
    obtain ⟨t, rfl⟩ := hv i v hp
    obtain ⟨D, hD, TF, TK⟩ := hs.at (h' := s1.heap) fun o q => mv.heap S o hw q
    have mv' := mv.mono (wr' := S :: wr) fun b z => List.mem_cons_of_mem _ z
    show wpAny _ A.in1 (holding [Value.str (val i) t] (setAdd S (.str (val i) t)) >>= _) _ _ s1
    refine wpAny_bind (wpAny_holding ?_)
    unfold setAdd
    refine wpAny_holding (wpAny_bind ((strKind P w).pyHash (is_str (val i) t) ?_))
    have hl := fmT_len val i
    by_cases c : val i ∈ fmT val i
    · refine add_old (s := { s1 with toks := s1.toks + 1 }) hD TF c (by omega) ?_
      have e2 : fmT val (i + 1) = fmT val i := by rw [fmT_succ, if_pos c]
      refine wpAny_pure ⟨plainId_quiet F.plain_set_update_loop _, ih (i + 1) _ (by omega) hlt (W.frame _ s1 s1.heap _ st1 (Nat.le_succ _) fun b _ o q => q) (by rw [e2]; exact ⟨D, hD, TF, TK⟩) fun s2 mv2 h2 => ?_⟩
      exact hR s2 (Moved.trans W.gtrans (mv'.then_heap (h' := s1.heap) (Nat.le_succ _) fun b o _ q => q) mv2) h2
    · refine add_x (s := { s1 with toks := s1.toks + 1 }) hD TF c (by omega) ?_
      have e2 : fmT val (i + 1) = val i :: fmT val i := by rw [fmT_succ, if_neg c]
      have oth : ∀ b o, b ≠ S → s1.heap.get? b = some o → (s1.heap.update S (fun _ => sObj "set" (addTx (hashStr w (val i)) (.str (val i) t) D))).get? b = some o := fun b o hbS q => (Heap.get?_update_other _ _ (Ne.symm hbS)).trans q
      refine wpAny_pure ⟨plainId_quiet F.plain_set_update_loop _, ih (i + 1) _ (by omega) hlt (W.frame _ s1 _ _ st1 (Nat.le_succ _) fun b hbf o q => oth b o (fun z => hS (z ▸ hbf)) q) (by rw [e2]; exact ⟨_, get_upd _ hD rfl, add_ok t TF, TK.add⟩) fun s2 mv2 h2 => ?_⟩
      exact hR s2 (Moved.trans W.gtrans (mv'.then_heap (Nat.le_succ _) fun b o hbn q => oth b o (fun z => hbn (by rw [z]; exact List.mem_cons_self)) q) mv2) h2
/-- an empty set -/
def emptyS (w : World) : Obj := sObj "set" (#[], 0, .fresh 0 0 (!w.params.followText "set-order"))
theorem emptyS_ok {h : Heap} {a : Addr} (e : h.get? a = some (emptyS w)) : SetSt P w h a [] := by
  refine ⟨_, e, TxOk.nil (by rfl), ⟨List.Pairwise.nil, ?_⟩⟩
  show _ ∨ (!w.params.followText "set-order") = true
  cases w.params.followText "set-order"
  · exact .inr rfl
  · exact .inl rfl
theorem code_newT (a : Value) {Q₁ : Value → Shared → Prop} (h : Q₁ (.ref s.heap.objs.size) { s with heap := s.heap.push (emptyS w) }) : codeAny (model P w) A (.call (.builtin "set.__new__") ⟨[.type "set", a], []⟩) (wants Q₁ E) s := by
  refine codeAny_of_tree (show wpAny _ A.in1 (do checkBuiltinCall "set.__new__" ⟨[.type "set", a], []⟩; again (.builtin "set.__new__" ⟨[.type "set", a], []⟩)) _ _ s from wpAny_bind (wpAny_of_eq (F.newCall_set_1 a) (wpAny_pure ⟨plainId_quiet F.plain_set_new _, codeAny_builtin F.entry_set_new ?_⟩)))
  rw [Around.under_plainId F.plain_set_new _]; unfold Builtin.«set.__new__» Builtin.Frozenset.newClass
  have hsub := sub_set_self
  obtain ⟨hp, g, d, tk, os⟩ := s
  dsimp only; wp_walk
  refine wpAny_askSetting (wpAny_pure ?_); dsimp only
  simp only [newObj]; exact wpAny_bind (wpAny_alloc (wpAny_pure (wpAny_pure h)))
theorem call_setT {l : Addr} {items : Array Value} {ws : List Str} {Q : Value → Shared → Prop} (hh : A.handled = none) (hl : s.heap.IsList l items) (hi : StrsAre items.toList ws) (hb : items.size + 1 < scanBound)
    (h : ∀ (h' : Heap) (tk : Nat), SetSt P w h' s.heap.objs.size (ddT ws) → (∀ b o, s.heap.get? b = some o → h'.get? b = some o) → Q (.ref s.heap.objs.size) { s with heap := h', toks := tk }) :
    wpAny (model P w) A (call (.type "set") [.ref l]) Q E s := by
  obtain ⟨c, tl, hmro⟩ := F.called_set.mro
  have hmade := F.called_set.made; have hsub := F.called_set.sub
  refine wpAny_call (codeAny_of_tree (show wpAny _ _ (callAny (.type "set") _) _ _ _ from wpAny_pure ⟨Code.quiet_builtin _ (by decide +kernel), codeAny_builtin F.entry_type_call ?_⟩))
  rw [Around.under_plain (weight_type_call_type "set" [.ref l] []) rfl]
  have h1 := F.called_set.notType; have h2 := F.called_set.canCreate
  have hct := F.typeCall_set_1 (.ref l)
  repeat (any_goals (first | assumption | wp_step))
  refine codeAny_mono (code_newT (.ref l) (E := E) (Q₁ := fun obj s₁ => obj = .ref s.heap.objs.size ∧ s₁ = { s with heap := s.heap.push (emptyS w) }) ⟨rfl, rfl⟩) fun r s₁ hr => ?_
  cases r with
  | error e => exact hr
  | ok fl =>
    cases fl with
    | ret obj =>
      obtain ⟨rfl, rfl⟩ := hr
      have hS : (s.heap.push (emptyS w)).get? s.heap.objs.size = some (emptyS w) := Heap.get?_push_size _ rfl
      have hT : Shared.TypeIs { s with heap := s.heap.push (emptyS w) } (.ref s.heap.objs.size) "set" := ⟨_, hS, rfl⟩
      have hli := F.called_set.init.lookup; have hbi := F.called_set.init.bind (.ref s.heap.objs.size)
      repeat (any_goals (first | assumption | wp_step))
      refine codeAny_mono (codeAny_call_builtin (R := wants (fun r s₂ => r = .none ∧ ∃ h' tk, s₂ = { s with heap := h', toks := tk } ∧ SetSt P w h' s.heap.objs.size (ddT ws) ∧ ∀ b o, s.heap.get? b = some o → h'.get? b = some o) E) F.called_set.init.plain F.entry_set_init (check_set_init_1 hT ?_)) fun r₂ s₂ hr₂ => ?_
      · obtain ⟨ol, hol, hcl, nl, hdl⟩ := hl
        obtain ⟨ocls, odict, odata, oslots⟩ := ol
        simp only at hcl hdl; subst hcl hdl
        have hol' : (s.heap.push (emptyS w)).get? l = some { cls := .type "list", dict := odict, data := .seq items nl, slots := oslots } := Heap.get?_push_of_some _ hol
        have hsls := F.sub_list_set; have hslf := F.sub_list_frozenset
        have hne : (Value.type "list" == Value.type "dict") = false := by decide
        have hl1 : (s.heap.push (emptyS w)).IsList l items := ⟨_, hol', rfl, nl, rfl⟩
        unfold Builtin.«set.__init__» noKeywords Builtin.Frozenset.updateFrom
        generalize hPI : pyIter = PI
        wp_walk; subst hPI
        refine wpAny_pyIter_list hl1 (wpAny_bind (wpAny_runValue ?_))
        have hlS : l < s.heap.objs.size := Heap.lt_size hol
        have hz : (s.heap.push (emptyS w)).objs.size = s.heap.objs.size + 1 := size_push' _ _
        have hneI : l ≠ (s.heap.push (emptyS w)).objs.size := by rw [hz]; exact Nat.ne_of_lt (Nat.lt_succ_of_lt hlS)
        have hSf : s.heap.objs.size ∉ [(s.heap.push (emptyS w)).objs.size, l] := by
          rw [hz]; intro z; rcases List.mem_cons.mp z with z | z
          · exact Nat.ne_of_lt (Nat.lt_succ_self _) z
          · exact Nat.ne_of_gt hlS (List.mem_singleton.mp z)
        have hlen : ws.length = items.size := by rw [← hi.length]; simp
        refine loop_setT ((Walks.list (by simp [hh]) _ l hneI items).toS) (S := s.heap.objs.size) hSf (val := fun i => ws.getD i default) (fun i v q => strs_at hi i v (by rw [Array.getElem?_toList]; exact q)) hb (items.size - 0) 0 _ (by omega) (Nat.zero_le _)
          ⟨⟨_, Heap.get?_push_size _ rfl, rfl, rfl⟩, (hl1.push _)⟩ (emptyS_ok (Heap.get?_push_of_some _ hS)) fun s' hm hset => ?_
        obtain ⟨h', g', d', tk', os'⟩ := s'
        have eg : g' = s.gens := hm.gens; have ed : d' = s.drawn := hm.drawn; have eo : os' = s.os := hm.os
        subst eg; subst ed; subst eo
        refine (show wpAny _ _ _ _ _ _ from wpAny_pure ?_)
        refine (show wpAny _ _ (ret Value.none) _ _ _ from wpAny_pure ⟨rfl, h', tk', rfl, ?_, fun b o e => ?_⟩)
        · have q : fmT (fun i => ws.getD i default) items.size = ddT ws := by unfold fmT; rw [← hlen, getD_range]
          rw [← q]; exact hset
        · have hb0 := Heap.lt_size e
          refine hm.heap b o (fun z => ?_) (Heap.get?_push_of_some _ (Heap.get?_push_of_some _ e))
          rcases List.mem_cons.mp z with z | z
          · exact Nat.ne_of_lt hb0 z
          · exact Nat.ne_of_lt (Nat.lt_succ_of_lt hb0) ((List.mem_singleton.mp z).trans hz)
      · cases r₂ with
        | error e => exact hr₂
        | ok fl₂ =>
          cases fl₂ with
          | ret r =>
            obtain ⟨rfl, h', tk, rfl, hS', hk'⟩ := hr₂
            repeat (any_goals (first | assumption | wp_step))
            exact h _ _ hS' hk'
          | _ => exact hr₂.elim
    | _ => exact hr.elim
end
theorem perm_of_sub : ∀ {l m : List Str}, l.Nodup → (∀ x ∈ l, x ∈ m) → m.length ≤ l.length → m.Perm l
  | [], m, _, _, h => by
    have e : m = [] := List.eq_nil_of_length_eq_zero (by simpa using h)
    rw [e]
  | x :: l, m, nd, sb, h => by
    obtain ⟨n1, n2⟩ := List.nodup_cons.mp nd
    obtain ⟨a, b, e⟩ := List.append_of_mem (sb x List.mem_cons_self)
    subst e
    have p1 : (a ++ x :: b).Perm (x :: (a ++ b)) := List.perm_middle
    refine p1.trans ((perm_of_sub n2 (fun y hy => ?_) ?_).cons x)
    · have q := sb y (List.mem_cons_of_mem _ hy)
      rcases List.mem_append.mp q with z | z
      · exact List.mem_append_left _ z
      · rcases List.mem_cons.mp z with z | z
        · exact absurd (z ▸ hy) n1
        · exact List.mem_append_right _ z
    · simp only [List.length_append, List.length_cons] at h ⊢
      omega
def txV : Value → Str
  | .str x _ => x
  | _ => default
theorem txV_are : ∀ {vs : List Value}, (∀ v ∈ vs, ∃ x t, v = Value.str x t) → StrsAre vs (vs.map txV)
  | [], _ => .nil
  | v :: vs, h => by
    obtain ⟨x, t, e⟩ := h v List.mem_cons_self
    subst e
    exact .cons x t (txV_are fun u hu => h u (List.mem_cons_of_mem _ hu))
section
variable {P : Program} {w : World} {A : Around} {E : Value → Shared → Prop} {s : Shared}
theorem sorted_setT {a : Addr} {l : List Str} {Q : Value → Shared → Prop} (R : SetSt P w s.heap a l) (nd : l.Nodup) (hh : A.handled = none) (hb : l.length < scanBound)
    (hQ : ∀ s' p (out : Array Value) (c : Nat) (ns : List Str), (∀ b o, s.heap.get? b = some o → s'.heap.get? b = some o) → s'.gens = s.gens → s'.os = s.os → s.heap.objs.size ≤ p →
      s'.heap.get? p = some (seqObj "list" out c) → StrsAre out.toList ns → ns.Perm l → sortedS ns = true → Q (.ref p) s') : wpAny (model P w) A (call (.builtin "sorted") [.ref a]) Q E s := by
  obtain ⟨⟨es, ep, t⟩, hD, TF, TK⟩ := R
  have hall : ElemsOf (strKind P w) es.toList := TF.el
  have hmem : ∀ k : Str, k ∈ l ↔ ∃ e ∈ es.toList, (strKind P w).is k e.2 = true := TF.mem
  have hn : es.size = l.length := TF.sz
  have hsl : es.size ≤ sizeLine := fits_of_scanBound (by rw [hn]; exact hb)
  refine Calls.call_function_entry kind_sorted plain_sorted entry_sorted (args_sorted1 _) ?_
  unfold Builtin.«sorted»; refine wpAny_bind (m := checkCount "sorted" 1 1 _) (wpAny_pure ?_)
  refine wpAny_bind (collect_set (A := A.in1) hh ⟨_, hD, rfl, rfl⟩ TF.fit (by rw [hn]; exact hb) TK.ris TK.led fun s1 vs k1 hz g1 o1 pm => ?_)
  have hvl : vs.length = l.length := by rw [pm.length_eq, List.length_map, Array.length_toList]; exact hn
  have shp : ∀ v ∈ vs, ∃ x u, v = Value.str x u := fun v hv => by
    obtain ⟨e, he, q⟩ := List.mem_map.mp (pm.mem_iff.mp hv)
    obtain ⟨⟨k, hk, _⟩, _⟩ := hall e he
    obtain ⟨u, hu⟩ := Value.isStrOf_shape hk
    exact ⟨k, u, by rw [← q]; exact hu⟩
  have hI := txV_are shp
  have pk : (vs.map txV).Perm l := by
    refine perm_of_sub nd (fun x hx => ?_) (by rw [List.length_map, hvl]; exact Nat.le_refl _)
    obtain ⟨e, he, hi⟩ := (hmem x).mp hx
    obtain ⟨u, hu⟩ := Value.isStrOf_shape hi
    have q : e.2 ∈ vs := pm.mem_iff.mpr (List.mem_map_of_mem he)
    exact List.mem_map.mpr ⟨e.2, q, by rw [hu]; rfl⟩
  refine wpAny_bind (wpAny_newList ?_ (by rw [hvl, ← hn]; exact hsl))
  have hoL : (s1.heap.push (seqObj "list" vs.toArray 0)).get? s1.heap.objs.size = some (seqObj "list" vs.toArray 0) := Heap.get?_push_size _ rfl
  refine wpAny_bind (wpAny_holding (wpAny_call_entry slot_list_sort ⟨_, hoL, rfl⟩ entry_list_sort (list_sort_treeKAny strKind_oneLt hoL hI.keysOf (fun v1 v2 rest e => keyKind_strs (by rw [← e]; exact hI)) (by rw [hvl, ← hn]; exact hsl) fun st' hp hs => ?_) (args_list_sort _)))
  obtain ⟨ns, h1, h2, h3⟩ := sorted_out_str hI hp hs
  obtain ⟨c, hc⟩ := sortedHeap_at (vs := vs) (out := (arrOf st').map (·.2)) hoL
  refine ⟨_, rfl, wpAny_pure ⟨_, rfl, hQ _ s1.heap.objs.size _ c ns (fun b u e => ?_) g1 o1 hz hc h1 (h2.trans pk) h3⟩⟩
  have q := k1 b u e
  have hlt := Heap.lt_size q
  show (sortedHeap (s1.heap.push (seqObj "list" vs.toArray 0)) s1.heap.objs.size vs _).get? b = some u
  rw [sortedHeap_old (Nat.ne_of_lt hlt) (by rw [size_push']; exact Nat.lt_succ_of_lt hlt)]; exact Heap.get?_push_of_some _ q
end
def SetTO (P : Program) (w : World) (a : Addr) (l : List Str) : HO := .ext fun h => SetSt P w h a l
section
variable {X : Cx} {C : Cn} {E : WX}
theorem setTO_new {w : World} {P : Program} {H : Hp} {h : Heap} {a : Addr} {l : List Str} (R : SetSt P w h a l) : ObjOk P w H h a (SetTO P w a l) :=
  ⟨R, R.elim fun D r => ⟨_, r.1⟩, fun _ _ p k => SetSt.at p k⟩
def rSetT (X : Cx) : List V → Hp → VK → Prop := fun xs H Q => ∃ (a : Addr) (ws : List Str), xs = [V.ref a] ∧ H a = some (.lst (ws.map V.str)) ∧ ws.length < 4095 ∧ ∀ p, H p = none → Q (.ref p) (upd H p (SetTO X.prog X.w p (ddT ws)))
theorem cr_setT (hc : X.calm = true) : CallR X (.type "set") (rSetT X) := by
  intro pins s σ H xs us Q I r ⟨a, ws, e, ha, hlen, q⟩
  subst e
  obtain ⟨its, rv, hl, _⟩ := I.list (.inl (.inl ha))
  rw [Vals.ref1 r]
  have hS := rv.strs
  have hn : its.length = ws.length := by have := rv.length; rw [List.length_map] at this; exact this.symm
  refine call_setT (I.ok.hd hc) hl.isList (by simpa using hS) (by rw [List.size_toArray, hn]; show _ < 4096; omega) fun h' tk hs k => ?_
  exact ⟨.ref s.heap.objs.size, _, I.laid (t' := tk) k (Nat.le_refl _) (setTO_new hs), rfl, q _ (I.hok.fresh (Nat.le_refl _))⟩
def rSrtT (X : Cx) : List V → Hp → VK → Prop := fun xs H Q => ∃ (a : Addr) (l : List Str), xs = [V.ref a] ∧ H a = some (SetTO X.prog X.w a l) ∧ l.Nodup ∧ l.length < 4096 ∧
  ∀ (ns : List Str) (p : Addr), ns.Perm l → sortedS ns = true → H p = none → Q (.ref p) (upd H p (.lst (ns.map V.str)))
theorem cr_sortT (hc : X.calm = true) : CallR X (.builtin "sorted") (rSrtT X) := by
  intro pins s σ H xs us Q I r ⟨a, l, e, ha, nd, hb, q⟩
  subst e
  rw [Vals.ref1 r]
  refine sorted_setT ((I.hok a _ ha).1) nd (I.ok.hd hc) hb fun s' p out c ns k g o hp hg hi pm hs => ?_
  have hlen : (ns.map V.str).length ≤ sizeLine := by rw [List.length_map, pm.length_eq, sizeLine_eq]; omega
  have hn : H p = none := I.hok.fresh hp
  have J : Inv X pins σ (upd H p (.lst (ns.map V.str))) { s with heap := s'.heap, gens := s'.gens, drawn := s'.drawn, toks := s'.toks } :=
    I.call (ch := []) (Un.laid k hp hn) (I.hok.laid k hp ⟨hlen, out.toList, c, vals_of_strs hi, hg⟩) (by rw [g]; exact I.bare) (fun _ z => nomatch z)
  have e : s' = { s with heap := s'.heap, gens := s'.gens, drawn := s'.drawn, toks := s'.toks } := by
    cases s'; cases s; cases o; rfl
  rw [e]
  exact ⟨.ref p, _, J, rfl, q ns p pm hs hn⟩
theorem repS_rep {Z : Hp} {m : List Addr} : ∀ ns : List Str, RepL C Z m (ns.map D.str) (ns.map V.str)
  | [] => .nil
  | n :: ns => .cons (.str n) (repS_rep ns)
theorem sset_den {xs : List V} {H : Hp} {Q : VK} (r : rDF C bSSet xs H Q) : rSetT X xs H fun y H2 => rSrtT X [y] H2 Q := by
  obtain ⟨Z, m, h, ds, sm, rd, p⟩ := r
  unfold bSSet at p
  split at p
  · obtain ⟨x, rfl, rx⟩ := repL_one rd
    split at p
    · rename_i l hl
      obtain ⟨a, vs, rfl, hv, rl⟩ := ls_at sm rx hl
      split at p
      · rename_i ws hws
        have el := strsOf_eq hws
        subst el
        have ev := rl.strs
        subst ev
        split at p
        · rename_i hlen
          refine ⟨a, ws, rfl, hv, hlen, fun b hb => ⟨b, _, rfl, upd_same, ddT_nodup _, Nat.lt_of_le_of_lt (ddT_len ws) (by omega), fun ns q pm hs hq => ?_⟩⟩
          rw [srtT_of pm hs]
          have s1 := sm.lay hb (SetTO X.prog X.w b (ddT ws))
          have x1 := Ext.lay sm hb (SetTO X.prog X.w b (ddT ws))
          have x2 := Ext.lay s1 hq (.lst ((srtT (ddT ws)).map V.str))
          exact p _ _ _ _ (x1.trans x2) (s1.lay hq _) (.lst upd_same (repS_rep _))
        · exact False.elim p
      · exact False.elim p
    · exact False.elim p
  · exact False.elim p
/-- sorted(set(a)), texts -/
theorem de_sset {x y : Str} {p q pos pos2 : Pos} {a : Expr} {fa : EM} (hc : X.calm = true) (hg : Gl X x) (hm : X.mg x = none) (hv : bootBuiltins x = some (.builtin "sorted")) (hg2 : Gl X y) (hm2 : X.mg y = none) (hv2 : bootBuiltins y = some (.type "set")) (ha : PE X a (denE C E fa))
    (hn : x ≠ "__name__" := by decide) (hdb : (x == ("__debug__" : Str)) = false := by decide) (hn2 : y ≠ "__name__" := by decide) (hdb2 : (y == ("__debug__" : Str)) = false := by decide)
    (he : starEach [.Call (.Name y q) [a] [] pos2] X.env = (false, eval (.Call (.Name y q) [a] [] pos2) X.env) :: starEach [] X.env := by rfl) (hpl : (backTo pos (starEach [] X.env)).any (·.1) = false := by rfl)
    (he2 : starEach [a] X.env = (false, eval a X.env) :: starEach [] X.env := by rfl) (hpl2 : (backTo pos2 (starEach [] X.env)).any (·.1) = false := by rfl) :
    PE X (.Call (.Name x p) [.Call (.Name y q) [a] [] pos2] [] pos) (denE C E (eF bSSet (aC fa aN))) := by
  have h1 := pe_callTy (r := rSetT X) (p := q) (pos := pos2) (cr_setT hc) hg2 hm2 hv2 (da_cons ha (da_nil (C := C) (E := E)) he2) hn2 hdb2 he2 hpl2
  have h2 := pe_callB (r := rSrtT X) (p := p) (pos := pos) (cr_sortT hc) hg hm hv (pa_cons h1 pa_nil he) hn hdb he hpl
  exact pe_imp h2 fun σ H Q z => tCB_den (r := fun xs H1 Q => rSetT X xs H1 fun y H2 => rSrtT X [y] H2 Q) (fun _ _ _ z => sset_den z) nox_bSSet z
end
end Dn
set_option Elab.async false
set_option linter.all false
set_option maxRecDepth 100000
set_option maxHeartbeats 4000000
namespace Dn
open PySem PySem.Spec PyProof.Rows L2
end Dn
set_option Elab.async false
set_option linter.all false
set_option maxRecDepth 100000
set_option maxHeartbeats 4000000
namespace Dn
open PySem PySem.Spec PyProof.Rows L2 LamX
end Dn
set_option Elab.async false
set_option linter.all false
set_option maxRecDepth 100000
set_option maxHeartbeats 4000000
namespace Dn
open PySem PySem.Spec PyProof.Rows L2
end Dn
set_option Elab.async false
set_option linter.all false
set_option maxRecDepth 100000
set_option maxHeartbeats 4000000
namespace Dn
open PySem PySem.Spec PyProof.Rows L2
def opAddN (x y : D) (h : Hm) : R D := match lsOf h x, lsOf h y with
  | some a, some b => if a.length + b.length ≤ 16777216 then .ok (.ref h.length) (h ++ [.lst (a ++ b)]) else .err
  | _, _ => .err
theorem nox_addN : ∀ a b h, NoX (opAddN a b h) := by
  intro a b h e g
  unfold opAddN
  repeat' split
  all_goals simp
section
variable {X : Cx} {C : Cn}
theorem do_addN : OpR X (binaryOp .Add) (rD2 C opAddN) := by
  intro pins s σ H x y v u Q I rx ry ⟨Z, m, h, a, b, sm, ra, rb, p⟩
  unfold opAddN at p
  split at p
  · rename_i l1 l2 e1 e2
    obtain ⟨a1, v1, rfl, h1, r1⟩ := ls_at sm ra e1
    obtain ⟨a2, v2, rfl, h2, r2⟩ := ls_at sm rb e2
    split at p
    · rename_i hl
      refine op_cat pins s σ H _ _ v u Q I rx ry ⟨a1, a2, v1, v2, rfl, rfl, h1, h2, by rw [← r1.length, ← r2.length]; exact sz_le hl, fun q hq => ?_⟩
      exact p _ _ _ _ (Ext.alloc sm hq _) (sm.alloc hq fun H' e => ⟨_, e, (r1.append r2).mono (fun _ _ z => z) (List.prefix_append _ _)⟩) (.ref (at_new sm.len))
    · exact False.elim p
  · exact False.elim p
end
end Dn
set_option Elab.async false
set_option linter.all false
set_option maxRecDepth 100000
set_option maxHeartbeats 4000000
namespace Dn
open PySem PySem.Spec PyProof.Rows L2
end Dn
set_option Elab.async false
set_option linter.all false
set_option maxRecDepth 100000
set_option maxHeartbeats 4000000
namespace Dn
open PySem PySem.Spec PyProof.Rows L2
end Dn
set_option Elab.async false
set_option linter.all false
set_option maxRecDepth 100000
set_option maxHeartbeats 4000000
namespace Dn
open PySem PySem.Spec PyProof.Rows L2
/-- a def called from the very top -/
structure TopOk (P : Program) (w : World) (K : PySem.W.Frag) (mg : Str → Option Value) (base : Heap) (CX : CXT) (f : Addr) (fd : FuncData) (ps : List Str) (sp : Sp) : Prop where
  run : ∀ (st : Shared) (G : Hp) (us : List Value) (xs : List V) (R : VK) (Y : XK),
    Env0 P w K mg base callerA [] st G → BindsTo st fd ⟨us, []⟩ (ps.zip us) → Vals xs us → sp xs G R Y → codeAny (model P w) callerA (.call (.ref f) ⟨us, []⟩) (CR CX [] P w G st R Y) st
theorem TopOk.imp {P : Program} {w : World} {K : PySem.W.Frag} {mg : Str → Option Value} {base : Heap} {CX : CXT} {f : Addr} {fd : FuncData} {ps : List Str} {sp sp' : Sp} (F : TopOk P w K mg base CX f fd ps sp) (h : ∀ xs G R Y, sp' xs G R Y → sp xs G R Y) : TopOk P w K mg base CX f fd ps sp' :=
  ⟨fun st G us xs R Y a b c d => F.run st G us xs R Y a b c (h _ _ _ _ d)⟩
end Dn
set_option Elab.async false
set_option linter.all false
set_option maxRecDepth 100000
set_option maxHeartbeats 4000000
namespace Dn
open PySem PySem.Spec PyProof.Rows L2
end Dn
set_option Elab.async false
set_option linter.all false
set_option maxRecDepth 100000
set_option maxHeartbeats 4000000
namespace Dn
open PySem PySem.Spec PyProof.Rows L2
end Dn
set_option Elab.async false
set_option linter.all false
set_option maxRecDepth 100000
set_option maxHeartbeats 4000000
namespace Dn
open PySem PySem.Spec PyProof.Rows L2
end Dn
set_option Elab.async false
set_option linter.all false
set_option maxRecDepth 100000
set_option maxHeartbeats 4000000
namespace Dn
open PySem PySem.Spec PyProof.Rows L2
end Dn
set_option Elab.async false
set_option linter.all false
set_option maxRecDepth 100000
set_option maxHeartbeats 4000000
namespace Dn
open PySem PySem.Spec PyProof.Rows L2
def putFD (f : Str) (x : D) : List (Str × D) → List (Str × D)
  | [] => [(f, x)]
  | (g, d) :: r => if g = f then (g, x) :: r else (g, d) :: putFD f x r
structure CalM (P : Program) (w : World) (K : PySem.W.Frag) (mg : Str → Option Value) (base : Heap) (C : Cn) (CX : CXT) (k : Nat) (c m : Str) (ps : List Str) (fm : FM) : Prop where
  ok : ∃ (A f : Addr) (fd : FuncData), ClsK K c A ∧ Cls K A ∧ Meth K A m f ∧ FnOk P w K mg base CX k f fd ps (spD C fm) ∧ Binds K fd ps []
theorem CalM.tr {P : Program} {w : World} {K : PySem.W.Frag} {mg : Str → Option Value} {base : Heap} {C : Cn} {CX : CXT} {k : Nat} {c m : Str} {ps : List Str} {fm : FM} (x : CalM P w K mg base C CX k c m ps fm) : CalM P w K mg base C CX k c m ps (tr fm) := by
  obtain ⟨A, f, fd, a, b, c, d, e⟩ := x.ok
  exact ⟨A, f, fd, a, b, c, fn_tr d, e⟩
section
variable {C : Cn} {Z H : Hp} {m : List Addr} {h : Hm}
theorem RepF.put {x : D} {y : V} (f : Str) (r : Rep C Z m x y) : ∀ {fs : List (Str × D)} {gs : List (Str × V)}, RepF C Z m fs gs → RepF C Z m (putFD f x fs) (putF f y gs)
  | _, _, .nil => .cons r .nil
  | _, _, .cons (f := g) (d := d) (v := v) (ds := ds) (vs := vs) a b => by
    unfold putFD putF
    by_cases hk : g = f
    · rw [if_pos hk, if_pos hk]; exact .cons r b
    · rw [if_neg hk, if_neg hk]; exact .cons a (RepF.put f r b)
theorem RepF.length : ∀ {fs : List (Str × D)} {gs : List (Str × V)}, RepF C Z m fs gs → fs.length = gs.length
  | _, _, .nil => rfl
  | _, _, .cons _ b => by simp [RepF.length b]
end
end Dn
set_option Elab.async false
set_option linter.all false
set_option maxRecDepth 100000
set_option maxHeartbeats 4000000
namespace Dn
open PySem PySem.Spec PyProof.Rows L2
def tVal (k : List L2.Key) : List (D × D) → Option D
  | [] => none
  | (a, d) :: r => if keyT a = some k then some d else tVal k r
def tPut (a : D) (k : List L2.Key) (x : D) (l : List (D × D)) : List (D × D) := if (tVal k l).isSome = true then l.map (fun kv => if keyT kv.1 = some k then (kv.1, x) else kv) else l ++ [(a, x)]
def dDrop (k : L2.Key) (l : List (D × D)) : List (D × D) := l.filter fun kv => decide (keyD kv.1 ≠ some k)
def tDrop (k : List L2.Key) (l : List (D × D)) : List (D × D) := l.filter fun kv => decide (keyT kv.1 ≠ some k)
/-- the pairs of a dict of numbers and texts, of tuples -/
def dkAt (h : Hm) : D → Option (List (D × D))
  | .ref n => match h[n]? with
    | some (.dct l) => some l
    | some (.lck l) => some l
    | _ => none
  | _ => none
def dtAt (h : Hm) : D → Option (List (D × D))
  | .ref n => match h[n]? with
    | some (.dtt l) => some l
    | some (.lct l) => some l
    | _ => none
  | _ => none
/-- what stands under a key -/
def getD (o k : D) (h : Hm) : Option (Option D) := match dkAt h o with
  | some l => (keyD k).map fun kk => dVal kk l
  | none => match dtAt h o with
    | some l => (keyT k).map fun kk => tVal kk l
    | none => none
def opIxN (x y : D) (h : Hm) : R D := match getD x y h with
  | some (some d) => .ok d h
  | some none => .err
  | none => opIx x y h
def inN (neg : Bool) (y x : D) (h : Hm) : R D := match getD x y h with
  | some o => .ok (.bl (neg ^^ o.isSome)) h
  | none => if neg then opNotIn y x h else opIn y x h
def opNotInN : D → D → Hm → R D := inN true
def putIxN (o i x : D) (h : Hm) : Option Hm := match dtAt h o with
  | some _ => (match o with
    | .ref n => (match h[n]? with
      | some (.dtt l) => if l.length < 16777216 then (keyT i).map fun k => h.set n (.dtt (tPut i k x l)) else none
      | _ => none)
    | _ => none)
  | none => putIx o i x h
def sPutN (fo fi fe : EM) : SM := fun v h => match (fe v h).bind (fun x h1 => (fo v h1).bind fun o h2 => (fi v h2).bind fun i h3 => match putIxN o i x h3 with
    | some h4 => R.ok () h4
    | none => .err) with
  | .ok _ h4 => .nx v h4
  | .exc e h4 => .exc e v h4
  | .err => .err
def eDctT : EM := fun v h => .ok (.ref h.length) (h ++ [.dtt []])
def lkd (n : Nat) (h : Hm) : Option Hm := match h[n]? with
  | some (.dct l) => some (h.set n (.lck l))
  | some (.dtt l) => some (h.set n (.lct l))
  | _ => none
def unlk (n : Nat) (h : Hm) : Option Hm := match h[n]? with
  | some (.lck l) => some (h.set n (.dct l))
  | some (.lct l) => some (h.set n (.dtt l))
  | _ => none
def unF (n : Nat) : Fl → Fl
  | .nx v h => match unlk n h with
    | some h1 => .nx v h1
    | none => .err
  | .rt d h => match unlk n h with
    | some h1 => .rt d h1
    | none => .err
  | .bk v h => match unlk n h with
    | some h1 => .bk v h1
    | none => .err
  | .ct v h => match unlk n h with
    | some h1 => .ct v h1
    | none => .err
  | _ => .err
def sLock (fo : EM) (b : SM) : SM := fun v h => match fo v h with
  | .ok (.ref n) _ => (match lkd n h with
    | some h1 => unF n (b v h1)
    | none => .err)
  | _ => .err
def chkD (n : Nat) (o : HD) (h' : Hm) : Bool := match h'[n]? with
  | some o' => HD.beq o' o
  | none => false
def wkDk (d : D) (h : Hm) : R Wk := match d with
  | .ref n => (match h[n]? with
    | some (.lck l) => .ok ⟨l.map (·.1), chkD n (.lck l)⟩ h
    | some (.lct l) => .ok ⟨l.map (·.1), chkD n (.lct l)⟩ h
    | _ => .err)
  | _ => .err
def wDk (e : EM) : Ev → Hm → R Wk := fun v h => (e v h).bind wkDk
section
variable {C : Cn} {Z H : Hp} {m : List Addr} {h : Hm}
theorem keyE_rep {d : D} {x : V} {k : L2.Key} (r : Rep C Z m d x) (e : keyE d = some k) : x = kV k := by
  cases r with
  | int i => obtain rfl := Option.some.inj (show some (Sum.inl i) = some k from e); rfl
  | str i => obtain rfl := Option.some.inj (show some (Sum.inr i) = some k from e); rfl
  | _ => simp [keyE] at e
theorem keyL_rep : ∀ {l : List D} {vs : List V} {k : List L2.Key}, RepL C Z m l vs → keyL l = some k → vs = k.map kV
  | _, _, k, .nil, e => by obtain rfl := Option.some.inj (show some [] = some k from e); rfl
  | x :: r, v :: vs, k, .cons a b, e => by
    unfold keyL at e
    cases e1 : keyE x with
    | none => rw [e1] at e; cases e
    | some k1 =>
      cases e2 : keyL r with
      | none => rw [e1, e2] at e; cases e
      | some k2 =>
        rw [e1, e2] at e
        obtain rfl := Option.some.inj (show some (k1 :: k2) = some k from e)
        rw [keyE_rep a e1, keyL_rep b e2]; rfl
theorem keyT_rep {d : D} {x : V} {k : List L2.Key} (r : Rep C Z m d x) (e : keyT d = some k) : ∃ b, x = .ref b ∧ Z b = some (.tup (k.map kV)) := by
  cases r with
  | tup a b => exact ⟨_, rfl, by rw [a, keyL_rep b e]⟩
  | _ => cases e
theorem keyE_of {d : D} {k : L2.Key} (e : keyE d = some k) : Rep C Z m d (kV k) := by
  cases d with
  | int i => obtain rfl := Option.some.inj (show some (Sum.inl i) = some k from e); exact .int i
  | str i => obtain rfl := Option.some.inj (show some (Sum.inr i) = some k from e); exact .str i
  | _ => simp [keyE] at e
theorem keyL_of : ∀ {l : List D} {k : List L2.Key}, keyL l = some k → RepL C Z m l (k.map kV)
  | [], k, e => by obtain rfl := Option.some.inj (show some [] = some k from e); exact .nil
  | x :: r, k, e => by
    unfold keyL at e
    cases e1 : keyE x with
    | none => rw [e1] at e; cases e
    | some k1 =>
      cases e2 : keyL r with
      | none => rw [e1, e2] at e; cases e
      | some k2 =>
        rw [e1, e2] at e
        obtain rfl := Option.some.inj (show some (k1 :: k2) = some k from e)
        exact .cons (keyE_of e1) (keyL_of e2)
theorem RepT.len : ∀ {l : List (D × D)} {kvs : List (List L2.Key × V)}, RepT C Z m l kvs → l.length = kvs.length
  | _, _, .nil => rfl
  | _, _, .cons _ _ b => by simp [RepT.len b]
theorem RepT.keys : ∀ {l : List (D × D)} {kvs : List (List L2.Key × V)} {i : Nat} {k : List L2.Key} {v : V}, RepT C Z m l kvs → kvs[i]? = some (k, v) → ∃ a, (l.map (·.1))[i]? = some a ∧ keyT a = some k
  | _, _, _, _, _, .nil, e => by simp at e
  | _, _, 0, _, _, .cons h1 _ _, e => by simp at e; exact ⟨_, rfl, by rw [h1, e.1]⟩
  | _, _, i + 1, _, _, .cons _ _ b, e => by
    obtain ⟨a, h1, h2⟩ := RepT.keys (i := i) b (by simpa using e)
    exact ⟨a, by simpa using h1, h2⟩
theorem RepK.keys : ∀ {l : List (D × D)} {kvs : List (L2.Key × V)} {i : Nat} {k : L2.Key} {v : V}, RepK C Z m l kvs → kvs[i]? = some (k, v) → ∃ a, (l.map (·.1))[i]? = some a ∧ Rep C Z m a (kV k)
  | _, _, _, _, _, .nil, e => by simp at e
  | _, _, 0, _, _, .int _ _, e => by simp at e; exact ⟨_, rfl, by rw [← e.1]; exact .int _⟩
  | _, _, 0, _, _, .str _ _, e => by simp at e; exact ⟨_, rfl, by rw [← e.1]; exact .str _⟩
  | _, _, i + 1, _, _, .int _ b, e => by
    obtain ⟨a, h1, h2⟩ := RepK.keys (i := i) b (by simpa using e)
    exact ⟨a, by simpa using h1, h2⟩
  | _, _, i + 1, _, _, .str _ b, e => by
    obtain ⟨a, h1, h2⟩ := RepK.keys (i := i) b (by simpa using e)
    exact ⟨a, by simpa using h1, h2⟩
theorem tval_pos {K : Type} [DecidableEq K] {k : K} {p : K × V} {r : List (K × V)} (h : p.1 = k) : valV (p :: r) k = some p.2 := by
  unfold valV; simp [h]
theorem tval_neg {K : Type} [DecidableEq K] {k : K} {p : K × V} {r : List (K × V)} (h : ¬ p.1 = k) : valV (p :: r) k = valV r k := by
  unfold valV; simp [h]
theorem RepT.val (k : List L2.Key) : ∀ {l : List (D × D)} {kvs : List (List L2.Key × V)}, RepT C Z m l kvs → (∀ d, tVal k l = some d → ∃ v, valV kvs k = some v ∧ Rep C Z m d v) ∧ (tVal k l = none → valV kvs k = none)
  | _, _, .nil => ⟨(fun d e => nomatch e), fun _ => rfl⟩
  | _, _, .cons (a := a0) (d := d) (k := k0) (v := v) (ds := ds) (vs := vs) e0 a b => by
    obtain ⟨h1, h2⟩ := RepT.val k b
    by_cases hk : k0 = k
    · rw [show tVal k ((a0, d) :: ds) = some d from if_pos (by rw [e0, hk]), tval_pos (p := (k0, v)) hk]
      exact ⟨fun d' e => by injection e with e; subst e; exact ⟨_, rfl, a⟩, fun e => nomatch e⟩
    · rw [show tVal k ((a0, d) :: ds) = tVal k ds from if_neg (by rw [e0]; exact fun z => hk (Option.some.inj z)), tval_neg (p := (k0, v)) hk]
      exact ⟨h1, h2⟩
theorem RepT.some_eq (k : List L2.Key) {l : List (D × D)} {kvs : List (List L2.Key × V)} (r : RepT C Z m l kvs) : (tVal k l).isSome = (valV kvs k).isSome := by
  obtain ⟨h1, h2⟩ := r.val k
  cases e : tVal k l with
  | none => rw [h2 e]; rfl
  | some d => obtain ⟨v, hv, _⟩ := h1 d e; rw [hv]; rfl
theorem RepT.repl (k : List L2.Key) {y : D} {w : V} (ry : Rep C Z m y w) : ∀ {l : List (D × D)} {kvs : List (List L2.Key × V)}, RepT C Z m l kvs → RepT C Z m (l.map fun kv => if keyT kv.1 = some k then (kv.1, y) else kv) (kvs.map fun kv => if kv.1 = k then (kv.1, w) else kv)
  | _, _, .nil => .nil
  | _, _, .cons (a := a0) (d := d) (k := k0) (v := v) (ds := ds) (vs := vs) e0 a b => by
    have ih := RepT.repl k ry b
    rw [List.map_cons, List.map_cons]
    by_cases hk : k0 = k
    · rw [if_pos (show keyT (a0, d).1 = some k by rw [← hk]; exact e0), if_pos (show ((k0, v) : List L2.Key × V).1 = k from hk)]
      exact .cons e0 ry ih
    · rw [if_neg (show ¬ keyT (a0, d).1 = some k from fun z => hk (Option.some.inj (e0.symm.trans z))), if_neg (show ¬ ((k0, v) : List L2.Key × V).1 = k from hk)]
      exact .cons e0 a ih
theorem RepT.snoc {a y : D} {w : V} {k : List L2.Key} (hk : keyT a = some k) (ry : Rep C Z m y w) : ∀ {l : List (D × D)} {kvs : List (List L2.Key × V)}, RepT C Z m l kvs → RepT C Z m (l ++ [(a, y)]) (kvs ++ [(k, w)])
  | _, _, .nil => .cons hk ry .nil
  | _, _, .cons e a b => .cons e a (RepT.snoc hk ry b)
theorem tval_any {K : Type} [DecidableEq K] (k : K) : ∀ kvs : List (K × V), kvs.any (fun kv => decide (kv.1 = k)) = (valV kvs k).isSome
  | [] => rfl
  | p :: r => by
    by_cases h : p.1 = k
    · rw [tval_pos h, List.any_cons, decide_eq_true h]; rfl
    · rw [tval_neg h, List.any_cons, decide_eq_false h, ← tval_any k r]; rfl
theorem RepT.put {a y : D} {w : V} {k : List L2.Key} (hk : keyT a = some k) (ry : Rep C Z m y w) {l : List (D × D)} {kvs : List (List L2.Key × V)} (r : RepT C Z m l kvs) : RepT C Z m (tPut a k y l) (putK kvs k w) := by
  unfold tPut putK
  rw [tval_any, ← r.some_eq k]
  split
  · exact r.repl k ry
  · exact r.snoc hk ry
theorem RepT.drop (k : List L2.Key) : ∀ {l : List (D × D)} {kvs : List (List L2.Key × V)}, RepT C Z m l kvs → RepT C Z m (tDrop k l) (dropK kvs k)
  | _, _, .nil => .nil
  | _, _, .cons (a := a0) (d := d) (k := k0) (v := v) (ds := ds) (vs := vs) e0 a b => by
    have ih := RepT.drop k b
    unfold tDrop dropK at ih ⊢
    by_cases hk : k0 = k
    · rw [List.filter_cons_of_neg (by simp [e0, hk]), List.filter_cons_of_neg (by simp [hk])]
      exact ih
    · rw [List.filter_cons_of_pos (by simp [e0, hk]), List.filter_cons_of_pos (by simp [hk])]
      exact .cons e0 a ih
theorem RepK.drop (k : L2.Key) : ∀ {l : List (D × D)} {kvs : List (L2.Key × V)}, RepK C Z m l kvs → RepK C Z m (dDrop k l) (dropK kvs k)
  | _, _, .nil => .nil
  | _, _, .int (i := i) (d := d) (v := v) (ds := ds) (vs := vs) a b => by
    have ih := RepK.drop k b
    unfold dDrop dropK at ih ⊢
    by_cases hk : (Sum.inl i : L2.Key) = k
    · rw [List.filter_cons_of_neg (by simp [keyD, hk]), List.filter_cons_of_neg (by simp [hk])]
      exact ih
    · rw [List.filter_cons_of_pos (by simp [keyD, hk]), List.filter_cons_of_pos (by simp [hk])]
      exact .int a ih
  | _, _, .str (x := i) (d := d) (v := v) (ds := ds) (vs := vs) a b => by
    have ih := RepK.drop k b
    unfold dDrop dropK at ih ⊢
    by_cases hk : (Sum.inr i : L2.Key) = k
    · rw [List.filter_cons_of_neg (by simp [keyD, hk]), List.filter_cons_of_neg (by simp [hk])]
      exact ih
    · rw [List.filter_cons_of_pos (by simp [keyD, hk]), List.filter_cons_of_pos (by simp [hk])]
      exact .str a ih
/-- a dict at a place -/
theorem dk_rd {d : D} {x : V} {l : List (D × D)} (s : HSim C Z m h H) (r : Rep C Z m d x) (e : dkAt h d = some l) : ∃ n a kvs, d = .ref n ∧ m[n]? = some a ∧ x = .ref a ∧ Rd H a (.dK kvs) ∧ RepK C Z m l kvs := by
  cases r with
  | @ref n a en =>
    unfold dkAt at e
    cases q : h[n]? with
    | none => simp [q] at e
    | some o =>
      cases o with
      | dct l' =>
        simp [q] at e
        subst e
        obtain ⟨vs, hv, rl⟩ := s.obj n a _ en q
        exact ⟨n, a, vs, rfl, en, rfl, .inl hv, rl⟩
      | lck l' =>
        simp [q] at e
        subst e
        obtain ⟨o, vs, hv, rl⟩ := s.obj n a _ en q
        exact ⟨n, a, vs, rfl, en, rfl, .inr ⟨o, hv⟩, rl⟩
      | _ => simp [q] at e
  | _ => cases e
theorem dt_rd {d : D} {x : V} {l : List (D × D)} (s : HSim C Z m h H) (r : Rep C Z m d x) (e : dtAt h d = some l) : ∃ n a kvs, d = .ref n ∧ m[n]? = some a ∧ x = .ref a ∧ Rd H a (.dT kvs) ∧ RepT C Z m l kvs := by
  cases r with
  | @ref n a en =>
    unfold dtAt at e
    cases q : h[n]? with
    | none => simp [q] at e
    | some o =>
      cases o with
      | dtt l' =>
        simp [q] at e
        subst e
        obtain ⟨vs, hv, rl⟩ := s.obj n a _ en q
        exact ⟨n, a, vs, rfl, en, rfl, .inl hv, rl⟩
      | lct l' =>
        simp [q] at e
        subst e
        obtain ⟨o, vs, hv, rl⟩ := s.obj n a _ en q
        exact ⟨n, a, vs, rfl, en, rfl, .inr ⟨o, hv⟩, rl⟩
      | _ => simp [q] at e
  | _ => cases e
/-- what stands under a key, in the machine -/
theorem getD_dget {o k : D} {x y : V} {g : Option D} (s : HSim C Z m h H) (ro : Rep C Z m o x) (rk : Rep C Z m k y) (e : getD o k h = some g) : ∃ a r, x = .ref a ∧ DGet H a y r ∧ (∀ d, g = some d → ∃ v, r = some v ∧ Rep C Z m d v) ∧ (g = none → r = none) := by
  unfold getD at e
  cases q : dkAt h o with
  | some l =>
    rw [q] at e
    obtain ⟨n, a, kvs, rfl, en, rfl, rd, rl⟩ := dk_rd s ro q
    cases hk : keyD k with
    | none => rw [hk] at e; cases e
    | some kk =>
      rw [hk] at e
      obtain rfl := Option.some.inj (show some (dVal kk l) = some g from e)
      obtain ⟨h1, h2⟩ := rl.val kk
      have ek := key_rep rk hk
      subst ek
      exact ⟨a, valV kvs kk, rfl, .inl ⟨kvs, kk, rd, rfl, rfl⟩, h1, h2⟩
  | none =>
    rw [q] at e
    cases q2 : dtAt h o with
    | none => rw [q2] at e; cases e
    | some l =>
      rw [q2] at e
      obtain ⟨n, a, kvs, rfl, en, rfl, rd, rl⟩ := dt_rd s ro q2
      cases hk : keyT k with
      | none => rw [hk] at e; cases e
      | some kk =>
        rw [hk] at e
        obtain rfl := Option.some.inj (show some (tVal kk l) = some g from e)
        obtain ⟨h1, h2⟩ := rl.val kk
        obtain ⟨b, rfl, hb⟩ := keyT_rep rk hk
        exact ⟨a, valV kvs kk, rfl, .inr ⟨kvs, kk, b, rd, rfl, s.sub _ _ hb, rfl⟩, h1, h2⟩
end
section
variable {X : Cx} {C : Cn} {E : WX} {pos : Pos}
theorem nox_ixN : ∀ a b h, NoX (opIxN a b h) := by
  intro a b h e g
  unfold opIxN
  split
  · simp
  · simp
  · exact nox_ix a b h e g
theorem nox_notInN : ∀ a b h, NoX (opNotInN a b h) := by
  intro a b h e g
  unfold opNotInN inN
  split
  · simp
  · exact nox_notIn a b h e g
theorem do_ixN (hK : C.K = X.K) (hr : Room 0 X.A) : IxR X (rD2 C opIxN) := by
  intro value slice pins s σ H x y v u Q I rx ry ⟨Z, m, h, a, b, sm, ra, rb, p⟩ hs
  unfold opIxN at p
  cases q : getD a b h with
  | none =>
    rw [q] at p
    exact do_ix hK hr value slice pins s σ H x y v u Q I rx ry ⟨Z, m, h, a, b, sm, ra, rb, p⟩ hs
  | some g =>
    rw [q] at p
    cases g with
    | none => exact False.elim p
    | some d =>
      obtain ⟨c, r, ex, dg, h1, h2⟩ := getD_dget sm ra rb q
      obtain ⟨w, rfl, rw'⟩ := h1 d rfl
      exact ix_dict (by have := hr.un; omega) value slice pins s σ H x y v u Q I rx ry ⟨c, w, ex, dg, p _ _ _ _ .refl sm rw'⟩ hs
theorem do_notInN (hr : Room 0 X.A) : OpR X (compareOp .NotIn) (rD2 C opNotInN) := by
  intro pins s σ H x y v u Q I rx ry ⟨Z, m, h, a, b, sm, ra, rb, p⟩
  unfold opNotInN inN at p
  cases q : getD b a h with
  | none =>
    rw [q] at p
    exact do_notIn hr pins s σ H x y v u Q I rx ry ⟨Z, m, h, a, b, sm, ra, rb, p⟩
  | some g =>
    rw [q] at p
    obtain ⟨c, r, ex, dg, h1, h2⟩ := getD_dget sm rb ra q
    subst ex
    obtain rfl : u = Value.ref c := ry
    refine d_notIn (by have := hr.un; omega) I dg rx fun s3 I3 => ⟨.bl (!r.isSome), H, I3, rfl, ?_⟩
    have e : (!r.isSome) = (true ^^ g.isSome) := by
      cases g with
      | none => rw [h2 rfl]; rfl
      | some d => obtain ⟨w, e, _⟩ := h1 d rfl; rw [e]; rfl
    rw [e]
    exact p _ _ _ _ .refl sm (.bl _)
theorem de_dctT : PE X (.Dict [] [] pos) (denE C E eDctT) := by
  refine pe_imp pe_dnewT fun σ H Q ⟨Z, m, v, h, s, e, p⟩ => ?_
  exact fun q hq => p _ _ _ _ (Ext.alloc s hq _) (s.alloc hq fun H' e => ⟨[], e, .nil⟩) (.ref (at_new s.len))
theorem put_post {Z H3 : Hp} {m : List Addr} {h3 : Hm} {o' i' x' : D} {o i x : V} {F : XK} {N : Hp → Prop} (s3 : HSim C Z m h3 H3) (ro : Rep C Z m o' o) (r3 : Rep C Z m i' i) (rx : Rep C Z m x' x)
    (p3 : Post C (fun _ _ (_ : Unit) (_ : Unit) => True) F (match putIx o' i' x' h3 with | some h4 => R.ok () h4 | none => .err) Z m H3 fun _ H' => N H') : rSetL o i x H3 N ∨ rSetDc o i x H3 N := by
  unfold putIx at p3
  cases ro with
  | @ref n a en =>
    simp only at p3
    cases q : h3[n]? with
    | none => simp [q] at p3; exact False.elim p3
    | some ob =>
      cases ob with
      | lst l =>
        cases r3 with
        | int k =>
          simp only [q] at p3
          obtain ⟨vs, hv, rl⟩ := s3.obj n a _ en q
          cases hj : ixN l.length k with
          | none => simp [hj] at p3; exact False.elim p3
          | some j =>
            simp only [hj, Option.map_some] at p3
            refine .inl ⟨a, vs, k, j, rfl, rfl, hv, by rw [← rl.length]; exact hj, ?_⟩
            have xz := Ext.put s3 (.lst (vs.set j x)) en (nfz hv)
            exact p3 _ _ _ () xz (s3.put en q (fun z => nomatch z) fun H' e => ⟨_, e, rl.set rx j⟩) trivial
        | _ => simp [q] at p3; exact False.elim p3
      | dct l =>
        simp only [q] at p3
        split at p3
        · rename_i h4 he4
          split at he4
          · rename_i hlt
            cases hk : keyD i' with
            | none => rw [hk] at he4; exact nomatch he4
            | some k =>
              rw [hk] at he4
              injection he4 with he4
              subst he4
              obtain ⟨vs, hv, rk⟩ := s3.obj n a _ en q
              have ek := key_rep r3 hk
              subst ek
              refine .inr ⟨a, _, rfl, DPut.k hv (by rw [← rk.len, sizeLine_eq]; exact hlt), ?_⟩
              have xz := Ext.put s3 (.dK (putK vs k x)) en (nfz hv)
              exact p3 _ _ _ () xz (s3.put en q (fun z => nomatch z) fun H' e => ⟨_, e, rk.put hk rx⟩) trivial
          · exact nomatch he4
        · exact False.elim p3
      | _ => simp [q] at p3; exact False.elim p3
  | _ => exact False.elim p3
theorem ds_putN {o i e : Expr} {p1 pos : Pos} {fo fi fe : EM} (hr : Room 0 X.A) (he : PE X e (denE C E fe)) (ho : PE X o (denE C E fo)) (hi : PE X i (denE C E fi))
    (ha : ∀ v, assign (.Subscript o i p1) X.env v = (do
      let ov ← holding [v] (eval o X.env)
      let iv ← holding [v, ov] (eval i X.env)
      standAt p1
      holding [v, ov, iv] (setItem ov iv v)
      release [v, ov, iv] []) := by intro _; rfl)
    (hs : swapsWithSole [.Subscript o i p1] e pos.line X.env = pure false := by rfl) (hw : swappedStores [.Subscript o i p1] e X.env = pure none := by rfl)
    (h1 : (assignEach [.Subscript o i p1] X.env).map (·.2) = [assign (.Subscript o i p1) X.env] := by rfl) : PS X (.Assign [.Subscript o i p1] e pos) (denS C E (sPutN fo fi fe)) := by
  refine ps_imp (ps_asg he (pg_sub ho hi (set_both (by have := hr.un; omega)) ha) hs hw h1) fun K σ H ⟨Z, m, v, h, s, ev, p⟩ => ?_
  have p : Post C (fun _ _ (_ : Unit) (_ : Unit) => True) (fun c d H' => E c d σ H') ((fe v h).bind (fun x h1 => (fo v h1).bind fun o h2 => (fi v h2).bind fun i h3 => match putIxN o i x h3 with | some h4 => R.ok () h4 | none => .err)) Z m H fun _ H' => K.nx σ H' := by
    unfold sPutN at p
    generalize (fe v h).bind (fun x h1 => (fo v h1).bind fun o h2 => (fi v h2).bind fun i h3 => match putIxN o i x h3 with | some h4 => R.ok () h4 | none => .err) = r at p ⊢
    cases r with
    | ok _ h4 => exact fun Z' m' H' _ a b _ => p Z' m' H' σ a b (ev.mono a)
    | exc x h4 => exact fun Z' m' H' c od a b r => p Z' m' H' σ c od a b (ev.mono a) r
    | err => exact p
  refine ⟨Z, m, v, h, s, ev, (p.bind (rep1 := Rep C)).imp fun x H1 ⟨Z1, m1, x', h1, x1, s1, r1, p1⟩ => ?_⟩
  refine ⟨Z1, m1, v, h1, s1, ev.mono x1, (p1.bind (rep1 := Rep C)).imp fun o H2 ⟨Z2, m2, o', h2, x2, s2, r2, p2⟩ => ?_⟩
  refine ⟨Z2, m2, v, h2, s2, (ev.mono x1).mono x2, (p2.bind (rep1 := Rep C)).imp fun i H3 ⟨Z3, m3, i', h3, x3, s3, r3, p3⟩ => ?_⟩
  have rx := (r1.mono x2.sub x2.pre).mono x3.sub x3.pre
  have ro := r2.mono x3.sub x3.pre
  unfold putIxN at p3
  cases q0 : dtAt h3 o' with
  | none =>
    rw [q0] at p3
    exact put_post s3 ro r3 rx p3
  | some l0 =>
    rw [q0] at p3
    cases ro with
    | @ref n a en =>
      simp only at p3
      cases q : h3[n]? with
      | none => simp [q] at p3; exact False.elim p3
      | some ob =>
        cases ob with
        | dtt l =>
          simp only [q] at p3
          split at p3
          · rename_i h4 he4
            split at he4
            · rename_i hlt
              cases hk : keyT i' with
              | none => rw [hk] at he4; exact nomatch he4
              | some k =>
                rw [hk] at he4
                injection he4 with he4
                subst he4
                obtain ⟨vs, hv, rk⟩ := s3.obj n a _ en q
                obtain ⟨b, rfl, hb⟩ := keyT_rep r3 hk
                refine .inr ⟨a, _, rfl, DPut.t hv (s3.sub _ _ hb) (by rw [← rk.len, sizeLine_eq]; exact hlt), ?_⟩
                have xz := Ext.put s3 (.dT (putK vs k x)) en (nfz hv)
                exact p3 _ _ _ () xz (s3.put en q (fun z => nomatch z) fun H' e => ⟨_, e, rk.put hk rx⟩) trivial
            · exact nomatch he4
          · exact False.elim p3
        | _ => simp [q] at p3; exact False.elim p3
    | _ => simp at p3; exact False.elim p3
end
end Dn
set_option Elab.async false
set_option linter.all false
set_option maxRecDepth 100000
set_option maxHeartbeats 4000000
namespace Dn
open PySem PySem.Spec PyProof.Rows L2
end Dn
set_option Elab.async false
set_option linter.all false
set_option maxRecDepth 100000
set_option maxHeartbeats 4000000
namespace Dn
open PySem PySem.Spec PyProof.Rows L2
section
variable {C : Cn} {Z Z' H H' : Hp} {m m' : List Addr} {h h1 h2 h3 : Hm}
theorem lk_at {n : Nat} (s : HSim C Z m h H) (e : lkd n h = some h1) : ∃ a u, m[n]? = some a ∧ H a = some u ∧ Mut (some u) ∧ (∀ o x, u ≠ .frz o x) ∧ (∀ ps, u ≠ .tbl ps) ∧ (∀ xs, u ≠ .tup xs) ∧ ∀ od, HSim C Z m h1 (upd H a (.frz od u)) := by
  unfold lkd at e
  cases q : h[n]? with
  | none => rw [q] at e; cases e
  | some ob =>
    have hn : n < m.length := by rw [s.len]; exact (List.getElem?_eq_some_iff.mp q).1
    obtain ⟨a, en⟩ : ∃ a, m[n]? = some a := ⟨m[n], List.getElem?_eq_getElem hn⟩
    cases ob with
    | dct l =>
      simp only [q] at e
      injection e with e; subst e
      obtain ⟨kvs, ha, r⟩ := s.obj n a _ en q
      exact ⟨a, _, en, ha, trivial, (fun _ _ z => nomatch z), (fun _ z => nomatch z), (fun _ z => nomatch z), fun od => s.put en q (fun z => nomatch z) fun H' e => ⟨od, kvs, e, r⟩⟩
    | dtt l =>
      simp only [q] at e
      injection e with e; subst e
      obtain ⟨kvs, ha, r⟩ := s.obj n a _ en q
      exact ⟨a, _, en, ha, trivial, (fun _ _ z => nomatch z), (fun _ z => nomatch z), (fun _ z => nomatch z), fun od => s.put en q (fun z => nomatch z) fun H' e => ⟨od, kvs, e, r⟩⟩
    | _ => simp [q] at e
theorem unlk_at {n : Nat} {a : Addr} {od : Obj} {u : HO} (s : HSim C Z m h H) (en : m[n]? = some a) (ha : H a = some (.frz od u)) (e : unlk n h = some h1) : HSim C Z m h1 (upd H a u) := by
  unfold unlk at e
  cases q : h[n]? with
  | none => rw [q] at e; cases e
  | some ob =>
    cases ob with
    | lck l =>
      simp only [q] at e
      injection e with e; subst e
      obtain ⟨o, kvs, hb, r⟩ := s.obj n a _ en q
      rw [ha] at hb
      injection hb with hb; injection hb with _ hb; subst hb
      exact s.put en q (fun z => nomatch z) fun H' e => ⟨kvs, e, r⟩
    | lct l =>
      simp only [q] at e
      injection e with e; subst e
      obtain ⟨o, kvs, hb, r⟩ := s.obj n a _ en q
      rw [ha] at hb
      injection hb with hb; injection hb with _ hb; subst hb
      exact s.put en q (fun z => nomatch z) fun H' e => ⟨kvs, e, r⟩
    | _ => simp [q] at e
theorem Ext.unlk {a : Addr} {od : Obj} {u : HO} (ha : H a = some u) (am : a ∈ m) (nf : ∀ o x, u ≠ .frz o x) (x : Ext Z m (upd H a (.frz od u)) Z' m' H') : Ext Z m H Z' m' (upd H' a u) := by
  refine ⟨x.sub, x.pre, fun b o e hb nt => ?_, fun b e => ?_, fun b e => ?_, fun b o w e => ?_⟩
  · have hne : b ≠ a := fun z => hb (by rw [z]; exact am)
    rw [upd_ne hne]
    exact x.keep b o (by rw [upd_ne hne]; exact e) hb nt
  · by_cases hb : b = a
    · exact .inl (by rw [hb]; exact am)
    · rcases x.newM b e with q | q
      · exact .inl q
      · exact .inr fun o z => q o (by rw [upd_ne hb]; exact z)
  · by_cases hb : b = a
    · exact .inr (.inl (by rw [hb]; exact am))
    · rcases x.newZ b e with q | q | q
      · exact .inl q
      · exact .inr (.inl q)
      · exact .inr (.inr fun o z => q o (by rw [upd_ne hb]; exact z))
  · have hne : b ≠ a := fun z => by subst z; rw [ha] at e; injection e with e; exact nf _ _ e
    rw [upd_ne hne]
    exact x.frz b o w (by rw [upd_ne hne]; exact e)
theorem nm_tup (s : HSim C Z m h H) {q : Addr} {vs : List V} (hq : H q = some (.tup vs)) : q ∉ m := fun hm => by
  obtain ⟨n, hn, e⟩ := List.getElem_of_mem hm
  have e1 : m[n]? = some q := by rw [List.getElem?_eq_getElem hn, e]
  have e2 : h[n]? = some (h[n]'(by rw [← s.len]; exact hn)) := List.getElem?_eq_getElem _
  have := s.obj n q _ e1 e2
  generalize h[n]'(by rw [← s.len]; exact hn) = o at this
  cases o with
  | lst l => obtain ⟨_, z, _⟩ := this; rw [hq] at z; cases z
  | dct l => obtain ⟨_, z, _⟩ := this; rw [hq] at z; cases z
  | dtt l => obtain ⟨_, z, _⟩ := this; rw [hq] at z; cases z
  | lck l => obtain ⟨_, _, z, _⟩ := this; rw [hq] at z; cases z
  | lct l => obtain ⟨_, _, z, _⟩ := this; rw [hq] at z; cases z
  | ins c fs => obtain ⟨_, _, _, _, z, _⟩ := this; rw [hq] at z; cases z
  | dead => obtain ⟨_, z⟩ := this; rw [hq] at z; cases z
/-- a tuple that stands is laid down for good -/
theorem HSim.tupl (s : HSim C Z m h H) {q : Addr} {vs : List V} (hq : H q = some (.tup vs)) : ∃ Z1, Z1 q = some (.tup vs) ∧ HSim C Z1 m h H ∧ Ext Z m H Z1 m H := by
  cases e : Z q with
  | some o =>
    have := s.sub q o e
    rw [hq] at this
    injection this with this; subst this
    exact ⟨Z, e, s, .refl⟩
  | none =>
    refine ⟨upd Z q (.tup vs), upd_same, s.fin (nm_tup s hq) e hq, ⟨fun b w z => ?_, List.prefix_refl _, fun _ _ z _ _ => z, fun _ z => .inl z, fun b z => ?_, fun _ _ _ z => z⟩⟩
    · rw [upd_ne (fun y => by subst y; rw [e] at z; cases z)]; exact z
    · by_cases hb : b = q
      · subst hb; exact .inr (.inr (frt_tup hq))
      · rw [upd_ne hb] at z; exact .inl z
end
section
variable {X : Cx} {C : Cn} {E : WX} {pos : Pos}
theorem ds_lock {st : Stmt} (fo : EM) {b : SM} (hb : PS X st (denS C E b)) : PS X st (denS C E (sLock fo b)) := by
  refine ps_imp (ps_lock hb) fun K σ H ⟨Z, m, v, h, s, ev, p⟩ => ?_
  unfold sLock at p
  split at p
  case h_2 => exact False.elim p
  rename_i n hx q
  split at p
  case h_2 => exact False.elim p
  rename_i h1 hl
  obtain ⟨a, u, en, ha, mu, nf, nt, nu, hs⟩ := lk_at s hl
  refine ⟨a, u, ha, mu, fun od => ⟨Z, m, v, h1, hs od, ev, ?_⟩⟩
  have am := List.mem_of_getElem? en
  cases qb : b v h1 with
  | err => rw [qb] at p; exact p
  | exc e v2 h2 => rw [qb] at p; exact False.elim p
  | nx v2 h2 =>
    rw [qb] at p
    simp only [unF] at p
    split at p
    case h_2 => exact False.elim p
    rename_i h3 hu
    intro Z' m' H' σ' x s' e'
    have hf := x.frz a od u upd_same
    exact ⟨hf, p Z' m' _ σ' (Ext.unlk ha am nf x) (unlk_at s' (pre_get x.pre en) hf hu) e'⟩
  | bk v2 h2 =>
    rw [qb] at p
    simp only [unF] at p
    split at p
    case h_2 => exact False.elim p
    rename_i h3 hu
    intro Z' m' H' σ' x s' e'
    have hf := x.frz a od u upd_same
    exact ⟨hf, p Z' m' _ σ' (Ext.unlk ha am nf x) (unlk_at s' (pre_get x.pre en) hf hu) e'⟩
  | ct v2 h2 =>
    rw [qb] at p
    simp only [unF] at p
    split at p
    case h_2 => exact False.elim p
    rename_i h3 hu
    intro Z' m' H' σ' x s' e'
    have hf := x.frz a od u upd_same
    exact ⟨hf, p Z' m' _ σ' (Ext.unlk ha am nf x) (unlk_at s' (pre_get x.pre en) hf hu) e'⟩
  | rt d h2 =>
    rw [qb] at p
    simp only [unF] at p
    split at p
    case h_2 => exact False.elim p
    rename_i h3 hu
    intro Z' m' H' w x s' r'
    have hf := x.frz a od u upd_same
    exact ⟨hf, p Z' m' _ w (Ext.unlk ha am nf x) (unlk_at s' (pre_get x.pre en) hf hu) r'⟩
theorem wk_dk {H0 Z : Hp} {m : List Addr} {n : Nat} {a : Addr} {o : Obj} {kvs : List (L2.Key × V)} {l : List (D × D)} (en : m[n]? = some a) (e0 : H0 a = some (.frz o (.dK kvs))) : WkOk C (Itk a o kvs) ⟨l.map (·.1), chkD n (.lck l)⟩ Z m H0 := by
  intro i Z' m' h H hz hm hf s hc
  have e := hf _ _ _ e0
  have hh : h[n]? = some (.lck l) := by
    cases q : h[n]? with
    | none => simp [chkD, q] at hc
    | some o => simp [chkD, q] at hc; rw [HD.beq_eq _ _ hc]
  obtain ⟨o', kvs', hv, r⟩ := s.obj n a _ (pre_get hm en) hh
  rw [e] at hv
  injection hv with hv; injection hv with _ hv; injection hv with hv; subst hv
  have hl : l.length = kvs.length := r.len
  refine ⟨fun hi => ⟨⟨e, by simpa [hl] using hi⟩, fun x H' y => ?_⟩, fun hi => ⟨e, by simpa [hl] using hi⟩⟩
  obtain ⟨rfl, k, v, e1, rfl⟩ := y
  obtain ⟨d, e2, rd⟩ := r.keys e1
  exact ⟨d, Z', e2, .refl, s, rd⟩
theorem wk_dt {H0 Z : Hp} {m : List Addr} {n : Nat} {a : Addr} {o : Obj} {kvs : List (List L2.Key × V)} {l : List (D × D)} (en : m[n]? = some a) (e0 : H0 a = some (.frz o (.dT kvs))) : WkOk C (Itkt a o kvs) ⟨l.map (·.1), chkD n (.lct l)⟩ Z m H0 := by
  intro i Z' m' h H hz hm hf s hc
  have e := hf _ _ _ e0
  have hh : h[n]? = some (.lct l) := by
    cases q : h[n]? with
    | none => simp [chkD, q] at hc
    | some o => simp [chkD, q] at hc; rw [HD.beq_eq _ _ hc]
  obtain ⟨o', kvs', hv, r⟩ := s.obj n a _ (pre_get hm en) hh
  rw [e] at hv
  injection hv with hv; injection hv with _ hv; injection hv with hv; subst hv
  have hl : l.length = kvs.length := r.len
  refine ⟨fun hi => ⟨⟨e, by simpa [hl] using hi⟩, fun x H' y => ?_⟩, fun hi => ⟨e, by simpa [hl] using hi⟩⟩
  obtain ⟨rfl, k, v, q, e1, rfl, hq⟩ := y
  obtain ⟨d, e2, kd⟩ := r.keys e1
  obtain ⟨Z1, z1, s1, x1⟩ := s.tupl hq
  refine ⟨d, Z1, e2, x1, s1, ?_⟩
  cases d with
  | tup la => exact .tup z1 (keyL_of kd)
  | _ => cases kd
theorem di_dk {tg a : Expr} {fa : EM} (ha : PE X a (denE C E fa)) : PI X tg a (denW C E (wDk fa)) := by
  refine ⟨fun pins s0 σ H R I q => ?_⟩
  obtain ⟨Z, m, v, h, s, e, p⟩ := q
  unfold wDk at p
  refine (pi_keys ha).run pins s0 σ H R I ⟨Z, m, v, h, s, e, ?_⟩
  cases qa : fa v h with
  | err => rw [qa] at p; exact p
  | exc x h1 => rw [qa] at p; exact p
  | ok d h1 =>
    rw [qa] at p
    simp only [bind_ok] at p
    intro Z' m' H' u x s' r
    unfold wkDk at p
    cases r with
    | @ref n a0 en =>
      simp only at p
      cases qh : h1[n]? with
      | none => simp only [qh] at p
      | some ob =>
        cases ob with
        | lck l =>
          simp only [qh] at p
          obtain ⟨o, kvs, hv, rk⟩ := s'.obj n a0 _ en qh
          exact ⟨a0, o, rfl, .inl ⟨kvs, hv, p Z' m' H' _ x s' (wk_dk en hv)⟩⟩
        | lct l =>
          simp only [qh] at p
          obtain ⟨o, kvs, hv, rk⟩ := s'.obj n a0 _ en qh
          exact ⟨a0, o, rfl, .inr ⟨kvs, hv, p Z' m' H' _ x s' (wk_dt en hv)⟩⟩
        | _ => simp only [qh] at p
    | _ => exact False.elim p
end
end Dn
set_option Elab.async false
set_option linter.all false
set_option maxRecDepth 100000
set_option maxHeartbeats 4000000
namespace Dn
open PySem PySem.Spec PyProof.Rows L2
abbrev P2 := Int × Int
def p2D (p : P2) : D := .tup [.int p.1, .int p.2]
end Dn
set_option Elab.async false
set_option linter.all false
set_option maxRecDepth 100000
set_option maxHeartbeats 4000000
namespace Dn
open PySem PySem.Spec PyProof.Rows L2
end Dn
set_option Elab.async false
set_option linter.all false
set_option maxRecDepth 100000
set_option maxHeartbeats 4000000
namespace Dn
open PySem L2
end Dn
set_option Elab.async false
set_option linter.all false
set_option maxRecDepth 100000
set_option maxHeartbeats 4000000
namespace Dn
open PySem PySem.Spec PyProof.Rows L2
end Dn
set_option Elab.async false
set_option linter.all false
set_option maxRecDepth 100000
set_option maxHeartbeats 4000000
namespace PySem.W
open PySem PySem.Calls PyProof.Rows SeqAt
section
variable {prog : Program} {w : World} {A : Around} {E : Value → Shared → Prop} {s : Shared}
theorem call_tuple_ltX {Q : Value → Shared → Prop} {l b : Addr} {items items2 : Array Value} {e r : Nat → Bool} (hl : s.heap.IsTuple l items) (hb : s.heap.IsTuple b items2)
    (he : ∀ j (h1 : j < items.size) (h2 : j < items2.size), EqAt A.in1 s items[j] items2[j] (e j)) (hr : ∀ j (h1 : j < items.size) (h2 : j < items2.size), e j = false → RcLt A.in1 s items[j] items2[j] (r j))
    (h : Q (.bool (firstLt e r (decide (items.size < items2.size)) (List.range (min items.size items2.size)))) s) : wpAny (model prog w) A (call (.builtin "tuple.__lt__") [.ref l, .ref b]) Q E s := by
  obtain ⟨⟨cls, dd, data, sl⟩, ho, hc, n, hd⟩ := id hl
  obtain ⟨⟨cls2, dd2, data2, sl2⟩, ho2, hc2, n2, hd2⟩ := id hb
  simp only at hc hd hc2 hd2
  subst hc hd hc2 hd2
  exact call_meets F.slot_tuple_lt ⟨_, ho, rfl⟩ F.entry_tuple_lt (F.args_tuple_lt_2 _ _) (SeqAt.tuple_ltAt l b items items2 n n2 dd dd2 sl sl2 e r) ⟨ho, ho2, he, hr, h⟩
theorem oneLt_tuples {xs ys : List PyData} {a b : Value} {as bs : List Addr} {Q : Bool → Shared → Prop} (ra : Reads s.heap a (.tuple xs) as) (rb : Reads s.heap b (.tuple ys) bs) (h : alike (.tuple xs) (.tuple ys) = true)
    (hu : A.units + min (PyData.tuple xs).depth (PyData.tuple ys).depth < cLine) (hq : Q (dataLt (.tuple xs) (.tuple ys)) s) : wpAny (model prog w) A (oneLt' true a b) Q E s := by
  have hal : alikeAll xs ys = true := by simpa [alike] using h
  cases ra with
  | @tuple l o vs n _ as₁ h1 h2 h3 h4 =>
    cases rb with
    | @tuple l' o' vs' n' _ bs₁ k1 k2 k3 k4 =>
      have n1 : vs.size = xs.length := by simpa using SeqAt.ReadsAll.length _ _ _ h4
      have n2 : vs'.size = ys.length := by simpa using SeqAt.ReadsAll.length _ _ _ k4
      rw [dataLt_tuple, ← firstLt_toks xs ys hal, ← n1, ← n2] at hq
      rw [oneLt'_eq]
      simp only [if_true]
      refine wpAny_bind (wpAny_cRoomFor (SeqAt.room_here hu) ?_)
      refine wpAny_bind (wpAny_callSpecialIfBound?_slot (T := "tuple") ⟨_, h1, h2⟩ F.slot_tuple_lt (call_tuple_ltX (e := pairEq xs ys) (r := fun j => dataLt (xs.getD j .none) (ys.getD j .none)) ⟨_, h1, h2, _, h3⟩ ⟨_, k1, k2, _, k3⟩ (fun j j1 j2 => ?_) (fun j j1 j2 hj => ?_) ?_))
      · have := eqAt_alikeAll xs ys A.in1 s vs.toList vs'.toList _ _ h4 k4 hal (SeqAt.room_in hu) j (by simpa using j1) (by simpa using j2)
        simpa using this
      · have := rcLt_alikeAll xs ys A.in1 s vs.toList vs'.toList _ _ h4 k4 hal (SeqAt.room_in hu) j (by simpa using j1) (by simpa using j2) hj
        simpa using this
      · exact wpAny_truthy_bool hq
theorem firsts_len : ∀ {vs : List Value} {ds : List PyData} {Q : List (Option Value) → Shared → Prop}, EachIs (fun v d => ∃ as, Reads s.heap v d as) vs ds → (∀ d, d ∈ ds → ∃ xs, d = .tuple xs) → (∀ r, Q r s) → wpAny (model prog w) A (vs.mapM firstOfTuple') Q E s
  | _, _, _, .nil, _, h => by rw [List.mapM_nil]; exact wpAny_pure (h _)
  | _, _, Q, .cons (a := v) (b := d) ⟨as, r⟩ t, ht, h => by
    obtain ⟨xs, rfl⟩ := ht d (List.mem_cons_self ..)
    cases r with
    | @tuple l o vs n _ _ ho hc hd hr =>
      rw [List.mapM_cons]
      refine wpAny_bind ?_
      rw [kas_first_eq]
      refine wpAny_bind (Looks.here (show Looks (model prog w) s.heap (typeOf (.ref l)) o.cls from (Looks.ld ho).andThen .now) ?_)
      rw [hc, if_neg (by first | decide | simp)]
      refine wpAny_bind (listItems_at ho hd (wpAny_pure ?_))
      exact wpAny_bind (firsts_len (Q := fun bs s' => wpAny (model prog w) A (pure (_ :: bs)) Q E s') t (fun d hd => ht d (List.mem_cons_of_mem _ hd)) fun r => wpAny_pure (h _))
theorem kind_headNil {v₀ : Value} {vs : List Value} {ds : List PyData} {as : List Addr} {Q : SortKind → Shared → Prop} (r0 : Reads s.heap v₀ (.tuple []) as) (e : EachIs (fun v d => ∃ as, Reads s.heap v d as) vs ds) (ht : ∀ d, d ∈ ds → ∃ xs, d = .tuple xs) (h : Q oneType' s) :
    wpAny (model prog w) A (keyKind' (v₀ :: vs).toArray) Q E s := by
  have hT : ∀ v ∈ v₀ :: vs, Looks (model prog w) s.heap (typeOf v) (Value.type "tuple") := fun v hv => by
    rcases List.mem_cons.mp hv with rfl | hv
    · exact looks_reads r0
    · obtain ⟨d, hd, as, r⟩ := e.left v hv
      obtain ⟨xs, rfl⟩ := ht d hd
      exact looks_reads r
  rw [keyKind'_eq, List.mapM_toArray, map_eq_pure_bind]
  refine wpAny_bind (wpAny_bind ?_)
  rw [List.mapM_cons]
  refine wpAny_bind ?_
  cases r0 with
  | @tuple l o vs0 n _ _ ho hc hd hr =>
    have hz : vs0[0]? = none := by
      have : vs0.toList = [] := by
        cases q : vs0.toList with
        | nil => rfl
        | cons x r => rw [q] at hr; cases hr
      rw [← Array.getElem?_toList, this]; rfl
    rw [kas_first_eq]
    refine wpAny_bind (Looks.here (show Looks (model prog w) s.heap (typeOf (.ref l)) o.cls from (Looks.ld ho).andThen .now) ?_)
    rw [hc, if_neg (by first | decide | simp)]
    refine wpAny_bind (listItems_at ho hd (wpAny_pure ?_))
    rw [hz]
    refine wpAny_bind (firsts_len e ht fun r => wpAny_pure (wpAny_pure ?_))
    rw [if_neg (by simp), if_neg (by simp)]
    rw [oneTypeOnly'_eq, List.mapM_toArray, map_eq_pure_bind]
    refine wpAny_bind (wpAny_bind (wpAny_bind (kas_mapM (r := Value.type "tuple") _ (fun v hv Q' hq => (hT v hv).here hq) (wpAny_pure ?_))))
    have hall : ((List.map (fun _ => Value.type "tuple") (Value.ref l :: vs)).toArray.all fun x => x == Value.type "tuple") = true := by
      simp only [List.all_toArray, List.all_map, List.all_eq_true]
      intro _ _
      exact beq_self_eq_true _
    have h0 : (List.map (fun _ => Value.type "tuple") (Value.ref l :: vs)).toArray[0]? = some (Value.type "tuple") := by simp
    rw [h0]
    simp only [hall, if_true]
    exact wpAny_pure (wpAny_pure h)
def SortableX (ds : List PyData) : Prop := Sortable ds ∨ ∃ r, ds = .tuple [] :: r
theorem SortsAt.dataX {vs : List Value} {ds : List PyData} (e : EachIs (fun v d => ∃ as, Reads s.heap v d as) vs ds) (hal : AllAlike ds) (hk : SortableX ds) (hu : ∀ d, d ∈ ds → A.units + d.depth < cLine) : SortsAt prog w A s (dataKind s.heap ds) vs := by
  rcases hk with hk | ⟨r, rfl⟩
  · exact SortsAt.data e hal hk hu
  · have ht : ∀ d, d ∈ PyData.tuple [] :: r → ∃ xs, d = .tuple xs := fun d hd => by
      have := hal _ (List.mem_cons_self (a := PyData.tuple []) (l := r)) d hd
      cases d with
      | tuple xs => exact ⟨xs, rfl⟩
      | _ => simp [alike] at this
    refine ⟨fun v hv => ?_, oneType', ?_, fun h2 E Q hq => ?_⟩
    · obtain ⟨d, hd, as, r⟩ := e.left v hv
      exact ⟨_, dataKind_some hal hd r⟩
    · intro E x y a b Q ha hb hq
      obtain ⟨d, as, hd, ra, rfl⟩ := dataKind_inv ha
      obtain ⟨d', as', hd', rb, rfl⟩ := dataKind_inv hb
      obtain ⟨xs, rfl⟩ := ht d hd
      obtain ⟨ys, rfl⟩ := ht d' hd'
      rw [keyLt'_oneType]
      exact oneLt_tuples ra rb (hal _ hd _ hd') (Nat.lt_of_le_of_lt (Nat.add_le_add_left (Nat.min_le_left _ _) _) (hu _ hd)) hq
    · cases e with
      | cons h1 h2 =>
        obtain ⟨as, r1⟩ := h1
        exact kind_headNil r1 h2 (fun d hd => ht d (List.mem_cons_of_mem _ hd)) hq
end
end PySem.W
namespace Dn
open PySem PySem.Spec PyProof.Rows L2 PySem.W
def leD (a b : D) : Bool := !dataLt b.pd a.pd
def srtD (l : List D) : List D := l.mergeSort leD
theorem leD_eq : dataLe false D.pd = leD := by rw [dataLe_eq]; rfl
def tupNE : D → Bool
  | .tup (_ :: _) => true
  | _ => false
def notTN : D → Bool
  | .non => false
  | .tup _ => false
  | _ => true
def headNil : List D → Bool
  | .tup [] :: _ => true
  | _ => false
def srtOk (l : List D) : Bool := D.okL 40 l && (l.all fun a => l.all fun b => alike a.pd b.pd) && (l.all tupNE || l.all notTN || headNil l)
def bSortedA : FM := fun ds h => match ds with
  | [d] => match lsOf h d with
    | some l => if srtOk l then .ok (.lst (srtD l)) h else .err
    | none => .err
  | _ => .err
theorem nox_bSortedA : ∀ a h, NoX (bSortedA a h) := by intro a h e g; unfold bSortedA; repeat' split
                                                       all_goals simp
theorem srtOk_at {l : List D} (h : srtOk l = true) : D.okL 40 l = true ∧ AllAlike (l.map D.pd) ∧ SortableX (l.map D.pd) := by
  unfold srtOk at h
  simp only [Bool.and_eq_true, Bool.or_eq_true] at h
  obtain ⟨⟨h1, h2⟩, h3⟩ := h
  refine ⟨h1, fun d hd d' hd' => ?_, ?_⟩
  · obtain ⟨a, ha, rfl⟩ := List.mem_map.mp hd
    obtain ⟨b, hb, rfl⟩ := List.mem_map.mp hd'
    exact List.all_eq_true.mp (List.all_eq_true.mp h2 a ha) b hb
  · have hok : ∀ a ∈ l, D.okN 40 a = true := fun a ha => by
      clear h2 h3
      induction l with
      | nil => cases ha
      | cons x r ih =>
        simp only [D.okL, Bool.and_eq_true] at h1
        rcases List.mem_cons.mp ha with rfl | ha
        · exact h1.1
        · exact ih h1.2 ha
    rcases h3 with (h3 | h3) | h3
    · refine .inl (.inl fun d hd => ?_)
      obtain ⟨a, ha, rfl⟩ := List.mem_map.mp hd
      have := List.all_eq_true.mp h3 a ha
      cases a with
      | tup r =>
        cases r with
        | nil => cases this
        | cons x r => exact ⟨x.pd, D.pdL r, rfl⟩
      | _ => cases this
    · refine .inl (.inr fun d hd => ?_)
      obtain ⟨a, ha, rfl⟩ := List.mem_map.mp hd
      have h4 := List.all_eq_true.mp h3 a ha
      have h5 := hok a ha
      cases a with
      | non => cases h4
      | tup _ => cases h4
      | ref _ => simp [D.okN] at h5
      | exn _ _ => simp [D.okN] at h5
      | scr _ => simp [D.okN] at h5
      | _ => exact ⟨fun z => by simp [D.pd] at z, fun xs z => by simp [D.pd] at z⟩
    · cases l with
      | nil => cases h3
      | cons x r =>
        cases x with
        | tup t =>
          cases t with
          | nil => exact .inr ⟨r.map D.pd, rfl⟩
          | cons _ _ => cases h3
        | _ => cases h3
theorem okL_depth {n : Nat} : ∀ {l : List D}, D.okL n l = true → ∀ d ∈ l, (D.pd d).depth ≤ n
  | [], _, d, hd => nomatch hd
  | x :: r, h, d, hd => by
    simp only [D.okL, Bool.and_eq_true] at h
    rcases List.mem_cons.mp hd with rfl | hd
    · exact (D.okN_lay n _ h.1).2
    · exact okL_depth h.2 d hd
section
variable {X : Cx} {C : Cn} {E : WX}
theorem each_of {Z H : Hp} {m : List Addr} : ∀ {l : List D} {vs : List V} {its : List Value}, RepL C Z m l vs → Vals vs its → EachIs (fun u d => ∃ x, RelV x u ∧ Rep C Z m d x) its l
  | _, _, _, .nil, .nil => .nil
  | _, _, _, .cons a b, .cons r t => .cons ⟨_, r, a⟩ (each_of (H := H) b t)
theorem each_back {Z H : Hp} {m : List Addr} : ∀ {l : List D} {its : List Value}, EachIs (fun u d => ∃ x, RelV x u ∧ Rep C Z m d x) its l → ∃ vs, Vals vs its ∧ RepL C Z m l vs
  | _, _, .nil => ⟨[], .nil, .nil⟩
  | _, _, .cons ⟨x, r, a⟩ t => by
    obtain ⟨vs, h1, h2⟩ := each_back (H := H) t
    exact ⟨x :: vs, .cons r h1, .cons a h2⟩
theorem each_reads {pins : List (Addr × Obj)} {σ : L2.St} {H : Hp} {s : Shared} {Z : Hp} {m : List Addr} (I : Inv X pins σ H s) (hz : ∀ a o, Z a = some o → H a = some o) {n : Nat} : ∀ {l : List D} {its : List Value}, EachIs (fun u d => ∃ x, RelV x u ∧ Rep C Z m d x) its l → D.okL n l = true → EachIs (fun v b => ∃ as, Reads s.heap v (D.pd b) as) its l
  | _, _, .nil, _ => .nil
  | _, _, .cons ⟨x, r, a⟩ t, h => by
    simp only [D.okL, Bool.and_eq_true] at h
    exact .cons (Dp.reads I _ x _ (a.dp hz n h.1) r) (each_reads I hz t h.2)
theorem each_pd {Hh : Heap} : ∀ {l : List D} {its : List Value}, EachIs (fun v b => ∃ as, Reads Hh v (D.pd b) as) its l → EachIs (fun v d => ∃ as, Reads Hh v d as) its (l.map D.pd)
  | _, _, .nil => .nil
  | _, _, .cons h t => .cons h (each_pd t)
theorem db_sortedA (hr : Room 0 X.A) : CallR X (.builtin "sorted") (rDF C bSortedA) := by
  intro pins s σ H xs us Q I r ⟨Z, m, h, ds, sm, rd, p⟩
  unfold bSortedA at p
  split at p
  · obtain ⟨x, rfl, rx⟩ := repL_one rd
    split at p
    · rename_i l hl
      obtain ⟨a, vs, rfl, hv, rl⟩ := ls_at sm rx hl
      split at p
      · rename_i hok
        obtain ⟨h1, h2, h3⟩ := srtOk_at hok
        obtain ⟨its, rv, lst, hz⟩ := I.list (.inl (.inl hv))
        obtain ⟨u, rfl, ru⟩ := vals1 r
        obtain rfl : u = Value.ref a := ru
        have e0 := each_of (C := C) (H := H) rl rv
        have e1 := each_reads I sm.sub e0 h1
        have e1' : EachIs (fun v b => ∃ as, Reads (sortingHeap (copyHeap s.heap its) (s.heap.objs.size + 1) its) v (D.pd b) as) its l := e1.mono fun _ _ ⟨as, r⟩ => ⟨as, PyProof.Rows.Reads.keeps (fun _ _ => sorting_copy_old) r⟩
        have hlen : its.length ≤ sizeLine := by rw [← rv.length]; exact hz
        have hu : ∀ d, d ∈ l.map D.pd → X.A.in1.in1.units + d.depth < cLine := fun d hd => by
          obtain ⟨b, hb, rfl⟩ := List.mem_map.mp hd
          have := okL_depth h1 b hb
          have := hu65 hr
          show X.A.units + 1 + 1 + _ < _
          omega
        refine sorted_vals lst.isList (SortsAt.dataX (s := { s with heap := sortingHeap (copyHeap s.heap its) (s.heap.objs.size + 1) its }) (each_pd e1') h2 h3 hu) hlen ?_
        have eo := sortVals_data (R := fun u d => ∃ x, RelV x u ∧ Rep C Z m d x) (enc := D.pd) false e0 e1' h2
        rw [leD_eq] at eo
        have hol : (sortVals (dataKind (sortingHeap (copyHeap s.heap its) (s.heap.objs.size + 1) its) (l.map D.pd)) false its its).length ≤ sizeLine := by rw [sortVals_length false rfl]; exact hlen
        generalize sortVals (dataKind (sortingHeap (copyHeap s.heap its) (s.heap.objs.size + 1) its) (l.map D.pd)) false its its = out at eo hol
        obtain ⟨ys, v1, v2⟩ := each_back (C := C) (H := H) eo
        obtain ⟨en, hn⟩ := PyProof.Rows.sortedAll_at s.heap its out.toArray
        have hq := I.hok.fresh (Nat.le_succ s.heap.objs.size)
        refine ⟨.ref (s.heap.objs.size + 1), upd H (s.heap.objs.size + 1) (.lst ys), I.laid (t' := s.toks) (fun b o e => PyProof.Rows.sortedAll_old e) (Nat.le_succ _) (show ObjOk X.prog X.w _ _ _ (.lst ys) from ⟨by rw [v1.length]; exact hol, out, en, v1, hn⟩), rfl, ?_⟩
        have xz := Ext.lay sm hq (.lst ys)
        exact p _ _ _ _ xz (sm.lay hq _) (.lst upd_same (v2.mono xz.sub (List.prefix_refl _)))
      · exact False.elim p
    · exact False.elim p
  · exact False.elim p
end
def bSortedDT : FM := fun ds h => match ds with
  | [.ref n] => (match h[n]? with
    | some (.dtt l) => if srtOk (l.map (·.1)) then .ok (.lst (srtD (l.map (·.1)))) h else .err
    | _ => .err)
  | _ => .err
theorem nox_bSortedDT : ∀ a h, NoX (bSortedDT a h) := by intro a h e g; unfold bSortedDT; repeat' split
                                                         all_goals simp
/-- a value is the tuple that a key is -/
def KeyAt (H : Hp) (u : Value) (d : D) : Prop := ∃ t k, u = .ref t ∧ H t = some (.tup (List.map kV k)) ∧ keyT d = some k
theorem keyE_dp {K : PySem.W.Frag} {H : Hp} {d : D} {k : L2.Key} (e : keyE d = some k) : Dp K H (kV k) d.pd := by
  cases d with
  | int i => obtain rfl := Option.some.inj (show some (Sum.inl i) = some k from e); exact .int i
  | str i => obtain rfl := Option.some.inj (show some (Sum.inr i) = some k from e); exact .str i
  | _ => simp [keyE] at e
theorem keyL_dp {K : PySem.W.Frag} {H : Hp} : ∀ {l : List D} {k : List L2.Key}, keyL l = some k → DpAll K H (k.map kV) (D.pdL l)
  | [], k, e => by obtain rfl := Option.some.inj (show some [] = some k from e); exact .nil
  | x :: r, k, e => by
    unfold keyL at e
    cases e1 : keyE x with
    | none => rw [e1] at e; cases e
    | some k1 =>
      cases e2 : keyL r with
      | none => rw [e1, e2] at e; cases e
      | some k2 =>
        rw [e1, e2] at e
        obtain rfl := Option.some.inj (show some (k1 :: k2) = some k from e)
        exact .cons (keyE_dp e1) (keyL_dp e2)
theorem keyT_dp {K : PySem.W.Frag} {H : Hp} {d : D} {k : List L2.Key} {t : Addr} (e : keyT d = some k) (ht : H t = some (.tup (k.map kV))) : Dp K H (.ref t) d.pd := by
  cases d with
  | tup l => exact .tup (.inl (.inl ht)) (keyL_dp e)
  | _ => cases e
section
variable {X : Cx} {C : Cn} {E : WX}
theorem keyAt_reads {pins : List (Addr × Obj)} {σ : L2.St} {H : Hp} {s : Shared} (I : Inv X pins σ H s) : ∀ {l : List D} {its : List Value}, EachIs (KeyAt H) its l → EachIs (fun v b => ∃ as, Reads s.heap v (D.pd b) as) its l
  | _, _, .nil => .nil
  | _, _, .cons ⟨t, k, e, ht, hk⟩ r => .cons (Dp.reads I _ (.ref t) _ (keyT_dp hk ht) e) (keyAt_reads I r)
theorem keyAt_back {Z H : Hp} {m : List Addr} {h : Hm} (s : HSim C Z m h H) : ∀ {l : List D} {its : List Value}, EachIs (KeyAt H) its l → ∃ ys Z1, Vals ys its ∧ RepL C Z1 m l ys ∧ HSim C Z1 m h H ∧ Ext Z m H Z1 m H
  | _, _, .nil => ⟨[], Z, .nil, .nil, s, .refl⟩
  | _, _, .cons (b := d) ⟨t, k, e, ht, hk⟩ r => by
    obtain ⟨ys, Z1, v1, r1, s1, x1⟩ := keyAt_back s r
    obtain ⟨Z2, z2, s2, x2⟩ := s1.tupl ht
    refine ⟨.ref t :: ys, Z2, .cons e v1, .cons ?_ (r1.mono x2.sub (List.prefix_refl _)), s2, x1.trans x2⟩
    cases d with
    | tup l => exact .tup z2 (keyL_of hk)
    | _ => cases hk
theorem repT_each {Z H : Hp} {m : List Addr} {F : V → Value → Prop} : ∀ {l : List (D × D)} {kvs : List (List Key × V)} {ks : List (List Key × Addr × Value)}, RepT C Z m l kvs → Paired (fun (p : List Key × V) (q : List Key × Addr × Value) => p.1 = q.1 ∧ H q.2.1 = some (.tup (p.1.map kV)) ∧ F p.2 q.2.2) kvs ks → EachIs (KeyAt H) (ks.map fun x => Value.ref x.2.1) (l.map (·.1))
  | _, _, _, .nil, .nil => .nil
  | _, _, _, .cons e a b, .cons r t => .cons ⟨_, _, rfl, r.2.1, e⟩ (repT_each b t)
theorem db_sortedDT (hcalm : X.calm = true) (hr : Room 0 X.A) : CallR X (.builtin "sorted") (rDF C bSortedDT) := by
  intro pins s σ H xs us Q I r ⟨Z, m, h, ds, sm, rd, p⟩
  unfold bSortedDT at p
  split at p
  · rename_i n
    obtain ⟨x, rfl, rx⟩ := repL_one rd
    split at p
    · rename_i l hl
      cases rx with
      | @ref n a en =>
      obtain ⟨kvs, hv, rt⟩ := sm.obj n a _ en hl
      split at p
      · rename_i hok
        obtain ⟨hk1, hk2, hk3⟩ := srtOk_at hok
        obtain ⟨u, eu, rx⟩ := vals1 r
        subst eu
        cases rx
        obtain ⟨z, lo, ks, pr, o, es, ep, ho, hx, hdt, he, hn⟩ := (show ObjOk X.prog X.w H s.heap a (.dT kvs) from I.hok a _ hv)
        have l1 : es.size = ks.length := size_of_entries he
        have l2 : kvs.length = ks.length := Paired.length pr
        have h16 : es.size ≤ sizeLine := by omega
        refine Calls.call_function_entry PyProof.Rows.kind_sorted PyProof.Rows.plain_sorted PyProof.Rows.entry_sorted (PyProof.Rows.args_sorted1 _) ?_
        unfold Builtin.«sorted»
        refine wpAny_bind (m := checkCount "sorted" 1 1 _) (wpAny_pure ?_)
        refine wpAny_bind (PySem.W.kdu_collect (A := X.A.in1) (kdl_raw lo hx hdt) (I.ok.hd hcalm) ho h16 fun h' tk acc hk hacc => ?_)
        have ea : acc.toList = ks.map fun x => Value.ref x.2.1 := by
          have hl : acc.toList.length = ks.length := by rw [Array.length_toList, hacc.1]; exact l1
          apply List.ext_getElem?
          intro j
          rw [List.getElem?_map]
          cases hj : acc.toList[j]? with
          | none =>
            have h1 := List.getElem?_eq_none_iff.mp hj
            rw [List.getElem?_eq_none (by omega)]
            all_goals rfl
          | some v =>
            obtain ⟨en, hen, hv⟩ := hacc.2 j v (by rw [← Array.getElem?_toList]; exact hj)
            have qe := entry_at he j
            rw [hen] at qe
            cases hb : ks[j]? with
            | none =>
              rw [hb] at qe
              exact nomatch (show some en = none from qe)
            | some b =>
              rw [hb] at qe
              have e2 : en = entryOfKey (tupleKind (mixKind X.prog X.w)) b := Option.some.inj qe
              rw [hv, e2]
              all_goals rfl
        have hal : acc.toList.length ≤ sizeLine := by rw [ea, List.length_map, ← l1]; exact h16
        have I1 : Inv X pins σ H { s with heap := h', toks := tk } := I.kept hk
        have e0 : EachIs (KeyAt H) acc.toList (l.map (·.1)) := by rw [ea]; exact repT_each rt pr
        have e1 := keyAt_reads I1 e0
        refine wpAny_bind (wpAny_newList ?_ hal)
        have hoL : (h'.push (seqObj "list" acc.toList.toArray 0)).get? h'.objs.size = some (seqObj "list" acc.toList.toArray 0) := Heap.get?_push_size _ rfl
        show wpAny _ _ _ _ _ { s with heap := h'.push (seqObj "list" acc.toList.toArray 0), toks := tk }
        have keep : ∀ b o, h'.get? b = some o → (sortingHeap (h'.push (seqObj "list" acc.toList.toArray 0)) h'.objs.size acc.toList).get? b = some o := fun b o q =>
          sortingHeap_old (Nat.ne_of_lt (Heap.lt_size q)) (Heap.get?_push_of_some _ q)
        have e1' : EachIs (fun v b => ∃ as, Reads (sortingHeap (h'.push (seqObj "list" acc.toList.toArray 0)) h'.objs.size acc.toList) v (D.pd b) as) acc.toList (l.map (·.1)) := e1.mono fun _ _ ⟨as, r⟩ => ⟨as, PyProof.Rows.Reads.keeps keep r⟩
        have hu : ∀ d, d ∈ (l.map (·.1)).map D.pd → X.A.in1.in1.units + d.depth < cLine := fun d hd => by
          obtain ⟨b, hb, rfl⟩ := List.mem_map.mp hd
          have := okL_depth hk1 b hb
          have := hu65 hr
          show X.A.units + 1 + 1 + _ < _
          omega
        have eo := sortVals_data (R := KeyAt H) (enc := D.pd) false e0 e1' hk2
        rw [leD_eq] at eo
        have hol : (sortVals (dataKind (sortingHeap (h'.push (seqObj "list" acc.toList.toArray 0)) h'.objs.size acc.toList) ((l.map (·.1)).map D.pd)) false acc.toList acc.toList).length ≤ sizeLine := by rw [sortVals_length false rfl]; exact hal
        refine wpAny_bind (wpAny_holding (wpAny_call_entry PyProof.Rows.slot_list_sort ⟨_, hoL, rfl⟩ PyProof.Rows.entry_list_sort
          (list_sort_vals (s := { s with heap := h'.push (seqObj "list" acc.toList.toArray 0), toks := tk }) hoL (SortsAt.dataX (s := { s with heap := sortingHeap (h'.push (seqObj "list" acc.toList.toArray 0)) h'.objs.size acc.toList, toks := tk }) (each_pd e1') hk2 hk3 hu) hal ⟨_, rfl, ?_⟩) (PyProof.Rows.args_list_sort _)))
        generalize sortVals (dataKind (sortingHeap (h'.push (seqObj "list" acc.toList.toArray 0)) h'.objs.size acc.toList) ((l.map (·.1)).map D.pd)) false acc.toList acc.toList = out at eo hol
        obtain ⟨ys, Z1, v1, r1, s1, x1⟩ := keyAt_back sm eo
        obtain ⟨e', he'⟩ := PyProof.Rows.sortedHeap_at (vs := acc.toList) (out := out.toArray) hoL
        have hq := I1.hok.fresh (Nat.le_refl h'.objs.size)
        refine wpAny_pure ⟨_, rfl, .ref h'.objs.size, upd H h'.objs.size (.lst ys), I1.laid (t' := tk) (fun b u e => ?_) (Nat.le_refl _)
          (show ObjOk X.prog X.w _ _ _ (.lst ys) from ⟨by rw [v1.length]; exact hol, out, e', v1, he'⟩), rfl, ?_⟩
        · have hb : b < h'.objs.size := Heap.lt_size e
          rw [PyProof.Rows.sortedHeap_old (Nat.ne_of_lt hb) (by rw [size_push']; exact Nat.lt_succ_of_lt hb)]
          exact Heap.get?_push_of_some _ e
        · have xz := Ext.lay s1 hq (.lst ys)
          exact p _ _ _ _ (x1.trans xz) (s1.lay hq _) (.lst upd_same (r1.mono xz.sub (List.prefix_refl _)))
      · exact False.elim p
    · exact False.elim p
  · exact False.elim p
def mFind : MM := fun d xs h => match d, xs with
  | .str a, [.str b] => .ok (.int (Txt.find a b)) h
  | _, _ => .err
theorem nox_find : ∀ d a h, NoX (mFind d a h) := by intro d a h e g; unfold mFind; repeat' split
                                                    all_goals simp
theorem dm_find : MtR X "str.find" (rDM C mFind) := by
  intro pins s σ H x xs v us Q I rx rs ⟨Z, m, h, d, ds, sm, rd, rds, p⟩
  unfold mFind at p
  split at p
  · rename_i a b
    cases rd
    obtain ⟨z, rfl, rz⟩ := repL_one rds
    cases rz
    exact mt_find pins s σ H _ _ v us Q I rx rs ⟨a, b, rfl, rfl, p _ _ _ _ .refl sm (.int _)⟩
  · exact False.elim p
variable {tg : Expr}
def wRevOf (d : D) (h : Hm) : R Wk := match d with
  | .lst l => .ok ⟨l.reverse, fun _ => true⟩ h
  | _ => .err
def wRev (e : EM) : Ev → Hm → R Wk := fun v h => (e v h).bind wRevOf
theorem rev_lt {a b i : Nat} (h : a = b) (hi : i < a) : b - 1 - i < b := by omega
theorem wk_rev {H0 : Hp} {Z : Hp} {m : List Addr} {a : Addr} {vs : List V} {l : List D} (hK : C.K = X.K) (hq : SqL C.K Z a vs) (r : RepL C Z m l vs) : WkOk C (Itv X.K a vs.length) ⟨l.reverse, fun _ => true⟩ Z m H0 := by
  intro i Z' m' h H hz hm _ s _
  have q : SqL X.K H a vs := hK ▸ sqL_mono s.sub (sqL_mono hz hq)
  have r' := r.mono hz hm
  have hl := r'.length
  refine ⟨fun hi => ⟨⟨by rw [← hl]; simpa using hi, vs, vs[vs.length - 1 - i]'(rev_lt hl (by simpa using hi)), q, List.getElem?_eq_getElem _⟩, fun x H' y => ?_⟩, fun hi => (show vs.length ≤ i by rw [← hl]; simpa using hi)⟩
  obtain ⟨rfl, y⟩ := y
  obtain ⟨d, e, rd⟩ := r'.getV (y vs q)
  refine ⟨d, Z', ?_, .refl, s, rd⟩
  have hi : i < l.length := by simpa using hi
  show l.reverse[i]? = some d
  rw [List.getElem?_reverse hi, ← e, hl]
theorem di_rev {a : Expr} {fa : EM} {p pos : Pos} (hK : C.K = X.K) (hg : Gl X "reversed") (hm : X.mg "reversed" = none) (ha : PE X a (denE C E fa)) (hs : starEach [a] X.env = (false, eval a X.env) :: starEach [] X.env := by rfl) : PI X tg (.Call (.Name "reversed" p) [a] [] pos) (denW C E (wRev fa)) := by
  refine ⟨fun pins s0 σ H R I q => (RT.pi_revA hg hm ha hs).run pins s0 σ H R I ?_⟩
  obtain ⟨Z, m, v, h, s, e, p⟩ := q
  refine ⟨Z, m, v, h, s, e, ?_⟩
  unfold wRev at p
  cases qa : fa v h with
  | err => rw [qa] at p; exact False.elim p
  | exc x h1 => rw [qa] at p; exact p
  | ok d h1 =>
    rw [qa] at p
    intro Z' m' H' u x s' r
    simp only [bind_ok] at p
    cases d with
    | lst l =>
      cases r with
      | lst hq rl => exact ⟨_, _, rfl, .inl ⟨.inl (.inl (s'.sub _ _ hq)), p Z' m' H' _ x s' (wk_rev (H0 := H') hK (.inl (.inl hq)) rl)⟩⟩
    | _ => exact False.elim p
end
end Dn
set_option Elab.async false
set_option linter.all false
set_option maxRecDepth 100000
set_option maxHeartbeats 4000000
namespace Dn
open PySem L2
def SatP {α : Type} (X : D → Hm → Prop) (r : R α) (Q : α → Hm → Prop) : Prop := match r with
  | .ok a h => Q a h
  | .exc e h => X e h
  | .err => False
/-- the outcome is Q's, or an exception of X's -/
structure SatX {α : Type} (X : D → Hm → Prop) (r : R α) (Q : α → Hm → Prop) : Prop where
  out : SatP X r Q
abbrev Sat {α : Type} (r : R α) (Q : α → Hm → Prop) : Prop := SatX (fun _ _ => False) r Q
def SatSP (Y : D → Ev → Hm → Prop) (r : Fl) (N : Ev → Hm → Prop) (T : D → Hm → Prop) (B G : Ev → Hm → Prop) : Prop := match r with
  | .nx v h => N v h
  | .rt d h => T d h
  | .bk v h => B v h
  | .ct v h => G v h
  | .exc e v h => Y e v h
  | .err => False
structure SatSX (Y : D → Ev → Hm → Prop) (r : Fl) (N : Ev → Hm → Prop) (T : D → Hm → Prop) (B G : Ev → Hm → Prop) : Prop where
  out : SatSP Y r N T B G
abbrev SatS (r : Fl) (N : Ev → Hm → Prop) (T : D → Hm → Prop) (B : Ev → Hm → Prop := fun _ _ => False) (G : Ev → Hm → Prop := fun _ _ => False) : Prop := SatSX (fun _ _ _ => False) r N T B G
/-- o[k] = x leads to P -/
def PutTo (o k x : D) (h : Hm) (P : Hm → Prop) : Prop := match putIx o k x h with
  | some h4 => P h4
  | none => False
section
variable {α β : Type} {Q Q' : D → Hm → Prop} {v : Ev} {h : Hm} {X : D → Hm → Prop}
theorem SatX.imp {r : R α} {Q Q' : α → Hm → Prop} (s : SatX X r Q) (k : ∀ a h, Q a h → Q' a h) : SatX X r Q' := by
  cases r with
  | ok a h => exact ⟨k a h s.out⟩
  | exc _ _ => exact ⟨s.out⟩
  | err => exact s.out.elim
theorem SatX.get {r : R α} {Q : α → Hm → Prop} (s : Sat r Q) : ∃ a h, r = .ok a h ∧ Q a h := by
  cases r with
  | ok a h => exact ⟨a, h, rfl, s.out⟩
  | exc _ _ => exact s.out.elim
  | err => exact s.out.elim
theorem SatX.bind {r : R α} {k : α → Hm → R β} {Q : β → Hm → Prop} (s : SatX X r fun a h => SatX X (k a h) Q) : SatX X (r.bind k) Q := by
  cases r with
  | ok a h => exact s.out
  | exc _ _ => exact ⟨s.out⟩
  | err => exact s.out.elim
theorem SatX.nx {r : R α} {Q : α → Hm → Prop} (s : Sat r Q) : SatX X r.nx Q := by
  cases r with
  | ok a h => exact ⟨s.out⟩
  | exc _ _ => exact s.out.elim
  | err => exact s.out.elim
/-- what raises nothing -/
theorem SatX.w {r : R α} {Q : α → Hm → Prop} (s : Sat r Q) : SatX X r Q := by
  cases r with
  | ok a h => exact ⟨s.out⟩
  | exc _ _ => exact s.out.elim
  | err => exact s.out.elim
theorem SatX.ok {a : α} {Q : α → Hm → Prop} (q : Q a h) : SatX X (R.ok a h) Q := ⟨q⟩
theorem Sat.imp {r : R α} {Q Q' : α → Hm → Prop} (s : Sat r Q) (k : ∀ a h, Q a h → Q' a h) : Sat r Q' := SatX.imp s k
theorem Sat.get {r : R α} {Q : α → Hm → Prop} (s : Sat r Q) : ∃ a h, r = .ok a h ∧ Q a h := SatX.get s
theorem Sat.bind {r : R α} {k : α → Hm → R β} {Q : β → Hm → Prop} (s : Sat r fun a h => Sat (k a h) Q) : Sat (r.bind k) Q := SatX.bind s
theorem Sat.nx {r : R α} {Q : α → Hm → Prop} (s : Sat r Q) : Sat r.nx Q := SatX.nx s
theorem Sat.ok {a : α} {Q : α → Hm → Prop} (q : Q a h) : Sat (R.ok a h) Q := ⟨q⟩
theorem sa_V {i : Nat} {d : D} (e : v[i]? = some (some d)) (q : Q d h) : SatX X (eV i v h) Q := by unfold eV; rw [e]; exact ⟨q⟩
theorem sa_C {d : D} (q : Q d h) : SatX X (eC d v h) Q := ⟨q⟩
theorem sa_B {op : D → D → Hm → R D} {a b : EM} (s : SatX X (a v h) fun x h1 => SatX X (b v h1) fun y h2 => SatX X (op x y h2) Q) : SatX X (eB op a b v h) Q := SatX.bind (s.imp fun _ _ z => SatX.bind z)
theorem sa_U {op : D → Hm → R D} {a : EM} (s : SatX X (a v h) fun x h1 => SatX X (op x h1) Q) : SatX X (eU op a v h) Q := SatX.bind s
theorem sa_F {f : FM} {a : AM} (s : SatX X (a v h) fun xs h1 => SatX X (f xs h1) Q) : SatX X (eF f a v h) Q := SatX.bind s
theorem sa_aN {Q : List D → Hm → Prop} (q : Q [] h) : SatX X (aN v h) Q := ⟨q⟩
theorem sa_aC {a : EM} {r : AM} {Q : List D → Hm → Prop} (s : SatX X (a v h) fun x h1 => SatX X (r v h1) fun xs h2 => Q (x :: xs) h2) : SatX X (aC a r v h) Q := SatX.bind (s.imp fun _ _ z => SatX.bind (z.imp fun _ _ y => ⟨y⟩))
theorem sa_tup {a : AM} (s : SatX X (a v h) fun xs h1 => xs.length ≤ 16777216 ∧ Q (.tup xs) h1) : SatX X (eTup a v h) Q := SatX.bind (s.imp fun _ _ z => by rw [if_pos z.1]; exact ⟨z.2⟩)
theorem sa_lst {a : AM} (s : SatX X (a v h) fun xs h1 => xs.length ≤ 16777216 ∧ Q (.lst xs) h1) : SatX X (eLst a v h) Q := SatX.bind (s.imp fun _ _ z => by rw [if_pos z.1]; exact ⟨z.2⟩)
theorem sa_new {a : AM} (s : SatX X (a v h) fun xs h1 => xs.length ≤ 16777216 ∧ Q (.ref h1.length) (h1 ++ [.lst xs])) : SatX X (eNew a v h) Q := SatX.bind (s.imp fun _ _ z => by rw [if_pos z.1]; exact ⟨z.2⟩)
theorem sa_If {t : TM} {a b : EM} (s : SatX X (t v h) fun c h1 => (c = true → SatX X (a v h1) Q) ∧ (c = false → SatX X (b v h1) Q)) : SatX X (eIf t a b v h) Q := SatX.bind (s.imp fun c _ z => by cases c; exact z.2 rfl; exact z.1 rfl)
theorem sa_And {a b : EM} (s : SatX X (a v h) fun x h1 => ∃ c, x = .bl c ∧ (c = true → SatX X (b v h1) Q) ∧ (c = false → Q (.bl false) h1)) : SatX X (eAnd a b v h) Q := SatX.bind (s.imp fun x _ ⟨c, e, z⟩ => by subst e; cases c; exact ⟨z.2 rfl⟩; exact z.1 rfl)
theorem sa_Or {a b : EM} (s : SatX X (a v h) fun x h1 => ∃ c, x = .bl c ∧ (c = false → SatX X (b v h1) Q) ∧ (c = true → Q (.bl true) h1)) : SatX X (eOr a b v h) Q := SatX.bind (s.imp fun x _ ⟨c, e, z⟩ => by subst e; cases c; exact z.1 rfl; exact ⟨z.2 rfl⟩)
theorem sa_Not {a : EM} (s : SatX X (a v h) fun x h1 => ∃ c, x = .bl c ∧ Q (.bl !c) h1) : SatX X (eNot a v h) Q := SatX.bind (s.imp fun x _ ⟨c, e, z⟩ => by subst e; exact ⟨z⟩)
theorem sa_tE {a : EM} {Q : Bool → Hm → Prop} (s : SatX X (a v h) fun x h1 => ∃ c, x = .bl c ∧ Q c h1) : SatX X (tE a v h) Q := SatX.bind (s.imp fun x _ ⟨c, e, z⟩ => by subst e; exact ⟨z⟩)
theorem sa_tAnd {a b : TM} {Q : Bool → Hm → Prop} (s : SatX X (a v h) fun c h1 => (c = true → SatX X (b v h1) Q) ∧ (c = false → Q false h1)) : SatX X (tAnd a b v h) Q := SatX.bind (s.imp fun c _ z => by cases c; exact ⟨z.2 rfl⟩; exact z.1 rfl)
theorem sa_tOr {a b : TM} {Q : Bool → Hm → Prop} (s : SatX X (a v h) fun c h1 => (c = false → SatX X (b v h1) Q) ∧ (c = true → Q true h1)) : SatX X (tOr a b v h) Q := SatX.bind (s.imp fun c _ z => by cases c; exact z.1 rfl; exact ⟨z.2 rfl⟩)
theorem sa_tNot {a : TM} {Q : Bool → Hm → Prop} (s : SatX X (a v h) fun c h1 => Q (!c) h1) : SatX X (tNot a v h) Q := SatX.bind (s.imp fun _ _ z => ⟨z⟩)
theorem sa_chain {g g' : D → D → Hm → R D} {fa fb fc : EM} (s : SatX X (fa v h) fun x h1 => SatX X (fb v h1) fun y h2 => SatX X (g x y h2) fun z h3 => ∃ c, z = .bl c ∧ (c = true → SatX X (fc v h3) fun w h4 => SatX X (g' y w h4) Q) ∧ (c = false → Q (.bl false) h3)) : SatX X (eChain g g' fa fb fc v h) Q :=
  SatX.bind (s.imp fun _ _ z => SatX.bind (z.imp fun _ _ y => SatX.bind (y.imp fun x _ ⟨c, e, w⟩ => by subst e; cases c; exact ⟨w.2 rfl⟩; exact SatX.bind (w.1 rfl))))
theorem sa_M {T : String} {g : MM} {o : EM} {a : AM} (s : SatX X (o v h) fun x h1 => isRc T x h1 = true ∧ SatX X (a v h1) fun xs h2 => SatX X (g x xs h2) Q) : SatX X (eM T g o a v h) Q := SatX.bind (s.imp fun _ _ z => by rw [if_pos z.1]; exact SatX.bind z.2)
theorem sa_Sl {a : EM} {lo hi : PM} (s : SatX X (a v h) fun x h1 => SatX X (lo v h1) fun l h2 => SatX X (hi v h2) fun u h3 => SatX X (opSl x l u h3) Q) : SatX X (eSl a lo hi v h) Q := SatX.bind (s.imp fun _ _ z => SatX.bind (z.imp fun _ _ y => SatX.bind y))
theorem sa_SlN {a : EM} {lo hi : PM} (s : SatX X (a v h) fun x h1 => SatX X (lo v h1) fun l h2 => SatX X (hi v h2) fun u h3 => SatX X (opSlN x l u h3) Q) : SatX X (eSlN a lo hi v h) Q := SatX.bind (s.imp fun _ _ z => SatX.bind (z.imp fun _ _ y => SatX.bind y))
theorem sa_pN {Q : Option Int → Hm → Prop} (q : Q none h) : SatX X (pN v h) Q := ⟨q⟩
theorem sa_pE {a : EM} {Q : Option Int → Hm → Prop} (s : SatX X (a v h) fun x h1 => ∃ i, x = .int i ∧ Q (some i) h1) : SatX X (pE a v h) Q := SatX.bind (s.imp fun x _ ⟨i, e, z⟩ => by subst e; exact ⟨z⟩)
theorem sa_wE {a : EM} {Q : Wk → Hm → Prop} (s : SatX X (a v h) fun x h1 => SatX X (wkOf x h1) Q) : SatX X (wE a v h) Q := SatX.bind s
theorem sa_wR1 {a : EM} {Q : Wk → Hm → Prop} (s : SatX X (a v h) fun x h1 => ∃ n, x = .int n ∧ -(2 ^ 62) ≤ n ∧ n < 2 ^ 62 ∧ Q ⟨(List.range n.toNat).map fun (i : Nat) => .int (i : Int), fun _ => true⟩ h1) : SatX X (wR1 a v h) Q := SatX.bind (s.imp fun x _ ⟨n, e, h1, h2, z⟩ => by
  subst e
  simp only [wRange]
  rw [if_pos ⟨by omega, by omega, h2, h1⟩]
  have e2 : (List.range (n - 0).toNat).map (fun (i : Nat) => D.int (0 + (i : Int))) = (List.range n.toNat).map fun (i : Nat) => D.int (i : Int) := by simp
  rw [e2]
  exact ⟨z⟩)
theorem sa_wR2 {a b : EM} {Q : Wk → Hm → Prop} (s : SatX X (a v h) fun x h1 => SatX X (b v h1) fun y h2 => ∃ m n, x = .int m ∧ y = .int n ∧ (-(2 ^ 62) ≤ m ∧ m < 2 ^ 62 ∧ -(2 ^ 62) ≤ n ∧ n < 2 ^ 62) ∧ Q ⟨(List.range (n - m).toNat).map fun (i : Nat) => .int (m + (i : Int)), fun _ => true⟩ h2) : SatX X (wR2 a b v h) Q :=
  SatX.bind (s.imp fun x _ z => SatX.bind (z.imp fun y _ ⟨m, n, e1, e2, hb, zz⟩ => by
    subst e1; subst e2
    simp only [wRange]
    rw [if_pos ⟨hb.2.1, hb.1, hb.2.2.2, hb.2.2.1⟩]
    exact ⟨zz⟩))
variable {N : Ev → Hm → Prop} {T : D → Hm → Prop} {B G : Ev → Hm → Prop} {Y : D → Ev → Hm → Prop}
theorem SatSX.imp {r : Fl} {N' : Ev → Hm → Prop} {T' : D → Hm → Prop} {B' G' : Ev → Hm → Prop} (s : SatSX Y r N T B G) (hn : ∀ v h, N v h → N' v h) (ht : ∀ d h, T d h → T' d h) (hb : ∀ v h, B v h → B' v h) (hg : ∀ v h, G v h → G' v h) : SatSX Y r N' T' B' G' := by
  cases r with
  | nx v h => exact ⟨hn _ _ s.out⟩
  | rt v h => exact ⟨ht _ _ s.out⟩
  | bk v h => exact ⟨hb _ _ s.out⟩
  | ct v h => exact ⟨hg _ _ s.out⟩
  | exc _ _ _ => exact ⟨s.out⟩
  | err => exact s.out.elim
theorem SatS.imp {r : Fl} {N' : Ev → Hm → Prop} {T' : D → Hm → Prop} {B' G' : Ev → Hm → Prop} (s : SatS r N T B G) (hn : ∀ v h, N v h → N' v h) (ht : ∀ d h, T d h → T' d h) (hb : ∀ v h, B v h → B' v h) (hg : ∀ v h, G v h → G' v h) : SatS r N' T' B' G' := SatSX.imp s hn ht hb hg
theorem ss_nx (q : N v h) : SatSX Y (sNx v h) N T B G := ⟨q⟩
theorem ss_bk (q : B v h) : SatSX Y (sBreak v h) N T B G := ⟨q⟩
theorem ss_ct (q : G v h) : SatSX Y (sCont v h) N T B G := ⟨q⟩
theorem ss_seq {a b : SM} (s : SatSX Y (a v h) (fun v1 h1 => SatSX Y (b v1 h1) N T B G) T B G) : SatSX Y (sSeq a b v h) N T B G := by
  unfold sSeq
  generalize a v h = o at s
  cases o with
  | nx _ _ => exact s.out
  | rt _ _ => exact ⟨s.out⟩
  | bk _ _ => exact ⟨s.out⟩
  | ct _ _ => exact ⟨s.out⟩
  | exc _ _ _ => exact ⟨s.out⟩
  | err => exact s.out.elim
theorem ss_asg {i : Nat} {e : EM} (s : SatX (fun x h1 => Y x v h1) (e v h) fun d h1 => N (v.set i (some d)) h1) : SatSX Y (sAsg (gN i) e v h) N T B G := by
  unfold sAsg
  generalize e v h = o at s
  cases o with
  | ok _ _ => exact ⟨s.out⟩
  | exc _ _ => exact ⟨s.out⟩
  | err => exact s.out.elim
theorem ss_asgT {is : List Nat} {e : EM} (s : SatX (fun x h1 => Y x v h1) (e v h) fun d h1 => ∃ l v1, d = .tup l ∧ fillAll is l v = some v1 ∧ N v1 h1) : SatSX Y (sAsg (gT is) e v h) N T B G := by
  unfold sAsg
  generalize e v h = o at s
  cases o with
  | ok d _ =>
    obtain ⟨l, v1, rfl, e2, z⟩ := s.out
    simp only [gT, e2]
    exact ⟨z⟩
  | exc _ _ => exact ⟨s.out⟩
  | err => exact s.out.elim
theorem ss_expr {e : EM} (s : SatX (fun x h1 => Y x v h1) (e v h) fun _ h1 => N v h1) : SatSX Y (sExpr e v h) N T B G := by
  unfold sExpr
  generalize e v h = o at s
  cases o with
  | ok _ _ => exact ⟨s.out⟩
  | exc _ _ => exact ⟨s.out⟩
  | err => exact s.out.elim
theorem ss_ret {e : EM} (s : SatX (fun x h1 => Y x v h1) (e v h) T) : SatSX Y (sRet e v h) N T B G := by
  unfold sRet
  generalize e v h = o at s
  cases o with
  | ok _ _ => exact ⟨s.out⟩
  | exc _ _ => exact ⟨s.out⟩
  | err => exact s.out.elim
theorem ss_retN (q : T .non h) : SatSX Y (sRetN v h) N T B G := ⟨q⟩
theorem ss_if {t : TM} {a b : SM} (s : SatX (fun x h1 => Y x v h1) (t v h) fun c h1 => (c = true → SatSX Y (a v h1) N T B G) ∧ (c = false → SatSX Y (b v h1) N T B G)) : SatSX Y (sIf t a b v h) N T B G := by
  unfold sIf
  generalize t v h = o at s
  cases o with
  | ok c h1 =>
    cases c
    · exact s.out.2 rfl
    · exact s.out.1 rfl
  | exc _ _ => exact ⟨s.out⟩
  | err => exact s.out.elim
theorem ss_put {o i e : EM} (s : SatX (fun x h1 => Y x v h1) (e v h) fun x h1 => SatX (fun x h1 => Y x v h1) (o v h1) fun a h2 => SatX (fun x h1 => Y x v h1) (i v h2) fun k h3 => PutTo a k x h3 (N v)) : SatSX Y (sPut o i e v h) N T B G := by
  have : SatX (fun x h1 => Y x v h1) ((e v h).bind (fun x h1 => (o v h1).bind fun o h2 => (i v h2).bind fun i h3 => match putIx o i x h3 with | some h4 => R.ok () h4 | none => .err)) fun _ h4 => N v h4 :=
    SatX.bind (s.imp fun _ _ z => SatX.bind (z.imp fun _ _ y => SatX.bind (y.imp fun a h w => by
      unfold PutTo at w
      split at w
      · exact ⟨w⟩
      · exact w.elim)))
  unfold sPut
  generalize (e v h).bind (fun x h1 => (o v h1).bind fun o h2 => (i v h2).bind fun i h3 => match putIx o i x h3 with | some h4 => R.ok () h4 | none => .err) = r at this ⊢
  cases r with
  | ok _ _ => exact ⟨this.out⟩
  | exc _ _ => exact ⟨this.out⟩
  | err => exact this.out.elim
/-- raise -/
theorem ss_rs0 {c : Str} (q : Y (.exn c []) v h) : SatSX Y (sRs0 c v h) N T B G := ⟨q⟩
theorem ss_rs1 {c f : Str} {e : EM} (s : SatX (fun x h1 => Y x v h1) (e v h) fun d h1 => Y (.exn c [(f, d)]) v h1) : SatSX Y (sRs1 c f e v h) N T B G := by
  unfold sRs1
  generalize e v h = o at s
  cases o with
  | ok _ _ => exact ⟨s.out⟩
  | exc _ _ => exact ⟨s.out⟩
  | err => exact s.out.elim
/-- try -/
theorem ss_try {b : SM} {t : Str → Bool} {k : D → SM} (s : SatSX (fun x v1 h1 => ∃ c fs, x = .exn c fs ∧ (t c = true → SatS (k x v1 h1) N T B G) ∧ (t c = false → Y x v1 h1)) (b v h) N T B G) : SatSX Y (sTry b t k v h) N T B G := by
  unfold sTry
  generalize b v h = o at s
  cases o with
  | nx _ _ => exact ⟨s.out⟩
  | rt _ _ => exact ⟨s.out⟩
  | bk _ _ => exact ⟨s.out⟩
  | ct _ _ => exact ⟨s.out⟩
  | exc x v1 h1 =>
    obtain ⟨c, fs, rfl, h2, h3⟩ := s.out
    simp only
    cases ht : t c with
    | true =>
      have := h2 ht
      simp only [if_true]
      generalize k (.exn c fs) v1 h1 = o at this
      cases o with
      | exc _ _ _ => exact this.out.elim
      | err => exact this.out.elim
      | nx _ _ => exact ⟨this.out⟩
      | rt _ _ => exact ⟨this.out⟩
      | bk _ _ => exact ⟨this.out⟩
      | ct _ _ => exact ⟨this.out⟩
    | false => exact ⟨h3 ht⟩
  | err => exact s.out.elim
theorem sa_V0 {d : D} {r : Ev} (q : Q d h) : SatX X (eV 0 (some d :: r) h) Q := ⟨q⟩
theorem sa_V1 {x0 : Option D} {d : D} {r : Ev} (q : Q d h) : SatX X (eV 1 (x0 :: some d :: r) h) Q := ⟨q⟩
theorem sa_V2 {x0 x1 : Option D} {d : D} {r : Ev} (q : Q d h) : SatX X (eV 2 (x0 :: x1 :: some d :: r) h) Q := ⟨q⟩
theorem sa_V3 {x0 x1 x2 : Option D} {d : D} {r : Ev} (q : Q d h) : SatX X (eV 3 (x0 :: x1 :: x2 :: some d :: r) h) Q := ⟨q⟩
theorem sa_V4 {x0 x1 x2 x3 : Option D} {d : D} {r : Ev} (q : Q d h) : SatX X (eV 4 (x0 :: x1 :: x2 :: x3 :: some d :: r) h) Q := ⟨q⟩
theorem sa_V5 {x0 x1 x2 x3 x4 : Option D} {d : D} {r : Ev} (q : Q d h) : SatX X (eV 5 (x0 :: x1 :: x2 :: x3 :: x4 :: some d :: r) h) Q := ⟨q⟩
theorem sa_V6 {x0 x1 x2 x3 x4 x5 : Option D} {d : D} {r : Ev} (q : Q d h) : SatX X (eV 6 (x0 :: x1 :: x2 :: x3 :: x4 :: x5 :: some d :: r) h) Q := ⟨q⟩
theorem sa_V7 {x0 x1 x2 x3 x4 x5 x6 : Option D} {d : D} {r : Ev} (q : Q d h) : SatX X (eV 7 (x0 :: x1 :: x2 :: x3 :: x4 :: x5 :: x6 :: some d :: r) h) Q := ⟨q⟩
theorem sa_V8 {x0 x1 x2 x3 x4 x5 x6 x7 : Option D} {d : D} {r : Ev} (q : Q d h) : SatX X (eV 8 (x0 :: x1 :: x2 :: x3 :: x4 :: x5 :: x6 :: x7 :: some d :: r) h) Q := ⟨q⟩
theorem sa_V9 {x0 x1 x2 x3 x4 x5 x6 x7 x8 : Option D} {d : D} {r : Ev} (q : Q d h) : SatX X (eV 9 (x0 :: x1 :: x2 :: x3 :: x4 :: x5 :: x6 :: x7 :: x8 :: some d :: r) h) Q := ⟨q⟩
theorem sa_V10 {x0 x1 x2 x3 x4 x5 x6 x7 x8 x9 : Option D} {d : D} {r : Ev} (q : Q d h) : SatX X (eV 10 (x0 :: x1 :: x2 :: x3 :: x4 :: x5 :: x6 :: x7 :: x8 :: x9 :: some d :: r) h) Q := ⟨q⟩
theorem sa_V11 {x0 x1 x2 x3 x4 x5 x6 x7 x8 x9 x10 : Option D} {d : D} {r : Ev} (q : Q d h) : SatX X (eV 11 (x0 :: x1 :: x2 :: x3 :: x4 :: x5 :: x6 :: x7 :: x8 :: x9 :: x10 :: some d :: r) h) Q := ⟨q⟩
theorem sa_V12 {x0 x1 x2 x3 x4 x5 x6 x7 x8 x9 x10 x11 : Option D} {d : D} {r : Ev} (q : Q d h) : SatX X (eV 12 (x0 :: x1 :: x2 :: x3 :: x4 :: x5 :: x6 :: x7 :: x8 :: x9 :: x10 :: x11 :: some d :: r) h) Q := ⟨q⟩
theorem sa_V13 {x0 x1 x2 x3 x4 x5 x6 x7 x8 x9 x10 x11 x12 : Option D} {d : D} {r : Ev} (q : Q d h) : SatX X (eV 13 (x0 :: x1 :: x2 :: x3 :: x4 :: x5 :: x6 :: x7 :: x8 :: x9 :: x10 :: x11 :: x12 :: some d :: r) h) Q := ⟨q⟩
theorem sa_V14 {x0 x1 x2 x3 x4 x5 x6 x7 x8 x9 x10 x11 x12 x13 : Option D} {d : D} {r : Ev} (q : Q d h) : SatX X (eV 14 (x0 :: x1 :: x2 :: x3 :: x4 :: x5 :: x6 :: x7 :: x8 :: x9 :: x10 :: x11 :: x12 :: x13 :: some d :: r) h) Q := ⟨q⟩
theorem sa_V15 {x0 x1 x2 x3 x4 x5 x6 x7 x8 x9 x10 x11 x12 x13 x14 : Option D} {d : D} {r : Ev} (q : Q d h) : SatX X (eV 15 (x0 :: x1 :: x2 :: x3 :: x4 :: x5 :: x6 :: x7 :: x8 :: x9 :: x10 :: x11 :: x12 :: x13 :: x14 :: some d :: r) h) Q := ⟨q⟩
theorem ss_asg0 {x0 : Option D} {r : Ev} {e : EM} (s : SatX (fun x h1 => Y x (x0 :: r) h1) (e (x0 :: r) h) fun d h1 => N (some d :: r) h1) : SatSX Y (sAsg (gN 0) e (x0 :: r) h) N T B G := ss_asg s
theorem ss_asg1 {x0 x1 : Option D} {r : Ev} {e : EM} (s : SatX (fun x h1 => Y x (x0 :: x1 :: r) h1) (e (x0 :: x1 :: r) h) fun d h1 => N (x0 :: some d :: r) h1) : SatSX Y (sAsg (gN 1) e (x0 :: x1 :: r) h) N T B G := ss_asg s
theorem ss_asg2 {x0 x1 x2 : Option D} {r : Ev} {e : EM} (s : SatX (fun x h1 => Y x (x0 :: x1 :: x2 :: r) h1) (e (x0 :: x1 :: x2 :: r) h) fun d h1 => N (x0 :: x1 :: some d :: r) h1) : SatSX Y (sAsg (gN 2) e (x0 :: x1 :: x2 :: r) h) N T B G := ss_asg s
theorem ss_asg3 {x0 x1 x2 x3 : Option D} {r : Ev} {e : EM} (s : SatX (fun x h1 => Y x (x0 :: x1 :: x2 :: x3 :: r) h1) (e (x0 :: x1 :: x2 :: x3 :: r) h) fun d h1 => N (x0 :: x1 :: x2 :: some d :: r) h1) : SatSX Y (sAsg (gN 3) e (x0 :: x1 :: x2 :: x3 :: r) h) N T B G := ss_asg s
theorem ss_asg4 {x0 x1 x2 x3 x4 : Option D} {r : Ev} {e : EM} (s : SatX (fun x h1 => Y x (x0 :: x1 :: x2 :: x3 :: x4 :: r) h1) (e (x0 :: x1 :: x2 :: x3 :: x4 :: r) h) fun d h1 => N (x0 :: x1 :: x2 :: x3 :: some d :: r) h1) : SatSX Y (sAsg (gN 4) e (x0 :: x1 :: x2 :: x3 :: x4 :: r) h) N T B G := ss_asg s
theorem ss_asg5 {x0 x1 x2 x3 x4 x5 : Option D} {r : Ev} {e : EM} (s : SatX (fun x h1 => Y x (x0 :: x1 :: x2 :: x3 :: x4 :: x5 :: r) h1) (e (x0 :: x1 :: x2 :: x3 :: x4 :: x5 :: r) h) fun d h1 => N (x0 :: x1 :: x2 :: x3 :: x4 :: some d :: r) h1) : SatSX Y (sAsg (gN 5) e (x0 :: x1 :: x2 :: x3 :: x4 :: x5 :: r) h) N T B G := ss_asg s
theorem ss_asg6 {x0 x1 x2 x3 x4 x5 x6 : Option D} {r : Ev} {e : EM} (s : SatX (fun x h1 => Y x (x0 :: x1 :: x2 :: x3 :: x4 :: x5 :: x6 :: r) h1) (e (x0 :: x1 :: x2 :: x3 :: x4 :: x5 :: x6 :: r) h) fun d h1 => N (x0 :: x1 :: x2 :: x3 :: x4 :: x5 :: some d :: r) h1) : SatSX Y (sAsg (gN 6) e (x0 :: x1 :: x2 :: x3 :: x4 :: x5 :: x6 :: r) h) N T B G := ss_asg s
theorem ss_asg7 {x0 x1 x2 x3 x4 x5 x6 x7 : Option D} {r : Ev} {e : EM} (s : SatX (fun x h1 => Y x (x0 :: x1 :: x2 :: x3 :: x4 :: x5 :: x6 :: x7 :: r) h1) (e (x0 :: x1 :: x2 :: x3 :: x4 :: x5 :: x6 :: x7 :: r) h) fun d h1 => N (x0 :: x1 :: x2 :: x3 :: x4 :: x5 :: x6 :: some d :: r) h1) : SatSX Y (sAsg (gN 7) e (x0 :: x1 :: x2 :: x3 :: x4 :: x5 :: x6 :: x7 :: r) h) N T B G := ss_asg s
theorem ss_asg8 {x0 x1 x2 x3 x4 x5 x6 x7 x8 : Option D} {r : Ev} {e : EM} (s : SatX (fun x h1 => Y x (x0 :: x1 :: x2 :: x3 :: x4 :: x5 :: x6 :: x7 :: x8 :: r) h1) (e (x0 :: x1 :: x2 :: x3 :: x4 :: x5 :: x6 :: x7 :: x8 :: r) h) fun d h1 => N (x0 :: x1 :: x2 :: x3 :: x4 :: x5 :: x6 :: x7 :: some d :: r) h1) : SatSX Y (sAsg (gN 8) e (x0 :: x1 :: x2 :: x3 :: x4 :: x5 :: x6 :: x7 :: x8 :: r) h) N T B G := ss_asg s
theorem ss_asg9 {x0 x1 x2 x3 x4 x5 x6 x7 x8 x9 : Option D} {r : Ev} {e : EM} (s : SatX (fun x h1 => Y x (x0 :: x1 :: x2 :: x3 :: x4 :: x5 :: x6 :: x7 :: x8 :: x9 :: r) h1) (e (x0 :: x1 :: x2 :: x3 :: x4 :: x5 :: x6 :: x7 :: x8 :: x9 :: r) h) fun d h1 => N (x0 :: x1 :: x2 :: x3 :: x4 :: x5 :: x6 :: x7 :: x8 :: some d :: r) h1) : SatSX Y (sAsg (gN 9) e (x0 :: x1 :: x2 :: x3 :: x4 :: x5 :: x6 :: x7 :: x8 :: x9 :: r) h) N T B G := ss_asg s
theorem ss_asg10 {x0 x1 x2 x3 x4 x5 x6 x7 x8 x9 x10 : Option D} {r : Ev} {e : EM} (s : SatX (fun x h1 => Y x (x0 :: x1 :: x2 :: x3 :: x4 :: x5 :: x6 :: x7 :: x8 :: x9 :: x10 :: r) h1) (e (x0 :: x1 :: x2 :: x3 :: x4 :: x5 :: x6 :: x7 :: x8 :: x9 :: x10 :: r) h) fun d h1 => N (x0 :: x1 :: x2 :: x3 :: x4 :: x5 :: x6 :: x7 :: x8 :: x9 :: some d :: r) h1) : SatSX Y (sAsg (gN 10) e (x0 :: x1 :: x2 :: x3 :: x4 :: x5 :: x6 :: x7 :: x8 :: x9 :: x10 :: r) h) N T B G := ss_asg s
theorem ss_asg11 {x0 x1 x2 x3 x4 x5 x6 x7 x8 x9 x10 x11 : Option D} {r : Ev} {e : EM} (s : SatX (fun x h1 => Y x (x0 :: x1 :: x2 :: x3 :: x4 :: x5 :: x6 :: x7 :: x8 :: x9 :: x10 :: x11 :: r) h1) (e (x0 :: x1 :: x2 :: x3 :: x4 :: x5 :: x6 :: x7 :: x8 :: x9 :: x10 :: x11 :: r) h) fun d h1 => N (x0 :: x1 :: x2 :: x3 :: x4 :: x5 :: x6 :: x7 :: x8 :: x9 :: x10 :: some d :: r) h1) : SatSX Y (sAsg (gN 11) e (x0 :: x1 :: x2 :: x3 :: x4 :: x5 :: x6 :: x7 :: x8 :: x9 :: x10 :: x11 :: r) h) N T B G := ss_asg s
theorem ss_asg12 {x0 x1 x2 x3 x4 x5 x6 x7 x8 x9 x10 x11 x12 : Option D} {r : Ev} {e : EM} (s : SatX (fun x h1 => Y x (x0 :: x1 :: x2 :: x3 :: x4 :: x5 :: x6 :: x7 :: x8 :: x9 :: x10 :: x11 :: x12 :: r) h1) (e (x0 :: x1 :: x2 :: x3 :: x4 :: x5 :: x6 :: x7 :: x8 :: x9 :: x10 :: x11 :: x12 :: r) h) fun d h1 => N (x0 :: x1 :: x2 :: x3 :: x4 :: x5 :: x6 :: x7 :: x8 :: x9 :: x10 :: x11 :: some d :: r) h1) : SatSX Y (sAsg (gN 12) e (x0 :: x1 :: x2 :: x3 :: x4 :: x5 :: x6 :: x7 :: x8 :: x9 :: x10 :: x11 :: x12 :: r) h) N T B G := ss_asg s
theorem ss_asg13 {x0 x1 x2 x3 x4 x5 x6 x7 x8 x9 x10 x11 x12 x13 : Option D} {r : Ev} {e : EM} (s : SatX (fun x h1 => Y x (x0 :: x1 :: x2 :: x3 :: x4 :: x5 :: x6 :: x7 :: x8 :: x9 :: x10 :: x11 :: x12 :: x13 :: r) h1) (e (x0 :: x1 :: x2 :: x3 :: x4 :: x5 :: x6 :: x7 :: x8 :: x9 :: x10 :: x11 :: x12 :: x13 :: r) h) fun d h1 => N (x0 :: x1 :: x2 :: x3 :: x4 :: x5 :: x6 :: x7 :: x8 :: x9 :: x10 :: x11 :: x12 :: some d :: r) h1) : SatSX Y (sAsg (gN 13) e (x0 :: x1 :: x2 :: x3 :: x4 :: x5 :: x6 :: x7 :: x8 :: x9 :: x10 :: x11 :: x12 :: x13 :: r) h) N T B G := ss_asg s
theorem ss_asg14 {x0 x1 x2 x3 x4 x5 x6 x7 x8 x9 x10 x11 x12 x13 x14 : Option D} {r : Ev} {e : EM} (s : SatX (fun x h1 => Y x (x0 :: x1 :: x2 :: x3 :: x4 :: x5 :: x6 :: x7 :: x8 :: x9 :: x10 :: x11 :: x12 :: x13 :: x14 :: r) h1) (e (x0 :: x1 :: x2 :: x3 :: x4 :: x5 :: x6 :: x7 :: x8 :: x9 :: x10 :: x11 :: x12 :: x13 :: x14 :: r) h) fun d h1 => N (x0 :: x1 :: x2 :: x3 :: x4 :: x5 :: x6 :: x7 :: x8 :: x9 :: x10 :: x11 :: x12 :: x13 :: some d :: r) h1) : SatSX Y (sAsg (gN 14) e (x0 :: x1 :: x2 :: x3 :: x4 :: x5 :: x6 :: x7 :: x8 :: x9 :: x10 :: x11 :: x12 :: x13 :: x14 :: r) h) N T B G := ss_asg s
theorem ss_asg15 {x0 x1 x2 x3 x4 x5 x6 x7 x8 x9 x10 x11 x12 x13 x14 x15 : Option D} {r : Ev} {e : EM} (s : SatX (fun x h1 => Y x (x0 :: x1 :: x2 :: x3 :: x4 :: x5 :: x6 :: x7 :: x8 :: x9 :: x10 :: x11 :: x12 :: x13 :: x14 :: x15 :: r) h1) (e (x0 :: x1 :: x2 :: x3 :: x4 :: x5 :: x6 :: x7 :: x8 :: x9 :: x10 :: x11 :: x12 :: x13 :: x14 :: x15 :: r) h) fun d h1 => N (x0 :: x1 :: x2 :: x3 :: x4 :: x5 :: x6 :: x7 :: x8 :: x9 :: x10 :: x11 :: x12 :: x13 :: x14 :: some d :: r) h1) : SatSX Y (sAsg (gN 15) e (x0 :: x1 :: x2 :: x3 :: x4 :: x5 :: x6 :: x7 :: x8 :: x9 :: x10 :: x11 :: x12 :: x13 :: x14 :: x15 :: r) h) N T B G := ss_asg s
/-- a for: an invariant over the turn -/
theorem forL_inv {g : TgM} {b : SM} {chk : Hm → Bool} (Inv : Nat → Ev → Hm → Prop) : ∀ (its : List D) (k : Nat) (v : Ev) (h : Hm), Inv k v h →
    (∀ (i : Nat) (x : D) (v : Ev) (h : Hm), its[i]? = some x → Inv (k + i) v h → chk h = true ∧ ∃ v1, g x v h = some v1 ∧ SatSX Y (b v1 h) (Inv (k + i + 1)) T N (Inv (k + i + 1))) → (∀ v h, Inv (k + its.length) v h → chk h = true ∧ N v h) → SatSX Y (forL g b chk its v h) N T B G
  | [], k, v, h, h0, _, hd => by
    have := hd v h h0
    simp only [forL, this.1, if_true]
    exact ⟨this.2⟩
  | x :: xs, k, v, h, h0, hs, hd => by
    obtain ⟨hc, v1, e, s⟩ := hs 0 x v h rfl h0
    simp only [forL, hc, if_true, e]
    have rec_ : ∀ v2 h2, Inv (k + 1) v2 h2 → SatSX Y (forL g b chk xs v2 h2) N T B G := fun v2 h2 z =>
      forL_inv Inv xs (k + 1) v2 h2 z (fun i y v h e hi => by
        have := hs (i + 1) y v h (by simpa using e) (by rw [show k + (i + 1) = k + 1 + i by omega]; exact hi)
        rw [show k + (i + 1) = k + 1 + i by omega] at this
        exact this) (fun v h z => hd v h (by rw [List.length_cons, show k + (xs.length + 1) = k + 1 + xs.length by omega]; exact z))
    generalize b v1 h = o at s ⊢
    cases o with
    | nx v2 h2 => exact rec_ v2 h2 s.out
    | ct v2 h2 => exact rec_ v2 h2 s.out
    | bk v2 h2 => exact ⟨s.out⟩
    | rt _ _ => exact ⟨s.out⟩
    | exc _ _ _ => exact ⟨s.out⟩
    | err => exact s.out.elim
theorem ss_for {g : TgM} {w : Ev → Hm → R Wk} {b : SM} (s : SatX (fun x h1 => Y x v h1) (w v h) fun k h1 => ∃ Inv : Nat → Ev → Hm → Prop, Inv 0 v h1 ∧
    (∀ (i : Nat) (x : D) (v : Ev) (h : Hm), k.its[i]? = some x → Inv i v h → k.chk h = true ∧ ∃ v1, g x v h = some v1 ∧ SatSX Y (b v1 h) (Inv (i + 1)) T N (Inv (i + 1))) ∧ (∀ v h, Inv k.its.length v h → k.chk h = true ∧ N v h)) : SatSX Y (sFor g w b v h) N T B G := by
  unfold sFor
  generalize w v h = o at s
  cases o with
  | exc _ _ => exact ⟨s.out⟩
  | err => exact s.out.elim
  | ok k h1 =>
  obtain ⟨Iv, h0, hs, hd⟩ := s.out
  exact forL_inv Iv k.its 0 v h1 h0 (fun i x v h e hi => by rw [Nat.zero_add] at hi ⊢; exact hs i x v h e hi) (fun v h z => hd v h (by rw [Nat.zero_add] at z; exact z))
/-- a while: an invariant and a number that falls -/
theorem whL_inv {t : TM} {b : SM} (Inv : Ev → Hm → Prop) (mu : Ev → Hm → Nat) (hs : ∀ v h, Inv v h → SatX (fun x h1 => Y x v h1) (t v h) fun c h1 => (c = true → SatSX Y (b v h1) (fun v2 h2 => Inv v2 h2 ∧ mu v2 h2 < mu v h) T N (fun v2 h2 => Inv v2 h2 ∧ mu v2 h2 < mu v h)) ∧ (c = false → N v h1)) :
    ∀ (n : Nat) (v : Ev) (h : Hm), Inv v h → mu v h < n → SatSX Y (whL t b n v h) N T B G
  | 0, v, h, _, hn => by omega
  | n + 1, v, h, hi, hn => by
    have s := hs v h hi
    unfold whL
    generalize t v h = o at s
    cases o with
    | exc _ _ => exact ⟨s.out⟩
    | err => exact s.out.elim
    | ok c h1 =>
    obtain ⟨s1, s2⟩ := s.out
    cases c with
    | false => exact ⟨s2 rfl⟩
    | true =>
      have s2 := s1 rfl
      simp only
      generalize b v h1 = q at s2 ⊢
      cases q with
      | nx v2 h2 => exact whL_inv Inv mu hs n v2 h2 s2.out.1 (by have := s2.out.2; omega)
      | ct v2 h2 => exact whL_inv Inv mu hs n v2 h2 s2.out.1 (by have := s2.out.2; omega)
      | bk v2 h2 => exact ⟨s2.out⟩
      | rt _ _ => exact ⟨s2.out⟩
      | exc _ _ _ => exact ⟨s2.out⟩
      | err => exact s2.out.elim
theorem ss_wh {t : TM} {b : SM} (Inv : Ev → Hm → Prop) (mu : Ev → Hm → Nat) (h0 : Inv v h) (hm : mu v h < 1000000) (hs : ∀ v h, Inv v h → SatX (fun x h1 => Y x v h1) (t v h) fun c h1 => (c = true → SatSX Y (b v h1) (fun v2 h2 => Inv v2 h2 ∧ mu v2 h2 < mu v h) T N (fun v2 h2 => Inv v2 h2 ∧ mu v2 h2 < mu v h)) ∧ (c = false → N v h1)) : SatSX Y (sWh t b v h) N T B G :=
  whL_inv Inv mu hs _ v h h0 hm
/-- a comprehension: an invariant over the turn and the items made -/
theorem lcL_inv {g : TgM} {t : TM} {e : EM} {chk : Hm → Bool} {v0 : Ev} (Inv : Nat → List D → Hm → Prop) {Q : List D → Hm → Prop} : ∀ (its : List D) (k : Nat) (acc : List D) (h : Hm), Inv k acc h →
    (∀ (i : Nat) (x : D) (acc : List D) (h : Hm), its[i]? = some x → Inv (k + i) acc h → chk h = true ∧ ∃ v1, g x v0 h = some v1 ∧ Sat (t v1 h) fun c h1 => (c = true → Sat (e v1 h1) fun y h2 => Inv (k + i + 1) (acc ++ [y]) h2) ∧ (c = false → Inv (k + i + 1) acc h1)) →
    (∀ acc h, Inv (k + its.length) acc h → chk h = true ∧ Q acc h) → SatX X (lcL g t e chk v0 its h) fun ys h1 => Q (acc ++ ys) h1
  | [], k, acc, h, h0, _, hd => by
    have := hd acc h h0
    simp only [lcL, this.1, if_true]
    refine ⟨?_⟩
    show Q (acc ++ []) h
    rw [List.append_nil]; exact this.2
  | x :: xs, k, acc, h, h0, hs, hd => by
    obtain ⟨hc, v1, eg, s⟩ := hs 0 x acc h rfl h0
    simp only [lcL, hc, if_true, eg]
    have rec_ : ∀ acc2 h2, Inv (k + 1) acc2 h2 → SatX X (lcL g t e chk v0 xs h2) fun ys h1 => Q (acc2 ++ ys) h1 := fun acc2 h2 z =>
      lcL_inv Inv xs (k + 1) acc2 h2 z (fun i y acc h e hi => by
        have := hs (i + 1) y acc h (by simpa using e) (by rw [show k + (i + 1) = k + 1 + i by omega]; exact hi)
        rw [show k + (i + 1) = k + 1 + i by omega] at this
        exact this) (fun acc h z => hd acc h (by rw [List.length_cons, show k + (xs.length + 1) = k + 1 + xs.length by omega]; exact z))
    refine SatX.bind ((SatX.nx (X := X) s).imp fun c h1 z => ?_)
    cases c with
    | false => exact rec_ acc h1 (z.2 rfl)
    | true =>
      refine SatX.bind ((SatX.nx (X := X) (z.1 rfl)).imp fun y h2 w => ?_)
      refine SatX.bind ((rec_ (acc ++ [y]) h2 w).imp fun ys h3 q => ?_)
      refine ⟨?_⟩
      show Q (acc ++ (y :: ys)) h3
      rw [List.append_assoc] at q
      exact q
theorem sa_Lc {own : List Nat} {g : TgM} {w : Ev → Hm → R Wk} {t : TM} {e : EM} (s : SatX X (w v h) fun k h1 => k.its.length ≤ 16777215 ∧ ∃ Inv : Nat → List D → Hm → Prop, Inv 0 [] h1 ∧
    (∀ (i : Nat) (x : D) (acc : List D) (h : Hm), k.its[i]? = some x → Inv i acc h → k.chk h = true ∧ ∃ v1, g x (wipeE v own) h = some v1 ∧ Sat (t v1 h) fun c h1 => (c = true → Sat (e v1 h1) fun y h2 => Inv (i + 1) (acc ++ [y]) h2) ∧ (c = false → Inv (i + 1) acc h1)) ∧
    (∀ acc h, Inv k.its.length acc h → k.chk h = true ∧ Q (.lst acc) h)) : SatX X (eLc own g w t e v h) Q := by
  refine SatX.bind (s.imp fun k h1 ⟨hl, Iv, h0, hs, hd⟩ => ?_)
  rw [if_pos hl]
  refine SatX.bind ((lcL_inv (Q := fun acc h => Q (.lst acc) h) Iv k.its 0 [] h1 h0 (fun i x acc h e hi => by rw [Nat.zero_add] at hi ⊢; exact hs i x acc h e hi) (fun acc h z => hd acc h (by rw [Nat.zero_add] at z; exact z))).imp fun ys h2 q => ?_)
  rw [List.nil_append] at q
  exact ⟨q⟩
theorem sa_tYes {Q : Bool → Hm → Prop} (q : Q true h) : SatX X (tYes v h) Q := ⟨q⟩
/-- a comprehension: an invariant over the turn and the items made -/
theorem lcLX_inv {g : TgM} {t : TM} {e : EM} {chk : Hm → Bool} {v0 : Ev} (Inv : Nat → List D → Hm → Prop) {Q : List D → Hm → Prop} : ∀ (its : List D) (k : Nat) (acc : List D) (h : Hm), Inv k acc h →
    (∀ (i : Nat) (x : D) (acc : List D) (h : Hm), its[i]? = some x → Inv (k + i) acc h → chk h = true ∧ ∃ v1, g x v0 h = some v1 ∧ Sat (t v1 h) fun c h1 => (c = true → SatX X (e v1 h1) fun y h2 => Inv (k + i + 1) (acc ++ [y]) h2) ∧ (c = false → Inv (k + i + 1) acc h1)) →
    (∀ acc h, Inv (k + its.length) acc h → chk h = true ∧ Q acc h) → SatX X (lcLX g t e chk v0 its h) fun ys h1 => Q (acc ++ ys) h1
  | [], k, acc, h, h0, _, hd => by
    have := hd acc h h0
    simp only [lcLX, this.1, if_true]
    refine ⟨?_⟩
    show Q (acc ++ []) h
    rw [List.append_nil]; exact this.2
  | x :: xs, k, acc, h, h0, hs, hd => by
    obtain ⟨hc, v1, eg, s⟩ := hs 0 x acc h rfl h0
    simp only [lcLX, hc, if_true, eg]
    have rec_ : ∀ acc2 h2, Inv (k + 1) acc2 h2 → SatX X (lcLX g t e chk v0 xs h2) fun ys h1 => Q (acc2 ++ ys) h1 := fun acc2 h2 z =>
      lcLX_inv Inv xs (k + 1) acc2 h2 z (fun i y acc h e hi => by
        have := hs (i + 1) y acc h (by simpa using e) (by rw [show k + (i + 1) = k + 1 + i by omega]; exact hi)
        rw [show k + (i + 1) = k + 1 + i by omega] at this
        exact this) (fun acc h z => hd acc h (by rw [List.length_cons, show k + (xs.length + 1) = k + 1 + xs.length by omega]; exact z))
    refine SatX.bind ((SatX.nx (X := X) s).imp fun c h1 z => ?_)
    cases c with
    | false => exact rec_ acc h1 (z.2 rfl)
    | true =>
      refine SatX.bind ((z.1 rfl).imp fun y h2 w => ?_)
      refine SatX.bind ((rec_ (acc ++ [y]) h2 w).imp fun ys h3 q => ?_)
      refine ⟨?_⟩
      show Q (acc ++ (y :: ys)) h3
      rw [List.append_assoc] at q
      exact q
theorem sa_LcX {own : List Nat} {g : TgM} {w : Ev → Hm → R Wk} {t : TM} {e : EM} (s : SatX X (w v h) fun k h1 => k.its.length ≤ 16777215 ∧ ∃ Inv : Nat → List D → Hm → Prop, Inv 0 [] h1 ∧
    (∀ (i : Nat) (x : D) (acc : List D) (h : Hm), k.its[i]? = some x → Inv i acc h → k.chk h = true ∧ ∃ v1, g x (wipeE v own) h = some v1 ∧ Sat (t v1 h) fun c h1 => (c = true → SatX X (e v1 h1) fun y h2 => Inv (i + 1) (acc ++ [y]) h2) ∧ (c = false → Inv (i + 1) acc h1)) ∧
    (∀ acc h, Inv k.its.length acc h → k.chk h = true ∧ Q (.lst acc) h)) : SatX X (eLcX own g w t e v h) Q := by
  refine SatX.bind (s.imp fun k h1 ⟨hl, Iv, h0, hs, hd⟩ => ?_)
  rw [if_pos hl]
  refine SatX.bind ((lcLX_inv (Q := fun acc h => Q (.lst acc) h) Iv k.its 0 [] h1 h0 (fun i x acc h e hi => by rw [Nat.zero_add] at hi ⊢; exact hs i x acc h e hi) (fun acc h z => hd acc h (by rw [Nat.zero_add] at z; exact z))).imp fun ys h2 q => ?_)
  rw [List.nil_append] at q
  exact ⟨q⟩
/-- a def -/
theorem sa_fn {np nl : Nat} {b : SM} {ds : List D} (hl : ds.length = np) (s : SatS (b (ds.map some ++ List.replicate (nl - np) none) h) (fun _ h1 => Q .non h1) Q) : SatX X (fn0 np nl b ds h) Q := by
  unfold fn0 fn
  rw [if_pos hl]
  generalize b (ds.map some ++ List.replicate (nl - np) none) h = o at s
  cases o with
  | nx _ _ => exact ⟨s.out⟩
  | rt _ _ => exact ⟨s.out⟩
  | bk _ _ => exact s.out.elim
  | ct _ _ => exact s.out.elim
  | exc _ _ _ => exact s.out.elim
  | err => exact s.out.elim
/-- a def that may raise -/
theorem sa_fnX {np nl : Nat} {b : SM} {ds : List D} (hl : ds.length = np) (s : SatSX (fun x _ h1 => X x h1) (b (ds.map some ++ List.replicate (nl - np) none) h) (fun _ h1 => Q .non h1) Q (fun _ _ => False) (fun _ _ => False)) : SatX X (fn np nl b ds h) Q := by
  unfold fn
  rw [if_pos hl]
  generalize b (ds.map some ++ List.replicate (nl - np) none) h = o at s
  cases o with
  | nx _ _ => exact ⟨s.out⟩
  | rt _ _ => exact ⟨s.out⟩
  | bk _ _ => exact s.out.elim
  | ct _ _ => exact s.out.elim
  | exc _ _ _ => exact ⟨s.out⟩
  | err => exact s.out.elim
theorem sa_tr {f : FM} {ds : List D} (s : SatX (fun x h1 => D.cl h.length x = true ∧ trOk h h1 h.length = true ∧ X x (h1.take h.length)) (f ds h) fun d h1 => D.cl h.length d = true ∧ trOk h h1 h.length = true ∧ Q d (h1.take h.length)) : SatX X (tr f ds h) Q := by
  unfold tr
  generalize f ds h = o at s
  cases o with
  | ok d h1 =>
    obtain ⟨s1, s2, s3⟩ := s.out
    simp only [s1, s2, Bool.and_self, if_true]
    exact ⟨s3⟩
  | exc d h1 =>
    obtain ⟨s1, s2, s3⟩ := s.out
    simp only [s1, s2, Bool.and_self, if_true]
    exact ⟨s3⟩
  | err => exact s.out.elim
end
end Dn
set_option Elab.async false
set_option linter.all false
set_option maxRecDepth 100000
set_option maxHeartbeats 4000000
namespace Dn
open PySem L2
section
variable {Q : D → Hm → Prop} {v : Ev} {h : Hm} {X : D → Hm → Prop} {Y : D → Ev → Hm → Prop}
theorem so_add {a b : Int} (q : Q (.int (a + b)) h) : SatX X (opAdd (.int a) (.int b) h) Q := ⟨q⟩
theorem so_addS {a b : Str} (hl : a.length + b.length ≤ 16777216) (q : Q (.str (a ++ b)) h) : SatX X (opAdd (.str a) (.str b) h) Q := by
  show SatX X (if a.length + b.length ≤ 16777216 then _ else _) Q
  rw [if_pos hl]; exact ⟨q⟩
theorem so_addT {a b : List D} (hl : a.length + b.length ≤ 16777216) (q : Q (.tup (a ++ b)) h) : SatX X (opAdd (.tup a) (.tup b) h) Q := by
  show SatX X (if a.length + b.length ≤ 16777216 then _ else _) Q
  rw [if_pos hl]; exact ⟨q⟩
theorem so_addL {a b : List D} (hl : a.length + b.length ≤ 16777216) (q : Q (.lst (a ++ b)) h) : SatX X (opAdd (.lst a) (.lst b) h) Q := by
  show SatX X (if a.length + b.length ≤ 16777216 then _ else _) Q
  rw [if_pos hl]; exact ⟨q⟩
theorem so_sub {a b : Int} (q : Q (.int (a - b)) h) : SatX X (opSub (.int a) (.int b) h) Q := ⟨q⟩
theorem so_mul {a b : Int} (hb : mulOk a b = true) (q : Q (.int (a * b)) h) : SatX X (opMul (.int a) (.int b) h) Q := by
  show SatX X (if mulOk a b = true then _ else _) Q
  rw [if_pos hb]; exact ⟨q⟩
theorem so_mulS {x : Str} {n : Int} (hb : -1000000 ≤ n ∧ n ≤ 1000000 ∧ x.length * n.toNat ≤ 1000000) (q : Q (.str (repStr x n)) h) : SatX X (opMul (.str x) (.int n) h) Q := by
  show SatX X (if _ then _ else _) Q
  rw [if_pos hb]; exact ⟨q⟩
theorem so_mulL {x : List D} {n : Int} (hb : -1000000 ≤ n ∧ n ≤ 1000000 ∧ x.length * n.toNat ≤ 16777216) (q : Q (.lst (List.replicate n.toNat x).flatten) h) : SatX X (opMul (.lst x) (.int n) h) Q := by
  show SatX X (if _ then _ else _) Q
  rw [if_pos hb]; exact ⟨q⟩
theorem so_mod {a b : Int} (hb : 0 < b) (q : Q (.int (a % b)) h) : SatX X (opMod (.int a) (.int b) h) Q := by
  show SatX X (if 0 < b then _ else _) Q
  rw [if_pos hb]; exact ⟨q⟩
theorem so_divW {a b : Int} (hb : 0 < b ∧ b < 1267650600228229401496703205376) (q : Q (.int (a / b)) h) : SatX X (opDiv (.int a) (.int b) h) Q := by
  show SatX X (if 0 < b ∧ b < 1267650600228229401496703205376 then _ else _) Q
  rw [if_pos hb]; exact ⟨q⟩
theorem so_div {a b : Int} (hb : 0 < b ∧ b < 1073741824) (q : Q (.int (a / b)) h) : SatX X (opDiv (.int a) (.int b) h) Q := so_divW ⟨hb.1, Int.lt_trans hb.2 (by decide)⟩ q
theorem so_pow {a b : Int} (hb : 0 ≤ b ∧ b ≤ 1000000 ∧ -(2 ^ 63) < a ∧ a < 2 ^ 64) (q : Q (.int (a ^ b.toNat)) h) : SatX X (opPow (.int a) (.int b) h) Q := by
  show SatX X (if _ then _ else _) Q
  rw [if_pos hb]; exact ⟨q⟩
theorem so_neg {a : Int} (q : Q (.int (-a)) h) : SatX X (opNeg (.int a) h) Q := ⟨q⟩
theorem so_lt {a b : Int} (q : Q (.bl (decide (a < b))) h) : SatX X (opLt (.int a) (.int b) h) Q := ⟨q⟩
theorem so_le {a b : Int} (q : Q (.bl (decide (a ≤ b))) h) : SatX X (opLe (.int a) (.int b) h) Q := ⟨q⟩
theorem so_gt {a b : Int} (q : Q (.bl (decide (b < a))) h) : SatX X (opGt (.int a) (.int b) h) Q := ⟨q⟩
theorem so_ge {a b : Int} (q : Q (.bl (decide (b ≤ a))) h) : SatX X (opGe (.int a) (.int b) h) Q := ⟨q⟩
theorem so_eqI {a b : Int} (q : Q (.bl (decide (a = b))) h) : SatX X (opEq (.int a) (.int b) h) Q := by
  refine ⟨show Q (.bl (D.eqb (.int a) (.int b))) h from ?_⟩
  rw [show D.eqb (.int a) (.int b) = decide (a = b) by simp [D.eqb, Bool.beq_eq_decide_eq]]; exact q
theorem so_neI {a b : Int} (q : Q (.bl (!decide (a = b))) h) : SatX X (opNe (.int a) (.int b) h) Q := by
  refine ⟨show Q (.bl (!D.eqb (.int a) (.int b))) h from ?_⟩
  rw [show D.eqb (.int a) (.int b) = decide (a = b) by simp [D.eqb, Bool.beq_eq_decide_eq]]; exact q
theorem so_eqS {a b : Str} (q : Q (.bl (decide (a = b))) h) : SatX X (opEq (.str a) (.str b) h) Q := by
  refine ⟨show Q (.bl (D.eqb (.str a) (.str b))) h from ?_⟩
  rw [show D.eqb (.str a) (.str b) = decide (a = b) by simp [D.eqb, Bool.beq_eq_decide_eq]]; exact q
theorem so_neS {a b : Str} (q : Q (.bl (!decide (a = b))) h) : SatX X (opNe (.str a) (.str b) h) Q := by
  refine ⟨show Q (.bl (!D.eqb (.str a) (.str b))) h from ?_⟩
  rw [show D.eqb (.str a) (.str b) = decide (a = b) by simp [D.eqb, Bool.beq_eq_decide_eq]]; exact q
theorem so_eqB {a b : Bool} (q : Q (.bl (a == b)) h) : SatX X (opEq (.bl a) (.bl b) h) Q := ⟨q⟩
theorem so_neB {a b : Bool} (q : Q (.bl (!(a == b))) h) : SatX X (opNe (.bl a) (.bl b) h) Q := ⟨q⟩
theorem so_neD {x y : D} (hs : scalD x y = false) (h1 : D.okN 64 (dr h x) = true) (h2 : D.okN 64 (dr h y) = true) (q : Q (.bl (!D.eqb (dr h x) (dr h y))) h) : SatX X (opNe x y h) Q := by
  unfold opNe
  rw [hs, h1, h2]; exact ⟨q⟩
theorem so_isN {x : D} (q : Q (.bl (D.eqb x .non)) h) : SatX X (opIsN x .non h) Q := by
  cases x <;> exact ⟨q⟩
theorem so_notN {x : D} (q : Q (.bl (!D.eqb x .non)) h) : SatX X (opNotN x .non h) Q := by
  cases x <;> exact ⟨q⟩
theorem so_notInR {x : D} {n : Nat} {l : List D} (e : h[n]? = some (.lst l)) (hf : (flatD x && l.all flatD) = true) (q : Q (.bl (!l.any fun z => D.eqb z x)) h) : SatX X (opNotIn x (.ref n) h) Q := by
  unfold opNotIn inD items
  simp only [e, hf, if_true]
  exact ⟨by simpa [SatP] using q⟩
theorem so_ixL {l : List D} {i : Int} {d : D} (e : atI l i = some d) (q : Q d h) : SatX X (opIx (.lst l) (.int i) h) Q := by
  simp only [opIx, lsOf, e]; exact ⟨q⟩
theorem so_ixT {l : List D} {i : Int} {d : D} (e : atI l i = some d) (q : Q d h) : SatX X (opIx (.tup l) (.int i) h) Q := by
  simp only [opIx, e]; exact ⟨q⟩
theorem so_ixR {n : Nat} {l : List D} {i : Int} {d : D} (e0 : h[n]? = some (.lst l)) (e : atI l i = some d) (q : Q d h) : SatX X (opIx (.ref n) (.int i) h) Q := by
  simp only [opIx, lsOf, e0, e]; exact ⟨q⟩
theorem so_ixS {x : Str} {i : Int} {c : Nat} (hl : x.length ≤ 16777216) (e : atI x.cps.toList i = some c) (q : Q (.str ⟨#[c]⟩) h) : SatX X (opIx (.str x) (.int i) h) Q := by
  simp only [opIx, hl, e, if_true]; exact ⟨q⟩
theorem so_ixC {ns : List Int} {i : Int} {k : Int} (e : atI ns i = some k) (q : Q (.int k) h) : SatX X (opIx (.scr ns) (.int i) h) Q := by
  simp only [opIx, e]; exact ⟨q⟩
theorem atI_in {α : Type} {l : List α} {i : Int} (h0 : 0 ≤ i) (h1 : i < l.length) : ∃ x, atI l i = some x ∧ x ∈ l ∧ l[i.toNat]? = some x := by
  have hn : i.toNat < l.length := by omega
  have : atI l i = some (l[i.toNat]) := by
    unfold atI ixN
    rw [if_pos h0, if_pos h1]
    simp
  exact ⟨_, this, List.getElem_mem _, List.getElem?_eq_getElem hn⟩
theorem atI_last {α : Type} {l : List α} {x : α} : atI (l ++ [x]) (-1) = some x := by
  unfold atI ixN
  rw [if_neg (by decide), if_pos (by simp; omega)]
  simp only [Option.bind_some, List.length_append, List.length_cons, List.length_nil]
  rw [show ((-1 : Int) + ((l.length + (0 + 1) : Nat) : Int)).toNat = l.length by omega]
  simp
theorem so_len {l : List D} (q : Q (.int l.length) h) : SatX X (bLen [.lst l] h) Q := ⟨q⟩
theorem so_lenT {l : List D} (q : Q (.int l.length) h) : SatX X (bLen [.tup l] h) Q := ⟨q⟩
theorem so_lenC {l : List Int} (q : Q (.int l.length) h) : SatX X (bLen [.scr l] h) Q := ⟨q⟩
theorem so_lenR {n : Nat} {l : List D} (e : h[n]? = some (.lst l)) (q : Q (.int l.length) h) : SatX X (bLen [.ref n] h) Q := by
  simp only [bLen, lsOf, e]; exact ⟨q⟩
theorem so_lenS {x : Str} (hl : x.length ≤ 16777216) (q : Q (.int x.length) h) : SatX X (bLen [.str x] h) Q := by
  simp only [bLen, hl, if_true]; exact ⟨q⟩
theorem so_max {a b : Int} (q : Q (.int (max a b)) h) : SatX X (bMax [.int a, .int b] h) Q := ⟨q⟩
theorem so_min {a b : Int} (q : Q (.int (min a b)) h) : SatX X (bMin [.int a, .int b] h) Q := ⟨q⟩
theorem so_minL {ns : List Int} (hl : 0 < ns.length) (q : Q (.int (mnL ns)) h) : SatX X (bMin [.lst (ns.map D.int)] h) Q := by
  simp only [bMin, lsOf, intsOf_map, hl, if_true]; exact ⟨q⟩
theorem so_sum {ns : List Int} (q : Q (.int ns.sum) h) : SatX X (bSum [.lst (ns.map D.int)] h) Q := by
  simp only [bSum, lsOf, intsOf_map]; exact ⟨q⟩
theorem so_all {ns : List Bool} (q : Q (.bl (ns.all id)) h) : SatX X (bAll [.lst (ns.map D.bl)] h) Q := by
  simp only [bAll, lsOf, blsOf_map]; exact ⟨q⟩
theorem so_intI {a : Int} (q : Q (.int a) h) : SatX X (bInt [.int a] h) Q := ⟨q⟩
theorem so_intB {b : Bool} (q : Q (.int (if b then 1 else 0)) h) : SatX X (bInt [.bl b] h) Q := ⟨q⟩
theorem so_str {a : Int} (hb : a.natAbs < 2 ^ 64) (q : Q (.str (strI a)) h) : SatX X (bStr [.int a] h) Q := by
  simp only [bStr, hb, if_true]; exact ⟨q⟩
theorem so_listT {l : List D} (q : Q (.lst l) h) : SatX X (bList [.tup l] h) Q := ⟨q⟩
theorem so_tupleR {n : Nat} {l : List D} (e : h[n]? = some (.lst l)) (q : Q (.tup l) h) : SatX X (bTuple [.ref n] h) Q := by
  simp only [bTuple, lsOf, e]; exact ⟨q⟩
theorem so_isi {T t : String} {d : D} (e : tyD h d = some t) (q : Q (.bl (isTy t T)) h) : SatX X (isi T d h) Q := by
  simp only [isi, e]; exact ⟨q⟩
theorem so_join {a : Str} {ys : List Str} (hl : (ys.map (·.length)).sum + ys.length * a.length ≤ 16777216) (q : Q (.str (Str.join a ys)) h) : SatX X (mJoin (.str a) [.lst (ys.map D.str)] h) Q := by
  simp only [mJoin, items, strsOf_map, hl, if_true]; exact ⟨q⟩
theorem so_append {n : Nat} {l : List D} {x : D} (e : h[n]? = some (.lst l)) (hl : l.length < 16777216) (q : Q .non (h.set n (.lst (l ++ [x])))) : SatX X (mAppend (.ref n) [x] h) Q := by
  simp only [mAppend, e, hl, if_true]; exact ⟨q⟩
theorem so_pop0 {n : Nat} {l : List D} {x : D} (e : h[n]? = some (.lst (x :: l))) (q : Q x (h.set n (.lst l))) : SatX X (mPop (.ref n) [.int 0] h) Q := by
  simp only [mPop, e]; exact ⟨q⟩
theorem so_fz {n : Nat} {l : List D} (e : h[n]? = some (.lst l)) (q : Q (.lst l) (h.set n .dead)) : SatX X (fz (.ref n) h) Q := by
  simp only [fz, e]; exact ⟨q⟩
theorem so_slL {l : List D} {lo hi : Option Int} (q : Q (.lst (cutD l lo hi)) h) : SatX X (opSl (.lst l) lo hi h) Q := ⟨q⟩
theorem so_slT {l : List D} {lo hi : Option Int} (q : Q (.tup (cutD l lo hi)) h) : SatX X (opSl (.tup l) lo hi h) Q := ⟨q⟩
theorem so_slS {x : Str} {lo hi : Option Int} (hl : x.length ≤ 16777216) (q : Q (.str (cutS x lo hi)) h) : SatX X (opSl (.str x) lo hi h) Q := by
  simp only [opSl, hl, if_true]; exact ⟨q⟩
theorem so_wkL {l : List D} {Q : Wk → Hm → Prop} (q : Q ⟨l, fun _ => true⟩ h) : SatX X (wkOf (.lst l) h) Q := ⟨q⟩
theorem so_wkT {l : List D} {Q : Wk → Hm → Prop} (q : Q ⟨l, fun _ => true⟩ h) : SatX X (wkOf (.tup l) h) Q := ⟨q⟩
theorem so_wkS {x : Str} {Q : Wk → Hm → Prop} (q : Q ⟨x.cps.toList.map fun c => .str ⟨#[c]⟩, fun _ => true⟩ h) : SatX X (wkOf (.str x) h) Q := ⟨q⟩
theorem so_wkR {n : Nat} {l : List D} {Q : Wk → Hm → Prop} (e : h[n]? = some (.lst l)) (q : Q ⟨l, fun h' => match h'[n]? with | some o => HD.beq o (.lst l) | none => false⟩ h) : SatX X (wkOf (.ref n) h) Q := by
  simp only [wkOf, e]; exact ⟨q⟩
theorem so_ixL0 {x0 : D} {r : List D} (q : Q x0 h) : SatX X (opIx (.lst (x0 :: r)) (.int 0) h) Q := so_ixL (by
  unfold L2.atI L2.ixN
  rw [if_pos (by decide), if_pos (by simp only [List.length_cons]; omega)]
  rfl) q
theorem so_ixT0 {x0 : D} {r : List D} (q : Q x0 h) : SatX X (opIx (.tup (x0 :: r)) (.int 0) h) Q := so_ixT (by
  unfold L2.atI L2.ixN
  rw [if_pos (by decide), if_pos (by simp only [List.length_cons]; omega)]
  rfl) q
theorem so_ixL1 {x0 x1 : D} {r : List D} (q : Q x1 h) : SatX X (opIx (.lst (x0 :: x1 :: r)) (.int 1) h) Q := so_ixL (by
  unfold L2.atI L2.ixN
  rw [if_pos (by decide), if_pos (by simp only [List.length_cons]; omega)]
  rfl) q
theorem so_ixT1 {x0 x1 : D} {r : List D} (q : Q x1 h) : SatX X (opIx (.tup (x0 :: x1 :: r)) (.int 1) h) Q := so_ixT (by
  unfold L2.atI L2.ixN
  rw [if_pos (by decide), if_pos (by simp only [List.length_cons]; omega)]
  rfl) q
theorem so_ixL2 {x0 x1 x2 : D} {r : List D} (q : Q x2 h) : SatX X (opIx (.lst (x0 :: x1 :: x2 :: r)) (.int 2) h) Q := so_ixL (by
  unfold L2.atI L2.ixN
  rw [if_pos (by decide), if_pos (by simp only [List.length_cons]; omega)]
  rfl) q
theorem so_ixT2 {x0 x1 x2 : D} {r : List D} (q : Q x2 h) : SatX X (opIx (.tup (x0 :: x1 :: x2 :: r)) (.int 2) h) Q := so_ixT (by
  unfold L2.atI L2.ixN
  rw [if_pos (by decide), if_pos (by simp only [List.length_cons]; omega)]
  rfl) q
theorem so_ixL3 {x0 x1 x2 x3 : D} {r : List D} (q : Q x3 h) : SatX X (opIx (.lst (x0 :: x1 :: x2 :: x3 :: r)) (.int 3) h) Q := so_ixL (by
  unfold L2.atI L2.ixN
  rw [if_pos (by decide), if_pos (by simp only [List.length_cons]; omega)]
  rfl) q
theorem so_ixT3 {x0 x1 x2 x3 : D} {r : List D} (q : Q x3 h) : SatX X (opIx (.tup (x0 :: x1 :: x2 :: x3 :: r)) (.int 3) h) Q := so_ixT (by
  unfold L2.atI L2.ixN
  rw [if_pos (by decide), if_pos (by simp only [List.length_cons]; omega)]
  rfl) q
theorem so_ixL4 {x0 x1 x2 x3 x4 : D} {r : List D} (q : Q x4 h) : SatX X (opIx (.lst (x0 :: x1 :: x2 :: x3 :: x4 :: r)) (.int 4) h) Q := so_ixL (by
  unfold L2.atI L2.ixN
  rw [if_pos (by decide), if_pos (by simp only [List.length_cons]; omega)]
  rfl) q
theorem so_ixT4 {x0 x1 x2 x3 x4 : D} {r : List D} (q : Q x4 h) : SatX X (opIx (.tup (x0 :: x1 :: x2 :: x3 :: x4 :: r)) (.int 4) h) Q := so_ixT (by
  unfold L2.atI L2.ixN
  rw [if_pos (by decide), if_pos (by simp only [List.length_cons]; omega)]
  rfl) q
theorem so_ixL5 {x0 x1 x2 x3 x4 x5 : D} {r : List D} (q : Q x5 h) : SatX X (opIx (.lst (x0 :: x1 :: x2 :: x3 :: x4 :: x5 :: r)) (.int 5) h) Q := so_ixL (by
  unfold L2.atI L2.ixN
  rw [if_pos (by decide), if_pos (by simp only [List.length_cons]; omega)]
  rfl) q
theorem so_ixT5 {x0 x1 x2 x3 x4 x5 : D} {r : List D} (q : Q x5 h) : SatX X (opIx (.tup (x0 :: x1 :: x2 :: x3 :: x4 :: x5 :: r)) (.int 5) h) Q := so_ixT (by
  unfold L2.atI L2.ixN
  rw [if_pos (by decide), if_pos (by simp only [List.length_cons]; omega)]
  rfl) q
theorem so_ixR0 {n : Nat} {x0 : D} {r : List D} (e : h[n]? = some (.lst (x0 :: r))) (q : Q x0 h) : SatX X (opIx (.ref n) (.int 0) h) Q := so_ixR e (by
  unfold L2.atI L2.ixN
  rw [if_pos (by decide), if_pos (by simp only [List.length_cons]; omega)]
  rfl) q
theorem so_ixR1 {n : Nat} {x0 x1 : D} {r : List D} (e : h[n]? = some (.lst (x0 :: x1 :: r))) (q : Q x1 h) : SatX X (opIx (.ref n) (.int 1) h) Q := so_ixR e (by
  unfold L2.atI L2.ixN
  rw [if_pos (by decide), if_pos (by simp only [List.length_cons]; omega)]
  rfl) q
theorem so_ixR2 {n : Nat} {x0 x1 x2 : D} {r : List D} (e : h[n]? = some (.lst (x0 :: x1 :: x2 :: r))) (q : Q x2 h) : SatX X (opIx (.ref n) (.int 2) h) Q := so_ixR e (by
  unfold L2.atI L2.ixN
  rw [if_pos (by decide), if_pos (by simp only [List.length_cons]; omega)]
  rfl) q
theorem so_ixP {l : List D} {i : Int} (P : D → Prop) (hP : ∀ d ∈ l, P d) (h0 : 0 ≤ i) (h1 : i < l.length) (q : ∀ d, P d → Q d h) : SatX X (opIx (.lst l) (.int i) h) Q := by
  obtain ⟨x, e, hx, _⟩ := atI_in h0 h1
  exact so_ixL e (q x (hP x hx))
/-- an item of a list of ints within bounds -/
def IntIn (lo hi : Int) (d : D) : Prop := ∃ k, d = .int k ∧ lo ≤ k ∧ k ≤ hi
theorem IntIn.mk {lo hi k : Int} (h1 : lo ≤ k) (h2 : k ≤ hi) : IntIn lo hi (.int k) := ⟨k, rfl, h1, h2⟩
theorem all_nil {P : D → Prop} : ∀ d ∈ ([] : List D), P d := fun _ h => nomatch h
theorem all_cons {P : D → Prop} {x : D} {l : List D} (a : P x) (b : ∀ d ∈ l, P d) : ∀ d ∈ x :: l, P d := List.forall_mem_cons.mpr ⟨a, b⟩
theorem so_put {n : Nat} {l : List D} {k : Int} {j : Nat} {x : D} {P : Hm → Prop} (e : h[n]? = some (.lst l)) (ej : L2.ixN l.length k = some j) (q : P (h.set n (.lst (l.set j x)))) : PutTo (.ref n) (.int k) x h P := by
  unfold PutTo
  simp only [putIx, e, ej, Option.map_some]
  exact q
theorem mulOkL {a b : Int} (h : -(2 ^ 64) < a ∧ a < 2 ^ 64) : mulOk a b = true := by
  simp only [mulOk, Bool.or_eq_true, Bool.and_eq_true, decide_eq_true_eq]; exact .inl h
theorem so_isiI_tuple {a : Int} (q : Q (.bl false) h) : SatX X (isi "tuple" (.int a) h) Q := so_isi (t := "int") rfl (by rw [show isTy "int" "tuple" = false by decide]; exact q)
theorem so_isiI_list {a : Int} (q : Q (.bl false) h) : SatX X (isi "list" (.int a) h) Q := so_isi (t := "int") rfl (by rw [show isTy "int" "list" = false by decide]; exact q)
theorem so_isiI_str {a : Int} (q : Q (.bl false) h) : SatX X (isi "str" (.int a) h) Q := so_isi (t := "int") rfl (by rw [show isTy "int" "str" = false by decide]; exact q)
theorem so_isiI_bool {a : Int} (q : Q (.bl false) h) : SatX X (isi "bool" (.int a) h) Q := so_isi (t := "int") rfl (by rw [show isTy "int" "bool" = false by decide]; exact q)
theorem so_isiI_int {a : Int} (q : Q (.bl true) h) : SatX X (isi "int" (.int a) h) Q := so_isi (t := "int") rfl (by rw [show isTy "int" "int" = true by decide]; exact q)
theorem so_isiS_tuple {a : Str} (q : Q (.bl false) h) : SatX X (isi "tuple" (.str a) h) Q := so_isi (t := "str") rfl (by rw [show isTy "str" "tuple" = false by decide]; exact q)
theorem so_isiS_list {a : Str} (q : Q (.bl false) h) : SatX X (isi "list" (.str a) h) Q := so_isi (t := "str") rfl (by rw [show isTy "str" "list" = false by decide]; exact q)
theorem so_isiS_str {a : Str} (q : Q (.bl true) h) : SatX X (isi "str" (.str a) h) Q := so_isi (t := "str") rfl (by rw [show isTy "str" "str" = true by decide]; exact q)
theorem so_isiS_bool {a : Str} (q : Q (.bl false) h) : SatX X (isi "bool" (.str a) h) Q := so_isi (t := "str") rfl (by rw [show isTy "str" "bool" = false by decide]; exact q)
theorem so_isiS_int {a : Str} (q : Q (.bl false) h) : SatX X (isi "int" (.str a) h) Q := so_isi (t := "str") rfl (by rw [show isTy "str" "int" = false by decide]; exact q)
theorem so_isiB_tuple {a : Bool} (q : Q (.bl false) h) : SatX X (isi "tuple" (.bl a) h) Q := so_isi (t := "bool") rfl (by rw [show isTy "bool" "tuple" = false by decide]; exact q)
theorem so_isiB_list {a : Bool} (q : Q (.bl false) h) : SatX X (isi "list" (.bl a) h) Q := so_isi (t := "bool") rfl (by rw [show isTy "bool" "list" = false by decide]; exact q)
theorem so_isiB_str {a : Bool} (q : Q (.bl false) h) : SatX X (isi "str" (.bl a) h) Q := so_isi (t := "bool") rfl (by rw [show isTy "bool" "str" = false by decide]; exact q)
theorem so_isiB_bool {a : Bool} (q : Q (.bl true) h) : SatX X (isi "bool" (.bl a) h) Q := so_isi (t := "bool") rfl (by rw [show isTy "bool" "bool" = true by decide]; exact q)
theorem so_isiB_int {a : Bool} (q : Q (.bl true) h) : SatX X (isi "int" (.bl a) h) Q := so_isi (t := "bool") rfl (by rw [show isTy "bool" "int" = true by decide]; exact q)
theorem so_isiN_tuple  (q : Q (.bl false) h) : SatX X (isi "tuple" (.non) h) Q := so_isi (t := "NoneType") rfl (by rw [show isTy "NoneType" "tuple" = false by decide]; exact q)
theorem so_isiN_list  (q : Q (.bl false) h) : SatX X (isi "list" (.non) h) Q := so_isi (t := "NoneType") rfl (by rw [show isTy "NoneType" "list" = false by decide]; exact q)
theorem so_isiN_str  (q : Q (.bl false) h) : SatX X (isi "str" (.non) h) Q := so_isi (t := "NoneType") rfl (by rw [show isTy "NoneType" "str" = false by decide]; exact q)
theorem so_isiN_bool  (q : Q (.bl false) h) : SatX X (isi "bool" (.non) h) Q := so_isi (t := "NoneType") rfl (by rw [show isTy "NoneType" "bool" = false by decide]; exact q)
theorem so_isiN_int  (q : Q (.bl false) h) : SatX X (isi "int" (.non) h) Q := so_isi (t := "NoneType") rfl (by rw [show isTy "NoneType" "int" = false by decide]; exact q)
theorem so_isiT_tuple {a : List D} (q : Q (.bl true) h) : SatX X (isi "tuple" (.tup a) h) Q := so_isi (t := "tuple") rfl (by rw [show isTy "tuple" "tuple" = true by decide]; exact q)
theorem so_isiT_list {a : List D} (q : Q (.bl false) h) : SatX X (isi "list" (.tup a) h) Q := so_isi (t := "tuple") rfl (by rw [show isTy "tuple" "list" = false by decide]; exact q)
theorem so_isiT_str {a : List D} (q : Q (.bl false) h) : SatX X (isi "str" (.tup a) h) Q := so_isi (t := "tuple") rfl (by rw [show isTy "tuple" "str" = false by decide]; exact q)
theorem so_isiT_bool {a : List D} (q : Q (.bl false) h) : SatX X (isi "bool" (.tup a) h) Q := so_isi (t := "tuple") rfl (by rw [show isTy "tuple" "bool" = false by decide]; exact q)
theorem so_isiT_int {a : List D} (q : Q (.bl false) h) : SatX X (isi "int" (.tup a) h) Q := so_isi (t := "tuple") rfl (by rw [show isTy "tuple" "int" = false by decide]; exact q)
theorem so_isiL_tuple {a : List D} (q : Q (.bl false) h) : SatX X (isi "tuple" (.lst a) h) Q := so_isi (t := "list") rfl (by rw [show isTy "list" "tuple" = false by decide]; exact q)
theorem so_isiL_list {a : List D} (q : Q (.bl true) h) : SatX X (isi "list" (.lst a) h) Q := so_isi (t := "list") rfl (by rw [show isTy "list" "list" = true by decide]; exact q)
theorem so_isiL_str {a : List D} (q : Q (.bl false) h) : SatX X (isi "str" (.lst a) h) Q := so_isi (t := "list") rfl (by rw [show isTy "list" "str" = false by decide]; exact q)
theorem so_isiL_bool {a : List D} (q : Q (.bl false) h) : SatX X (isi "bool" (.lst a) h) Q := so_isi (t := "list") rfl (by rw [show isTy "list" "bool" = false by decide]; exact q)
theorem so_isiL_int {a : List D} (q : Q (.bl false) h) : SatX X (isi "int" (.lst a) h) Q := so_isi (t := "list") rfl (by rw [show isTy "list" "int" = false by decide]; exact q)
theorem rcR {n : Nat} {l : List D} (e : h[n]? = some (.lst l)) : isRc "list" (.ref n) h = true := by
  simp [isRc, lsOf, e]
/-- a for over a list that nobody changes -/
theorem ss_forL {g : TgM} {w : Ev → Hm → R Wk} {b : SM} {N : Ev → Hm → Prop} {T : D → Hm → Prop} {B G : Ev → Hm → Prop} {l : List D} (Inv : Nat → Ev → Hm → Prop) (hw : SatX (fun x h1 => Y x v h1) (w v h) fun k h1 => k = ⟨l, fun _ => true⟩ ∧ h1 = h) (h0 : Inv 0 v h)
    (hs : ∀ (i : Nat) (x : D) (v : Ev) (h : Hm), l[i]? = some x → Inv i v h → ∃ v1, g x v h = some v1 ∧ SatSX Y (b v1 h) (Inv (i + 1)) T N (Inv (i + 1))) (hd : ∀ v h, Inv l.length v h → N v h) : SatSX Y (sFor g w b v h) N T B G := by
  refine ss_for (hw.imp ?_)
  rintro _ _ ⟨rfl, rfl⟩
  exact ⟨Inv, h0, fun i x v h e hi => ⟨rfl, hs i x v h e hi⟩, fun v h z => ⟨rfl, hd v h z⟩⟩
/-- a for over the numbers below n -/
theorem ss_forR {k : Nat} {w : Ev → Hm → R Wk} {b : SM} {N : Ev → Hm → Prop} {T : D → Hm → Prop} {B G : Ev → Hm → Prop} (n : Nat) (Inv : Nat → Ev → Hm → Prop) (hw : SatX (fun x h1 => Y x v h1) (w v h) fun k h1 => k = ⟨(List.range n).map fun (i : Nat) => .int (i : Int), fun _ => true⟩ ∧ h1 = h) (h0 : Inv 0 v h)
    (hs : ∀ (i : Nat) (v : Ev) (h : Hm), i < n → Inv i v h → SatSX Y (b (v.set k (some (.int i))) h) (Inv (i + 1)) T N (Inv (i + 1))) (hd : ∀ v h, Inv n v h → N v h) : SatSX Y (sFor (gN k) w b v h) N T B G := by
  refine ss_forL Inv hw h0 (fun i x v h e hi => ?_) (fun v h z => hd v h (by simpa using z))
  have hn : i < n := by
    have := (List.getElem?_eq_some_iff.mp e).1
    simpa using this
  have hx : x = .int i := by
    simp [hn] at e; exact e.symm
  subst hx
  exact ⟨_, rfl, hs i v h hn hi⟩
end
end Dn
set_option Elab.async false
set_option linter.all false
set_option maxRecDepth 100000
set_option maxHeartbeats 4000000
namespace Lw
open PySem Dn
local macro_rules | `(tactic| sizeOf_list_dec) => `(tactic| with_reducible refine And.intro (show _ ≤ 16777216 by simp only [List.length_cons, List.length_nil]; omega) ?_)
local macro_rules | `(tactic| sizeOf_list_dec) => `(tactic| with_reducible refine Exists.intro _ (And.intro rfl ?_))
local macro_rules | `(tactic| sizeOf_list_dec) => `(tactic| with_reducible (refine so_addL (by simp only [List.length_append, List.length_cons, List.length_nil]; omega) ?_; try simp only [List.cons_append, List.nil_append]))
local macro_rules | `(tactic| sizeOf_list_dec) => `(tactic| with_reducible refine so_lenR (by assumption) ?_)
local macro_rules | `(tactic| sizeOf_list_dec) => `(tactic| with_reducible refine so_ixR2 (by assumption) ?_)
local macro_rules | `(tactic| sizeOf_list_dec) => `(tactic| with_reducible refine so_ixR1 (by assumption) ?_)
local macro_rules | `(tactic| sizeOf_list_dec) => `(tactic| with_reducible refine so_ixR0 (by assumption) ?_)
local macro_rules | `(tactic| sizeOf_list_dec) => `(tactic| with_reducible refine so_div (by decide) ?_)
local macro_rules | `(tactic| sizeOf_list_dec) => `(tactic| with_reducible refine so_mul (mulOkL (by decide)) ?_)
local macro_rules | `(tactic| sizeOf_list_dec) => `(tactic| with_reducible refine so_mod (by decide) ?_)
local macro_rules | `(tactic| sizeOf_list_dec) => `(tactic| with_reducible refine so_isiL_int ?_)
local macro_rules | `(tactic| sizeOf_list_dec) => `(tactic| with_reducible refine so_isiL_bool ?_)
local macro_rules | `(tactic| sizeOf_list_dec) => `(tactic| with_reducible refine so_isiL_str ?_)
local macro_rules | `(tactic| sizeOf_list_dec) => `(tactic| with_reducible refine so_isiL_list ?_)
local macro_rules | `(tactic| sizeOf_list_dec) => `(tactic| with_reducible refine so_isiL_tuple ?_)
local macro_rules | `(tactic| sizeOf_list_dec) => `(tactic| with_reducible refine so_isiT_int ?_)
local macro_rules | `(tactic| sizeOf_list_dec) => `(tactic| with_reducible refine so_isiT_bool ?_)
local macro_rules | `(tactic| sizeOf_list_dec) => `(tactic| with_reducible refine so_isiT_str ?_)
local macro_rules | `(tactic| sizeOf_list_dec) => `(tactic| with_reducible refine so_isiT_list ?_)
local macro_rules | `(tactic| sizeOf_list_dec) => `(tactic| with_reducible refine so_isiT_tuple ?_)
local macro_rules | `(tactic| sizeOf_list_dec) => `(tactic| with_reducible refine so_isiN_int ?_)
local macro_rules | `(tactic| sizeOf_list_dec) => `(tactic| with_reducible refine so_isiN_bool ?_)
local macro_rules | `(tactic| sizeOf_list_dec) => `(tactic| with_reducible refine so_isiN_str ?_)
local macro_rules | `(tactic| sizeOf_list_dec) => `(tactic| with_reducible refine so_isiN_list ?_)
local macro_rules | `(tactic| sizeOf_list_dec) => `(tactic| with_reducible refine so_isiN_tuple ?_)
local macro_rules | `(tactic| sizeOf_list_dec) => `(tactic| with_reducible refine so_isiB_int ?_)
local macro_rules | `(tactic| sizeOf_list_dec) => `(tactic| with_reducible refine so_isiB_bool ?_)
local macro_rules | `(tactic| sizeOf_list_dec) => `(tactic| with_reducible refine so_isiB_str ?_)
local macro_rules | `(tactic| sizeOf_list_dec) => `(tactic| with_reducible refine so_isiB_list ?_)
local macro_rules | `(tactic| sizeOf_list_dec) => `(tactic| with_reducible refine so_isiB_tuple ?_)
local macro_rules | `(tactic| sizeOf_list_dec) => `(tactic| with_reducible refine so_isiS_int ?_)
local macro_rules | `(tactic| sizeOf_list_dec) => `(tactic| with_reducible refine so_isiS_bool ?_)
local macro_rules | `(tactic| sizeOf_list_dec) => `(tactic| with_reducible refine so_isiS_str ?_)
local macro_rules | `(tactic| sizeOf_list_dec) => `(tactic| with_reducible refine so_isiS_list ?_)
local macro_rules | `(tactic| sizeOf_list_dec) => `(tactic| with_reducible refine so_isiS_tuple ?_)
local macro_rules | `(tactic| sizeOf_list_dec) => `(tactic| with_reducible refine so_isiI_int ?_)
local macro_rules | `(tactic| sizeOf_list_dec) => `(tactic| with_reducible refine so_isiI_bool ?_)
local macro_rules | `(tactic| sizeOf_list_dec) => `(tactic| with_reducible refine so_isiI_str ?_)
local macro_rules | `(tactic| sizeOf_list_dec) => `(tactic| with_reducible refine so_isiI_list ?_)
local macro_rules | `(tactic| sizeOf_list_dec) => `(tactic| with_reducible refine so_isiI_tuple ?_)
local macro_rules | `(tactic| sizeOf_list_dec) => `(tactic| with_reducible refine so_ixT5 ?_)
local macro_rules | `(tactic| sizeOf_list_dec) => `(tactic| with_reducible refine so_ixT4 ?_)
local macro_rules | `(tactic| sizeOf_list_dec) => `(tactic| with_reducible refine so_ixT3 ?_)
local macro_rules | `(tactic| sizeOf_list_dec) => `(tactic| with_reducible refine so_ixT2 ?_)
local macro_rules | `(tactic| sizeOf_list_dec) => `(tactic| with_reducible refine so_ixT1 ?_)
local macro_rules | `(tactic| sizeOf_list_dec) => `(tactic| with_reducible refine so_ixT0 ?_)
local macro_rules | `(tactic| sizeOf_list_dec) => `(tactic| with_reducible refine so_ixL5 ?_)
local macro_rules | `(tactic| sizeOf_list_dec) => `(tactic| with_reducible refine so_ixL4 ?_)
local macro_rules | `(tactic| sizeOf_list_dec) => `(tactic| with_reducible refine so_ixL3 ?_)
local macro_rules | `(tactic| sizeOf_list_dec) => `(tactic| with_reducible refine so_ixL2 ?_)
local macro_rules | `(tactic| sizeOf_list_dec) => `(tactic| with_reducible refine so_ixL1 ?_)
local macro_rules | `(tactic| sizeOf_list_dec) => `(tactic| with_reducible refine so_ixL0 ?_)
local macro_rules | `(tactic| sizeOf_list_dec) => `(tactic| with_reducible refine so_intB ?_)
local macro_rules | `(tactic| sizeOf_list_dec) => `(tactic| with_reducible refine so_intI ?_)
local macro_rules | `(tactic| sizeOf_list_dec) => `(tactic| with_reducible refine so_min ?_)
local macro_rules | `(tactic| sizeOf_list_dec) => `(tactic| with_reducible refine so_max ?_)
local macro_rules | `(tactic| sizeOf_list_dec) => `(tactic| with_reducible refine so_lenC ?_)
local macro_rules | `(tactic| sizeOf_list_dec) => `(tactic| with_reducible refine so_lenT ?_)
local macro_rules | `(tactic| sizeOf_list_dec) => `(tactic| with_reducible refine so_len ?_)
local macro_rules | `(tactic| sizeOf_list_dec) => `(tactic| with_reducible refine so_notN ?_)
local macro_rules | `(tactic| sizeOf_list_dec) => `(tactic| with_reducible refine so_isN ?_)
local macro_rules | `(tactic| sizeOf_list_dec) => `(tactic| with_reducible refine so_neB ?_)
local macro_rules | `(tactic| sizeOf_list_dec) => `(tactic| with_reducible refine so_eqB ?_)
local macro_rules | `(tactic| sizeOf_list_dec) => `(tactic| with_reducible refine so_neS ?_)
local macro_rules | `(tactic| sizeOf_list_dec) => `(tactic| with_reducible refine so_eqS ?_)
local macro_rules | `(tactic| sizeOf_list_dec) => `(tactic| with_reducible refine so_neI ?_)
local macro_rules | `(tactic| sizeOf_list_dec) => `(tactic| with_reducible refine so_eqI ?_)
local macro_rules | `(tactic| sizeOf_list_dec) => `(tactic| with_reducible refine so_ge ?_)
local macro_rules | `(tactic| sizeOf_list_dec) => `(tactic| with_reducible refine so_gt ?_)
local macro_rules | `(tactic| sizeOf_list_dec) => `(tactic| with_reducible refine so_le ?_)
local macro_rules | `(tactic| sizeOf_list_dec) => `(tactic| with_reducible refine so_lt ?_)
local macro_rules | `(tactic| sizeOf_list_dec) => `(tactic| with_reducible refine so_sub ?_)
local macro_rules | `(tactic| sizeOf_list_dec) => `(tactic| with_reducible refine so_add ?_)
local macro_rules | `(tactic| sizeOf_list_dec) => `(tactic| with_reducible refine ss_ct ?_)
local macro_rules | `(tactic| sizeOf_list_dec) => `(tactic| with_reducible refine ss_bk ?_)
local macro_rules | `(tactic| sizeOf_list_dec) => `(tactic| with_reducible refine ss_put ?_)
local macro_rules | `(tactic| sizeOf_list_dec) => `(tactic| with_reducible refine ss_if ?_)
local macro_rules | `(tactic| sizeOf_list_dec) => `(tactic| with_reducible refine ss_retN ?_)
local macro_rules | `(tactic| sizeOf_list_dec) => `(tactic| with_reducible refine ss_ret ?_)
local macro_rules | `(tactic| sizeOf_list_dec) => `(tactic| with_reducible refine ss_expr ?_)
local macro_rules | `(tactic| sizeOf_list_dec) => `(tactic| with_reducible refine ss_asg15 ?_)
local macro_rules | `(tactic| sizeOf_list_dec) => `(tactic| with_reducible refine ss_asg14 ?_)
local macro_rules | `(tactic| sizeOf_list_dec) => `(tactic| with_reducible refine ss_asg13 ?_)
local macro_rules | `(tactic| sizeOf_list_dec) => `(tactic| with_reducible refine ss_asg12 ?_)
local macro_rules | `(tactic| sizeOf_list_dec) => `(tactic| with_reducible refine ss_asg11 ?_)
local macro_rules | `(tactic| sizeOf_list_dec) => `(tactic| with_reducible refine ss_asg10 ?_)
local macro_rules | `(tactic| sizeOf_list_dec) => `(tactic| with_reducible refine ss_asg9 ?_)
local macro_rules | `(tactic| sizeOf_list_dec) => `(tactic| with_reducible refine ss_asg8 ?_)
local macro_rules | `(tactic| sizeOf_list_dec) => `(tactic| with_reducible refine ss_asg7 ?_)
local macro_rules | `(tactic| sizeOf_list_dec) => `(tactic| with_reducible refine ss_asg6 ?_)
local macro_rules | `(tactic| sizeOf_list_dec) => `(tactic| with_reducible refine ss_asg5 ?_)
local macro_rules | `(tactic| sizeOf_list_dec) => `(tactic| with_reducible refine ss_asg4 ?_)
local macro_rules | `(tactic| sizeOf_list_dec) => `(tactic| with_reducible refine ss_asg3 ?_)
local macro_rules | `(tactic| sizeOf_list_dec) => `(tactic| with_reducible refine ss_asg2 ?_)
local macro_rules | `(tactic| sizeOf_list_dec) => `(tactic| with_reducible refine ss_asg1 ?_)
local macro_rules | `(tactic| sizeOf_list_dec) => `(tactic| with_reducible refine ss_asg0 ?_)
local macro_rules | `(tactic| sizeOf_list_dec) => `(tactic| with_reducible refine ss_seq ?_)
local macro_rules | `(tactic| sizeOf_list_dec) => `(tactic| with_reducible refine ss_nx ?_)
local macro_rules | `(tactic| sizeOf_list_dec) => `(tactic| with_reducible refine sa_tYes ?_)
local macro_rules | `(tactic| sizeOf_list_dec) => `(tactic| with_reducible refine sa_wR2 ?_)
local macro_rules | `(tactic| sizeOf_list_dec) => `(tactic| with_reducible refine sa_wR1 ?_)
local macro_rules | `(tactic| sizeOf_list_dec) => `(tactic| with_reducible refine sa_wE ?_)
local macro_rules | `(tactic| sizeOf_list_dec) => `(tactic| with_reducible refine sa_pE ?_)
local macro_rules | `(tactic| sizeOf_list_dec) => `(tactic| with_reducible refine sa_pN ?_)
local macro_rules | `(tactic| sizeOf_list_dec) => `(tactic| with_reducible refine sa_SlN ?_)
local macro_rules | `(tactic| sizeOf_list_dec) => `(tactic| with_reducible refine sa_Sl ?_)
local macro_rules | `(tactic| sizeOf_list_dec) => `(tactic| with_reducible refine sa_M ?_)
local macro_rules | `(tactic| sizeOf_list_dec) => `(tactic| with_reducible refine sa_chain ?_)
local macro_rules | `(tactic| sizeOf_list_dec) => `(tactic| with_reducible refine sa_tNot ?_)
local macro_rules | `(tactic| sizeOf_list_dec) => `(tactic| with_reducible refine sa_tOr ?_)
local macro_rules | `(tactic| sizeOf_list_dec) => `(tactic| with_reducible refine sa_tAnd ?_)
local macro_rules | `(tactic| sizeOf_list_dec) => `(tactic| with_reducible refine sa_Not ?_)
local macro_rules | `(tactic| sizeOf_list_dec) => `(tactic| with_reducible refine sa_Or ?_)
local macro_rules | `(tactic| sizeOf_list_dec) => `(tactic| with_reducible refine sa_And ?_)
local macro_rules | `(tactic| sizeOf_list_dec) => `(tactic| with_reducible refine sa_If ?_)
local macro_rules | `(tactic| sizeOf_list_dec) => `(tactic| with_reducible refine sa_tE ?_)
local macro_rules | `(tactic| sizeOf_list_dec) => `(tactic| with_reducible refine sa_new ?_)
local macro_rules | `(tactic| sizeOf_list_dec) => `(tactic| with_reducible refine sa_lst ?_)
local macro_rules | `(tactic| sizeOf_list_dec) => `(tactic| with_reducible refine sa_tup ?_)
local macro_rules | `(tactic| sizeOf_list_dec) => `(tactic| with_reducible refine sa_aC ?_)
local macro_rules | `(tactic| sizeOf_list_dec) => `(tactic| with_reducible refine sa_aN ?_)
local macro_rules | `(tactic| sizeOf_list_dec) => `(tactic| with_reducible refine sa_F ?_)
local macro_rules | `(tactic| sizeOf_list_dec) => `(tactic| with_reducible refine sa_U ?_)
local macro_rules | `(tactic| sizeOf_list_dec) => `(tactic| with_reducible refine sa_B ?_)
local macro_rules | `(tactic| sizeOf_list_dec) => `(tactic| with_reducible refine sa_C ?_)
local macro_rules | `(tactic| sizeOf_list_dec) => `(tactic| with_reducible refine sa_V15 ?_)
local macro_rules | `(tactic| sizeOf_list_dec) => `(tactic| with_reducible refine sa_V14 ?_)
local macro_rules | `(tactic| sizeOf_list_dec) => `(tactic| with_reducible refine sa_V13 ?_)
local macro_rules | `(tactic| sizeOf_list_dec) => `(tactic| with_reducible refine sa_V12 ?_)
local macro_rules | `(tactic| sizeOf_list_dec) => `(tactic| with_reducible refine sa_V11 ?_)
local macro_rules | `(tactic| sizeOf_list_dec) => `(tactic| with_reducible refine sa_V10 ?_)
local macro_rules | `(tactic| sizeOf_list_dec) => `(tactic| with_reducible refine sa_V9 ?_)
local macro_rules | `(tactic| sizeOf_list_dec) => `(tactic| with_reducible refine sa_V8 ?_)
local macro_rules | `(tactic| sizeOf_list_dec) => `(tactic| with_reducible refine sa_V7 ?_)
local macro_rules | `(tactic| sizeOf_list_dec) => `(tactic| with_reducible refine sa_V6 ?_)
local macro_rules | `(tactic| sizeOf_list_dec) => `(tactic| with_reducible refine sa_V5 ?_)
local macro_rules | `(tactic| sizeOf_list_dec) => `(tactic| with_reducible refine sa_V4 ?_)
local macro_rules | `(tactic| sizeOf_list_dec) => `(tactic| with_reducible refine sa_V3 ?_)
local macro_rules | `(tactic| sizeOf_list_dec) => `(tactic| with_reducible refine sa_V2 ?_)
local macro_rules | `(tactic| sizeOf_list_dec) => `(tactic| with_reducible refine sa_V1 ?_)
local macro_rules | `(tactic| sizeOf_list_dec) => `(tactic| with_reducible refine sa_V0 ?_)
local macro_rules | `(tactic| array_get_dec) => `(tactic| repeat sizeOf_list_dec)
def m_law_spoon_b : SM :=
  (sSeq (sIf (tE (eB opGe (eB opIx (eV 0) (eC (.int 0))) (eV 1))) (sSeq (sAsg (gN 6) (eB opMod (eB opIx (eV 0) (eC (.int 0))) (eV 1)))
  (sSeq (sPut (eV 0) (eC (.int 0)) (eB opDiv (eB opIx (eV 0) (eC (.int 0))) (eV 1)))
  (sRet (eV 6)))) sNx)
  (sSeq (sPut (eV 0) (eC (.int 2)) (eB opAdd (eB opIx (eV 0) (eC (.int 2))) (eC (.int 1))))
  (sSeq (sAsg (gN 2) (eLst (aC (eC (.int 2147483489)) (aC (eC (.int 2147483477)) (aC (eC (.int 2147483423)) (aC (eC (.int 2147483399)) (aC (eC (.int 2147483353)) (aC (eC (.int 2147483323)) (aC (eC (.int 2147483269)) aN)))))))))
  (sSeq (sAsg (gN 2) (eB opAdd (eV 2) (eLst (aC (eC (.int 2147483249)) aN))))
  (sSeq (sAsg (gN 3) (eB opIx (eV 2) (eB opMod (eB opIx (eV 0) (eC (.int 2))) (eC (.int 8)))))
  (sSeq (sAsg (gN 4) (eB opAdd (eB opMul (eB opMod (eB opIx (eV 0) (eC (.int 1))) (eV 3)) (eB opAdd (eB opMul (eC (.int 2)) (eB opIx (eV 0) (eC (.int 2)))) (eC (.int 3)))) (eB opMul (eC (.int 6151)) (eB opIx (eV 0) (eC (.int 2))))))
  (sSeq (sAsg (gN 4) (eB opMod (eB opPow (eV 4) (eC (.int 3))) (eV 3)))
  (sSeq (sAsg (gN 5) (eB opAdd (eB opAdd (eB opMul (eV 4) (eV 4)) (eB opMod (eB opIx (eV 0) (eC (.int 1))) (eC (.int 999983)))) (eB opIx (eV 0) (eC (.int 2)))))
  (sRet (eB opMod (eB opDiv (eB opMod (eB opPow (eV 5) (eC (.int 5))) (eB opIx (eV 2) (eB opMod (eB opAdd (eB opIx (eV 0) (eC (.int 2))) (eC (.int 5))) (eC (.int 8))))) (eC (.int 11))) (eV 1)))))))))))
def m_law_spoon : FM := fn0 2 7 m_law_spoon_b
def m_law_word_b : SM :=
  (sSeq (sAsg (gN 1) (eF m_law_spoon (aC (eV 0) (aC (eC (.int 5)) aN))))
  (sSeq (sAsg (gN 2) (eB opIx (eLst (aC (eC (.int 1)) (aC (eC (.int 2)) (aC (eC (.int 3)) (aC (eC (.int 12)) (aC (eB opAdd (eC (.int 1)) (eF m_law_spoon (aC (eV 0) (aC (eC (.int 12)) aN)))) aN)))))) (eV 1)))
  (sRet (eM "str" mJoin (eC (.str (Str.ofString ""))) (aC (eLc [3] (gN 3) (wR1 (eV 2)) tYes (eB opIx (eC (.str (Str.ofString "abcdefghijklmnopqrstuvwxyz"))) (eF m_law_spoon (aC (eV 0) (aC (eC (.int 26)) aN))))) aN)))))
def m_law_word : FM := fn0 1 4 m_law_word_b
/-- a bowl: three numbers; the last one counts, B more draws may come -/
structure Bowl (h : Hm) (n : Nat) (B : Nat) (a b c : Int) : Prop where
  at_ : h[n]? = some (.lst [.int a, .int b, .int c])
  a0 : 0 ≤ a
  b0 : 0 ≤ b
  c0 : 0 ≤ c
  cB : c + B ≤ 1000000000
theorem spoon0 {h : Hm} {n B : Nat} {a b c many : Int} {Q : D → Hm → Prop} (w : Bowl h n (B + 1) a b c) (h1 : 1 ≤ many) (h2 : many < 1073741824)
    (q : ∀ v a' c', 0 ≤ v → v < many → Bowl (h.set n (.lst [.int a', .int b, .int c'])) n B a' b c' → Q (.int v) (h.set n (.lst [.int a', .int b, .int c']))) : Sat (m_law_spoon [.ref n, .int many] h) Q := by
  obtain ⟨e, a0, b0, c0, cB⟩ := w
  have hn : n < h.length := (List.getElem?_eq_some_iff.mp e).1
  refine sa_fn rfl ?_
  unfold m_law_spoon_b
  simp only [List.map_cons, List.map_nil, List.replicate, Nat.reduceSub, List.cons_append, List.nil_append]
  array_get_dec
  refine ⟨fun hc => ?_, fun hc => ?_⟩
  · have hc : many ≤ a := by simpa using hc
    array_get_dec
    refine so_mod (by omega) ?_
    array_get_dec
    refine so_div ⟨by omega, h2⟩ ?_
    array_get_dec
    refine so_put (j := 0) e rfl ?_
    simp only [List.set_cons_zero]
    array_get_dec
    refine q _ _ _ (Int.emod_nonneg _ (by omega)) (Int.emod_lt_of_pos _ (by omega)) ⟨List.getElem?_set_self hn, Int.ediv_nonneg a0 (by omega), b0, c0, by omega⟩
  · array_get_dec
    refine so_put (j := 2) e rfl ?_
    simp only [List.set_cons_zero, List.set_cons_succ]
    have e2 : (h.set n (.lst [.int a, .int b, .int (c + 1)]))[n]? = some (.lst [.int a, .int b, .int (c + 1)]) := List.getElem?_set_self hn
    generalize hh : h.set n (.lst [.int a, .int b, .int (c + 1)]) = h' at e2
    array_get_dec
    refine so_ixP (IntIn 2147483200 2147483700) (by
      repeat refine all_cons (.mk (by decide) (by decide)) ?_
      exact all_nil) (Int.emod_nonneg _ (by decide)) (Int.emod_lt_of_pos _ (by decide)) ?_
    rintro _ ⟨p, rfl, p1, p2⟩
    array_get_dec
    refine so_mod (by omega) ?_
    array_get_dec
    have m1 : 0 ≤ b % p := Int.emod_nonneg _ (by omega)
    have m2 : b % p < p := Int.emod_lt_of_pos _ (by omega)
    refine so_mul (mulOkL ⟨by omega, by omega⟩) ?_
    array_get_dec
    have k1 : 0 ≤ b % p * (2 * (c + 1) + 3) := Int.mul_nonneg m1 (by omega)
    have k2 : b % p * (2 * (c + 1) + 3) ≤ 2147483700 * 2000000003 := Int.mul_le_mul (by omega) (by omega) (by omega) (by decide)
    generalize b % p * (2 * (c + 1) + 3) = t at k1 k2 ⊢
    refine so_pow ⟨by decide, by decide, by omega, by omega⟩ ?_
    array_get_dec
    refine so_mod (by omega) ?_
    array_get_dec
    have u1 : 0 ≤ (t + 6151 * (c + 1)) ^ (3 : Int).toNat % p := Int.emod_nonneg _ (by omega)
    have u2 : (t + 6151 * (c + 1)) ^ (3 : Int).toNat % p < p := Int.emod_lt_of_pos _ (by omega)
    generalize (t + 6151 * (c + 1)) ^ (3 : Int).toNat % p = u at u1 u2 ⊢
    refine so_mul (mulOkL ⟨by omega, by omega⟩) ?_
    array_get_dec
    have w1 : 0 ≤ u * u := Int.mul_nonneg u1 u1
    have w2 : u * u ≤ 2147483700 * 2147483700 := Int.mul_le_mul (by omega) (by omega) u1 (by decide)
    generalize u * u = uu at w1 w2 ⊢
    have x1 : 0 ≤ b % 999983 := Int.emod_nonneg _ (by decide)
    have x2 : b % 999983 < 999983 := Int.emod_lt_of_pos _ (by decide)
    generalize b % 999983 = bb at x1 x2 ⊢
    refine so_pow ⟨by decide, by decide, by omega, by omega⟩ ?_
    array_get_dec
    refine so_ixP (IntIn 2147483200 2147483700) (by
      repeat refine all_cons (.mk (by decide) (by decide)) ?_
      exact all_nil) (Int.emod_nonneg _ (by decide)) (Int.emod_lt_of_pos _ (by decide)) ?_
    rintro _ ⟨p', rfl, p3, p4⟩
    refine so_mod (by omega) ?_
    array_get_dec
    refine so_mod (by omega) ?_
    subst hh
    exact q _ _ _ (Int.emod_nonneg _ (by omega)) (Int.emod_lt_of_pos _ (by omega)) ⟨e2, a0, b0, by omega, by omega⟩
def Bow (n B : Nat) (h : Hm) : Prop := ∃ a b c, Bowl h n B a b c
theorem Bow.le {n B B' : Nat} {h : Hm} (w : Bow n B h) (hb : B' ≤ B) : Bow n B' h := by
  obtain ⟨a, b, c, w⟩ := w
  exact ⟨a, b, c, w.at_, w.a0, w.b0, w.c0, by have := w.cB; omega⟩
theorem Bow.lt {n B : Nat} {h : Hm} (w : Bow n B h) : n < h.length := by
  obtain ⟨a, b, c, w⟩ := w
  exact (List.getElem?_eq_some_iff.mp w.at_).1
/-- draws were made of the bowl at n, nothing else is changed -/
structure Drew (n B : Nat) (h h' : Hm) : Prop where
  bow : Bow n B h'
  len : h'.length = h.length
  keep : ∀ m, m ≠ n → h'[m]? = h[m]?
theorem Drew.trans {n B B' : Nat} {h h1 h2 : Hm} (a : Drew n B h h1) (b : Drew n B' h1 h2) : Drew n B' h h2 := ⟨b.bow, b.len.trans a.len, fun m hm => (b.keep m hm).trans (a.keep m hm)⟩
theorem Drew.refl {n B : Nat} {h : Hm} (a : Bow n B h) : Drew n B h h := ⟨a, rfl, fun _ _ => rfl⟩
theorem Drew.at {n B : Nat} {h h' : Hm} (a : Drew n B h h') {m : Nat} {o : HD} (hm : m ≠ n) (e : h[m]? = some o) : h'[m]? = some o := (a.keep m hm).trans e
theorem Drew.le {n B B' : Nat} {h h' : Hm} (a : Drew n B h h') (hb : B' ≤ B) : Drew n B' h h' := ⟨a.bow.le hb, a.len, a.keep⟩
theorem spoon {n B : Nat} {h : Hm} {many : Int} {Q : D → Hm → Prop} (w : Bow n (B + 1) h) (h1 : 1 ≤ many) (h2 : many < 1073741824) (q : ∀ v h', 0 ≤ v → v < many → Drew n B h h' → Q (.int v) h') : Sat (m_law_spoon [.ref n, .int many] h) Q := by
  obtain ⟨a, b, c, w⟩ := w
  exact spoon0 w h1 h2 fun v a' c' v0 v1 w' => q v _ v0 v1 ⟨⟨a', b, c', w'⟩, by simp, fun m hm => List.getElem?_set_ne (Ne.symm hm)⟩
/-- the signs of a text -/
def S (l : List Nat) : Str := ⟨l.toArray⟩
theorem S_of (w : Str) : w = S w.cps.toList := by cases w; simp [S]
theorem S_len (l : List Nat) : (S l).length = l.length := by simp [S, Str.length]
theorem S_inj {a b : List Nat} (h : S a = S b) : a = b := by
  unfold S at h
  injection h with h
  simpa using congrArg Array.toList h
def small (c : Nat) : Prop := 97 ≤ c ∧ c ≤ 122
/-- a word -/
def IsW (w : Str) : Prop := ∃ l, w = S l ∧ 1 ≤ l.length ∧ l.length ≤ 12 ∧ ∀ c ∈ l, small c
theorem IsW.len {w : Str} (h : IsW w) : 1 ≤ w.length ∧ w.length ≤ 12 := by
  obtain ⟨l, rfl, h1, h2, _⟩ := h
  rw [S_len]; exact ⟨h1, h2⟩
theorem strOk_S {l : List Nat} (h : ∀ c ∈ l, c < 1114112) : PyData.strOk (S l) = true := by
  unfold PyData.strOk S
  rw [Array.all_eq_true_iff_forall_mem]
  intro c hc
  exact decide_eq_true (h c (by simpa using hc))
theorem IsW.ok {w : Str} (h : IsW w) : PyData.strOk w = true := by
  obtain ⟨l, rfl, h1, h2, h3⟩ := h
  exact strOk_S fun c hc => by have := h3 c hc; unfold small at this; omega
theorem join_S (ls : List (List Nat)) : Str.join (Str.ofString "") (ls.map S) = S ls.flatten := by
  have h : ∀ ls : List (List Nat), TL.joinL [] ls = ls.flatten := by
    intro ls
    induction ls with
    | nil => rfl
    | cons a r ih =>
      cases r with
      | nil => simp [TL.joinL]
      | cons b r => simp only [TL.joinL, List.nil_append]; rw [ih]; rfl
  have e := TL.tl_join (Str.ofString "") (ls.map S)
  have e0 : TL.tl (Str.ofString "") = [] := by decide +kernel
  rw [e0, List.map_map, h] at e
  have e2 : ls.map (TL.tl ∘ S) = ls := by
    rw [List.map_congr_left (g := id) fun x _ => by simp [TL.tl, S], List.map_id]
  rw [e2] at e
  rw [S_of (Str.join _ _)]
  exact congrArg S e
theorem abc_at {i : Int} (h0 : 0 ≤ i) (h1 : i < 26) : ∃ c : Nat, L2.atI (Str.ofString "abcdefghijklmnopqrstuvwxyz").cps.toList i = some c ∧ small c := by
  have e : (Str.ofString "abcdefghijklmnopqrstuvwxyz").cps.toList = [97,98,99,100,101,102,103,104,105,106,107,108,109,110,111,112,113,114,115,116,117,118,119,120,121,122] := by decide +kernel
  rw [e]
  obtain ⟨x, e1, hx, _⟩ := atI_in (l := [97,98,99,100,101,102,103,104,105,106,107,108,109,110,111,112,113,114,115,116,117,118,119,120,121,122]) h0 (by simpa using h1)
  refine ⟨x, e1, ?_⟩
  simp only [List.mem_cons, List.not_mem_nil, or_false] at hx
  unfold small
  omega
theorem abc_len : (Str.ofString "abcdefghijklmnopqrstuvwxyz").length = 26 := by decide +kernel
/-- letters drawn -/
theorem letters_lc {own : List Nat} {k : Nat} {B nb size : Nat} {v : Ev} {h : Hm} {Q : D → Hm → Prop} {w : Ev → Hm → R Wk} {e : EM} (hw : Sat (w v h) fun k h1 => k = ⟨(List.range size).map fun (i : Nat) => .int (i : Int), fun _ => true⟩ ∧ h1 = h) (hs : size ≤ 1000) (hb : Bow nb (B + size) h)
    (he : ∀ (d : D) (T : Nat) (h' : Hm) (P : D → Hm → Prop), Bow nb (T + 1) h' → (∀ c h2, small c → Drew nb T h' h2 → P (.str (S [c])) h2) → Sat (e ((wipeE v own).set k (some d)) h') P)
    (q : ∀ (l : List Nat) (h' : Hm), l.length = size → (∀ c ∈ l, small c) → Drew nb B h h' → Q (.lst (l.map fun c => .str (S [c]))) h') :
    Sat (eLc own (gN k) w tYes e v h) Q := by
  refine sa_Lc (hw.imp ?_)
  rintro _ _ ⟨rfl, rfl⟩
  refine ⟨by simp; omega, fun i acc h' => ∃ l : List Nat, acc = l.map (fun c => .str (S [c])) ∧ l.length = i ∧ (∀ c ∈ l, small c) ∧ Drew nb (B + (size - i)) _ h', ⟨[], rfl, rfl, (fun _ z => nomatch z), Drew.refl (by simpa using hb)⟩, ?_, ?_⟩
  · rintro i x acc h' hx ⟨l, rfl, hl, hsm, hd⟩
    have hi : i < size := by
      have := (List.getElem?_eq_some_iff.mp hx).1
      simpa using this
    refine ⟨rfl, _, rfl, sa_tYes ⟨fun _ => ?_, fun z => nomatch z⟩⟩
    refine he x (B + (size - (i + 1))) h' _ (hd.bow.le (by omega)) fun c h2 hc hd2 => ?_
    refine ⟨l ++ [c], by simp, by simp [hl], fun z hz => ?_, hd.trans hd2⟩
    rcases List.mem_append.mp hz with hz | hz
    · exact hsm z hz
    · rw [List.mem_singleton.mp hz]; exact hc
  · rintro acc h' ⟨l, rfl, hl, hsm, hd⟩
    have hl : l.length = size := by simpa using hl
    exact ⟨rfl, q l h' hl hsm (hd.le (by omega))⟩
theorem flat1 (l : List Nat) : (l.map fun c => [c]).flatten = l := by
  induction l with
  | nil => rfl
  | cons a r ih => simp [ih]
theorem so_joinL {l : List Nat} {h : Hm} {Q : D → Hm → Prop} (hl : l.length ≤ 1000) (q : Q (.str (S l)) h) : Sat (mJoin (.str (Str.ofString "")) [.lst (l.map fun c => .str (S [c]))] h) Q := by
  have e : (l.map fun c => D.str (S [c])) = ((l.map fun c => [c]).map S).map D.str := by simp
  rw [e]
  have e1 : ((l.map fun c => [c]).map S).map (fun x => x.length) = l.map fun _ => 1 := by
    rw [List.map_map, List.map_map]
    exact List.map_congr_left fun c _ => S_len [c]
  have e2 : (Str.ofString "").length = 0 := by decide +kernel
  have e3 : (l.map fun _ => 1).sum = l.length := by simp [List.map_const']
  refine so_join (by rw [e1, e2, e3]; omega) ?_
  rw [join_S, flat1]
  exact q
theorem word {n B : Nat} {h : Hm} {Q : D → Hm → Prop} (w : Bow n (B + 20) h) (q : ∀ x h', IsW x → Drew n B h h' → Q (.str x) h') : Sat (m_law_word [.ref n] h) Q := by
  refine sa_fn rfl ?_
  unfold m_law_word_b
  simp only [List.map_cons, List.map_nil, List.replicate, Nat.reduceSub, List.cons_append, List.nil_append]
  array_get_dec
  refine spoon w (by decide) (by decide) fun way h1 w0 w1 d1 => ?_
  array_get_dec
  refine spoon d1.bow (by decide) (by decide) fun s0 h2 s1 s2 d2 => ?_
  array_get_dec
  refine so_ixP (IntIn 1 12) (by
    refine all_cons (.mk (by decide) (by decide)) (all_cons (.mk (by decide) (by decide)) (all_cons (.mk (by decide) (by decide)) (all_cons (.mk (by decide) (by decide)) (all_cons (.mk (by omega) (by omega)) all_nil))))) w0 (by simpa using w1) ?_
  rintro _ ⟨size, rfl, z1, z2⟩
  array_get_dec
  refine ⟨rfl, ?_⟩
  array_get_dec
  refine letters_lc (B := B) (nb := n) (size := size.toNat) (Q := fun x h2 => Sat (aN _ h2) fun xs h2 => Sat (mJoin (.str (Str.ofString "")) (x :: xs) h2) Q) (by
    array_get_dec
    exact ⟨by omega, by omega, rfl, rfl⟩) (by omega) ((d1.trans d2).bow.le (by omega)) ?_ ?_
  · intro d T h' P hb' k
    refine sa_B (sa_C ?_)
    simp only [wipeE, List.foldr, List.set_cons_zero, List.set_cons_succ]
    array_get_dec
    refine spoon hb' (by decide) (by decide) fun v h3 v0 v1 d3 => ?_
    obtain ⟨c, ec, hc⟩ := abc_at v0 v1
    refine so_ixS (by rw [abc_len]; decide) ec ?_
    exact k c h3 hc d3
  · intro l h3 hl hsm d3
    array_get_dec
    refine so_joinL (by omega) (q _ _ ⟨l, rfl, by omega, by omega, hsm⟩ ((d1.trans d2).trans d3))
/-- plain data, less than n deep -/
def Pl : Nat → D → Prop
  | 0, _ => False
  | _ + 1, .non => True
  | _ + 1, .bl _ => True
  | _ + 1, .int _ => True
  | _ + 1, .str _ => True
  | n + 1, .tup l => l.length ≤ 16777215 ∧ ∀ x ∈ l, Pl n x
  | n + 1, .lst l => l.length ≤ 16777215 ∧ ∀ x ∈ l, Pl n x
  | _, _ => False
theorem atI_nat {α : Type} {l : List α} {i : Nat} {x : α} (e : l[i]? = some x) : L2.atI l (i : Int) = some x := by
  have hi := (List.getElem?_eq_some_iff.mp e).1
  unfold L2.atI L2.ixN
  rw [if_pos (by omega), if_pos (by omega)]
  simpa using e
def m_deed_text_b : SM :=
  (sSeq (sIf (tE (eB opEq (eB opIx (eV 0) (eC (.int 0))) (eC (.str (Str.ofString "put"))))) (sRet (eB opAdd (eC (.str (Str.ofString "+"))) (eB opIx (eV 0) (eC (.int 1))))) sNx)
  (sRet (eB opAdd (eIf (tE (eB opEq (eB opIx (eV 0) (eC (.int 0))) (eC (.str (Str.ofString "again"))))) (eC (.str (Str.ofString "*"))) (eC (.str (Str.ofString "=")))) (eF bStr (aC (eB opIx (eV 0) (eC (.int 1))) aN)))))
def m_deed_text : FM := fn0 1 1 m_deed_text_b
def m_item_text_b : SM :=
  (sRet (eIf (tE (eB opEq (eB opIx (eV 0) (eC (.int 0))) (eC (.str (Str.ofString "word"))))) (eB opIx (eV 0) (eC (.int 1))) (eF bStr (aC (eB opIx (eV 0) (eC (.int 1))) aN))))
def m_item_text : FM := fn0 1 1 m_item_text_b
def m_deed_price_b : SM :=
  (sRet (eB opAdd (eF bLen (aC (eF m_deed_text (aC (eV 0) aN)) aN)) (eC (.int 1))))
def m_deed_price : FM := fn0 1 1 m_deed_price_b
def m_item_price_b : SM :=
  (sRet (eB opAdd (eF bLen (aC (eF m_item_text (aC (eV 0) aN)) aN)) (eC (.int 1))))
def m_item_price : FM := fn0 1 1 m_item_price_b
/-- how many signs a number's text has -/
def dg (n : Nat) : Nat := (Nat.toDigits 10 n).length
theorem dg_lt {n : Nat} (h : n < 10) : dg n = 1 := by unfold dg; rw [Nat.toDigits_of_lt_base h]; rfl
theorem dg_ge {n : Nat} (h : 10 ≤ n) : dg n = dg (n / 10) + 1 := by unfold dg; rw [Nat.toDigits_of_base_le (by decide) h]; simp
theorem strI_S (n : Nat) : strI (n : Int) = S (TL.numL n) := TL.ext_tl (TL.tl_num n)
theorem dg_numL (n : Nat) : dg n = (TL.numL n).length := by unfold dg TL.numL; rw [List.length_map]
theorem S_app (a b : List Nat) : S a ++ S b = S (a ++ b) := TL.ext_tl (by rw [TL.tl_append]; rfl)
theorem app_len (a b : Str) : (a ++ b).length = a.length + b.length := by
  rw [S_of a, S_of b, S_app, S_len, S_len, S_len, List.length_append]
theorem strI_len {n : Int} (h : 0 ≤ n) : (strI n).length = dg n.toNat := by
  obtain ⟨m, rfl⟩ := Int.eq_ofNat_of_zero_le h
  rw [strI_S, S_len, dg_numL]; rfl
theorem dg_small {n : Nat} (h : n < 1000000) : dg n ≤ 6 := by
  rw [dg_numL]; exact TL.numL_len (by decide) h
inductive IsDeed : D → Prop
  | put (w : Str) (h : IsW w) : IsDeed (.tup [.str (Str.ofString "put"), .str w])
  | again (n : Int) (h0 : 1 ≤ n) (h1 : n ≤ 999) : IsDeed (.tup [.str (Str.ofString "again"), .int n])
  | room (n : Int) (h0 : 0 ≤ n) (h1 : n ≤ 200) : IsDeed (.tup [.str (Str.ofString "room"), .int n])
inductive IsItem : D → Prop
  | word (w : Str) (h : IsW w) : IsItem (.tup [.str (Str.ofString "word"), .str w])
  | by_ (n : Int) (h0 : 1 ≤ n) (h1 : n ≤ 20000) : IsItem (.tup [.str (Str.ofString "by"), .int n])
/-- how many signs a word or a number has -/
def sgn : D → Nat
  | .str w => w.length
  | .int n => dg n.toNat
  | _ => 0
theorem len1 : (Str.ofString "+").length = 1 ∧ (Str.ofString "*").length = 1 ∧ (Str.ofString "=").length = 1 := by decide +kernel
theorem ne_put : decide (Str.ofString "put" = Str.ofString "put") = true ∧ decide (Str.ofString "again" = Str.ofString "put") = false ∧ decide (Str.ofString "room" = Str.ofString "put") = false ∧ decide (Str.ofString "again" = Str.ofString "again") = true ∧ decide (Str.ofString "room" = Str.ofString "again") = false := by decide +kernel
theorem ne_word : decide (Str.ofString "word" = Str.ofString "word") = true ∧ decide (Str.ofString "by" = Str.ofString "word") = false := by decide +kernel
def pay : D → D
  | .tup [_, b] => b
  | _ => .non
theorem sgn_int {n : Int} (h0 : 0 ≤ n) (h1 : n < 1000000) : sgn (.int n) ≤ 12 := by
  have := dg_small (n := n.toNat) (by omega)
  show dg n.toNat ≤ 12
  omega
theorem IsDeed.sgn {d : D} (i : IsDeed d) : sgn (pay d) ≤ 12 := by
  cases i with
  | put w hw => exact hw.len.2
  | again n h0 h1 => exact sgn_int (by omega) (by omega)
  | room n h0 h1 => exact sgn_int (by omega) (by omega)
theorem IsItem.sgn {d : D} (i : IsItem d) : sgn (pay d) ≤ 12 := by
  cases i with
  | word w hw => exact hw.len.2
  | by_ n h0 h1 => exact sgn_int (by omega) (by omega)
/-- a deed's text -/
theorem deed_text {d : D} {h : Hm} {Q : D → Hm → Prop} (i : IsDeed d) (q : ∀ y : Str, y.length = 1 + sgn (pay d) → Q (.str y) h) : Sat (m_deed_text [d] h) Q := by
  refine sa_fn rfl ?_
  unfold m_deed_text_b
  simp only [List.map_cons, List.map_nil, List.replicate, Nat.reduceSub, List.cons_append, List.nil_append]
  cases i with
  | put w hw =>
    array_get_dec
    refine ⟨fun _ => ?_, fun hc => by simp [ne_put] at hc⟩
    array_get_dec
    have := hw.len
    exact so_addS (by rw [len1.1]; omega) (q _ (by rw [app_len, len1.1]; rfl))
  | again n h0 h1 =>
    array_get_dec
    refine ⟨fun hc => by simp [ne_put] at hc, fun _ => ?_⟩
    array_get_dec
    have e := strI_len (n := n) (by omega)
    have e2 := dg_small (n := n.toNat) (by omega)
    refine ⟨fun _ => ?_, fun hc => by simp [ne_put] at hc⟩
    array_get_dec
    refine so_str (by omega) ?_
    exact so_addS (by rw [len1.2.1]; omega) (q _ (by rw [app_len, len1.2.1, e]; rfl))
  | room n h0 h1 =>
    array_get_dec
    refine ⟨fun hc => by simp [ne_put] at hc, fun _ => ?_⟩
    array_get_dec
    have e := strI_len (n := n) (by omega)
    have e2 := dg_small (n := n.toNat) (by omega)
    refine ⟨fun hc => by simp [ne_put] at hc, fun _ => ?_⟩
    array_get_dec
    refine so_str (by omega) ?_
    exact so_addS (by rw [len1.2.2]; omega) (q _ (by rw [app_len, len1.2.2, e]; rfl))
theorem deed_price {d : D} {h : Hm} {Q : D → Hm → Prop} (i : IsDeed d) (q : Q (.int (2 + sgn (pay d))) h) : Sat (m_deed_price [d] h) Q := by
  refine sa_fn rfl ?_
  unfold m_deed_price_b
  simp only [List.map_cons, List.map_nil, List.replicate, Nat.reduceSub, List.cons_append, List.nil_append]
  array_get_dec
  refine deed_text i fun y hy => ?_
  array_get_dec
  have := i.sgn
  refine so_lenS (by omega) ?_
  array_get_dec
  rw [show ((y.length : Int) + 1) = 2 + sgn (pay d) by omega]
  exact q
theorem item_text {d : D} {h : Hm} {Q : D → Hm → Prop} (i : IsItem d) (q : ∀ y : Str, y.length = sgn (pay d) → Q (.str y) h) : Sat (m_item_text [d] h) Q := by
  refine sa_fn rfl ?_
  unfold m_item_text_b
  simp only [List.map_cons, List.map_nil, List.replicate, Nat.reduceSub, List.cons_append, List.nil_append]
  cases i with
  | word w hw =>
    array_get_dec
    refine ⟨fun _ => ?_, fun hc => by simp [ne_word] at hc⟩
    array_get_dec
    exact q _ rfl
  | by_ n h0 h1 =>
    array_get_dec
    refine ⟨fun hc => by simp [ne_word] at hc, fun _ => ?_⟩
    array_get_dec
    refine so_str (by omega) ?_
    exact q _ (strI_len (by omega))
theorem item_price {d : D} {h : Hm} {Q : D → Hm → Prop} (i : IsItem d) (q : Q (.int (1 + sgn (pay d))) h) : Sat (m_item_price [d] h) Q := by
  refine sa_fn rfl ?_
  unfold m_item_price_b
  simp only [List.map_cons, List.map_nil, List.replicate, Nat.reduceSub, List.cons_append, List.nil_append]
  array_get_dec
  refine item_text i fun y hy => ?_
  array_get_dec
  have := i.sgn
  refine so_lenS (by omega) ?_
  array_get_dec
  rw [show ((y.length : Int) + 1) = 1 + sgn (pay d) by omega]
  exact q
/-- a comprehension whose elements change nothing -/
theorem sa_LcMap {own : List Nat} {k : Nat} {w : Ev → Hm → R Wk} {e : EM} {v : Ev} {h : Hm} {Q : D → Hm → Prop} {l : List D} (f : D → D) (hl : l.length ≤ 16777215) (hw : Sat (w v h) fun k h1 => k = ⟨l, fun _ => true⟩ ∧ h1 = h)
    (he : ∀ x ∈ l, ∀ P : D → Hm → Prop, P (f x) h → Sat (e ((wipeE v own).set k (some x)) h) P) (q : Q (.lst (l.map f)) h) : Sat (eLc own (gN k) w tYes e v h) Q := by
  refine sa_Lc (hw.imp ?_)
  rintro _ _ ⟨rfl, rfl⟩
  refine ⟨hl, fun i acc h' => acc = (l.take i).map f ∧ h' = _, ⟨rfl, rfl⟩, ?_, ?_⟩
  · rintro i x acc h' hx ⟨rfl, rfl⟩
    refine ⟨rfl, _, rfl, sa_tYes ⟨fun _ => ?_, fun z => nomatch z⟩⟩
    refine he x (List.mem_of_getElem? hx) _ ⟨?_, rfl⟩
    rw [List.take_add_one, hx]
    simp
  · rintro acc h' ⟨rfl, rfl⟩
    refine ⟨rfl, ?_⟩
    rw [List.take_length]
    exact q
/-- a letter: a room and items -/
inductive IsLetter : D → Prop
  | mk (r : Int) (l : List D) (h0 : 0 ≤ r) (h1 : r ≤ 20000) (h2 : 1 ≤ l.length) (h3 : l.length ≤ 8) (h4 : ∀ x ∈ l, IsItem x) : IsLetter (.tup [.int r, .tup l])
/-- draws of the bowl at n, new places beyond -/
structure DrewX (n B : Nat) (h h' : Hm) : Prop where
  bow : Bow n B h'
  lt : n < h.length
  len : h.length ≤ h'.length
  keep : ∀ m, m < h.length → m ≠ n → h'[m]? = h[m]?
theorem Drew.lt {n B : Nat} {h h' : Hm} (d : Drew n B h h') : n < h.length := by have := d.bow.lt; rw [d.len] at this; exact this
theorem Drew.x {n B : Nat} {h h' : Hm} (d : Drew n B h h') : DrewX n B h h' := ⟨d.bow, d.lt, Nat.le_of_eq d.len.symm, fun m _ hm => d.keep m hm⟩
theorem DrewX.then {n B B' : Nat} {h h1 h2 : Hm} (a : DrewX n B h h1) (b : Drew n B' h1 h2) : DrewX n B' h h2 := ⟨b.bow, a.lt, by rw [b.len]; exact a.len, fun m h0 hm => (b.keep m hm).trans (a.keep m h0 hm)⟩
theorem DrewX.le {n B B' : Nat} {h h' : Hm} (a : DrewX n B h h') (hb : B' ≤ B) : DrewX n B' h h' := ⟨a.bow.le hb, a.lt, a.len, a.keep⟩
theorem Bow.of_at {n B : Nat} {h h' : Hm} (w : Bow n B h) (e : h'[n]? = h[n]?) : Bow n B h' := by
  obtain ⟨a, b, c, w⟩ := w
  exact ⟨a, b, c, e.trans w.at_, w.a0, w.b0, w.c0, w.cB⟩
theorem DrewX.put {n B : Nat} {h h' : Hm} {k : Nat} {o : HD} (a : DrewX n B h h') (hk : h.length ≤ k) : DrewX n B h (h'.set k o) :=
  ⟨a.bow.of_at (List.getElem?_set_ne (by have := a.lt; omega)), a.lt, by rw [List.length_set]; exact a.len, fun m hm hn => by rw [List.getElem?_set_ne (by omega)]; exact a.keep m hm hn⟩
theorem DrewX.push {n B : Nat} {h h' : Hm} {o : HD} (a : DrewX n B h h') : DrewX n B h (h' ++ [o]) :=
  ⟨a.bow.of_at (List.getElem?_append_left (by have := a.lt; have := a.len; omega)), a.lt, by rw [List.length_append]; have := a.len; omega, fun m hm hn => by rw [List.getElem?_append_left (by have := a.len; omega)]; exact a.keep m hm hn⟩
theorem trOk_of {N : Nat} : ∀ {h h1 : Hm}, h.length ≤ h1.length → (∀ (m : Nat) (o p : HD), h[m]? = some o → h1[m]? = some p → (p = o ∨ HD.cl N p = true)) → trOk h h1 N = true
  | [], _, _, _ => rfl
  | o :: r, [], hl, _ => by simp at hl
  | o :: r, p :: s, hl, hk => by
    unfold trOk
    rw [trOk_of (h := r) (h1 := s) (by simpa using hl) fun m o' p' e1 e2 => hk (m + 1) o' p' (by simpa using e1) (by simpa using e2), Bool.and_true]
    rcases hk 0 o p rfl rfl with e | e
    · rw [e, HD.beq_refl]; rfl
    · rw [e]; simp
theorem Bow.cl {n B N : Nat} {h : Hm} {p : HD} (w : Bow n B h) (e : h[n]? = some p) : HD.cl N p = true := by
  obtain ⟨a, b, c, w⟩ := w
  rw [w.at_] at e
  injection e with e
  subst e
  rfl
/-- what goes when a def ends that drew -/
theorem DrewX.tr {n B : Nat} {h h' : Hm} (a : DrewX n B h h') : trOk h h' h.length = true ∧ Drew n B h (h'.take h.length) := by
  refine ⟨trOk_of a.len fun m o p e1 e2 => ?_, ?_, ?_, fun m hm => ?_⟩
  · by_cases hm : m = n
    · subst hm; exact .inr (a.bow.cl e2)
    · have := a.keep m ((List.getElem?_eq_some_iff.mp e1).1) hm
      rw [e1, e2] at this
      injection this with this
      exact .inl this
  · exact a.bow.of_at (List.getElem?_take_of_lt a.lt)
  · rw [List.length_take]; have := a.len; omega
  · by_cases hl : m < h.length
    · rw [List.getElem?_take_of_lt hl]; exact a.keep m hl hm
    · rw [List.getElem?_eq_none (l := h) (by omega), List.getElem?_eq_none (by simp only [List.length_take]; omega)]
theorem clL_all {N : Nat} : ∀ {l : List D}, (∀ x ∈ l, D.cl N x = true) → D.clL N l = true
  | [], _ => rfl
  | x :: r, h => by
    unfold D.clL
    rw [h x (by simp), clL_all fun y hy => h y (by simp [hy])]; rfl
theorem IsItem.cl {d : D} {N : Nat} (i : IsItem d) : D.cl N d = true := by
  cases i <;> rfl
theorem IsLetter.cl {d : D} {N : Nat} (i : IsLetter d) : D.cl N d = true := by
  cases i with
  | mk r l _ _ _ _ h4 =>
    simp only [D.cl, D.clL, Bool.true_and, Bool.and_true]
    exact clL_all fun x hx => (h4 x hx).cl
def m_law_unlike_b : SM :=
  (sSeq (sAsg (gN 2) (eC (.str (Str.ofString "abcdefghijklmnopqrstuvwxyz"))))
  (sSeq (sAsg (gN 3) (eNew aN))
  (sSeq (sFor (gN 4) (wR1 (eV 1)) (sSeq (sAsg (gN 5) (eF m_law_spoon (aC (eV 0) (aC (eC (.int 4)) aN))))
  (sSeq (sAsg (gN 6) (eF m_law_word (aC (eV 0) aN)))
  (sSeq (sIf (tAnd (tE (eB opEq (eV 5) (eC (.int 1)))) (tE (eB opNe (eV 3) (eLst aN)))) (sAsg (gN 6) (eSl (eB opIx (eV 3) (eU opNeg (eC (.int 1)))) pN (pE (eB opAdd (eC (.int 1)) (eF m_law_spoon (aC (eV 0) (aC (eF bLen (aC (eB opIx (eV 3) (eU opNeg (eC (.int 1)))) aN)) aN))))))) sNx)
  (sSeq (sIf (tAnd (tE (eB opEq (eV 5) (eC (.int 2)))) (tE (eB opNe (eV 3) (eLst aN)))) (sSeq (sAsg (gN 8) (eF m_law_spoon (aC (eV 0) (aC (eF bLen (aC (eB opIx (eV 3) (eU opNeg (eC (.int 1)))) aN)) aN))))
  (sAsg (gN 6) (eB opAdd (eB opAdd (eSl (eB opIx (eV 3) (eU opNeg (eC (.int 1)))) pN (pE (eV 8))) (eB opIx (eV 6) (eC (.int 0)))) (eSl (eB opIx (eV 3) (eU opNeg (eC (.int 1)))) (pE (eB opAdd (eV 8) (eC (.int 1)))) pN)))) sNx)
  (sSeq (sAsg (gN 7) (eLc [8] (gN 8) (wR1 (eB opAdd (eF bLen (aC (eV 3) aN)) (eC (.int 1)))) tYes (eSl (eB opAdd (eB opAdd (eV 6) (eB opIx (eV 2) (eB opDiv (eV 8) (eC (.int 26))))) (eB opIx (eV 2) (eB opMod (eV 8) (eC (.int 26))))) (pE (eU opNeg (eC (.int 12)))) pN)))
  (sExpr (eM "list" mAppend (eV 3) (aC (eB opIx (eLc [9] (gN 9) (wE (eB opAdd (eLst (aC (eV 6) aN)) (eV 7))) (tE (eB opNotIn (eV 9) (eV 3))) (eV 9)) (eC (.int 0))) aN)))))))))
  (sRet (eU fz (eV 3))))))
def m_law_unlike : FM := tr (fn0 2 10 m_law_unlike_b)
theorem cutS_S (l : List Nat) (lo hi : Option Int) : L2.cutS (S l) lo hi = S ((l.drop (HT.sIx l.length 0 lo)).take (HT.sIx l.length l.length hi - HT.sIx l.length 0 lo)) := by
  unfold L2.cutS
  rw [S_len]
  rfl
theorem sIx_pos {n d : Nat} {i : Int} (h : 0 ≤ i) : HT.sIx n d (some i) = min i.toNat n := by
  show (if i < 0 then (i + (n : Int)).toNat else min i.toNat n) = _
  rw [if_neg (by omega)]
theorem sIx_neg {n d : Nat} {i : Int} (h : i < 0) : HT.sIx n d (some i) = (i + n).toNat := by
  show (if i < 0 then (i + (n : Int)).toNat else min i.toNat n) = _
  rw [if_pos h]
theorem cut_to {l : List Nat} {i : Int} (h : 0 ≤ i) : L2.cutS (S l) none (some i) = S (l.take i.toNat) := by
  rw [cutS_S, sIx_pos h]
  show S ((l.drop 0).take _) = _
  congr 1
  rw [List.drop_zero, show HT.sIx l.length 0 none = 0 from rfl, Nat.sub_zero]
  by_cases hk : i.toNat ≤ l.length
  · rw [Nat.min_eq_left hk]
  · rw [Nat.min_eq_right (by omega), List.take_length, List.take_of_length_le (by omega)]
theorem cut_from {l : List Nat} {i : Int} (h : 0 ≤ i) : L2.cutS (S l) (some i) none = S (l.drop i.toNat) := by
  rw [cutS_S, sIx_pos h, show HT.sIx l.length l.length none = l.length from rfl]
  congr 1
  by_cases hk : i.toNat ≤ l.length
  · rw [Nat.min_eq_left hk, List.take_of_length_le (by simp)]
  · rw [Nat.min_eq_right (by omega), List.drop_of_length_le (by omega), List.drop_of_length_le (by omega)]; simp
theorem cut_last {l : List Nat} {i : Int} (h : i < 0) : L2.cutS (S l) (some i) none = S (l.drop (i + l.length).toNat) := by
  rw [cutS_S, sIx_neg h, show HT.sIx l.length l.length none = l.length from rfl]
  congr 1
  rw [List.take_of_length_le (by simp)]
theorem IsW.mk' {l : List Nat} (h1 : 1 ≤ l.length) (h2 : l.length ≤ 12) (h3 : ∀ c ∈ l, small c) : IsW (S l) := ⟨l, rfl, h1, h2, h3⟩
theorem abc_exact {i : Int} (h0 : 0 ≤ i) (h1 : i < 26) : L2.atI (Str.ofString "abcdefghijklmnopqrstuvwxyz").cps.toList i = some (97 + i.toNat) := by
  have e : (Str.ofString "abcdefghijklmnopqrstuvwxyz").cps.toList = (List.range 26).map (97 + ·) := by decide +kernel
  rw [e]
  obtain ⟨k, rfl⟩ := Int.eq_ofNat_of_zero_le h0
  refine atI_nat ?_
  have hk : k < 26 := by omega
  simp [hk]
/-- a list that may change, of texts, is not empty -/
theorem so_neNil {n : Nat} {h : Hm} {ws : List Str} {Q : D → Hm → Prop} (e : h[n]? = some (.lst (ws.map D.str))) (hw : ∀ w ∈ ws, PyData.strOk w = true) (q : Q (.bl (!ws.isEmpty)) h) : Sat (opNe (.ref n) (.lst []) h) Q := by
  have hd : dr h (.ref n) = .lst (ws.map D.str) := by simp [dr, lsOf, e]
  have hk : ∀ ws : List Str, (∀ w ∈ ws, PyData.strOk w = true) → D.okL 63 (ws.map D.str) = true := by
    intro ws
    induction ws with
    | nil => intro _; rfl
    | cons a r ih =>
      intro hw
      simp only [List.map_cons, D.okL, D.okN, Bool.and_eq_true]
      exact ⟨hw a (by simp), ih fun w hw' => hw w (by simp [hw'])⟩
  refine so_neD rfl (by rw [hd]; exact hk ws hw) rfl ?_
  rw [hd, show dr h (.lst []) = .lst [] from rfl]
  cases ws with
  | nil => exact q
  | cons a r => exact q
theorem flat_strs (ws : List Str) : (ws.map D.str).all flatD = true := by
  rw [List.all_eq_true]
  intro x hx
  obtain ⟨w, _, rfl⟩ := List.mem_map.mp hx
  rfl
theorem any_strs (ws : List Str) (x : Str) : ((ws.map D.str).any fun z => D.eqb z (.str x)) = decide (x ∈ ws) := by
  induction ws with
  | nil => rfl
  | cons a r ih =>
    rw [List.map_cons, List.any_cons, ih]
    by_cases h : a = x
    · subst h; simp [D.eqb]
    · have : ¬ x = a := fun e => h e.symm
      simp [D.eqb, h, this]
theorem so_notInStr {n : Nat} {h : Hm} {ws : List Str} {x : Str} {Q : D → Hm → Prop} (e : h[n]? = some (.lst (ws.map D.str))) (q : Q (.bl (!decide (x ∈ ws))) h) : Sat (opNotIn (.str x) (.ref n) h) Q :=
  so_notInR e (by rw [flat_strs]; rfl) (by rw [any_strs]; exact q)
/-- a comprehension with a question whose parts change nothing -/
theorem sa_LcFil {own : List Nat} {k : Nat} {w : Ev → Hm → R Wk} {t : TM} {e : EM} {v : Ev} {h : Hm} {Q : D → Hm → Prop} {l : List D} (p : D → Bool) (f : D → D) (hl : l.length ≤ 16777215) (hw : Sat (w v h) fun k h1 => k = ⟨l, fun _ => true⟩ ∧ h1 = h)
    (ht : ∀ x ∈ l, ∀ P : Bool → Hm → Prop, P (p x) h → Sat (t ((wipeE v own).set k (some x)) h) P) (he : ∀ x ∈ l, ∀ P : D → Hm → Prop, P (f x) h → Sat (e ((wipeE v own).set k (some x)) h) P) (q : Q (.lst ((l.filter p).map f)) h) : Sat (eLc own (gN k) w t e v h) Q := by
  refine sa_Lc (hw.imp ?_)
  rintro _ _ ⟨rfl, rfl⟩
  refine ⟨hl, fun i acc h' => acc = ((l.take i).filter p).map f ∧ h' = _, ⟨rfl, rfl⟩, ?_, ?_⟩
  · rintro i x acc h' hx ⟨rfl, rfl⟩
    have hm := List.mem_of_getElem? hx
    refine ⟨rfl, _, rfl, ht x hm _ ⟨fun hp => ?_, fun hp => ?_⟩⟩
    · refine he x hm _ ⟨?_, rfl⟩
      rw [List.take_add_one, hx]
      simp [hp]
    · refine ⟨?_, rfl⟩
      rw [List.take_add_one, hx]
      simp [hp]
  · rintro acc h' ⟨rfl, rfl⟩
    refine ⟨rfl, ?_⟩
    rw [List.take_length]
    exact q
/-- the spare words -/
def spareL (l : List Nat) (at_ : Nat) : List Nat := (l ++ [97 + at_ / 26] ++ [97 + at_ % 26]).drop (l.length + 2 - 12)
theorem spare_ok {l : List Nat} {a : Nat} (h1 : 1 ≤ l.length) (h3 : ∀ c ∈ l, small c) (ha : a < 676) : IsW (S (spareL l a)) := by
  refine .mk' ?_ ?_ ?_
  · simp [spareL]; omega
  · simp [spareL]; omega
  · intro c hc
    have hc := List.mem_of_mem_drop hc
    rcases List.mem_append.mp hc with hc | hc
    · rcases List.mem_append.mp hc with hc | hc
      · exact h3 c hc
      · rw [List.mem_singleton.mp hc]; unfold small; omega
    · rw [List.mem_singleton.mp hc]; unfold small; omega
theorem spare_inj {l : List Nat} {a b : Nat} (h : spareL l a = spareL l b) : a = b := by
  unfold spareL at h
  rw [List.append_assoc, List.append_assoc, List.drop_append_of_le_length (by omega), List.drop_append_of_le_length (by omega)] at h
  have := List.append_cancel_left h
  simp only [List.cons_append, List.nil_append, List.cons.injEq, and_true] at this
  omega
def spares (l : List Nat) (m : Nat) : List Str := (List.range m).map fun k => S (spareL l k)
theorem spares_nodup (l : List Nat) (m : Nat) : (spares l m).Nodup := by
  unfold spares
  rw [List.nodup_iff_pairwise_ne]
  refine List.Pairwise.map _ (fun a b hab e => hab (spare_inj (S_inj e))) (List.nodup_iff_pairwise_ne.mp List.nodup_range)
/-- one of the spare words is new -/
theorem fresh (l : List Nat) (ws : List Str) (w : Str) : ∃ x rest, (w :: spares l (ws.length + 1)).filter (fun z => !decide (z ∈ ws)) = x :: rest ∧ x ∉ ws ∧ x ∈ w :: spares l (ws.length + 1) := by
  have h1 : ∃ z ∈ spares l (ws.length + 1), z ∉ ws := by
    refine Classical.byContradiction fun hc => ?_
    have hs : spares l (ws.length + 1) ⊆ ws := fun z hz => Classical.byContradiction fun hn => hc ⟨z, hz, hn⟩
    have := List.Nodup.length_le_of_subset (spares_nodup l (ws.length + 1)) hs
    simp [spares] at this
    omega
  obtain ⟨z, hz, hn⟩ := h1
  have hm : z ∈ (w :: spares l (ws.length + 1)).filter (fun z => !decide (z ∈ ws)) := List.mem_filter.mpr ⟨by simp [hz], by simp [hn]⟩
  cases hf : (w :: spares l (ws.length + 1)).filter (fun z => !decide (z ∈ ws)) with
  | nil => rw [hf] at hm; exact nomatch hm
  | cons x rest =>
    have hx : x ∈ (w :: spares l (ws.length + 1)).filter (fun z => !decide (z ∈ ws)) := by rw [hf]; simp
    have := List.mem_filter.mp hx
    exact ⟨x, rest, rfl, by simpa using this.2, this.1⟩
def notIn (ws : List Str) : D → Bool
  | .str w => !decide (w ∈ ws)
  | _ => false
theorem notIn_filter (ws l : List Str) : ((l.map D.str).filter (notIn ws)).map id = (l.filter fun z => !decide (z ∈ ws)).map D.str := by
  rw [List.map_id, List.filter_map]
  rfl
def Words (ws : List Str) : Prop := ∀ w ∈ ws, IsW w
theorem Words.snoc {ws : List Str} {w : Str} (h : Words ws) (hw : IsW w) : Words (ws ++ [w]) := fun x hx => by
  rcases List.mem_append.mp hx with hx | hx
  · exact h x hx
  · rw [List.mem_singleton.mp hx]; exact hw
theorem Words.ok {ws : List Str} (h : Words ws) : ∀ w ∈ ws, PyData.strOk w = true := fun w hw => (h w hw).ok
theorem last_of {α : Type} {l : List α} (h : l ≠ []) : ∃ l' x, l = l' ++ [x] := ⟨l.dropLast, l.getLast h, (List.dropLast_concat_getLast h).symm⟩
theorem so_ixLast {n : Nat} {h : Hm} {ws : List Str} {x : Str} {Q : D → Hm → Prop} (e : h[n]? = some (.lst ((ws ++ [x]).map D.str))) (q : Q (.str x) h) : Sat (opIx (.ref n) (.int (-1)) h) Q := so_ixR e (by rw [List.map_append]; exact atI_last) q
theorem unlike {n B : Nat} {many : Int} {h : Hm} {Q : D → Hm → Prop} (hm0 : 0 ≤ many) (hm : many ≤ 600) (w : Bow n (B + 30 * many.toNat) h) (q : ∀ ws h', ws.length = many.toNat → Words ws → ws.Nodup → Drew n B h h' → Q (.lst (ws.map D.str)) h') : Sat (m_law_unlike [.ref n, .int many] h) Q := by
  refine sa_tr (sa_fn rfl ?_)
  unfold m_law_unlike_b
  simp only [List.map_cons, List.map_nil, List.replicate, Nat.reduceSub, List.cons_append, List.nil_append]
  array_get_dec
  have d0 : DrewX n (B + 30 * many.toNat) h (h ++ [.lst []]) := (Drew.refl w).x.push
  have ee : (h ++ [HD.lst []])[h.length]? = some (.lst (([] : List Str).map D.str)) := by simp
  generalize h ++ [HD.lst []] = h6 at d0 ee
  refine ss_forR many.toNat (fun i v h' => ∃ (ws : List Str) (x4 x5 x6 x7 x8 x9 : Option D), v = [some (.ref n), some (.int many), some (.str (Str.ofString "abcdefghijklmnopqrstuvwxyz")), some (.ref h.length), x4, x5, x6, x7, x8, x9] ∧ h'[h.length]? = some (.lst (ws.map D.str)) ∧ ws.length = i ∧ Words ws ∧ ws.Nodup ∧ DrewX n (B + 30 * (many.toNat - i)) h h') (by
    array_get_dec
    exact ⟨by omega, by omega, rfl, rfl⟩) ⟨[], _, _, _, _, _, _, rfl, ee, rfl, (fun _ z => nomatch z), List.nodup_nil, d0⟩ ?_ ?_
  · rintro i v h' hi ⟨ws, x4, x5, x6, x7, x8, x9, rfl, el, hl, hws, hnd, dx⟩
    simp only [List.set_cons_zero, List.set_cons_succ]
    array_get_dec
    refine spoon (B := B + 30 * (many.toNat - (i + 1)) + 29) (dx.bow.le (by omega)) (by decide) (by decide) fun way h1 p0 p1 d1 => ?_
    array_get_dec
    refine word (B := B + 30 * (many.toNat - (i + 1)) + 9) (d1.bow.le (by omega)) fun w0 h2 hw0 d2 => ?_
    array_get_dec
    have hLn : h.length ≠ n := by have := dx.lt; omega
    have el2 := (d1.trans d2).at hLn el
    have dx2 := (dx.then d1).then d2
    clear d1 d2 el dx
    obtain ⟨l0, rfl, a0, b0, c0⟩ := hw0
    have fin : ∀ (l : List Nat) (h4 : Hm) (x8 x9 : Option D), 1 ≤ l.length → l.length ≤ 12 → (∀ c ∈ l, small c) → DrewX n (B + 30 * (many.toNat - (i + 1))) h h4 → h4[h.length]? = some (.lst (ws.map D.str)) → ∀ (T : D → Hm → Prop) (Bk Gk : Ev → Hm → Prop), SatS ((sSeq (sAsg (gN 7) (eLc [8] (gN 8) (wR1 (eB opAdd (eF bLen (aC (eV 3) aN)) (eC (.int 1)))) tYes (eSl (eB opAdd (eB opAdd (eV 6) (eB opIx (eV 2) (eB opDiv (eV 8) (eC (.int 26))))) (eB opIx (eV 2) (eB opMod (eV 8) (eC (.int 26))))) (pE (eU opNeg (eC (.int 12)))) pN)))
  (sExpr (eM "list" mAppend (eV 3) (aC (eB opIx (eLc [9] (gN 9) (wE (eB opAdd (eLst (aC (eV 6) aN)) (eV 7))) (tE (eB opNotIn (eV 9) (eV 3))) (eV 9)) (eC (.int 0))) aN))))
        [some (.ref n), some (.int many), some (.str (Str.ofString "abcdefghijklmnopqrstuvwxyz")), some (.ref h.length), some (.int i), some (.int way), some (.str (S l)), x7, x8, x9] h4) (fun v h' => ∃ (ws : List Str) (x4 x5 x6 x7 x8 x9 : Option D), v = [some (.ref n), some (.int many), some (.str (Str.ofString "abcdefghijklmnopqrstuvwxyz")), some (.ref h.length), x4, x5, x6, x7, x8, x9] ∧ h'[h.length]? = some (.lst (ws.map D.str)) ∧ ws.length = i + 1 ∧ Words ws ∧ ws.Nodup ∧ DrewX n (B + 30 * (many.toNat - (i + 1))) h h') T Bk Gk := by
      intro l h4 x8 x9 l1 l2 l3 d4 e4 T Bk Gk
      array_get_dec
      refine sa_LcMap (l := (List.range (ws.length + 1)).map fun (k : Nat) => .int (k : Int)) (fun x => match x with
        | .int k => .str (S (spareL l k.toNat))
        | _ => .non) (by simp; omega) (by
          array_get_dec
          refine ⟨by omega, by simp; omega, ?_, rfl⟩
          simp) ?_ ?_
      · intro x hx P p
        obtain ⟨k, hk, rfl⟩ := List.mem_map.mp hx
        have hk : k < ws.length + 1 := by simpa using hk
        simp only [wipeE, List.foldr, List.set_cons_zero, List.set_cons_succ]
        array_get_dec
        refine so_ixS (by rw [abc_len]; decide) (abc_exact (i := (k : Int) / 26) (by omega) (by omega)) ?_
        rw [show (⟨#[97 + ((k : Int) / 26).toNat]⟩ : Str) = S [97 + k / 26] by
          have : ((k : Int) / 26).toNat = k / 26 := by omega
          rw [this]; rfl]
        refine so_addS (by rw [S_len, S_len]; simp; omega) ?_
        rw [S_app]
        array_get_dec
        refine so_ixS (by rw [abc_len]; decide) (abc_exact (i := (k : Int) % 26) (by omega) (by omega)) ?_
        rw [show (⟨#[97 + ((k : Int) % 26).toNat]⟩ : Str) = S [97 + k % 26] by
          have : ((k : Int) % 26).toNat = k % 26 := by omega
          rw [this]; rfl]
        refine so_addS (by rw [S_len, S_len]; simp; omega) ?_
        rw [S_app]
        array_get_dec
        refine so_neg ?_
        refine ⟨_, rfl, ?_⟩
        array_get_dec
        refine so_slS (by rw [S_len]; simp; omega) ?_
        rw [cut_last (by decide)]
        have e : (-12 + (((l ++ [97 + k / 26] ++ [97 + k % 26]).length : Nat) : Int)).toNat = l.length + 2 - 12 := by
          simp; omega
        rw [show -(12 : Int) = -12 from rfl, e]
        exact p
      · array_get_dec
        have es : ((List.range (ws.length + 1)).map fun (k : Nat) => D.int (k : Int)).map (fun x => match x with
          | .int k => .str (S (spareL l k.toNat))
          | _ => .non) = (spares l (ws.length + 1)).map D.str := by
          simp [spares]
        rw [es]
        have e4' := e4
        refine ⟨rcR e4, ?_⟩
        array_get_dec
        refine sa_LcFil (l := (S l :: spares l (ws.length + 1)).map D.str) (notIn ws) id (by simp [spares]; omega) (by
          array_get_dec
          refine so_addL (by simp [spares]; omega) ?_
          exact so_wkL ⟨rfl, rfl⟩) ?_ ?_ ?_
        · intro x hx P p
          obtain ⟨z, hz, rfl⟩ := List.mem_map.mp hx
          simp only [wipeE, List.foldr, List.set_cons_zero, List.set_cons_succ]
          array_get_dec
          exact so_notInStr e4 ⟨_, rfl, p⟩
        · intro x hx P p
          simp only [wipeE, List.foldr, List.set_cons_zero, List.set_cons_succ]
          array_get_dec
          exact p
        · rw [notIn_filter]
          obtain ⟨x, rest, ef, hx1, hx2⟩ := fresh l ws (S l)
          rw [ef, List.map_cons]
          array_get_dec
          refine so_append e4 (by simp; omega) ?_
          refine ⟨ws ++ [x], _, _, _, _, _, _, rfl, ?_, by simp [hl], hws.snoc ?_, ?_, d4.put (Nat.le_refl _)⟩
          · rw [List.getElem?_set_self (List.getElem?_eq_some_iff.mp e4).1, List.map_append]; rfl
          · rcases List.mem_cons.mp hx2 with e | e
            · rw [e]; exact .mk' l1 l2 l3
            · obtain ⟨k, hk, rfl⟩ := List.mem_map.mp e
              have hk : k < ws.length + 1 := by simpa using hk
              exact spare_ok l1 l3 (by omega)
          · rw [List.nodup_append]
            refine ⟨hnd, by simp, fun a ha b hb e => ?_⟩
            rw [List.mem_singleton.mp hb] at e
            exact hx1 (e ▸ ha)
    have hemp : (!ws.isEmpty) = true → ∃ ws' l', ws = ws' ++ [S l'] ∧ 1 ≤ l'.length ∧ l'.length ≤ 12 ∧ ∀ c ∈ l', small c := by
      intro he
      obtain ⟨ws', x, e⟩ := last_of (l := ws) (by intro e; rw [e] at he; exact nomatch he)
      obtain ⟨l', rfl, q1, q2, q3⟩ := hws x (by rw [e]; simp)
      exact ⟨ws', l', e, q1, q2, q3⟩
    -- the third way
    have mid : ∀ (l : List Nat) (h4 : Hm), 1 ≤ l.length → l.length ≤ 12 → (∀ c ∈ l, small c) → DrewX n (B + 30 * (many.toNat - (i + 1)) + 4) h h4 → h4[h.length]? = some (.lst (ws.map D.str)) → ∀ (T : D → Hm → Prop) (Bk Gk : Ev → Hm → Prop), SatS ((sSeq (sIf (tAnd (tE (eB opEq (eV 5) (eC (.int 2)))) (tE (eB opNe (eV 3) (eLst aN)))) (sSeq (sAsg (gN 8) (eF m_law_spoon (aC (eV 0) (aC (eF bLen (aC (eB opIx (eV 3) (eU opNeg (eC (.int 1)))) aN)) aN))))
  (sAsg (gN 6) (eB opAdd (eB opAdd (eSl (eB opIx (eV 3) (eU opNeg (eC (.int 1)))) pN (pE (eV 8))) (eB opIx (eV 6) (eC (.int 0)))) (eSl (eB opIx (eV 3) (eU opNeg (eC (.int 1)))) (pE (eB opAdd (eV 8) (eC (.int 1)))) pN)))) sNx)
  (sSeq (sAsg (gN 7) (eLc [8] (gN 8) (wR1 (eB opAdd (eF bLen (aC (eV 3) aN)) (eC (.int 1)))) tYes (eSl (eB opAdd (eB opAdd (eV 6) (eB opIx (eV 2) (eB opDiv (eV 8) (eC (.int 26))))) (eB opIx (eV 2) (eB opMod (eV 8) (eC (.int 26))))) (pE (eU opNeg (eC (.int 12)))) pN)))
  (sExpr (eM "list" mAppend (eV 3) (aC (eB opIx (eLc [9] (gN 9) (wE (eB opAdd (eLst (aC (eV 6) aN)) (eV 7))) (tE (eB opNotIn (eV 9) (eV 3))) (eV 9)) (eC (.int 0))) aN)))))
        [some (.ref n), some (.int many), some (.str (Str.ofString "abcdefghijklmnopqrstuvwxyz")), some (.ref h.length), some (.int i), some (.int way), some (.str (S l)), x7, x8, x9] h4) (fun v h' => ∃ (ws : List Str) (x4 x5 x6 x7 x8 x9 : Option D), v = [some (.ref n), some (.int many), some (.str (Str.ofString "abcdefghijklmnopqrstuvwxyz")), some (.ref h.length), x4, x5, x6, x7, x8, x9] ∧ h'[h.length]? = some (.lst (ws.map D.str)) ∧ ws.length = i + 1 ∧ Words ws ∧ ws.Nodup ∧ DrewX n (B + 30 * (many.toNat - (i + 1))) h h') T Bk Gk := by
      intro l h4 l1 l2 l3 d4 e4 T Bk Gk
      array_get_dec
      have none_ : ∀ v h, SatS (sNx v h) (fun v' h' => v' = v ∧ h' = h) T := fun v h => ⟨rfl, rfl⟩
      refine ⟨fun _ => ?_, fun _ => ⟨(fun hc => nomatch hc), fun _ => ?_⟩⟩
      · array_get_dec
        refine so_neNil e4 hws.ok ?_
        refine ⟨_, rfl, ?_⟩
        refine ⟨fun he => ?_, fun _ => ?_⟩
        · obtain ⟨ws', l', e, q1, q2, q3⟩ := hemp he
          array_get_dec
          refine so_neg ?_
          have e4' := e4
          rw [e] at e4'
          refine so_ixLast e4' ?_
          array_get_dec
          refine so_lenS (by rw [S_len]; omega) ?_
          array_get_dec
          refine spoon (B := B + 30 * (many.toNat - (i + 1)) + 3) d4.bow (by rw [S_len]; omega) (by rw [S_len]; omega) fun at_ h5 t0 t1 d5 => ?_
          rw [S_len] at t1
          have e5 := d5.at hLn e4
          have e5' := e5
          rw [e] at e5'
          array_get_dec
          refine so_neg ?_
          refine so_ixLast e5' ?_
          array_get_dec
          refine so_slS (by rw [S_len]; omega) ?_
          rw [cut_to t0]
          array_get_dec
          obtain ⟨c, ec, hc, _⟩ := atI_in (l := l) (i := 0) (by decide) (by omega)
          refine so_ixS (by rw [S_len]; omega) ec ?_
          rw [show (⟨#[c]⟩ : Str) = S [c] from rfl]
          refine so_addS (by rw [S_len, S_len]; simp; omega) ?_
          rw [S_app]
          array_get_dec
          refine so_neg ?_
          refine so_ixLast e5' ?_
          array_get_dec
          refine so_slS (by rw [S_len]; omega) ?_
          rw [cut_from (by omega)]
          refine so_addS (by rw [S_len, S_len]; simp; omega) ?_
          rw [S_app]
          have hlen : (l'.take at_.toNat ++ [c] ++ l'.drop (at_ + 1).toNat).length = l'.length := by
            simp; omega
          refine fin _ h5 _ _ (by rw [hlen]; exact q1) (by rw [hlen]; exact q2) (fun z hz => ?_) ((d4.then d5).le (by omega)) e5 T _ _
          rcases List.mem_append.mp hz with hz | hz
          · rcases List.mem_append.mp hz with hz | hz
            · exact q3 z (List.mem_of_mem_take hz)
            · rw [List.mem_singleton.mp hz]; exact l3 c hc
          · exact q3 z (List.mem_of_mem_drop hz)
        · exact ss_nx (fin l h4 _ _ l1 l2 l3 (d4.le (by omega)) e4 T _ _)
      · exact ss_nx (fin l h4 _ _ l1 l2 l3 (d4.le (by omega)) e4 T _ _)
    refine ⟨fun _ => ?_, fun _ => ⟨(fun hc => nomatch hc), fun _ => ?_⟩⟩
    · array_get_dec
      refine so_neNil el2 hws.ok ?_
      refine ⟨_, rfl, ?_⟩
      refine ⟨fun he => ?_, fun _ => ?_⟩
      · obtain ⟨ws', l', e, q1, q2, q3⟩ := hemp he
        array_get_dec
        refine so_neg ?_
        have e4' := el2
        rw [e] at e4'
        refine so_ixLast e4' ?_
        array_get_dec
        refine so_neg ?_
        refine so_ixLast e4' ?_
        array_get_dec
        refine so_lenS (by rw [S_len]; omega) ?_
        array_get_dec
        refine spoon (B := B + 30 * (many.toNat - (i + 1)) + 8) dx2.bow (by rw [S_len]; omega) (by rw [S_len]; omega) fun at_ h5 t0 t1 d5 => ?_
        rw [S_len] at t1
        array_get_dec
        refine so_slS (by rw [S_len]; omega) ?_
        rw [cut_to (by omega)]
        have ht : (l'.take (1 + at_).toNat).length = (1 + at_).toNat := by rw [List.length_take]; omega
        exact mid _ h5 (by omega) (by omega) (fun z hz => q3 z (List.mem_of_mem_take hz)) ((dx2.then d5).le (by omega)) (d5.at hLn el2) _ _ _
      · exact ss_nx (mid l0 h2 a0 b0 c0 (dx2.le (by omega)) el2 _ _ _)
    · exact ss_nx (mid l0 h2 a0 b0 c0 (dx2.le (by omega)) el2 _ _ _)
  · rintro v h' ⟨ws, x4, x5, x6, x7, x8, x9, rfl, el, hl, hws, hnd, dx⟩
    array_get_dec
    refine so_fz el ?_
    have dx3 := dx.put (o := .dead) (k := h.length) (Nat.le_refl _)
    refine ⟨?_, dx3.tr.1, q _ _ hl hws hnd (dx3.tr.2.le (B' := B) (by omega))⟩
    simp only [D.cl]
    refine clL_all fun x hx => ?_
    obtain ⟨w, _, rfl⟩ := List.mem_map.mp hx
    rfl
def m_weight_b : SM :=
  (sRet (eB opAdd (eF bLen (aC (eV 0) aN)) (eC (.int 2))))
def m_weight : FM := fn0 1 1 m_weight_b
def wt (w : Str) : Int := w.length + 2
def sumW : List Str → Int
  | [] => 0
  | a :: r => wt a + sumW r
theorem sumW_app (a b : List Str) : sumW (a ++ b) = sumW a + sumW b := by
  induction a with
  | nil => simp [sumW]
  | cons x r ih => simp only [List.cons_append, sumW, ih]; omega
def fit (room x : Int) : List Str → List Str
  | [] => []
  | a :: r => if room < sumW (a :: r) + x then fit room x r else a :: r
theorem fit_cons {room x : Int} {a : Str} {r : List Str} (h : room < sumW (a :: r) + x) : fit room x (a :: r) = fit room x r := by
  rw [fit, if_pos h]
theorem fit_stop {room x : Int} {k : List Str} (h : ¬ room < sumW k + x) : fit room x k = k := by
  cases k with
  | nil => rfl
  | cons a r => rw [fit, if_neg h]
theorem fit_sub {room x : Int} : ∀ {k : List Str} {w : Str}, w ∈ fit room x k → w ∈ k
  | [], _, h => h
  | a :: r, w, h => by
    rw [fit] at h
    split at h
    · exact List.mem_cons_of_mem _ (fit_sub h)
    · exact h
theorem fit_len {room x : Int} : ∀ {k : List Str}, (fit room x k).length ≤ k.length
  | [] => Nat.le_refl _
  | a :: r => by
    rw [fit]
    split
    · have := fit_len (room := room) (x := x) (k := r); simp; omega
    · exact Nat.le_refl _
theorem trOk_app (N : Nat) : ∀ (h r : Hm), trOk h (h ++ r) N = true
  | [], _ => rfl
  | o :: h, r => by
    simp only [List.cons_append, trOk, HD.beq_refl, trOk_app N h r, Bool.true_or, Bool.and_self]
theorem weight {w : Str} {h : Hm} {Q : D → Hm → Prop} (hw : w.length ≤ 1000) (q : Q (.int (wt w)) h) : Sat (m_weight [.str w] h) Q := by
  refine sa_fn rfl ?_
  unfold m_weight_b
  simp only [List.map_cons, List.map_nil, List.replicate, Nat.reduceSub, List.cons_append, List.nil_append]
  array_get_dec
  refine so_lenS (by omega) ?_
  array_get_dec
  exact q
def Short (ws : List Str) : Prop := ∀ w ∈ ws, w.length ≤ 1000
theorem Words.short {ws : List Str} (h : Words ws) : Short ws := fun w hw => by have := (h w hw).len; omega
theorem cutD_from {l : List D} {i : Int} (h : 0 ≤ i) : cutD l (some i) none = l.drop i.toNat := by
  unfold cutD
  rw [sIx_pos h, show HT.sIx l.length l.length none = l.length from rfl]
  by_cases hk : i.toNat ≤ l.length
  · rw [Nat.min_eq_left hk, List.take_of_length_le (by simp)]
  · rw [Nat.min_eq_right (by omega), List.drop_of_length_le (by omega), List.drop_of_length_le (by omega)]; simp
theorem cutD_to {l : List D} {i : Int} (h : 0 ≤ i) : cutD l none (some i) = l.take i.toNat := by
  unfold cutD
  rw [sIx_pos h, show HT.sIx l.length 0 none = 0 from rfl, Nat.sub_zero, List.drop_zero]
  by_cases hk : i.toNat ≤ l.length
  · rw [Nat.min_eq_left hk]
  · rw [Nat.min_eq_right (by omega), List.take_length, List.take_of_length_le (by omega)]
/-- the first odd rooms -/
def IsOdd (f : Nat → Int) (d : D) : Prop :=
  (d = .non ∧ ∀ l m, l < m → m < 201 → ¬ f m < f l) ∨
  ∃ l m : Nat, d = .tup [.int l, .int m] ∧ l < m ∧ m < 201 ∧ f m < f l ∧ (∀ l', l' < l → ∀ m', l' < m' → m' < 201 → ¬ f m' < f l') ∧ ∀ m', l < m' → m' < m → ¬ f m' < f l
theorem IsOdd.uniq {f : Nat → Int} {d d' : D} (a : IsOdd f d) (b : IsOdd f d') : d = d' := by
  rcases a with ⟨rfl, a⟩ | ⟨l, m, rfl, a1, a2, a3, a4, a5⟩ <;> rcases b with ⟨rfl, b⟩ | ⟨l', m', rfl, b1, b2, b3, b4, b5⟩
  · rfl
  · exact (a l' m' b1 b2 b3).elim
  · exact (b l m a1 a2 a3).elim
  · have e1 : l = l' := by
      rcases Nat.lt_trichotomy l l' with h | h | h
      · exact (b4 l h m a1 a2 a3).elim
      · exact h
      · exact (a4 l' h m' b1 b2 b3).elim
    subst e1
    have e2 : m = m' := by
      rcases Nat.lt_trichotomy m m' with h | h | h
      · exact (b5 m a1 h a3).elim
      · exact h
      · exact (a5 m' b1 h b3).elim
    subst e2
    rfl
theorem IsOdd.pl {f : Nat → Int} {d : D} (a : IsOdd f d) : Pl 10 d := by
  rcases a with ⟨rfl, _⟩ | ⟨l, m, rfl, _⟩
  · trivial
  · refine ⟨by simp only [List.length_cons, List.length_nil]; omega, fun x hx => ?_⟩
    simp only [List.mem_cons, List.not_mem_nil, or_false] at hx
    rcases hx with rfl | rfl <;> trivial
def m_law_edge_b : SM :=
  (sSeq (sAsg (gN 4) (eC (.str (Str.ofString "abcdefghijklmnopqrstuvwxyzabcdefghijklmnopqrstuvwxyz"))))
  (sSeq (sIf (tE (eB opEq (eV 1) (eC (.int 0)))) (sSeq (sAsg (gN 8) (eB opAdd (eC (.int 1)) (eF m_law_spoon (aC (eV 0) (aC (eC (.int 3)) aN)))))
  (sSeq (sAsg (gN 7) (eLst aN))
  (sSeq (sFor (gN 9) (wE (eB opMul (eLst (aC (eC (.int 0)) (aC (eC (.int 1)) (aC (eC (.int 2)) (aC (eC (.int 3)) (aC (eC (.int 0)) (aC (eC (.int 1)) (aC (eC (.int 4)) (aC (eC (.int 0)) (aC (eC (.int 1)) (aC (eC (.int 2)) (aC (eC (.int 3)) (aC (eC (.int 4)) aN))))))))))))) (eC (.int 4)))) (sSeq (sAsg (gN 11) (eSl (eV 4) (pE (eB opAdd (eV 3) (eB opMul (eV 8) (eV 9)))) pN))
  (sAsg (gN 7) (eB opAdd (eV 7) (eLc [12] (gN 12) (wE (eSl (eV 11) pN (pE (eV 8)))) tYes (eB opMul (eV 12) (eV 2)))))))
  (sRet (eSl (eV 7) (pE (eF m_law_spoon (aC (eV 0) (aC (eC (.int 12)) aN)))) pN))))) sNx)
  (sSeq (sIf (tE (eB opEq (eV 1) (eC (.int 1)))) (sSeq (sAsg (gN 2) (eB opIx (eLst (aC (eV 2) (aC (eB opAdd (eC (.int 8)) (eF m_law_spoon (aC (eV 0) (aC (eC (.int 5)) aN)))) aN))) (eF m_law_spoon (aC (eV 0) (aC (eC (.int 2)) aN)))))
  (sSeq (sAsg (gN 10) (eF bMin (aC (eC (.int 26)) (aC (eB opAdd (eB opDiv (eC (.int 200)) (eB opAdd (eV 2) (eC (.int 2)))) (eF m_law_spoon (aC (eV 0) (aC (eC (.int 2)) aN)))) aN))))
  (sRet (eLc [9] (gN 9) (wR1 (eC (.int 40))) tYes (eB opMul (eB opIx (eV 4) (eB opAdd (eV 3) (eB opMod (eV 9) (eV 10)))) (eV 2)))))) sNx)
  (sSeq (sAsg (gN 5) (eLc [9] (gN 9) (wR1 (eC (.int 9))) tYes (eB opMul (eB opIx (eV 4) (eB opAdd (eV 3) (eV 9))) (eC (.int 12)))))
  (sSeq (sAsg (gN 6) (eLc [9] (gN 9) (wR1 (eC (.int 21))) tYes (eB opMul (eB opIx (eV 4) (eB opAdd (eV 3) (eV 9))) (eC (.int 11)))))
  (sSeq (sAsg (gN 7) (eB opAdd (eB opAdd (eSl (eV 5) pN (pE (eC (.int 5)))) (eSl (eV 6) pN (pE (eC (.int 10))))) (eSl (eV 5) pN (pE (eC (.int 1))))))
  (sSeq (sAsg (gN 7) (eB opAdd (eB opAdd (eV 7) (eSl (eV 5) (pE (eC (.int 5))) pN)) (eSl (eV 5) pN (pE (eC (.int 1))))))
  (sSeq (sAsg (gN 7) (eB opAdd (eB opAdd (eV 7) (eSl (eV 6) (pE (eC (.int 10))) pN)) (eSl (eV 5) (pE (eC (.int 5))) pN)))
  (sRet (eSl (eV 7) (pE (eF m_law_spoon (aC (eV 0) (aC (eC (.int 2)) aN)))) pN))))))))))
def m_law_edge : FM := fn0 4 13 m_law_edge_b
def m_law_row_b : SM :=
  (sSeq (sAsg (gN 2) (eF m_law_spoon (aC (eV 0) (aC (eC (.int 8)) aN))))
  (sSeq (sAsg (gN 3) (eB opMul (eF m_law_spoon (aC (eV 0) (aC (eC (.int 2)) aN))) (eV 1)))
  (sSeq (sAsg (gN 4) (eB opIx (eLst (aC (eC (.int 40)) (aC (eF m_law_spoon (aC (eV 0) (aC (eC (.int 41)) aN))) (aC (eF m_law_spoon (aC (eV 0) (aC (eC (.int 13)) aN))) aN)))) (eF m_law_spoon (aC (eV 0) (aC (eC (.int 3)) aN)))))
  (sSeq (sAsg (gN 5) (eB opIx (eLst (aC (eC (.int 12)) (aC (eC (.int 1)) (aC (eC (.int 2)) (aC (eB opAdd (eC (.int 1)) (eF m_law_spoon (aC (eV 0) (aC (eC (.int 12)) aN)))) aN))))) (eF m_law_spoon (aC (eV 0) (aC (eC (.int 4)) aN)))))
  (sSeq (sIf (tE (eB opLt (eV 2) (eC (.int 3)))) (sRet (eSl (eF m_law_edge (aC (eV 0) (aC (eV 2) (aC (eV 5) (aC (eF m_law_spoon (aC (eV 0) (aC (eC (.int 26)) aN))) aN))))) pN (pE (eV 4)))) sNx)
  (sSeq (sAsg (gN 6) (eF m_law_unlike (aC (eV 0) (aC (eB opAdd (eC (.int 1)) (eF m_law_spoon (aC (eV 0) (aC (eB opIx (eLst (aC (eC (.int 8)) (aC (eC (.int 40)) aN))) (eV 3)) aN)))) aN))))
  (sSeq (sIf (tE (eB opEq (eV 2) (eC (.int 3)))) (sRet (eLc [8] (gN 8) (wR1 (eV 4)) tYes (eB opIx (eV 6) (eB opMod (eV 8) (eF bLen (aC (eV 6) aN)))))) sNx)
  (sRet (eLc [7] (gN 7) (wR1 (eV 4)) tYes (eB opIx (eV 6) (eF m_law_spoon (aC (eV 0) (aC (eF bLen (aC (eV 6) aN)) aN)))))))))))))
def m_law_row : FM := fn0 2 9 m_law_row_b
def WdD (d : D) : Prop := ∃ w, d = .str w ∧ IsW w
theorem wds {ys : List D} (h : ∀ y ∈ ys, WdD y) : ∃ ws, ys = ws.map D.str ∧ Words ws := by
  induction ys with
  | nil => exact ⟨[], rfl, fun _ z => nomatch z⟩
  | cons y r ih =>
    obtain ⟨ws, rfl, hw⟩ := ih fun z hz => h z (by simp [hz])
    obtain ⟨w, rfl, hy⟩ := h y (by simp)
    refine ⟨w :: ws, rfl, fun z hz => ?_⟩
    rcases List.mem_cons.mp hz with e | e
    · rw [e]; exact hy
    · exact hw z e
/-- a comprehension whose elements change nothing -/
theorem sa_LcP {own : List Nat} {k : Nat} {w : Ev → Hm → R Wk} {e : EM} {v : Ev} {h : Hm} {Q : D → Hm → Prop} {l : List D} (P : D → Prop) (hl : l.length ≤ 16777215) (hw : Sat (w v h) fun k h1 => k = ⟨l, fun _ => true⟩ ∧ h1 = h)
    (he : ∀ x ∈ l, ∀ R : D → Hm → Prop, (∀ y, P y → R y h) → Sat (e ((wipeE v own).set k (some x)) h) R) (q : ∀ ys, ys.length = l.length → (∀ y ∈ ys, P y) → Q (.lst ys) h) : Sat (eLc own (gN k) w tYes e v h) Q := by
  refine sa_Lc (hw.imp ?_)
  rintro _ _ ⟨rfl, rfl⟩
  refine ⟨hl, fun i acc h' => acc.length = i ∧ (∀ y ∈ acc, P y) ∧ h' = _, ⟨rfl, (fun _ z => nomatch z), rfl⟩, ?_, ?_⟩
  · rintro i x acc h' hx ⟨hi, hp, rfl⟩
    refine ⟨rfl, _, rfl, sa_tYes ⟨fun _ => ?_, fun z => nomatch z⟩⟩
    refine he x (List.mem_of_getElem? hx) _ fun y hy => ⟨by simp [hi], fun z hz => ?_, rfl⟩
    rcases List.mem_append.mp hz with hz | hz
    · exact hp z hz
    · rw [List.mem_singleton.mp hz]; exact hy
  · rintro acc h' ⟨hi, hp, rfl⟩
    exact ⟨rfl, q acc hi hp⟩
/-- a comprehension whose elements draw -/
theorem sa_LcDraw {own : List Nat} {k : Nat} {w : Ev → Hm → R Wk} {e : EM} {v : Ev} {h : Hm} {Q : D → Hm → Prop} {l : List D} {nb B : Nat} (c : Nat) (P : D → Prop) (hl : l.length ≤ 16777215) (hw : Sat (w v h) fun k h1 => k = ⟨l, fun _ => true⟩ ∧ h1 = h) (hb : Bow nb (B + c * l.length) h)
    (he : ∀ x ∈ l, ∀ (T : Nat) (h' : Hm) (R : D → Hm → Prop), Bow nb (T + c) h' → (∀ y h2, P y → Drew nb T h' h2 → R y h2) → Sat (e ((wipeE v own).set k (some x)) h') R) (q : ∀ ys h', ys.length = l.length → (∀ y ∈ ys, P y) → Drew nb B h h' → Q (.lst ys) h') : Sat (eLc own (gN k) w tYes e v h) Q := by
  refine sa_Lc (hw.imp ?_)
  rintro _ _ ⟨rfl, rfl⟩
  refine ⟨hl, fun i acc h' => acc.length = i ∧ (∀ y ∈ acc, P y) ∧ Drew nb (B + c * (l.length - i)) _ h', ⟨rfl, (fun _ z => nomatch z), Drew.refl hb⟩, ?_, ?_⟩
  · rintro i x acc h' hx ⟨hi, hp, hd⟩
    have hil : i < l.length := (List.getElem?_eq_some_iff.mp hx).1
    refine ⟨rfl, _, rfl, sa_tYes ⟨fun _ => ?_, fun z => nomatch z⟩⟩
    have eb : B + c * (l.length - i) = B + c * (l.length - (i + 1)) + c := by
      rw [show l.length - i = l.length - (i + 1) + 1 by omega, Nat.mul_succ]; omega
    refine he x (List.mem_of_getElem? hx) (B + c * (l.length - (i + 1))) h' _ (by rw [← eb]; exact hd.bow) fun y h2 hy hd2 => ⟨by simp [hi], fun z hz => ?_, hd.trans hd2⟩
    rcases List.mem_append.mp hz with hz | hz
    · exact hp z hz
    · rw [List.mem_singleton.mp hz]; exact hy
  · rintro acc h' ⟨hi, hp, hd⟩
    exact ⟨rfl, q acc h' hi hp (hd.le (by omega))⟩
def L52 : List Nat := (List.range 26).map (97 + ·) ++ (List.range 26).map (97 + ·)
theorem letters52 : Str.ofString "abcdefghijklmnopqrstuvwxyzabcdefghijklmnopqrstuvwxyz" = S L52 := by decide +kernel
theorem L52_small : ∀ c ∈ L52, small c := by
  unfold small
  decide
theorem L52_len : L52.length = 52 := by decide
theorem repS (c : Nat) (n : Int) : repStr (S [c]) n = S (List.replicate n.toNat c) := by
  unfold repStr S
  congr 2
  induction n.toNat with
  | zero => rfl
  | succ k ih => rw [List.replicate_succ, List.flatten_cons, ih]; rfl
theorem rep_w {c : Nat} {n : Int} (hc : small c) (h1 : 1 ≤ n) (h2 : n ≤ 12) : IsW (S (List.replicate n.toNat c)) :=
  .mk' (by simp; omega) (by simp; omega) fun z hz => by rw [List.eq_of_mem_replicate hz]; exact hc
theorem so_rep {c : Nat} {n : Int} {h : Hm} {Q : D → Hm → Prop} (hc : small c) (h1 : 1 ≤ n) (h2 : n ≤ 12) (q : ∀ d, WdD d → Q d h) : Sat (opMul (.str (S [c])) (.int n) h) Q := by
  refine so_mulS ⟨by omega, by omega, by rw [S_len]; simp; omega⟩ ?_
  rw [repS]
  exact q _ ⟨_, rfl, rep_w hc h1 h2⟩
theorem so_letter {i : Int} {h : Hm} {Q : D → Hm → Prop} (h0 : 0 ≤ i) (h1 : i < 52) (q : ∀ c, small c → Q (.str (S [c])) h) : Sat (opIx (.str (S L52)) (.int i) h) Q := by
  obtain ⟨c, ec, hc, _⟩ := atI_in (l := L52) h0 (by rw [L52_len]; omega)
  exact so_ixS (by rw [S_len, L52_len]; decide) ec (q c (L52_small c hc))
theorem w_to {ws : List Str} {i : Int} (h0 : 0 ≤ i) : cutD (ws.map D.str) none (some i) = (ws.take i.toNat).map D.str := by rw [cutD_to h0, ← List.map_take]
theorem so_wTo {ws : List Str} {i : Int} {h : Hm} {Q : D → Hm → Prop} (h0 : 0 ≤ i) (q : Q (.lst ((ws.take i.toNat).map D.str)) h) : Sat (opSl (.lst (ws.map D.str)) none (some i) h) Q := so_slL (by rw [cutD_to h0, ← List.map_take]; exact q)
theorem so_wFrom {ws : List Str} {i : Int} {h : Hm} {Q : D → Hm → Prop} (h0 : 0 ≤ i) (q : Q (.lst ((ws.drop i.toNat).map D.str)) h) : Sat (opSl (.lst (ws.map D.str)) (some i) none h) Q := so_slL (by rw [cutD_from h0, ← List.map_drop]; exact q)
theorem so_wAdd {a b : List Str} {h : Hm} {Q : D → Hm → Prop} (hl : a.length + b.length ≤ 16777216) (q : Q (.lst ((a ++ b).map D.str)) h) : Sat (opAdd (.lst (a.map D.str)) (.lst (b.map D.str)) h) Q := so_addL (by simpa using hl) (by rw [← List.map_append]; exact q)
theorem Words.app {a b : List Str} (ha : Words a) (hb : Words b) : Words (a ++ b) := fun z hz => by
  rcases List.mem_append.mp hz with hz | hz
  · exact ha z hz
  · exact hb z hz
theorem Words.take {a : List Str} {k : Nat} (ha : Words a) : Words (a.take k) := fun z hz => ha z (List.mem_of_mem_take hz)
theorem Words.drop {a : List Str} {k : Nat} (ha : Words a) : Words (a.drop k) := fun z hz => ha z (List.mem_of_mem_drop hz)
theorem edge {n B : Nat} {way size first : Int} {h : Hm} {Q : D → Hm → Prop} (w : Bow n (B + 20) h) (s1 : 1 ≤ size) (s2 : size ≤ 12) (f0 : 0 ≤ first) (f1 : first < 26) (q : ∀ ws h', Words ws → ws.length ≤ 200 → Drew n B h h' → Q (.lst (ws.map D.str)) h') : Sat (m_law_edge [.ref n, .int way, .int size, .int first] h) Q := by
  refine sa_fn rfl ?_
  unfold m_law_edge_b
  simp only [List.map_cons, List.map_nil, List.replicate, Nat.reduceSub, List.cons_append, List.nil_append, letters52]
  array_get_dec
  refine ⟨fun _ => ?_, fun _ => ?_⟩
  · array_get_dec
    refine spoon w (by decide) (by decide) fun g0 h1 g1 g2 d1 => ?_
    array_get_dec
    refine ss_forL (l := (List.replicate (4 : Int).toNat [D.int 0, .int 1, .int 2, .int 3, .int 0, .int 1, .int 4, .int 0, .int 1, .int 2, .int 3, .int 4]).flatten) (fun i v h' => h' = h1 ∧ ∃ (ws : List Str) (x9 x10 x11 x12 : Option D), Words ws ∧ ws.length ≤ 3 * i ∧ v = [some (.ref n), some (.int way), some (.int size), some (.int first), some (.str (S L52)), none, none, some (.lst (ws.map D.str)), some (.int (1 + g0)), x9, x10, x11, x12]) (by
      array_get_dec
      refine so_mulL (by decide) ?_
      exact so_wkL ⟨rfl, rfl⟩) ⟨rfl, [], _, _, _, _, (fun _ z => nomatch z), Nat.le_refl _, rfl⟩ ?_ ?_
    · rintro i x v h' hx ⟨rfl, ws, x9, x10, x11, x12, hws, hl, rfl⟩
      have hx2 : IntIn 0 4 x := by
        have hm := List.mem_of_getElem? hx
        have hall : ∀ d ∈ (List.replicate (4 : Int).toNat [D.int 0, .int 1, .int 2, .int 3, .int 0, .int 1, .int 4, .int 0, .int 1, .int 2, .int 3, .int 4]).flatten, IntIn 0 4 d := by
          intro d hd
          obtain ⟨l, hl, hdl⟩ := List.mem_flatten.mp hd
          rw [List.eq_of_mem_replicate hl] at hdl
          revert d
          suffices ∀ d ∈ [D.int 0, .int 1, .int 2, .int 3, .int 0, .int 1, .int 4, .int 0, .int 1, .int 2, .int 3, .int 4], IntIn 0 4 d from fun d _ hd => this d hd
          repeat refine all_cons (.mk (by decide) (by decide)) ?_
          exact all_nil
        exact hall x hm
      have hi : i < 48 := by
        have := (List.getElem?_eq_some_iff.mp hx).1
        simpa using this
      obtain ⟨at_, rfl, t0, t1⟩ := hx2
      refine ⟨_, rfl, ?_⟩
      simp only [List.set_cons_zero, List.set_cons_succ]
      array_get_dec
      refine so_mul (mulOkL ⟨by omega, by omega⟩) ?_
      array_get_dec
      refine so_slS (by rw [S_len, L52_len]; decide) ?_
      have hmul : 0 ≤ (1 + g0) * at_ := Int.mul_nonneg (by omega) t0
      rw [cut_from (by omega)]
      array_get_dec
      refine sa_LcP (l := ((L52.drop (first + (1 + g0) * at_).toNat).take (1 + g0).toNat).map fun c => .str (S [c])) WdD (by simp; omega) (by
        array_get_dec
        refine so_slS (by rw [S_len, List.length_drop, L52_len]; omega) ?_
        rw [cut_to (by omega)]
        exact so_wkS ⟨rfl, rfl⟩) ?_ ?_
      · intro x hx R r
        obtain ⟨c, hc, rfl⟩ := List.mem_map.mp hx
        simp only [wipeE, List.foldr, List.set_cons_zero, List.set_cons_succ]
        array_get_dec
        exact so_rep (L52_small c (List.mem_of_mem_drop (List.mem_of_mem_take hc))) s1 s2 r
      · intro ys hy hp
        obtain ⟨ws2, rfl, hw2⟩ := wds hp
        have hl2 : ws2.length ≤ 3 := by
          have : ws2.length = min (1 + g0).toNat (L52.length - (first + (1 + g0) * at_).toNat) := by simpa using hy
          omega
        refine so_addL (by simp; omega) ?_
        rw [← List.map_append]
        refine ⟨rfl, ws ++ ws2, _, _, _, _, fun z hz => ?_, by simp; omega, rfl⟩
        rcases List.mem_append.mp hz with hz | hz
        · exact hws z hz
        · exact hw2 z hz
    · rintro v h' ⟨rfl, ws, x9, x10, x11, x12, hws, hl, rfl⟩
      have hl : ws.length ≤ 144 := by simpa using hl
      array_get_dec
      refine spoon d1.bow (by decide) (by decide) fun k h2 k1 k2 d2 => ?_
      refine ⟨_, rfl, ?_⟩
      array_get_dec
      refine so_slL ?_
      rw [cutD_from k1, ← List.map_drop]
      exact q _ _ (fun z hz => hws z (List.mem_of_mem_drop hz)) (by simp; omega) ((d1.trans d2).le (by omega))
  · array_get_dec
    refine ⟨fun _ => ?_, fun _ => ?_⟩
    · array_get_dec
      refine spoon w (by decide) (by decide) fun g0 h1 g1 g2 d1 => ?_
      array_get_dec
      refine spoon d1.bow (by decide) (by decide) fun k0 h2 k1 k2 d2 => ?_
      array_get_dec
      refine so_ixP (IntIn 1 12) (by
        repeat refine all_cons (.mk (by omega) (by omega)) ?_
        exact all_nil) k1 (by simpa using k2) ?_
      rintro _ ⟨sz, rfl, z1, z2⟩
      array_get_dec
      refine so_div ⟨by omega, by omega⟩ ?_
      array_get_dec
      refine spoon d2.bow (by decide) (by decide) fun j0 h3 j1 j2 d3 => ?_
      array_get_dec
      have hq : 1 ≤ 200 / (sz + 2) := Int.le_ediv_of_mul_le (by omega) (by omega)
      generalize 200 / (sz + 2) = qq at hq
      refine sa_LcP (l := (List.range (40 : Int).toNat).map fun (k : Nat) => .int (k : Int)) WdD (by simp) (by
        array_get_dec
        exact ⟨by omega, by omega, rfl, rfl⟩) ?_ ?_
      · intro x hx R r
        obtain ⟨k, hk, rfl⟩ := List.mem_map.mp hx
        simp only [wipeE, List.foldr, List.set_cons_zero, List.set_cons_succ]
        array_get_dec
        have m0 : 0 < min 26 (qq + j0) := by omega
        refine so_mod m0 ?_
        array_get_dec
        have e1 := Int.emod_nonneg (k : Int) (show min 26 (qq + j0) ≠ 0 by omega)
        have e2 := Int.emod_lt_of_pos (k : Int) m0
        refine so_letter (by omega) (by omega) fun c hc => ?_
        array_get_dec
        exact so_rep hc z1 z2 r
      · intro ys hy hp
        obtain ⟨ws2, rfl, hw2⟩ := wds hp
        refine q ws2 h3 hw2 ?_ (((d1.trans d2).trans d3).le (by omega))
        have : ws2.length = 40 := by simpa using hy
        omega
    · array_get_dec
      refine sa_LcP (l := (List.range (9 : Int).toNat).map fun (k : Nat) => .int (k : Int)) WdD (by simp) (by
        array_get_dec
        exact ⟨by omega, by omega, rfl, rfl⟩) ?_ ?_
      · intro x hx R r
        obtain ⟨k, hk, rfl⟩ := List.mem_map.mp hx
        have hk : k < 9 := by simpa using hk
        simp only [wipeE, List.foldr, List.set_cons_zero, List.set_cons_succ]
        array_get_dec
        refine so_letter (by omega) (by omega) fun c hc => ?_
        array_get_dec
        exact so_rep hc (by decide) (by decide) r
      intro ys hy hp
      obtain ⟨twelve, rfl, w12⟩ := wds hp
      have l12 : twelve.length = 9 := by simpa using hy
      array_get_dec
      refine sa_LcP (l := (List.range (21 : Int).toNat).map fun (k : Nat) => .int (k : Int)) WdD (by simp) (by
        array_get_dec
        exact ⟨by omega, by omega, rfl, rfl⟩) ?_ ?_
      · intro x hx R r
        obtain ⟨k, hk, rfl⟩ := List.mem_map.mp hx
        have hk : k < 21 := by simpa using hk
        simp only [wipeE, List.foldr, List.set_cons_zero, List.set_cons_succ]
        array_get_dec
        refine so_letter (by omega) (by omega) fun c hc => ?_
        array_get_dec
        exact so_rep hc (by decide) (by decide) r
      intro ys hy hp
      obtain ⟨eleven, rfl, w11⟩ := wds hp
      have l11 : eleven.length = 21 := by simpa using hy
      array_get_dec
      refine so_wTo (by decide) ?_
      array_get_dec
      refine so_wTo (by decide) ?_
      refine so_wAdd (by simp; omega) ?_
      array_get_dec
      refine so_wTo (by decide) ?_
      refine so_wAdd (by simp; omega) ?_
      array_get_dec
      refine so_wFrom (by decide) ?_
      refine so_wAdd (by simp; omega) ?_
      array_get_dec
      refine so_wTo (by decide) ?_
      refine so_wAdd (by simp; omega) ?_
      array_get_dec
      refine so_wFrom (by decide) ?_
      refine so_wAdd (by simp; omega) ?_
      array_get_dec
      refine so_wFrom (by decide) ?_
      refine so_wAdd (by simp; omega) ?_
      array_get_dec
      refine spoon w (by decide) (by decide) fun g0 h1 g1 g2 d1 => ?_
      refine ⟨_, rfl, ?_⟩
      array_get_dec
      refine so_wFrom g1 ?_
      exact q _ _ (((((((w12.take).app w11.take).app w12.take).app w12.drop).app w12.take).app w11.drop).app w12.drop).drop (by simp; omega) (d1.le (by omega))
theorem row {n B : Nat} {great : Int} {h : Hm} {Q : D → Hm → Prop} (hg : 0 ≤ great ∧ great ≤ 1) (w : Bow n (B + 2000) h) (q : ∀ ws h', Words ws → ws.length ≤ 200 → Drew n B h h' → Q (.lst (ws.map D.str)) h') : Sat (m_law_row [.ref n, .int great] h) Q := by
  refine sa_fn rfl ?_
  unfold m_law_row_b
  simp only [List.map_cons, List.map_nil, List.replicate, Nat.reduceSub, List.cons_append, List.nil_append]
  array_get_dec
  refine spoon w (by decide) (by decide) fun way h1 a1 a2 d1 => ?_
  array_get_dec
  refine spoon d1.bow (by decide) (by decide) fun k0 h2 b1 b2 d2 => ?_
  array_get_dec
  refine so_mul (mulOkL ⟨by omega, by omega⟩) ?_
  have hk : 0 ≤ k0 * great ∧ k0 * great ≤ 1 := by
    have h3 : k0 = 0 ∨ k0 = 1 := by omega
    rcases h3 with e | e <;> subst e <;> omega
  generalize k0 * great = kind at hk
  array_get_dec
  refine spoon d2.bow (by decide) (by decide) fun p1 h3 c1 c2 d3 => ?_
  array_get_dec
  refine spoon d3.bow (by decide) (by decide) fun p2 h4 e1 e2 d4 => ?_
  array_get_dec
  refine spoon d4.bow (by decide) (by decide) fun p3 h5 f1 f2 d5 => ?_
  array_get_dec
  refine so_ixP (IntIn 0 40) (by
    repeat refine all_cons (.mk (by omega) (by omega)) ?_
    exact all_nil) f1 (by simpa using f2) ?_
  rintro _ ⟨many, rfl, m1, m2⟩
  array_get_dec
  refine spoon d5.bow (by decide) (by decide) fun p4 h6 g1 g2 d6 => ?_
  array_get_dec
  refine spoon d6.bow (by decide) (by decide) fun p5 h7 i1 i2 d7 => ?_
  array_get_dec
  refine so_ixP (IntIn 1 12) (by
    repeat refine all_cons (.mk (by omega) (by omega)) ?_
    exact all_nil) i1 (by simpa using i2) ?_
  rintro _ ⟨size, rfl, z1, z2⟩
  array_get_dec
  have dd := (((((d1.trans d2).trans d3).trans d4).trans d5).trans d6).trans d7
  refine ⟨fun _ => ?_, fun _ => ?_⟩
  · array_get_dec
    refine spoon d7.bow (by decide) (by decide) fun p6 h8 j1 j2 d8 => ?_
    array_get_dec
    refine edge (B := B) (d8.bow.le (by omega)) z1 z2 j1 j2 fun ws h9 hw hl d9 => ?_
    array_get_dec
    refine so_slL ?_
    rw [w_to m1]
    exact q _ _ hw.take (by simp; omega) ((dd.trans d8).trans d9)
  · array_get_dec
    refine so_ixP (IntIn 8 40) (by
      repeat refine all_cons (.mk (by omega) (by omega)) ?_
      exact all_nil) hk.1 (by simp; omega) ?_
    rintro _ ⟨top, rfl, t1, t2⟩
    array_get_dec
    refine spoon d7.bow (by omega) (by omega) fun p6 h8 j1 j2 d8 => ?_
    array_get_dec
    refine unlike (B := B + 50) (by omega) (by omega) (d8.bow.le (by omega)) fun ws h9 hl hw hnd d9 => ?_
    array_get_dec
    have hwd : ∀ d ∈ ws.map D.str, WdD d := fun d hd => by
      obtain ⟨z, hz, rfl⟩ := List.mem_map.mp hd
      exact ⟨z, rfl, hw z hz⟩
    have hlen : (ws.map D.str).length = (1 + p6).toNat := by rw [List.length_map]; exact hl
    generalize ws.map D.str = ds at hwd hlen
    refine ⟨fun _ => ?_, fun _ => ?_⟩
    · array_get_dec
      refine sa_LcP (l := (List.range many.toNat).map fun (k : Nat) => .int (k : Int)) WdD (by simp; omega) (by
        array_get_dec
        exact ⟨by omega, by omega, rfl, rfl⟩) ?_ ?_
      · intro x hx R r
        obtain ⟨k, hk, rfl⟩ := List.mem_map.mp hx
        simp only [wipeE, List.foldr, List.set_cons_zero, List.set_cons_succ]
        array_get_dec
        have m0 : (0 : Int) < (ds.length : Int) := by omega
        refine so_mod m0 ?_
        exact so_ixP WdD hwd (Int.emod_nonneg _ (by omega)) (Int.emod_lt_of_pos _ m0) r
      · intro ys hy hp
        obtain ⟨ws2, rfl, hw2⟩ := wds hp
        refine q ws2 h9 hw2 ?_ (((dd.trans d8).trans d9).le (by omega))
        have : ws2.length = many.toNat := by simpa using hy
        omega
    · array_get_dec
      refine sa_LcDraw (l := (List.range many.toNat).map fun (k : Nat) => .int (k : Int)) (nb := n) (B := B) 1 WdD (by simp; omega) (by
        array_get_dec
        exact ⟨by omega, by omega, rfl, rfl⟩) (d9.bow.le (by simp; omega)) ?_ ?_
      · intro x hx T h' R hb r
        obtain ⟨k, hk, rfl⟩ := List.mem_map.mp hx
        simp only [wipeE, List.foldr, List.set_cons_zero, List.set_cons_succ]
        array_get_dec
        refine spoon hb (by omega) (by omega) fun p7 h10 l1 l2 d10 => ?_
        exact so_ixP WdD hwd l1 l2 fun y hy => r y _ hy d10
      · intro ys h10 hy hp d10
        obtain ⟨ws2, rfl, hw2⟩ := wds hp
        refine q ws2 h10 hw2 ?_ ((dd.trans d8).trans d9 |>.trans d10)
        have : ws2.length = many.toNat := by simpa using hy
        omega
/-- d is a list with these items -/
def IsL (h : Hm) (d : D) (l : List D) : Prop := d = .lst l ∨ ∃ n, d = .ref n ∧ h[n]? = some (.lst l)
section
variable {h : Hm} {d : D} {l : List D} {Q : D → Hm → Prop}
theorem IsL.non (e : IsL h d l) : D.eqb d .non = false := by
  rcases e with rfl | ⟨n, rfl, e⟩ <;> rfl
theorem IsL.len (e : IsL h d l) (q : Q (.int l.length) h) : Sat (bLen [d] h) Q := by
  rcases e with rfl | ⟨n, rfl, e⟩
  · exact so_len q
  · exact so_lenR e q
end
def m_weight_of_b : SM :=
  (sRet (eF bSum (aC (eLc [1] (gN 1) (wE (eV 0)) tYes (eF m_weight (aC (eV 1) aN))) aN)))
def m_weight_of : FM := fn0 1 2 m_weight_of_b
def m_next_number_b : SM :=
  (sRet (eB opAdd (eB opIx (eV 0) (eC (.int 1))) (eF bLen (aC (eB opIx (eV 0) (eC (.int 2))) aN))))
def m_next_number : FM := fn0 1 1 m_next_number_b
def m_left_in_b : SM :=
  (sSeq (sAsg (gN 3) (eC (.int 0)))
  (sSeq (sAsg (gN 4) (eF m_weight_of (aC (eV 2) aN)))
  (sSeq (sWh (tE (eB opGt (eV 4) (eV 0))) (sSeq (sAsg (gN 4) (eB opSub (eV 4) (eF m_weight (aC (eB opIx (eV 2) (eV 3)) aN))))
  (sAsg (gN 3) (eB opAdd (eV 3) (eC (.int 1))))))
  (sRet (eTup (aC (eV 0) (aC (eB opAdd (eV 1) (eV 3)) (aC (eSl (eV 2) (pE (eV 3)) pN) aN))))))))
def m_left_in : FM := fn0 3 5 m_left_in_b
def m_law_heavy_b : SM :=
  (sRet (eF bSum (aC (eLc [1] (gN 1) (wE (eV 0)) tYes (eB opAdd (eF bLen (aC (eV 1) aN)) (eC (.int 2)))) aN)))
def m_law_heavy : FM := fn0 1 2 m_law_heavy_b
/-- a book's value -/
def bookD (room first : Int) (ws : List Str) : D := .tup [.int room, .int first, .tup (ws.map D.str)]
theorem sum_wt (ws : List Str) : (ws.map wt).sum = sumW ws := by
  induction ws with
  | nil => rfl
  | cons a r ih => simp only [List.map_cons, List.sum_cons, sumW, ih]
/-- what stays of the words in the room -/
def stay (room : Int) (ws : List Str) : List Str := fit room 0 ws
theorem fit_drop (room x : Int) : ∀ ws : List Str, fit room x ws = ws.drop (ws.length - (fit room x ws).length)
  | [] => rfl
  | a :: r => by
    rw [fit]
    split
    · have h1 := fit_drop room x r
      have h2 := fit_len (room := room) (x := x) (k := r)
      rw [List.length_cons, show r.length + 1 - (fit room x r).length = (r.length - (fit room x r).length) + 1 by omega, List.drop_succ_cons]
      exact h1
    · simp
theorem weight_of {t : List D → D} {ws : List Str} {h : Hm} {Q : D → Hm → Prop} (ht : t = D.tup ∨ t = D.lst) (hs : Short ws) (hl : ws.length ≤ 16777215) (q : Q (.int (sumW ws)) h) : Sat (m_weight_of [t (ws.map D.str)] h) Q := by
  refine sa_fn rfl ?_
  unfold m_weight_of_b
  simp only [List.map_cons, List.map_nil, List.replicate, Nat.reduceSub, List.cons_append, List.nil_append]
  array_get_dec
  refine sa_LcMap (l := ws.map D.str) (fun x => match x with
    | .str w => .int (wt w)
    | _ => .non) (by simpa using hl) (by
      array_get_dec
      rcases ht with rfl | rfl
      · exact so_wkT ⟨rfl, rfl⟩
      · exact so_wkL ⟨rfl, rfl⟩) ?_ ?_
  · intro x hx P p
    obtain ⟨w, hw, rfl⟩ := List.mem_map.mp hx
    simp only [wipeE, List.foldr, List.set_cons_zero, List.set_cons_succ]
    array_get_dec
    exact weight (hs w hw) p
  · array_get_dec
    rw [show (ws.map D.str).map (fun x => match x with
      | .str w => .int (wt w)
      | _ => .non) = (ws.map wt).map D.int by simp]
    exact so_sum (by rw [sum_wt]; exact q)
theorem next_number {room first : Int} {ws : List Str} {h : Hm} {Q : D → Hm → Prop} (q : Q (.int (first + ws.length)) h) : Sat (m_next_number [bookD room first ws] h) Q := by
  refine sa_fn rfl ?_
  unfold m_next_number_b bookD
  simp only [List.map_cons, List.map_nil, List.replicate, Nat.reduceSub, List.cons_append, List.nil_append]
  array_get_dec
  rw [List.length_map]
  exact q
theorem cutT_from {ws : List Str} {g : Nat} : cutD (ws.map D.str) (some (g : Int)) none = (ws.drop g).map D.str := by
  rw [cutD_from (by omega), ← List.map_drop]; rfl
theorem left_in {room first : Int} {ws : List Str} {h : Hm} {Q : D → Hm → Prop} (h0 : 0 ≤ room) (hs : Short ws) (hl : ws.length ≤ 100000) (q : Q (bookD room (first + ((ws.length - (stay room ws).length : Nat) : Int)) (stay room ws)) h) : Sat (m_left_in [.int room, .int first, .tup (ws.map D.str)] h) Q := by
  refine sa_fn rfl ?_
  unfold m_left_in_b
  simp only [List.map_cons, List.map_nil, List.replicate, Nat.reduceSub, List.cons_append, List.nil_append]
  array_get_dec
  refine weight_of (.inl rfl) hs (by omega) ?_
  array_get_dec
  refine ss_wh (fun v h' => ∃ g : Nat, h' = h ∧ g ≤ ws.length ∧ fit room 0 (ws.drop g) = stay room ws ∧ v = [some (.int room), some (.int first), some (.tup (ws.map D.str)), some (.int g), some (.int (sumW (ws.drop g)))]) (fun v _ => match v with
    | _ :: _ :: _ :: some (.int g) :: _ => ws.length - g.toNat
    | _ => 0) ⟨0, rfl, Nat.zero_le _, rfl, rfl⟩ (by show ws.length - (0 : Int).toNat < 1000000; omega) ?_
  rintro v h' ⟨g, rfl, hg, hf, rfl⟩
  array_get_dec
  refine ⟨fun hc => ?_, fun hc => ?_⟩
  · have hc : room < sumW (ws.drop g) := of_decide_eq_true hc
    have hlt : g < ws.length := by
      refine Nat.lt_of_le_of_ne hg fun e => ?_
      rw [e, List.drop_length] at hc
      simp only [sumW] at hc
      omega
    have ed : ws.drop g = ws[g] :: ws.drop (g + 1) := List.drop_eq_getElem_cons hlt
    array_get_dec
    refine so_ixT (d := .str ws[g]) (atI_nat (by rw [List.getElem?_map, List.getElem?_eq_getElem hlt]; rfl)) ?_
    array_get_dec
    refine weight (hs _ (List.getElem_mem hlt)) ?_
    array_get_dec
    refine ⟨⟨g + 1, rfl, by omega, ?_, ?_⟩, ?_⟩
    · rw [← hf, ed, fit_cons (by rw [← ed]; omega)]
    · rw [show sumW (ws.drop g) - wt ws[g] = sumW (ws.drop (g + 1)) by rw [ed]; simp only [sumW]; omega]
      rfl
    · show ws.length - ((g : Int) + 1).toNat < ws.length - (g : Int).toNat
      omega
  · have hc : ¬ room < sumW (ws.drop g) := of_decide_eq_false hc
    have hst : stay room ws = ws.drop g := by rw [← hf, fit_stop (by omega)]
    array_get_dec
    refine so_slT ?_
    rw [cutT_from]
    array_get_dec
    rw [hst] at q
    rw [List.length_drop, show ws.length - (ws.length - g) = g by omega] at q
    exact q
theorem heavy {t : List D → D} {ws : List Str} {h : Hm} {Q : D → Hm → Prop} (ht : t = D.tup ∨ t = D.lst) (hs : Short ws) (hl : ws.length ≤ 16777215) (q : Q (.int (sumW ws)) h) : Sat (m_law_heavy [t (ws.map D.str)] h) Q := by
  refine sa_fn rfl ?_
  unfold m_law_heavy_b
  simp only [List.map_cons, List.map_nil, List.replicate, Nat.reduceSub, List.cons_append, List.nil_append]
  array_get_dec
  refine sa_LcMap (l := ws.map D.str) (fun x => match x with
    | .str w => .int (wt w)
    | _ => .non) (by simpa using hl) (by
      array_get_dec
      rcases ht with rfl | rfl
      · exact so_wkT ⟨rfl, rfl⟩
      · exact so_wkL ⟨rfl, rfl⟩) ?_ ?_
  · intro x hx P p
    obtain ⟨w, hw, rfl⟩ := List.mem_map.mp hx
    simp only [wipeE, List.foldr, List.set_cons_zero, List.set_cons_succ]
    array_get_dec
    have := hs w hw
    refine so_lenS (by omega) ?_
    array_get_dec
    exact p
  · array_get_dec
    rw [show (ws.map D.str).map (fun x => match x with
      | .str w => .int (wt w)
      | _ => .non) = (ws.map wt).map D.int by simp]
    exact so_sum (by rw [sum_wt]; exact q)
theorem Short.drop {ws : List Str} (h : Short ws) (g : Nat) : Short (ws.drop g) := fun w hw => h w (List.mem_of_mem_drop hw)
/-- a word put behind: the room less the new word's weight -/
theorem stay_put {room : Int} {w : Str} (hw : wt w ≤ room) : ∀ ws : List Str, stay (room - wt w) ws ++ [w] = stay room (ws ++ [w])
  | [] => by
    show [w] = stay room [w]
    unfold stay
    rw [fit_stop (by simp only [sumW]; omega)]
  | a :: r => by
    have ih := stay_put hw r
    unfold stay at ih ⊢
    by_cases hc : room - wt w < sumW (a :: r) + 0
    · rw [fit_cons hc, ih, List.cons_append, fit_cons]
      rw [← List.cons_append, sumW_app]; simp only [sumW] at hc ⊢; omega
    · rw [fit_stop hc, fit_stop]
      rw [sumW_app]; simp only [sumW] at hc ⊢; omega
def m_word_at_b : SM :=
  (sSeq (sAsg (gN 2) (eB opSub (eV 1) (eB opIx (eV 0) (eC (.int 1)))))
  (sSeq (sIf (tNot (tE (eChain opLe opLt (eC (.int 0)) (eV 2) (eF bLen (aC (eB opIx (eV 0) (eC (.int 2))) aN))))) sErr sNx)
  (sRet (eB opIx (eB opIx (eV 0) (eC (.int 2))) (eV 2)))))
def m_word_at : FM := fn0 2 3 m_word_at_b
def m_put_in_b : SM :=
  (sSeq (sAsg (gT [3, 4, 5]) (eV 0))
  (sSeq (sIf (tE (eB opGt (eF m_weight (aC (eV 1) aN)) (eV 3))) sErr sNx)
  (sSeq (sAsg (gN 2) (eF m_left_in (aC (eB opSub (eV 3) (eF m_weight (aC (eV 1) aN))) (aC (eV 4) (aC (eV 5) aN)))))
  (sRet (eTup (aC (eV 3) (aC (eB opIx (eV 2) (eC (.int 1))) (aC (eB opAdd (eB opIx (eV 2) (eC (.int 2))) (eTup (aC (eV 1) aN))) aN))))))))
def m_put_in : FM := fn0 2 6 m_put_in_b
def m_done_b : SM :=
  (sSeq (sIf (tE (eB opEq (eB opIx (eV 1) (eC (.int 0))) (eC (.str (Str.ofString "put"))))) (sRet (eF m_put_in (aC (eV 0) (aC (eB opIx (eV 1) (eC (.int 1))) aN)))) sNx)
  (sSeq (sIf (tE (eB opEq (eB opIx (eV 1) (eC (.int 0))) (eC (.str (Str.ofString "again"))))) (sRet (eF m_put_in (aC (eV 0) (aC (eF m_word_at (aC (eV 0) (aC (eB opSub (eF m_next_number (aC (eV 0) aN)) (eB opIx (eV 1) (eC (.int 1)))) aN))) aN)))) sNx)
  (sRet (eF m_left_in (aC (eB opIx (eV 1) (eC (.int 1))) (aC (eB opIx (eV 0) (eC (.int 1))) (aC (eB opIx (eV 0) (eC (.int 2))) aN)))))))
def m_done : FM := fn0 2 2 m_done_b
/-- a book behind a word put, behind a room changed -/
def bookS (room first : Int) (ws : List Str) : D := bookD room (first + ((ws.length - (stay room ws).length : Nat) : Int)) (stay room ws)
theorem word_at {room first : Int} {ws : List Str} {k : Int} {w : Str} {h : Hm} {Q : D → Hm → Prop} (h0 : 0 ≤ k) (e : ws[k.toNat]? = some w) (q : Q (.str w) h) : Sat (m_word_at [bookD room first ws, .int (first + k)] h) Q := by
  refine sa_fn rfl ?_
  unfold m_word_at_b bookD
  simp only [List.map_cons, List.map_nil, List.replicate, Nat.reduceSub, List.cons_append, List.nil_append]
  have hk := (List.getElem?_eq_some_iff.mp e).1
  array_get_dec
  rw [show first + k - first = k by omega]
  refine ⟨fun _ => ?_, fun hc => absurd h0 (of_decide_eq_false hc)⟩
  array_get_dec
  rw [List.length_map]
  refine ⟨fun hc => ?_, fun _ => ?_⟩
  · have : (!decide (k < (ws.length : Int))) = true := hc
    simp at this
    omega
  array_get_dec
  obtain ⟨j, rfl⟩ := Int.eq_ofNat_of_zero_le h0
  refine so_ixT (d := .str w) (atI_nat ?_) q
  rw [List.getElem?_map]
  simp at e
  rw [e]; rfl
theorem put_in {room first : Int} {ws : List Str} {w : Str} {h : Hm} {Q : D → Hm → Prop} (hs : Short ws) (hl : ws.length ≤ 100000) (hw : w.length ≤ 1000) (hr : wt w ≤ room) (q : Q (bookS room first (ws ++ [w])) h) : Sat (m_put_in [bookD room first ws, .str w] h) Q := by
  refine sa_fn rfl ?_
  unfold m_put_in_b bookD
  simp only [List.map_cons, List.map_nil, List.replicate, Nat.reduceSub, List.cons_append, List.nil_append]
  with_reducible refine ss_seq ?_
  refine ss_asgT (sa_V0 ⟨_, _, rfl, rfl, ?_⟩)
  simp only [List.set_cons_zero, List.set_cons_succ]
  array_get_dec
  refine weight hw ?_
  array_get_dec
  refine ⟨fun hc => ?_, fun _ => ?_⟩
  · have := of_decide_eq_true hc
    omega
  array_get_dec
  refine weight hw ?_
  array_get_dec
  refine left_in (by omega) hs hl ?_
  unfold bookD
  array_get_dec
  refine so_addT (by simp; have := fit_len (room := room - wt w) (x := 0) (k := ws); unfold stay; omega) ?_
  array_get_dec
  have e := stay_put hr ws
  have el : (stay room (ws ++ [w])).length = (stay (room - wt w) ws).length + 1 := by rw [← e]; simp
  unfold bookS bookD at q
  rw [← e] at q
  rw [show ((ws ++ [w]).length - (stay (room - wt w) ws ++ [w]).length) = ws.length - (stay (room - wt w) ws).length by simp] at q
  rw [List.map_append] at q
  exact q
/-- the deeds that can be done, and what stands before words go -/
inductive Can (room : Int) (ws : List Str) : D → Int → List Str → Prop
  | put (w : Str) (h : IsW w) (hr : wt w ≤ room) : Can room ws (.tup [.str (Str.ofString "put"), .str w]) room (ws ++ [w])
  | again (n : Int) (w : Str) (h0 : 1 ≤ n) (h1 : n ≤ ws.length) (e : ws[((ws.length : Int) - n).toNat]? = some w) (hr : wt w ≤ room) : Can room ws (.tup [.str (Str.ofString "again"), .int n]) room (ws ++ [w])
  | room (n : Int) (h0 : 0 ≤ n) (h1 : n ≤ 200) : Can room ws (.tup [.str (Str.ofString "room"), .int n]) n ws
theorem done {room first r' : Int} {ws ws' : List Str} {d : D} {h : Hm} {Q : D → Hm → Prop} (c : Can room ws d r' ws') (h0 : 0 ≤ room) (hs : Short ws) (hl : ws.length ≤ 100000) (q : Q (bookS r' first ws') h) : Sat (m_done [bookD room first ws, d] h) Q := by
  refine sa_fn rfl ?_
  unfold m_done_b
  simp only [List.map_cons, List.map_nil, List.replicate, Nat.reduceSub, List.cons_append, List.nil_append]
  cases c with
  | put w hw hr =>
    array_get_dec
    refine ⟨fun _ => ?_, fun hc => by simp [ne_put] at hc⟩
    array_get_dec
    have := hw.len
    exact put_in hs hl (by omega) hr q
  | again n w h1 h2 e hr =>
    array_get_dec
    refine ⟨fun hc => by simp [ne_put] at hc, fun _ => ?_⟩
    array_get_dec
    refine ⟨fun _ => ?_, fun hc => by simp [ne_put] at hc⟩
    array_get_dec
    refine next_number ?_
    array_get_dec
    rw [show first + (ws.length : Int) - n = first + ((ws.length : Int) - n) by omega]
    refine word_at (by omega) e ?_
    array_get_dec
    exact put_in hs hl (hs w (List.mem_of_getElem? e)) hr q
  | room n h1 h2 =>
    array_get_dec
    refine ⟨fun hc => by simp [ne_put] at hc, fun _ => ?_⟩
    array_get_dec
    refine ⟨fun hc => by simp [ne_put] at hc, fun _ => ?_⟩
    unfold bookD
    array_get_dec
    exact left_in h1 hs hl q
def m_law_deed_b : SM :=
  (sSeq (sAsg (gN 3) (eF m_law_spoon (aC (eV 0) (aC (eC (.int 10)) aN))))
  (sSeq (sAsg (gN 4) (eB opIx (eV 2) (eF m_law_spoon (aC (eV 0) (aC (eF bLen (aC (eV 2) aN)) aN)))))
  (sSeq (sAsg (gN 5) (eF bLen (aC (eB opIx (eV 1) (eC (.int 2))) aN)))
  (sSeq (sIf (tE (eB opLt (eV 3) (eC (.int 5)))) (sRet (eTup (aC (eC (.str (Str.ofString "put"))) (aC (eV 4) aN)))) sNx)
  (sSeq (sIf (tE (eB opLt (eV 3) (eC (.int 8)))) (sSeq (sAsg (gN 7) (eLst (aC (eB opAdd (eC (.int 1)) (eF m_law_spoon (aC (eV 0) (aC (eF bMax (aC (eC (.int 1)) (aC (eV 5) aN))) aN)))) (aC (eB opAdd (eC (.int 1)) (eF m_law_spoon (aC (eV 0) (aC (eB opAdd (eV 5) (eC (.int 2))) aN)))) aN))))
  (sRet (eTup (aC (eC (.str (Str.ofString "again"))) (aC (eB opIx (eV 7) (eF bInt (aC (eB opEq (eV 3) (eC (.int 7))) aN))) aN))))) sNx)
  (sSeq (sIf (tE (eB opEq (eV 3) (eC (.int 8)))) (sSeq (sAsg (gN 8) (eLst (aC (eC (.int 999)) (aC (eB opAdd (eC (.int 1)) (eF m_law_spoon (aC (eV 0) (aC (eC (.int 999)) aN)))) (aC (eB opAdd (eV 5) (eC (.int 1))) aN)))))
  (sRet (eTup (aC (eC (.str (Str.ofString "again"))) (aC (eB opIx (eV 8) (eF m_law_spoon (aC (eV 0) (aC (eC (.int 3)) aN)))) aN))))) sNx)
  (sSeq (sAsg (gN 6) (eLst (aC (eF m_law_spoon (aC (eV 0) (aC (eC (.int 201)) aN))) (aC (eF bMax (aC (eC (.int 0)) (aC (eB opSub (eB opIx (eV 1) (eC (.int 0))) (eF m_law_spoon (aC (eV 0) (aC (eC (.int 12)) aN)))) aN))) (aC (eB opIx (eV 1) (eC (.int 0))) aN)))))
  (sRet (eTup (aC (eC (.str (Str.ofString "room"))) (aC (eB opIx (eV 6) (eF m_law_spoon (aC (eV 0) (aC (eC (.int 3)) aN)))) aN)))))))))))
def m_law_deed : FM := fn0 3 9 m_law_deed_b
theorem ss_forW {g : TgM} {w : Ev → Hm → R Wk} {b : SM} {v : Ev} {h : Hm} {N : Ev → Hm → Prop} {T : D → Hm → Prop} {Bk G : Ev → Hm → Prop} (s : Sat (w v h) fun k h1 => SatS (forL g b k.chk k.its v h1) N T Bk G) : SatS (sFor g w b v h) N T Bk G := by
  unfold sFor
  obtain ⟨k, h1, ek, q⟩ := s.get
  rw [ek]
  exact q
theorem ss_forN {k : Nat} {b : SM} {v : Ev} {h : Hm} {N : Ev → Hm → Prop} {T : D → Hm → Prop} {Bk G : Ev → Hm → Prop} (n : Nat) (Inv : Nat → Ev → Hm → Prop) (h0 : Inv 0 v h)
    (hs : ∀ (i : Nat) (v : Ev) (h : Hm), i < n → Inv i v h → SatS (b (v.set k (some (.int i))) h) (Inv (i + 1)) T N (Inv (i + 1))) (hd : ∀ v h, Inv n v h → N v h) : SatS (forL (gN k) b (fun _ => true) ((List.range n).map fun (i : Nat) => .int (i : Int)) v h) N T Bk G := by
  refine forL_inv Inv _ 0 v h h0 (fun i x v h e hi => ?_) (fun v h z => ⟨rfl, hd v h (by simpa using z)⟩)
  have hn : i < n := by
    have := (List.getElem?_eq_some_iff.mp e).1
    simpa using this
  have hx : x = .int i := by
    rw [List.getElem?_map, List.getElem?_range hn] at e
    injection e with e
    exact e.symm
  subst hx
  rw [Nat.zero_add] at hi ⊢
  exact ⟨rfl, _, rfl, hs i v h hn hi⟩
theorem sumW_ge (ws : List Str) : 2 * (ws.length : Int) ≤ sumW ws := by
  induction ws with
  | nil => exact Int.le_refl _
  | cons a r ih => simp only [List.length_cons, sumW, wt]; omega
theorem strs_cl {ws : List Str} {N : Nat} : D.clL N (ws.map D.str) = true := clL_all fun x hx => by
  obtain ⟨w, _, rfl⟩ := List.mem_map.mp hx
  rfl
theorem so_someWord {ws : List Str} {i : Int} {h : Hm} {Q : D → Hm → Prop} (h0 : 0 ≤ i) (h1 : i < ws.length) (q : ∀ w, w ∈ ws → Q (.str w) h) : Sat (opIx (.lst (ws.map D.str)) (.int i) h) Q := by
  refine so_ixP (fun d => ∃ w, w ∈ ws ∧ d = .str w) (fun d hd => ?_) h0 (by simpa using h1) ?_
  · obtain ⟨w, hw, rfl⟩ := List.mem_map.mp hd
    exact ⟨w, hw, rfl⟩
  · rintro _ ⟨w, hw, rfl⟩
    exact q w hw
theorem deed {n B : Nat} {some_ ws : List Str} {room first : Int} {h : Hm} {Q : D → Hm → Prop} (hsome : Words some_) (hpos : 1 ≤ some_.length) (hlen : some_.length ≤ 1000) (h0 : 0 ≤ room) (hr : room ≤ 200) (hl : ws.length ≤ 900) (w : Bow n (B + 20) h)
    (q : ∀ d h', IsDeed d → Drew n B h h' → Q d h') : Sat (m_law_deed [.ref n, bookD room first ws, .lst (some_.map D.str)] h) Q := by
  refine sa_fn rfl ?_
  unfold m_law_deed_b bookD
  simp only [List.map_cons, List.map_nil, List.replicate, Nat.reduceSub, List.cons_append, List.nil_append]
  array_get_dec
  refine spoon w (by decide) (by decide) fun way h1 a1 a2 d1 => ?_
  array_get_dec
  rw [List.length_map]
  refine spoon d1.bow (by omega) (by omega) fun p2 h2 b1 b2 d2 => ?_
  refine so_someWord b1 b2 fun z hz => ?_
  have dd := d1.trans d2
  array_get_dec
  rw [List.length_map]
  refine ⟨fun _ => ?_, fun _ => ?_⟩
  · array_get_dec
    exact q _ _ (.put z (hsome z hz)) (dd.le (by omega))
  · array_get_dec
    refine ⟨fun _ => ?_, fun _ => ?_⟩
    · array_get_dec
      refine spoon d2.bow (by omega) (by omega) fun p3 h3 c1 c2 d3 => ?_
      array_get_dec
      refine spoon d3.bow (by omega) (by omega) fun p4 h4 e1 e2 d4 => ?_
      array_get_dec
      refine so_ixP (IntIn 1 999) (by
        repeat refine all_cons (.mk (by omega) (by omega)) ?_
        exact all_nil) (by split <;> decide) (by split <;> simp) ?_
      rintro _ ⟨m, rfl, m1, m2⟩
      array_get_dec
      exact q _ _ (.again m m1 m2) (((dd.trans d3).trans d4).le (by omega))
    · array_get_dec
      refine ⟨fun _ => ?_, fun _ => ?_⟩
      · array_get_dec
        refine spoon d2.bow (by decide) (by decide) fun p3 h3 c1 c2 d3 => ?_
        array_get_dec
        refine spoon d3.bow (by decide) (by decide) fun p4 h4 e1 e2 d4 => ?_
        array_get_dec
        refine so_ixP (IntIn 1 999) (by
          repeat refine all_cons (.mk (by omega) (by omega)) ?_
          exact all_nil) e1 (by simpa using e2) ?_
        rintro _ ⟨m, rfl, m1, m2⟩
        array_get_dec
        exact q _ _ (.again m m1 m2) (((dd.trans d3).trans d4).le (by omega))
      · array_get_dec
        refine spoon d2.bow (by decide) (by decide) fun p3 h3 c1 c2 d3 => ?_
        array_get_dec
        refine spoon d3.bow (by decide) (by decide) fun p4 h4 e1 e2 d4 => ?_
        array_get_dec
        refine spoon d4.bow (by decide) (by decide) fun p5 h5 f1 f2 d5 => ?_
        array_get_dec
        refine so_ixP (IntIn 0 200) (by
          repeat refine all_cons (.mk (by omega) (by omega)) ?_
          exact all_nil) f1 (by simpa using f2) ?_
        rintro _ ⟨m, rfl, m1, m2⟩
        array_get_dec
        exact q _ _ (.room m m1 m2) ((((dd.trans d3).trans d4).trans d5).le (by omega))
theorem wt_pos (w : Str) : 0 < wt w := by unfold wt; omega
theorem stay_ok {room : Int} (h0 : 0 ≤ room) : ∀ ws : List Str, sumW (stay room ws) ≤ room
  | [] => by simpa [stay, fit, sumW] using h0
  | a :: r => by
    unfold stay
    by_cases hc : room < sumW (a :: r) + 0
    · rw [fit_cons hc]; exact stay_ok h0 r
    · rw [fit_stop hc]; omega
/-- how many must go -/
def gmin (room : Int) (ws : List Str) : Nat := ws.length - (stay room ws).length
theorem stay_gmin (room : Int) (ws : List Str) : stay room ws = ws.drop (gmin room ws) := fit_drop room 0 ws
section
variable {X : D → Hm → Prop} {h : Hm} {Q : D → Hm → Prop}
theorem so_neTup0 {l : List D} (hok : D.okL 63 l = true) (q : Q (.bl (!l.isEmpty)) h) : SatX X (opNe (.tup l) (.tup []) h) Q := by
  refine so_neD rfl hok rfl ?_
  rw [show dr h (.tup l) = .tup l from rfl, show dr h (.tup []) = .tup [] from rfl]
  cases l with
  | nil => exact q
  | cons a r => exact q
theorem sa_wEnT {e : EM} {v : Ev} {Q : Wk → Hm → Prop} (s : SatX X (e v h) fun x h1 => SatX X (wEnumTOf x h1) Q) : SatX X (wEnT e v h) Q := SatX.bind s
theorem so_enTT {l : List D} {Q : Wk → Hm → Prop} (q : Q ⟨enumL l, fun _ => true⟩ h) : SatX X (wEnumTOf (.tup l) h) Q := ⟨q⟩
end
theorem okL_strsN {n : Nat} {ws : List Str} (hw : ∀ w ∈ ws, PyData.strOk w = true) : D.okL n (ws.map D.str) = true := by
  induction ws with
  | nil => cases n <;> rfl
  | cons a r ih =>
    have h1 : D.okN n (.str a) = true := by
      have := hw a (by simp)
      cases n <;> simpa [D.okN] using this
    simp only [List.map_cons, D.okL, h1, Bool.true_and]
    exact ih fun w hw' => hw w (by simp [hw'])
section
variable {X : D → Hm → Prop} {room first : Int} {ws : List Str} {h : Hm} {Q : D → Hm → Prop}
theorem so_bk1 (q : Q (.int first) h) : SatX X (opIx (bookD room first ws) (.int 1) h) Q := so_ixT1 q
theorem so_bk2 (q : Q (.tup (ws.map D.str)) h) : SatX X (opIx (bookD room first ws) (.int 2) h) Q := so_ixT2 q
end
/-- where a word stands -/
def plc (w : Str) : Int → List Str → List Int
  | _, [] => []
  | k, a :: r => if a = w then k :: plc w (k + 1) r else plc w (k + 1) r
def m_law_reed_b : SM :=
  (sSeq (sAsg (gN 2) (eB opAdd (eB opMul (eC (.int 104729)) (eV 1)) (eC (.int 8191))))
  (sSeq (sIf (tE (eB opLt (eV 1) (eF bLen (aC (eV 0) aN)))) (sAsg (gN 2) (eB opIx (eV 0) (eV 1))) sNx)
  (sSeq (sAsg (gN 3) (eC (.int 0)))
  (sSeq (sIf (tE (eB opGe (eV 2) (eB opPow (eC (.int 10)) (eC (.int 18))))) (sAsg (gN 3) (eB opSub (eV 2) (eB opPow (eC (.int 10)) (eC (.int 18))))) sNx)
  (sRet (eNew (aC (eV 3) (aC (eB opAdd (eB opMod (eV 2) (eC (.int 2305843009213693951))) (eB opMul (eC (.int 31)) (eV 1))) (aC (eC (.int 0)) aN)))))))))
def m_law_reed : FM := fn0 2 4 m_law_reed_b
def m_law_sip_b : SM :=
  (sSeq (sIf (tE (eB opGe (eB opIx (eV 0) (eC (.int 0))) (eV 1))) (sSeq (sAsg (gN 6) (eB opMod (eB opIx (eV 0) (eC (.int 0))) (eV 1)))
  (sSeq (sPut (eV 0) (eC (.int 0)) (eB opDiv (eB opIx (eV 0) (eC (.int 0))) (eV 1)))
  (sRet (eV 6)))) sNx)
  (sSeq (sPut (eV 0) (eC (.int 2)) (eB opAdd (eB opIx (eV 0) (eC (.int 2))) (eC (.int 1))))
  (sSeq (sAsg (gN 2) (eLst (aC (eC (.int 2147483647)) (aC (eC (.int 2147483629)) (aC (eC (.int 2147483587)) (aC (eC (.int 2147483579)) (aC (eC (.int 2147483563)) (aC (eC (.int 2147483549)) (aC (eC (.int 2147483543)) (aC (eC (.int 2147483497)) aN))))))))))
  (sSeq (sAsg (gN 3) (eB opIx (eV 2) (eB opMod (eB opIx (eV 0) (eC (.int 2))) (eC (.int 8)))))
  (sSeq (sAsg (gN 4) (eB opAdd (eB opMul (eB opMod (eB opIx (eV 0) (eC (.int 1))) (eV 3)) (eB opAdd (eB opMul (eC (.int 2)) (eB opIx (eV 0) (eC (.int 2)))) (eC (.int 1)))) (eB opMul (eC (.int 7919)) (eB opIx (eV 0) (eC (.int 2))))))
  (sSeq (sAsg (gN 4) (eB opMod (eB opPow (eV 4) (eC (.int 3))) (eV 3)))
  (sSeq (sAsg (gN 5) (eB opAdd (eB opAdd (eB opMul (eV 4) (eV 4)) (eB opMod (eB opIx (eV 0) (eC (.int 1))) (eC (.int 1000003)))) (eB opIx (eV 0) (eC (.int 2)))))
  (sRet (eB opMod (eB opDiv (eB opMod (eB opPow (eV 5) (eC (.int 5))) (eB opIx (eV 2) (eB opMod (eB opAdd (eB opIx (eV 0) (eC (.int 2))) (eC (.int 3))) (eC (.int 8))))) (eC (.int 7))) (eV 1))))))))))
def m_law_sip : FM := fn0 2 7 m_law_sip_b
def m_law_words_b : SM :=
  (sSeq (sAsg (gN 2) (eC (.str (Str.ofString "abcdefghijklmnopqrstuvwxyz"))))
  (sSeq (sAsg (gN 3) (eNew aN))
  (sSeq (sWh (tE (eB opLt (eF bLen (aC (eV 3) aN)) (eV 1))) (sSeq (sAsg (gN 4) (eF m_law_sip (aC (eV 0) (aC (eC (.int 7)) aN))))
  (sSeq (sAsg (gN 5) (eB opIx (eLst (aC (eC (.int 1)) (aC (eC (.int 2)) (aC (eC (.int 3)) (aC (eB opAdd (eC (.int 1)) (eF m_law_sip (aC (eV 0) (aC (eC (.int 12)) aN)))) (aC (eC (.int 12)) (aC (eC (.int 4)) (aC (eC (.int 5)) aN)))))))) (eV 4)))
  (sSeq (sAsg (gN 6) (eM "str" mJoin (eC (.str (Str.ofString ""))) (aC (eLc [9] (gN 9) (wR1 (eV 5)) tYes (eB opIx (eV 2) (eF m_law_sip (aC (eV 0) (aC (eC (.int 26)) aN))))) aN)))
  (sSeq (sIf (tAnd (tE (eB opGt (eV 4) (eC (.int 4)))) (tE (eB opNe (eV 3) (eLst aN)))) (sSeq (sAsg (gN 8) (eF m_law_sip (aC (eV 0) (aC (eF bLen (aC (eB opIx (eV 3) (eU opNeg (eC (.int 1)))) aN)) aN))))
  (sAsg (gN 6) (eB opIx (eLst (aC (eB opAdd (eB opAdd (eSl (eB opIx (eV 3) (eU opNeg (eC (.int 1)))) pN (pE (eV 8))) (eB opIx (eV 6) (eC (.int 0)))) (eSl (eB opIx (eV 3) (eU opNeg (eC (.int 1)))) (pE (eB opAdd (eV 8) (eC (.int 1)))) pN)) (aC (eSl (eB opAdd (eB opIx (eV 3) (eU opNeg (eC (.int 1)))) (eV 6)) pN (pE (eC (.int 12)))) aN))) (eB opSub (eV 4) (eC (.int 5)))))) sNx)
  (sSeq (sAsg (gN 7) (eLc [8] (gN 8) (wR1 (eB opAdd (eF bLen (aC (eV 3) aN)) (eC (.int 1)))) tYes (eSl (eB opAdd (eB opAdd (eV 6) (eB opIx (eV 2) (eB opDiv (eV 8) (eC (.int 26))))) (eB opIx (eV 2) (eB opMod (eV 8) (eC (.int 26))))) (pE (eU opNeg (eC (.int 12)))) pN)))
  (sExpr (eM "list" mAppend (eV 3) (aC (eB opIx (eLc [10] (gN 10) (wE (eB opAdd (eLst (aC (eV 6) aN)) (eV 7))) (tE (eB opNotIn (eV 10) (eV 3))) (eV 10)) (eC (.int 0))) aN)))))))))
  (sRet (eU fz (eV 3))))))
def m_law_words : FM := tr (fn0 2 11 m_law_words_b)
theorem sip0 {h : Hm} {n B : Nat} {a b c many : Int} {Q : D → Hm → Prop} (w : Bowl h n (B + 1) a b c) (h1 : 1 ≤ many) (h2 : many < 1073741824)
    (q : ∀ v a' c', 0 ≤ v → v < many → Bowl (h.set n (.lst [.int a', .int b, .int c'])) n B a' b c' → Q (.int v) (h.set n (.lst [.int a', .int b, .int c']))) : Sat (m_law_sip [.ref n, .int many] h) Q := by
  obtain ⟨e, a0, b0, c0, cB⟩ := w
  have hn : n < h.length := (List.getElem?_eq_some_iff.mp e).1
  refine sa_fn rfl ?_
  unfold m_law_sip_b
  simp only [List.map_cons, List.map_nil, List.replicate, Nat.reduceSub, List.cons_append, List.nil_append]
  array_get_dec
  refine ⟨fun hc => ?_, fun hc => ?_⟩
  · have hc : many ≤ a := by simpa using hc
    array_get_dec
    refine so_mod (by omega) ?_
    array_get_dec
    refine so_div ⟨by omega, h2⟩ ?_
    array_get_dec
    refine so_put (j := 0) e rfl ?_
    simp only [List.set_cons_zero]
    array_get_dec
    refine q _ _ _ (Int.emod_nonneg _ (by omega)) (Int.emod_lt_of_pos _ (by omega)) ⟨List.getElem?_set_self hn, Int.ediv_nonneg a0 (by omega), b0, c0, by omega⟩
  · array_get_dec
    refine so_put (j := 2) e rfl ?_
    simp only [List.set_cons_zero, List.set_cons_succ]
    have e2 : (h.set n (.lst [.int a, .int b, .int (c + 1)]))[n]? = some (.lst [.int a, .int b, .int (c + 1)]) := List.getElem?_set_self hn
    generalize hh : h.set n (.lst [.int a, .int b, .int (c + 1)]) = h' at e2
    array_get_dec
    refine so_ixP (IntIn 2147483200 2147483700) (by
      repeat refine all_cons (.mk (by decide) (by decide)) ?_
      exact all_nil) (Int.emod_nonneg _ (by decide)) (Int.emod_lt_of_pos _ (by decide)) ?_
    rintro _ ⟨p, rfl, p1, p2⟩
    array_get_dec
    refine so_mod (by omega) ?_
    array_get_dec
    have m1 : 0 ≤ b % p := Int.emod_nonneg _ (by omega)
    have m2 : b % p < p := Int.emod_lt_of_pos _ (by omega)
    refine so_mul (mulOkL ⟨by omega, by omega⟩) ?_
    array_get_dec
    have k1 : 0 ≤ b % p * (2 * (c + 1) + 1) := Int.mul_nonneg m1 (by omega)
    have k2 : b % p * (2 * (c + 1) + 1) ≤ 2147483700 * 2000000003 := Int.mul_le_mul (by omega) (by omega) (by omega) (by decide)
    generalize b % p * (2 * (c + 1) + 1) = t at k1 k2 ⊢
    refine so_pow ⟨by decide, by decide, by omega, by omega⟩ ?_
    array_get_dec
    refine so_mod (by omega) ?_
    array_get_dec
    have u1 : 0 ≤ (t + 7919 * (c + 1)) ^ (3 : Int).toNat % p := Int.emod_nonneg _ (by omega)
    have u2 : (t + 7919 * (c + 1)) ^ (3 : Int).toNat % p < p := Int.emod_lt_of_pos _ (by omega)
    generalize (t + 7919 * (c + 1)) ^ (3 : Int).toNat % p = u at u1 u2 ⊢
    refine so_mul (mulOkL ⟨by omega, by omega⟩) ?_
    array_get_dec
    have w1 : 0 ≤ u * u := Int.mul_nonneg u1 u1
    have w2 : u * u ≤ 2147483700 * 2147483700 := Int.mul_le_mul (by omega) (by omega) u1 (by decide)
    generalize u * u = uu at w1 w2 ⊢
    have x1 : 0 ≤ b % 1000003 := Int.emod_nonneg _ (by decide)
    have x2 : b % 1000003 < 1000003 := Int.emod_lt_of_pos _ (by decide)
    generalize b % 1000003 = bb at x1 x2 ⊢
    refine so_pow ⟨by decide, by decide, by omega, by omega⟩ ?_
    array_get_dec
    refine so_ixP (IntIn 2147483200 2147483700) (by
      repeat refine all_cons (.mk (by decide) (by decide)) ?_
      exact all_nil) (Int.emod_nonneg _ (by decide)) (Int.emod_lt_of_pos _ (by decide)) ?_
    rintro _ ⟨p', rfl, p3, p4⟩
    refine so_mod (by omega) ?_
    array_get_dec
    refine so_mod (by omega) ?_
    subst hh
    exact q _ _ _ (Int.emod_nonneg _ (by omega)) (Int.emod_lt_of_pos _ (by omega)) ⟨e2, a0, b0, by omega, by omega⟩
theorem sip {n B : Nat} {h : Hm} {many : Int} {Q : D → Hm → Prop} (w : Bow n (B + 1) h) (h1 : 1 ≤ many) (h2 : many < 1073741824) (q : ∀ v h', 0 ≤ v → v < many → Drew n B h h' → Q (.int v) h') : Sat (m_law_sip [.ref n, .int many] h) Q := by
  obtain ⟨a, b, c, w⟩ := w
  exact sip0 w h1 h2 fun v a' c' v0 v1 w' => q v _ v0 v1 ⟨⟨a', b, c', w'⟩, by simp, fun m hm => List.getElem?_set_ne (Ne.symm hm)⟩
theorem reed_new {h : Hm} {ns : List Int} {k : Int} {Q : D → Hm → Prop} (h0 : 0 ≤ k) (q : ∀ h', Bow h.length 1000000000 h' → h'.length = h.length + 1 → (∀ m, m < h.length → h'[m]? = h[m]?) → Q (.ref h.length) h') : Sat (m_law_reed [.scr ns, .int k] h) Q := by
  have fin : ∀ cell rest : Int, 0 ≤ rest → Q (.ref h.length) (h ++ [.lst [.int rest, .int (cell % 2305843009213693951 + 31 * k), .int 0]]) := fun cell rest hr =>
    q _ ⟨rest, cell % 2305843009213693951 + 31 * k, 0, by simp, hr, by have := Int.emod_nonneg cell (show (2305843009213693951 : Int) ≠ 0 by decide); omega, by decide, by decide⟩ (by simp) (fun m hm => List.getElem?_append_left hm)
  have go : ∀ (cell : Int), SatS (sSeq (sAsg (gN 3) (eC (.int 0)))
      (sSeq (sIf (tE (eB opGe (eV 2) (eB opPow (eC (.int 10)) (eC (.int 18))))) (sAsg (gN 3) (eB opSub (eV 2) (eB opPow (eC (.int 10)) (eC (.int 18))))) sNx)
      (sRet (eNew (aC (eV 3) (aC (eB opAdd (eB opMod (eV 2) (eC (.int 2305843009213693951))) (eB opMul (eC (.int 31)) (eV 1))) (aC (eC (.int 0)) aN)))))) [some (.scr ns), some (.int k), some (.int cell), none] h) (fun _ h1 => Q .non h1) Q := fun cell => by
    array_get_dec
    refine so_pow ⟨by decide, by decide, by decide, by decide⟩ ?_
    array_get_dec
    refine ⟨fun hc => ?_, fun hc => ?_⟩
    · array_get_dec
      refine so_pow ⟨by decide, by decide, by decide, by decide⟩ ?_
      array_get_dec
      refine fin cell _ ?_
      have : (10 : Int) ^ (18 : Int).toNat ≤ cell := of_decide_eq_true hc
      omega
    · array_get_dec
      exact fin cell 0 (by decide)
  refine sa_fn rfl ?_
  unfold m_law_reed_b
  simp only [List.map_cons, List.map_nil, List.replicate, Nat.reduceSub, List.cons_append, List.nil_append]
  array_get_dec
  refine ⟨fun hc => ?_, fun hc => ?_⟩
  · array_get_dec
    have hc : k < ns.length := of_decide_eq_true hc
    obtain ⟨x, e, _⟩ := atI_in (l := ns) h0 hc
    refine so_ixC e ?_
    exact go x
  · exact ss_nx (go _)
theorem words_tail {n B K : Nat} {many way size : Int} {ws : List Str} {l : List Nat} {h h4 : Hm} {x7 x8 x9 x10 : Option D} {N : Ev → Hm → Prop} {T : D → Hm → Prop} {Bk Gk : Ev → Hm → Prop} (hl : ws.length ≤ 600) (l1 : 1 ≤ l.length) (l2 : l.length ≤ 12) (l3 : ∀ c ∈ l, small c) (d4 : DrewX n K h h4) (e4 : h4[h.length]? = some (.lst (ws.map D.str)))
    (hN : ∀ x7 x8 x9 x10 x h5, IsW x → x ∉ ws → DrewX n K h h5 → h5[h.length]? = some (.lst ((ws ++ [x]).map D.str)) → N [some (.ref n), some (.int many), some (.str (Str.ofString "abcdefghijklmnopqrstuvwxyz")), some (.ref h.length), some (.int way), some (.int size), some (.str (S l)), x7, x8, x9, x10] h5) :
    SatS ((sSeq (sAsg (gN 7) (eLc [8] (gN 8) (wR1 (eB opAdd (eF bLen (aC (eV 3) aN)) (eC (.int 1)))) tYes (eSl (eB opAdd (eB opAdd (eV 6) (eB opIx (eV 2) (eB opDiv (eV 8) (eC (.int 26))))) (eB opIx (eV 2) (eB opMod (eV 8) (eC (.int 26))))) (pE (eU opNeg (eC (.int 12)))) pN)))
  (sExpr (eM "list" mAppend (eV 3) (aC (eB opIx (eLc [10] (gN 10) (wE (eB opAdd (eLst (aC (eV 6) aN)) (eV 7))) (tE (eB opNotIn (eV 10) (eV 3))) (eV 10)) (eC (.int 0))) aN))))
      [some (.ref n), some (.int many), some (.str (Str.ofString "abcdefghijklmnopqrstuvwxyz")), some (.ref h.length), some (.int way), some (.int size), some (.str (S l)), x7, x8, x9, x10] h4) N T Bk Gk := by
  array_get_dec
  refine sa_LcMap (l := (List.range (ws.length + 1)).map fun (k : Nat) => .int (k : Int)) (fun x => match x with
    | .int k => .str (S (spareL l k.toNat))
    | _ => .non) (by simp; omega) (by
      array_get_dec
      refine ⟨by omega, by simp; omega, ?_, rfl⟩
      simp) ?_ ?_
  · intro x hx P p
    obtain ⟨k, hk, rfl⟩ := List.mem_map.mp hx
    have hk : k < ws.length + 1 := by simpa using hk
    simp only [wipeE, List.foldr, List.set_cons_zero, List.set_cons_succ]
    array_get_dec
    refine so_ixS (by rw [abc_len]; decide) (abc_exact (i := (k : Int) / 26) (by omega) (by omega)) ?_
    rw [show (⟨#[97 + ((k : Int) / 26).toNat]⟩ : Str) = S [97 + k / 26] by
      have : ((k : Int) / 26).toNat = k / 26 := by omega
      rw [this]; rfl]
    refine so_addS (by rw [S_len, S_len]; simp; omega) ?_
    rw [S_app]
    array_get_dec
    refine so_ixS (by rw [abc_len]; decide) (abc_exact (i := (k : Int) % 26) (by omega) (by omega)) ?_
    rw [show (⟨#[97 + ((k : Int) % 26).toNat]⟩ : Str) = S [97 + k % 26] by
      have : ((k : Int) % 26).toNat = k % 26 := by omega
      rw [this]; rfl]
    refine so_addS (by rw [S_len, S_len]; simp; omega) ?_
    rw [S_app]
    array_get_dec
    refine so_neg ?_
    refine ⟨_, rfl, ?_⟩
    array_get_dec
    refine so_slS (by rw [S_len]; simp; omega) ?_
    rw [cut_last (by decide)]
    have e : (-12 + (((l ++ [97 + k / 26] ++ [97 + k % 26]).length : Nat) : Int)).toNat = l.length + 2 - 12 := by
      simp; omega
    rw [show -(12 : Int) = -12 from rfl, e]
    exact p
  · array_get_dec
    have es : ((List.range (ws.length + 1)).map fun (k : Nat) => D.int (k : Int)).map (fun x => match x with
      | .int k => .str (S (spareL l k.toNat))
      | _ => .non) = (spares l (ws.length + 1)).map D.str := by
      simp [spares]
    rw [es]
    have e4' := e4
    refine ⟨rcR e4, ?_⟩
    array_get_dec
    refine sa_LcFil (l := (S l :: spares l (ws.length + 1)).map D.str) (notIn ws) id (by simp [spares]; omega) (by
      array_get_dec
      refine so_addL (by simp [spares]; omega) ?_
      exact so_wkL ⟨rfl, rfl⟩) ?_ ?_ ?_
    · intro x hx P p
      obtain ⟨z, hz, rfl⟩ := List.mem_map.mp hx
      simp only [wipeE, List.foldr, List.set_cons_zero, List.set_cons_succ]
      array_get_dec
      exact so_notInStr e4 ⟨_, rfl, p⟩
    · intro x hx P p
      simp only [wipeE, List.foldr, List.set_cons_zero, List.set_cons_succ]
      array_get_dec
      exact p
    · rw [notIn_filter]
      obtain ⟨x, rest, ef, hx1, hx2⟩ := fresh l ws (S l)
      rw [ef, List.map_cons]
      array_get_dec
      refine so_append e4 (by simp; omega) ?_
      refine hN _ _ _ _ x _ ?_ hx1 (d4.put (Nat.le_refl _)) ?_
      · rcases List.mem_cons.mp hx2 with e | e
        · rw [e]; exact .mk' l1 l2 l3
        · obtain ⟨k, hk, rfl⟩ := List.mem_map.mp e
          have hk : k < ws.length + 1 := by simpa using hk
          exact spare_ok l1 l3 (by omega)
      · rw [List.getElem?_set_self (List.getElem?_eq_some_iff.mp e4).1, List.map_append]; rfl
/-- words drawn, all unlike -/
theorem words {n B : Nat} {many : Int} {h : Hm} {Q : D → Hm → Prop} (hm0 : 0 ≤ many) (hm : many ≤ 600) (w : Bow n (B + 30 * many.toNat) h) (q : ∀ ws h', ws.length = many.toNat → Words ws → ws.Nodup → Drew n B h h' → Q (.lst (ws.map D.str)) h') : Sat (m_law_words [.ref n, .int many] h) Q := by
  refine sa_tr (sa_fn rfl ?_)
  unfold m_law_words_b
  simp only [List.map_cons, List.map_nil, List.replicate, Nat.reduceSub, List.cons_append, List.nil_append]
  array_get_dec
  have d0 : DrewX n (B + 30 * many.toNat) h (h ++ [.lst []]) := (Drew.refl w).x.push
  have ee : (h ++ [HD.lst []])[h.length]? = some (.lst (([] : List Str).map D.str)) := by simp
  generalize h ++ [HD.lst []] = h6 at d0 ee
  refine ss_wh (fun v h' => ∃ (ws : List Str) (x4 x5 x6 x7 x8 x9 x10 : Option D), v = [some (.ref n), some (.int many), some (.str (Str.ofString "abcdefghijklmnopqrstuvwxyz")), some (.ref h.length), x4, x5, x6, x7, x8, x9, x10] ∧ h'[h.length]? = some (.lst (ws.map D.str)) ∧ ws.length ≤ many.toNat ∧ Words ws ∧ ws.Nodup ∧ DrewX n (B + 30 * (many.toNat - ws.length)) h h') (fun _ h' => match h'[h.length]? with
    | some (.lst l) => many.toNat - l.length
    | _ => 0) ⟨[], _, _, _, _, _, _, _, rfl, ee, Nat.zero_le _, (fun _ z => nomatch z), List.nodup_nil, d0⟩ (by simp only [ee]; simp; omega) ?_
  rintro v h' ⟨ws, x4, x5, x6, x7, x8, x9, x10, rfl, el, hl, hws, hnd, dx⟩
  array_get_dec
  rw [List.length_map]
  refine ⟨fun hc => ?_, fun hc => ?_⟩
  · have hc : (ws.length : Int) < many := of_decide_eq_true hc
    array_get_dec
    refine sip (B := B + 30 * (many.toNat - (ws.length + 1)) + 29) (dx.bow.le (by omega)) (by decide) (by decide) fun way h1 p0 p1 d1 => ?_
    array_get_dec
    refine sip (B := B + 30 * (many.toNat - (ws.length + 1)) + 28) (d1.bow.le (by omega)) (by decide) (by decide) fun s0 h2 s1 s2 d2 => ?_
    array_get_dec
    refine so_ixP (IntIn 1 12) (by
      repeat refine all_cons (.mk (by omega) (by omega)) ?_
      exact all_nil) p0 (by simpa using p1) ?_
    rintro _ ⟨size, rfl, z1, z2⟩
    array_get_dec
    refine ⟨rfl, ?_⟩
    array_get_dec
    have hLn : h.length ≠ n := by have := dx.lt; omega
    have el2 := (d1.trans d2).at hLn el
    have dx2 := (dx.then d1).then d2
    refine letters_lc (B := B + 30 * (many.toNat - (ws.length + 1)) + 9) (nb := n) (size := size.toNat) (Q := fun x h2 => Sat (aN _ h2) fun xs h2 => Sat (mJoin (.str (Str.ofString "")) (x :: xs) h2) _) (by
      array_get_dec
      exact ⟨by omega, by omega, rfl, rfl⟩) (by omega) (dx2.bow.le (by omega)) ?_ ?_
    · intro d T h' P hb' k
      refine sa_B (sa_V2 ?_)
      simp only [wipeE, List.foldr, List.set_cons_zero, List.set_cons_succ]
      array_get_dec
      refine sip hb' (by decide) (by decide) fun v h3 v0 v1 d3 => ?_
      obtain ⟨c, ec, hc⟩ := abc_at v0 v1
      refine so_ixS (by rw [abc_len]; decide) ec ?_
      exact k c h3 hc d3
    intro l0 h3 hl0 c0 d3
    have a0 : 1 ≤ l0.length := by omega
    have b0 : l0.length ≤ 12 := by omega
    array_get_dec
    refine so_joinL (by omega) ?_
    have el3 := d3.at hLn el2
    have dx3 := dx2.then d3
    have hmu : (match h'[h.length]? with
      | some (HD.lst l) => many.toNat - l.length
      | _ => 0) = many.toNat - ws.length := by simp only [el, List.length_map]
    rw [hmu]
    clear d1 d2 d3 el dx el2 dx2 hmu
    have hN : ∀ (l : List Nat) x7 x8 x9 x10 x h5, IsW x → x ∉ ws → DrewX n (B + 30 * (many.toNat - (ws.length + 1))) h h5 → h5[h.length]? = some (.lst ((ws ++ [x]).map D.str)) → (∃ (ws : List Str) (x4 x5 x6 x7_1 x8_1 x9_1 x10_1 : Option D), [some (D.ref n), some (D.int many), some (D.str (Str.ofString "abcdefghijklmnopqrstuvwxyz")), some (D.ref h.length), some (D.int way), some (D.int size), some (D.str (S l)), x7, x8, x9, x10] = [some (.ref n), some (.int many), some (.str (Str.ofString "abcdefghijklmnopqrstuvwxyz")), some (.ref h.length), x4, x5, x6, x7_1, x8_1, x9_1, x10_1] ∧ h5[h.length]? = some (.lst (ws.map D.str)) ∧ ws.length ≤ many.toNat ∧ Words ws ∧ ws.Nodup ∧ DrewX n (B + 30 * (many.toNat - ws.length)) h h5) ∧ (match h5[h.length]? with
      | some (HD.lst l) => many.toNat - l.length
      | _ => 0) < many.toNat - ws.length := by
      intro l x7 x8 x9 x10 x h5 hx hxn d5 e5
      refine ⟨⟨ws ++ [x], _, _, _, _, _, _, _, rfl, e5, by simp; omega, hws.snoc hx, ?_, by rw [List.length_append]; exact d5⟩, ?_⟩
      · rw [List.nodup_append]
        refine ⟨hnd, by simp, fun a ha b hb e => ?_⟩
        rw [List.mem_singleton.mp hb] at e
        exact hxn (e ▸ ha)
      · simp only [e5, List.length_map, List.length_append, List.length_cons, List.length_nil]
        exact Nat.sub_lt_sub_left (by omega) (by omega)
    have hemp : (!ws.isEmpty) = true → ∃ ws' l', ws = ws' ++ [S l'] ∧ 1 ≤ l'.length ∧ l'.length ≤ 12 ∧ ∀ c ∈ l', small c := by
      intro he
      obtain ⟨ws', x, e⟩ := last_of (l := ws) (by intro e; rw [e] at he; exact nomatch he)
      obtain ⟨l', rfl, q1, q2, q3⟩ := hws x (by rw [e]; simp)
      exact ⟨ws', l', e, q1, q2, q3⟩
    array_get_dec
    refine ⟨fun hw4 => ?_, fun _ => ⟨(fun hc => nomatch hc), fun _ => ?_⟩⟩
    · have hw4 : 4 < way := of_decide_eq_true hw4
      array_get_dec
      refine so_neNil el3 hws.ok ?_
      refine ⟨_, rfl, ?_⟩
      refine ⟨fun he => ?_, fun _ => ?_⟩
      · obtain ⟨ws', l', e, q1, q2, q3⟩ := hemp he
        array_get_dec
        refine so_neg ?_
        have e4' := el3
        rw [e] at e4'
        refine so_ixLast e4' ?_
        array_get_dec
        refine so_lenS (by rw [S_len]; omega) ?_
        array_get_dec
        refine sip (B := B + 30 * (many.toNat - (ws.length + 1)) + 3) (dx3.bow.le (by omega)) (by rw [S_len]; omega) (by rw [S_len]; omega) fun at_ h5 t0 t1 d5 => ?_
        rw [S_len] at t1
        have e5 := d5.at hLn el3
        have e5' := e5
        rw [e] at e5'
        array_get_dec
        refine so_neg ?_
        refine so_ixLast e5' ?_
        array_get_dec
        refine so_slS (by rw [S_len]; omega) ?_
        rw [cut_to t0]
        array_get_dec
        obtain ⟨c, ec, hc, _⟩ := atI_in (l := l0) (i := 0) (by decide) (by omega)
        refine so_ixS (by rw [S_len]; omega) ec ?_
        rw [show (⟨#[c]⟩ : Str) = S [c] from rfl]
        refine so_addS (by rw [S_len, S_len]; simp; omega) ?_
        rw [S_app]
        array_get_dec
        refine so_neg ?_
        refine so_ixLast e5' ?_
        array_get_dec
        refine so_slS (by rw [S_len]; omega) ?_
        rw [cut_from (by omega)]
        refine so_addS (by rw [S_len, S_len]; simp; omega) ?_
        rw [S_app]
        array_get_dec
        refine so_neg ?_
        refine so_ixLast e5' ?_
        array_get_dec
        refine so_addS (by rw [S_len, S_len]; omega) ?_
        rw [S_app]
        array_get_dec
        refine so_slS (by rw [S_len]; simp; omega) ?_
        rw [cut_to (by decide)]
        array_get_dec
        have hlen : (l'.take at_.toNat ++ [c] ++ l'.drop (at_ + 1).toNat).length = l'.length := by
          simp; omega
        refine so_ixP (fun d => ∃ l : List Nat, d = .str (S l) ∧ 1 ≤ l.length ∧ l.length ≤ 12 ∧ ∀ c ∈ l, small c) (by
          refine all_cons ⟨_, rfl, by rw [hlen]; exact q1, by rw [hlen]; exact q2, fun z hz => ?_⟩ (all_cons ⟨_, rfl, by simp; omega, by simp; omega, fun z hz => ?_⟩ all_nil)
          · rcases List.mem_append.mp hz with hz | hz
            · rcases List.mem_append.mp hz with hz | hz
              · exact q3 z (List.mem_of_mem_take hz)
              · rw [List.mem_singleton.mp hz]; exact c0 c hc
            · exact q3 z (List.mem_of_mem_drop hz)
          · rcases List.mem_append.mp (List.mem_of_mem_take hz) with hz | hz
            · exact q3 z hz
            · exact c0 z hz) (by omega) (by simp; omega) ?_
        rintro _ ⟨l, rfl, l1, l2, l3⟩
        exact words_tail (B := B) (by omega) l1 l2 l3 ((dx3.then d5).le (by omega)) e5 (hN l)
      · exact ss_nx (words_tail (B := B) (by omega) a0 b0 c0 (dx3.le (by omega)) el3 (hN l0))
    · exact ss_nx (words_tail (B := B) (by omega) a0 b0 c0 (dx3.le (by omega)) el3 (hN l0))
  · have hc : ¬ (ws.length : Int) < many := of_decide_eq_false hc
    array_get_dec
    refine so_fz el ?_
    have dx3 := dx.put (o := .dead) (k := h.length) (Nat.le_refl _)
    refine ⟨?_, dx3.tr.1, q _ _ (by omega) hws hnd (dx3.tr.2.le (B' := B) (by omega))⟩
    simp only [D.cl]
    exact strs_cl
theorem strs_of : ∀ {ys : List D} {some_ : List Str}, (∀ y ∈ ys, ∃ w, w ∈ some_ ∧ y = .str w) → ∃ ws : List Str, ys = ws.map D.str ∧ ∀ z ∈ ws, z ∈ some_
  | [], _, _ => ⟨[], rfl, fun _ z => nomatch z⟩
  | y :: ys, some_, h => by
    obtain ⟨w, hw, rfl⟩ := h y (by simp)
    obtain ⟨ws, rfl, h2⟩ := strs_of (ys := ys) (some_ := some_) fun z hz => h z (by simp [hz])
    refine ⟨w :: ws, rfl, fun z hz => ?_⟩
    rcases List.mem_cons.mp hz with rfl | hz
    · exact hw
    · exact h2 z hz
def m_is_between_b : SM :=
  (sRet (eAnd (eU (isi "int") (eV 0)) (eAnd (eNot (eU (isi "bool") (eV 0))) (eChain opLe opLe (eV 1) (eV 0) (eV 2)))))
def m_is_between : FM := fn0 3 3 m_is_between_b
def m_is_word_b : SM :=
  (sRet (eAnd (eU (isi "str") (eV 0)) (eAnd (eChain opLe opLe (eC (.int 1)) (eF bLen (aC (eV 0) aN)) (eC (.int 12))) (eF bAll (aC (eLc [1] (gN 1) (wE (eV 0)) tYes (eB opIn (eV 1) (eC (.str (Str.ofString "abcdefghijklmnopqrstuvwxyz"))))) aN)))))
def m_is_word : FM := fn0 1 2 m_is_word_b
def m_word_at_r_b : SM :=
  (sSeq (sAsg (gN 2) (eB opSub (eV 1) (eB opIx (eV 0) (eC (.int 1)))))
  (sSeq (sIf (tNot (tE (eChain opLe opLt (eC (.int 0)) (eV 2) (eF bLen (aC (eB opIx (eV 0) (eC (.int 2))) aN))))) (sRs1 "NoWord" "number" (eV 1)) sNx)
  (sRet (eB opIx (eB opIx (eV 0) (eC (.int 2))) (eV 2)))))
def m_word_at_r : FM := fn 2 3 m_word_at_r_b
def m_word_of_b : SM :=
  (sSeq (sIf (tE (eB opEq (eB opIx (eV 2) (eC (.int 0))) (eC (.str (Str.ofString "word"))))) (sRet (eB opIx (eV 2) (eC (.int 1)))) sNx)
  (sRet (eF m_word_at_r (aC (eV 0) (aC (eB opSub (eV 1) (eB opIx (eV 2) (eC (.int 1)))) aN)))))
def m_word_of : FM := fn 3 3 m_word_of_b
def m_read_b : SM :=
  (sSeq (sIf (tE (eB opGt (eB opIx (eV 1) (eC (.int 0))) (eF m_next_number (aC (eV 0) aN)))) (sRs1 "Wait" "need" (eB opIx (eV 1) (eC (.int 0)))) sNx)
  (sRet (eLcX [2] (gN 2) (wE (eB opIx (eV 1) (eC (.int 1)))) tYes (eF m_word_of (aC (eV 0) (aC (eB opIx (eV 1) (eC (.int 0))) (aC (eV 2) aN)))))))
def m_read : FM := fn 2 3 m_read_b
def m_law_names_b : SM :=
  (sSeq (sAsg (gN 3) (eNew aN))
  (sSeq (sFor (gN 4) (wR1 (eB opAdd (eC (.int 1)) (eF m_law_sip (aC (eV 0) (aC (eC (.int 8)) aN))))) (sSeq (sAsg (gN 5) (eF m_law_sip (aC (eV 0) (aC (eC (.int 3)) aN))))
  (sSeq (sAsg (gN 6) (eF m_law_sip (aC (eV 0) (aC (eF bMax (aC (eC (.int 1)) (aC (eF bLen (aC (eB opIx (eV 1) (eC (.int 2))) aN)) aN))) aN))))
  (sSeq (sAsg (gN 7) (eB opIx (eV 2) (eF m_law_sip (aC (eV 0) (aC (eF bLen (aC (eV 2) aN)) aN)))))
  (sIf (tAnd (tE (eB opGt (eV 5) (eC (.int 0)))) (tE (eB opNe (eB opIx (eV 1) (eC (.int 2))) (eTup aN)))) (sExpr (eM "list" mAppend (eV 3) (aC (eB opAdd (eB opIx (eV 1) (eC (.int 1))) (eV 6)) aN))) (sExpr (eM "list" mAppend (eV 3) (aC (eV 7) aN))))))))
  (sRet (eU fz (eV 3)))))
def m_law_names : FM := tr (fn0 3 8 m_law_names_b)
abbrev NoWordX (k : Int) : D := .exn "NoWord" [("number", .int k)]
abbrev WaitX (k : Int) : D := .exn "Wait" [("need", .int k)]
theorem word_at_r {X : D → Hm → Prop} {room first : Int} {ws : List Str} {k : Int} {h : Hm} {Q : D → Hm → Prop} (q1 : ∀ w, first ≤ k → ws[(k - first).toNat]? = some w → Q (.str w) h) (q2 : ¬ (first ≤ k ∧ k < first + ws.length) → X (NoWordX k) h) : SatX X (m_word_at_r [bookD room first ws, .int k] h) Q := by
  refine sa_fnX rfl ?_
  unfold m_word_at_r_b bookD
  simp only [List.map_cons, List.map_nil, List.replicate, Nat.reduceSub, List.cons_append, List.nil_append]
  array_get_dec
  refine ⟨fun hc => ?_, fun hc => ?_⟩
  · have hc : 0 ≤ k - first := of_decide_eq_true hc
    array_get_dec
    rw [List.length_map]
    refine ⟨fun hc2 => ?_, fun hc2 => ?_⟩
    · have hc2 : (!decide (k - first < (ws.length : Int))) = true := hc2
      simp at hc2
      refine ss_rs1 (sa_V1 ?_)
      exact q2 (by omega)
    · have hc2 : (!decide (k - first < (ws.length : Int))) = false := hc2
      simp at hc2
      have hlt : (k - first).toNat < ws.length := by omega
      have e : ws[(k - first).toNat]? = some ws[(k - first).toNat] := List.getElem?_eq_getElem hlt
      generalize ws[(k - first).toNat] = w at e
      array_get_dec
      refine so_ixT (d := .str w) ?_ (q1 w (by omega) e)
      have := atI_nat (l := ws.map D.str) (i := (k - first).toNat) (x := .str w) (by rw [List.getElem?_map, e]; rfl)
      rw [show (((k - first).toNat : Nat) : Int) = k - first by omega] at this
      exact this
  · have hc : ¬ 0 ≤ k - first := of_decide_eq_false hc
    array_get_dec
    refine ⟨fun _ => ?_, fun hc => nomatch hc⟩
    refine ss_rs1 (sa_V1 ?_)
    exact q2 (by omega)
theorem abc_list : (Str.ofString "abcdefghijklmnopqrstuvwxyz").cps.toList = List.range' 97 26 := by decide +kernel
theorem so_inSign {c : Nat} {z : Str} {X : D → Hm → Prop} {h : Hm} {Q : D → Hm → Prop} (q : Q (.bl (decide (c ∈ z.cps.toList))) h) : SatX X (opIn (.str ⟨#[c]⟩) (.str z) h) Q := by
  refine ⟨?_⟩
  show Q (.bl (false ^^ decide (c ∈ z.cps.toList))) h
  rw [Bool.false_xor]; exact q
/-- items of a letter that needs r words -/
inductive IsIt (r : Int) : D → Prop
  | word (w : Str) (h : IsW w) : IsIt r (.tup [.str (Str.ofString "word"), .str w])
  | by_ (n : Int) (h0 : 1 ≤ n) (h1 : n ≤ r) : IsIt r (.tup [.str (Str.ofString "by"), .int n])
def need1 (a : Int) : D → Int
  | .int k => max a (k + 1)
  | _ => a
def needOf (ns : List D) : Int := ns.foldl need1 0
def itemF (need : Int) : D → D
  | .int k => .tup [.str (Str.ofString "by"), .int (need - k)]
  | d => .tup [.str (Str.ofString "word"), d]
/-- names: words and numbers -/
def IsN (d : D) : Prop := (∃ w, d = .str w) ∨ ∃ k, d = .int k
def okN1 (first : Int) (n : Nat) : D → Bool
  | .int k => decide (first ≤ k ∧ k < first + n)
  | _ => true
theorem need_ge : ∀ (ns : List D) (a : Int), a ≤ ns.foldl need1 a ∧ ∀ k, .int k ∈ ns → k + 1 ≤ ns.foldl need1 a
  | [], a => ⟨Int.le_refl _, fun _ h => nomatch h⟩
  | d :: r, a => by
    obtain ⟨h1, h2⟩ := need_ge r (need1 a d)
    rw [List.foldl_cons]
    have h3 : a ≤ need1 a d := by cases d <;> simp only [need1] <;> omega
    refine ⟨by omega, fun k hk => ?_⟩
    rcases List.mem_cons.mp hk with rfl | hk
    · simp only [need1] at h1 ⊢; omega
    · exact h2 k hk
theorem need_le {b : Int} : ∀ (ns : List D) (a : Int), a ≤ b → (∀ k, .int k ∈ ns → k + 1 ≤ b) → ns.foldl need1 a ≤ b
  | [], a, h, _ => h
  | d :: r, a, h, hk => by
    rw [List.foldl_cons]
    refine need_le r _ ?_ fun k h => hk k (by simp [h])
    cases d <;> simp only [need1] <;> try exact h
    have := hk _ (List.mem_cons_self ..)
    omega
/-- names drawn of a book: words of a list, numbers of the book's words -/
def IsName (first : Int) (n : Nat) (d : D) : Prop := (∃ w, IsW w ∧ d = .str w) ∨ ∃ k : Int, first ≤ k ∧ k < first + n ∧ d = .int k
theorem IsName.n {first : Int} {n : Nat} {d : D} (h : IsName first n d) : IsN d := by
  rcases h with ⟨w, _, rfl⟩ | ⟨k, _, _, rfl⟩
  · exact .inl ⟨_, rfl⟩
  · exact .inr ⟨_, rfl⟩
theorem IsName.ok {first : Int} {n : Nat} {d : D} (h : IsName first n d) : okN1 first n d = true := by
  rcases h with ⟨w, _, rfl⟩ | ⟨k, h1, h2, rfl⟩
  · rfl
  · exact decide_eq_true ⟨h1, h2⟩
theorem IsName.cl {first : Int} {n N : Nat} {d : D} (h : IsName first n d) : D.cl N d = true := by
  rcases h with ⟨w, _, rfl⟩ | ⟨k, h1, h2, rfl⟩ <;> rfl
theorem need_bounds {first : Int} {n : Nat} {ns : List D} (h0 : 0 ≤ first) (h : ∀ d ∈ ns, IsName first n d) : 0 ≤ needOf ns ∧ needOf ns ≤ first + n ∧ ∀ k, .int k ∈ ns → k + 1 ≤ needOf ns := by
  obtain ⟨h1, h2⟩ := need_ge ns 0
  refine ⟨h1, need_le ns 0 (by omega) fun k hk => ?_, h2⟩
  rcases h _ hk with ⟨w, _, e⟩ | ⟨k', a, b, e⟩
  · exact nomatch e
  · injection e with e; omega
theorem items_ok {first : Int} {n : Nat} {ns : List D} (h0 : 0 ≤ first) (h : ∀ d ∈ ns, IsName first n d) : ∀ x ∈ ns.map (itemF (needOf ns)), IsIt (needOf ns) x := by
  intro x hx
  obtain ⟨d, hd, rfl⟩ := List.mem_map.mp hx
  obtain ⟨h1, h2, h3⟩ := need_bounds h0 h
  rcases h d hd with ⟨w, hw, rfl⟩ | ⟨k, a, b, rfl⟩
  · exact .word w hw
  · have := h3 k hd
    exact .by_ _ (by omega) (by omega)
theorem names_step {n B : Nat} {some_ ws : List Str} {room first : Int} {l : Nat} {ns : List D} {x4 x5 x6 x7 : Option D} {h' : Hm} {N : Ev → Hm → Prop} {T : D → Hm → Prop} {Bk G : Ev → Hm → Prop} (hsome : Words some_) (hpos : 1 ≤ some_.length) (hlen : some_.length ≤ 1000) (hws : Words ws) (hwl : ws.length ≤ 1000) (hln : l ≠ n) (el : h'[l]? = some (.lst ns)) (hnl : ns.length ≤ 1000) (w : Bow n (B + 10) h')
    (q : ∀ d h2 x4 x5 x6 x7, IsName first ws.length d → Drew n B h' h2 → N [some (.ref n), some (bookD room first ws), some (.lst (some_.map D.str)), some (.ref l), x4, x5, x6, x7] (h2.set l (.lst (ns ++ [d])))) :
    SatS ((sSeq (sAsg (gN 5) (eF m_law_sip (aC (eV 0) (aC (eC (.int 3)) aN))))
  (sSeq (sAsg (gN 6) (eF m_law_sip (aC (eV 0) (aC (eF bMax (aC (eC (.int 1)) (aC (eF bLen (aC (eB opIx (eV 1) (eC (.int 2))) aN)) aN))) aN))))
  (sSeq (sAsg (gN 7) (eB opIx (eV 2) (eF m_law_sip (aC (eV 0) (aC (eF bLen (aC (eV 2) aN)) aN)))))
  (sIf (tAnd (tE (eB opGt (eV 5) (eC (.int 0)))) (tE (eB opNe (eB opIx (eV 1) (eC (.int 2))) (eTup aN)))) (sExpr (eM "list" mAppend (eV 3) (aC (eB opAdd (eB opIx (eV 1) (eC (.int 1))) (eV 6)) aN))) (sExpr (eM "list" mAppend (eV 3) (aC (eV 7) aN)))))))
      [some (.ref n), some (bookD room first ws), some (.lst (some_.map D.str)), some (.ref l), x4, x5, x6, x7] h') N T Bk G := by
  array_get_dec
  refine sip (B := B + 9) w (by decide) (by decide) fun way h1 a1 a2 d1 => ?_
  array_get_dec
  refine so_bk2 ?_
  array_get_dec
  rw [List.length_map]
  refine sip (B := B + 8) d1.bow (by omega) (by omega) fun at_ h2 b1 b2 d2 => ?_
  array_get_dec
  rw [List.length_map]
  refine sip (B := B) (d2.bow.le (by omega)) (by omega) (by omega) fun p h3 c1 c2 d3 => ?_
  refine so_someWord c1 c2 fun z hz => ?_
  have dd := (d1.trans d2).trans d3
  have e3 := dd.at hln el
  array_get_dec
  have other : ∀ (T : D → Hm → Prop) (Bk G : Ev → Hm → Prop), SatS ((sExpr (eM "list" mAppend (eV 3) (aC (eV 7) aN))) [some (.ref n), some (bookD room first ws), some (.lst (some_.map D.str)), some (.ref l), x4, some (.int way), some (.int at_), some (.str z)] h3) N T Bk G := by
    intro T Bk G
    array_get_dec
    refine ⟨rcR e3, ?_⟩
    array_get_dec
    refine so_append e3 (by omega) ?_
    exact q _ h3 _ _ _ _ (.inl ⟨z, hsome z hz, rfl⟩) dd
  refine ⟨fun _ => ?_, fun _ => ⟨(fun hc => nomatch hc), fun _ => other _ _ _⟩⟩
  array_get_dec
  refine so_bk2 ?_
  array_get_dec
  refine so_neTup0 (okL_strsN hws.ok) ?_
  refine ⟨_, rfl, ?_⟩
  refine ⟨fun hc => ?_, fun _ => other _ _ _⟩
  have hp : 1 ≤ ws.length := by
    cases ws with
    | nil => exact nomatch hc
    | cons a r => simp
  array_get_dec
  refine ⟨rcR e3, ?_⟩
  array_get_dec
  refine so_bk1 ?_
  array_get_dec
  refine so_append e3 (by omega) ?_
  exact q _ h3 _ _ _ _ (.inr ⟨_, by omega, by omega, rfl⟩) dd
theorem names {n B : Nat} {some_ ws : List Str} {room first : Int} {h : Hm} {Q : D → Hm → Prop} (hsome : Words some_) (hpos : 1 ≤ some_.length) (hlen : some_.length ≤ 1000) (hws : Words ws) (hwl : ws.length ≤ 1000) (w : Bow n (B + 200) h)
    (q : ∀ (ns : List D) (h' : Hm), 1 ≤ ns.length → ns.length ≤ 8 → (∀ d ∈ ns, IsName first ws.length d) → Drew n B h h' → Q (.lst ns) h') : Sat (m_law_names [.ref n, bookD room first ws, .lst (some_.map D.str)] h) Q := by
  refine sa_tr (sa_fn rfl ?_)
  unfold m_law_names_b
  simp only [List.map_cons, List.map_nil, List.replicate, Nat.reduceSub, List.cons_append, List.nil_append]
  array_get_dec
  have d0 : DrewX n (B + 200) h (h ++ [.lst []]) := (Drew.refl w).x.push
  have ee : (h ++ [HD.lst []])[h.length]? = some (.lst []) := by simp
  have hLn : h.length ≠ n := by have := d0.lt; omega
  generalize h ++ [HD.lst []] = h6 at d0 ee
  refine ss_forW ?_
  array_get_dec
  refine sip (B := B + 190) (d0.bow.le (by omega)) (by decide) (by decide) fun many h7 a1 a2 d7 => ?_
  array_get_dec
  refine ⟨by omega, by omega, ?_⟩
  refine ss_forN (1 + many).toNat (fun i v h' => ∃ (ns : List D) (x4 x5 x6 x7 : Option D), v = [some (.ref n), some (bookD room first ws), some (.lst (some_.map D.str)), some (.ref h.length), x4, x5, x6, x7] ∧ h'[h.length]? = some (.lst ns) ∧ ns.length = i ∧ (∀ d ∈ ns, IsName first ws.length d) ∧ DrewX n (B + 190 - 10 * i) h h') ⟨[], _, _, _, _, rfl, d7.at hLn ee, rfl, (fun _ z => nomatch z), (d0.then d7).le (by omega)⟩ ?_ ?_
  · rintro i v h' hi ⟨ns, x4, x5, x6, x7, rfl, el, hl, hns, dx⟩
    simp only [List.set_cons_zero, List.set_cons_succ]
    refine names_step (B := B + 190 - 10 * (i + 1)) hsome hpos hlen hws hwl hLn el (by omega) (dx.bow.le (by omega)) ?_
    intro d h2 y4 y5 y6 y7 hd d2
    refine ⟨ns ++ [d], _, _, _, _, rfl, ?_, by simp [hl], fun z hz => ?_, (dx.then d2).put (Nat.le_refl _)⟩
    · rw [List.getElem?_set_self (List.getElem?_eq_some_iff.mp (d2.at hLn el)).1]
    · rcases List.mem_append.mp hz with hz | hz
      · exact hns z hz
      · rw [List.mem_singleton.mp hz]; exact hd
  · rintro v h' ⟨ns, x4, x5, x6, x7, rfl, el, hl, hns, dx⟩
    array_get_dec
    refine so_fz el ?_
    have dx3 := dx.put (o := .dead) (k := h.length) (Nat.le_refl _)
    refine ⟨?_, dx3.tr.1, q ns _ (by omega) (by omega) hns (dx3.tr.2.le (B' := B) (by omega))⟩
    simp only [D.cl]
    exact clL_all fun x hx => (hns x hx).cl
def rd1 (first : Int) (ws : List Str) (need : Int) : D → Except Int D
  | .tup [_, .int n] => match ws[(need - n - first).toNat]? with
    | some w => if first ≤ need - n then .ok (.str w) else .error (need - n)
    | none => .error (need - n)
  | .tup [_, x] => .ok x
  | _ => .ok .non
def rd (first : Int) (ws : List Str) (need : Int) : List D → Except Int (List D)
  | [] => .ok []
  | x :: r => match rd1 first ws need x with
    | .error k => .error k
    | .ok y => match rd first ws need r with
      | .error k => .error k
      | .ok ys => .ok (y :: ys)
theorem rd_app {first : Int} {ws : List Str} {need : Int} : ∀ (a b : List D), rd first ws need (a ++ b) = match rd first ws need a with
    | .error k => .error k
    | .ok ys => match rd first ws need b with
      | .error k => .error k
      | .ok zs => .ok (ys ++ zs)
  | [], b => by
    simp only [List.nil_append, rd]
    cases rd first ws need b <;> rfl
  | x :: r, b => by
    have ih := rd_app (first := first) (ws := ws) (need := need) r b
    simp only [List.cons_append, rd, ih]
    cases rd1 first ws need x with
    | error k => rfl
    | ok y =>
      simp only
      cases rd first ws need r with
      | error k => rfl
      | ok ys =>
        simp only
        cases rd first ws need b <;> rfl
theorem rd_snoc {first : Int} {ws : List Str} {need : Int} {l : List D} {ys : List D} {i : Nat} {x : D} (e : rd first ws need (l.take i) = .ok ys) (hx : l[i]? = some x) : (∀ y, rd1 first ws need x = .ok y → rd first ws need (l.take (i + 1)) = .ok (ys ++ [y])) ∧ ∀ k, rd1 first ws need x = .error k → rd first ws need l = .error k := by
  have et : l.take (i + 1) = l.take i ++ [x] := by rw [List.take_add_one, hx]; rfl
  refine ⟨fun y h => ?_, fun k h => ?_⟩
  · rw [et, rd_app, e]
    simp only [rd, h]
  · have hlt := (List.getElem?_eq_some_iff.mp hx)
    obtain ⟨hlt, hx⟩ := hlt
    rw [← List.take_append_drop i l, rd_app, e, List.drop_eq_getElem_cons hlt, hx]
    simp only [rd, h]
theorem word_of {X : D → Hm → Prop} {room first need r : Int} {ws : List Str} {d : D} {h : Hm} {Q : D → Hm → Prop} (hd : IsIt r d) (q1 : ∀ y, rd1 first ws need d = .ok y → Q y h) (q2 : ∀ k, rd1 first ws need d = .error k → X (NoWordX k) h) : SatX X (m_word_of [bookD room first ws, .int need, d] h) Q := by
  refine sa_fnX rfl ?_
  unfold m_word_of_b
  simp only [List.map_cons, List.map_nil, List.replicate, Nat.reduceSub, List.cons_append, List.nil_append]
  cases hd with
  | word w hw =>
    array_get_dec
    rw [ne_word.1]
    refine ⟨fun _ => ?_, fun hc => nomatch hc⟩
    array_get_dec
    exact q1 _ rfl
  | by_ n h0 h1 =>
    array_get_dec
    rw [ne_word.2]
    refine ⟨(fun hc => nomatch hc), fun _ => ?_⟩
    array_get_dec
    refine word_at_r (fun w h1 e => ?_) (fun hb => ?_)
    · refine q1 _ ?_
      simp only [rd1, e]
      rw [if_pos h1]
    · refine q2 _ ?_
      simp only [rd1]
      split
      · rename_i w e
        have := (List.getElem?_eq_some_iff.mp e).1
        rw [if_neg (by omega)]
      · rfl
theorem read {X : D → Hm → Prop} {room first need r : Int} {ws : List Str} {l : List D} {h : Hm} {Q : D → Hm → Prop} (hl : l.length ≤ 1000) (hi : ∀ x ∈ l, IsIt r x) (q1 : need ≤ first + ws.length → ∀ ys, rd first ws need l = .ok ys → Q (.lst ys) h) (q2 : need ≤ first + ws.length → ∀ k, rd first ws need l = .error k → X (NoWordX k) h) (q3 : first + ws.length < need → X (WaitX need) h) : SatX X (m_read [bookD room first ws, .tup [.int need, .tup l]] h) Q := by
  refine sa_fnX rfl ?_
  unfold m_read_b
  simp only [List.map_cons, List.map_nil, List.replicate, Nat.reduceSub, List.cons_append, List.nil_append]
  array_get_dec
  refine SatX.w (next_number ?_)
  array_get_dec
  refine ⟨fun hc => ?_, fun hc => ?_⟩
  · refine ss_rs1 ?_
    array_get_dec
    exact q3 (of_decide_eq_true hc)
  · have hc : ¬ first + (ws.length : Int) < need := of_decide_eq_false hc
    array_get_dec
    refine sa_LcX ?_
    array_get_dec
    refine so_wkT ?_
    refine ⟨by show l.length ≤ 16777215; omega, fun i acc h' => rd first ws need (l.take i) = .ok acc ∧ h' = h, ⟨rfl, rfl⟩, ?_, ?_⟩
    · rintro i x acc h' hx ⟨e, rfl⟩
      have hx : l[i]? = some x := hx
      obtain ⟨s1, s2⟩ := rd_snoc e hx
      refine ⟨rfl, _, rfl, ?_⟩
      simp only [wipeE, List.foldr, List.set_cons_zero, List.set_cons_succ]
      array_get_dec
      refine ⟨fun _ => ?_, fun z => nomatch z⟩
      array_get_dec
      refine word_of (hi x (List.mem_of_getElem? hx)) (fun y hy => ⟨s1 y hy, rfl⟩) fun k hk => q2 (by omega) k (s2 k hk)
    · rintro acc h' ⟨e, rfl⟩
      have e : rd first ws need (l.take l.length) = .ok acc := e
      rw [List.take_length] at e
      exact ⟨rfl, q1 (by omega) acc e⟩
def gD : Option Nat → D
  | none => .non
  | some n => .int n
structure St where
  room : Int
  first : Int
  ws : List Str
def St.bk (s : St) : D := bookD s.room s.first s.ws
def nextS (s : St) (r' : Int) (ws' : List Str) : St := ⟨r', s.first + ((ws'.length - (stay r' ws').length : Nat) : Int), stay r' ws'⟩
theorem nextS_bk (s : St) (r' : Int) (ws' : List Str) : (nextS s r' ws').bk = bookS r' s.first ws' := rfl
structure RunOf (ds : List D) (st : Nat → St) : Prop where
  step : ∀ i d, ds[i]? = some d → ∃ r' ws', Can (st i).room (st i).ws d r' ws' ∧ st (i + 1) = nextS (st i) r' ws'
  ok : ∀ i, i ≤ ds.length → 0 ≤ (st i).room ∧ (st i).room ≤ 200 ∧ Words (st i).ws ∧ sumW (st i).ws ≤ (st i).room
theorem can_ws {room : Int} {ws : List Str} {d : D} {r' : Int} {ws' : List Str} (c : Can room ws d r' ws') : ws' = ws ∨ ∃ w, ws' = ws ++ [w] ∧ wt w ≤ r' := by
  cases c with
  | put w h hr => exact .inr ⟨w, rfl, hr⟩
  | again n w h0 h1 e hr => exact .inr ⟨w, rfl, hr⟩
  | room n h0 h1 => exact .inl rfl
theorem wt_le_sum : ∀ {ws : List Str} {w : Str}, w ∈ ws → wt w ≤ sumW ws
  | a :: r, w, h => by
    have := wt_pos a
    have := sumW_ge r
    simp only [sumW]
    rcases List.mem_cons.mp h with rfl | h
    · omega
    · have := wt_le_sum h
      omega
def OkS (s : St) : Prop := 0 ≤ s.room ∧ s.room ≤ 200 ∧ Words s.ws ∧ sumW s.ws ≤ s.room
theorem next_ok {s : St} {d : D} {r' : Int} {ws' : List Str} (ok : OkS s) (c : Can s.room s.ws d r' ws') : OkS (nextS s r' ws') := by
  obtain ⟨o1, o2, o3, o4⟩ := ok
  have key : 0 ≤ r' ∧ r' ≤ 200 ∧ Words ws' := by
    cases c with
    | put w h hr => exact ⟨o1, o2, o3.snoc h⟩
    | again n w h0 h1 e hr => exact ⟨o1, o2, o3.snoc (o3 w (List.mem_of_getElem? e))⟩
    | room n h0 h1 => exact ⟨h0, h1, o3⟩
  exact ⟨key.1, key.2.1, fun z hz => key.2.2 z (fit_sub hz), stay_ok key.1 ws'⟩
theorem can_cl {room : Int} {ws : List Str} {d : D} {r' : Int} {ws' : List Str} {N : Nat} (c : Can room ws d r' ws') : D.cl N d = true := by cases c <;> rfl
def pB (c : Nat) : D → Bool
  | .tup [_, _, .int b, _] => decide (b ≤ c)
  | _ => false
def m_put_in_r_b : SM :=
  (sSeq (sAsg (gT [3, 4, 5]) (eV 0))
  (sSeq (sIf (tE (eB opGt (eF m_weight (aC (eV 1) aN)) (eV 3))) (sRs0 "NoRoom") sNx)
  (sSeq (sAsg (gN 2) (eF m_left_in (aC (eB opSub (eV 3) (eF m_weight (aC (eV 1) aN))) (aC (eV 4) (aC (eV 5) aN)))))
  (sRet (eTup (aC (eV 3) (aC (eB opIx (eV 2) (eC (.int 1))) (aC (eB opAdd (eB opIx (eV 2) (eC (.int 2))) (eTup (aC (eV 1) aN))) aN))))))))
def m_put_in_r : FM := fn 2 6 m_put_in_r_b
def m_done_r_b : SM :=
  (sSeq (sIf (tE (eB opEq (eB opIx (eV 1) (eC (.int 0))) (eC (.str (Str.ofString "put"))))) (sRet (eF m_put_in_r (aC (eV 0) (aC (eB opIx (eV 1) (eC (.int 1))) aN)))) sNx)
  (sSeq (sIf (tE (eB opEq (eB opIx (eV 1) (eC (.int 0))) (eC (.str (Str.ofString "again"))))) (sRet (eF m_put_in_r (aC (eV 0) (aC (eF m_word_at_r (aC (eV 0) (aC (eB opSub (eF m_next_number (aC (eV 0) aN)) (eB opIx (eV 1) (eC (.int 1)))) aN))) aN)))) sNx)
  (sRet (eF m_left_in (aC (eB opIx (eV 1) (eC (.int 1))) (aC (eB opIx (eV 0) (eC (.int 1))) (aC (eB opIx (eV 0) (eC (.int 2))) aN)))))))
def m_done_r : FM := fn 2 2 m_done_r_b
abbrev NoRoomX : D := .exn "NoRoom" []
theorem put_in_r {X : D → Hm → Prop} {room first : Int} {ws : List Str} {w : Str} {h : Hm} {Q : D → Hm → Prop} (h0 : 0 ≤ room) (hs : Short ws) (hl : ws.length ≤ 100000) (hw : w.length ≤ 1000) (q1 : wt w ≤ room → Q (bookS room first (ws ++ [w])) h) (q2 : room < wt w → X NoRoomX h) : SatX X (m_put_in_r [bookD room first ws, .str w] h) Q := by
  refine sa_fnX rfl ?_
  unfold m_put_in_r_b bookD
  simp only [List.map_cons, List.map_nil, List.replicate, Nat.reduceSub, List.cons_append, List.nil_append]
  with_reducible refine ss_seq ?_
  refine ss_asgT (sa_V0 ⟨_, _, rfl, rfl, ?_⟩)
  simp only [List.set_cons_zero, List.set_cons_succ]
  array_get_dec
  refine SatX.w (weight hw ?_)
  array_get_dec
  refine ⟨fun hc => ?_, fun hc => ?_⟩
  · have hc := of_decide_eq_true hc
    exact ss_rs0 (q2 hc)
  have hr : wt w ≤ room := by
    have := of_decide_eq_false hc
    omega
  have q := q1 hr
  array_get_dec
  refine SatX.w (weight hw ?_)
  array_get_dec
  refine SatX.w (left_in (by omega) hs hl ?_)
  unfold bookD
  array_get_dec
  refine so_addT (by simp; have := fit_len (room := room - wt w) (x := 0) (k := ws); unfold stay; omega) ?_
  array_get_dec
  have e := stay_put hr ws
  have el : (stay room (ws ++ [w])).length = (stay (room - wt w) ws).length + 1 := by rw [← e]; simp
  unfold bookS bookD at q
  rw [← e] at q
  rw [show ((ws ++ [w]).length - (stay (room - wt w) ws ++ [w]).length) = ws.length - (stay (room - wt w) ws).length by simp] at q
  rw [List.map_append] at q
  exact q
theorem done_r {X : D → Hm → Prop} {room first r' : Int} {ws ws' : List Str} {d : D} {h : Hm} {Q : D → Hm → Prop} (c : Can room ws d r' ws') (h0 : 0 ≤ room) (hs : Short ws) (hl : ws.length ≤ 100000) (q : Q (bookS r' first ws') h) : SatX X (m_done_r [bookD room first ws, d] h) Q := by
  refine sa_fnX rfl ?_
  unfold m_done_r_b
  simp only [List.map_cons, List.map_nil, List.replicate, Nat.reduceSub, List.cons_append, List.nil_append]
  cases c with
  | put w hw hr =>
    array_get_dec
    refine ⟨fun _ => ?_, fun hc => by simp [ne_put] at hc⟩
    array_get_dec
    have := hw.len
    exact put_in_r h0 hs hl (by omega) (fun _ => q) (fun h => by omega)
  | again n w h1 h2 e hr =>
    array_get_dec
    refine ⟨fun hc => by simp [ne_put] at hc, fun _ => ?_⟩
    array_get_dec
    refine ⟨fun _ => ?_, fun hc => by simp [ne_put] at hc⟩
    array_get_dec
    refine SatX.w (next_number ?_)
    array_get_dec
    refine word_at_r (fun w' hf e' => ?_) (fun hb => by omega)
    rw [show first + (ws.length : Int) - n - first = (ws.length : Int) - n by omega, e] at e'
    injection e' with e'
    subst e'
    array_get_dec
    exact put_in_r h0 hs hl (hs w (List.mem_of_getElem? e)) (fun _ => q) (fun h => by omega)
  | room n h1 h2 =>
    array_get_dec
    refine ⟨fun hc => by simp [ne_put] at hc, fun _ => ?_⟩
    array_get_dec
    refine ⟨fun hc => by simp [ne_put] at hc, fun _ => ?_⟩
    unfold bookD
    array_get_dec
    exact SatX.w (left_in h1 hs hl q)
/-- deeds refused -/
theorem done_heavy {X : D → Hm → Prop} {room first : Int} {ws : List Str} {w : Str} {h : Hm} {Q : D → Hm → Prop} (h0 : 0 ≤ room) (hs : Short ws) (hl : ws.length ≤ 100000) (hw : w.length ≤ 1000) (hr : room < wt w) (q : X NoRoomX h) : SatX X (m_done_r [bookD room first ws, .tup [.str (Str.ofString "put"), .str w]] h) Q := by
  refine sa_fnX rfl ?_
  unfold m_done_r_b
  simp only [List.map_cons, List.map_nil, List.replicate, Nat.reduceSub, List.cons_append, List.nil_append]
  array_get_dec
  refine ⟨fun _ => ?_, fun hc => by simp [ne_put] at hc⟩
  array_get_dec
  exact put_in_r h0 hs hl hw (fun h => by omega) (fun _ => q)
theorem done_far {X : D → Hm → Prop} {room first n : Int} {ws : List Str} {h : Hm} {Q : D → Hm → Prop} (hn : (ws.length : Int) < n) (q : X (NoWordX (first + ws.length - n)) h) : SatX X (m_done_r [bookD room first ws, .tup [.str (Str.ofString "again"), .int n]] h) Q := by
  refine sa_fnX rfl ?_
  unfold m_done_r_b
  simp only [List.map_cons, List.map_nil, List.replicate, Nat.reduceSub, List.cons_append, List.nil_append]
  array_get_dec
  refine ⟨fun hc => by simp [ne_put] at hc, fun _ => ?_⟩
  array_get_dec
  refine ⟨fun _ => ?_, fun hc => by simp [ne_put] at hc⟩
  array_get_dec
  refine SatX.w (next_number ?_)
  array_get_dec
  exact word_at_r (fun w hf e => by
    have := (List.getElem?_eq_some_iff.mp e).1
    omega) (fun _ => q)
/-- sorted(set(ws)) -/
def ssT (ws : List Str) : List Str := srtT (ddT ws)
theorem ssT_mem {ws : List Str} {k : Str} : k ∈ ssT ws ↔ k ∈ ws := (srtT_perm _).mem_iff.trans ddT_mem
theorem ssT_nodup (ws : List Str) : (ssT ws).Nodup := (srtT_perm _).nodup_iff.mpr (ddT_nodup ws)
theorem ssT_len (ws : List Str) : (ssT ws).length ≤ ws.length := by
  rw [ssT, (srtT_perm _).length_eq]
  exact ddT_len ws
section
variable {X : D → Hm → Prop} {h : Hm}
theorem so_sset {ws : List Str} {Q : D → Hm → Prop} (hl : ws.length ≤ 4000) (q : Q (.lst ((ssT ws).map D.str)) h) : SatX X (bSSet [.lst (ws.map D.str)] h) Q := by
  unfold bSSet
  simp only [lsOf, strsOf_map, if_pos (show ws.length < 4095 by omega)]
  exact ⟨q⟩
end
def figB (l : List Nat) : Bool := l.all fun c => decide (48 ≤ c) && decide (c ≤ 57)
def numB (l : List Nat) : Bool := decide (1 ≤ l.length) && decide (l.length ≤ 5) && !(decide (l.head? = some 48) && decide (1 < l.length)) && figB l
/-- a text's number between lo and hi -/
def numT (l : List Nat) (lo hi : Int) : Option Int := if numB l = true ∧ lo ≤ (NumText.digitsVal l : Int) ∧ (NumText.digitsVal l : Int) ≤ hi then some (NumText.digitsVal l : Int) else none
def smB (l : List Nat) : Bool := decide (1 ≤ l.length) && decide (l.length ≤ 12) && l.all fun c => decide (97 ≤ c) && decide (c ≤ 122)
theorem smB_iff {l : List Nat} : smB l = true ↔ IsW (S l) := by
  constructor
  · intro h
    simp only [smB, Bool.and_eq_true, decide_eq_true_eq, List.all_eq_true] at h
    exact .mk' h.1.1 h.1.2 fun c hc => h.2 c hc
  · rintro ⟨l', e, h1, h2, h3⟩
    have : l = l' := by
      have := congrArg (fun s : Str => s.cps.toList) e
      simpa [S] using this
    subst this
    simp only [smB, Bool.and_eq_true, decide_eq_true_eq, List.all_eq_true]
    exact ⟨⟨h1, h2⟩, fun c hc => h3 c hc⟩
/-- a deed's text, read -/
def deedT : List Nat → Option D
  | [] => none
  | c :: r => if c = 43 then (if smB r = true then some (.tup [.str (Str.ofString "put"), .str (S r)]) else none)
    else if c = 42 then (numT r 1 999).map fun n => .tup [.str (Str.ofString "again"), .int n]
    else if c = 61 then (numT r 0 200).map fun n => .tup [.str (Str.ofString "room"), .int n] else none
theorem mem_abc (c : Nat) : decide (c ∈ (Str.ofString "abcdefghijklmnopqrstuvwxyz").cps.toList) = (decide (97 ≤ c) && decide (c ≤ 122)) := by
  rw [abc_list]
  have : (c ∈ List.range' 97 26) ↔ (97 ≤ c ∧ c ≤ 122) := by
    rw [List.mem_range'_1]; omega
  rw [← Bool.decide_and]
  exact decide_eq_decide.mpr this
section
variable {X : D → Hm → Prop} {h : Hm} {Q : D → Hm → Prop}
theorem so_allB {l : List Nat} {p : Nat → Bool} (q : Q (.bl (l.all p)) h) : SatX X (bAll [.lst (l.map fun c => D.bl (p c))] h) Q := by
  rw [show (l.map fun c => D.bl (p c)) = (l.map p).map D.bl by rw [List.map_map]; rfl]
  refine so_all ?_
  rw [List.all_map]
  exact q
theorem is_wordB {l : List Nat} (hl : l.length ≤ 100000) (q : Q (.bl (smB l)) h) : SatX X (m_is_word [.str (S l)] h) Q := by
  refine SatX.w ?_
  refine sa_fn rfl ?_
  unfold m_is_word_b
  simp only [List.map_cons, List.map_nil, List.replicate, Nat.reduceSub, List.cons_append, List.nil_append]
  array_get_dec
  refine ⟨fun _ => ?_, fun hc => nomatch hc⟩
  array_get_dec
  refine so_lenS (by rw [S_len]; omega) ?_
  rw [S_len]
  array_get_dec
  have no : smB l = false → Q (.bl false) h := fun e => by rw [← e]; exact q
  refine ⟨fun h1 => ?_, fun h1 => ?_⟩
  · have h1 : (1 : Int) ≤ l.length := of_decide_eq_true h1
    array_get_dec
    refine ⟨fun h5 => ?_, fun h5 => ?_⟩
    · have h5 : (l.length : Int) ≤ 12 := by simpa using h5
      array_get_dec
      refine sa_LcMap (l := l.map fun c => .str ⟨#[c]⟩) (fun x => match x with
        | .str s => .bl (decide (97 ≤ s.cps.toList.headD 0) && decide (s.cps.toList.headD 0 ≤ 122))
        | _ => .non) (by simp; omega) (by
          array_get_dec
          refine so_wkS ⟨by simp [S], rfl⟩) ?_ ?_
      · intro x hx P p
        obtain ⟨c, hc, rfl⟩ := List.mem_map.mp hx
        simp only [wipeE, List.foldr, List.set_cons_zero, List.set_cons_succ]
        array_get_dec
        refine so_inSign ?_
        rw [mem_abc]
        exact p
      · have e : (l.map fun c => (.str ⟨#[c]⟩ : D)).map (fun x => match x with
          | .str s => .bl (decide (97 ≤ s.cps.toList.headD 0) && decide (s.cps.toList.headD 0 ≤ 122))
          | _ => .non) = l.map fun c => D.bl (decide (97 ≤ c) && decide (c ≤ 122)) := by
          rw [List.map_map]; rfl
        rw [e]
        array_get_dec
        refine so_allB ?_
        have e2 : smB l = l.all fun c => decide (97 ≤ c) && decide (c ≤ 122) := by
          unfold smB
          rw [decide_eq_true (show 1 ≤ l.length by omega), decide_eq_true (show l.length ≤ 12 by omega)]
          simp
        rw [← e2]
        exact q
    · have h5 : ¬ (l.length : Int) ≤ 12 := by simpa using h5
      array_get_dec
      refine no ?_
      unfold smB
      rw [decide_eq_false (show ¬ l.length ≤ 12 by omega)]
      simp
  · have h1 : ¬ (1 : Int) ≤ l.length := of_decide_eq_false h1
    array_get_dec
    refine ⟨(fun h2 => nomatch h2), fun _ => ?_⟩
    refine no ?_
    unfold smB
    rw [decide_eq_false (show ¬ 1 ≤ l.length by omega)]
    simp
end
def cpOk (l : List Nat) : Prop := ∀ c ∈ l, c < 1114112
theorem cpOk.app {a b : List Nat} (ha : cpOk a) (hb : cpOk b) : cpOk (a ++ b) := fun c hc => (List.mem_append.mp hc).elim (ha c) (hb c)
theorem cpOk.take {a : List Nat} (ha : cpOk a) (n : Nat) : cpOk (a.take n) := fun c hc => ha c (List.mem_of_mem_take hc)
theorem cpOk.drop {a : List Nat} (ha : cpOk a) (n : Nat) : cpOk (a.drop n) := fun c hc => ha c (List.mem_of_mem_drop hc)
theorem cpOk.nil : cpOk [] := fun c hc => nomatch hc
theorem cpOk.cons {c : Nat} {a : List Nat} (h : c < 1114112) (ha : cpOk a) : cpOk (c :: a) := fun x hx => by
  rcases List.mem_cons.mp hx with rfl | hx
  · exact h
  · exact ha x hx
theorem cpOk.ofW {w : Str} (h : IsW w) : cpOk w.cps.toList := fun c hc => by
  obtain ⟨l, rfl, _, _, h3⟩ := h
  have := h3 c (by simpa [S] using hc)
  unfold small at this; omega
/-- a text of few signs -/
def Shrt (n : Nat) (d : D) : Prop := ∃ l : List Nat, d = .str (S l) ∧ l.length ≤ n ∧ cpOk l
section
variable {X : D → Hm → Prop} {h : Hm} {Q : D → Hm → Prop}
theorem so_enTL {l : List D} {Q : Wk → Hm → Prop} (q : Q ⟨enumL l, fun _ => true⟩ h) : SatX X (wEnumTOf (.lst l) h) Q := ⟨q⟩
end
theorem Shrt.w {m n : Nat} {d : D} (h : m ≤ n) (s : Shrt m d) : Shrt n d := by
  obtain ⟨l, e, a, b⟩ := s
  exact ⟨l, e, by omega, b⟩
def wsum (ps : List (List Nat)) : Nat := (ps.map fun p => p.length + 1).sum
theorem wsum_app (a b : List (List Nat)) : wsum (a ++ b) = wsum a + wsum b := by simp [wsum]
theorem wsum_take (ps : List (List Nat)) (n : Nat) : wsum (ps.take n) ≤ wsum ps := by
  have := wsum_app (ps.take n) (ps.drop n)
  rw [List.take_append_drop] at this
  omega
theorem wsum_drop (ps : List (List Nat)) (n : Nat) : wsum (ps.drop n) ≤ wsum ps := by
  have := wsum_app (ps.take n) (ps.drop n)
  rw [List.take_append_drop] at this
  omega
def Wd (n : Nat) (ps : List (List Nat)) : Prop := wsum ps ≤ n ∧ ∀ p ∈ ps, cpOk p
theorem Wd.app {m n : Nat} {a b : List (List Nat)} (ha : Wd m a) (hb : Wd n b) : Wd (m + n) (a ++ b) := ⟨by rw [wsum_app]; have := ha.1; have := hb.1; omega, fun p hp => (List.mem_append.mp hp).elim (ha.2 p) (hb.2 p)⟩
theorem Wd.take {n : Nat} {a : List (List Nat)} (ha : Wd n a) (k : Nat) : Wd n (a.take k) := ⟨Nat.le_trans (wsum_take _ _) ha.1, fun p hp => ha.2 p (List.mem_of_mem_take hp)⟩
theorem Wd.drop {n : Nat} {a : List (List Nat)} (ha : Wd n a) (k : Nat) : Wd n (a.drop k) := ⟨Nat.le_trans (wsum_drop _ _) ha.1, fun p hp => ha.2 p (List.mem_of_mem_drop hp)⟩
theorem Wd.one {n : Nat} {p : List Nat} (h : p.length + 1 ≤ n) (hc : cpOk p) : Wd n [p] := ⟨by simpa [wsum] using h, fun q hq => by rw [List.mem_singleton.mp hq]; exact hc⟩
theorem Wd.le {m n : Nat} {a : List (List Nat)} (ha : Wd m a) (h : m ≤ n) : Wd n a := ⟨Nat.le_trans ha.1 h, ha.2⟩
section
variable {X : D → Hm → Prop} {h : Hm} {Q : D → Hm → Prop}
theorem so_mulL {l : List D} {n : Int} (h0 : 0 ≤ n) (h1 : n ≤ 1000000) (hl : l.length * n.toNat ≤ 16777216) (q : Q (.lst (List.replicate n.toNat l).flatten) h) : SatX X (opMul (.lst l) (.int n) h) Q := by
  unfold opMul
  simp only [lsOf]
  rw [if_pos ⟨by omega, h1, hl⟩]
  exact ⟨q⟩
end
mutual
/-- its numbers are short -/
def shw : D → Bool
  | .int i => decide (i.natAbs < 1000000000000)
  | .tup l => shwL l
  | .lst l => shwL l
  | _ => true
def shwL : List D → Bool
  | [] => true
  | x :: r => shw x && shwL r
end
mutual
theorem shw_ok : ∀ d : D, shw d = true → d.pd.intsShort 13 = true ∧ d.pd.showable = true
  | .non, _ => ⟨rfl, rfl⟩
  | .bl _, _ => ⟨rfl, rfl⟩
  | .str _, _ => ⟨rfl, rfl⟩
  | .int i, h => by
    have h : i.natAbs < 1000000000000 := by simpa [shw] using h
    refine ⟨?_, ?_⟩
    · have := PyData.shown_int_le (i := i) (by have e : (10 : Nat) ^ 12 = 1000000000000 := by decide
                                               omega)
      simpa [D.pd, PyData.intsShort] using this
    · simp only [D.pd, PyData.showable, decide_eq_true_eq]
      by_cases h0 : i.natAbs = 0
      · rw [h0]; decide
      · have : i.natAbs.log2 < 40 := (Nat.log2_lt h0).mpr (by have e : (2 : Nat) ^ 40 = 1099511627776 := by decide
                                                              omega)
        omega
  | .tup l, h => by
    have := shwL_ok l (by simpa [shw] using h)
    simpa [D.pd, PyData.intsShort, PyData.showable] using this
  | .lst l, h => by
    have := shwL_ok l (by simpa [shw] using h)
    simpa [D.pd, PyData.intsShort, PyData.showable] using this
  | .ref _, _ => ⟨rfl, rfl⟩
  | .scr _, _ => ⟨rfl, rfl⟩
  | .exn _ _, _ => ⟨rfl, rfl⟩
theorem shwL_ok : ∀ l : List D, shwL l = true → PyData.intsShortAll 13 (D.pdL l) = true ∧ PyData.showableAll (D.pdL l) = true
  | [], _ => ⟨rfl, rfl⟩
  | x :: r, h => by
    simp only [shwL, Bool.and_eq_true] at h
    have a := shw_ok x h.1
    have b := shwL_ok r h.2
    simp [D.pdL, PyData.intsShortAll, PyData.showableAll, a, b]
end
/-- what it weighs -/
abbrev wgt (d : D) : Nat := d.pd.weight
abbrev wgtL (l : List D) : Nat := PyData.weightAll (D.pdL l)
theorem wgt_int {i : Int} (h : i.natAbs < 1000000000000) : wgt (.int i) ≤ 40 := by
  show (if i == 0 then 0 else i.natAbs.log2 + 1) ≤ 40
  split
  · omega
  · by_cases h0 : i.natAbs = 0
    · rw [h0]; decide
    · have : i.natAbs.log2 < 40 := (Nat.log2_lt h0).mpr (by have e : (2 : Nat) ^ 40 = 1099511627776 := by decide
                                                            omega)
      omega
theorem wgt_tup (l : List D) : wgt (.tup l) = wgtL l := rfl
theorem wgt_lst (l : List D) : wgt (.lst l) = wgtL l := rfl
theorem wgtL_cons (x : D) (l : List D) : wgtL (x :: l) = wgt x + 1 + wgtL l := rfl
theorem wgt_str (x : Str) : wgt (.str x) = x.length := rfl
theorem wgtL_le {k : Nat} : ∀ {l : List D}, (∀ x ∈ l, wgt x ≤ k) → wgtL l ≤ (k + 1) * l.length
  | [], _ => Nat.le_refl _
  | x :: r, h => by
    have a := h x (by simp)
    have b := wgtL_le (k := k) (l := r) fun y hy => h y (by simp [hy])
    rw [wgtL_cons, List.length_cons, Nat.mul_succ]
    omega
theorem okL_all {n : Nat} : ∀ {l : List D}, (∀ x ∈ l, D.okN n x = true) → D.okL n l = true
  | [], _ => by cases n <;> rfl
  | x :: r, h => by
    have a := h x (by simp)
    have b := okL_all (n := n) (l := r) fun y hy => h y (by simp [hy])
    cases n <;> simp only [D.okL, a, b, Bool.and_self]
mutual
/-- its numbers' texts are at most eighty signs -/
def shx : D → Bool
  | .int i => decide ((PyData.shown (.int i)).length ≤ 80) && decide (i.natAbs.log2 < 1920)
  | .tup l => shxL l
  | .lst l => shxL l
  | _ => true
def shxL : List D → Bool
  | [] => true
  | x :: r => shx x && shxL r
end
theorem shx_int {i : Int} (h : i.natAbs < 1000000000000) : shx (.int i) = true := by
  have h1 := shw_ok (.int i) (by simpa [shw] using h)
  have h2 : (PyData.shown (.int i)).length ≤ 13 := by simpa [D.pd, PyData.intsShort] using h1.1
  have h3 : i.natAbs.log2 < 1920 := by simpa [D.pd, PyData.showable] using h1.2
  simp only [shx, Bool.and_eq_true, decide_eq_true_eq]
  omega
theorem shxL_all : ∀ {l : List D}, (∀ x ∈ l, shx x = true) → shxL l = true
  | [], _ => rfl
  | x :: r, h => by
    simp only [shxL, Bool.and_eq_true]
    exact ⟨h x (by simp), shxL_all fun y hy => h y (by simp [hy])⟩
/-- a thing of plain data, n deep, w heavy -/
def Th (n w : Nat) (d : D) : Prop := D.okN n d = true ∧ shx d = true ∧ wgt d ≤ w
theorem okN_mono : ∀ {d : D} {n m : Nat}, n ≤ m → D.okN n d = true → D.okN m d = true := by
  have key : ∀ n : Nat, (∀ (d : D), D.okN n d = true → ∀ m, n ≤ m → D.okN m d = true) := by
    intro n
    induction n with
    | zero =>
      intro d h m _
      cases d <;> cases m <;> simp [D.okN] at h ⊢ <;> assumption
    | succ n ih =>
      intro d h m hm
      obtain ⟨k, rfl⟩ : ∃ k, m = k + 1 := ⟨m - 1, by omega⟩
      have lists : ∀ l : List D, D.okL n l = true → D.okL k l = true := by
        intro l
        induction l with
        | nil => intro _; cases k <;> rfl
        | cons x r ihl =>
          intro hl
          simp only [D.okL, Bool.and_eq_true] at hl ⊢
          exact ⟨ih x hl.1 k (by omega), ihl hl.2⟩
      cases d with
      | tup l => simp only [D.okN] at h ⊢; exact lists l h
      | lst l => simp only [D.okN] at h ⊢; exact lists l h
      | _ => simpa [D.okN] using h
  exact @fun d n m h a => key n d a m h
theorem Th.le {n m w v : Nat} {d : D} (t : Th n w d) (h : n ≤ m) (h2 : w ≤ v) : Th m v d := ⟨okN_mono h t.1, t.2.1, Nat.le_trans t.2.2 h2⟩
theorem Th.non {n w : Nat} : Th n w .non := ⟨by cases n <;> rfl, rfl, Nat.zero_le _⟩
theorem Th.bl {n w : Nat} {b : Bool} : Th n w (.bl b) := ⟨by cases n <;> rfl, rfl, Nat.zero_le _⟩
theorem Th.int {n w : Nat} {i : Int} (h : i.natAbs < 1000000000000) (hw : 40 ≤ w) : Th n w (.int i) := ⟨by cases n <;> rfl, shx_int h, Nat.le_trans (wgt_int h) hw⟩
theorem Th.str {n w : Nat} {l : List Nat} (h : cpOk l) (hw : l.length ≤ w) : Th n w (.str (S l)) := by
  have := strOk_S h
  exact ⟨by cases n <;> simpa [D.okN] using this, rfl, by rw [wgt_str, S_len]; exact hw⟩
theorem Th.lit {n w : Nat} {x : Str} (h : (decide (x.length ≤ w) && x.cps.toList.all fun c => decide (c < 1114112)) = true) : Th n w (.str x) := by
  simp only [Bool.and_eq_true, decide_eq_true_eq, List.all_eq_true] at h
  have := Th.str (n := n) (w := w) (l := x.cps.toList) (fun c hc => h.2 c hc) (by simpa [Str.length] using h.1)
  rwa [← S_of] at this
theorem Th.tup {n w v : Nat} {l : List D} (h : ∀ x ∈ l, Th n w x) (hv : (w + 1) * l.length ≤ v) : Th (n + 1) v (.tup l) :=
  ⟨by show D.okL n l = true; exact okL_all fun x hx => (h x hx).1, by show shxL l = true; exact shxL_all fun x hx => (h x hx).2.1, by rw [wgt_tup]; exact Nat.le_trans (wgtL_le fun x hx => (h x hx).2.2) hv⟩
theorem Th.lst {n w v : Nat} {l : List D} (h : ∀ x ∈ l, Th n w x) (hv : (w + 1) * l.length ≤ v) : Th (n + 1) v (.lst l) :=
  ⟨by show D.okL n l = true; exact okL_all fun x hx => (h x hx).1, by show shxL l = true; exact shxL_all fun x hx => (h x hx).2.1, by rw [wgt_lst]; exact Nat.le_trans (wgtL_le fun x hx => (h x hx).2.2) hv⟩
theorem Th.one {n w v : Nat} {d : D} (h : Th n w d) (hv : w + 1 ≤ v) : Th (n + 1) v (.tup [d]) ∧ Th (n + 1) v (.lst [d]) :=
  ⟨.tup (w := w) (fun x hx => by rw [List.mem_singleton.mp hx]; exact h) (by simpa using hv), .lst (w := w) (fun x hx => by rw [List.mem_singleton.mp hx]; exact h) (by simpa using hv)⟩
/-- its type's name -/
def kindS : D → String
  | .non => "NoneType" | .bl _ => "bool" | .int _ => "int" | .str _ => "str" | .tup _ => "tuple" | .lst _ => "list"
  | _ => ""
section
variable {X : D → Hm → Prop} {h : Hm} {Q : D → Hm → Prop}
theorem so_isiD {T : String} {d : D} {n : Nat} (hk : D.okN n d = true) (q : Q (.bl (isTy (kindS d) T)) h) : SatX X (isi T d h) Q := by
  cases d with
  | ref m => cases n <;> simp [D.okN] at hk
  | scr m => cases n <;> simp [D.okN] at hk
  | exn a b => cases n <;> simp [D.okN] at hk
  | _ => exact ⟨q⟩
/-- is it a word? -/
def wordD : D → Bool
  | .str x => smB x.cps.toList
  | _ => false
def isStrD : D → Bool
  | .str _ => true
  | _ => false
theorem kind_str {d : D} (h : isStrD d = false) : isTy (kindS d) "str" = false := by
  cases d <;> first | rfl | exact nomatch h
theorem is_wordD {d : D} {n w : Nat} (t : Th n w d) (hw : w ≤ 100000) (q : Q (.bl (wordD d)) h) : SatX X (m_is_word [d] h) Q := by
  cases hd : isStrD d with
  | true =>
    cases d with
    | str x =>
      have := t.2.2
      rw [wgt_str] at this
      have e : D.str x = .str (S x.cps.toList) := by rw [← S_of]
      rw [e]
      exact is_wordB (by rw [show x.cps.toList.length = x.length by simp [Str.length]]; omega) q
    | _ => exact nomatch hd
  | false =>
    have e : wordD d = false := by cases d <;> first | rfl | exact nomatch hd
    rw [e] at q
    refine SatX.w ?_
    refine sa_fn rfl ?_
    unfold m_is_word_b
    simp only [List.map_cons, List.map_nil, List.replicate, Nat.reduceSub, List.cons_append, List.nil_append]
    array_get_dec
    refine so_isiD t.1 ?_
    rw [kind_str hd]
    exact ⟨_, rfl, (fun z => nomatch z), fun _ => q⟩
end
section
variable {X : D → Hm → Prop} {h : Hm} {Q : D → Hm → Prop} {v : Ev} {Y : D → Ev → Hm → Prop} {N : Ev → Hm → Prop} {T : D → Hm → Prop} {B G : Ev → Hm → Prop}
theorem sa_dctT (q : Q (.ref h.length) (h ++ [.dtt []])) : SatX X (eDctT v h) Q := ⟨q⟩
theorem getD_lst {n : Nat} {l : List D} {i : D} (e : h[n]? = some (.lst l)) : getD (.ref n) i h = none := by simp only [getD, dkAt, dtAt, e]
theorem so_ixNR {n : Nat} {l : List D} {i : D} (e : h[n]? = some (.lst l)) (s : SatX X (opIx (.ref n) i h) Q) : SatX X (opIxN (.ref n) i h) Q := by
  unfold opIxN
  rw [getD_lst e]; exact s
theorem getD_dtt {n : Nat} {l : List (D × D)} {i : D} {k : List L2.Key} (e : h[n]? = some (.dtt l)) (hk : keyT i = some k) : getD (.ref n) i h = some (tVal k l) := by simp only [getD, dkAt, dtAt, e, hk, Option.map_some]
theorem getD_lct {n : Nat} {l : List (D × D)} {i : D} {k : List L2.Key} (e : h[n]? = some (.lct l)) (hk : keyT i = some k) : getD (.ref n) i h = some (tVal k l) := by simp only [getD, dkAt, dtAt, e, hk, Option.map_some]
theorem so_ixNg {x i d : D} (e : getD x i h = some (some d)) (q : Q d h) : SatX X (opIxN x i h) Q := by
  unfold opIxN
  rw [e]; exact ⟨q⟩
theorem so_notInNg {x y : D} {g : Option D} (e : getD y x h = some g) (q : Q (.bl (!g.isSome)) h) : SatX X (opNotInN x y h) Q := by
  unfold opNotInN inN
  simp only [e, Bool.true_xor]; exact ⟨q⟩
/-- o[k] = x leads to P -/
def PutToN (o k x : D) (h : Hm) (P : Hm → Prop) : Prop := ∃ h4, putIxN o k x h = some h4 ∧ P h4
theorem ss_putN {o i e : EM} (s : SatX (fun x h1 => Y x v h1) (e v h) fun x h1 => SatX (fun x h1 => Y x v h1) (o v h1) fun a h2 => SatX (fun x h1 => Y x v h1) (i v h2) fun k h3 => PutToN a k x h3 (N v)) : SatSX Y (sPutN o i e v h) N T B G := by
  have : SatX (fun x h1 => Y x v h1) ((e v h).bind (fun x h1 => (o v h1).bind fun o h2 => (i v h2).bind fun i h3 => match putIxN o i x h3 with | some h4 => R.ok () h4 | none => .err)) fun _ h4 => N v h4 :=
    SatX.bind (s.imp fun _ _ z => SatX.bind (z.imp fun _ _ y => SatX.bind (y.imp fun a h ⟨h4, e4, q⟩ => by simp only [e4]; exact ⟨q⟩)))
  unfold sPutN
  generalize (e v h).bind (fun x h1 => (o v h1).bind fun o h2 => (i v h2).bind fun i h3 => match putIxN o i x h3 with | some h4 => R.ok () h4 | none => .err) = r at this ⊢
  cases r with
  | ok _ _ => exact ⟨this.out⟩
  | exc _ _ => exact ⟨this.out⟩
  | err => exact this.out.elim
theorem so_putNT {n : Nat} {l : List (D × D)} {i x : D} {k : List L2.Key} {P : Hm → Prop} (e : h[n]? = some (.dtt l)) (hl : l.length < 16777216) (hk : keyT i = some k) (q : P (h.set n (.dtt (tPut i k x l)))) : PutToN (.ref n) i x h P :=
  ⟨_, by simp only [putIxN, dtAt, e, hl, if_true, hk, Option.map_some], q⟩
theorem ss_lockT {n : Nat} {l : List (D × D)} {fo : EM} {b : SM} (s0 : Sat (fo v h) fun x _ => x = .ref n) (e : h[n]? = some (.dtt l)) (s : SatS (b v (h.set n (.lct l))) (fun v2 h2 => ∃ l', h2[n]? = some (.lct l') ∧ N v2 (h2.set n (.dtt l'))) (fun d h2 => ∃ l', h2[n]? = some (.lct l') ∧ T d (h2.set n (.dtt l')))) : SatSX Y (sLock fo b v h) N T B G := by
  obtain ⟨x, h1, e1, rfl⟩ := s0.get
  unfold sLock
  simp only [e1, lkd, e]
  generalize b v (h.set n (.lct l)) = o at s
  cases o with
  | nx v2 h2 => obtain ⟨l', e2, q⟩ := s.out; simp only [unF, unlk, e2]; exact ⟨q⟩
  | rt d h2 => obtain ⟨l', e2, q⟩ := s.out; simp only [unF, unlk, e2]; exact ⟨q⟩
  | bk _ _ => exact s.out.elim
  | ct _ _ => exact s.out.elim
  | exc _ _ _ => exact s.out.elim
  | err => exact s.out.elim
theorem sa_wDkT {e : EM} {n : Nat} {l : List (D × D)} {Q : Wk → Hm → Prop} (s : SatX X (e v h) fun x h1 => x = .ref n ∧ h1[n]? = some (.lct l) ∧ Q ⟨l.map (·.1), chkD n (.lct l)⟩ h1) : SatX X (wDk e v h) Q := SatX.bind (s.imp fun x h1 ⟨e1, e2, q⟩ => by
  subst e1
  simp only [wkDk, e2]
  exact ⟨q⟩)
theorem chkD_of {n : Nat} {o : HD} (e : h[n]? = some o) : chkD n o h = true := by simp [chkD, e, HD.beq_refl]
theorem so_extend {n : Nat} {l k : List D} {x : D} (e : h[n]? = some (.lst l)) (ek : lsOf h x = some k) (hl : l.length + k.length ≤ 16777216) (q : Q .non (h.set n (.lst (l ++ k)))) : SatX X (mExtend (.ref n) [x] h) Q := by
  simp only [mExtend, e, ek, hl, if_true]; exact ⟨q⟩
end
section
variable {α : Type}
def aget (k : Int) : List (Int × α) → Option α
  | [] => none
  | (j, x) :: r => if j = k then some x else aget k r
def aput (k : Int) (x : α) (l : List (Int × α)) : List (Int × α) := if (aget k l).isSome = true then l.map (fun p => if p.1 = k then (p.1, x) else p) else l ++ [(k, x)]
def adrop (k : Int) (l : List (Int × α)) : List (Int × α) := l.filter fun p => decide (p.1 ≠ k)
def mkA (f : α → D) (l : List (Int × α)) : List (D × D) := l.map fun p => (.int p.1, f p.2)
theorem aget_mem {k : Int} {x : α} : ∀ {l : List (Int × α)}, aget k l = some x → (k, x) ∈ l
  | (j, y) :: r, h => by
    unfold aget at h
    split at h
    · rename_i e; injection h with h; rw [e, h]; simp
    · exact List.mem_cons_of_mem _ (aget_mem h)
theorem aget_of_key {k : Int} : ∀ {l : List (Int × α)}, k ∈ l.map (·.1) → ∃ x, aget k l = some x
  | (j, y) :: r, h => by
    unfold aget
    by_cases e : j = k
    · rw [if_pos e]; exact ⟨_, rfl⟩
    · rw [if_neg e]
      simp only [List.map_cons, List.mem_cons] at h
      exact aget_of_key (h.resolve_left fun z => e z.symm)
theorem keys_aput (k : Int) (x : α) (l : List (Int × α)) : (aput k x l).map (·.1) = if (aget k l).isSome = true then l.map (·.1) else l.map (·.1) ++ [k] := by
  unfold aput
  split
  · rw [List.map_map]
    refine List.map_congr_left fun p _ => ?_
    show (if p.1 = k then (p.1, x) else p).1 = p.1
    split <;> rfl
  · rw [List.map_append]; rfl
theorem aget_none {k : Int} {l : List (Int × α)} : aget k l = none ↔ k ∉ l.map (·.1) := by
  constructor
  · intro h hm
    obtain ⟨x, e⟩ := aget_of_key hm
    rw [h] at e; cases e
  · intro h
    cases e : aget k l with
    | none => rfl
    | some x => exact absurd (List.mem_map_of_mem (f := (·.1)) (aget_mem e)) h
theorem nodup_aput {k : Int} {x : α} {l : List (Int × α)} (h : (l.map (·.1)).Nodup) : ((aput k x l).map (·.1)).Nodup := by
  rw [keys_aput]
  split
  · exact h
  · rename_i e
    have : k ∉ l.map (·.1) := aget_none.mp (by cases q : aget k l with | none => rfl | some y => rw [q] at e; exact absurd rfl e)
    exact List.nodup_append.mpr ⟨h, by simp, fun a ha b hb => by rw [List.mem_singleton.mp hb]; exact fun z => this (by rw [← z]; exact ha)⟩
theorem mem_aput {k : Int} {x : α} {l : List (Int × α)} {p : Int × α} (h : p ∈ aput k x l) : p = (k, x) ∨ p ∈ l := by
  unfold aput at h
  split at h
  · obtain ⟨q, hq, e⟩ := List.mem_map.mp h
    by_cases z : q.1 = k
    · rw [if_pos z] at e; left; rw [← e, z]
    · rw [if_neg z] at e; right; rw [← e]; exact hq
  · rcases List.mem_append.mp h with h | h
    · exact .inr h
    · exact .inl (List.mem_singleton.mp h)
theorem aget_aput (k j : Int) (x : α) (l : List (Int × α)) : aget j (aput k x l) = if j = k then some x else aget j l := by
  unfold aput
  split
  · rename_i hs
    induction l with
    | nil => cases hs
    | cons p r ih =>
      obtain ⟨i, y⟩ := p
      rw [List.map_cons]
      by_cases e : i = k
      · subst e
        rw [if_pos rfl]
        show (if i = j then some x else aget j (r.map fun p => if p.1 = i then (p.1, x) else p)) = if j = i then some x else if i = j then some y else aget j r
        by_cases z : j = i
        · rw [if_pos z.symm, if_pos z]
        · rw [if_neg (Ne.symm z), if_neg z, if_neg (Ne.symm z)]
          clear ih hs
          induction r with
          | nil => rfl
          | cons q s ih2 =>
            obtain ⟨i2, y2⟩ := q
            rw [List.map_cons]
            by_cases e2 : i2 = i
            · subst e2
              rw [if_pos rfl]
              show (if i2 = j then _ else _) = if i2 = j then _ else _
              rw [if_neg (Ne.symm z), if_neg (Ne.symm z)]; exact ih2
            · rw [if_neg e2]
              show (if i2 = j then _ else _) = if i2 = j then _ else _
              rw [ih2]
      · rw [if_neg e]
        have hs2 : (aget k r).isSome = true := by
          have : aget k ((i, y) :: r) = aget k r := if_neg e
          rw [this] at hs; exact hs
        show (if i = j then some y else aget j (r.map fun p => if p.1 = k then (p.1, x) else p)) = if j = k then some x else if i = j then some y else aget j r
        rw [ih hs2]
        by_cases z : j = k
        · rw [if_pos z, if_neg (fun w => e (w.trans z)), if_pos z]
        · rw [if_neg z, if_neg z]
  · rename_i hs
    have hn : aget k l = none := by cases q : aget k l with | none => rfl | some y => rw [q] at hs; exact absurd rfl hs
    induction l with
    | nil =>
      show (if k = j then some x else none) = if j = k then some x else none
      by_cases z : j = k
      · rw [if_pos z.symm, if_pos z]
      · rw [if_neg (Ne.symm z), if_neg z]
    | cons p r ih =>
      obtain ⟨i, y⟩ := p
      have e : ¬ i = k := fun e => by rw [show aget k ((i, y) :: r) = some y from if_pos e] at hn; cases hn
      have hn2 : aget k r = none := by rw [show aget k ((i, y) :: r) = aget k r from if_neg e] at hn; exact hn
      show (if i = j then some y else aget j (r ++ [(k, x)])) = if j = k then some x else if i = j then some y else aget j r
      rw [ih (by rw [hn2]; simp) hn2]
      by_cases z : j = k
      · rw [if_pos z, if_neg (fun w => e (w.trans z)), if_pos z]
      · rw [if_neg z, if_neg z]
end
theorem trOk_same {N : Nat} {h h1 : Hm} (hl : h.length ≤ h1.length) (hs : ∀ m < h.length, h1[m]? = h[m]?) : trOk h h1 N = true ∧ h1.take h.length = h := by
  refine ⟨trOk_of hl fun m o p e1 e2 => .inl ?_, ?_⟩
  · have := hs m (List.getElem?_eq_some_iff.mp e1).1
    rw [e1, e2] at this
    injection this
  · apply List.ext_getElem?
    intro m
    by_cases hm : m < h.length
    · rw [List.getElem?_take_of_lt hm]; exact hs m hm
    · rw [List.getElem?_eq_none (l := h) (by omega), List.getElem?_eq_none (by simp only [List.length_take]; omega)]
/-- an open letter: its place, its need, its items -/
structure Lt where
  place : Int
  need : Int
  its : List D
def ltD (x : Lt) : D := .tup [.int x.place, .tup [.int x.need, .tup x.its]]
def lsD (l : List Lt) : D := .lst (l.map ltD)
structure MS where
  room : Int
  first : Int
  ws : List Str
  waits : Int
  sure : Int
  ends : List Int
  opn : List (Int × List Lt)
  plcs : List (Int × Int)
def MS.bk (M : MS) : D := bookD M.room M.first M.ws
def MS.openD (M : MS) : List (D × D) := mkA lsD M.opn
def MS.placesD (M : MS) : List (D × D) := mkA D.int M.plcs
def telF (M : MS) (e l p : Nat) : List (Str × D) := [("now", M.bk), ("most", .int M.waits), ("sure", .int M.sure), ("ends", .ref e), ("letters", .ref l), ("places", .ref p)]
/-- a teller stands at t -/
structure Tl (h : Hm) (t e l p : Nat) (M : MS) : Prop where
  fi : h[t]? = some (.ins "Teller" (telF M e l p))
  fe : h[e]? = some (.lst (M.ends.map D.int))
  fl : h[l]? = some (.dct M.openD)
  fp : h[p]? = some (.dct M.placesD)
  lp : l ≠ p
/-- the same at these places -/
theorem Tl.keep {h h' : Hm} {t e l p : Nat} {M : MS} (T : Tl h t e l p M) (k : ∀ m, m = t ∨ m = e ∨ m = l ∨ m = p → h'[m]? = h[m]?) : Tl h' t e l p M :=
  ⟨(k t (by simp)).trans T.fi, (k e (by simp)).trans T.fe, (k l (by simp)).trans T.fl, (k p (by simp)).trans T.fp, T.lp⟩
def keyOk (p : Int × List Lt) : Prop := 0 ≤ p.1 ∧ p.1 ≤ 999 ∧ p.2.length ≤ 100000 ∧ ∀ x ∈ p.2, x.its.length ≤ 8 ∧ 0 ≤ x.place ∧ 0 ≤ x.need ∧ ∀ d ∈ x.its, IsIt x.need d
structure WF (M : MS) : Prop where
  r0 : 0 ≤ M.room
  r1 : M.room ≤ 200
  w : Words M.ws
  s : sumW M.ws ≤ M.room
  f : 0 ≤ M.first
  o : ∀ p ∈ M.opn, keyOk p
  nd : (M.opn.map (·.1)).Nodup
  ol : M.opn.length ≤ 1000
  pl : M.plcs.length ≤ 1000
  p0 : ∀ q ∈ M.plcs, 0 ≤ q.2
  s0 : 0 ≤ M.sure
  kp : ∀ q ∈ M.opn, ∃ x, aget q.1 M.plcs = some x
def getL (k : Int) (M : MS) : List Lt := (aget k M.opn).getD []
def numsL (x : Lt) : List Int := x.its.filterMap fun d => match d with
  | .tup [_, .int n] => some (x.need - n)
  | _ => none
def heldN (o : List (Int × List Lt)) : List Int := (o.map fun p => (p.2.map numsL).flatten).flatten
def waitB (sure : Int) (l : List Lt) : Bool := l.any fun x => decide (sure < x.need)
def waitL (M : MS) : List Int := (srt (M.opn.map (·.1))).filter fun k => waitB M.sure (getL k M)
theorem itcl {r : Int} {N : Nat} {d : D} (i : IsIt r d) : D.cl N d = true := by cases i <;> rfl
theorem clP_open {N : Nat} : ∀ {o : List (Int × List Lt)}, (∀ p ∈ o, keyOk p) → clP N (mkA lsD o) = true
  | [], _ => rfl
  | p :: r, h => by
    have ih := clP_open (N := N) (o := r) fun q hq => h q (by simp [hq])
    have hp := h p (by simp)
    show (D.cl N (.int p.1) && D.cl N (lsD p.2) && clP N (mkA lsD r)) = true
    rw [ih, Bool.and_true]
    show (true && D.clL N (p.2.map ltD)) = true
    rw [Bool.true_and]
    refine clL_all fun d hd => ?_
    obtain ⟨x, hx, rfl⟩ := List.mem_map.mp hd
    obtain ⟨_, _, _, h4⟩ := hp.2.2.2 x hx
    show D.clL N [.int x.place, .tup [.int x.need, .tup x.its]] = true
    simp only [D.clL, D.cl, Bool.true_and, Bool.and_true]
    exact clL_all fun d hd => itcl (h4 d hd)
theorem clP_ints {N : Nat} : ∀ (o : List (Int × Int)), clP N (mkA D.int o) = true
  | [] => rfl
  | p :: r => by
    show (D.cl N (.int p.1) && D.cl N (.int p.2) && clP N (mkA D.int r)) = true
    rw [clP_ints r]; rfl
section
variable {X : D → Hm → Prop} {h : Hm} {Q : D → Hm → Prop} {t e l p : Nat} {M : MS}
theorem need_le1 {M : MS} (wf : WF M) {k : Int} {x : Lt} (hx : x ∈ getL k M) : x.its.length ≤ 8 ∧ 0 ≤ x.place ∧ 0 ≤ x.need ∧ ∀ d ∈ x.its, IsIt x.need d := by
  unfold getL at hx
  cases e : aget k M.opn with
  | none => rw [e] at hx; cases hx
  | some ls => rw [e] at hx; exact (wf.o _ (aget_mem e)).2.2.2 x hx
/-- how many letters are open together -/
def manyL (o : List (Int × List Lt)) : Nat := (o.map fun p => p.2.length).sum
theorem manyL_app (a b : List (Int × List Lt)) : manyL (a ++ b) = manyL a + manyL b := by
  unfold manyL; rw [List.map_append, List.sum_append]
def nameF (M : MS) (w : Str) (free : Bool) : D := match (plc w M.first M.ws).getLast? with
  | none => .str w
  | some n => if free = false ∧ M.sure ≤ n then .str w else .int n
theorem plc_in {w : Str} : ∀ {k n : Int} {ws : List Str}, n ∈ plc w k ws → k ≤ n ∧ n < k + ws.length ∧ ws[(n - k).toNat]? = some w
  | k, n, a :: r, h => by
    unfold plc at h
    have nxt : n ∈ plc w (k + 1) r → k ≤ n ∧ n < k + ((a :: r).length : Int) ∧ (a :: r)[(n - k).toNat]? = some w := fun h => by
      obtain ⟨h1, h2, h3⟩ := plc_in h
      refine ⟨by omega, by rw [List.length_cons]; omega, ?_⟩
      rw [show (n - k).toNat = (n - (k + 1)).toNat + 1 by omega, List.getElem?_cons_succ]; exact h3
    split at h
    · rename_i e
      rcases List.mem_cons.mp h with h | h
      · subst h; refine ⟨Int.le_refl _, by rw [List.length_cons]; omega, ?_⟩
        rw [show (n - n).toNat = 0 by omega]; simp [e]
      · exact nxt h
    · exact nxt h
theorem nameF_ok {M : MS} {w : Str} {free : Bool} (hw : IsW w) : IsName M.first M.ws.length (nameF M w free) := by
  unfold nameF
  cases e : (plc w M.first M.ws).getLast? with
  | none => exact .inl ⟨w, hw, rfl⟩
  | some n =>
    simp only
    split
    · exact .inl ⟨w, hw, rfl⟩
    · obtain ⟨h1, h2, _⟩ := plc_in (List.mem_of_getLast? e)
      exact .inr ⟨n, h1, h2, rfl⟩
end
structure Fr4 (t e l p : Nat) (h h' : Hm) : Prop where
  len : h'.length = h.length
  oth : ∀ m, m ≠ t → m ≠ e → m ≠ l → m ≠ p → h'[m]? = h[m]?
theorem Fr4.refl {t e l p : Nat} {h : Hm} : Fr4 t e l p h h := ⟨rfl, fun _ _ _ _ _ => rfl⟩
theorem Fr4.trans {t e l p : Nat} {h h1 h2 : Hm} (a : Fr4 t e l p h h1) (b : Fr4 t e l p h1 h2) : Fr4 t e l p h h2 := ⟨b.len.trans a.len, fun m h1 h2 h3 h4 => (b.oth m h1 h2 h3 h4).trans (a.oth m h1 h2 h3 h4)⟩
theorem Tl.lt {h : Hm} {t e l p : Nat} {M : MS} (T : Tl h t e l p M) : t < h.length ∧ e < h.length ∧ l < h.length ∧ p < h.length :=
  ⟨(List.getElem?_eq_some_iff.mp T.fi).1, (List.getElem?_eq_some_iff.mp T.fe).1, (List.getElem?_eq_some_iff.mp T.fl).1, (List.getElem?_eq_some_iff.mp T.fp).1⟩
theorem Tl.tr {h h1 : Hm} {t e l p : Nat} {M M' : MS} (T : Tl h t e l p M) (T1 : Tl h1 t e l p M') (ho : ∀ q ∈ M'.opn, keyOk q) (hl : h.length ≤ h1.length) (hs : ∀ m < h.length, m ≠ t → m ≠ e → m ≠ l → m ≠ p → h1[m]? = h[m]?) :
    trOk h h1 h.length = true ∧ Tl (h1.take h.length) t e l p M' ∧ Fr4 t e l p h (h1.take h.length) := by
  obtain ⟨a, b, c, d⟩ := T.lt
  have tk : ∀ m, m < h.length → (h1.take h.length)[m]? = h1[m]? := fun m hm => List.getElem?_take_of_lt hm
  refine ⟨trOk_of hl fun m o q e1 e2 => ?_, T1.keep fun m hm => tk m (by rcases hm with rfl | rfl | rfl | rfl <;> assumption), by rw [List.length_take]; omega, fun m h1' h2' h3' h4' => ?_⟩
  · have hm := (List.getElem?_eq_some_iff.mp e1).1
    by_cases m1 : m = t
    · subst m1
      rw [T1.fi] at e2; injection e2 with e2; subst e2
      refine .inr ?_
      show D.clF h.length (telF M' e l p) = true
      simp only [telF, D.clF, D.cl, MS.bk, bookD, D.clL, Bool.true_and, Bool.and_true, b, c, d, decide_true]
      rw [clL_all fun d hd => by obtain ⟨z, _, rfl⟩ := List.mem_map.mp hd; rfl]
    · by_cases m2 : m = e
      · subst m2
        rw [T1.fe] at e2; injection e2 with e2; subst e2
        exact .inr (clL_all fun d hd => by obtain ⟨z, _, rfl⟩ := List.mem_map.mp hd; rfl)
      · by_cases m3 : m = l
        · subst m3
          rw [T1.fl] at e2; injection e2 with e2; subst e2
          exact .inr (clP_open ho)
        · by_cases m4 : m = p
          · subst m4
            rw [T1.fp] at e2; injection e2 with e2; subst e2
            exact .inr (clP_ints _)
          · have := hs m hm m1 m2 m3 m4
            rw [e1, e2] at this
            injection this with this
            exact .inl this
  · by_cases hm : m < h.length
    · rw [tk m hm]; exact hs m hm h1' h2' h3' h4'
    · rw [List.getElem?_eq_none (l := h) (by omega), List.getElem?_eq_none (by simp only [List.length_take]; omega)]
section
variable {X : D → Hm → Prop} {h : Hm} {Q : D → Hm → Prop} {t e l p : Nat} {M : MS}
def going (M : MS) (f : Int) : List Int := (heldN M.opn).filter fun n => decide (n < f)
def firstF (M : MS) (r' : Int) (ws' : List Str) : Int := M.first + ((ws'.length - (stay r' ws').length : Nat) : Int)
def deedM (M : MS) (r' : Int) (ws' : List Str) : MS := { M with room := r', first := firstF M r' ws', ws := stay r' ws', ends := M.ends ++ [firstF M r' ws' + (stay r' ws').length] }
end
def freeB (M : MS) (k : Int) : Bool := (waitL M).contains k || decide (((waitL M).length : Int) < M.waits)
def namesF (M : MS) (k : Int) (ws : List Str) : List D := ws.map fun w => nameF M w (freeB M k)
def placeF (M : MS) (k : Int) : Int := (aget k M.plcs).getD 0
def saidL (M : MS) (k : Int) (ws : List Str) : Lt := ⟨placeF M k, needOf (namesF M k ws), (namesF M k ws).map (itemF (needOf (namesF M k ws)))⟩
def sayM (M : MS) (k : Int) (ws : List Str) : MS := { M with opn := aput k (getL k M ++ [saidL M k ws]) M.opn, plcs := aput k (placeF M k + 1) M.plcs }
theorem names_ok {M : MS} {k : Int} {ws : List Str} (hw : Words ws) : ∀ d ∈ namesF M k ws, IsName M.first M.ws.length d := fun d hd => by
  obtain ⟨w, h1, rfl⟩ := List.mem_map.mp hd
  exact nameF_ok (hw w h1)
theorem place0 {M : MS} (wf : WF M) (k : Int) : 0 ≤ placeF M k := by
  unfold placeF
  cases e : aget k M.plcs with
  | none => exact Int.le_refl _
  | some x => exact wf.p0 _ (aget_mem e)
theorem said_ok {M : MS} (wf : WF M) {k : Int} {ws : List Str} (hw : Words ws) (hl : ws.length ≤ 8) : (saidL M k ws).its.length ≤ 8 ∧ 0 ≤ (saidL M k ws).place ∧ 0 ≤ (saidL M k ws).need ∧ ∀ d ∈ (saidL M k ws).its, IsIt (saidL M k ws).need d := by
  refine ⟨?_, place0 wf k, (need_bounds wf.f (names_ok hw)).1, items_ok wf.f (names_ok hw)⟩
  show ((namesF M k ws).map _).length ≤ 8
  unfold namesF
  rw [List.length_map, List.length_map]; exact hl
theorem sayM_keyOk {M : MS} (wf : WF M) {k : Int} {ws : List Str} (hk : 0 ≤ k) (hk2 : k ≤ 999) (hw : Words ws) (hl : ws.length ≤ 8) (hg : (getL k M).length < 100000) : ∀ q ∈ (sayM M k ws).opn, keyOk q := fun q hq => by
  rcases mem_aput hq with rfl | hq
  · refine ⟨hk, hk2, by rw [List.length_append, List.length_singleton]; omega, fun x hx => ?_⟩
    rcases List.mem_append.mp hx with hx | hx
    · exact need_le1 wf hx
    · rw [List.mem_singleton.mp hx]; exact said_ok wf hw hl
  · exact wf.o q hq
/-- a comprehension over a list that may change and stays -/
theorem sa_LcMapK {X : D → Hm → Prop} {own : List Nat} {k : Nat} {w : Ev → Hm → R Wk} {e : EM} {v : Ev} {h h1 : Hm} {Q : D → Hm → Prop} {l : List D} (f : D → D) (hl : l.length ≤ 16777215) (hw : SatX X (w v h) fun k h2 => k.its = l ∧ k.chk h1 = true ∧ h2 = h1)
    (he : ∀ x ∈ l, ∀ P : D → Hm → Prop, P (f x) h1 → Sat (e ((wipeE v own).set k (some x)) h1) P) (q : Q (.lst (l.map f)) h1) : SatX X (eLc own (gN k) w tYes e v h) Q := by
  refine sa_Lc (hw.imp ?_)
  rintro kk _ ⟨rfl, hc, rfl⟩
  refine ⟨hl, fun i acc h' => acc = (kk.its.take i).map f ∧ h' = _, ⟨rfl, rfl⟩, ?_, ?_⟩
  · rintro i x acc h' hx ⟨rfl, rfl⟩
    refine ⟨hc, _, rfl, sa_tYes ⟨fun _ => ?_, fun z => nomatch z⟩⟩
    refine he x (List.mem_of_getElem? hx) _ ⟨?_, rfl⟩
    rw [List.take_add_one, hx, List.map_append]; rfl
  · rintro acc h' ⟨rfl, rfl⟩
    refine ⟨hc, ?_⟩
    rw [List.take_length]; exact q
section
variable {X : D → Hm → Prop} {h : Hm} {Q : D → Hm → Prop} {t e l p : Nat} {M : MS}
def readM (M : MS) (k : Int) (x : Lt) (r : List Lt) : MS := { M with opn := aput k r M.opn, sure := max M.sure x.need }
def lostM (M : MS) (k : Int) : MS := { M with opn := aput k [] M.opn }
def hadM (M : MS) (n : Int) : MS := { M with sure := max M.sure n }
end
def stdD (M : MS) (e l p : Nat) : List (D × D) := [(.str (Str.ofString "now"), M.bk), (.str (Str.ofString "waits"), .int M.waits), (.str (Str.ofString "sure"), .int M.sure), (.str (Str.ofString "ends"), .ref e), (.str (Str.ofString "open"), .ref l), (.str (Str.ofString "places"), .ref p)]
structure Sd (h : Hm) (s e l p : Nat) (M : MS) : Prop where
  fi : h[s]? = some (.dct (stdD M e l p))
  fe : h[e]? = some (.lst (M.ends.map D.int))
  fl : h[l]? = some (.dct M.openD)
  fp : h[p]? = some (.dct M.placesD)
  sl : s ≠ l
  sp : s ≠ p
  lp : l ≠ p
theorem Sd.ne {h : Hm} {s e l p : Nat} {M : MS} (T : Sd h s e l p M) : s ≠ e ∧ e ≠ l ∧ e ≠ p := by
  have a := T.fi; have b := T.fe; have c := T.fl; have d := T.fp
  refine ⟨fun z => ?_, fun z => ?_, fun z => ?_⟩ <;> subst z
  · rw [a] at b; cases b
  · rw [b] at c; cases c
  · rw [b] at d; cases d
theorem Sd.keep {h h' : Hm} {s e l p : Nat} {M : MS} (T : Sd h s e l p M) (k : ∀ m, m = s ∨ m = e ∨ m = l ∨ m = p → h'[m]? = h[m]?) : Sd h' s e l p M :=
  ⟨(k s (by simp)).trans T.fi, (k e (by simp)).trans T.fe, (k l (by simp)).trans T.fl, (k p (by simp)).trans T.fp, T.sl, T.sp, T.lp⟩
theorem Sd.lt {h : Hm} {t e l p : Nat} {M : MS} (T : Sd h t e l p M) : t < h.length ∧ e < h.length ∧ l < h.length ∧ p < h.length :=
  ⟨(List.getElem?_eq_some_iff.mp T.fi).1, (List.getElem?_eq_some_iff.mp T.fe).1, (List.getElem?_eq_some_iff.mp T.fl).1, (List.getElem?_eq_some_iff.mp T.fp).1⟩
theorem Sd.push {h : Hm} {s e l p : Nat} {M : MS} {o : HD} (T : Sd h s e l p M) : Sd (h ++ [o]) s e l p M := T.keep fun m hm => by
  obtain ⟨a, b, c, d⟩ := T.lt
  rw [List.getElem?_append_left (by rcases hm with rfl | rfl | rfl | rfl <;> assumption)]
theorem Sd.tr {h h1 : Hm} {s e l p : Nat} {M M' : MS} (T : Sd h s e l p M) (T1 : Sd h1 s e l p M') (ho : ∀ q ∈ M'.opn, keyOk q) (hl : h.length ≤ h1.length) (hs : ∀ m < h.length, m ≠ s → m ≠ e → m ≠ l → m ≠ p → h1[m]? = h[m]?) :
    trOk h h1 h.length = true ∧ Sd (h1.take h.length) s e l p M' ∧ Fr4 s e l p h (h1.take h.length) := by
  obtain ⟨a, b, c, d⟩ := T.lt
  have tk : ∀ m, m < h.length → (h1.take h.length)[m]? = h1[m]? := fun m hm => List.getElem?_take_of_lt hm
  refine ⟨trOk_of hl fun m o q e1 e2 => ?_, T1.keep fun m hm => tk m (by rcases hm with rfl | rfl | rfl | rfl <;> assumption), by rw [List.length_take]; omega, fun m h1' h2' h3' h4' => ?_⟩
  · have hm := (List.getElem?_eq_some_iff.mp e1).1
    by_cases m1 : m = s
    · subst m1
      rw [T1.fi] at e2; injection e2 with e2; subst e2
      refine .inr ?_
      show clP h.length (stdD M' e l p) = true
      simp only [stdD, clP, D.cl, MS.bk, bookD, D.clL, Bool.true_and, Bool.and_true, b, c, d, decide_true]
      rw [clL_all fun d hd => by obtain ⟨z, _, rfl⟩ := List.mem_map.mp hd; rfl]
    · by_cases m2 : m = e
      · subst m2
        rw [T1.fe] at e2; injection e2 with e2; subst e2
        exact .inr (clL_all fun d hd => by obtain ⟨z, _, rfl⟩ := List.mem_map.mp hd; rfl)
      · by_cases m3 : m = l
        · subst m3
          rw [T1.fl] at e2; injection e2 with e2; subst e2
          exact .inr (clP_open ho)
        · by_cases m4 : m = p
          · subst m4
            rw [T1.fp] at e2; injection e2 with e2; subst e2
            exact .inr (clP_ints _)
          · have := hs m hm m1 m2 m3 m4
            rw [e1, e2] at this
            injection this with this
            exact .inl this
  · by_cases hm : m < h.length
    · rw [tk m hm]; exact hs m hm h1' h2' h3' h4'
    · rw [List.getElem?_eq_none (l := h) (by omega), List.getElem?_eq_none (by simp only [List.length_take]; omega)]
theorem so_neNilR {X : D → Hm → Prop} {h : Hm} {Q : D → Hm → Prop} {n : Nat} {l : List D} (e : h[n]? = some (.lst l)) (hok : D.okL 63 l = true) (q : Q (.bl (!l.isEmpty)) h) : SatX X (opNe (.ref n) (.lst []) h) Q := by
  have e1 : dr h (.ref n) = .lst l := by simp only [dr, lsOf, e]
  refine so_neD rfl (by rw [e1]; exact hok) rfl ?_
  rw [e1, show dr h (.lst []) = .lst [] from rfl]
  cases l with
  | nil => exact q
  | cons a r => exact q
def toldD (d : D) : D := .tup [.str (Str.ofString "told"), d]
inductive Cl (M : MS) : D → D → MS → Prop
  | deedH (d : D) (r' : Int) (ws' : List Str) (c : Can M.room M.ws d r' ws') (g : going M (firstF M r' ws') ≠ []) : Cl M (.tup [.str (Str.ofString "deed"), d]) (.tup [.str (Str.ofString "held"), .int (mnL (going M (firstF M r' ws')))]) M
  | deedT (d : D) (r' : Int) (ws' : List Str) (c : Can M.room M.ws d r' ws') (g : going M (firstF M r' ws') = []) : Cl M (.tup [.str (Str.ofString "deed"), d]) (toldD (.int M.ends.length)) (deedM M r' ws')
  | say (k : Int) (ws : List Str) (hk : 0 ≤ k) (hk2 : k ≤ 999) (hw : Words ws) (hl : ws.length ≤ 8) : Cl M (.tup [.str (Str.ofString "say"), .int k, .lst (ws.map D.str)]) (toldD (ltD (saidL M k ws))) (sayM M k ws)
  | hadD (n : Int) (h : (M.ends.length : Int) ≤ n) (h0 : n ≤ 1000000) : Cl M (.tup [.str (Str.ofString "had"), .int n]) (.tup [.str (Str.ofString "deed"), .int n]) M
  | hadT (n x : Int) (h : 0 ≤ n) (e : M.ends[n.toNat]? = some x) : Cl M (.tup [.str (Str.ofString "had"), .int n]) (toldD .non) (hadM M x)
  | readN (k : Int) (g : getL k M = []) : Cl M (.tup [.str (Str.ofString "read"), .int k]) (.tup [.str (Str.ofString "talk"), .int k]) M
  | readT (k : Int) (x : Lt) (r : List Lt) (g : getL k M = x :: r) : Cl M (.tup [.str (Str.ofString "read"), .int k]) (toldD .non) (readM M k x r)
  | lostN (k : Int) (g : getL k M = []) : Cl M (.tup [.str (Str.ofString "lost"), .int k]) (.tup [.str (Str.ofString "talk"), .int k]) M
  | lostT (k : Int) (g : getL k M ≠ []) : Cl M (.tup [.str (Str.ofString "lost"), .int k]) (toldD (.int (placeF M k))) (lostM M k)
theorem same_s (x : Str) : decide (x = x) = true := decide_eq_true rfl
section
variable {X : D → Hm → Prop} {h : Hm} {Q : D → Hm → Prop} {t e l p : Nat} {M M' : MS} {call due : D}
theorem Tl.push {o : HD} (T : Tl h t e l p M) : Tl (h ++ [o]) t e l p M := T.keep fun m hm => by
  obtain ⟨a, b, c, d⟩ := T.lt
  rw [List.getElem?_append_left (by rcases hm with rfl | rfl | rfl | rfl <;> assumption)]
end
section
theorem sum_amap {k : Int} {x : List Lt} : ∀ {o : List (Int × List Lt)} {y : List Lt}, (o.map (·.1)).Nodup → aget k o = some y → manyL (o.map fun p => if p.1 = k then (p.1, x) else p) + y.length = manyL o + x.length
  | [], y, _, e => nomatch e
  | p :: r, y, nd, e => by
    rw [List.map_cons, List.nodup_cons] at nd
    by_cases hp : p.1 = k
    · have ey : p.2 = y := by
        have : aget k (p :: r) = some p.2 := if_pos hp
        rw [this] at e; exact Option.some.inj e
      have hr : (r.map fun q => if q.1 = k then (q.1, x) else q) = r := by
        conv => rhs; rw [← List.map_id r]
        refine List.map_congr_left fun q hq => ?_
        rw [if_neg (fun z => nd.1 (by rw [hp, ← z]; exact List.mem_map_of_mem hq))]
        rfl
      rw [List.map_cons, hr, if_pos hp]
      show (x.length + manyL r) + y.length = (p.2.length + manyL r) + x.length
      rw [ey]; omega
    · have e2 : aget k r = some y := by
        have : aget k (p :: r) = aget k r := if_neg hp
        rw [this] at e; exact e
      have ih := sum_amap (x := x) nd.2 e2
      rw [List.map_cons, if_neg hp]
      show (p.2.length + manyL (r.map fun q => if q.1 = k then (q.1, x) else q)) + y.length = (p.2.length + manyL r) + x.length
      omega
theorem manyL_aput {k : Int} {x : List Lt} {M : MS} (nd : (M.opn.map (·.1)).Nodup) : manyL (aput k x M.opn) + (getL k M).length = manyL M.opn + x.length := by
  unfold aput getL
  cases e : aget k M.opn with
  | none =>
    rw [if_neg (by simp), manyL_app]
    simp [manyL]
  | some y =>
    rw [if_pos (by simp)]
    exact sum_amap nd e
theorem getL_many (k : Int) (M : MS) : (getL k M).length ≤ manyL M.opn := by
  unfold getL
  cases e : aget k M.opn with
  | none => exact Nat.zero_le _
  | some y =>
    have hm := aget_mem e
    have : ∀ (o : List (Int × List Lt)), (k, y) ∈ o → y.length ≤ manyL o := fun o => by
      induction o with
      | nil => intro h; cases h
      | cons p r ih =>
        intro h
        show y.length ≤ p.2.length + manyL r
        rcases List.mem_cons.mp h with rfl | h
        · show y.length ≤ y.length + manyL r
          omega
        · have := ih h; omega
    exact this _ hm
theorem aput_len {α : Type} {k : Int} {x : α} {l : List (Int × α)} : (aput k x l).length ≤ l.length + 1 := by
  unfold aput
  split <;> simp
theorem aput_len2 {α : Type} {k : Int} {x y : α} {l : List (Int × α)} (e : aget k l = some y) : (aput k x l).length = l.length := by
  unfold aput
  rw [if_pos (by rw [e]; rfl)]
  simp
/-- what has grown in i calls -/
structure BD (M : MS) (i : Nat) : Prop where
  n : 1 ≤ M.ends.length
  e : M.ends.length ≤ i + 1
  m : manyL M.opn ≤ i
  o : M.opn.length ≤ i
  p : M.plcs.length ≤ i
theorem BD.le {M : MS} {i j : Nat} (b : BD M i) (h : i ≤ j) : BD M j := ⟨b.n, by have := b.e; omega, by have := b.m; omega, by have := b.o; omega, by have := b.p; omega⟩
theorem agetL {k : Int} {M : MS} {x : Lt} {r : List Lt} (g : getL k M = x :: r) : aget k M.opn = some (x :: r) := by
  unfold getL at g
  cases e : aget k M.opn with
  | none => rw [e] at g; cases g
  | some y => rw [e] at g; exact congrArg some g
theorem agetN {k : Int} {M : MS} (g : getL k M ≠ []) : ∃ y, aget k M.opn = some y := by
  unfold getL at g
  cases e : aget k M.opn with
  | none => rw [e] at g; exact absurd rfl g
  | some y => exact ⟨y, rfl⟩
theorem Cl.go {M M' : MS} {call due : D} (c : Cl M call due M') (wf : WF M) {i : Nat} (bd : BD M i) (hi : i ≤ 900) : WF M' ∧ BD M' (i + 1) := by
  have key : ∀ {k : Int} {y ls : List Lt} {su : Int}, aget k M.opn = some y → ls.length ≤ y.length → (∀ x ∈ ls, x ∈ y) → 0 ≤ su → ∀ M2 : MS, M2 = { M with opn := aput k ls M.opn, sure := su } → WF M2 ∧ BD M2 (i + 1) := by
    intro k y ls su e hl hs h0 M2 hM
    subst hM
    have hk := wf.o _ (aget_mem e)
    have ke := keys_aput k ls M.opn
    rw [if_pos (by rw [e]; rfl)] at ke
    have mm := manyL_aput (k := k) (x := ls) wf.nd
    have ey : getL k M = y := by unfold getL; rw [e]; rfl
    rw [ey] at mm
    have al := aput_len2 (x := ls) e
    have := bd.m; have := bd.o
    refine ⟨⟨wf.r0, wf.r1, wf.w, wf.s, wf.f, fun p hp => ?_, ?_, ?_, wf.pl, wf.p0, h0, fun q hq => ?_⟩, ⟨bd.n, by have := bd.e; exact Nat.le_succ_of_le this, ?_, ?_, Nat.le_succ_of_le bd.p⟩⟩
    · rcases mem_aput hp with rfl | hp
      · exact ⟨hk.1, hk.2.1, Nat.le_trans hl hk.2.2.1, fun x hx => hk.2.2.2 x (hs x hx)⟩
      · exact wf.o p hp
    · exact nodup_aput wf.nd
    · show (aput k ls M.opn).length ≤ 1000
      rw [al]; exact wf.ol
    · rcases mem_aput hq with rfl | hq
      · exact wf.kp (k, y) (aget_mem e)
      · exact wf.kp q hq
    · show manyL (aput k ls M.opn) ≤ i + 1
      omega
    · show (aput k ls M.opn).length ≤ i + 1
      omega
  cases c with
  | deedH d r' ws' c g => exact ⟨wf, bd.le (by omega)⟩
  | deedT d r' ws' c g =>
    obtain ⟨a1, a2, a3, a4⟩ := next_ok (s := ⟨M.room, M.first, M.ws⟩) ⟨wf.r0, wf.r1, wf.w, wf.s⟩ c
    refine ⟨⟨a1, a2, a3, a4, by have := wf.f; show 0 ≤ M.first + _; omega, wf.o, wf.nd, wf.ol, wf.pl, wf.p0, wf.s0, wf.kp⟩, ⟨by show 1 ≤ (M.ends ++ [_]).length; rw [List.length_append]; exact Nat.le_add_left _ _, ?_, Nat.le_succ_of_le bd.m, Nat.le_succ_of_le bd.o, Nat.le_succ_of_le bd.p⟩⟩
    show (M.ends ++ [_]).length ≤ i + 1 + 1
    rw [List.length_append]
    have := bd.e
    simpa using this
  | say k ws hk hk2 hw hl =>
    have b1 := bd.m; have b2 := bd.o; have b3 := bd.p; have b4 := bd.e
    have hg := getL_many k M
    have mm := manyL_aput (k := k) (x := getL k M ++ [saidL M k ws]) wf.nd
    rw [List.length_append] at mm
    have l1 : ([saidL M k ws] : List Lt).length = 1 := rfl
    have al1 := aput_len (k := k) (x := getL k M ++ [saidL M k ws]) (l := M.opn)
    have al2 := aput_len (k := k) (x := placeF M k + 1) (l := M.plcs)
    refine ⟨⟨wf.r0, wf.r1, wf.w, wf.s, wf.f, sayM_keyOk wf hk hk2 hw hl (by omega), nodup_aput wf.nd, ?_, ?_, fun q hq => ?_, wf.s0, fun q hq => ?_⟩, ⟨bd.n, Nat.le_succ_of_le b4, ?_, ?_, ?_⟩⟩
    · show (aput k _ M.opn).length ≤ 1000
      omega
    · show (aput k _ M.plcs).length ≤ 1000
      omega
    · rcases mem_aput hq with rfl | hq
      · have := place0 wf k
        show 0 ≤ placeF M k + 1
        omega
      · exact wf.p0 q hq
    · show ∃ x, aget q.1 (aput k (placeF M k + 1) M.plcs) = some x
      rw [aget_aput]
      split
      · exact ⟨_, rfl⟩
      · rename_i hne
        rcases mem_aput hq with rfl | hq
        · exact absurd rfl hne
        · exact wf.kp q hq
    · show manyL (aput k _ M.opn) ≤ i + 1
      omega
    · show (aput k _ M.opn).length ≤ i + 1
      omega
    · show (aput k _ M.plcs).length ≤ i + 1
      omega
  | hadD n hn h0 => exact ⟨wf, bd.le (by omega)⟩
  | hadT n x hn ex =>
    have s1 := wf.s0
    refine ⟨⟨wf.r0, wf.r1, wf.w, wf.s, wf.f, wf.o, wf.nd, wf.ol, wf.pl, wf.p0, ?_, wf.kp⟩, bd.n, (bd.le (Nat.le_succ i) : BD M (i + 1)).e, (bd.le (Nat.le_succ i)).m, (bd.le (Nat.le_succ i)).o, (bd.le (Nat.le_succ i)).p⟩
    show 0 ≤ max M.sure x
    omega
  | readN k g => exact ⟨wf, bd.le (by omega)⟩
  | readT k x r g =>
    have s1 := wf.s0
    exact key (agetL g) (by simp) (fun z hz => by simp [hz]) (show 0 ≤ max M.sure x.need by omega) _ rfl
  | lostN k g => exact ⟨wf, bd.le (by omega)⟩
  | lostT k g =>
    obtain ⟨y, e⟩ := agetN g
    exact key e (Nat.zero_le _) (fun z hz => by cases hz) wf.s0 _ rfl
end
theorem pl_it {r : Int} {n : Nat} {d : D} (i : IsIt r d) : Pl (n + 2) d := by
  cases i with
  | word w h => exact ⟨by simp, fun x hx => by
      simp only [List.mem_cons, List.not_mem_nil, or_false] at hx
      rcases hx with rfl | rfl <;> trivial⟩
  | by_ k a b => exact ⟨by simp, fun x hx => by
      simp only [List.mem_cons, List.not_mem_nil, or_false] at hx
      rcases hx with rfl | rfl <;> trivial⟩
theorem pl_lt {x : Lt} {n : Nat} (hl : x.its.length ≤ 1000) (hi : ∀ d ∈ x.its, IsIt x.need d) : Pl (n + 5) (ltD x) := by
  refine ⟨by simp, fun y hy => ?_⟩
  simp only [List.mem_cons, List.not_mem_nil, or_false] at hy
  rcases hy with rfl | rfl
  · trivial
  refine ⟨by simp, fun y hy => ?_⟩
  simp only [List.mem_cons, List.not_mem_nil, or_false] at hy
  rcases hy with rfl | rfl
  · trivial
  · exact ⟨by omega, fun d hd => pl_it (hi d hd)⟩
theorem pl_told {n : Nat} {d : D} (p : Pl (n + 1) d) : Pl (n + 2) (toldD d) := ⟨by simp, fun x hx => by
  simp only [List.mem_cons, List.not_mem_nil, or_false] at hx
  rcases hx with rfl | rfl
  · trivial
  · exact p⟩
theorem pl_si {n : Nat} {s : Str} {k : Int} : Pl (n + 2) (.tup [.str s, .int k]) := ⟨by simp, fun x hx => by
  simp only [List.mem_cons, List.not_mem_nil, or_false] at hx
  rcases hx with rfl | rfl <;> trivial⟩
theorem Cl.pl {M M' : MS} {call due : D} (c : Cl M call due M') (wf : WF M) : Pl 10 due := by
  cases c with
  | deedH => exact pl_si
  | deedT => exact pl_told trivial
  | say k ws hk hk2 hw hl =>
    have := said_ok wf (k := k) hw hl
    exact pl_told (pl_lt (by omega) this.2.2.2)
  | hadD => exact pl_si
  | hadT => exact pl_told trivial
  | readN => exact pl_si
  | readT => exact pl_told trivial
  | lostN => exact pl_si
  | lostT => exact pl_told trivial
/-- a deed that a book refuses: how, what the law's reckoning tells, what is due -/
inductive Ill (room first : Int) (ws : List Str) : D → D → Str → D → Prop
  | heavy (w : Str) (hw : IsW w) (h : room < wt w) : Ill room first ws (.tup [.str (Str.ofString "put"), .str w]) NoRoomX (Str.ofString "room") (.tup [.str (Str.ofString "room")])
  | far (n : Int) (h : (ws.length : Int) < n) : Ill room first ws (.tup [.str (Str.ofString "again"), .int n]) (NoWordX (first + ws.length - n)) (Str.ofString "word") (.tup [.str (Str.ofString "word"), .int (first + ws.length - n)])
/-- any call: one of those of the law, or a deed that the book refuses -/
inductive Cw (M : MS) : D → D → MS → Prop
  | ok {call due : D} {M' : MS} (c : Cl M call due M') : Cw M call due M'
  | ill {d x b : D} {s : Str} (c : Ill M.room M.first M.ws d x s b) : Cw M (.tup [.str (Str.ofString "deed"), d]) b M
section
variable {X : D → Hm → Prop} {h : Hm} {Q : D → Hm → Prop} {t s e l p : Nat} {M M' : MS} {call due : D}
theorem Cw.go (c : Cw M call due M') (wf : WF M) {i : Nat} (bd : BD M i) (hi : i ≤ 900) : WF M' ∧ BD M' (i + 1) := by
  cases c with
  | ok c => exact c.go wf bd hi
  | ill c => exact ⟨wf, bd.le (by omega)⟩
theorem Cw.pl (c : Cw M call due M') (wf : WF M) : Pl 10 due := by
  cases c with
  | ok c => exact c.pl wf
  | ill c =>
    cases c with
    | heavy w hw hr => exact ⟨by simp, fun x hx => by
        simp only [List.mem_cons, List.not_mem_nil, or_false] at hx
        subst hx; trivial⟩
    | far n hn => exact pl_si
end
/-- where a teller and the law's stand lie -/
structure Pls where
  t : Nat
  e : Nat
  l : Nat
  p : Nat
  s : Nat
  e2 : Nat
  l2 : Nat
  p2 : Nat
def Pls.tel (P : Pls) (m : Nat) : Prop := m = P.t ∨ m = P.e ∨ m = P.l ∨ m = P.p
def Pls.std (P : Pls) (m : Nat) : Prop := m = P.s ∨ m = P.e2 ∨ m = P.l2 ∨ m = P.p2
def Pls.has (P : Pls) (m : Nat) : Prop := P.tel m ∨ P.std m
/-- a teller and the law's stand, alike -/
structure Two (h : Hm) (P : Pls) (M : MS) : Prop where
  T : Tl h P.t P.e P.l P.p M
  Z : Sd h P.s P.e2 P.l2 P.p2 M
  d : ∀ m, P.tel m → ¬ P.std m
theorem Tl.keepP {h h' : Hm} {P : Pls} {M : MS} (T : Tl h P.t P.e P.l P.p M) (k : ∀ m, P.tel m → h'[m]? = h[m]?) : Tl h' P.t P.e P.l P.p M := T.keep k
theorem Sd.keepP {h h' : Hm} {P : Pls} {M : MS} (T : Sd h P.s P.e2 P.l2 P.p2 M) (k : ∀ m, P.std m → h'[m]? = h[m]?) : Sd h' P.s P.e2 P.l2 P.p2 M := T.keep k
theorem Two.keep {h h' : Hm} {P : Pls} {M : MS} (W : Two h P M) (k : ∀ m, P.has m → h'[m]? = h[m]?) : Two h' P M :=
  ⟨W.T.keepP fun m hm => k m (.inl hm), W.Z.keepP fun m hm => k m (.inr hm), W.d⟩
theorem Two.lt {h : Hm} {P : Pls} {M : MS} (W : Two h P M) {m : Nat} (hm : P.has m) : m < h.length := by
  obtain ⟨a, b, c, d⟩ := W.T.lt
  obtain ⟨e, f, g, i⟩ := W.Z.lt
  rcases hm with hm | hm <;> rcases hm with rfl | rfl | rfl | rfl <;> assumption
section
variable {X : D → Hm → Prop} {h : Hm} {Q : D → Hm → Prop} {P : Pls} {M M' : MS} {call due : D}
theorem Fr4.tel {h' : Hm} (f : Fr4 P.t P.e P.l P.p h h') {m : Nat} (hm : ¬ P.tel m) : h'[m]? = h[m]? := f.oth m (fun e => hm (.inl e)) (fun e => hm (.inr (.inl e))) (fun e => hm (.inr (.inr (.inl e)))) fun e => hm (.inr (.inr (.inr e)))
theorem Fr4.std {h' : Hm} (f : Fr4 P.s P.e2 P.l2 P.p2 h h') {m : Nat} (hm : ¬ P.std m) : h'[m]? = h[m]? := f.oth m (fun e => hm (.inl e)) (fun e => hm (.inr (.inl e))) (fun e => hm (.inr (.inr (.inl e)))) fun e => hm (.inr (.inr (.inr e)))
end
section
variable {α : Type}
def pget (k : P2) : List (P2 × α) → Option α
  | [] => none
  | (j, x) :: r => if j = k then some x else pget k r
def pput (k : P2) (x : α) (l : List (P2 × α)) : List (P2 × α) := if (pget k l).isSome = true then l.map (fun p => if p.1 = k then (p.1, x) else p) else l ++ [(k, x)]
def pdrop (k : P2) (l : List (P2 × α)) : List (P2 × α) := l.filter fun p => decide (p.1 ≠ k)
def mkP (f : α → D) (l : List (P2 × α)) : List (D × D) := l.map fun p => (p2D p.1, f p.2)
theorem pget_mem {k : P2} {x : α} : ∀ {l : List (P2 × α)}, pget k l = some x → (k, x) ∈ l
  | (j, y) :: r, h => by
    unfold pget at h
    split at h
    · rename_i e; injection h with h; rw [e, h]; simp
    · exact List.mem_cons_of_mem _ (pget_mem h)
theorem pget_of_key {k : P2} : ∀ {l : List (P2 × α)}, k ∈ l.map (·.1) → ∃ x, pget k l = some x
  | (j, y) :: r, h => by
    unfold pget
    by_cases e : j = k
    · rw [if_pos e]; exact ⟨_, rfl⟩
    · rw [if_neg e]
      simp only [List.map_cons, List.mem_cons] at h
      exact pget_of_key (h.resolve_left fun z => e z.symm)
theorem keys_pput (k : P2) (x : α) (l : List (P2 × α)) : (pput k x l).map (·.1) = if (pget k l).isSome = true then l.map (·.1) else l.map (·.1) ++ [k] := by
  unfold pput
  split
  · rw [List.map_map]
    refine List.map_congr_left fun p _ => ?_
    show (if p.1 = k then (p.1, x) else p).1 = p.1
    split <;> rfl
  · rw [List.map_append]; rfl
theorem pget_none {k : P2} {l : List (P2 × α)} : pget k l = none ↔ k ∉ l.map (·.1) := by
  constructor
  · intro h hm
    obtain ⟨x, e⟩ := pget_of_key hm
    rw [h] at e; cases e
  · intro h
    cases e : pget k l with
    | none => rfl
    | some x => exact absurd (List.mem_map_of_mem (f := (·.1)) (pget_mem e)) h
theorem nodup_pput {k : P2} {x : α} {l : List (P2 × α)} (h : (l.map (·.1)).Nodup) : ((pput k x l).map (·.1)).Nodup := by
  rw [keys_pput]
  split
  · exact h
  · rename_i e
    have : k ∉ l.map (·.1) := pget_none.mp (by cases q : pget k l with | none => rfl | some y => rw [q] at e; exact absurd rfl e)
    exact List.nodup_append.mpr ⟨h, by simp, fun a ha b hb => by rw [List.mem_singleton.mp hb]; exact fun z => this (by rw [← z]; exact ha)⟩
theorem mem_pput {k : P2} {x : α} {l : List (P2 × α)} {p : P2 × α} (h : p ∈ pput k x l) : p = (k, x) ∨ p ∈ l := by
  unfold pput at h
  split at h
  · obtain ⟨q, hq, e⟩ := List.mem_map.mp h
    by_cases z : q.1 = k
    · rw [if_pos z] at e; left; rw [← e, z]
    · rw [if_neg z] at e; right; rw [← e]; exact hq
  · rcases List.mem_append.mp h with h | h
    · exact .inr h
    · exact .inl (List.mem_singleton.mp h)
end
structure Lx where
  need : Int
  its : List D
def leD (x : Lx) : D := .tup [.int x.need, .tup x.its]
structure HM where
  room : Int
  first : Int
  ws : List Str
  many : Int
  ahead : List (Int × D)
  kept : List (P2 × Lx)
  plcs : List (Int × Int)
def HM.bk (M : HM) : D := bookD M.room M.first M.ws
def heaF (M : HM) (a k p : Nat) : List (Str × D) := [("store", M.bk), ("many", .int M.many), ("ahead", .ref a), ("kept", .ref k), ("places", .ref p)]
/-- a hearer stands at t -/
structure He (h : Hm) (t a k p : Nat) (M : HM) : Prop where
  fi : h[t]? = some (.ins "Hearer" (heaF M a k p))
  fa : h[a]? = some (.dct (mkA id M.ahead))
  fk : h[k]? = some (.dtt (mkP leD M.kept))
  fp : h[p]? = some (.dct (mkA D.int M.plcs))
  ap : a ≠ p
theorem He.ne {h : Hm} {t a k p : Nat} {M : HM} (T : He h t a k p M) : t ≠ a ∧ t ≠ k ∧ t ≠ p ∧ a ≠ k ∧ k ≠ p := by
  have e1 := T.fi; have e2 := T.fa; have e3 := T.fk; have e4 := T.fp
  refine ⟨fun z => ?_, fun z => ?_, fun z => ?_, fun z => ?_, fun z => ?_⟩ <;> subst z
  · rw [e1] at e2; cases e2
  · rw [e1] at e3; cases e3
  · rw [e1] at e4; cases e4
  · rw [e2] at e3; cases e3
  · rw [e3] at e4; cases e4
theorem He.keep {h h' : Hm} {t a k p : Nat} {M : HM} (T : He h t a k p M) (q : ∀ m, m = t ∨ m = a ∨ m = k ∨ m = p → h'[m]? = h[m]?) : He h' t a k p M :=
  ⟨(q t (by simp)).trans T.fi, (q a (by simp)).trans T.fa, (q k (by simp)).trans T.fk, (q p (by simp)).trans T.fp, T.ap⟩
theorem He.lt {h : Hm} {t a k p : Nat} {M : HM} (T : He h t a k p M) : t < h.length ∧ a < h.length ∧ k < h.length ∧ p < h.length :=
  ⟨(List.getElem?_eq_some_iff.mp T.fi).1, (List.getElem?_eq_some_iff.mp T.fa).1, (List.getElem?_eq_some_iff.mp T.fk).1, (List.getElem?_eq_some_iff.mp T.fp).1⟩
theorem hne : (("many" : Str) ≠ "store") ∧ (("ahead" : Str) ≠ "store") ∧ (("ahead" : Str) ≠ "many") ∧ (("kept" : Str) ≠ "store") ∧ (("kept" : Str) ≠ "many") ∧ (("kept" : Str) ≠ "ahead") ∧ (("places" : Str) ≠ "store") ∧ (("places" : Str) ≠ "many") ∧ (("places" : Str) ≠ "ahead") ∧ (("places" : Str) ≠ "kept") := by decide +kernel
section
variable {X : D → Hm → Prop} {h : Hm} {Q : D → Hm → Prop} {t a k p : Nat} {M : HM} {v : Ev}
def placeH (M : HM) (j : Int) : Int := (aget j M.plcs).getD 0
def nextH (M : HM) : Int := M.first + (M.ws.length : Int)
def readM1 (M : HM) (q : P2) : HM := { M with kept := pdrop q M.kept, plcs := aput q.1 (q.2 + 1) M.plcs }
theorem pdrop_lt {l : List (P2 × Lx)} {q : P2} {x : Lx} (e : pget q l = some x) : (pdrop q l).length < l.length := by
  have hm := pget_mem e
  unfold pdrop
  have : ∀ l : List (P2 × Lx), (q, x) ∈ l → (l.filter fun p => decide (p.1 ≠ q)).length < l.length := fun l => by
    induction l with
    | nil => intro h; cases h
    | cons b r ih =>
      intro h
      rw [List.filter_cons]
      rcases List.mem_cons.mp h with rfl | h
      · have := List.length_filter_le (fun p : P2 × Lx => decide (p.1 ≠ q)) r
        simp
        simpa using Nat.lt_succ_of_le this
      · have := ih h
        split
        · simp only [List.length_cons]; omega
        · simp only [List.length_cons]; omega
  exact this l hm
/-- what may stand there -/
structure HW (M : HM) (i : Nat) : Prop where
  r0 : 0 ≤ M.room
  r1 : M.room ≤ 200
  w : Words M.ws
  s : sumW M.ws ≤ M.room
  f : 0 ≤ M.first
  kt : ∀ q ∈ M.kept, q.2.its.length ≤ 8 ∧ 0 ≤ q.2.need ∧ ∀ d ∈ q.2.its, IsIt q.2.need d
  n : M.plcs.length + M.kept.length ≤ i
  al : M.ahead.length ≤ i
  ad : ∀ q ∈ M.ahead, IsDeed q.2
  nd : (M.kept.map (·.1)).Nodup
theorem aput_le {α : Type} {j : Int} {x : α} {l : List (Int × α)} : (aput j x l).length ≤ l.length + 1 := by
  unfold aput
  split <;> simp
theorem HW.read {M : HM} {i : Nat} (wf : HW M i) {q : P2} {x : Lx} (e : pget q M.kept = some x) : HW (readM1 M q) i := by
  have h1 := pdrop_lt e
  have h2 := aput_le (j := q.1) (x := q.2 + 1) (l := M.plcs)
  have h3 := wf.n
  refine ⟨wf.r0, wf.r1, wf.w, wf.s, wf.f, fun q2 hq => wf.kt q2 (List.mem_filter.mp hq).1, ?_, wf.al, wf.ad, (List.filter_sublist.map _).nodup wf.nd⟩
  show (aput q.1 (q.2 + 1) M.plcs).length + (pdrop q M.kept).length ≤ i
  omega
theorem clP_kept {N : Nat} : ∀ {o : List (P2 × Lx)}, (∀ q ∈ o, ∀ d ∈ q.2.its, IsIt q.2.need d) → clP N (mkP leD o) = true
  | [], _ => rfl
  | q :: r, h => by
    have ih := clP_kept (N := N) (o := r) fun q hq => h q (by simp [hq])
    have hq := h q (by simp)
    show (D.cl N (p2D q.1) && (D.cl N (leD q.2) && clP N (mkP leD r))) = true
    rw [ih]
    have : D.clL N q.2.its = true := clL_all fun d hd => itcl (hq d hd)
    simp [p2D, leD, D.cl, D.clL, this]
theorem He.tr {h h1 : Hm} {t a k p : Nat} {M M' : HM} {i : Nat} (T : He h t a k p M) (T1 : He h1 t a k p M') (wf : HW M' i) (hl : h.length ≤ h1.length) (hs : ∀ m < h.length, m ≠ t → m ≠ a → m ≠ k → m ≠ p → h1[m]? = h[m]?) :
    trOk h h1 h.length = true ∧ He (h1.take h.length) t a k p M' ∧ Fr4 t a k p h (h1.take h.length) := by
  obtain ⟨l1, l2, l3, l4⟩ := T.lt
  have tk : ∀ m, m < h.length → (h1.take h.length)[m]? = h1[m]? := fun m hm => List.getElem?_take_of_lt hm
  refine ⟨trOk_of hl fun m o q e1 e2 => ?_, T1.keep fun m hm => tk m (by rcases hm with rfl | rfl | rfl | rfl <;> assumption), by rw [List.length_take]; omega, fun m h1' h2' h3' h4' => ?_⟩
  · have hm := (List.getElem?_eq_some_iff.mp e1).1
    by_cases m1 : m = t
    · subst m1
      rw [T1.fi] at e2; injection e2 with e2; subst e2
      refine .inr ?_
      show D.clF h.length (heaF M' a k p) = true
      simp only [heaF, D.clF, D.cl, HM.bk, bookD, D.clL, Bool.true_and, Bool.and_true, l2, l3, l4, decide_true]
      rw [clL_all fun d hd => by obtain ⟨z, _, rfl⟩ := List.mem_map.mp hd; rfl]
    · by_cases m2 : m = a
      · subst m2
        rw [T1.fa] at e2; injection e2 with e2; subst e2
        refine .inr ?_
        show clP h.length (mkA id M'.ahead) = true
        have : ∀ o : List (Int × D), (∀ q ∈ o, IsDeed q.2) → clP h.length (mkA id o) = true := fun o => by
          induction o with
          | nil => intro _; rfl
          | cons q r ih =>
            intro hq
            have i2 := ih fun z hz => hq z (by simp [hz])
            show (D.cl h.length (.int q.1) && (D.cl h.length q.2 && clP h.length (mkA id r))) = true
            rw [i2]
            have : D.cl h.length q.2 = true := by
              have z := hq q (by simp)
              revert z
              generalize q.2 = d
              intro z
              cases z <;> rfl
            simp [D.cl, this]
        exact this _ wf.ad
      · by_cases m3 : m = k
        · subst m3
          rw [T1.fk] at e2; injection e2 with e2; subst e2
          exact .inr (clP_kept fun q hq => (wf.kt q hq).2.2)
        · by_cases m4 : m = p
          · subst m4
            rw [T1.fp] at e2; injection e2 with e2; subst e2
            exact .inr (clP_ints _)
          · have := hs m hm m1 m2 m3 m4
            rw [e1, e2] at this
            injection this with this
            exact .inl this
  · by_cases hm : m < h.length
    · rw [tk m hm]; exact hs m hm h1' h2' h3' h4'
    · rw [List.getElem?_eq_none (l := h) (by omega), List.getElem?_eq_none (by simp only [List.length_take]; omega)]
def hearM (M : HM) (q : P2) (x : Lx) : HM := if placeH M q.1 ≤ q.2 ∧ pget q M.kept = none then { M with kept := pput q x M.kept } else M
theorem pput_le {q : P2} {x : Lx} {l : List (P2 × Lx)} : (pput q x l).length ≤ l.length + 1 := by
  unfold pput; split <;> simp
theorem HW.le {i j : Nat} (wf : HW M i) (hij : i ≤ j) : HW M j := ⟨wf.r0, wf.r1, wf.w, wf.s, wf.f, wf.kt, by have := wf.n; omega, by have := wf.al; omega, wf.ad, wf.nd⟩
theorem HW.hear {i : Nat} (wf : HW M i) {q : P2} {x : Lx} (h1 : x.its.length ≤ 8) (h2 : 0 ≤ x.need) (h3 : ∀ d ∈ x.its, IsIt x.need d) : HW (hearM M q x) (i + 1) := by
  unfold hearM
  split
  · have := pput_le (q := q) (x := x) (l := M.kept)
    have hn := wf.n
    refine ⟨wf.r0, wf.r1, wf.w, wf.s, wf.f, fun p hp => ?_, ?_, Nat.le_succ_of_le wf.al, wf.ad, nodup_pput wf.nd⟩
    · rcases mem_pput hp with rfl | hp
      · exact ⟨h1, h2, h3⟩
      · exact wf.kt p hp
    · show M.plcs.length + (pput q x M.kept).length ≤ i + 1
      omega
  · exact wf.le (Nat.le_succ i)
def skipK (j pl : Int) (l : List (P2 × Lx)) : List (P2 × Lx) := l.filter fun q => !(decide (q.1.1 = j) && decide (q.1.2 < pl))
def skipM (M : HM) (j pl : Int) : HM := { M with kept := skipK j pl M.kept, plcs := aput j (max pl (placeH M j)) M.plcs }
theorem HW.skip {i : Nat} (wf : HW M i) {j pl : Int} : HW (skipM M j pl) (i + 1) := by
  have h1 := aput_le (j := j) (x := max pl (placeH M j)) (l := M.plcs)
  have h2 := List.length_filter_le (fun q : P2 × Lx => !(decide (q.1.1 = j) && decide (q.1.2 < pl))) M.kept
  have h3 := wf.n
  refine ⟨wf.r0, wf.r1, wf.w, wf.s, wf.f, fun q hq => wf.kt q (List.mem_filter.mp hq).1, ?_, Nat.le_succ_of_le wf.al, wf.ad, (List.filter_sublist.map _).nodup wf.nd⟩
  show (aput j (max pl (placeH M j)) M.plcs).length + (skipK j pl M.kept).length ≤ i + 1
  unfold skipK
  omega
theorem Can.uniq {room : Int} {ws : List Str} {d : D} {r1 r2 : Int} {w1 w2 : List Str} (a : Can room ws d r1 w1) (b : Can room ws d r2 w2) : r1 = r2 ∧ w1 = w2 := by
  have ne1 : Str.ofString "put" ≠ Str.ofString "again" := by decide +kernel
  have ne2 : Str.ofString "put" ≠ Str.ofString "room" := by decide +kernel
  have ne3 : Str.ofString "again" ≠ Str.ofString "room" := by decide +kernel
  cases a with
  | put w h hr =>
    generalize hd : D.tup [.str (Str.ofString "put"), .str w] = d at b
    cases b with
    | put w2 h2 hr2 => simp at hd; subst hd; exact ⟨rfl, rfl⟩
    | again n w2 h0 h1 e hr2 => simp at hd
    | room _ h0 h1 => simp at hd
  | again n w h0 h1 e hr =>
    generalize hd : D.tup [.str (Str.ofString "again"), .int n] = d at b
    cases b with
    | put w2 h2 hr2 => simp at hd
    | again n2 w2 h02 h12 e2 hr2 =>
      simp at hd
      subst hd
      rw [e] at e2
      cases e2
      exact ⟨rfl, rfl⟩
    | room _ h02 h12 => simp [ne3] at hd
  | room _ h0 h1 =>
    generalize hd : D.tup [.str (Str.ofString "room"), .int r1] = d at b
    cases b with
    | put w2 h2 hr2 => simp at hd
    | again n2 w2 h02 h12 e2 hr2 => simp [Ne.symm ne3] at hd
    | room _ h02 h12 => simp at hd; exact ⟨hd, rfl⟩
/-- the book goes on by a deed, where it can be done -/
noncomputable def goM (M : HM) (d : D) : HM := open Classical in
  if c : ∃ p : Int × List Str, Can M.room M.ws d p.1 p.2 then
    { M with room := (choose c).1, first := M.first + (((choose c).2.length - (stay (choose c).1 (choose c).2).length : Nat) : Int), ws := stay (choose c).1 (choose c).2 }
  else M
theorem goM_can {M : HM} {d : D} {r' : Int} {ws' : List Str} (c : Can M.room M.ws d r' ws') : goM M d = { M with room := r', first := M.first + ((ws'.length - (stay r' ws').length : Nat) : Int), ws := stay r' ws' } := by
  have hc : ∃ p : Int × List Str, Can M.room M.ws d p.1 p.2 := ⟨(r', ws'), c⟩
  unfold goM
  rw [dif_pos hc]
  obtain ⟨e1, e2⟩ := Can.uniq (Classical.choose_spec hc) c
  rw [e1, e2]
theorem goM_not {M : HM} {d : D} (c : ¬ ∃ r' ws', Can M.room M.ws d r' ws') : goM M d = M := by
  unfold goM
  rw [dif_neg fun z => by obtain ⟨q, hq⟩ := z; exact c ⟨_, _, hq⟩]
theorem HW.go {i : Nat} (wf : HW M i) (d : D) : HW (goM M d) i := by
  by_cases hc : ∃ r' ws', Can M.room M.ws d r' ws'
  · obtain ⟨r', ws', c⟩ := hc
    rw [goM_can c]
    obtain ⟨a1, a2, a3, a4⟩ := next_ok (s := ⟨M.room, M.first, M.ws⟩) ⟨wf.r0, wf.r1, wf.w, wf.s⟩ c
    have hf := wf.f
    exact ⟨a1, a2, a3, a4, by show 0 ≤ M.first + _; omega, wf.kt, wf.n, wf.al, wf.ad, wf.nd⟩
  · rw [goM_not hc]; exact wf
noncomputable def goOne (M : HM) (d : D) : HM := goM { M with many := M.many + 1, ahead := adrop (M.many + 1) M.ahead } d
def takeM (M : HM) (n : Int) (d : D) : HM := if M.many < n ∧ aget n M.ahead = none then { M with ahead := aput n d M.ahead } else M
theorem HW.take {i : Nat} (wf : HW M i) {n : Int} {d : D} (hd : IsDeed d) : HW (takeM M n d) (i + 1) := by
  unfold takeM
  split
  · have h1 := aput_le (j := n) (x := d) (l := M.ahead)
    have h2 := wf.al
    refine ⟨wf.r0, wf.r1, wf.w, wf.s, wf.f, wf.kt, Nat.le_succ_of_le wf.n, ?_, fun q hq => ?_, wf.nd⟩
    · show (aput n d M.ahead).length ≤ i + 1
      omega
    · rcases mem_aput hq with rfl | hq
      · exact hd
      · exact wf.ad q hq
  · exact wf.le (Nat.le_succ i)
theorem HW.one {i : Nat} (wf : HW M i) (d : D) : HW (goOne M d) i := by
  refine HW.go ?_ d
  have h1 := List.length_filter_le (fun p : Int × D => decide (p.1 ≠ M.many + 1)) M.ahead
  have h2 := wf.al
  exact ⟨wf.r0, wf.r1, wf.w, wf.s, wf.f, wf.kt, wf.n, by show (adrop (M.many + 1) M.ahead).length ≤ i; unfold adrop; omega, fun q hq => wf.ad q (List.mem_filter.mp hq).1, wf.nd⟩
end
def m_law_short_b : SM :=
  (sSeq (sAsg (gN 3) (eF m_law_spoon (aC (eV 0) (aC (eC (.int 4)) aN))))
  (sSeq (sAsg (gN 4) (eB opIx (eLst (aC (eC (.int 1)) (aC (eC (.int 2)) (aC (eB opAdd (eC (.int 1)) (eF m_law_spoon (aC (eV 0) (aC (eC (.int 8)) aN)))) aN)))) (eF m_law_spoon (aC (eV 0) (aC (eC (.int 3)) aN)))))
  (sSeq (sAsg (gN 5) (eB opIx (eLst (aC (eC (.int 0)) (aC (eF m_law_spoon (aC (eV 0) (aC (eB opAdd (eV 1) (eC (.int 2))) aN))) (aC (eF bMax (aC (eC (.int 0)) (aC (eB opSub (eV 1) (eF m_law_spoon (aC (eV 0) (aC (eC (.int 6)) aN)))) aN))) (aC (eV 1) aN))))) (eV 3)))
  (sSeq (sAsg (gN 6) (eNew aN))
  (sSeq (sFor (gN 7) (wR1 (eV 4)) (sSeq (sAsg (gN 8) (eF m_law_spoon (aC (eV 0) (aC (eC (.int 4)) aN))))
  (sSeq (sAsg (gN 9) (eB opAdd (eC (.int 1)) (eF m_law_spoon (aC (eV 0) (aC (eF bMax (aC (eC (.int 1)) (aC (eF bMin (aC (eV 5) (aC (eB opIx (eLst (aC (eC (.int 3)) (aC (eC (.int 12)) aN))) (eB opMod (eV 8) (eC (.int 2)))) aN))) aN))) aN)))))
  (sIf (tOr (tE (eB opEq (eV 8) (eC (.int 0)))) (tE (eB opEq (eV 5) (eC (.int 0))))) (sExpr (eM "list" mAppend (eV 6) (aC (eTup (aC (eC (.str (Str.ofString "word"))) (aC (eB opIx (eV 2) (eF m_law_spoon (aC (eV 0) (aC (eF bLen (aC (eV 2) aN)) aN)))) aN))) aN))) (sExpr (eM "list" mAppend (eV 6) (aC (eTup (aC (eC (.str (Str.ofString "by"))) (aC (eF bMin (aC (eV 5) (aC (eV 9) aN))) aN))) aN)))))))
  (sRet (eTup (aC (eV 5) (aC (eF bTuple (aC (eV 6) aN)) aN)))))))))
def m_law_short : FM := tr (fn0 3 10 m_law_short_b)
def earD (M : HM) (d l n : Nat) : List (D × D) := [(.str (Str.ofString "book"), M.bk), (.str (Str.ofString "had"), .int M.many), (.str (Str.ofString "deeds"), .ref d), (.str (Str.ofString "letters"), .ref l), (.str (Str.ofString "next"), .ref n)]
structure Ea (h : Hm) (s d l n : Nat) (M : HM) : Prop where
  fi : h[s]? = some (.dct (earD M d l n))
  fa : h[d]? = some (.dct (mkA id M.ahead))
  fk : h[l]? = some (.dtt (mkP leD M.kept))
  fp : h[n]? = some (.dct (mkA D.int M.plcs))
  sd : s ≠ d
  sn : s ≠ n
  dn : d ≠ n
theorem Ea.ne {h : Hm} {s d l n : Nat} {M : HM} (T : Ea h s d l n M) : s ≠ l ∧ d ≠ l ∧ l ≠ n := by
  have e1 := T.fi; have e2 := T.fa; have e3 := T.fk; have e4 := T.fp
  refine ⟨fun z => ?_, fun z => ?_, fun z => ?_⟩ <;> subst z
  · rw [e1] at e3; cases e3
  · rw [e2] at e3; cases e3
  · rw [e3] at e4; cases e4
theorem Ea.keep {h h' : Hm} {s d l n : Nat} {M : HM} (T : Ea h s d l n M) (q : ∀ m, m = s ∨ m = d ∨ m = l ∨ m = n → h'[m]? = h[m]?) : Ea h' s d l n M :=
  ⟨(q s (by simp)).trans T.fi, (q d (by simp)).trans T.fa, (q l (by simp)).trans T.fk, (q n (by simp)).trans T.fp, T.sd, T.sn, T.dn⟩
theorem Ea.lt {h : Hm} {s d l n : Nat} {M : HM} (T : Ea h s d l n M) : s < h.length ∧ d < h.length ∧ l < h.length ∧ n < h.length :=
  ⟨(List.getElem?_eq_some_iff.mp T.fi).1, (List.getElem?_eq_some_iff.mp T.fa).1, (List.getElem?_eq_some_iff.mp T.fk).1, (List.getElem?_eq_some_iff.mp T.fp).1⟩
section
variable {X : D → Hm → Prop} {h : Hm} {Q : D → Hm → Prop} {s d l n : Nat} {M : HM}
theorem Ea.tr {h h1 : Hm} {s d l n : Nat} {M M' : HM} {i : Nat} (T : Ea h s d l n M) (T1 : Ea h1 s d l n M') (wf : HW M' i) (hl : h.length ≤ h1.length) (hs : ∀ m < h.length, m ≠ s → m ≠ d → m ≠ l → m ≠ n → h1[m]? = h[m]?) :
    trOk h h1 h.length = true ∧ Ea (h1.take h.length) s d l n M' ∧ Fr4 s d l n h (h1.take h.length) := by
  obtain ⟨l1, l2, l3, l4⟩ := T.lt
  have tk : ∀ m, m < h.length → (h1.take h.length)[m]? = h1[m]? := fun m hm => List.getElem?_take_of_lt hm
  refine ⟨trOk_of hl fun m o q e1 e2 => ?_, T1.keep fun m hm => tk m (by rcases hm with rfl | rfl | rfl | rfl <;> assumption), by rw [List.length_take]; omega, fun m h1' h2' h3' h4' => ?_⟩
  · have hm := (List.getElem?_eq_some_iff.mp e1).1
    by_cases m1 : m = s
    · subst m1
      rw [T1.fi] at e2; injection e2 with e2; subst e2
      refine .inr ?_
      show clP h.length (earD M' d l n) = true
      have hw : D.clL h.length (M'.ws.map D.str) = true := clL_all fun d hd => by obtain ⟨z, _, rfl⟩ := List.mem_map.mp hd; rfl
      simp only [earD, clP, D.cl, HM.bk, bookD, D.clL, Bool.true_and, Bool.and_true, l2, l3, l4, decide_true, hw]
    · by_cases m2 : m = d
      · subst m2
        rw [T1.fa] at e2; injection e2 with e2; subst e2
        refine .inr ?_
        show clP h.length (mkA id M'.ahead) = true
        have : ∀ o : List (Int × D), (∀ q ∈ o, IsDeed q.2) → clP h.length (mkA id o) = true := fun o => by
          induction o with
          | nil => intro _; rfl
          | cons q r ih =>
            intro hq
            have i2 := ih fun z hz => hq z (by simp [hz])
            show (D.cl h.length (.int q.1) && (D.cl h.length q.2 && clP h.length (mkA id r))) = true
            rw [i2]
            have : D.cl h.length q.2 = true := by
              have z := hq q (by simp)
              revert z
              generalize q.2 = d
              intro z
              cases z <;> rfl
            simp [D.cl, this]
        exact this _ wf.ad
      · by_cases m3 : m = l
        · subst m3
          rw [T1.fk] at e2; injection e2 with e2; subst e2
          exact .inr (clP_kept fun q hq => (wf.kt q hq).2.2)
        · by_cases m4 : m = n
          · subst m4
            rw [T1.fp] at e2; injection e2 with e2; subst e2
            exact .inr (clP_ints _)
          · have := hs m hm m1 m2 m3 m4
            rw [e1, e2] at this
            injection this with this
            exact .inl this
  · by_cases hm : m < h.length
    · rw [tk m hm]; exact hs m hm h1' h2' h3' h4'
    · rw [List.getElem?_eq_none (l := h) (by omega), List.getElem?_eq_none (by simp only [List.length_take]; omega)]
/-- a call of a hearer, and what stands before reading -/
inductive Hc (M : HM) : D → HM → Prop
  | hear (q : P2) (x : Lx) (h1 : x.its.length ≤ 8) (h2 : 0 ≤ x.need) (h3 : ∀ d ∈ x.its, IsIt x.need d) : Hc M (.tup [.str (Str.ofString "hear"), .int q.1, .int q.2, leD x]) (hearM M q x)
  | skip (j pl : Int) : Hc M (.tup [.str (Str.ofString "skip"), .int j, .int pl]) (skipM M j pl)
  | take (n : Int) (d : D) (hd : IsDeed d) : Hc M (.tup [.str (Str.ofString "take"), .int n, d]) (takeM M n d)
theorem Hc.go {M M1 : HM} {call : D} {i : Nat} (c : Hc M call M1) (wf : HW M i) : HW M1 (i + 1) := by
  cases c with
  | hear q x h1 h2 h3 => exact wf.hear h1 h2 h3
  | skip j pl => exact wf.skip
  | take n d hd => exact wf.take hd
def Idle (M : HM) : Prop := aget (M.many + 1) M.ahead = none
end
section
variable {h : Hm} {Q : D → Hm → Prop} {n B : Nat}
theorem hshort {some_ : List Str} {most : Int} (hsome : Words some_) (hpos : 1 ≤ some_.length) (hlen : some_.length ≤ 1000) (m0 : 0 ≤ most) (m1 : most ≤ 100000) (w : Bow n (B + 40) h)
    (q : ∀ x h', x.its.length ≤ 8 → 0 ≤ x.need → x.need ≤ most + 1 → (∀ d ∈ x.its, IsIt x.need d) → Drew n B h h' → Q (leD x) h') : Sat (m_law_short [.ref n, .int most, .lst (some_.map D.str)] h) Q := by
  refine sa_tr (sa_fn rfl ?_)
  unfold m_law_short_b
  simp only [List.map_cons, List.map_nil, List.replicate, Nat.reduceSub, List.cons_append, List.nil_append]
  array_get_dec
  refine spoon (B := B + 39) w (by decide) (by decide) fun way h1 a1 a2 d1 => ?_
  array_get_dec
  refine spoon (B := B + 38) d1.bow (by decide) (by decide) fun u1 h2 b1 b2 d2 => ?_
  array_get_dec
  refine spoon (B := B + 37) d2.bow (by decide) (by decide) fun u2 h3 c1 c2 d3 => ?_
  refine so_ixP (IntIn 1 8) (by
    repeat refine all_cons (.mk (by omega) (by omega)) ?_
    exact all_nil) c1 (by simpa using c2) ?_
  rintro _ ⟨many, rfl, t1, t2⟩
  array_get_dec
  refine spoon (B := B + 36) d3.bow (by omega) (by omega) fun u3 h4 e1 e2 d4 => ?_
  array_get_dec
  refine spoon (B := B + 35) d4.bow (by decide) (by decide) fun u4 h5 f1 f2 d5 => ?_
  array_get_dec
  refine so_ixP (IntIn 0 (most + 1)) (by
    repeat refine all_cons (.mk (by omega) (by omega)) ?_
    exact all_nil) a1 (by simpa using a2) ?_
  rintro _ ⟨need, rfl, t3, t4⟩
  array_get_dec
  have dd := ((((d1.trans d2).trans d3).trans d4).trans d5)
  have d0 : DrewX n (B + 35) h (h5 ++ [.lst []]) := dd.x.push
  have ln5 : h5.length = h.length := dd.len
  have ee : (h5 ++ [HD.lst []])[h5.length]? = some (.lst []) := by simp
  rw [ln5] at ee ⊢
  have hLn : h.length ≠ n := by have := d0.lt; omega
  generalize h5 ++ [HD.lst []] = h6 at d0 ee
  refine ss_forR many.toNat (fun i v h' => ∃ (its : List D) (x7 x8 x9 : Option D), v = [some (.ref n), some (.int most), some (.lst (some_.map D.str)), some (.int way), some (.int many), some (.int need), some (.ref h.length), x7, x8, x9] ∧ h'[h.length]? = some (.lst its) ∧ its.length = i ∧ (∀ d ∈ its, IsIt need d) ∧ DrewX n (B + 4 * (many.toNat - i)) h h') (by
    array_get_dec
    exact ⟨by omega, by omega, rfl, rfl⟩) ⟨[], _, _, _, rfl, ee, rfl, (fun _ z => nomatch z), d0.le (by omega)⟩ ?_ ?_
  · rintro i v h' hi ⟨its, x7, x8, x9, rfl, el, hl, hd, dx⟩
    simp only [List.set_cons_zero, List.set_cons_succ]
    array_get_dec
    refine spoon (B := B + 4 * (many.toNat - i) - 1) (dx.bow.le (by omega)) (by decide) (by decide) fun kind h7 g1 g2 d7 => ?_
    array_get_dec
    refine so_ixP (IntIn 3 12) (by
      repeat refine all_cons (.mk (by omega) (by omega)) ?_
      exact all_nil) (by omega) (by simp; omega) ?_
    rintro _ ⟨top, rfl, t5, t6⟩
    array_get_dec
    refine spoon (B := B + 4 * (many.toNat - i) - 2) (d7.bow.le (by omega)) (by omega) (by omega) fun u8 h8 i1 i2 d8 => ?_
    have dx8 := (dx.then d7).then d8
    have e8 := d8.at hLn (d7.at hLn el)
    have wd : ∀ (T : D → Hm → Prop) (Bk G : Ev → Hm → Prop), SatS (sExpr (eM "list" mAppend (eV 6) (aC (eTup (aC (eC (.str (Str.ofString "word"))) (aC (eB opIx (eV 2) (eF m_law_spoon (aC (eV 0) (aC (eF bLen (aC (eV 2) aN)) aN)))) aN))) aN)) [some (.ref n), some (.int most), some (.lst (some_.map D.str)), some (.int way), some (.int many), some (.int need), some (.ref h.length), some (.int i), some (.int kind), some (.int (1 + u8))] h8) (fun v h' => ∃ (its : List D) (x7 x8 x9 : Option D), v = [some (.ref n), some (.int most), some (.lst (some_.map D.str)), some (.int way), some (.int many), some (.int need), some (.ref h.length), x7, x8, x9] ∧ h'[h.length]? = some (.lst its) ∧ its.length = i + 1 ∧ (∀ d ∈ its, IsIt need d) ∧ DrewX n (B + 4 * (many.toNat - (i + 1))) h h') T Bk G := by
      intro T Bk G
      array_get_dec
      refine ⟨rcR e8, ?_⟩
      array_get_dec
      rw [List.length_map]
      refine spoon (B := B + 4 * (many.toNat - i) - 3) (d8.bow.le (by omega)) (by omega) (by omega) fun p7 h9 j1 j2 d9 => ?_
      refine so_someWord j1 j2 fun z hz => ?_
      have e9 := d9.at hLn e8
      array_get_dec
      refine so_append e9 (by omega) ?_
      refine ⟨its ++ [.tup [.str (Str.ofString "word"), .str z]], _, _, _, rfl, List.getElem?_set_self (List.getElem?_eq_some_iff.mp e9).1, by simp [hl], fun y hy => ?_, ((dx8.then d9).put (Nat.le_refl _)).le (by omega)⟩
      rcases List.mem_append.mp hy with hy | hy
      · exact hd y hy
      · rw [List.mem_singleton.mp hy]; exact .word z (hsome z hz)
    array_get_dec
    refine ⟨fun _ => ?_, fun _ => ⟨fun _ => wd _ _ _, fun z => nomatch z⟩⟩
    array_get_dec
    refine ⟨fun _ => wd _ _ _, fun k2 => ?_⟩
    have k2 := of_decide_eq_false k2
    array_get_dec
    refine ⟨rcR e8, ?_⟩
    array_get_dec
    refine so_append e8 (by omega) ?_
    refine ⟨its ++ [.tup [.str (Str.ofString "by"), .int (min need (1 + u8))]], _, _, _, rfl, List.getElem?_set_self (List.getElem?_eq_some_iff.mp e8).1, by simp [hl], fun y hy => ?_, (dx8.put (Nat.le_refl _)).le (by omega)⟩
    rcases List.mem_append.mp hy with hy | hy
    · exact hd y hy
    · rw [List.mem_singleton.mp hy]; exact .by_ _ (by omega) (by omega)
  · rintro v h' ⟨its, x7, x8, x9, rfl, el, hl, hd, dx⟩
    array_get_dec
    refine so_tupleR el ?_
    array_get_dec
    refine ⟨?_, dx.tr.1, q ⟨need, its⟩ _ (by show its.length ≤ 8; omega) t3 t4 hd (dx.tr.2.le (by omega))⟩
    have : D.clL h.length its = true := clL_all fun x hx => itcl (hd x hx)
    simp [D.cl, D.clL, this]
end
/-- places of a hearer and an ear -/
structure Pl8 where
  t : Nat
  a : Nat
  k : Nat
  p : Nat
  s : Nat
  d : Nat
  l : Nat
  n : Nat
def Pl8.he (P : Pl8) (m : Nat) : Prop := m = P.t ∨ m = P.a ∨ m = P.k ∨ m = P.p
def Pl8.ea (P : Pl8) (m : Nat) : Prop := m = P.s ∨ m = P.d ∨ m = P.l ∨ m = P.n
def Pl8.has (P : Pl8) (m : Nat) : Prop := P.he m ∨ P.ea m
/-- a hearer and an ear, alike, after j calls -/
structure Both (h : Hm) (P : Pl8) (M : HM) (j : Nat) : Prop where
  T : He h P.t P.a P.k P.p M
  E : Ea h P.s P.d P.l P.n M
  dis : ∀ m, P.he m → ¬ P.ea m
  wf : HW M j
  idle : Idle M
  m0 : 0 ≤ M.many
  nx : nextH M ≤ 1000 * (j : Int)
section
variable {h : Hm} {Q : D → Hm → Prop} {P : Pl8} {M : HM} {j : Nat}
theorem Both.keep {h' : Hm} (W : Both h P M j) (k : ∀ m, P.has m → h'[m]? = h[m]?) : Both h' P M j :=
  ⟨W.T.keep fun m hm => k m (.inl hm), W.E.keep fun m hm => k m (.inr hm), W.dis, W.wf, W.idle, W.m0, W.nx⟩
theorem Both.le {i : Nat} (W : Both h P M j) (hi : j ≤ i) : Both h P M i := ⟨W.T, W.E, W.dis, W.wf.le hi, W.idle, W.m0, by have := W.nx; omega⟩
end
theorem so_enTR {X : D → Hm → Prop} {h : Hm} {n : Nat} {l : List D} {Q : Wk → Hm → Prop} (e : h[n]? = some (.lst l)) (q : Q ⟨enumL l, fun h' => match h'[n]? with | some o => HD.beq o (.lst l) | none => false⟩ h) : SatX X (wEnumTOf (.ref n) h) Q := by
  unfold wEnumTOf wEnumOf
  simp only [e]
  exact ⟨q⟩
def m_is_deed_b : SM :=
  (sSeq (sIf (tOr (tNot (tE (eU (isi "tuple") (eV 0)))) (tOr (tE (eB opNe (eF bLen (aC (eV 0) aN)) (eC (.int 2)))) (tNot (tE (eU (isi "str") (eB opIx (eV 0) (eC (.int 0)))))))) (sRet (eC (.bl false))) sNx)
  (sSeq (sIf (tE (eB opEq (eB opIx (eV 0) (eC (.int 0))) (eC (.str (Str.ofString "put"))))) (sRet (eF m_is_word (aC (eB opIx (eV 0) (eC (.int 1))) aN))) sNx)
  (sSeq (sIf (tE (eB opEq (eB opIx (eV 0) (eC (.int 0))) (eC (.str (Str.ofString "again"))))) (sRet (eF m_is_between (aC (eB opIx (eV 0) (eC (.int 1))) (aC (eC (.int 1)) (aC (eC (.int 999)) aN))))) sNx)
  (sRet (eAnd (eB opEq (eB opIx (eV 0) (eC (.int 0))) (eC (.str (Str.ofString "room")))) (eF m_is_between (aC (eB opIx (eV 0) (eC (.int 1))) (aC (eC (.int 0)) (aC (eC (.int 200)) aN)))))))))
def m_is_deed : FM := fn0 1 1 m_is_deed_b
inductive Evt where
  | deed (d : D) | say (t : Int) (x : Lx) | had (n : Int) | read (t : Int) | lost (t : Int)
def evD : Evt → D
  | .deed d => .tup [.str (Str.ofString "deed"), d]
  | .say t x => .tup [.str (Str.ofString "say"), .int t, leD x]
  | .had n => .tup [.str (Str.ofString "had"), .int n]
  | .read t => .tup [.str (Str.ofString "read"), .int t]
  | .lost t => .tup [.str (Str.ofString "lost"), .int t]
/-- a letter said: talk, place, letter, how many deeds ahead of what closed it -/
structure Sg where
  t : Int
  p : Int
  x : Lx
  c : Option Nat
def sgO (s : Sg) : HD := .lst [.int s.t, .int s.p, leD s.x, gD s.c]
structure GM where
  s : St
  deeds : List D
  said : List Sg
def opnF (t : Int) : Nat → List Sg → List Nat
  | _, [] => []
  | i, s :: r => if s.t = t ∧ s.c = none then i :: opnF t (i + 1) r else opnF t (i + 1) r
theorem opnF_cons (t : Int) (i : Nat) (s : Sg) (r : List Sg) : opnF t i (s :: r) = if s.t = t ∧ s.c = none then i :: opnF t (i + 1) r else opnF t (i + 1) r := rfl
def opn (t : Int) (l : List Sg) : List Nat := opnF t 0 l
def cntF (t : Int) : List Sg → Nat
  | [] => 0
  | s :: r => if s.t = t then cntF t r + 1 else cntF t r
/-- the first m open ones of a talk are closed -/
def closeF (t : Int) (n : Nat) : Nat → List Sg → List Sg
  | _, [] => []
  | 0, l => l
  | m + 1, s :: r => if s.t = t ∧ s.c = none then { s with c := some n } :: closeF t n m r else s :: closeF t n (m + 1) r
theorem closeF_zero (t : Int) (n : Nat) (l : List Sg) : closeF t n 0 l = l := by cases l <;> rfl
theorem closeF_len (t : Int) (n : Nat) : ∀ (l : List Sg) (m : Nat), (closeF t n m l).length = l.length
  | [], m => by cases m <;> rfl
  | s :: r, 0 => rfl
  | s :: r, m + 1 => by
    unfold closeF
    split <;> simp [closeF_len t n r]
theorem opnF_close (t : Int) (n : Nat) : ∀ (l : List Sg) (i m : Nat), opnF t i (closeF t n m l) = (opnF t i l).drop m
  | [], i, m => by cases m <;> simp [closeF, opnF]
  | s :: r, i, 0 => by rw [closeF_zero]; rfl
  | s :: r, i, m + 1 => by
    unfold closeF opnF
    by_cases h : s.t = t ∧ s.c = none
    · rw [if_pos h, if_pos h]
      show (if s.t = t ∧ some n = none then _ else opnF t (i + 1) (closeF t n m r)) = _
      rw [if_neg (fun z => nomatch z.2), opnF_close t n r]
      rfl
    · rw [if_neg h, if_neg h]
      show (if s.t = t ∧ s.c = none then _ else _) = _
      rw [if_neg h, opnF_close t n r]
theorem opnF_close_ne {t t' : Int} (ht : t' ≠ t) (n : Nat) : ∀ (l : List Sg) (i m : Nat), opnF t' i (closeF t n m l) = opnF t' i l
  | [], i, m => by cases m <;> rfl
  | s :: r, i, 0 => by rw [closeF_zero]
  | s :: r, i, m + 1 => by
    unfold closeF
    by_cases h : s.t = t ∧ s.c = none
    · rw [if_pos h]
      unfold opnF
      have e1 : ¬ (s.t = t' ∧ s.c = none) := fun z => ht (z.1.symm.trans h.1)
      show (if s.t = t' ∧ some n = none then _ else opnF t' (i + 1) (closeF t n m r)) = _
      rw [if_neg (fun z => nomatch z.2), if_neg e1, opnF_close_ne ht n r]
    · rw [if_neg h]
      unfold opnF
      rw [opnF_close_ne ht n r]
theorem cntF_close (t t' : Int) (n : Nat) : ∀ (l : List Sg) (m : Nat), cntF t' (closeF t n m l) = cntF t' l
  | [], m => by cases m <;> rfl
  | s :: r, 0 => by rw [closeF_zero]
  | s :: r, m + 1 => by
    unfold closeF
    split
    · show (if s.t = t' then _ else _) = (if s.t = t' then _ else _)
      rw [cntF_close t t' n r]
    · show (if s.t = t' then _ else _) = (if s.t = t' then _ else _)
      rw [cntF_close t t' n r]
theorem opnF_snoc (t : Int) (s : Sg) : ∀ (l : List Sg) (i : Nat), opnF t i (l ++ [s]) = if s.t = t ∧ s.c = none then opnF t i l ++ [i + l.length] else opnF t i l
  | [], i => by
    show (if s.t = t ∧ s.c = none then [i] else []) = _
    split <;> rfl
  | a :: r, i => by
    have e : i + 1 + r.length = i + (a :: r).length := by simp; omega
    rw [List.cons_append, opnF_cons, opnF_cons, opnF_snoc t s r, e]
    by_cases h : s.t = t ∧ s.c = none
    · rw [if_pos h, if_pos h]
      split <;> rfl
    · rw [if_neg h, if_neg h]
theorem cntF_snoc (t : Int) (s : Sg) : ∀ l : List Sg, cntF t (l ++ [s]) = cntF t l + if s.t = t then 1 else 0
  | [] => by
    show (if s.t = t then 0 + 1 else 0) = 0 + _
    split <;> rfl
  | a :: r => by
    show (if a.t = t then cntF t (r ++ [s]) + 1 else cntF t (r ++ [s])) = (if a.t = t then cntF t r + 1 else cntF t r) + _
    rw [cntF_snoc t s r]
    split <;> omega
/-- one more is closed -/
theorem closeF_succ (t : Int) (n : Nat) : ∀ (l : List Sg) (i j w : Nat), (opnF t i l)[j]? = some w → i ≤ w ∧ ∃ s, (closeF t n j l)[w - i]? = some s ∧ s.c = none ∧ closeF t n (j + 1) l = (closeF t n j l).set (w - i) { s with c := some n }
  | [], i, j, w, h => by simp [opnF] at h
  | a :: r, i, j, w, h => by
    unfold opnF at h
    by_cases ha : a.t = t ∧ a.c = none
    · rw [if_pos ha] at h
      cases j with
      | zero =>
        have : i = w := by simpa using h
        subst this
        refine ⟨Nat.le_refl _, a, ?_, ha.2, ?_⟩
        · rw [closeF_zero, Nat.sub_self]; rfl
        · rw [closeF_zero, Nat.sub_self]
          unfold closeF
          rw [if_pos ha, closeF_zero]; rfl
      | succ j =>
        have h : (opnF t (i + 1) r)[j]? = some w := by simpa using h
        obtain ⟨h1, s, h2, h3, h4⟩ := closeF_succ t n r (i + 1) j w h
        have e : w - i = (w - (i + 1)) + 1 := by omega
        have c1 : closeF t n (j + 1) (a :: r) = { a with c := some n } :: closeF t n j r := by
          show (if a.t = t ∧ a.c = none then _ else _) = _
          rw [if_pos ha]
        have c2 : closeF t n (j + 1 + 1) (a :: r) = { a with c := some n } :: closeF t n (j + 1) r := by
          show (if a.t = t ∧ a.c = none then _ else _) = _
          rw [if_pos ha]
        refine ⟨by omega, s, ?_, h3, ?_⟩
        · rw [c1, e]; exact h2
        · rw [c1, c2, e, h4]; rfl
    · rw [if_neg ha] at h
      obtain ⟨h1, s, h2, h3, h4⟩ := closeF_succ t n r (i + 1) j w h
      have e : w - i = (w - (i + 1)) + 1 := by omega
      have c2 : closeF t n (j + 1) (a :: r) = a :: closeF t n (j + 1) r := by
        show (if a.t = t ∧ a.c = none then _ else _) = _
        rw [if_neg ha]
      have c1 : closeF t n j (a :: r) = a :: closeF t n j r := by
        cases j with
        | zero => rw [closeF_zero, closeF_zero]
        | succ j =>
          show (if a.t = t ∧ a.c = none then _ else _) = _
          rw [if_neg ha]
      refine ⟨by omega, s, ?_, h3, ?_⟩
      · rw [c1, e]; exact h2
      · rw [c1, c2, e, h4]; rfl
/-- numbers that a letter names -/
def numsX (x : Lx) : List Int := numsL ⟨0, x.need, x.its⟩
/-- an event that may come -/
inductive EvOk (G : GM) : Evt → GM → Prop
  | deed (d : D) (r' : Int) (ws' : List Str) (c : Can G.s.room G.s.ws d r' ws') : EvOk G (.deed d) { G with s := nextS G.s r' ws', deeds := G.deeds ++ [d] }
  | say (t : Int) (x : Lx) (t0 : 0 ≤ t) (t1 : t ≤ 9) (l1 : 1 ≤ x.its.length) (l2 : x.its.length ≤ 8) (n0 : 0 ≤ x.need) (n1 : x.need ≤ G.s.first + (G.s.ws.length : Int)) (hi : ∀ d ∈ x.its, IsIt x.need d) (hn : ∀ n ∈ numsX x, G.s.first ≤ n) :
      EvOk G (.say t x) { G with said := G.said ++ [⟨t, cntF t G.said, x, none⟩] }
  | had (n : Int) (h0 : 0 ≤ n) (h1 : n ≤ (G.deeds.length : Int)) : EvOk G (.had n) G
  | read (t : Int) (t0 : 0 ≤ t) (t1 : t ≤ 9) (ho : opn t G.said ≠ []) : EvOk G (.read t) { G with said := closeF t G.deeds.length 1 G.said }
  | lost (t : Int) (t0 : 0 ≤ t) (t1 : t ≤ 9) (ho : opn t G.said ≠ []) : EvOk G (.lost t) { G with said := closeF t G.deeds.length (opn t G.said).length G.said }
/-- a log, from one stand to another -/
inductive LogOk : GM → List Evt → GM → Prop
  | nil (G : GM) : LogOk G [] G
  | cons {G G1 G2 : GM} {e : Evt} {es : List Evt} (h : EvOk G e G1) (r : LogOk G1 es G2) : LogOk G (e :: es) G2
theorem LogOk.snoc {G G1 G2 : GM} {e : Evt} {es : List Evt} (r : LogOk G es G1) (h : EvOk G1 e G2) : LogOk G (es ++ [e]) G2 := by
  induction r with
  | nil G => exact .cons h (.nil _)
  | cons a _ ih => exact .cons a (ih h)
/-- what is always so of a stand -/
structure GW (G : GM) : Prop where
  ok : OkS G.s
  f0 : 0 ≤ G.s.first
  nx : G.s.first + (G.s.ws.length : Int) ≤ (G.deeds.length : Int)
  sd : ∀ s ∈ G.said, 1 ≤ s.x.its.length ∧ s.x.its.length ≤ 8 ∧ 0 ≤ s.x.need ∧ (∀ d ∈ s.x.its, IsIt s.x.need d) ∧ s.x.need ≤ G.s.first + (G.s.ws.length : Int) ∧ ∀ n ∈ numsX s.x, 0 ≤ n
theorem next_le {s : St} {d : D} {r' : Int} {ws' : List Str} (c : Can s.room s.ws d r' ws') : s.first ≤ (nextS s r' ws').first ∧ (nextS s r' ws').first + ((nextS s r' ws').ws.length : Int) ≤ s.first + (s.ws.length : Int) + 1 ∧ s.first + (s.ws.length : Int) ≤ (nextS s r' ws').first + ((nextS s r' ws').ws.length : Int) := by
  have hsl : (stay r' ws').length ≤ ws'.length := fit_len
  have hw : s.ws.length ≤ ws'.length ∧ ws'.length ≤ s.ws.length + 1 := by
    rcases can_ws c with e | ⟨w, e, _⟩
    · rw [e]; omega
    · rw [e]; simp
  show s.first ≤ s.first + ((ws'.length - (stay r' ws').length : Nat) : Int) ∧ s.first + ((ws'.length - (stay r' ws').length : Nat) : Int) + ((stay r' ws').length : Int) ≤ _ ∧ _ ≤ s.first + ((ws'.length - (stay r' ws').length : Nat) : Int) + ((stay r' ws').length : Int)
  omega
theorem closeF_mem {t : Int} {n : Nat} : ∀ {l : List Sg} {m : Nat} {s : Sg}, s ∈ closeF t n m l → ∃ s0 ∈ l, s.x = s0.x ∧ s.t = s0.t ∧ s.p = s0.p
  | [], m, s, h => by cases m <;> simp [closeF] at h
  | a :: r, 0, s, h => ⟨s, by rw [closeF_zero] at h; exact h, rfl, rfl, rfl⟩
  | a :: r, m + 1, s, h => by
    unfold closeF at h
    have go : ∀ k, s ∈ closeF t n k r → ∃ s0 ∈ a :: r, s.x = s0.x ∧ s.t = s0.t ∧ s.p = s0.p := fun k h => by
      obtain ⟨s0, h0, e⟩ := closeF_mem h
      exact ⟨s0, List.mem_cons_of_mem _ h0, e⟩
    split at h
    · rcases List.mem_cons.mp h with rfl | h
      · exact ⟨a, List.mem_cons_self, rfl, rfl, rfl⟩
      · exact go _ h
    · rcases List.mem_cons.mp h with rfl | h
      · exact ⟨s, List.mem_cons_self, rfl, rfl, rfl⟩
      · exact go _ h
theorem EvOk.w {G G' : GM} {e : Evt} (k : EvOk G e G') (w : GW G) : GW G' := by
  cases k with
  | deed d r' ws' c =>
    have h := next_le c
    have h2 := w.nx
    have h3 := w.f0
    refine ⟨next_ok w.ok c, by show 0 ≤ (nextS G.s r' ws').first; omega, ?_, fun s hs => by
      obtain ⟨s1, s2, s3, s4, s5, s6⟩ := w.sd s hs
      exact ⟨s1, s2, s3, s4, by show s.x.need ≤ (nextS G.s r' ws').first + ((nextS G.s r' ws').ws.length : Int); omega, s6⟩⟩
    show (nextS G.s r' ws').first + ((nextS G.s r' ws').ws.length : Int) ≤ ((G.deeds ++ [d]).length : Int)
    rw [List.length_append, List.length_singleton]
    omega
  | say t x t0 t1 l1 l2 n0 n1 hi hn =>
    refine ⟨w.ok, w.f0, w.nx, fun s hs => ?_⟩
    rcases List.mem_append.mp hs with hs | hs
    · exact w.sd s hs
    · rw [List.mem_singleton.mp hs]
      exact ⟨l1, l2, n0, hi, n1, fun n z => Int.le_trans w.f0 (hn n z)⟩
  | had n h0 h1 => exact w
  | read t t0 t1 ho =>
    refine ⟨w.ok, w.f0, w.nx, fun s hs => ?_⟩
    obtain ⟨s0, h0, e, _⟩ := closeF_mem hs
    rw [e]; exact w.sd s0 h0
  | lost t t0 t1 ho =>
    refine ⟨w.ok, w.f0, w.nx, fun s hs => ?_⟩
    obtain ⟨s0, h0, e, _⟩ := closeF_mem hs
    rw [e]; exact w.sd s0 h0
theorem EvOk.len {G G' : GM} {e : Evt} (k : EvOk G e G') : G'.deeds.length ≤ G.deeds.length + 1 ∧ G.deeds.length ≤ G'.deeds.length ∧ G'.said.length ≤ G.said.length + 1 := by
  cases k with
  | deed d r' ws' c => simp
  | say t x t0 t1 l1 l2 n0 n1 hi hn => simp
  | had n h0 h1 => simp
  | read t t0 t1 ho => simp [closeF_len]
  | lost t t0 t1 ho => simp [closeF_len]
theorem LogOk.w {G G' : GM} {es : List Evt} (k : LogOk G es G') (w : GW G) : GW G' := by
  induction k with
  | nil G => exact w
  | cons a _ ih => exact ih (a.w w)
theorem LogOk.len {G G' : GM} {es : List Evt} (k : LogOk G es G') : G'.deeds.length ≤ G.deeds.length + es.length ∧ G.deeds.length ≤ G'.deeds.length ∧ G'.said.length ≤ G.said.length + es.length := by
  induction k with
  | nil G => simp
  | cons a _ ih =>
    have := a.len
    simp only [List.length_cons]
    omega
structure PG5 where
  g : Nat
  d : Nat
  s : Nat
  o : Nat
  p : Nat
def gonF (G : GM) (P : PG5) : List (Str × D) := [("now", G.s.bk), ("deeds", .ref P.d), ("said", .ref P.s), ("opens", .ref P.o), ("places", .ref P.p)]
def ixD (l : List Nat) : D := .lst (l.map fun (i : Nat) => D.int (i : Int))
structure Gn (h : Hm) (b : Nat) (P : PG5) (rs : List Nat) (O : List (Int × List Nat)) (PL : List (Int × Int)) (G : GM) : Prop where
  fi : h[P.g]? = some (.ins "Gone" (gonF G P))
  fd : h[P.d]? = some (.lst G.deeds)
  fs : h[P.s]? = some (.lst (rs.map D.ref))
  fo : h[P.o]? = some (.dct (mkA ixD O))
  fp : h[P.p]? = some (.dct (mkA D.int PL))
  rl : rs.length = G.said.length
  rw_ : ∀ (i r : Nat) (s : Sg), rs[i]? = some r → G.said[i]? = some s → h[r]? = some (sgO s)
  oo : ∀ t, (aget t O).getD [] = opn t G.said
  pp : ∀ t, (aget t PL).getD 0 = (cntF t G.said : Int)
  ol : O.length ≤ G.said.length
  pl : PL.length ≤ G.said.length
  nd : rs.Nodup
  ds : P.d ≠ P.s
  op : P.o ≠ P.p
  nr : ∀ r ∈ rs, r ≠ P.d ∧ r ≠ P.s
  lo : b ≤ P.g ∧ b ≤ P.d ∧ b ≤ P.s ∧ b ≤ P.o ∧ b ≤ P.p ∧ ∀ r ∈ rs, b ≤ r
section
variable {X : D → Hm → Prop} {h : Hm} {Q : D → Hm → Prop} {b i : Nat} {P : PG5} {G G' : GM} {v : Ev}
theorem gon_put (x : D) : putFD "now" x (gonF G P) = (("now" : Str), x) :: (gonF G P).tail := by
  show (if (("now" : Str)) = ("now" : Str) then _ else _) = _
  rw [if_pos rfl]
  rfl
end
section
variable {X : D → Hm → Prop} {h : Hm} {Q : D → Hm → Prop} {b i : Nat} {P : PG5} {G G' : GM} {v : Ev} {rs : List Nat} {O : List (Int × List Nat)} {PL : List (Int × Int)}
/-- what is apart -/
structure GNe (h : Hm) (P : PG5) (rs : List Nat) : Prop where
  gd : P.g ≠ P.d
  gs : P.g ≠ P.s
  go : P.g ≠ P.o
  gp : P.g ≠ P.p
  do_ : P.d ≠ P.o
  dp : P.d ≠ P.p
  so : P.s ≠ P.o
  sp : P.s ≠ P.p
  rg : ∀ r ∈ rs, r ≠ P.g ∧ r ≠ P.o ∧ r ≠ P.p
theorem Gn.ne (T : Gn h b P rs O PL G) : GNe h P rs := by
  have a := T.fi; have c := T.fd; have d := T.fs; have e := T.fo; have f := T.fp
  refine ⟨fun z => ?_, fun z => ?_, fun z => ?_, fun z => ?_, fun z => ?_, fun z => ?_, fun z => ?_, fun z => ?_, fun r hr => ?_⟩
  · rw [z, c] at a; cases a
  · rw [z, d] at a; cases a
  · rw [z, e] at a; cases a
  · rw [z, f] at a; cases a
  · rw [z, e] at c; cases c
  · rw [z, f] at c; cases c
  · rw [z, e] at d; cases d
  · rw [z, f] at d; cases d
  · obtain ⟨j, hj⟩ := List.getElem?_of_mem hr
    have hlt := (List.getElem?_eq_some_iff.mp hj).1
    have hlt2 : j < G.said.length := by rw [← T.rl]; exact hlt
    have es := List.getElem?_eq_getElem hlt2
    have k := T.rw_ j r _ hj es
    refine ⟨fun z => ?_, fun z => ?_, fun z => ?_⟩
    · rw [z, a] at k; cases k
    · rw [z, e] at k; cases k
    · rw [z, f] at k; cases k
theorem Gn.lt (T : Gn h b P rs O PL G) : P.g < h.length ∧ P.d < h.length ∧ P.s < h.length ∧ P.o < h.length ∧ P.p < h.length ∧ ∀ r ∈ rs, r < h.length := by
  refine ⟨(List.getElem?_eq_some_iff.mp T.fi).1, (List.getElem?_eq_some_iff.mp T.fd).1, (List.getElem?_eq_some_iff.mp T.fs).1, (List.getElem?_eq_some_iff.mp T.fo).1, (List.getElem?_eq_some_iff.mp T.fp).1, fun r hr => ?_⟩
  obtain ⟨j, hj⟩ := List.getElem?_of_mem hr
  have hlt := (List.getElem?_eq_some_iff.mp hj).1
  exact (List.getElem?_eq_some_iff.mp (T.rw_ j r _ hj (List.getElem?_eq_getElem (by rw [← T.rl]; exact hlt)))).1
theorem Gn.keep {h' : Hm} (T : Gn h b P rs O PL G) (k : ∀ m, b ≤ m → m < h.length → h'[m]? = h[m]?) : Gn h' b P rs O PL G := by
  obtain ⟨l1, l2, l3, l4, l5, l6⟩ := T.lt
  obtain ⟨b1, b2, b3, b4, b5, b6⟩ := T.lo
  exact ⟨(k _ b1 l1).trans T.fi, (k _ b2 l2).trans T.fd, (k _ b3 l3).trans T.fs, (k _ b4 l4).trans T.fo, (k _ b5 l5).trans T.fp, T.rl, fun i r s e1 e2 => (k r (b6 r (List.mem_of_getElem? e1)) (l6 r (List.mem_of_getElem? e1))).trans (T.rw_ i r s e1 e2), T.oo, T.pp, T.ol, T.pl, T.nd, T.ds, T.op, T.nr, T.lo⟩
theorem set_at {h : Hm} {n m : Nat} {o u : HD} (hn : n ≠ m) (e : h[m]? = some u) : (h.set n o)[m]? = some u := (List.getElem?_set_ne hn).trans e
/-- a deed -/
theorem Gn.deed {d : D} {r' : Int} {ws' : List Str} (T : Gn h b P rs O PL G) : Gn ((h.set P.g (.ins "Gone" (putFD "now" (nextS G.s r' ws').bk (gonF G P)))).set P.d (.lst (G.deeds ++ [d]))) b P rs O PL { G with s := nextS G.s r' ws', deeds := G.deeds ++ [d] } := by
  have n := T.ne
  obtain ⟨l1, l2, _⟩ := T.lt
  refine ⟨?_, List.getElem?_set_self (by rw [List.length_set]; exact l2), set_at T.ds (set_at n.gs T.fs), set_at n.do_ (set_at n.go T.fo), set_at n.dp (set_at n.gp T.fp), T.rl, fun i r s e1 e2 => ?_, T.oo, T.pp, T.ol, T.pl, T.nd, T.ds, T.op, T.nr, T.lo⟩
  · rw [gon_put]
    exact set_at (Ne.symm n.gd) (List.getElem?_set_self l1)
  · have hr := List.mem_of_getElem? e1
    exact set_at (Ne.symm (T.nr r hr).1) (set_at (Ne.symm (n.rg r hr).1) (T.rw_ i r s e1 e2))
theorem aget_len {α : Type} {t : Int} {x : α} {l : List (Int × α)} : (aput t x l).length ≤ l.length + 1 := aput_le
/-- a letter said -/
theorem Gn.say {t : Int} {x : Lx} (T : Gn h b P rs O PL G) (hb : b ≤ h.length) :
    Gn ((((h.set P.o (.dct (mkA ixD (aput t (opn t G.said ++ [G.said.length]) O)))) ++ [sgO ⟨t, cntF t G.said, x, none⟩]).set P.s (.lst (rs.map D.ref ++ [.ref h.length]))).set P.p (.dct (mkA D.int (aput t ((cntF t G.said : Int) + 1) PL)))) b P (rs ++ [h.length]) (aput t (opn t G.said ++ [G.said.length]) O) (aput t ((cntF t G.said : Int) + 1) PL) { G with said := G.said ++ [⟨t, cntF t G.said, x, none⟩] } := by
  have n := T.ne
  obtain ⟨l1, l2, l3, l4, l5, l6⟩ := T.lt
  obtain ⟨b1, b2, b3, b4, b5, b6⟩ := T.lo
  have ap : ∀ {m : Nat} {u : HD}, m ≠ P.o → h[m]? = some u → ((h.set P.o (.dct (mkA ixD (aput t (opn t G.said ++ [G.said.length]) O)))) ++ [sgO ⟨t, cntF t G.said, x, none⟩])[m]? = some u := fun hm e => by
    rw [List.getElem?_append_left (by rw [List.length_set]; exact (List.getElem?_eq_some_iff.mp e).1)]
    exact set_at (Ne.symm hm) e
  refine ⟨?_, ?_, ?_, ?_, ?_, ?_, fun i r s e1 e2 => ?_, fun t' => ?_, fun t' => ?_, ?_, ?_, ?_, T.ds, T.op, fun r hr => ?_, ⟨b1, b2, b3, b4, b5, fun r hr => ?_⟩⟩
  · exact set_at (Ne.symm n.gp) (set_at (Ne.symm n.gs) (ap n.go T.fi))
  · exact set_at (Ne.symm n.dp) (set_at (Ne.symm T.ds) (ap n.do_ T.fd))
  · rw [List.map_append]
    exact set_at (Ne.symm n.sp) (List.getElem?_set_self (by simp; omega))
  · refine set_at (Ne.symm T.op) (set_at n.so ?_)
    rw [List.getElem?_append_left (by rw [List.length_set]; exact l4)]
    exact List.getElem?_set_self l4
  · exact List.getElem?_set_self (by simp; omega)
  · simp [T.rl]
  · by_cases hi : i < rs.length
    · rw [List.getElem?_append_left hi] at e1
      rw [List.getElem?_append_left (by rw [← T.rl]; exact hi)] at e2
      have hr := List.mem_of_getElem? e1
      exact set_at (Ne.symm (n.rg r hr).2.2) (set_at (Ne.symm (T.nr r hr).2) (ap (n.rg r hr).2.1 (T.rw_ i r s e1 e2)))
    · rw [List.getElem?_append_right (by omega)] at e1
      have z : i - rs.length = 0 := by have := (List.getElem?_eq_some_iff.mp e1).1; simp at this; omega
      rw [z] at e1
      have e1 : r = h.length := (Option.some.inj e1).symm
      rw [List.getElem?_append_right (by have := T.rl; omega), show i - G.said.length = 0 by have := T.rl; omega] at e2
      have e2 : s = _ := (Option.some.inj e2).symm
      subst e1; subst e2
      refine set_at (by omega) (set_at (by omega) ?_)
      rw [List.getElem?_append_right (by rw [List.length_set]; exact Nat.le_refl _), List.length_set, Nat.sub_self]
      rfl
  · rw [aget_aput]
    show _ = opnF t' 0 (G.said ++ [_])
    rw [opnF_snoc]
    by_cases z : t' = t
    · subst z
      rw [if_pos rfl, if_pos ⟨rfl, rfl⟩, Nat.zero_add]; rfl
    · rw [if_neg z, if_neg (fun w => z w.1.symm)]; exact T.oo t'
  · rw [aget_aput]
    show _ = ((cntF t' (G.said ++ [_]) : Nat) : Int)
    rw [cntF_snoc]
    by_cases z : t' = t
    · subst z
      rw [if_pos rfl, if_pos rfl]; simp
    · rw [if_neg z, if_neg (fun w => z w.symm)]; exact T.pp t'
  · have := aget_len (t := t) (x := opn t G.said ++ [G.said.length]) (l := O)
    have := T.ol
    simp; omega
  · have := aget_len (t := t) (x := (cntF t G.said : Int) + 1) (l := PL)
    have := T.pl
    simp; omega
  · refine List.nodup_append.mpr ⟨T.nd, by simp, fun a ha c hc => ?_⟩
    have := l6 a ha
    rw [List.mem_singleton.mp hc]; omega
  · rcases List.mem_append.mp hr with hr | hr
    · exact T.nr r hr
    · rw [List.mem_singleton.mp hr]; omega
  · rcases List.mem_append.mp hr with hr | hr
    · exact b6 r hr
    · rw [List.mem_singleton.mp hr]; exact hb
/-- what stands while letters are closed -/
structure Gc (h : Hm) (b : Nat) (P : PG5) (rs : List Nat) (O : List (Int × List Nat)) (PL : List (Int × Int)) (G : GM) (t : Int) (j : Nat) (h' : Hm) : Prop where
  len : h'.length = h.length
  oth : ∀ m, m ∉ rs → h'[m]? = h[m]?
  rw_ : ∀ (i r : Nat) (s : Sg), rs[i]? = some r → (closeF t G.deeds.length j G.said)[i]? = some s → h'[r]? = some (sgO s)
theorem Gc.step {t : Int} {j w r : Nat} {h' : Hm} {s : Sg} (T : Gn h b P rs O PL G) (C : Gc h b P rs O PL G t j h') (hw : (opn t G.said)[j]? = some w) (er : rs[w]? = some r) (es : (closeF t G.deeds.length j G.said)[w]? = some s) :
    Gc h b P rs O PL G t (j + 1) (h'.set r (sgO { s with c := some G.deeds.length })) := by
  obtain ⟨_, s', h2, _, h4⟩ := closeF_succ t G.deeds.length G.said 0 j w hw
  rw [Nat.sub_zero] at h2 h4
  have : s' = s := by rw [es] at h2; exact (Option.some.inj h2).symm
  subst this
  have hr := List.mem_of_getElem? er
  refine ⟨by rw [List.length_set]; exact C.len, fun m hm => (List.getElem?_set_ne (show r ≠ m from fun z => hm (by rw [← z]; exact hr))).trans (C.oth m hm), fun i r2 s2 e1 e2 => ?_⟩
  have hlt : r < h'.length := (List.getElem?_eq_some_iff.mp (C.rw_ w r _ er es)).1
  rw [h4] at e2
  by_cases z : i = w
  · subst z
    rw [er] at e1
    have e1 : r2 = r := (Option.some.inj e1).symm
    subst e1
    rw [List.getElem?_set_self (List.getElem?_eq_some_iff.mp es).1] at e2
    have e2 : s2 = _ := (Option.some.inj e2).symm
    subst e2
    exact List.getElem?_set_self hlt
  · rw [List.getElem?_set_ne (Ne.symm z)] at e2
    have : r ≠ r2 := fun y => by
      subst y
      have a1 := (List.getElem?_eq_some_iff.mp e1)
      have a2 := (List.getElem?_eq_some_iff.mp er)
      exact z ((List.getElem_inj T.nd).mp (a1.2.trans a2.2.symm))
    exact set_at this (C.rw_ i r2 s2 e1 e2)
theorem Gc.fin {t : Int} {m : Nat} {h' : Hm} (T : Gn h b P rs O PL G) (C : Gc h b P rs O PL G t m h') :
    Gn (h'.set P.o (.dct (mkA ixD (aput t ((opn t G.said).drop m) O)))) b P rs (aput t ((opn t G.said).drop m) O) PL { G with said := closeF t G.deeds.length m G.said } ∨ aget t O = none := by
  by_cases ho : aget t O = none
  · exact .inr ho
  refine .inl ?_
  have n := T.ne
  obtain ⟨l1, l2, l3, l4, l5, l6⟩ := T.lt
  have k : ∀ {m : Nat} {u : HD}, m ∉ rs → m ≠ P.o → h[m]? = some u → (h'.set P.o (.dct (mkA ixD (aput t ((opn t G.said).drop m) O))))[m]? = some u := fun h1 h2 e => set_at (Ne.symm h2) ((C.oth _ h1).trans e)
  have kk : ∀ {m : Nat} {u o : HD}, m ∉ rs → m ≠ P.o → h[m]? = some u → (h'.set P.o o)[m]? = some u := fun h1 h2 e => set_at (Ne.symm h2) ((C.oth _ h1).trans e)
  refine ⟨kk (fun z => (n.rg _ z).1 rfl) n.go T.fi, kk (fun z => (T.nr _ z).1 rfl) n.do_ T.fd, kk (fun z => (T.nr _ z).2 rfl) n.so T.fs, List.getElem?_set_self (by rw [C.len]; exact l4), kk (fun z => (n.rg _ z).2.2 rfl) (Ne.symm T.op) T.fp, ?_, fun i r s e1 e2 => ?_, fun t' => ?_, fun t' => ?_, ?_, ?_, T.nd, T.ds, T.op, T.nr, T.lo⟩
  · show rs.length = (closeF t G.deeds.length m G.said).length
    rw [closeF_len]; exact T.rl
  · exact set_at (Ne.symm (n.rg r (List.mem_of_getElem? e1)).2.1) (C.rw_ i r s e1 e2)
  · rw [aget_aput]
    show _ = opnF t' 0 (closeF t G.deeds.length m G.said)
    by_cases z : t' = t
    · subst z
      rw [if_pos rfl, opnF_close]; rfl
    · rw [if_neg z, opnF_close_ne z]; exact T.oo t'
  · show _ = ((cntF t' (closeF t G.deeds.length m G.said) : Nat) : Int)
    rw [cntF_close]; exact T.pp t'
  · show _ ≤ (closeF t G.deeds.length m G.said).length
    rw [closeF_len]
    have hs : (aget t O).isSome = true := by cases e : aget t O with | none => exact absurd e ho | some _ => rfl
    unfold aput
    rw [if_pos hs, List.length_map]; exact T.ol
  · show _ ≤ (closeF t G.deeds.length m G.said).length
    rw [closeF_len]; exact T.pl
end
theorem canS_uniq {room : Int} {ws : List Str} {d : D} {r1 r2 : Int} {w1 w2 : List Str} (a : Can room ws d r1 w1) (c : Can room ws d r2 w2) : r1 = r2 ∧ w1 = w2 := a.uniq c
open Classical in
noncomputable def goS (s : St) (d : D) : St := if h : ∃ r' ws', Can s.room s.ws d r' ws' then nextS s h.choose h.choose_spec.choose else s
theorem goS_can {s : St} {d : D} {r' : Int} {ws' : List Str} (c : Can s.room s.ws d r' ws') : goS s d = nextS s r' ws' := by
  have h : ∃ r' ws', Can s.room s.ws d r' ws' := ⟨r', ws', c⟩
  unfold goS
  rw [dif_pos h]
  obtain ⟨e1, e2⟩ := canS_uniq h.choose_spec.choose_spec c
  exact congr (congrArg (nextS s) e1) e2
noncomputable def stAt (room : Int) (ds : List D) (k : Nat) : St := (ds.take k).foldl goS ⟨room, 0, []⟩
theorem stAt_succ {room : Int} {ds : List D} {k : Nat} {d : D} (e : ds[k]? = some d) : stAt room ds (k + 1) = goS (stAt room ds k) d := by
  unfold stAt
  rw [List.take_add_one, e, List.foldl_append]
  rfl
theorem stAt_app {room : Int} {ds es : List D} {k : Nat} (h : k ≤ ds.length) : stAt room (ds ++ es) k = stAt room ds k := by
  unfold stAt
  rw [List.take_append_of_le_length h]
/-- a stand with all that led to it -/
structure RunG (room : Int) (G : GM) : Prop where
  run : RunOf G.deeds (stAt room G.deeds)
  e : stAt room G.deeds G.deeds.length = G.s
  sd : ∀ s ∈ G.said, ∃ a, a ≤ G.deeds.length ∧ (∀ c, s.c = some c → a ≤ c ∧ c ≤ G.deeds.length) ∧ s.x.need ≤ (stAt room G.deeds a).first + ((stAt room G.deeds a).ws.length : Int) ∧ ∀ n ∈ numsX s.x, (stAt room G.deeds a).first ≤ n
theorem closeF_memc {t : Int} {n : Nat} : ∀ {l : List Sg} {m : Nat} {s : Sg}, s ∈ closeF t n m l → ∃ s0 ∈ l, s.x = s0.x ∧ (s.c = s0.c ∨ s.c = some n ∧ s0.c = none)
  | [], m, s, h => by cases m <;> simp [closeF] at h
  | a :: r, 0, s, h => ⟨s, by rw [closeF_zero] at h; exact h, rfl, .inl rfl⟩
  | a :: r, m + 1, s, h => by
    unfold closeF at h
    have go : ∀ k, s ∈ closeF t n k r → ∃ s0 ∈ a :: r, s.x = s0.x ∧ (s.c = s0.c ∨ s.c = some n ∧ s0.c = none) := fun k h => by
      obtain ⟨s0, h0, e⟩ := closeF_memc h
      exact ⟨s0, List.mem_cons_of_mem _ h0, e⟩
    split at h
    · rename_i hh
      rcases List.mem_cons.mp h with rfl | h
      · exact ⟨a, List.mem_cons_self, rfl, .inr ⟨rfl, hh.2⟩⟩
      · exact go _ h
    · rcases List.mem_cons.mp h with rfl | h
      · exact ⟨s, List.mem_cons_self, rfl, .inl rfl⟩
      · exact go _ h
theorem EvOk.run {room : Int} {G G' : GM} {e : Evt} (k : EvOk G e G') (w : GW G) (R : RunG room G) : RunG room G' := by
  have close : ∀ (t : Int) (m : Nat), RunG room { G with said := closeF t G.deeds.length m G.said } := fun t m => ⟨R.run, R.e, fun s hs => by
    obtain ⟨s0, h0, ex, hc⟩ := closeF_memc hs
    obtain ⟨a, a1, a2, a3, a4⟩ := R.sd s0 h0
    refine ⟨a, a1, fun c ec => ?_, by rw [ex]; exact a3, by rw [ex]; exact a4⟩
    rcases hc with hc | ⟨hc, hn⟩
    · exact a2 c (hc ▸ ec)
    · rw [hc] at ec
      have : G.deeds.length = c := Option.some.inj ec
      subst this
      exact ⟨a1, Nat.le_refl _⟩⟩
  cases k with
  | deed d r' ws' c =>
    have ed : (G.deeds ++ [d])[G.deeds.length]? = some d := by simp
    have ens : stAt room (G.deeds ++ [d]) (G.deeds.length + 1) = nextS G.s r' ws' := by
      rw [stAt_succ ed, stAt_app (Nat.le_refl _), R.e]; exact goS_can c
    refine ⟨⟨fun i d2 e => ?_, fun i hi => ?_⟩, ?_, fun s hs => ?_⟩
    · by_cases z : i < G.deeds.length
      · have e : G.deeds[i]? = some d2 := by rw [← e]; exact (List.getElem?_append_left z).symm
        obtain ⟨r1, w1, c1, e1⟩ := R.run.step i d2 e
        show ∃ r' ws', Can (stAt room (G.deeds ++ [d]) i).room _ _ _ _ ∧ _
        rw [stAt_app (Nat.le_of_lt z), stAt_app z]
        exact ⟨r1, w1, c1, e1⟩
      · have hl := (List.getElem?_eq_some_iff.mp e).1
        have : i = G.deeds.length := by
          have : i < (G.deeds ++ [d]).length := hl
          simp at this; omega
        subst this
        have e : (G.deeds ++ [d])[G.deeds.length]? = some d2 := e
        rw [ed] at e
        have : d = d2 := Option.some.inj e
        subst this
        show ∃ r' ws', Can (stAt room (G.deeds ++ [d]) _).room _ _ _ _ ∧ stAt room (G.deeds ++ [d]) _ = _
        rw [stAt_app (Nat.le_refl _), R.e]
        exact ⟨r', ws', c, ens⟩
    · by_cases z : i ≤ G.deeds.length
      · show 0 ≤ (stAt room (G.deeds ++ [d]) i).room ∧ _
        rw [stAt_app z]
        exact R.run.ok i z
      · have : i = G.deeds.length + 1 := by
          have : i ≤ (G.deeds ++ [d]).length := hi
          simp at this; omega
        subst this
        show 0 ≤ (stAt room (G.deeds ++ [d]) _).room ∧ _
        rw [ens]
        exact next_ok w.ok c
    · show stAt room (G.deeds ++ [d]) (G.deeds ++ [d]).length = nextS G.s r' ws'
      rw [List.length_append, List.length_singleton]; exact ens
    · obtain ⟨a, a1, a2, a3, a4⟩ := R.sd s hs
      refine ⟨a, by simp; omega, fun c ec => ?_, ?_⟩
      · have := a2 c ec
        simp; omega
      · show s.x.need ≤ (stAt room (G.deeds ++ [d]) a).first + _ ∧ _
        rw [stAt_app a1]
        exact ⟨a3, a4⟩
  | say t x t0 t1 l1 l2 n0 n1 hi hn =>
    refine ⟨R.run, R.e, fun s hs => ?_⟩
    rcases List.mem_append.mp hs with hs | hs
    · exact R.sd s hs
    · rw [List.mem_singleton.mp hs]
      refine ⟨G.deeds.length, Nat.le_refl _, (fun c z => nomatch z), ?_, ?_⟩
      · show x.need ≤ (stAt room G.deeds G.deeds.length).first + ((stAt room G.deeds G.deeds.length).ws.length : Int)
        rw [R.e]; exact n1
      · show ∀ n ∈ numsX x, (stAt room G.deeds G.deeds.length).first ≤ n
        rw [R.e]; exact hn
  | had n h0 h1 => exact R
  | read t t0 t1 ho => exact close t 1
  | lost t t0 t1 ho => exact close t _
theorem LogOk.run {room : Int} {G G' : GM} {es : List Evt} (k : LogOk G es G') (w : GW G) (R : RunG room G) : RunG room G' := by
  induction k with
  | nil G => exact R
  | cons a _ ih => exact ih (a.w w) (a.run w R)
def mostS (nd : Nat) (s : Sg) : Nat := s.c.getD nd
section
variable {h : Hm} {Q : D → Hm → Prop}
theorem IsL.keep {h h' : Hm} {d : D} {l : List D} (e : IsL h d l) (k : ∀ m, m < h.length → h'[m]? = h[m]?) : IsL h' d l := by
  rcases e with rfl | ⟨n, rfl, e⟩
  · exact .inl rfl
  · exact .inr ⟨n, rfl, (k n (List.getElem?_eq_some_iff.mp e).1).trans e⟩
end
def hi (more : Int) : D → D
  | .tup [a, .int n] => .tup [a, .int (n + more)]
  | d => d
section
variable {h : Hm} {Q : D → Hm → Prop} {n B : Nat}
theorem evD_cl {N : Nat} {G G' : GM} {e : Evt} (k : EvOk G e G') : D.cl N (evD e) = true := by
  cases k with
  | deed d r' ws' c => have := can_cl (N := N) c; simp [evD, D.cl, D.clL, this]
  | say t x t0 t1 l1 l2 n0 n1 hi hn =>
    have : D.clL N x.its = true := clL_all fun d hd => itcl (hi d hd)
    simp [evD, D.cl, D.clL, leD, this]
  | had n h0 h1 => rfl
  | read t t0 t1 ho => rfl
  | lost t t0 t1 ho => rfl
theorem LogOk.cl {N : Nat} {G G' : GM} {es : List Evt} (k : LogOk G es G') : ∀ e ∈ es, D.cl N (evD e) = true := by
  induction k with
  | nil G => exact fun _ z => nomatch z
  | cons a _ ih =>
    intro e he
    rcases List.mem_cons.mp he with rfl | he
    · exact evD_cl a
    · exact ih e he
end
theorem EvOk.pre {G G' : GM} {e : Evt} (k : EvOk G e G') : ∃ ds, G'.deeds = G.deeds ++ ds := by
  cases k with
  | deed d r' ws' c => exact ⟨[d], rfl⟩
  | say t x t0 t1 l1 l2 n0 n1 hi hn => exact ⟨[], by simp⟩
  | had n h0 h1 => exact ⟨[], by simp⟩
  | read t t0 t1 ho => exact ⟨[], by simp⟩
  | lost t t0 t1 ho => exact ⟨[], by simp⟩
theorem LogOk.pre {G G' : GM} {es : List Evt} (k : LogOk G es G') : ∃ ds, G'.deeds = G.deeds ++ ds := by
  induction k with
  | nil G => exact ⟨[], by simp⟩
  | cons a _ ih =>
    obtain ⟨d1, e1⟩ := a.pre
    obtain ⟨d2, e2⟩ := ih
    exact ⟨d1 ++ d2, by rw [e2, e1, List.append_assoc]⟩
theorem ev_okN {m : Nat} {G G' : GM} {e : Evt} (k : EvOk G e G') : D.okN (m + 8) (evD e) = true := by
  have s1 : PyData.strOk (Str.ofString "deed") = true ∧ PyData.strOk (Str.ofString "say") = true ∧ PyData.strOk (Str.ofString "had") = true ∧ PyData.strOk (Str.ofString "read") = true ∧ PyData.strOk (Str.ofString "lost") = true ∧ PyData.strOk (Str.ofString "word") = true ∧ PyData.strOk (Str.ofString "by") = true := by decide +kernel
  obtain ⟨t1, t2, t3, t4, t5, t6, t7⟩ := s1
  cases k with
  | deed d r' ws' c =>
    have s2 : PyData.strOk (Str.ofString "put") = true ∧ PyData.strOk (Str.ofString "again") = true ∧ PyData.strOk (Str.ofString "room") = true := by decide +kernel
    have : D.okN (m + 7) d = true := by
      cases c with
      | put w h hr => simp [D.okN, D.okL, h.ok, s2.1]
      | again n w h0 h1 e hr => simp [D.okN, D.okL, s2.2.1]
      | room n h0 h1 => simp [D.okN, D.okL, s2.2.2]
    simp [evD, D.okN, D.okL, t1, this]
  | say t x q0 q1 l1 l2 n0 n1 hi hn =>
    have : D.okL (m + 5) x.its = true := okL_all fun z hz => by
      cases hi z hz with
      | word w hw => simp [D.okN, D.okL, hw.ok, t6]
      | by_ n h0 h1 => simp [D.okN, D.okL, t7]
    simp [evD, leD, D.okN, D.okL, t2, this]
  | had n h0 h1 => simp [evD, D.okN, D.okL, t3]
  | read t q0 q1 ho => simp [evD, D.okN, D.okL, t4]
  | lost t q0 q1 ho => simp [evD, D.okN, D.okL, t5]
theorem LogOk.okL {m : Nat} {G G' : GM} {es : List Evt} (k : LogOk G es G') : D.okL (m + 8) (es.map evD) = true := by
  induction k with
  | nil G => rfl
  | cons a _ ih => simp only [List.map_cons, D.okL, ev_okN a, ih, Bool.and_self]
theorem so_inT {X : D → Hm → Prop} {h : Hm} {Q : D → Hm → Prop} {x : D} {l : List D} (hf : (flatD x && l.all flatD) = true) (q : Q (.bl (l.any fun z => D.eqb z x)) h) : SatX X (opIn x (.tup l) h) Q := by
  show SatX X (if (flatD x && l.all flatD) = true then _ else _) Q
  rw [if_pos hf]; exact ⟨by simpa [SatP] using q⟩
theorem so_notB {X : D → Hm → Prop} {a b : Bool} {h : Hm} {Q : D → Hm → Prop} (q : Q (.bl (!(a == b))) h) : SatX X (opNotB (.bl a) (.bl b) h) Q := ⟨q⟩
structure Grow (G G' : GM) : Prop where
  ds : ∃ ds, G'.deeds = G.deeds ++ ds
  sd : ∀ (i : Nat) (s : Sg), G.said[i]? = some s → ∃ s', G'.said[i]? = some s' ∧ s'.t = s.t ∧ s'.p = s.p ∧ s'.x = s.x ∧ (s'.c = s.c ∨ s.c = none ∧ ∃ k, s'.c = some k ∧ G.deeds.length ≤ k)
theorem Grow.refl (G : GM) : Grow G G := ⟨⟨[], by simp⟩, fun i s e => ⟨s, e, rfl, rfl, rfl, .inl rfl⟩⟩
theorem Grow.trans {G1 G2 G3 : GM} (a : Grow G1 G2) (b : Grow G2 G3) : Grow G1 G3 := by
  obtain ⟨d1, e1⟩ := a.ds
  obtain ⟨d2, e2⟩ := b.ds
  refine ⟨⟨d1 ++ d2, by rw [e2, e1, List.append_assoc]⟩, fun i s e => ?_⟩
  obtain ⟨s2, g2, t2, p2, x2, c2⟩ := a.sd i s e
  obtain ⟨s3, g3, t3, p3, x3, c3⟩ := b.sd i s2 g2
  refine ⟨s3, g3, t3.trans t2, p3.trans p2, x3.trans x2, ?_⟩
  rcases c2 with c2 | ⟨c2, k, ck, hk⟩
  · rcases c3 with c3 | ⟨c3, k, ck, hk⟩
    · exact .inl (c3.trans c2)
    · exact .inr ⟨c2 ▸ c3, k, ck, by rw [e1, List.length_append] at hk; omega⟩
  · rcases c3 with c3 | ⟨c3, _⟩
    · exact .inr ⟨c2, k, c3.trans ck, hk⟩
    · rw [ck] at c3; cases c3
theorem LogOk.app {a b : List Evt} {G Gm G' : GM} (k1 : LogOk G a Gm) (k2 : LogOk Gm b G') : LogOk G (a ++ b) G' := by
  induction k1 with
  | nil G => exact k2
  | cons h _ ih => exact .cons h (ih k2)
theorem RunG.most {room : Int} {G : GM} (R : RunG room G) {s : Sg} (hs : s ∈ G.said) : mostS G.deeds.length s ≤ G.deeds.length := by
  obtain ⟨a, a1, a2, _⟩ := R.sd s hs
  unfold mostS
  cases hc : s.c with
  | none => exact Nat.le_refl _
  | some c => exact (a2 c hc).2
theorem Grow.most {G G' : GM} (g : Grow G G') {i : Nat} {s : Sg} (e : G.said[i]? = some s) : ∃ s', G'.said[i]? = some s' ∧ s'.t = s.t ∧ s'.p = s.p ∧ s'.x = s.x ∧ mostS G.deeds.length s ≤ mostS G'.deeds.length s' := by
  obtain ⟨s', h1, h2, h3, h4, h5⟩ := g.sd i s e
  refine ⟨s', h1, h2, h3, h4, ?_⟩
  obtain ⟨ds, ed⟩ := g.ds
  have hl : G.deeds.length ≤ G'.deeds.length := by rw [ed]; simp
  unfold mostS
  rcases h5 with h5 | ⟨h5, k, h6, h7⟩
  · rw [h5]
    cases s.c with
    | none => exact hl
    | some c => exact Nat.le_refl _
  · rw [h5, h6]; exact h7
section
variable {X : D → Hm → Prop} {h : Hm} {Q : D → Hm → Prop}
theorem Th.tl {n w : Nat} {l : List D} (t : Th (n + 1) w (.tup l)) : ∀ x ∈ l, Th n w x := by
  obtain ⟨h1, h2, h3⟩ := t
  have h1 : D.okL n l = true := h1
  have h2 : shxL l = true := h2
  rw [wgt_tup] at h3
  induction l with
  | nil => intro x hx; cases hx
  | cons a r ih =>
    simp only [D.okL, shxL, Bool.and_eq_true] at h1 h2
    rw [wgtL_cons] at h3
    intro x hx
    rcases List.mem_cons.mp hx with rfl | hx
    · exact ⟨h1.1, h2.1, by omega⟩
    · exact ih h1.2 h2.2 (by omega) h1.2 h2.2 x hx
/-- a number within bounds -/
def betD (lo hi : Int) : D → Bool
  | .int n => decide (lo ≤ n) && decide (n ≤ hi)
  | _ => false
theorem is_betweenD {b : D} {lo hi : Int} {n w : Nat} (t : Th n w b) (q : Q (.bl (betD lo hi b)) h) : SatX X (m_is_between [b, .int lo, .int hi] h) Q := by
  refine SatX.w ?_
  refine sa_fn rfl ?_
  unfold m_is_between_b
  simp only [List.map_cons, List.map_nil, List.replicate, Nat.reduceSub, List.cons_append, List.nil_append]
  array_get_dec
  refine so_isiD t.1 ?_
  cases b with
  | int k =>
    refine ⟨_, rfl, fun _ => ?_, fun z => nomatch z⟩
    array_get_dec
    refine ⟨fun _ => ?_, fun z => nomatch z⟩
    array_get_dec
    refine ⟨fun h1 => ?_, fun h1 => ?_⟩
    · array_get_dec
      have : betD lo hi (.int k) = decide (k ≤ hi) := by
        show (decide (lo ≤ k) && decide (k ≤ hi)) = _
        rw [show decide (lo ≤ k) = true from h1]; rfl
      rw [← this]; exact q
    · have : betD lo hi (.int k) = false := by
        show (decide (lo ≤ k) && decide (k ≤ hi)) = _
        rw [show decide (lo ≤ k) = false from h1]; rfl
      rw [this] at q
      first | exact q | (rw [show decide (lo ≤ k) = false from h1]; exact q)
  | bl b =>
    refine ⟨_, rfl, fun _ => ?_, fun z => nomatch z⟩
    array_get_dec
    exact ⟨(fun z => nomatch z), fun _ => q⟩
  | ref m => have := t.1; cases n <;> simp [D.okN] at this
  | scr m => have := t.1; cases n <;> simp [D.okN] at this
  | exn a b => have := t.1; cases n <;> simp [D.okN] at this
  | _ => exact ⟨_, rfl, (fun z => nomatch z), fun _ => q⟩
theorem shape_head {d : D} {n : Nat} (hk : D.okN n d = true) : (∀ l, d ≠ .tup l) → isTy (kindS d) "tuple" = false := fun hn => by
  cases d <;> first | rfl | exact absurd rfl (hn _)
theorem bet_int {lo hi : Int} {d : D} (h : betD lo hi d = true) : ∃ n, d = .int n ∧ lo ≤ n ∧ n ≤ hi := by
  cases d with
  | int n =>
    have : (decide (lo ≤ n) && decide (n ≤ hi)) = true := h
    simp only [Bool.and_eq_true, decide_eq_true_eq] at this
    exact ⟨n, rfl, this⟩
  | _ => exact nomatch h
def isS (s : Str) : D → Bool
  | .str k => decide (k = s)
  | _ => false
theorem eqb_isS (s : Str) (x : D) : D.eqb (.str s) x = isS s x := by
  cases x with
  | str k => show (s == k) = decide (k = s); rw [Bool.beq_eq_decide_eq]; congr 1; exact propext eq_comm
  | _ => rfl
def deedD : D → Bool
  | .tup [.str k, b] => if k = Str.ofString "put" then wordD b else if k = Str.ofString "again" then betD 1 999 b else if k = Str.ofString "room" then betD 0 200 b else false
  | _ => false
theorem is_deedD {d : D} {n w : Nat} (t : Th (n + 1) w d) (hw : w ≤ 100000) (q : Q (.bl (deedD d)) h) : SatX X (m_is_deed [d] h) Q := by
  refine SatX.w ?_
  refine sa_fn rfl ?_
  unfold m_is_deed_b
  simp only [List.map_cons, List.map_nil, List.replicate, Nat.reduceSub, List.cons_append, List.nil_append]
  array_get_dec
  refine so_isiD t.1 ?_
  by_cases ht : ∃ l, d = .tup l
  · obtain ⟨l, rfl⟩ := ht
    refine ⟨_, rfl, ?_⟩
    refine ⟨fun _ => ?_, fun z => nomatch z⟩
    array_get_dec
    match l, t, q with
    | [], t, q =>
      refine ⟨(fun z => nomatch z), fun _ => ⟨fun _ => ?_, fun z => nomatch z⟩⟩
      array_get_dec
      exact q
    | [a], t, q =>
      have e2 : deedD (.tup [a]) = false := by cases a <;> rfl
      rw [e2] at q
      refine ⟨(fun z => nomatch z), fun _ => ⟨fun _ => ?_, fun z => nomatch z⟩⟩
      array_get_dec
      exact q
    | a :: b :: c :: r, t, q =>
      have e : (!decide (((a :: b :: c :: r).length : Int) = 2)) = true := by simp; omega
      have e2 : deedD (.tup (a :: b :: c :: r)) = false := by cases a <;> rfl
      rw [e2] at q
      refine ⟨(fun z => absurd (e.symm.trans z) (by decide)), fun _ => ⟨fun _ => ?_, fun z => nomatch z⟩⟩
      array_get_dec
      exact q
    | [a, b], t, q =>
      have ta := t.tl a (by simp)
      have tb := t.tl b (by simp)
      refine ⟨fun _ => ?_, fun z => nomatch z⟩
      array_get_dec
      refine so_isiD ta.1 ?_
      cases hs : isStrD a with
      | false =>
        rw [kind_str hs]
        have e2 : deedD (.tup [a, b]) = false := by cases a <;> first | rfl | exact nomatch hs
        rw [e2] at q
        refine ⟨_, rfl, fun _ => ?_, fun z => nomatch z⟩
        array_get_dec
        exact q
      | true =>
        obtain ⟨k, rfl⟩ : ∃ k, a = .str k := by
          cases a with
          | str k => exact ⟨k, rfl⟩
          | _ => exact nomatch hs
        have e2 : deedD (.tup [.str k, b]) = if k = Str.ofString "put" then wordD b else if k = Str.ofString "again" then betD 1 999 b else if k = Str.ofString "room" then betD 0 200 b else false := rfl
        rw [e2] at q
        refine ⟨_, rfl, (fun z => nomatch z), fun _ => ?_⟩
        array_get_dec
        refine ⟨fun hp => ?_, fun hp => ?_⟩
        · rw [if_pos (of_decide_eq_true hp)] at q
          array_get_dec
          exact is_wordD tb hw q
        · rw [if_neg (of_decide_eq_false hp)] at q
          array_get_dec
          refine ⟨fun hp => ?_, fun hp => ?_⟩
          · rw [if_pos (of_decide_eq_true hp)] at q
            array_get_dec
            exact is_betweenD tb q
          · rw [if_neg (of_decide_eq_false hp)] at q
            array_get_dec
            refine ⟨fun hp => ?_, fun hp => ?_⟩
            · rw [if_pos (of_decide_eq_true hp)] at q
              array_get_dec
              exact is_betweenD tb q
            · rw [if_neg (of_decide_eq_false hp)] at q
              first | exact q | (rw [hp]; exact q)
  · have e := shape_head t.1 fun l z => ht ⟨l, z⟩
    rw [e]
    have e2 : deedD d = false := by cases d <;> first | rfl | exact absurd ⟨_, rfl⟩ ht
    rw [e2] at q
    refine ⟨_, rfl, (fun z => nomatch z), fun _ => ?_⟩
    refine ⟨fun _ => ?_, fun z => nomatch z⟩
    array_get_dec
    exact q
end
theorem S_back (x : Str) : S x.cps.toList = x := (S_of x).symm
theorem wordD_w {d : D} (h : wordD d = true) : ∃ w, d = .str w ∧ IsW w := by
  cases d with
  | str x => exact ⟨x, rfl, by have := smB_iff.mp (show smB x.cps.toList = true from h); rwa [S_back] at this⟩
  | _ => exact nomatch h
theorem wordD_of {w : Str} (h : IsW w) : wordD (.str w) = true := by
  show smB w.cps.toList = true
  exact smB_iff.mpr (by rw [S_back]; exact h)
theorem bet_of {lo hi n : Int} (a : lo ≤ n) (b : n ≤ hi) : betD lo hi (.int n) = true := by
  show (decide (lo ≤ n) && decide (n ≤ hi)) = true
  rw [decide_eq_true a, decide_eq_true b]; rfl
theorem strs9 : Str.ofString "again" ≠ Str.ofString "put" ∧ Str.ofString "room" ≠ Str.ofString "put" ∧ Str.ofString "room" ≠ Str.ofString "again" ∧ Str.ofString "by" ≠ Str.ofString "word" := by decide +kernel
theorem deedD_eq {k : Str} {b : D} : deedD (.tup [.str k, b]) = if k = Str.ofString "put" then wordD b else if k = Str.ofString "again" then betD 1 999 b else if k = Str.ofString "room" then betD 0 200 b else false := rfl
theorem deedD_iff {d : D} : deedD d = true ↔ IsDeed d := by
  constructor
  · intro h
    unfold deedD at h
    split at h
    · rename_i k b
      split at h
      · rename_i e
        obtain ⟨w, rfl, hw⟩ := wordD_w h
        rw [e]; exact .put w hw
      · split at h
        · rename_i e
          obtain ⟨n, rfl, a, c⟩ := bet_int h
          rw [e]; exact .again n a c
        · split at h
          · rename_i e
            obtain ⟨n, rfl, a, c⟩ := bet_int h
            rw [e]; exact .room n a c
          · cases h
    · cases h
  · intro h
    cases h with
    | put w hw => rw [deedD_eq, if_pos rfl]; exact wordD_of hw
    | again n a c => rw [deedD_eq, if_neg strs9.1, if_pos rfl]; exact bet_of a c
    | room n a c => rw [deedD_eq, if_neg strs9.2.1, if_neg strs9.2.2.1, if_pos rfl]; exact bet_of a c
section
variable {X : D → Hm → Prop} {h : Hm} {Q : D → Hm → Prop} {b : Nat} {P : PG5} {rs : List Nat} {O : List (Int × List Nat)} {PL : List (Int × Int)} {G : GM}
theorem can_or_illS {s : St} (ok : OkS s) {d : D} (hd : IsDeed d) : (∃ r' ws', Can s.room s.ws d r' ws') ∨ ((¬ ∃ r' ws', Can s.room s.ws d r' ws') ∧ ∃ x t b, Ill s.room s.first s.ws d x t b) := by
  by_cases hc : ∃ r' ws', Can s.room s.ws d r' ws'
  · exact .inl hc
  · refine .inr ⟨hc, ?_⟩
    cases hd with
    | put w hw =>
      by_cases hr : wt w ≤ s.room
      · exact absurd ⟨_, _, .put w hw hr⟩ hc
      · exact ⟨_, _, _, .heavy w hw (by omega)⟩
    | again n h0 h1 =>
      by_cases hl : n ≤ (s.ws.length : Int)
      · have hlt : ((s.ws.length : Int) - n).toNat < s.ws.length := by omega
        have := wt_le_sum (List.getElem_mem hlt)
        have := ok.2.2.2
        exact absurd ⟨_, _, .again n _ h0 hl (List.getElem?_eq_getElem hlt) (by omega)⟩ hc
      · exact ⟨_, _, _, .far n (by omega)⟩
    | room n h0 h1 => exact absurd ⟨_, _, .room n h0 h1⟩ hc
end
mutual
theorem okN_cl {N : Nat} : ∀ (d : D) (n : Nat), D.okN n d = true → D.cl N d = true
  | .non, _, _ => rfl
  | .bl _, _, _ => rfl
  | .int _, _, _ => rfl
  | .str _, _, _ => rfl
  | .scr _, _, _ => rfl
  | .tup l, 0, h => by simp [D.okN] at h
  | .lst l, 0, h => by simp [D.okN] at h
  | .tup l, n + 1, h => okL_cl l n h
  | .lst l, n + 1, h => okL_cl l n h
  | .ref m, n, h => by cases n <;> simp [D.okN] at h
  | .exn c fs, n, h => by cases n <;> simp [D.okN] at h
theorem okL_cl {N : Nat} : ∀ (l : List D) (n : Nat), D.okL n l = true → D.clL N l = true
  | [], _, _ => rfl
  | x :: r, n, h => by
    simp only [D.okL, Bool.and_eq_true] at h
    show (D.cl N x && D.clL N r) = true
    rw [okN_cl x n h.1, okL_cl r n h.2]; rfl
end
theorem Th.cl {n w N : Nat} {d : D} (t : Th n w d) : D.cl N d = true := okN_cl d n t.1
/-- a tuple, a list of things: the weight is dealt out -/
theorem thT {n V : Nat} {l : List D} (h : ∀ x ∈ l, Th n (V / l.length - 1) x) (hl : 1 ≤ l.length ∧ l.length ≤ V) : Th (n + 1) V (.tup l) :=
  Th.tup h (by
    have h1 : 1 ≤ V / l.length := (Nat.one_le_div_iff (by omega)).mpr hl.2
    rw [Nat.sub_add_cancel h1, Nat.mul_comm]
    exact Nat.mul_div_le V l.length)
theorem thL {n V : Nat} {l : List D} (h : ∀ x ∈ l, Th n (V / l.length - 1) x) (hl : 1 ≤ l.length ∧ l.length ≤ V) : Th (n + 1) V (.lst l) :=
  Th.lst h (by
    have h1 : 1 ≤ V / l.length := (Nat.one_le_div_iff (by omega)).mpr hl.2
    rw [Nat.sub_add_cancel h1, Nat.mul_comm]
    exact Nat.mul_div_le V l.length)
theorem th_w {w : Str} (hw : IsW w) {n V : Nat} (h : 12 ≤ V) : Th n V (.str w) := by
  rw [S_of w]
  exact .str (.ofW hw) (by have := hw.len.2; rw [show w.cps.toList.length = w.length by simp [Str.length]]; omega)
structure OS (h0 : Hm) (V k n : Nat) (h : Hm) : Prop where
  ex : ∃ l, h[n]? = some (.lst l) ∧ (∀ d ∈ l, Th 12 V d) ∧ l.length = k
  a : h0.length ≤ n
  b : h0.length ≤ h.length
  f : ∀ m, m < h0.length → h[m]? = h0[m]?
section
variable {X : D → Hm → Prop} {h h0 : Hm} {Q : D → Hm → Prop} {V k n : Nat}
theorem OS.fin {d : D} (o : OS h0 V k n h) (t : Th 12 V d) (q : Q d h0) : D.cl h0.length d = true ∧ trOk h0 h h0.length = true ∧ Q d (h.take h0.length) := by
  obtain ⟨z1, z2⟩ := trOk_same (N := h0.length) (h := h0) (h1 := h) o.b o.f
  exact ⟨t.cl, z1, by rw [z2]; exact q⟩
end
theorem t1 {n V : Nat} {a : D} (ha : Th n (V / 1 - 1) a) (hv : 1 ≤ V) : Th (n + 1) V (.tup [a]) := thT (l := [a]) (all_cons ha all_nil) ⟨by simp, hv⟩
theorem t2 {n V : Nat} {a b : D} (ha : Th n (V / 2 - 1) a) (hb : Th n (V / 2 - 1) b) (hv : 2 ≤ V) : Th (n + 1) V (.tup [a, b]) := thT (l := [a, b]) (all_cons ha (all_cons hb all_nil)) ⟨by simp, hv⟩
theorem t3 {n V : Nat} {a b c : D} (ha : Th n (V / 3 - 1) a) (hb : Th n (V / 3 - 1) b) (hc : Th n (V / 3 - 1) c) (hv : 3 ≤ V) : Th (n + 1) V (.tup [a, b, c]) := thT (l := [a, b, c]) (all_cons ha (all_cons hb (all_cons hc all_nil))) ⟨by simp, hv⟩
theorem t4 {n V : Nat} {a b c d : D} (ha : Th n (V / 4 - 1) a) (hb : Th n (V / 4 - 1) b) (hc : Th n (V / 4 - 1) c) (hd : Th n (V / 4 - 1) d) (hv : 4 ≤ V) : Th (n + 1) V (.tup [a, b, c, d]) := thT (l := [a, b, c, d]) (all_cons ha (all_cons hb (all_cons hc (all_cons hd all_nil)))) ⟨by simp, hv⟩
theorem l1 {n V : Nat} {a : D} (ha : Th n (V / 1 - 1) a) (hv : 1 ≤ V) : Th (n + 1) V (.lst [a]) := thL (l := [a]) (all_cons ha all_nil) ⟨by simp, hv⟩
theorem l2 {n V : Nat} {a b : D} (ha : Th n (V / 2 - 1) a) (hb : Th n (V / 2 - 1) b) (hv : 2 ≤ V) : Th (n + 1) V (.lst [a, b]) := thL (l := [a, b]) (all_cons ha (all_cons hb all_nil)) ⟨by simp, hv⟩
theorem th_big {n V W : Nat} {d : D} (t : Th n V d) (h : wgt d ≤ W) : Th n W d := ⟨t.1, t.2.1, h⟩
def m_law_row_r_b : SM :=
  (sSeq (sAsg (gN 2) (eF m_law_sip (aC (eV 0) (aC (eC (.int 4)) aN))))
  (sSeq (sAsg (gN 3) (eB opAdd (eC (.int 1)) (eF m_law_sip (aC (eV 0) (aC (eV 1) aN)))))
  (sSeq (sAsg (gN 4) (eC (.str (Str.ofString "abcdefghijklmnopqrstuvwxyz"))))
  (sSeq (sAsg (gN 5) (eB opIx (eLst (aC (eC (.int 12)) (aC (eF m_law_sip (aC (eV 0) (aC (eC (.int 13)) aN))) (aC (eB opAdd (eC (.int 6)) (eF m_law_sip (aC (eV 0) (aC (eC (.int 7)) aN)))) (aC (eC (.int 9)) aN))))) (eV 2)))
  (sSeq (sAsg (gN 6) (eNew aN))
  (sSeq (sFor (gN 7) (wR1 (eB opAdd (eC (.int 1)) (eF m_law_sip (aC (eV 0) (aC (eC (.int 3)) aN))))) (sSeq (sAsg (gN 8) (eB opAdd (eC (.int 1)) (eF m_law_sip (aC (eV 0) (aC (eB opIx (eLst (aC (eC (.int 3)) (aC (eC (.int 6)) (aC (eC (.int 13)) (aC (eC (.int 4)) aN))))) (eF m_law_sip (aC (eV 0) (aC (eC (.int 4)) aN)))) aN)))))
  (sExpr (eM "list" mAppend (eV 6) (aC (eM "str" mJoin (eC (.str (Str.ofString ""))) (aC (eLc [9] (gN 9) (wR1 (eF bMin (aC (eC (.int 12)) (aC (eV 8) aN)))) tYes (eB opIx (eV 4) (eF m_law_sip (aC (eV 0) (aC (eC (.int 26)) aN))))) aN)) aN)))))
  (sRet (eTup (aC (eV 5) (aC (eLc [7] (gN 7) (wR1 (eV 3)) tYes (eB opIx (eV 6) (eF m_law_sip (aC (eV 0) (aC (eF bLen (aC (eV 6) aN)) aN))))) aN))))))))))
def m_law_row_r : FM := tr (fn0 2 10 m_law_row_r_b)
def m_step_price_b : SM :=
  (sSeq (sIf (tE (eB opEq (eB opIx (eV 0) (eC (.int 0))) (eC (.str (Str.ofString "word"))))) (sRet (eF m_item_price (aC (eTup (aC (eC (.str (Str.ofString "word"))) (aC (eV 1) aN))) aN))) sNx)
  (sSeq (sIf (tE (eB opEq (eB opIx (eV 0) (eC (.int 0))) (eC (.str (Str.ofString "by"))))) (sRet (eF m_item_price (aC (eV 0) aN))) sNx)
  (sRet (eF m_deed_price (aC (eV 0) aN)))))
def m_step_price : FM := fn0 2 2 m_step_price_b
def m_tells_b : SM :=
  (sRet (eB opIn (eB opIx (eV 0) (eC (.int 0))) (eTup (aC (eC (.str (Str.ofString "word"))) (aC (eC (.str (Str.ofString "by"))) aN)))))
def m_tells : FM := fn0 1 1 m_tells_b
def m_price_of_b : SM :=
  (sSeq (sAsg (gN 2) (eC (.int 0)))
  (sSeq (sAsg (gN 3) (eC (.int 0)))
  (sSeq (sFor (gN 4) (wE (eV 0)) (sSeq (sAsg (gN 2) (eB opAdd (eV 2) (eF m_step_price (aC (eV 4) (aC (eB opIx (eV 1) (eV 3)) aN)))))
  (sAsg (gN 3) (eB opAdd (eV 3) (eF bInt (aC (eF m_tells (aC (eV 4) aN)) aN))))))
  (sRet (eV 2)))))
def m_price_of : FM := fn0 2 5 m_price_of_b
def m_behind_step_b : SM :=
  (sSeq (sIf (tOr (tNot (tE (eF m_is_deed (aC (eV 1) aN)))) (tE (eB opEq (eB opIx (eV 1) (eC (.int 0))) (eC (.str (Str.ofString "room")))))) (sRet (eC .non)) sNx)
  (sSeq (sTry (sAsg (gN 0) (eF m_done_r (aC (eV 0) (aC (eV 1) aN)))) (fun c => xIs c "NoRoom" || xIs c "NoWord") fun _ => (sAsg (gN 0) (eC .non)))
  (sRet (eV 0))))
def m_behind_step : FM := fn 2 2 m_behind_step_b
def m_can_tell_b : SM :=
  (sSeq (sIf (tE (eB opEq (eB opIx (eV 1) (eC (.int 0))) (eC (.str (Str.ofString "word"))))) (sRet (eB opEq (eF bLen (aC (eV 1) aN)) (eC (.int 1)))) sNx)
  (sSeq (sIf (tOr (tE (eB opNe (eF bLen (aC (eV 1) aN)) (eC (.int 2)))) (tNot (tE (eF m_is_between (aC (eB opIx (eV 1) (eC (.int 1))) (aC (eC (.int 1)) (aC (eF bLen (aC (eB opIx (eV 0) (eC (.int 2))) aN)) aN))))))) (sRet (eC (.bl false))) sNx)
  (sRet (eB opEq (eB opIx (eB opIx (eV 0) (eC (.int 2))) (eB opSub (eF bLen (aC (eB opIx (eV 0) (eC (.int 2))) aN)) (eB opIx (eV 1) (eC (.int 1))))) (eV 2)))))
def m_can_tell : FM := fn0 3 3 m_can_tell_b
def m_is_plan_b : SM :=
  (sSeq (sIf (tNot (tE (eU (isi "list") (eV 2)))) (sRet (eC (.bl false))) sNx)
  (sSeq (sAsg (gN 3) (eTup (aC (eV 0) (aC (eC (.int 0)) (aC (eTup aN) aN)))))
  (sSeq (sAsg (gN 4) (eC (.int 0)))
  (sSeq (sFor (gN 5) (wE (eV 2)) (sSeq (sIf (tOr (tE (eB opEq (eV 4) (eF bLen (aC (eV 1) aN)))) (tOr (tNot (tE (eU (isi "tuple") (eV 5)))) (tOr (tE (eB opEq (eF bLen (aC (eV 5) aN)) (eC (.int 0)))) (tNot (tE (eU (isi "str") (eB opIx (eV 5) (eC (.int 0))))))))) (sRet (eC (.bl false))) sNx)
  (sIf (tE (eF m_tells (aC (eV 5) aN))) (sSeq (sIf (tNot (tE (eF m_can_tell (aC (eV 3) (aC (eV 5) (aC (eB opIx (eV 1) (eV 4)) aN)))))) (sRet (eC (.bl false))) sNx)
  (sAsg (gN 4) (eB opAdd (eV 4) (eC (.int 1))))) (sSeq (sAsg (gN 3) (eF m_behind_step (aC (eV 3) (aC (eV 5) aN))))
  (sIf (tE (eB opIsN (eV 3) (eC .non))) (sRet (eC (.bl false))) sNx)))))
  (sRet (eB opEq (eV 4) (eF bLen (aC (eV 1) aN))))))))
def m_is_plan : FM := fn 3 6 m_is_plan_b
abbrev wordT : D := .tup [.str (Str.ofString "word")]
abbrev byT (n : Int) : D := .tup [.str (Str.ofString "by"), .int n]
/-- how far a plan has come: the book, and how many words were told -/
structure PS where
  s : St
  t : Nat
inductive StepOk (row : List Str) : PS → D → PS → Prop
  | word (s : St) (t : Nat) (ht : t < row.length) : StepOk row ⟨s, t⟩ wordT ⟨s, t + 1⟩
  | by_ (s : St) (t : Nat) (n : Int) (w : Str) (h0 : 1 ≤ n) (h1 : n ≤ (s.ws.length : Int)) (hw : s.ws[((s.ws.length : Int) - n).toNat]? = some w) (hr : row[t]? = some w) : StepOk row ⟨s, t⟩ (byT n) ⟨s, t + 1⟩
  | put (s : St) (t : Nat) (w : Str) (ht : t < row.length) (h : IsW w) (hr : wt w ≤ s.room) : StepOk row ⟨s, t⟩ (.tup [.str (Str.ofString "put"), .str w]) ⟨nextS s s.room (s.ws ++ [w]), t⟩
  | again (s : St) (t : Nat) (n : Int) (w : Str) (ht : t < row.length) (h0 : 1 ≤ n) (h1 : n ≤ s.ws.length) (e : s.ws[((s.ws.length : Int) - n).toNat]? = some w) (hr : wt w ≤ s.room) : StepOk row ⟨s, t⟩ (.tup [.str (Str.ofString "again"), .int n]) ⟨nextS s s.room (s.ws ++ [w]), t⟩
inductive PRun (row : List Str) : PS → List D → PS → Prop
  | nil (a : PS) : PRun row a [] a
  | cons {a b c : PS} {x : D} {l : List D} (k : StepOk row a x b) (r : PRun row b l c) : PRun row a (x :: l) c
theorem PRun.snoc {row : List Str} {a b c : PS} {x : D} {l : List D} (r : PRun row a l b) (k : StepOk row b x c) : PRun row a (l ++ [x]) c := by
  induction r with
  | nil a => exact .cons k (.nil _)
  | cons k' r' ih => exact .cons k' (ih k)
theorem PRun.app {row : List Str} {a b c : PS} {l m : List D} (r : PRun row a l b) (r2 : PRun row b m c) : PRun row a (l ++ m) c := by
  induction r with
  | nil a => exact r2
  | cons k' r' ih => exact .cons k' (ih r2)
/-- what a step costs -/
def stepP (row : List Str) (t : Nat) : D → Int
  | .tup [.str k] => if k = Str.ofString "word" then 1 + (((row[t]?).map (·.length)).getD 0 : Nat) else 0
  | .tup [.str k, b] => if k = Str.ofString "by" then 1 + (sgn b : Int) else 2 + (sgn b : Int)
  | _ => 0
def tellN : D → Nat
  | .tup (.str k :: _) => if k = Str.ofString "word" ∨ k = Str.ofString "by" then 1 else 0
  | _ => 0
def priceP (row : List Str) : Nat → List D → Int
  | _, [] => 0
  | t, x :: r => stepP row t x + priceP row (t + tellN x) r
theorem priceP_app (row : List Str) : ∀ (l m : List D) (t : Nat), priceP row t (l ++ m) = priceP row t l + priceP row (t + (l.map tellN).sum) m
  | [], m, t => by simp [priceP]
  | x :: l, m, t => by
    rw [List.cons_append, priceP, priceP, priceP_app row l m, List.map_cons, List.sum_cons]
    rw [show t + tellN x + (l.map tellN).sum = t + (tellN x + (l.map tellN).sum) by omega]
    omega
theorem pw4 : Str.ofString "word" ≠ Str.ofString "by" ∧ Str.ofString "put" ≠ Str.ofString "word" ∧ Str.ofString "put" ≠ Str.ofString "by" ∧ Str.ofString "again" ≠ Str.ofString "word" ∧ Str.ofString "again" ≠ Str.ofString "by" ∧ Str.ofString "put" ≠ Str.ofString "again" ∧ Str.ofString "put" ≠ Str.ofString "room" ∧ Str.ofString "again" ≠ Str.ofString "room" ∧ Str.ofString "room" ≠ Str.ofString "word" ∧ Str.ofString "room" ≠ Str.ofString "by" := by decide +kernel
theorem tellN_eq (k : Str) (r : List D) : tellN (.tup (.str k :: r)) = if k = Str.ofString "word" ∨ k = Str.ofString "by" then 1 else 0 := rfl
theorem tellN_word : tellN wordT = 1 := by rw [tellN_eq, if_pos (Or.inl rfl)]
theorem tellN_by (n : Int) : tellN (byT n) = 1 := by rw [tellN_eq, if_pos (Or.inr rfl)]
theorem tellN_put (b : D) : tellN (.tup [.str (Str.ofString "put"), b]) = 0 := by rw [tellN_eq, if_neg (fun h => Or.elim h pw4.2.1 pw4.2.2.1)]
theorem tellN_again (b : D) : tellN (.tup [.str (Str.ofString "again"), b]) = 0 := by rw [tellN_eq, if_neg (fun h => Or.elim h pw4.2.2.2.1 pw4.2.2.2.2.1)]
theorem StepOk.told {row : List Str} {a b : PS} {x : D} (k : StepOk row a x b) : b.t = a.t + tellN x ∧ a.t < row.length := by
  cases k with
  | word s t ht => exact ⟨by rw [tellN_word], ht⟩
  | by_ s t n w h0 h1 hw hr => exact ⟨by rw [tellN_by], (List.getElem?_eq_some_iff.mp hr).1⟩
  | put s t w ht h hr => exact ⟨by rw [tellN_put]; rfl, ht⟩
  | again s t n w ht h0 h1 e hr => exact ⟨by rw [tellN_again]; rfl, ht⟩
theorem PRun.told {row : List Str} {a b : PS} {l : List D} (r : PRun row a l b) : b.t = a.t + (l.map tellN).sum := by
  induction r with
  | nil a => simp
  | cons k r ih =>
    rw [ih, k.told.1, List.map_cons, List.sum_cons]; omega
theorem stepP_word {row : List Str} {t : Nat} {w : Str} (h : row[t]? = some w) : stepP row t wordT = 1 + (w.length : Int) := by
  show (if Str.ofString "word" = Str.ofString "word" then (1 : Int) + (((row[t]?).map (·.length)).getD 0 : Nat) else 0) = _
  rw [if_pos rfl, h]; rfl
theorem stepP_eq2 (row : List Str) (t : Nat) (k : Str) (b : D) : stepP row t (.tup [.str k, b]) = if k = Str.ofString "by" then 1 + (sgn b : Int) else 2 + (sgn b : Int) := rfl
theorem stepP_by (row : List Str) (t : Nat) (n : Int) : stepP row t (byT n) = 1 + (sgn (.int n) : Int) := by rw [stepP_eq2, if_pos rfl]
theorem stepP_put (row : List Str) (t : Nat) (b : D) : stepP row t (.tup [.str (Str.ofString "put"), b]) = 2 + (sgn b : Int) := by rw [stepP_eq2, if_neg pw4.2.2.1]
theorem stepP_again (row : List Str) (t : Nat) (b : D) : stepP row t (.tup [.str (Str.ofString "again"), b]) = 2 + (sgn b : Int) := by rw [stepP_eq2, if_neg pw4.2.2.2.2.1]
/-- a book of a plan -/
structure PG (room : Int) (a : PS) : Prop where
  ok : OkS a.s
  r : a.s.room = room
  f : 0 ≤ a.s.first
theorem PG.len {room : Int} {a : PS} (g : PG room a) : a.s.ws.length ≤ 100 := by
  have := sumW_ge a.s.ws
  have := g.ok.2.2.2
  have := g.ok.2.1
  omega
theorem StepOk.pg {row : List Str} {room : Int} {a b : PS} {x : D} (k : StepOk row a x b) (g : PG room a) : PG room b := by
  obtain ⟨ok, r, f⟩ := g
  cases k with
  | word s t ht => exact ⟨ok, r, f⟩
  | by_ s t n w h0 h1 hw hr => exact ⟨ok, r, f⟩
  | put s t w ht h hr =>
    have c : Can s.room s.ws _ s.room (s.ws ++ [w]) := .put w h hr
    have := next_le c
    have f : 0 ≤ s.first := f
    exact ⟨next_ok ok c, r, by show 0 ≤ (nextS s s.room (s.ws ++ [w])).first; omega⟩
  | again s t n w ht h0 h1 e hr =>
    have c : Can s.room s.ws _ s.room (s.ws ++ [w]) := .again n w h0 h1 e hr
    have := next_le c
    have f : 0 ≤ s.first := f
    exact ⟨next_ok ok c, r, by show 0 ≤ (nextS s s.room (s.ws ++ [w])).first; omega⟩
theorem PRun.pg {row : List Str} {room : Int} {a b : PS} {l : List D} (r : PRun row a l b) (g : PG room a) : PG room b := by
  induction r with
  | nil a => exact g
  | cons k r ih => exact ih (k.pg g)
def P0 (room : Int) : PS := ⟨⟨room, 0, []⟩, 0⟩
theorem P0_g {room : Int} (h0 : 0 ≤ room) (h1 : room ≤ 200) : PG room (P0 room) := ⟨⟨h0, h1, (fun _ z => nomatch z), h0⟩, rfl, Int.le_refl _⟩
theorem step_uniq {row : List Str} {a b c : PS} {x : D} (k : StepOk row a x b) (k2 : StepOk row a x c) : b = c := by
  obtain ⟨n1, n2, n3, n4, n5, n6, n7, n8, _⟩ := pw4
  generalize ex : x = y at k2
  cases k with
  | word s t ht =>
    cases k2 with
    | word => rfl
    | by_ => injection ex with ex; exact absurd (congrArg List.length ex) (by simp)
    | put => injection ex with ex; exact absurd (congrArg List.length ex) (by simp)
    | again => injection ex with ex; exact absurd (congrArg List.length ex) (by simp)
  | by_ s t n w h0 h1 hw hr =>
    cases k2 with
    | word => injection ex with ex; exact absurd (congrArg List.length ex) (by simp)
    | by_ => rfl
    | put => injection ex with ex; simp only [List.cons.injEq, D.str.injEq] at ex; exact absurd ex.1.symm n3
    | again => injection ex with ex; simp only [List.cons.injEq, D.str.injEq] at ex; exact absurd ex.1.symm n5
  | put s t w ht h hr =>
    cases k2 with
    | word => injection ex with ex; exact absurd (congrArg List.length ex) (by simp)
    | by_ => injection ex with ex; simp only [List.cons.injEq, D.str.injEq] at ex; exact absurd ex.1 n3
    | put s t w2 =>
      injection ex with ex
      simp only [List.cons.injEq, D.str.injEq, and_true, true_and] at ex
      rw [ex]
    | again => injection ex with ex; simp only [List.cons.injEq, D.str.injEq] at ex; exact absurd ex.1 n6
  | again s t n w ht h0 h1 e hr =>
    cases k2 with
    | word => injection ex with ex; exact absurd (congrArg List.length ex) (by simp)
    | by_ => injection ex with ex; simp only [List.cons.injEq, D.str.injEq] at ex; exact absurd ex.1 n5
    | put => injection ex with ex; simp only [List.cons.injEq, D.str.injEq] at ex; exact absurd ex.1.symm n6
    | again s t n2 w2 ht2 h02 h12 e2 hr2 =>
      injection ex with ex
      simp only [List.cons.injEq, D.int.injEq, and_true, true_and] at ex
      subst ex
      rw [e] at e2
      rw [Option.some.inj e2]
def StepIs (row : List Str) (a : PS) (x : D) : Prop := ∃ b, StepOk row a x b
open Classical in
noncomputable def runP (row : List Str) : PS → List D → Bool
  | a, [] => decide (a.t = row.length)
  | a, x :: r => if h : StepIs row a x then runP row h.choose r else false
theorem runP_step {row : List Str} {a b : PS} {x : D} {r : List D} (k : StepOk row a x b) : runP row a (x :: r) = runP row b r := by
  have h : StepIs row a x := ⟨b, k⟩
  rw [runP, dif_pos h, step_uniq h.choose_spec k]
theorem runP_not {row : List Str} {a : PS} {x : D} {r : List D} (h : ¬ StepIs row a x) : runP row a (x :: r) = false := by rw [runP, dif_neg h]
theorem runP_iff {row : List Str} : ∀ {l : List D} {a : PS}, runP row a l = true ↔ ∃ b, PRun row a l b ∧ b.t = row.length
  | [], a => by
    rw [runP, decide_eq_true_eq]
    exact ⟨fun h => ⟨a, .nil a, h⟩, fun ⟨b, r, h⟩ => by cases r; exact h⟩
  | x :: l, a => by
    by_cases h : StepIs row a x
    · obtain ⟨b, k⟩ := h
      rw [runP_step k, runP_iff]
      constructor
      · rintro ⟨c, r, e⟩; exact ⟨c, .cons k r, e⟩
      · rintro ⟨c, r, e⟩
        cases r with
        | cons k2 r => rw [step_uniq k k2]; exact ⟨c, r, e⟩
    · rw [runP_not h]
      constructor
      · intro z; cases z
      · rintro ⟨c, r, e⟩
        cases r with
        | cons k2 r => exact absurd ⟨_, k2⟩ h
section
variable {X : D → Hm → Prop} {h : Hm} {Q : D → Hm → Prop} {row : List Str}
theorem tells_r {k : Str} {r : List D} (q : Q (.bl (decide (k = Str.ofString "word") || decide (k = Str.ofString "by"))) h) : Sat (m_tells [.tup (.str k :: r)] h) Q := by
  refine sa_fn rfl ?_
  unfold m_tells_b
  simp only [List.map_cons, List.map_nil, List.replicate, Nat.reduceSub, List.cons_append, List.nil_append]
  array_get_dec
  refine so_inT (x := .str k) (l := [.str (Str.ofString "word"), .str (Str.ofString "by")]) rfl ?_
  have e9 : (([D.str (Str.ofString "word"), .str (Str.ofString "by")] : List D).any fun z => D.eqb z (.str k)) = (decide (k = Str.ofString "word") || decide (k = Str.ofString "by")) := by
    simp only [List.any_cons, List.any_nil, Bool.or_false, eqb_isS]; rfl
  rw [e9]; exact q
theorem tells_tl {x : D} {a b : PS} (k : StepOk row a x b) (q : Q (.bl (decide (tellN x = 1))) h) : Sat (m_tells [x] h) Q := by
  have key : ∀ (k : Str) (r : List D), (decide (k = Str.ofString "word") || decide (k = Str.ofString "by")) = decide (tellN (.tup (.str k :: r)) = 1) := fun k r => by
    rw [tellN_eq, Bool.eq_iff_iff, Bool.or_eq_true, decide_eq_true_eq, decide_eq_true_eq, decide_eq_true_eq]
    split <;> simp_all
  cases k with
  | word => exact tells_r (by rw [key]; exact q)
  | by_ => exact tells_r (by rw [key]; exact q)
  | put => exact tells_r (by rw [key]; exact q)
  | again => exact tells_r (by rw [key]; exact q)
theorem row_get {t : Nat} {w : Str} (hw : row[t]? = some w) (q : Q (.str w) h) : SatX X (opIx (.lst (row.map D.str)) (.int (t : Int)) h) Q :=
  so_ixL (d := .str w) (by rw [show ((t : Nat) : Int) = ((t : Nat) : Int) from rfl]; exact atI_nat (by rw [List.getElem?_map, hw]; rfl)) q
theorem step_price {x : D} {a b : PS} {w : Str} {room : Int} (k : StepOk row a x b) (g : PG room a) (hrow : Words row) (hw : row[a.t]? = some w) (q : Q (.int (stepP row a.t x)) h) : Sat (m_step_price [x, .str w] h) Q := by
  obtain ⟨n1, n2, n3, n4, n5, n6, n7, n8, _⟩ := pw4
  have gl := g.len
  have iw : IsW w := hrow w (List.mem_of_getElem? hw)
  refine sa_fn rfl ?_
  unfold m_step_price_b
  simp only [List.map_cons, List.map_nil, List.replicate, Nat.reduceSub, List.cons_append, List.nil_append]
  cases k with
  | word s t ht =>
    array_get_dec
    rw [same_s]
    refine ⟨fun _ => ?_, fun z => nomatch z⟩
    array_get_dec
    refine item_price (.word w iw) ?_
    rw [stepP_word hw] at q
    exact q
  | by_ s t n w h0 h1 hw2 hr =>
    array_get_dec
    rw [decide_eq_false (Ne.symm n1)]
    refine ⟨(fun z => nomatch z), fun _ => ?_⟩
    array_get_dec
    rw [same_s]
    refine ⟨fun _ => ?_, fun z => nomatch z⟩
    array_get_dec
    refine item_price (.by_ n h0 (by have gl : s.ws.length ≤ 100 := gl; omega)) ?_
    rw [stepP_by] at q
    exact q
  | put s t w ht h hr =>
    array_get_dec
    rw [decide_eq_false n2]
    refine ⟨(fun z => nomatch z), fun _ => ?_⟩
    array_get_dec
    rw [decide_eq_false n3]
    refine ⟨(fun z => nomatch z), fun _ => ?_⟩
    array_get_dec
    refine deed_price (.put w h) ?_
    rw [stepP_put] at q
    exact q
  | again s t n w ht h0 h1 e hr =>
    array_get_dec
    rw [decide_eq_false n4]
    refine ⟨(fun z => nomatch z), fun _ => ?_⟩
    array_get_dec
    rw [decide_eq_false n5]
    refine ⟨(fun z => nomatch z), fun _ => ?_⟩
    array_get_dec
    refine deed_price (.again n h0 (by have gl : s.ws.length ≤ 100 := gl; omega)) ?_
    rw [stepP_again] at q
    exact q
theorem tl_int {x : D} {a b : PS} (k : StepOk row a x b) : ((a.t : Int) + if decide (tellN x = 1) = true then 1 else 0) = (b.t : Int) := by
  have h1 := k.told.1
  have h2 : tellN x = 0 ∨ tellN x = 1 := by
    cases k <;> first | exact .inr tellN_word | exact .inr (tellN_by _) | exact .inl (tellN_put _) | exact .inl (tellN_again _)
  rcases h2 with e | e <;> rw [e] at h1 ⊢ <;> simp <;> omega
/-- a plan that can be gone costs what its steps cost -/
theorem price_of {room : Int} {a b : PS} {l : List D} (r : PRun row a l b) (g : PG room a) (ha : a.t = 0) (hrow : Words row) (hl : l.length ≤ 100000) (q : Q (.int (priceP row 0 l)) h) : Sat (m_price_of [.lst l, .lst (row.map D.str)] h) Q := by
  refine sa_fn rfl ?_
  unfold m_price_of_b
  simp only [List.map_cons, List.map_nil, List.replicate, Nat.reduceSub, List.cons_append, List.nil_append]
  array_get_dec
  refine ss_forL (l := l) (fun i v h' => ∃ c x4, v = [some (.lst l), some (.lst (row.map D.str)), some (.int (priceP row 0 (l.take i))), some (.int (c.t : Int)), x4] ∧ h' = h ∧ PRun row a (l.take i) c ∧ PRun row c (l.drop i) b) (by
    array_get_dec
    exact so_wkL ⟨rfl, rfl⟩) ⟨a, _, by rw [ha]; rfl, rfl, .nil a, r⟩ ?_ ?_
  · rintro i x v h' hx ⟨c, x4, rfl, rfl, r1, r2⟩
    have hi := (List.getElem?_eq_some_iff.mp hx).1
    have hd : l.drop i = x :: l.drop (i + 1) := by rw [List.drop_eq_getElem_cons hi, (List.getElem?_eq_some_iff.mp hx).2]
    have ht : l.take (i + 1) = l.take i ++ [x] := by rw [List.take_add_one, hx]; rfl
    rw [hd] at r2
    cases r2 with
    | cons k r2 =>
    rename_i d
    have gc := r1.pg g
    obtain ⟨w, hw⟩ : ∃ w, row[c.t]? = some w := ⟨_, List.getElem?_eq_getElem k.told.2⟩
    refine ⟨_, rfl, ?_⟩
    simp only [List.set_cons_zero, List.set_cons_succ]
    array_get_dec
    refine row_get hw ?_
    array_get_dec
    refine step_price k gc hrow hw ?_
    array_get_dec
    refine tells_tl k ?_
    array_get_dec
    refine ⟨d, some x, ?_, rfl, by rw [ht]; exact r1.snoc k, r2⟩
    have e : 0 + ((l.take i).map tellN).sum = c.t := by have := r1.told; omega
    rw [tl_int k, ht, priceP_app, priceP, priceP, e, Int.add_zero]
  · rintro v h' ⟨c, x4, rfl, rfl, r1, r2⟩
    rw [List.take_length] at *
    array_get_dec
    exact q
/-- whether a step tells the next word -/
theorem can_tell {room : Int} {a : PS} {k : Str} {r : List D} {w : Str} {m V : Nat} (g : PG room a) (t : Th (m + 1) V (.tup (.str k :: r))) (hm : m ≤ 50) (hV : V ≤ 100000) (hk : k = Str.ofString "word" ∨ k = Str.ofString "by") (hw : row[a.t]? = some w)
    (q : ∀ c : Bool, (c = true ↔ StepIs row a (.tup (.str k :: r))) → (c = true → StepOk row a (.tup (.str k :: r)) ⟨a.s, a.t + 1⟩) → Q (.bl c) h) : Sat (m_can_tell [a.s.bk, .tup (.str k :: r), .str w] h) Q := by
  obtain ⟨n1, n2, n3, n4, n5, n6, n7, n8, _⟩ := pw4
  have gl := g.len
  have htl := (List.getElem?_eq_some_iff.mp hw).1
  unfold St.bk bookD
  refine sa_fn rfl ?_
  unfold m_can_tell_b
  simp only [List.map_cons, List.map_nil, List.replicate, Nat.reduceSub, List.cons_append, List.nil_append]
  rcases hk with rfl | rfl
  · array_get_dec
    rw [same_s]
    refine ⟨fun _ => ?_, fun z => nomatch z⟩
    array_get_dec
    have iff : decide (((D.str (Str.ofString "word") :: r).length : Int) = 1) = true ↔ StepIs row a (.tup (.str (Str.ofString "word") :: r)) := by
      rw [decide_eq_true_eq]
      constructor
      · intro hz
        have : r = [] := by
          cases r with
          | nil => rfl
          | cons x y => simp only [List.length_cons] at hz; omega
        subst this
        exact ⟨_, .word a.s a.t htl⟩
      · rintro ⟨b, kk⟩
        generalize ex : D.tup (.str (Str.ofString "word") :: r) = y at kk
        cases kk with
        | word => injection ex with ex; rw [ex]; rfl
        | by_ => injection ex with ex; simp only [List.cons.injEq, D.str.injEq] at ex; exact absurd ex.1 n1
        | put => injection ex with ex; simp only [List.cons.injEq, D.str.injEq] at ex; exact absurd ex.1.symm n2
        | again => injection ex with ex; simp only [List.cons.injEq, D.str.injEq] at ex; exact absurd ex.1.symm n4
    refine q _ iff fun hz => ?_
    have hz := of_decide_eq_true hz
    have : r = [] := by
      cases r with
      | nil => rfl
      | cons x y => simp only [List.length_cons] at hz; omega
    subst this
    exact .word a.s a.t htl
  · have only : ∀ {b : PS}, StepOk row a (.tup (.str (Str.ofString "by") :: r)) b → ∃ n : Int, r = [.int n] ∧ 1 ≤ n ∧ n ≤ (a.s.ws.length : Int) ∧ a.s.ws[((a.s.ws.length : Int) - n).toNat]? = some w := fun {b} kk => by
      generalize ex : D.tup (.str (Str.ofString "by") :: r) = y at kk
      cases kk with
      | word => injection ex with ex; simp only [List.cons.injEq, D.str.injEq] at ex; exact absurd ex.1.symm n1
      | by_ s t n w' h0 h1 hw2 hr =>
        injection ex with ex
        simp only [List.cons.injEq, true_and] at ex
        have hw : row[t]? = some w := hw
        rw [hr] at hw
        have : w' = w := Option.some.inj hw
        subst this
        exact ⟨n, ex, h0, h1, hw2⟩
      | put => injection ex with ex; simp only [List.cons.injEq, D.str.injEq] at ex; exact absurd ex.1.symm n3
      | again => injection ex with ex; simp only [List.cons.injEq, D.str.injEq] at ex; exact absurd ex.1.symm n5
    have no : (¬ ∃ n : Int, r = [.int n] ∧ 1 ≤ n ∧ n ≤ (a.s.ws.length : Int) ∧ a.s.ws[((a.s.ws.length : Int) - n).toNat]? = some w) → Q (.bl false) h := fun z => q false ⟨(fun y => nomatch y), fun ⟨b, kk⟩ => (z (only kk)).elim⟩ fun y => nomatch y
    array_get_dec
    rw [decide_eq_false (Ne.symm n1)]
    refine ⟨(fun z => nomatch z), fun _ => ?_⟩
    array_get_dec
    refine ⟨fun h2 => ?_, fun h2 => ?_⟩
    rotate_left
    · refine ⟨fun _ => ?_, fun z => nomatch z⟩
      array_get_dec
      refine no ?_
      rintro ⟨n, rfl, _⟩
      exact absurd h2 (by simp)
    obtain ⟨c, rfl⟩ : ∃ c, r = [c] := by
      match r, h2 with
      | [c], _ => exact ⟨c, rfl⟩
      | [], h2 => exact absurd h2 (by simp)
      | c :: d :: e, h2 =>
        simp only [List.length_cons, Bool.not_eq_false', decide_eq_true_eq] at h2
        omega
    have tc := t.tl c (by simp)
    array_get_dec
    rw [List.length_map]
    refine is_betweenD tc ?_
    refine ⟨_, rfl, ?_⟩
    cases h3 : betD 1 (a.s.ws.length : Int) c with
    | false =>
      refine ⟨fun _ => ?_, fun z => nomatch z⟩
      array_get_dec
      refine no ?_
      rintro ⟨n, e, a0, a1, _⟩
      injection e with e
      subst e
      rw [bet_of a0 a1] at h3; cases h3
    | true =>
      obtain ⟨n, rfl, a0, a1⟩ := bet_int h3
      have hlt : ((a.s.ws.length : Int) - n).toNat < a.s.ws.length := by omega
      refine ⟨(fun z => nomatch z), fun _ => ?_⟩
      array_get_dec
      rw [List.length_map]
      array_get_dec
      obtain ⟨u, hg⟩ : ∃ u, a.s.ws[((a.s.ws.length : Int) - n).toNat]? = some u := ⟨_, List.getElem?_eq_getElem hlt⟩
      refine so_ixT (d := .str u) (by
        rw [show (a.s.ws.length : Int) - n = ((((a.s.ws.length : Int) - n).toNat : Nat) : Int) by omega]
        exact atI_nat (by rw [List.getElem?_map, hg]; rfl)) ?_
      array_get_dec
      have step : u = w → StepOk row a (.tup [.str (Str.ofString "by"), .int n]) ⟨a.s, a.t + 1⟩ := fun e => by
        subst e
        exact .by_ a.s a.t n u a0 a1 hg hw
      refine q _ ?_ fun z => step (of_decide_eq_true z)
      rw [decide_eq_true_eq]
      constructor
      · exact fun e => ⟨_, step e⟩
      · rintro ⟨b, kk⟩
        obtain ⟨n', e, _, _, e2⟩ := only kk
        simp only [List.cons.injEq, and_true, D.int.injEq] at e
        subst e
        rw [hg] at e2
        exact Option.some.inj e2
theorem step_nt {a b : PS} {k : Str} {r : List D} (kk : StepOk row a (.tup (.str k :: r)) b) (h1 : k ≠ Str.ofString "word") (h2 : k ≠ Str.ofString "by") : IsDeed (.tup (.str k :: r)) ∨ 100 < a.s.ws.length := by
  generalize ex : D.tup (.str k :: r) = y at kk
  cases kk with
  | word => injection ex with ex; simp only [List.cons.injEq, D.str.injEq] at ex; exact absurd ex.1 h1
  | by_ => injection ex with ex; simp only [List.cons.injEq, D.str.injEq] at ex; exact absurd ex.1 h2
  | put s t w ht h hr => exact .inl (.put w h)
  | again s t n w ht h0 h1 e hr =>
    by_cases z : n ≤ 999
    · exact .inl (.again n h0 z)
    · right
      show 100 < s.ws.length
      omega
theorem step_can {a : PS} {k : Str} {r : List D} (h1 : k ≠ Str.ofString "word") (h2 : k ≠ Str.ofString "by") (ht : a.t < row.length) : StepIs row a (.tup (.str k :: r)) ↔ k ≠ Str.ofString "room" ∧ ∃ r' ws', Can a.s.room a.s.ws (.tup (.str k :: r)) r' ws' := by
  obtain ⟨n1, n2, n3, n4, n5, n6, n7, n8, _⟩ := pw4
  constructor
  · rintro ⟨b, kk⟩
    generalize ex : D.tup (.str k :: r) = y at kk
    cases kk with
    | word => injection ex with ex; simp only [List.cons.injEq, D.str.injEq] at ex; exact absurd ex.1 h1
    | by_ => injection ex with ex; simp only [List.cons.injEq, D.str.injEq] at ex; exact absurd ex.1 h2
    | put s t w ht h hr =>
      injection ex with ex
      simp only [List.cons.injEq, D.str.injEq] at ex
      refine ⟨by rw [ex.1]; exact n7, _, _, .put w h hr⟩
    | again s t n w ht h0 h1' e hr =>
      injection ex with ex
      simp only [List.cons.injEq, D.str.injEq] at ex
      refine ⟨by rw [ex.1]; exact n8, _, _, .again n w h0 h1' e hr⟩
  · rintro ⟨hr, r', ws', c⟩
    generalize ex : D.tup (.str k :: r) = y at c ⊢
    cases c with
    | put w h hw => exact ⟨_, .put a.s a.t w ht h hw⟩
    | again n w h0 h1 e hw => exact ⟨_, .again a.s a.t n w ht h0 h1 e hw⟩
    | room n h0 h1 => injection ex with ex; simp only [List.cons.injEq, D.str.injEq] at ex; exact absurd ex.1 hr
theorem step_of_can {a : PS} {k : Str} {r : List D} {r' : Int} {ws' : List Str} (hr : k ≠ Str.ofString "room") (ht : a.t < row.length) (c : Can a.s.room a.s.ws (.tup (.str k :: r)) r' ws') : StepOk row a (.tup (.str k :: r)) ⟨nextS a.s r' ws', a.t⟩ := by
  generalize ex : D.tup (.str k :: r) = y at c ⊢
  cases c with
  | put w h hw => exact .put a.s a.t w ht h hw
  | again n w h0 h1 e hw => exact .again a.s a.t n w ht h0 h1 e hw
  | room n h0 h1 => injection ex with ex; simp only [List.cons.injEq, D.str.injEq] at ex; exact absurd ex.1 hr
/-- the book behind a deed of a plan, or None -/
theorem behind_step {room : Int} {a : PS} {k : Str} {r : List D} {m V : Nat} (g : PG room a) (t : Th (m + 1) V (.tup (.str k :: r))) (hm : m ≤ 50) (hV : V ≤ 100000) (h1 : k ≠ Str.ofString "word") (h2 : k ≠ Str.ofString "by") (ht : a.t < row.length)
    (qt : ∀ b : PS, StepOk row a (.tup (.str k :: r)) b → b.t = a.t → Q b.s.bk h) (qf : ¬ StepIs row a (.tup (.str k :: r)) → Q .non h) : SatX X (m_behind_step [a.s.bk, .tup (.str k :: r)] h) Q := by
  have gl := g.len
  refine sa_fnX rfl ?_
  unfold m_behind_step_b
  simp only [List.map_cons, List.map_nil, List.replicate, Nat.reduceSub, List.cons_append, List.nil_append]
  array_get_dec
  refine is_deedD t hV ?_
  refine ⟨_, rfl, ?_⟩
  cases hd : deedD (.tup (.str k :: r)) with
  | false =>
    refine ⟨(fun z => nomatch z), fun _ => ?_⟩
    refine ⟨fun _ => ?_, fun z => nomatch z⟩
    array_get_dec
    refine qf ?_
    rintro ⟨b, kk⟩
    rcases step_nt kk h1 h2 with z | z
    · rw [deedD_iff.mpr z] at hd; cases hd
    · omega
  | true =>
    have hdd := deedD_iff.mp hd
    refine ⟨fun _ => ?_, fun z => nomatch z⟩
    array_get_dec
    refine ⟨fun h3 => ?_, fun h3 => ?_⟩
    · have h3 : k = Str.ofString "room" := of_decide_eq_true h3
      array_get_dec
      refine qf fun z => ?_
      exact ((step_can h1 h2 ht).mp z).1 h3
    · have h3 : k ≠ Str.ofString "room" := of_decide_eq_false h3
      with_reducible refine ss_nx ?_
      with_reducible refine ss_seq ?_
      refine ss_try ?_
      array_get_dec
      rcases can_or_illS g.ok hdd with ⟨r', ws', c⟩ | ⟨hc, x, s, bb, c⟩
      · refine done_r c g.ok.1 g.ok.2.2.1.short (by omega) ?_
        rw [← nextS_bk]
        array_get_dec
        exact qt ⟨nextS a.s r' ws', a.t⟩ (step_of_can h3 ht c) rfl
      · have fin := qf fun z => hc ((step_can h1 h2 ht).mp z).2
        generalize hy : D.tup (.str k :: r) = y at c ⊢
        cases c with
        | heavy w hw hr =>
          have := hw.len
          refine done_heavy g.ok.1 g.ok.2.2.1.short (by omega) (by omega) hr ?_
          refine ⟨_, _, rfl, fun _ => ?_, fun z => absurd z (by decide +kernel)⟩
          array_get_dec
          exact fin
        | far n hn =>
          refine done_far hn ?_
          refine ⟨_, _, rfl, fun _ => ?_, fun z => absurd z (by decide +kernel)⟩
          array_get_dec
          exact fin
theorem step_head {a b : PS} {x : D} (kk : StepOk row a x b) : ∃ k r, x = .tup (.str k :: r) ∧ r.length ≤ 1 := by
  cases kk with
  | word => exact ⟨_, [], rfl, by simp⟩
  | by_ s t n => exact ⟨_, [.int n], rfl, by simp⟩
  | put s t w => exact ⟨_, [.str w], rfl, by simp⟩
  | again s t n => exact ⟨_, [.int n], rfl, by simp⟩
theorem isStr_ex {d : D} (h : isStrD d = true) : ∃ k, d = .str k := by cases d <;> first | exact ⟨_, rfl⟩ | exact nomatch h
/-- whether a list is a plan -/
theorem is_planD {room : Int} {l : List D} (r0 : 0 ≤ room) (r1 : room ≤ 200) (hrl : row.length ≤ 100000) (th : ∀ x ∈ l, Th 20 100000 x) (q : Q (.bl (runP row (P0 room) l)) h) : Sat (m_is_plan [.int room, .lst (row.map D.str), .lst l] h) Q := by
  refine SatX.w (sa_fnX rfl ?_)
  unfold m_is_plan_b
  simp only [List.map_cons, List.map_nil, List.replicate, Nat.reduceSub, List.cons_append, List.nil_append]
  array_get_dec
  refine ⟨(fun z => nomatch z), fun _ => ?_⟩
  array_get_dec
  refine ss_forL (l := l) (fun i v h' => ∃ (a : PS) (x5 : Option D), v = [some (.int room), some (.lst (row.map D.str)), some (.lst l), some a.s.bk, some (.int (a.t : Int)), x5] ∧ h' = h ∧ PG room a ∧ a.t ≤ row.length ∧ runP row (P0 room) l = runP row a (l.drop i)) (by
    array_get_dec
    exact so_wkL ⟨rfl, rfl⟩) ⟨P0 room, _, rfl, rfl, P0_g r0 r1, Nat.zero_le _, rfl⟩ ?_ ?_
  · rintro i x v h' hx ⟨a, x5, rfl, rfl, g, hat, er⟩
    have hi := (List.getElem?_eq_some_iff.mp hx).1
    have hd : l.drop i = x :: l.drop (i + 1) := by rw [List.drop_eq_getElem_cons hi, (List.getElem?_eq_some_iff.mp hx).2]
    have tx := th x (List.mem_of_getElem? hx)
    have no : ¬ StepIs row a x → Q (.bl false) h' := fun z => by
      rw [er, hd, runP_not z] at q; exact q
    have yes : ∀ b, StepOk row a x b → runP row (P0 room) l = runP row b (l.drop (i + 1)) := fun b kk => by rw [er, hd, runP_step kk]
    refine ⟨_, rfl, ?_⟩
    simp only [List.set_cons_zero, List.set_cons_succ]
    array_get_dec
    rw [List.length_map]
    refine ⟨fun h1 => ?_, fun h1 => ?_⟩
    rotate_left
    · have h1 : (a.t : Int) = (row.length : Int) := of_decide_eq_true h1
      refine ⟨fun _ => ?_, fun z => nomatch z⟩
      array_get_dec
      refine no fun ⟨b, kk⟩ => ?_
      have := kk.told.2
      omega
    have h1 : ¬ (a.t : Int) = (row.length : Int) := of_decide_eq_false h1
    have hlt : a.t < row.length := by omega
    obtain ⟨w, hw⟩ : ∃ w, row[a.t]? = some w := ⟨_, List.getElem?_eq_getElem hlt⟩
    array_get_dec
    refine so_isiD tx.1 ?_
    refine ⟨_, rfl, ?_⟩
    by_cases hxt : ∃ l, x = .tup l
    rotate_left
    · have e := shape_head tx.1 fun l z => hxt ⟨l, z⟩
      rw [e]
      refine ⟨(fun z => nomatch z), fun _ => ?_⟩
      refine ⟨fun _ => ?_, fun z => nomatch z⟩
      array_get_dec
      refine no fun ⟨b, kk⟩ => ?_
      obtain ⟨k, r, e, _⟩ := step_head kk
      exact hxt ⟨_, e⟩
    obtain ⟨y, rfl⟩ := hxt
    refine ⟨fun _ => ?_, fun z => nomatch z⟩
    array_get_dec
    refine ⟨fun h2 => ?_, fun h2 => ?_⟩
    rotate_left
    · refine ⟨fun _ => ?_, fun z => nomatch z⟩
      array_get_dec
      refine no fun ⟨b, kk⟩ => ?_
      obtain ⟨k, r, e, _⟩ := step_head kk
      injection e with e
      rw [e] at h2
      have h2 := of_decide_eq_true h2
      simp only [List.length_cons] at h2
      omega
    obtain ⟨c, r, rfl⟩ : ∃ c r, y = c :: r := by
      cases y with
      | nil => exact absurd h2 (by simp)
      | cons c r => exact ⟨c, r, rfl⟩
    have tc := tx.tl c (by simp)
    array_get_dec
    refine so_isiD tc.1 ?_
    refine ⟨_, rfl, ?_⟩
    by_cases hs : isStrD c = true
    rotate_left
    · have hs : isStrD c = false := by simpa using hs
      rw [kind_str hs]
      refine ⟨fun _ => ?_, fun z => nomatch z⟩
      array_get_dec
      refine no fun ⟨b, kk⟩ => ?_
      obtain ⟨k, r, e, _⟩ := step_head kk
      injection e with e
      simp only [List.cons.injEq] at e
      rw [e.1] at hs; exact nomatch hs
    obtain ⟨k, rfl⟩ := isStr_ex hs
    refine ⟨(fun z => nomatch z), fun _ => ?_⟩
    array_get_dec
    refine tells_r ?_
    refine ⟨_, rfl, fun h3 => ?_, fun h3 => ?_⟩
    · simp only [Bool.or_eq_true, decide_eq_true_eq] at h3
      array_get_dec
      refine row_get hw ?_
      array_get_dec
      refine can_tell (m := 19) g tx (by decide) (by decide) h3 hw fun cc hcc hst => ?_
      refine ⟨_, rfl, ?_⟩
      cases cc with
      | false =>
        refine ⟨fun _ => ?_, fun z => nomatch z⟩
        array_get_dec
        exact no fun z => nomatch hcc.mpr z
      | true =>
        refine ⟨(fun z => nomatch z), fun _ => ?_⟩
        array_get_dec
        have kk := hst rfl
        exact ⟨⟨a.s, a.t + 1⟩, _, rfl, rfl, kk.pg g, by show a.t + 1 ≤ row.length; omega, yes _ kk⟩
    · simp only [Bool.or_eq_false_iff, decide_eq_false_iff_not] at h3
      array_get_dec
      refine behind_step (m := 19) g tx (by decide) (by decide) h3.1 h3.2 hlt (fun b kk et => ?_) fun hn => ?_
      · unfold St.bk bookD
        array_get_dec
        refine ⟨(fun z => nomatch z), fun _ => ?_⟩
        array_get_dec
        exact ⟨b, _, by rw [et] <;> rfl, rfl, kk.pg g, by rw [et]; exact hat, yes _ kk⟩
      · array_get_dec
        refine ⟨fun _ => ?_, fun z => nomatch z⟩
        array_get_dec
        exact no hn
  · rintro v h' ⟨a, x5, rfl, rfl, g, hat, er⟩
    rw [List.drop_length] at er
    array_get_dec
    rw [List.length_map]
    rw [er, runP] at q
    rw [show decide ((a.t : Int) = (row.length : Int)) = decide (a.t = row.length) from decide_eq_decide.mpr (by omega)]
    exact q
end
theorem ss_forRX {k : Nat} {w : Ev → Hm → R Wk} {b : SM} {v : Ev} {h : Hm} {N : Ev → Hm → Prop} {T : D → Hm → Prop} {B G : Ev → Hm → Prop} {Y : D → Ev → Hm → Prop} (s : SatX (fun x h1 => Y x v h1) (w v h) fun z h1 => ∃ (n : Nat) (Inv : Nat → Ev → Hm → Prop), z = ⟨(List.range n).map fun (i : Nat) => .int (i : Int), fun _ => true⟩ ∧ Inv 0 v h1 ∧
    (∀ (i : Nat) (v : Ev) (h : Hm), i < n → Inv i v h → SatSX Y (b (v.set k (some (.int i))) h) (Inv (i + 1)) T N (Inv (i + 1))) ∧ ∀ v h, Inv n v h → N v h) : SatSX Y (sFor (gN k) w b v h) N T B G := by
  refine ss_for (s.imp ?_)
  rintro _ h1 ⟨n, Inv, rfl, h0, hs, hd⟩
  refine ⟨Inv, h0, fun i x v h e hi => ⟨rfl, ?_⟩, fun v h z => ⟨rfl, hd v h (by simpa using z)⟩⟩
  have hn : i < n := by
    have := (List.getElem?_eq_some_iff.mp e).1
    simpa using this
  have hx : x = .int i := by
    simp [hn] at e; exact e.symm
  subst hx
  exact ⟨_, rfl, hs i v h hn hi⟩
section
variable {h : Hm} {nb B : Nat}
theorem lrow {Q : D → Hm → Prop} {most : Int} (m1 : 1 ≤ most) (m2 : most ≤ 100) (bw : Bow nb (B + 200) h)
    (q : ∀ (room : Int) (row some_ : List Str) h', 0 ≤ room → room ≤ 12 → Words row → 1 ≤ row.length → row.length ≤ most.toNat → some_.length ≤ 3 → (∀ w ∈ row, w ∈ some_) → Drew nb B h h' → Q (.tup [.int room, .lst (row.map D.str)]) h') : Sat (m_law_row_r [.ref nb, .int most] h) Q := by
  refine sa_tr (sa_fn rfl ?_)
  unfold m_law_row_r_b
  simp only [List.map_cons, List.map_nil, List.replicate, Nat.reduceSub, List.cons_append, List.nil_append]
  array_get_dec
  refine sip (B := B + 199) (bw.le (by omega)) (by decide) (by decide) fun way h1 a1 a2 d1 => ?_
  array_get_dec
  refine sip (B := B + 198) (d1.bow.le (by omega)) (by omega) (by omega) fun many h2 b1 b2 d2 => ?_
  array_get_dec
  refine sip (B := B + 197) (d2.bow.le (by omega)) (by decide) (by decide) fun r1 h3 c1 c2 d3 => ?_
  array_get_dec
  refine sip (B := B + 196) (d3.bow.le (by omega)) (by decide) (by decide) fun r2 h4 e1 e2 d4 => ?_
  array_get_dec
  refine so_ixP (IntIn 0 12) (by
    repeat refine all_cons (.mk (by omega) (by omega)) ?_
    exact all_nil) a1 (by simpa using a2) ?_
  rintro _ ⟨room, rfl, g1, g2⟩
  array_get_dec
  have dd := (((d1.trans d2).trans d3).trans d4).x
  have d0 : DrewX nb (B + 196) h (h4 ++ [.lst []]) := dd.push
  have ee : (h4 ++ [HD.lst []])[h4.length]? = some (.lst (([] : List Str).map D.str)) := by simp
  have hL : h.length ≤ h4.length := dd.len
  generalize h4 ++ [HD.lst []] = h6 at d0 ee
  generalize h4.length = L at ee hL
  clear dd d1 d2 d3 d4
  refine ss_forRX ?_
  array_get_dec
  refine sip (B := B + 195) (d0.bow.le (by omega)) (by decide) (by decide) fun cnt h7 n1 n2 d7 => ?_
  have hLn : L ≠ nb := by have := d0.lt; omega
  have e7 := d7.at hLn ee
  have x7 := d0.then d7
  array_get_dec
  refine ⟨by omega, by omega, (1 + cnt).toNat, (fun i v h' => ∃ (ws : List Str) (y7 y8 y9 : Option D), v = [some (.ref nb), some (.int most), some (.int way), some (.int (1 + many)), some (.str (Str.ofString "abcdefghijklmnopqrstuvwxyz")), some (.int room), some (.ref L), y7, y8, y9] ∧ h'[L]? = some (.lst (ws.map D.str)) ∧ ws.length = i ∧ Words ws ∧ DrewX nb (B + 195 - 30 * i) h h'), rfl, ⟨[], _, _, _, rfl, e7, rfl, (fun _ z => nomatch z), x7⟩, ?_, ?_⟩
  · rintro i v h' hi ⟨ws, y7, y8, y9, rfl, el, hl, hws, dx⟩
    simp only [List.set_cons_zero, List.set_cons_succ]
    array_get_dec
    refine sip (B := B + 194 - 30 * i) (dx.bow.le (by omega)) (by decide) (by decide) fun s0 h8 s1 s2 d8 => ?_
    array_get_dec
    refine so_ixP (IntIn 1 13) (by
      repeat refine all_cons (.mk (by omega) (by omega)) ?_
      exact all_nil) s1 (by simpa using s2) ?_
    rintro _ ⟨sz, rfl, z1, z2⟩
    array_get_dec
    refine sip (B := B + 193 - 30 * i) (d8.bow.le (by omega)) (by omega) (by omega) fun s h9 t1 t2 d9 => ?_
    array_get_dec
    have e9 := (d8.trans d9).at hLn el
    have dx9 := (dx.then d8).then d9
    refine ⟨rcR e9, ?_⟩
    array_get_dec
    refine ⟨rfl, ?_⟩
    array_get_dec
    refine letters_lc (B := B + 195 - 30 * (i + 1)) (nb := nb) (size := (min 12 (1 + s)).toNat) (by
      array_get_dec
      exact ⟨by omega, by omega, rfl, rfl⟩) (by omega) (dx9.bow.le (by omega)) ?_ ?_
    · intro d T h' P hb' k
      refine sa_B ?_
      simp only [wipeE, List.foldr, List.set_cons_zero, List.set_cons_succ]
      array_get_dec
      refine sip hb' (by decide) (by decide) fun v h3 v0 v1 d3 => ?_
      obtain ⟨c, ec, hc⟩ := abc_at v0 v1
      refine so_ixS (by rw [abc_len]; decide) ec ?_
      exact k c h3 hc d3
    intro l0 h10 hl0 c0 d10
    have a0 : 1 ≤ l0.length := by omega
    have b0 : l0.length ≤ 12 := by omega
    array_get_dec
    refine so_joinL (by omega) ?_
    have e10 := d10.at hLn e9
    have dx10 := dx9.then d10
    array_get_dec
    refine so_append e10 (by simp; omega) ?_
    refine ⟨ws ++ [S l0], _, _, _, rfl, ?_, by simp [hl], hws.snoc (.mk' a0 b0 c0), dx10.put hL⟩
    rw [List.getElem?_set_self (List.getElem?_eq_some_iff.mp e10).1, List.map_append]; rfl
  · rintro v h' ⟨ws, y7, y8, y9, rfl, el, hl, hws, dx⟩
    array_get_dec
    refine sa_Lc ?_
    array_get_dec
    refine ⟨by omega, by omega, ?_⟩
    refine ⟨by simp; omega, fun i acc h2 => acc.length = i ∧ (∀ y ∈ acc, ∃ w, w ∈ ws ∧ y = .str w) ∧ h2[L]? = some (.lst (ws.map D.str)) ∧ DrewX nb (B + (1 + many).toNat - i) h h2, ⟨rfl, (fun _ z => nomatch z), el, dx.le (by omega)⟩, ?_, ?_⟩
    · rintro i x acc h2 hx ⟨hi, hp, e2, dx2⟩
      have hil : i < (1 + many).toNat := by
        have := (List.getElem?_eq_some_iff.mp hx).1
        simpa using this
      refine ⟨rfl, _, rfl, sa_tYes ⟨fun _ => ?_, fun z => nomatch z⟩⟩
      simp only [wipeE, List.foldr, List.set_cons_zero, List.set_cons_succ]
      array_get_dec
      rw [List.length_map]
      refine sip (B := B + (1 + many).toNat - (i + 1)) (dx2.bow.le (by omega)) (by omega) (by omega) fun u h3 u1 u2 d3 => ?_
      have e3 := d3.at hLn e2
      obtain ⟨w, hw⟩ : ∃ w, ws[u.toNat]? = some w := ⟨_, List.getElem?_eq_getElem (by omega)⟩
      refine so_ixR (d := .str w) e3 (by
        rw [show u = ((u.toNat : Nat) : Int) by omega]
        exact atI_nat (by rw [List.getElem?_map, hw]; rfl)) ?_
      refine ⟨by simp [hi], fun z hz => ?_, e3, dx2.then d3⟩
      rcases List.mem_append.mp hz with hz | hz
      · exact hp z hz
      · rw [List.mem_singleton.mp hz]; exact ⟨w, List.mem_of_getElem? hw, rfl⟩
    · rintro acc h2 ⟨hi, hp, e2, dx2⟩
      refine ⟨rfl, ?_⟩
      have hi : acc.length = (1 + many).toNat := by simpa using hi
      obtain ⟨row, rfl, hr⟩ := strs_of hp
      have hi : row.length = (1 + many).toNat := by simpa using hi
      array_get_dec
      refine ⟨?_, dx2.tr.1, q room row ws _ g1 g2 (fun z hz => hws z (hr z hz)) (by omega) (by omega) (by omega) hr (dx2.tr.2.le (by simp))⟩
      simp only [D.cl, D.clL, Bool.true_and, Bool.and_true]
      exact strs_cl
theorem th_word {n V : Nat} (hV : 50 ≤ V) : Th (n + 1) V wordT := th_big (t1 (V := 50) (Th.lit (by decide +kernel)) (by decide)) (Nat.le_trans (t1 (n := n) (V := 50) (Th.lit (by decide +kernel)) (by decide)).2.2 hV)
end
/-- what is kept behind, what it costs, the deed -/
abbrev Edge := List Str × Int × D
def psh (room : Int) (k : List Str) (w : Str) : List Str := stay room (k ++ [w])
abbrev putD (w : Str) : D := .tup [.str (Str.ofString "put"), .str w]
abbrev agD (n : Int) : D := .tup [.str (Str.ofString "again"), .int n]
def putE (room : Int) (k : List Str) (w : Str) : Edge := (psh room k w, wt w, putD w)
def agE (room : Int) (k : List Str) (i : Nat) (w : Str) : Edge := (psh room k w, 2 + (sgn (.int ((k.length : Int) - i)) : Int), agD ((k.length : Int) - i))
def edgesP (room : Int) (us k : List Str) : List Edge := (us.filter fun w => decide (wt w ≤ room)).map (putE room k) ++ k.mapIdx (agE room k)
def byE (k : List Str) (i : Nat) : Int × D := (1 + (sgn (.int ((k.length : Int) - i)) : Int), byT ((k.length : Int) - i))
def tellsP (k : List Str) (w : Str) : List (Int × D) := (1 + (w.length : Int), wordT) :: ((k.mapIdx fun i x => (i, x)).filter fun p => decide (p.2 = w)).map fun p => byE k p.1
theorem mem_edges {room : Int} {us k : List Str} {e : Edge} : e ∈ edgesP room us k ↔ (∃ w ∈ us, wt w ≤ room ∧ e = putE room k w) ∨ ∃ i w, k[i]? = some w ∧ e = agE room k i w := by
  unfold edgesP
  rw [List.mem_append, List.mem_map, List.mem_mapIdx]
  constructor
  · rintro (⟨w, hw, rfl⟩ | ⟨i, hi, rfl⟩)
    · obtain ⟨h1, h2⟩ := List.mem_filter.mp hw
      exact .inl ⟨w, h1, of_decide_eq_true h2, rfl⟩
    · exact .inr ⟨i, k[i], List.getElem?_eq_getElem hi, rfl⟩
  · rintro (⟨w, h1, h2, rfl⟩ | ⟨i, w, h1, rfl⟩)
    · exact .inl ⟨w, List.mem_filter.mpr ⟨h1, decide_eq_true h2⟩, rfl⟩
    · obtain ⟨hi, e⟩ := List.getElem?_eq_some_iff.mp h1
      exact .inr ⟨i, hi, by rw [e]⟩
theorem mem_tells {k : List Str} {w : Str} {t : Int × D} : t ∈ tellsP k w ↔ t = (1 + (w.length : Int), wordT) ∨ ∃ i : Nat, k[i]? = some w ∧ t = byE k i := by
  unfold tellsP
  rw [List.mem_cons, List.mem_map]
  constructor
  · rintro (h | ⟨p, hp, rfl⟩)
    · exact .inl h
    · obtain ⟨h1, h2⟩ := List.mem_filter.mp hp
      obtain ⟨i, hi, rfl⟩ := List.mem_mapIdx.mp h1
      exact .inr ⟨i, by rw [List.getElem?_eq_getElem hi]; exact congrArg some (of_decide_eq_true h2), rfl⟩
  · rintro (h | ⟨i, h1, rfl⟩)
    · exact .inl h
    · obtain ⟨hi, e⟩ := List.getElem?_eq_some_iff.mp h1
      exact .inr ⟨(i, w), List.mem_filter.mpr ⟨List.mem_mapIdx.mpr ⟨i, hi, by rw [e]⟩, decide_eq_true rfl⟩, rfl⟩
theorem edge_pos {room : Int} {us k : List Str} {e : Edge} (h : e ∈ edgesP room us k) : 2 ≤ e.2.1 := by
  rcases mem_edges.mp h with ⟨w, _, _, rfl⟩ | ⟨i, w, _, rfl⟩
  · show 2 ≤ wt w
    unfold wt; omega
  · show 2 ≤ 2 + (sgn (.int ((k.length : Int) - i)) : Int)
    omega
theorem tell_pos {k : List Str} {w : Str} {t : Int × D} (h : t ∈ tellsP k w) : 1 ≤ t.1 := by
  rcases mem_tells.mp h with rfl | ⟨i, _, rfl⟩
  · show 1 ≤ 1 + (w.length : Int); omega
  · show 1 ≤ 1 + (sgn (.int ((k.length : Int) - i)) : Int); omega
/-- words that may be kept -/
structure KOk (room : Int) (us k : List Str) : Prop where
  mem : ∀ w ∈ k, w ∈ us
  sum : sumW k ≤ room
theorem KOk.nil {room : Int} {us : List Str} (h : 0 ≤ room) : KOk room us [] := ⟨(fun _ z => nomatch z), h⟩
theorem stay_mem {room : Int} {ws : List Str} {w : Str} (h : w ∈ stay room ws) : w ∈ ws := fit_sub h
theorem KOk.psh {room : Int} {us k : List Str} {w : Str} (h0 : 0 ≤ room) (o : KOk room us k) (hw : w ∈ us) : KOk room us (psh room k w) :=
  ⟨fun x hx => by
    rcases List.mem_append.mp (stay_mem hx) with h | h
    · exact o.mem x h
    · rw [List.mem_singleton.mp h]; exact hw, stay_ok h0 _⟩
theorem KOk.edge {room : Int} {us k : List Str} {e : Edge} (h0 : 0 ≤ room) (o : KOk room us k) (h : e ∈ edgesP room us k) : KOk room us e.1 := by
  rcases mem_edges.mp h with ⟨w, h1, _, rfl⟩ | ⟨i, w, h1, rfl⟩
  · exact o.psh h0 h1
  · exact o.psh h0 (o.mem w (List.mem_of_getElem? h1))
theorem sumW_mem {w : Str} : ∀ {k : List Str}, w ∈ k → wt w ≤ sumW k
  | [], h => nomatch h
  | a :: r, h => by
    have h1 := wt_pos a
    rcases List.mem_cons.mp h with rfl | h
    · have := sumW_ge r
      simp only [sumW]; omega
    · have := sumW_mem h
      simp only [sumW]; omega
theorem sumW_three : ∀ {k : List Str}, Words k → 3 * (k.length : Int) ≤ sumW k
  | [], _ => by simp [sumW]
  | a :: r, h => by
    have := sumW_three (k := r) fun w hw => h w (List.mem_cons_of_mem _ hw)
    have := (h a List.mem_cons_self).len.1
    simp only [sumW, wt, List.length_cons]
    omega
theorem KOk.words {room : Int} {us k : List Str} (o : KOk room us k) (hu : Words us) : Words k := fun w hw => hu w (o.mem w hw)
def listsTo (us : List Str) : Nat → List (List Str)
  | 0 => [[]]
  | n + 1 => [] :: us.flatMap fun w => (listsTo us n).map (w :: ·)
theorem listsTo_mem {us : List Str} : ∀ {n : Nat} {k : List Str}, (∀ w ∈ k, w ∈ us) → k.length ≤ n → k ∈ listsTo us n
  | 0, [], _, _ => by simp [listsTo]
  | n + 1, [], _, _ => by simp [listsTo]
  | 0, _ :: _, _, h => by simp at h
  | n + 1, w :: k, h1, h2 => by
    unfold listsTo
    refine List.mem_cons_of_mem _ (List.mem_flatMap.mpr ⟨w, h1 w List.mem_cons_self, List.mem_map.mpr ⟨k, listsTo_mem (fun x hx => h1 x (List.mem_cons_of_mem _ hx)) (by simpa using h2), rfl⟩⟩)
theorem flat_len {α β : Type} (f : α → List β) (c : Nat) : ∀ l : List α, (∀ x ∈ l, (f x).length = c) → (l.flatMap f).length = c * l.length
  | [], _ => by simp
  | a :: r, h => by
    rw [List.flatMap_cons, List.length_append, h a List.mem_cons_self, flat_len f c r fun x hx => h x (List.mem_cons_of_mem _ hx), List.length_cons, Nat.mul_succ]
    omega
theorem listsTo_len (us : List Str) : ∀ n, (listsTo us (n + 1)).length = 1 + (listsTo us n).length * us.length := fun n => by
  show ([] :: us.flatMap fun w => (listsTo us n).map (w :: ·)).length = _
  rw [List.length_cons, flat_len _ (listsTo us n).length us fun w _ => by simp]
  omega
theorem listsTo4 {us : List Str} (h : us.length ≤ 3) : (listsTo us 4).length ≤ 121 := by
  have h0 : (listsTo us 0).length = 1 := rfl
  have h1 := listsTo_len us 0
  have h2 := listsTo_len us 1
  have h3 := listsTo_len us 2
  have h4 := listsTo_len us 3
  generalize us.length = u at *
  have : u = 0 ∨ u = 1 ∨ u = 2 ∨ u = 3 := by omega
  rcases this with rfl | rfl | rfl | rfl <;> simp only [h0, h1, h2, h3, h4] <;> omega
theorem nodup_len {α : Type} [BEq α] [LawfulBEq α] : ∀ {a b : List α}, a.Nodup → (∀ x ∈ a, x ∈ b) → a.length ≤ b.length
  | [], b, _, _ => Nat.zero_le _
  | x :: a, b, nd, h => by
    obtain ⟨n1, n2⟩ := List.nodup_cons.mp nd
    obtain ⟨b1, b2, rfl⟩ := List.append_of_mem (h x List.mem_cons_self)
    have := nodup_len (b := b1 ++ b2) n2 fun y hy => by
      have q := h y (List.mem_cons_of_mem _ hy)
      rcases List.mem_append.mp q with z | z
      · exact List.mem_append_left _ z
      · rcases List.mem_cons.mp z with z | z
        · exact absurd (z ▸ hy) n1
        · exact List.mem_append_right _ z
    simp only [List.length_append, List.length_cons] at this ⊢
    omega
/-- the sizes that the laws have -/
structure Szs (room : Int) (us : List Str) : Prop where
  r0 : 0 ≤ room
  r1 : room ≤ 14
  w : Words us
  u : us.length ≤ 3
theorem KOk.len {room : Int} {us k : List Str} (o : KOk room us k) (z : Szs room us) : k.length ≤ 4 := by
  have := sumW_three (o.words z.w)
  have := o.sum
  have := z.r1
  omega
theorem KOk.lists {room : Int} {us k : List Str} (o : KOk room us k) (z : Szs room us) : k ∈ listsTo us 4 := listsTo_mem o.mem (o.len z)
theorem keys_le {room : Int} {us : List Str} {K : List (List Str)} (z : Szs room us) (hn : K.Nodup) (h : ∀ k ∈ K, KOk room us k) : K.length ≤ 121 :=
  Nat.le_trans (nodup_len hn fun k hk => (h k hk).lists z) (listsTo4 z.u)
theorem edges_len {room : Int} {us k : List Str} (z : Szs room us) (o : KOk room us k) : (edgesP room us k).length ≤ 7 := by
  unfold edgesP
  rw [List.length_append, List.length_map, List.length_mapIdx]
  have := List.length_filter_le (fun w => decide (wt w ≤ room)) us
  have := z.u
  have := o.len z
  omega
inductive Pth (room : Int) (us row : List Str) : List Str → Nat → List D → Int → List Str → Nat → Prop
  | nil (k : List Str) (p : Nat) : Pth room us row k p [] 0 k p
  | deed {k k2 : List Str} {p p2 : Nat} {e : Edge} {l : List D} {c : Int} (he : e ∈ edgesP room us k) (hp : p < row.length) (r : Pth room us row e.1 p l c k2 p2) : Pth room us row k p (e.2.2 :: l) (e.2.1 + c) k2 p2
  | tell {k k2 : List Str} {p p2 : Nat} {w : Str} {t : Int × D} {l : List D} {c : Int} (hw : row[p]? = some w) (ht : t ∈ tellsP k w) (r : Pth room us row k (p + 1) l c k2 p2) : Pth room us row k p (t.2 :: l) (t.1 + c) k2 p2
theorem Pth.app {room : Int} {us row : List Str} {k k2 k3 : List Str} {p p2 p3 : Nat} {l m : List D} {c d : Int} (r : Pth room us row k p l c k2 p2) (r2 : Pth room us row k2 p2 m d k3 p3) : Pth room us row k p (l ++ m) (c + d) k3 p3 := by
  induction r with
  | nil k p => rw [Int.zero_add]; exact r2
  | deed he hp _ ih => rw [Int.add_assoc]; exact .deed he hp (ih r2)
  | tell hw ht _ ih => rw [Int.add_assoc]; exact .tell hw ht (ih r2)
theorem Pth.pos {room : Int} {us row : List Str} {k k2 : List Str} {p p2 : Nat} {l : List D} {c : Int} (r : Pth room us row k p l c k2 p2) : 0 ≤ c := by
  induction r with
  | nil k p => exact Int.le_refl _
  | deed he hp _ ih => have := edge_pos he; omega
  | tell hw ht _ ih => have := tell_pos ht; omega
theorem Pth.kept {room : Int} {us row : List Str} {k k2 : List Str} {p p2 : Nat} {l : List D} {c : Int} (h0 : 0 ≤ room) (r : Pth room us row k p l c k2 p2) (o : KOk room us k) : KOk room us k2 := by
  induction r with
  | nil k p => exact o
  | deed he hp _ ih => exact ih (o.edge h0 he)
  | tell hw ht _ ih => exact ih o
/-- a way is a plan -/
theorem Pth.run {room : Int} {us row : List Str} {k k2 : List Str} {p p2 : Nat} {l : List D} {c : Int} (h0 : 0 ≤ room) (hu : Words us) (r : Pth room us row k p l c k2 p2) (o : KOk room us k) (first : Int) : ∃ f2, PRun row ⟨⟨room, first, k⟩, p⟩ l ⟨⟨room, f2, k2⟩, p2⟩ ∧ priceP row p l = c := by
  induction r generalizing first with
  | nil k p => exact ⟨first, .nil _, rfl⟩
  | @deed k k2 p p2 e l c he hp r ih =>
    obtain ⟨f2, h1, h2⟩ := ih (o.edge h0 he) (nextS ⟨room, first, k⟩ room (k ++ [match e.2.2 with | .tup [_, .str w] => w | .tup [_, .int n] => (k[((k.length : Int) - n).toNat]?).getD Str.empty | _ => Str.empty])).first
    rcases mem_edges.mp he with ⟨w, hw, hr, rfl⟩ | ⟨i, w, hi, rfl⟩
    · refine ⟨f2, .cons (.put ⟨room, first, k⟩ p w hp (hu w hw) hr) h1, ?_⟩
      show stepP row p (putD w) + priceP row (p + tellN (putD w)) l = wt w + c
      rw [stepP_put, tellN_put, Nat.add_zero, h2]
      show 2 + (w.length : Int) + c = w.length + 2 + c
      omega
    · have hl := (List.getElem?_eq_some_iff.mp hi).1
      have en : ((k.length : Int) - ((k.length : Int) - i)).toNat = i := by omega
      have e1 : k[((k.length : Int) - ((k.length : Int) - i)).toNat]? = some w := by rw [en]; exact hi
      have e2 : (k[((k.length : Int) - ((k.length : Int) - i)).toNat]?).getD Str.empty = w := by rw [e1]; rfl
      refine ⟨f2, .cons (.again ⟨room, first, k⟩ p ((k.length : Int) - i) w hp (by omega) (by show (k.length : Int) - i ≤ k.length; omega) e1 (Int.le_trans (sumW_mem (List.mem_of_getElem? hi)) o.sum)) ?_, ?_⟩
      · have := h1
        simp only [agE, agD, e2] at this
        exact this
      · show stepP row p (agD ((k.length : Int) - i)) + priceP row (p + tellN (agD ((k.length : Int) - i))) l = 2 + (sgn (.int ((k.length : Int) - i)) : Int) + c
        rw [stepP_again, tellN_again, Nat.add_zero, h2]
  | @tell k k2 p p2 w t l c hw ht r ih =>
    obtain ⟨f2, h1, h2⟩ := ih o first
    have hp := (List.getElem?_eq_some_iff.mp hw).1
    rcases mem_tells.mp ht with rfl | ⟨i, hi, rfl⟩
    · refine ⟨f2, .cons (.word ⟨room, first, k⟩ p hp) h1, ?_⟩
      show stepP row p wordT + priceP row (p + tellN wordT) l = 1 + (w.length : Int) + c
      rw [stepP_word hw, tellN_word, h2]
    · have hl := (List.getElem?_eq_some_iff.mp hi).1
      have en : ((k.length : Int) - ((k.length : Int) - i)).toNat = i := by omega
      refine ⟨f2, .cons (.by_ ⟨room, first, k⟩ p ((k.length : Int) - i) w (by omega) (by show (k.length : Int) - i ≤ k.length; omega) (by show k[((k.length : Int) - ((k.length : Int) - i)).toNat]? = some w; rw [en]; exact hi) hw) h1, ?_⟩
      show stepP row p (byT ((k.length : Int) - i)) + priceP row (p + tellN (byT ((k.length : Int) - i))) l = 1 + (sgn (.int ((k.length : Int) - i)) : Int) + c
      rw [stepP_by, tellN_by, h2]
/-- no step leads to a cheaper one -/
structure Low (room : Int) (us row : List Str) (K : List (List Str)) (F : Nat → List Str → Int) : Prop where
  nil : [] ∈ K
  ok : ∀ k ∈ K, KOk room us k
  cl : ∀ k ∈ K, ∀ e ∈ edgesP room us k, e.1 ∈ K
  d : ∀ p, p < row.length → ∀ k ∈ K, ∀ e ∈ edgesP room us k, F p k ≤ e.2.1 + F p e.1
  t : ∀ p w, row[p]? = some w → ∀ k ∈ K, ∀ t ∈ tellsP k w, F p k ≤ t.1 + F (p + 1) k
  z : ∀ k ∈ K, F row.length k ≤ 0
theorem Low.path {room : Int} {us row : List Str} {K : List (List Str)} {F : Nat → List Str → Int} (L : Low room us row K F) {k k2 : List Str} {p p2 : Nat} {l : List D} {c : Int} (r : Pth room us row k p l c k2 p2) (hk : k ∈ K) : F p k ≤ c + F p2 k2 ∧ k2 ∈ K := by
  induction r with
  | nil k p => exact ⟨by omega, hk⟩
  | deed he hp _ ih =>
    obtain ⟨i1, i2⟩ := ih (L.cl _ hk _ he)
    have := L.d _ hp _ hk _ he
    exact ⟨by omega, i2⟩
  | tell hw ht _ ih =>
    obtain ⟨i1, i2⟩ := ih hk
    have := L.t _ _ hw _ hk _ ht
    exact ⟨by omega, i2⟩
/-- each floor is what some way costs -/
def Att (room : Int) (us row : List Str) (K : List (List Str)) (p : Nat) (f : List Str → Int) : Prop := ∀ k ∈ K, ∃ l k2, Pth room us row k p l (f k) k2 row.length
def m_behind_put_b : SM :=
  (sSeq (sAsg (gN 3) (eB opAddN (eF bList (aC (eV 1) aN)) (eLst (aC (eV 2) aN))))
  (sSeq (sWh (tE (eB opGt (eF bSum (aC (eLc [4] (gN 4) (wE (eV 3)) tYes (eF m_weight (aC (eV 4) aN))) aN)) (eV 0))) (sExpr (eM "list" mPop (eV 3) (aC (eC (.int 0)) aN))))
  (sRet (eF bTuple (aC (eV 3) aN)))))
def m_behind_put : FM := tr (fn0 3 5 m_behind_put_b)
def m_deeds_at_b : SM :=
  (sSeq (sAsg (gN 3) (eNew aN))
  (sSeq (sFor (gN 4) (wE (eF bSSet (aC (eV 2) aN))) (sIf (tE (eB opLe (eF m_weight (aC (eV 4) aN)) (eV 0))) (sExpr (eM "list" mAppend (eV 3) (aC (eTup (aC (eF m_behind_put (aC (eV 0) (aC (eV 1) (aC (eV 4) aN)))) (aC (eF m_deed_price (aC (eTup (aC (eC (.str (Str.ofString "put"))) (aC (eV 4) aN))) aN)) (aC (eTup (aC (eC (.str (Str.ofString "put"))) (aC (eV 4) aN))) aN)))) aN))) sNx))
  (sSeq (sFor (gT [5, 4]) (wEnT (eV 1)) (sSeq (sAsg (gN 6) (eTup (aC (eC (.str (Str.ofString "again"))) (aC (eB opSub (eF bLen (aC (eV 1) aN)) (eV 5)) aN))))
  (sExpr (eM "list" mAppend (eV 3) (aC (eTup (aC (eF m_behind_put (aC (eV 0) (aC (eV 1) (aC (eV 4) aN)))) (aC (eF m_deed_price (aC (eV 6) aN)) (aC (eV 6) aN)))) aN)))))
  (sRet (eU fz (eV 3))))))
def m_deeds_at : FM := tr (fn0 3 7 m_deeds_at_b)
def m_all_deeds_b : SM :=
  (sSeq (sAsg (gN 2) eDctT)
  (sSeq (sAsg (gN 3) (eNew (aC (eTup aN) aN)))
  (sSeq (sWh (tE (eB opNe (eV 3) (eLst aN))) (sSeq (sAsg (gN 4) (eM "list" mPop (eV 3) aN))
  (sIf (tE (eB opNotInN (eV 4) (eV 2))) (sSeq (sPutN (eV 2) (eV 4) (eF m_deeds_at (aC (eV 0) (aC (eV 4) (aC (eV 1) aN)))))
  (sExpr (eM "list" mExtend (eV 3) (aC (eLc [5, 6, 7] (gT [5, 6, 7]) (wE (eB opIxN (eV 2) (eV 4))) (tE (eB opNotInN (eV 5) (eV 2))) (eV 5)) aN)))) sNx)))
  (sRet (eV 2)))))
def m_all_deeds : FM := fn0 2 8 m_all_deeds_b
def m_lessened_b : SM :=
  (sSeq (sAsg (gN 2) (eC (.bl true)))
  (sSeq (sWh (tE (eV 2)) (sSeq (sAsg (gN 2) (eC (.bl false)))
  (sLock (eV 1) (sFor (gN 3) (wDk (eV 1)) (sSeq (sAsg (gN 4) (eF bMin (aC (eB opAdd (eLst (aC (eB opIxN (eV 0) (eV 3)) aN)) (eLc [5, 6, 7] (gT [5, 6, 7]) (wE (eB opIxN (eV 1) (eV 3))) tYes (eB opAdd (eV 6) (eB opIxN (eV 0) (eV 5))))) aN)))
  (sIf (tE (eB opLt (eV 4) (eB opIxN (eV 0) (eV 3)))) (sSeq (sPutN (eV 0) (eV 3) (eV 4))
  (sAsg (gN 2) (eC (.bl true)))) sNx))))))
  (sRet (eV 0))))
def m_lessened : FM := fn0 2 8 m_lessened_b
def m_tells_at_b : SM :=
  (sSeq (sAsg (gN 2) (eNew (aC (eTup (aC (eF m_step_price (aC (eTup (aC (eC (.str (Str.ofString "word"))) aN)) (aC (eV 1) aN))) (aC (eTup (aC (eC (.str (Str.ofString "word"))) aN)) aN))) aN)))
  (sSeq (sFor (gT [3, 4]) (wEnT (eV 0)) (sIf (tE (eB opEq (eV 4) (eV 1))) (sExpr (eM "list" mAppend (eV 2) (aC (eTup (aC (eF m_step_price (aC (eTup (aC (eC (.str (Str.ofString "by"))) (aC (eB opSub (eF bLen (aC (eV 0) aN)) (eV 3)) aN))) (aC (eV 1) aN))) (aC (eTup (aC (eC (.str (Str.ofString "by"))) (aC (eB opSub (eF bLen (aC (eV 0) aN)) (eV 3)) aN))) aN))) aN))) sNx))
  (sRet (eU fz (eV 2)))))
def m_tells_at : FM := tr (fn0 2 5 m_tells_at_b)
def m_layers_b : SM :=
  (sSeq (sAsg (gN 2) (eF m_all_deeds (aC (eV 0) (aC (eV 1) aN))))
  (sSeq (sAsg (gN 3) eDctT)
  (sSeq (sLock (eV 2) (sFor (gN 4) (wDk (eV 2)) (sPutN (eV 3) (eV 4) (eC (.int 0)))))
  (sSeq (sAsg (gN 5) (eNew (aC (eV 3) aN)))
  (sSeq (sFor (gN 6) (wRev (eV 1)) (sSeq (sAsg (gN 7) eDctT)
  (sSeq (sLock (eV 2) (sFor (gN 4) (wDk (eV 2)) (sPutN (eV 7) (eV 4) (eB opAdd (eB opIxN (eB opIxN (eV 5) (eC (.int 0))) (eV 4)) (eF bMin (aC (eLc [8, 9] (gT [8, 9]) (wE (eF m_tells_at (aC (eV 4) (aC (eV 6) aN)))) tYes (eV 8)) aN))))))
  (sExpr (eM "list" mInsert (eV 5) (aC (eC (.int 0)) (aC (eF m_lessened (aC (eV 7) (aC (eV 2) aN))) aN)))))))
  (sRet (eTup (aC (eV 5) (aC (eV 2) aN)))))))))
def m_layers : FM := fn0 2 10 m_layers_b
def m_cheapest_tell_b : SM :=
  (sRet (eB opIx (eF bSortedA (aC (eF m_tells_at (aC (eV 0) (aC (eV 1) aN))) aN)) (eC (.int 0))))
def m_cheapest_tell : FM := fn0 2 2 m_cheapest_tell_b
def m_plan_along_b : SM :=
  (sSeq (sAsg (gN 3) (eNew aN))
  (sSeq (sAsg (gN 4) (eTup aN))
  (sSeq (sFor (gT [5, 6]) (wEnT (eV 0)) (sSeq (sAsg (gT [7, 8]) (eF m_cheapest_tell (aC (eV 4) (aC (eV 6) aN))))
  (sSeq (sWh (tE (eB opGt (eB opAdd (eB opIxN (eB opIxN (eV 1) (eB opAdd (eV 5) (eC (.int 1)))) (eV 4)) (eV 7)) (eB opIxN (eB opIxN (eV 1) (eV 5)) (eV 4)))) (sSeq (sFor (gT [9, 10, 11]) (wE (eB opIxN (eV 2) (eV 4))) (sIf (tE (eB opEq (eB opAdd (eV 10) (eB opIxN (eB opIxN (eV 1) (eV 5)) (eV 9))) (eB opIxN (eB opIxN (eV 1) (eV 5)) (eV 4)))) (sSeq (sExpr (eM "list" mAppend (eV 3) (aC (eV 11) aN)))
  (sSeq (sAsg (gN 4) (eV 9))
  sBreak)) sNx))
  (sAsg (gT [7, 8]) (eF m_cheapest_tell (aC (eV 4) (aC (eV 6) aN))))))
  (sExpr (eM "list" mAppend (eV 3) (aC (eV 8) aN))))))
  (sRet (eU fz (eV 3))))))
def m_plan_along : FM := tr (fn0 3 12 m_plan_along_b)
def m_least_b : SM :=
  (sSeq (sAsg (gT [3, 4]) (eF m_layers (aC (eV 0) (aC (eV 1) aN))))
  (sSeq (sAsg (gN 2) (eNew aN))
  (sSeq (sFor (gT [5, 6]) (wEnT (eV 3)) (sFor (gN 7) (wE (eF bSortedDT (aC (eV 6) aN))) (sExpr (eM "list" mAppend (eV 2) (aC (eTup (aC (eV 5) (aC (eV 7) (aC (eB opIxN (eV 6) (eV 7)) aN)))) aN)))))
  (sRet (eTup (aC (eB opIxN (eB opIxN (eV 3) (eC (.int 0))) (eTup aN)) (aC (eF m_plan_along (aC (eV 1) (aC (eV 3) (aC (eV 4) aN)))) (aC (eU fz (eV 2)) aN))))))))
def m_least : FM := tr (fn0 2 8 m_least_b)
section
variable {α : Type}
def keyS (k : List Str) : D := .tup (k.map D.str)
def keyW (k : List Str) : List L2.Key := k.map Sum.inr
def kget (k : (List Str)) : List ((List Str) × α) → Option α
  | [] => none
  | (j, x) :: r => if j = k then some x else kget k r
def kput (k : (List Str)) (x : α) (l : List ((List Str) × α)) : List ((List Str) × α) := if (kget k l).isSome = true then l.map (fun p => if p.1 = k then (p.1, x) else p) else l ++ [(k, x)]
def mkK (f : α → D) (l : List ((List Str) × α)) : List (D × D) := l.map fun p => (keyS p.1, f p.2)
theorem keyL_strs : ∀ k : List Str, keyL (k.map D.str) = some (k.map Sum.inr)
  | [] => rfl
  | a :: r => by
    show (match keyE (.str a), keyL (r.map D.str) with | some k, some ks => some (k :: ks) | _, _ => none) = _
    rw [keyL_strs r]; rfl
theorem keyTS {k : List Str} : keyT (keyS k) = some (keyW k) := keyL_strs k
theorem keyTS_iff {j k : List Str} : (keyT (keyS j) = some (keyW k)) ↔ j = k := ⟨fun e => by
  rw [keyTS] at e
  have e := Option.some.inj e
  unfold keyW at e
  exact (List.map_inj_right fun a b h => Sum.inr.inj h).mp e, fun e => by rw [e]; exact keyTS⟩
theorem tVal_mkK (f : α → D) (k : (List Str)) : ∀ l : List ((List Str) × α), tVal (keyW k) (mkK f l) = (kget k l).map f
  | [] => rfl
  | (j, x) :: r => by
    have ih := tVal_mkK f k r
    show (if keyT (keyS j) = some (keyW k) then some (f x) else tVal (keyW k) (mkK f r)) = (if j = k then some x else kget k r).map f
    by_cases h : j = k
    · rw [if_pos (keyTS_iff.mpr h), if_pos h]; rfl
    · rw [if_neg (fun z => h (keyTS_iff.mp z)), if_neg h]; exact ih
theorem tPut_mkK (f : α → D) (k : (List Str)) (x : α) (l : List ((List Str) × α)) : tPut (keyS k) (keyW k) (f x) (mkK f l) = mkK f (kput k x l) := by
  unfold tPut kput
  rw [tVal_mkK, Option.isSome_map]
  split
  · unfold mkK
    rw [List.map_map, List.map_map]
    refine List.map_congr_left fun p _ => ?_
    show (if keyT (keyS p.1) = some (keyW k) then _ else _) = _
    by_cases h : p.1 = k
    · rw [if_pos (keyTS_iff.mpr h)]; simp [h]
    · rw [if_neg (fun z => h (keyTS_iff.mp z))]; simp [h]
  · unfold mkK; rw [List.map_append]; rfl
theorem keys_mkK (f : α → D) (l : List ((List Str) × α)) : (mkK f l).map (·.1) = (l.map (·.1)).map keyS := by
  unfold mkK; rw [List.map_map, List.map_map]; rfl
end
theorem kget_tab {α : Type} (f : List Str → α) (k : List Str) : ∀ K : List (List Str), kget k (K.map fun j => (j, f j)) = if k ∈ K then some (f k) else none
  | [] => rfl
  | j :: r => by
    show (if j = k then some (f j) else kget k (r.map fun j => (j, f j))) = _
    rw [kget_tab f k r]
    by_cases e : j = k
    · subst e; simp
    · rw [if_neg e]
      by_cases h : k ∈ r
      · rw [if_pos h, if_pos (List.mem_cons_of_mem _ h)]
      · rw [if_neg h, if_neg (fun z => by rcases List.mem_cons.mp z with z | z; exact e z.symm; exact h z)]
theorem kput_old {α : Type} {f : List Str → α} {k : List Str} {x : α} {K : List (List Str)} (h : k ∈ K) : kput k x (K.map fun j => (j, f j)) = K.map fun j => (j, if j = k then x else f j) := by
  unfold kput
  rw [kget_tab, if_pos h, if_pos (show (some (f k)).isSome = true from rfl), List.map_map]
  refine List.map_congr_left fun j _ => ?_
  show (if j = k then (j, x) else (j, f j)) = _
  split <;> rfl
theorem kput_new {α : Type} {f : List Str → α} {k : List Str} {x : α} {K : List (List Str)} (h : k ∉ K) : kput k x (K.map fun j => (j, f j)) = (K.map fun j => (j, f j)) ++ [(k, x)] := by
  unfold kput
  rw [kget_tab, if_neg h, if_neg (by simp)]
/-- a dict of whole numbers by kept words -/
abbrev tabD (K : List (List Str)) (f : List Str → Int) : HD := .dtt (mkK D.int (K.map fun k => (k, f k)))
def edD (e : Edge) : D := .tup [keyS e.1, .int e.2.1, e.2.2]
abbrev webL (room : Int) (us : List Str) (K : List (List Str)) : List (D × D) := mkK (fun es => D.lst (es.map edD)) (K.map fun k => (k, edgesP room us k))
section
variable {X : D → Hm → Prop} {h : Hm} {Q : D → Hm → Prop}
theorem get_tab {n : Nat} {K : List (List Str)} {f : List Str → Int} (e : h[n]? = some (tabD K f)) (k : List Str) : getD (.ref n) (keyS k) h = some (if k ∈ K then some (.int (f k)) else none) := by
  rw [getD_dtt e keyTS, tVal_mkK, kget_tab]
  split <;> rfl
theorem so_ixTab {n : Nat} {K : List (List Str)} {f : List Str → Int} {k : List Str} (e : h[n]? = some (tabD K f)) (hk : k ∈ K) (q : Q (.int (f k)) h) : SatX X (opIxN (.ref n) (keyS k) h) Q :=
  so_ixNg (d := .int (f k)) (by rw [get_tab e, if_pos hk]) q
theorem get_web {n : Nat} {room : Int} {us : List Str} {K : List (List Str)} (e : h[n]? = some (.dtt (webL room us K)) ∨ h[n]? = some (.lct (webL room us K))) (k : List Str) : getD (.ref n) (keyS k) h = some (if k ∈ K then some (.lst ((edgesP room us k).map edD)) else none) := by
  rcases e with e | e
  · rw [getD_dtt e keyTS, tVal_mkK, kget_tab]
    split <;> rfl
  · rw [getD_lct e keyTS, tVal_mkK, kget_tab]
    split <;> rfl
theorem so_ixWeb {n : Nat} {room : Int} {us : List Str} {K : List (List Str)} {k : List Str} (e : h[n]? = some (.dtt (webL room us K)) ∨ h[n]? = some (.lct (webL room us K))) (hk : k ∈ K) (q : Q (.lst ((edgesP room us k).map edD)) h) : SatX X (opIxN (.ref n) (keyS k) h) Q :=
  so_ixNg (d := .lst ((edgesP room us k).map edD)) (by rw [get_web e, if_pos hk]) q
theorem so_addNL {n : Nat} {a b : List D} (hl : a.length + b.length ≤ 16777216) (q : Q (.ref h.length) (h ++ [.lst (a ++ b)])) : SatX X (opAddN (.lst a) (.lst b) h) Q := by
  unfold opAddN
  simp only [lsOf, if_pos hl]
  exact ⟨q⟩
theorem set_last {o p : HD} : (h ++ [o]).set h.length p = h ++ [p] := by rw [List.set_append_right _ _ (Nat.le_refl _)]; simp
theorem get_last {o : HD} : (h ++ [o])[h.length]? = some o := by simp
theorem take_last {r : Hm} : (h ++ r).take h.length = h := by simp
theorem behind_put {room : Int} {k : List Str} {w : Str} (h0 : 0 ≤ room) (hs : Short (k ++ [w])) (hl : k.length ≤ 1000) (q : Q (keyS (psh room k w)) h) : Sat (m_behind_put [.int room, keyS k, .str w] h) Q := by
  refine sa_tr (sa_fn rfl ?_)
  unfold m_behind_put_b
  simp only [List.map_cons, List.map_nil, List.replicate, Nat.reduceSub, List.cons_append, List.nil_append]
  array_get_dec
  refine so_listT ?_
  array_get_dec
  refine so_addNL (n := 0) (by simp; omega) ?_
  array_get_dec
  refine ss_wh (fun v h' => ∃ (L : List Str) (x4 : Option D), v = [some (.int room), some (keyS k), some (.str w), some (.ref h.length), x4] ∧ h' = h ++ [.lst (L.map D.str)] ∧ stay room L = psh room k w ∧ Short L ∧ L.length ≤ 1001) (fun v h' => match h'[h.length]? with
    | some (.lst l) => l.length
    | _ => 0) ⟨k ++ [w], none, rfl, by simp, rfl, hs, by simp; omega⟩ (by simp; omega) ?_
  rintro v h' ⟨L, x4, rfl, rfl, hst, hL, hlen⟩
  array_get_dec
  refine sa_LcMapK (l := L.map D.str) (h1 := h ++ [.lst (L.map D.str)]) (fun x => match x with
    | .str w => .int (wt w)
    | _ => .non) (by simp; omega) (by
      array_get_dec
      exact so_wkR get_last ⟨rfl, by simp [HD.beq_refl], rfl⟩) ?_ ?_
  · intro x hx P p
    obtain ⟨w, hw, rfl⟩ := List.mem_map.mp hx
    simp only [wipeE, List.foldr, List.set_cons_zero, List.set_cons_succ]
    array_get_dec
    exact weight (hL w hw) p
  · array_get_dec
    rw [show (L.map D.str).map (fun x => match x with
      | .str w => .int (wt w)
      | _ => .non) = (L.map wt).map D.int by simp]
    refine so_sum ?_
    rw [sum_wt]
    array_get_dec
    refine ⟨fun hc => ?_, fun hc => ?_⟩
    · have hc := of_decide_eq_true hc
      cases L with
      | nil => simp only [sumW] at hc; omega
      | cons a r =>
        array_get_dec
        refine ⟨rcR get_last, ?_⟩
        array_get_dec
        refine so_pop0 get_last ?_
        rw [set_last]
        refine ⟨⟨r, x4, rfl, rfl, ?_, fun x hx => hL x (List.mem_cons_of_mem _ hx), by simp at hlen; omega⟩, by simp⟩
        rw [← hst]
        unfold stay
        rw [fit_cons (by omega)]
    · have hc := of_decide_eq_false hc
      array_get_dec
      refine so_tupleR get_last ?_
      have e : L = psh room k w := by
        rw [← hst]
        unfold stay
        rw [fit_stop (by omega)]
      refine ⟨?_, trOk_app _ _ _, ?_⟩
      · show D.clL _ _ = true
        refine clL_all fun x hx => ?_
        obtain ⟨y, _, rfl⟩ := List.mem_map.mp hx
        rfl
      · rw [take_last, e]; exact q
end
theorem enum_get {l : List Str} {i : Nat} {x : D} (h : (enumL (l.map D.str))[i]? = some x) : ∃ w, l[i]? = some w ∧ x = .tup [.int (i : Int), .str w] := by
  unfold enumL at h
  rw [List.getElem?_mapIdx, List.getElem?_map] at h
  cases e : l[i]? with
  | none => rw [e] at h; cases h
  | some w =>
    rw [e] at h
    cases h
    exact ⟨w, rfl, rfl⟩
theorem str_get {l : List Str} {i : Nat} {x : D} (h : (l.map D.str)[i]? = some x) : ∃ w, l[i]? = some w ∧ x = .str w := by
  rw [List.getElem?_map] at h
  cases e : l[i]? with
  | none => rw [e] at h; cases h
  | some w =>
    rw [e] at h
    cases h
    exact ⟨w, rfl, rfl⟩
theorem take_succ_get {α : Type} {l : List α} {i : Nat} {x : α} (h : l[i]? = some x) : l.take (i + 1) = l.take i ++ [x] := by rw [List.take_add_one, h]; rfl
theorem keyS_cl (n : Nat) (k : List Str) : D.cl n (keyS k) = true := by
  show D.clL _ _ = true
  refine clL_all fun x hx => ?_
  obtain ⟨y, _, rfl⟩ := List.mem_map.mp hx
  rfl
theorem edD_cl {room : Int} {us k : List Str} {e : Edge} (n : Nat) (h : e ∈ edgesP room us k) : D.cl n (edD e) = true := by
  show (D.cl n (keyS e.1) && (true && (D.cl n e.2.2 && true))) = true
  rw [keyS_cl]
  rcases mem_edges.mp h with ⟨w, _, _, rfl⟩ | ⟨i, w, _, rfl⟩ <;> rfl
theorem sset_words {row : List Str} (hr : Words row) : Words (ssT row) := fun w hw => hr w (ssT_mem.mp hw)
section
variable {X : D → Hm → Prop} {h : Hm} {Q : D → Hm → Prop}
theorem deeds_at {room : Int} {k row : List Str} (h0 : 0 ≤ room) (hk : Words k) (hl : k.length ≤ 900) (hr : Words row) (hrl : row.length ≤ 4000) (q : Q (.lst ((edgesP room (ssT row) k).map edD)) h) : Sat (m_deeds_at [.int room, keyS k, .lst (row.map D.str)] h) Q := by
  refine sa_tr (sa_fn rfl ?_)
  unfold m_deeds_at_b
  simp only [List.map_cons, List.map_nil, List.replicate, Nat.reduceSub, List.cons_append, List.nil_append]
  array_get_dec
  have hus := sset_words hr
  have hul := ssT_len row
  have hshort : ∀ w, IsW w → Short (k ++ [w]) := fun w hw x hx => by
    rcases List.mem_append.mp hx with hx | hx
    · exact hk.short x hx
    · rw [List.mem_singleton.mp hx]; have := hw.len; omega
  refine ss_forL (l := (ssT row).map D.str) (fun i v h' => ∃ x4, v = [some (.int room), some (keyS k), some (.lst (row.map D.str)), some (.ref h.length), x4, none, none] ∧ h' = h ++ [.lst (((((ssT row).take i).filter fun w => decide (wt w ≤ room)).map (putE room k)).map edD)]) (by
    array_get_dec
    refine so_sset hrl ?_
    exact so_wkL ⟨rfl, rfl⟩) ⟨none, rfl, rfl⟩ ?_ ?_
  · rintro i x v h' hx ⟨x4, rfl, rfl⟩
    obtain ⟨w, hw, rfl⟩ := str_get hx
    have iw := hus w (List.mem_of_getElem? hw)
    refine ⟨_, rfl, ?_⟩
    simp only [List.set_cons_zero, List.set_cons_succ]
    array_get_dec
    refine weight (by have := iw.len; omega) ?_
    array_get_dec
    rw [take_succ_get hw, List.filter_append, List.map_append, List.map_append]
    refine ⟨fun hc => ?_, fun hc => ?_⟩
    · have hc' := of_decide_eq_true hc
      array_get_dec
      refine ⟨rcR get_last, ?_⟩
      array_get_dec
      refine behind_put h0 (hshort w iw) (by omega) ?_
      array_get_dec
      refine deed_price (.put w iw) ?_
      array_get_dec
      refine so_append get_last ?_ ?_
      · have := List.length_filter_le (fun w => decide (wt w ≤ room)) ((ssT row).take i)
        simp only [List.length_map, List.length_take] at this ⊢
        omega
      · rw [set_last]
        refine ⟨_, rfl, ?_⟩
        rw [List.filter_cons_of_pos (by simpa using hc')]
        have e : (2 : Int) + (sgn (pay (.tup [.str (Str.ofString "put"), .str w])) : Nat) = wt w := by
          show (2 : Int) + (w.length : Int) = (w.length : Int) + 2
          omega
        rw [e]; rfl
    · have hc' := of_decide_eq_false hc
      refine ss_nx ⟨_, rfl, ?_⟩
      rw [List.filter_cons_of_neg (by simpa using hc')]
      simp
  · rintro v h' ⟨x4, rfl, rfl⟩
    rw [List.length_map, List.take_length]
    array_get_dec
    generalize hA : ((((ssT row).filter fun w => decide (wt w ≤ room)).map (putE room k)).map edD) = A
    have hAl : A.length ≤ 4000 := by
      rw [← hA]
      have := List.length_filter_le (fun w => decide (wt w ≤ room)) (ssT row)
      simp only [List.length_map]
      omega
    refine ss_forL (l := enumL (k.map D.str)) (fun i v h' => ∃ x4 x5 x6, v = [some (.int room), some (keyS k), some (.lst (row.map D.str)), some (.ref h.length), x4, x5, x6] ∧ h' = h ++ [.lst (A ++ (((k.mapIdx (agE room k)).take i).map edD))]) (by
      array_get_dec
      exact sa_wEnT (by
        array_get_dec
        exact so_enTT ⟨rfl, rfl⟩)) ⟨x4, none, none, rfl, by simp⟩ ?_ ?_
    · rintro i x v h' hx ⟨x4, x5, x6, rfl, rfl⟩
      obtain ⟨w, hw, rfl⟩ := enum_get hx
      have hi := (List.getElem?_eq_some_iff.mp hw).1
      have iw := hk w (List.mem_of_getElem? hw)
      refine ⟨_, rfl, ?_⟩
      simp only [List.set_cons_zero, List.set_cons_succ]
      array_get_dec
      refine so_lenT (l := k.map D.str) ?_
      array_get_dec
      rw [List.length_map]
      refine ⟨rcR get_last, ?_⟩
      array_get_dec
      refine behind_put h0 (hshort w iw) (by omega) ?_
      array_get_dec
      refine deed_price (.again ((k.length : Int) - i) (by omega) (by omega)) ?_
      array_get_dec
      refine so_append get_last ?_ ?_
      · simp only [List.length_append, List.length_map, List.length_take, List.length_mapIdx]
        omega
      · rw [set_last]
        refine ⟨_, _, _, rfl, ?_⟩
        rw [take_succ_get (x := agE room k i w) (by rw [List.getElem?_mapIdx, hw]; rfl), List.map_append, ← List.append_assoc]
        rfl
    · rintro v h' ⟨x4, x5, x6, rfl, rfl⟩
      have e : (k.mapIdx (agE room k)).take (enumL (k.map D.str)).length = k.mapIdx (agE room k) := by
        rw [List.take_of_length_le (by simp [enumL])]
      rw [e]
      array_get_dec
      refine so_fz get_last ?_
      rw [set_last]
      have e2 : A ++ (k.mapIdx (agE room k)).map edD = (edgesP room (ssT row) k).map edD := by
        unfold edgesP
        rw [List.map_append, ← hA]
      rw [e2]
      refine ⟨?_, trOk_app _ _ _, ?_⟩
      · show D.clL _ _ = true
        refine clL_all fun x hx => ?_
        obtain ⟨e, he, rfl⟩ := List.mem_map.mp hx
        exact edD_cl _ he
      · rw [take_last]; exact q
end
def tD (t : Int × D) : D := .tup [.int t.1, t.2]
theorem k_book {k : List Str} (hk : Words k) (hs : sumW k ≤ 200) : PG 200 ⟨⟨200, 0, k⟩, 0⟩ := ⟨⟨(show (0 : Int) ≤ 200 by decide), (show (200 : Int) ≤ 200 by decide), hk, hs⟩, rfl, Int.le_refl _⟩
section
variable {X : D → Hm → Prop} {h : Hm} {Q : D → Hm → Prop}
theorem price_word {w : Str} (iw : IsW w) (q : Q (.int (1 + (w.length : Int))) h) : Sat (m_step_price [wordT, .str w] h) Q := by
  have hw1 : Words [w] := fun x hx => by rw [List.mem_singleton.mp hx]; exact iw
  refine step_price (row := [w]) (StepOk.word ⟨200, 0, []⟩ 0 (by simp)) (k_book (fun _ z => nomatch z) (by simp [sumW])) hw1 rfl ?_
  show Q (.int (stepP [w] 0 wordT)) h
  rw [stepP_word (row := [w]) (t := 0) rfl]; exact q
theorem price_by {k : List Str} {w : Str} {i : Nat} (iw : IsW w) (hk : Words k) (hs : sumW k ≤ 200) (hi : k[i]? = some w) (q : Q (.int (byE k i).1) h) : Sat (m_step_price [byT ((k.length : Int) - i), .str w] h) Q := by
  have hl := (List.getElem?_eq_some_iff.mp hi).1
  have hw1 : Words [w] := fun x hx => by rw [List.mem_singleton.mp hx]; exact iw
  have en : ((k.length : Int) - ((k.length : Int) - i)).toNat = i := by omega
  refine step_price (row := [w]) (StepOk.by_ ⟨200, 0, k⟩ 0 ((k.length : Int) - i) w (by omega) (by show (k.length : Int) - i ≤ k.length; omega) (by show k[((k.length : Int) - ((k.length : Int) - i)).toNat]? = some w; rw [en]; exact hi) rfl) (k_book hk hs) hw1 rfl ?_
  show Q (.int (stepP [w] 0 (byT ((k.length : Int) - i)))) h
  rw [stepP_by]; exact q
theorem tD_cl {k : List Str} {w : Str} {t : Int × D} (n : Nat) (h : t ∈ tellsP k w) : D.cl n (tD t) = true := by
  rcases mem_tells.mp h with rfl | ⟨i, _, rfl⟩ <;> rfl
theorem tells_at {k : List Str} {w : Str} (hk : Words k) (hs : sumW k ≤ 200) (iw : IsW w) (q : Q (.lst ((tellsP k w).map tD)) h) : Sat (m_tells_at [keyS k, .str w] h) Q := by
  have hkl : k.length ≤ 100 := (k_book hk hs).len
  refine sa_tr (sa_fn rfl ?_)
  unfold m_tells_at_b
  simp only [List.map_cons, List.map_nil, List.replicate, Nat.reduceSub, List.cons_append, List.nil_append]
  array_get_dec
  refine price_word iw ?_
  array_get_dec
  refine ss_forL (l := enumL (k.map D.str)) (fun i v h' => ∃ x3 x4, v = [some (keyS k), some (.str w), some (.ref h.length), x3, x4] ∧ h' = h ++ [.lst (tD (1 + (w.length : Int), wordT) :: ((((k.mapIdx fun i x => (i, x)).take i).filter fun p => decide (p.2 = w)).map fun p => byE k p.1).map tD)]) (by
    array_get_dec
    exact sa_wEnT (by
      array_get_dec
      exact so_enTT ⟨rfl, rfl⟩)) ⟨none, none, rfl, rfl⟩ ?_ ?_
  · rintro i x v h' hx ⟨x3, x4, rfl, rfl⟩
    obtain ⟨u, hu, rfl⟩ := enum_get hx
    have hi := (List.getElem?_eq_some_iff.mp hu).1
    refine ⟨_, rfl, ?_⟩
    simp only [List.set_cons_zero, List.set_cons_succ]
    array_get_dec
    rw [take_succ_get (x := (i, u)) (by rw [List.getElem?_mapIdx, hu]; rfl), List.filter_append, List.map_append, List.map_append]
    refine ⟨fun hc => ?_, fun hc => ?_⟩
    · have hc' := of_decide_eq_true hc
      subst hc'
      array_get_dec
      refine ⟨rcR get_last, ?_⟩
      array_get_dec
      refine so_lenT (l := k.map D.str) ?_
      array_get_dec
      rw [List.length_map]
      refine price_by iw hk hs hu ?_
      array_get_dec
      refine so_lenT (l := k.map D.str) ?_
      array_get_dec
      rw [List.length_map]
      refine so_append get_last ?_ ?_
      · have := List.length_filter_le (fun p : Nat × Str => decide (p.2 = u)) ((k.mapIdx fun i x => (i, x)).take i)
        simp only [List.length_cons, List.length_map, List.length_take, List.length_mapIdx] at this ⊢
        omega
      · rw [set_last]
        refine ⟨_, _, rfl, ?_⟩
        rw [List.filter_cons_of_pos (by simp)]
        rfl
    · have hc' := of_decide_eq_false hc
      refine ss_nx ⟨_, _, rfl, ?_⟩
      rw [List.filter_cons_of_neg (by simpa using hc')]
      simp
  · rintro v h' ⟨x3, x4, rfl, rfl⟩
    have e : (k.mapIdx fun i x => (i, x)).take (enumL (k.map D.str)).length = k.mapIdx fun i x => (i, x) := by
      rw [List.take_of_length_le (by simp [enumL])]
    rw [e]
    array_get_dec
    refine so_fz get_last ?_
    rw [set_last]
    refine ⟨?_, trOk_app _ _ _, ?_⟩
    · show D.clL _ ((tellsP k w).map tD) = true
      refine clL_all fun x hx => ?_
      obtain ⟨t, ht, rfl⟩ := List.mem_map.mp hx
      exact tD_cl _ ht
    · rw [take_last]; exact q
/-- the cheapest telling -/
theorem leD_tot : PySem.W.TotalLe Dn.leD := by
  have e : PySem.W.TotalLe (PySem.W.dataLe false D.pd) := PySem.W.sortLe_total _ _ _
  rw [Dn.leD_eq] at e; exact e
theorem tD_alike {k : List Str} {w : Str} {s t : Int × D} (hs : s ∈ tellsP k w) (ht : t ∈ tellsP k w) : PySem.W.alike (tD s).pd (tD t).pd = true := by
  rcases mem_tells.mp hs with rfl | ⟨i, _, rfl⟩ <;> rcases mem_tells.mp ht with rfl | ⟨j, _, rfl⟩ <;> simp [tD, byE, D.pd, D.pdL, PySem.W.alike, PySem.W.alikeAll]
theorem okL_of {n : Nat} {l : List D} (h : ∀ x ∈ l, D.okN n x = true) : D.okL n l = true := by
  induction l with
  | nil => rfl
  | cons a r ih => simp only [D.okL, h a List.mem_cons_self, ih fun x hx => h x (List.mem_cons_of_mem _ hx), Bool.and_self]
theorem tells_srt {k : List Str} {w : Str} : srtOk ((tellsP k w).map tD) = true := by
  unfold srtOk
  have h1 : D.okL 40 ((tellsP k w).map tD) = true := okL_of fun x hx => by
    obtain ⟨t, ht, rfl⟩ := List.mem_map.mp hx
    rcases mem_tells.mp ht with rfl | ⟨i, _, rfl⟩
    · show (true && (D.okN 39 wordT && true)) = true
      decide +kernel
    · show (true && ((PyData.strOk (Str.ofString "by") && (true && true)) && true)) = true
      decide +kernel
  have h2 : (((tellsP k w).map tD).all fun a => ((tellsP k w).map tD).all fun b => PySem.W.alike a.pd b.pd) = true := List.all_eq_true.mpr fun a ha => List.all_eq_true.mpr fun b hb => by
    obtain ⟨s, hs, rfl⟩ := List.mem_map.mp ha
    obtain ⟨t, ht, rfl⟩ := List.mem_map.mp hb
    exact tD_alike hs ht
  have h3 : ((tellsP k w).map tD).all tupNE = true := List.all_eq_true.mpr fun a ha => by
    obtain ⟨s, hs, rfl⟩ := List.mem_map.mp ha
    rfl
  rw [h1, h2, h3]; rfl
theorem srtD_head {l : List D} (h : l ≠ []) : ∃ x, (srtD l)[0]? = some x ∧ x ∈ l ∧ ∀ y ∈ l, Dn.leD x y = true := by
  have hp : (srtD l).Perm l := List.mergeSort_perm _ _
  have hs := PySem.W.sort_pairwise leD_tot l
  unfold srtD at hp ⊢
  cases e : l.mergeSort Dn.leD with
  | nil => rw [e] at hp; exact absurd (List.Perm.nil_eq hp).symm h
  | cons x r =>
    rw [e] at hp hs
    refine ⟨x, rfl, hp.mem_iff.mp List.mem_cons_self, fun y hy => ?_⟩
    rcases List.mem_cons.mp (hp.mem_iff.mpr hy) with rfl | hy
    · have := leD_tot.total y y
      simpa using this
    · exact (List.pairwise_cons.mp hs).1 y hy
theorem tD_le {k : List Str} {w : Str} {s t : Int × D} (hs : s ∈ tellsP k w) (ht : t ∈ tellsP k w) (h : Dn.leD (tD s) (tD t) = true) : s.1 ≤ t.1 := by
  have hal : PySem.W.alike t.2.pd s.2.pd = true := by
    rcases mem_tells.mp hs with rfl | ⟨i, _, rfl⟩ <;> rcases mem_tells.mp ht with rfl | ⟨j, _, rfl⟩ <;> simp [byE, D.pd, D.pdL, PySem.W.alike, PySem.W.alikeAll]
  unfold Dn.leD at h
  rw [Bool.not_eq_true'] at h
  have e := PySem.W.dataLt_pair (x := .int t.1) (y := t.2.pd) (x' := .int s.1) (y' := s.2.pd) (by simp [PySem.W.alike]) hal
  have h' : PySem.W.dataLt (.tuple [.int t.1, t.2.pd]) (.tuple [.int s.1, s.2.pd]) = false := h
  rw [e] at h'
  by_cases c : PyData.eqv (.int t.1) (.int s.1) = true
  · have : t.1 = s.1 := by simpa [PyData.eqv] using c
    omega
  · rw [if_neg c, PySem.W.dataLt_int] at h'
    have := of_decide_eq_false h'
    omega
theorem so_srtA {l : List D} (hok : srtOk l = true) (q : Q (.lst (srtD l)) h) : SatX X (bSortedA [.lst l] h) Q := by
  unfold bSortedA
  simp only [lsOf, hok, if_true]
  exact ⟨q⟩
theorem cheapest {k : List Str} {w : Str} (hk : Words k) (hs : sumW k ≤ 200) (iw : IsW w) (q : ∀ t, t ∈ tellsP k w → (∀ u ∈ tellsP k w, t.1 ≤ u.1) → Q (tD t) h) : Sat (m_cheapest_tell [keyS k, .str w] h) Q := by
  refine sa_fn rfl ?_
  unfold m_cheapest_tell_b
  simp only [List.map_cons, List.map_nil, List.replicate, Nat.reduceSub, List.cons_append, List.nil_append]
  array_get_dec
  refine tells_at hk hs iw ?_
  array_get_dec
  obtain ⟨x, h1, h2, h3⟩ := srtD_head (l := (tellsP k w).map tD) (by unfold tellsP; simp)
  obtain ⟨t, ht, rfl⟩ := List.mem_map.mp h2
  refine so_srtA tells_srt ?_
  array_get_dec
  exact so_ixL (d := tD t) (by
    have := atI_nat h1
    exact this) (q t ht fun u hu => tD_le ht hu (h3 _ (List.mem_map_of_mem hu)))
end
theorem okS (k : List Str) (h : Words k) : D.okN 40 (keyS k) = true := by
  show D.okL 39 (k.map D.str) = true
  refine okL_of fun x hx => ?_
  obtain ⟨w, hw, rfl⟩ := List.mem_map.mp hx
  exact (h w hw).ok
section
variable {X : D → Hm → Prop} {h : Hm} {Q : D → Hm → Prop}
/-- what is found so far, what waits -/
structure Seek (room : Int) (us : List Str) (K wl : List (List Str)) : Prop where
  nd : K.Nodup
  ok : ∀ k ∈ K, KOk room us k
  okw : ∀ k ∈ wl, KOk room us k
  cl : ∀ k ∈ K, ∀ e ∈ edgesP room us k, e.1 ∈ K ∨ e.1 ∈ wl
  nil : [] ∈ K ∨ [] ∈ wl
  hd : (K = [] ∧ wl = [[]]) ∨ K.head? = some []
  sz : wl.length ≤ 8 * K.length + 1
theorem Seek.old {room : Int} {us : List Str} {K wl : List (List Str)} {k : List Str} (s : Seek room us K (wl ++ [k])) (hk : k ∈ K) : Seek room us K wl := by
  have sz := s.sz
  refine ⟨s.nd, s.ok, fun x hx => s.okw x (List.mem_append_left _ hx), fun x hx e he => ?_, ?_, ?_, by rw [List.length_append] at sz; simp at sz; omega⟩
  · rcases s.cl x hx e he with h | h
    · exact .inl h
    · rcases List.mem_append.mp h with h | h
      · exact .inr h
      · rw [List.mem_singleton.mp h]; exact .inl hk
  · rcases s.nil with h | h
    · exact .inl h
    · rcases List.mem_append.mp h with h | h
      · exact .inr h
      · rw [← List.mem_singleton.mp h] at hk; exact .inl hk
  · rcases s.hd with ⟨h, _⟩ | h
    · rw [h] at hk; cases hk
    · exact .inr h
theorem Seek.new {room : Int} {us : List Str} {K wl : List (List Str)} {k : List Str} (z : Szs room us) (s : Seek room us K (wl ++ [k])) (hk : k ∉ K) : Seek room us (K ++ [k]) (wl ++ ((edgesP room us k).filter fun e => decide (e.1 ∉ K ++ [k])).map (·.1)) := by
  have ok1 := s.okw k (List.mem_append_right _ (List.mem_singleton.mpr rfl))
  have sz := s.sz
  refine ⟨List.nodup_append.mpr ⟨s.nd, by simp, fun a ha b hb => by rw [List.mem_singleton.mp hb]; exact fun e => hk (by rw [← e]; exact ha)⟩, fun x hx => ?_, fun x hx => ?_, fun x hx e he => ?_, ?_, ?_, ?_⟩
  · rcases List.mem_append.mp hx with hx | hx
    · exact s.ok x hx
    · rw [List.mem_singleton.mp hx]; exact ok1
  · rcases List.mem_append.mp hx with hx | hx
    · exact s.okw x (List.mem_append_left _ hx)
    · obtain ⟨e, he, rfl⟩ := List.mem_map.mp hx
      exact ok1.edge z.r0 (List.mem_filter.mp he).1
  · rcases List.mem_append.mp hx with hx | hx
    · rcases s.cl x hx e he with h | h
      · exact .inl (List.mem_append_left _ h)
      · rcases List.mem_append.mp h with h | h
        · exact .inr (List.mem_append_left _ h)
        · exact .inl (List.mem_append_right _ h)
    · rw [List.mem_singleton.mp hx] at he
      by_cases c : e.1 ∈ K ++ [k]
      · exact .inl c
      · exact .inr (List.mem_append_right _ (List.mem_map_of_mem (f := (·.1)) (List.mem_filter.mpr ⟨he, decide_eq_true c⟩)))
  · rcases s.nil with h | h
    · exact .inl (List.mem_append_left _ h)
    · rcases List.mem_append.mp h with h | h
      · exact .inr (List.mem_append_left _ h)
      · exact .inl (List.mem_append_right _ h)
  · refine .inr ?_
    rcases s.hd with ⟨h, hw⟩ | h
    · subst h
      have : k = [] := by
        have := congrArg List.getLast? hw
        simpa using this
      rw [this]; rfl
    · cases K with
      | nil => cases h
      | cons a r => exact h
  · have := edges_len z ok1
    have := List.length_filter_le (fun e : Edge => decide (e.1 ∉ K ++ [k])) (edgesP room us k)
    simp only [List.length_append, List.length_map, List.length_singleton] at sz ⊢
    omega
theorem set_at2 {a b o : HD} : (h ++ [a, b]).set h.length o = h ++ [o, b] := by rw [List.set_append_right _ _ (Nat.le_refl _)]; simp
theorem set_at3 {a b o : HD} : (h ++ [a, b]).set (h.length + 1) o = h ++ [a, o] := by rw [List.set_append_right _ _ (by omega)]; simp
theorem get_at2 {a b : HD} : (h ++ [a, b])[h.length]? = some a := by simp
theorem get_at3 {a b : HD} : (h ++ [a, b])[h.length + 1]? = some b := by rw [List.getElem?_append_right (by omega)]; simp
theorem so_popL {n : Nat} {l : List D} {x : D} (e : h[n]? = some (.lst (l ++ [x]))) (q : Q x (h.set n (.lst l))) : SatX X (mPop (.ref n) [] h) Q := by
  unfold mPop
  simp only [e, List.length_append, List.length_singleton, Nat.add_sub_cancel, List.getElem?_append_right (Nat.le_refl _), Nat.sub_self, List.getElem?_cons_zero, List.dropLast_concat]
  exact ⟨q⟩
theorem web_snoc {room : Int} {us : List Str} {K : List (List Str)} {k : List Str} (hk : k ∉ K) : tPut (keyS k) (keyW k) (D.lst ((edgesP room us k).map edD)) (webL room us K) = webL room us (K ++ [k]) := by
  have := tPut_mkK (fun es : List Edge => D.lst (es.map edD)) k (edgesP room us k) (K.map fun k => (k, edgesP room us k))
  rw [kput_new hk] at this
  unfold webL
  rw [List.map_append]
  exact this
theorem web_len {room : Int} {us : List Str} {K : List (List Str)} : (webL room us K).length = K.length := by simp [webL, mkK]
/-- a comprehension over items of a kind: those that pass, each turned into something -/
theorem sa_LcE {α : Type} {v : Ev} {h1 : Hm} {own : List Nat} {g : TgM} {w : Ev → Hm → R Wk} {t : TM} {e : EM} (es : List α) (c : α → D) (V : α → Ev) (p : α → Bool) (f : α → D) (hl : es.length ≤ 16777215) (hw : SatX X (w v h) fun k h2 => k.its = es.map c ∧ k.chk h1 = true ∧ h2 = h1)
    (hV : ∀ x ∈ es, g (c x) (wipeE v own) h1 = some (V x)) (ht : ∀ x ∈ es, ∀ P : Bool → Hm → Prop, P (p x) h1 → Sat (t (V x) h1) P) (he : ∀ x ∈ es, p x = true → ∀ P : D → Hm → Prop, P (f x) h1 → Sat (e (V x) h1) P) (q : Q (.lst ((es.filter p).map f)) h1) : SatX X (eLc own g w t e v h) Q := by
  refine sa_Lc (hw.imp ?_)
  rintro kk _ ⟨hi, hc, rfl⟩
  refine ⟨by rw [hi, List.length_map]; exact hl, fun i acc h' => acc = ((es.take i).filter p).map f ∧ h' = _, ⟨rfl, rfl⟩, ?_, ?_⟩
  · rintro i x acc h' hx ⟨rfl, rfl⟩
    rw [hi, List.getElem?_map] at hx
    obtain ⟨y, hy, rfl⟩ := Option.map_eq_some_iff.mp hx
    have hm := List.mem_of_getElem? hy
    have et := take_succ_get hy
    refine ⟨hc, _, hV y hm, ht y hm _ ⟨fun hp => ?_, fun hp => ?_⟩⟩
    · refine he y hm hp _ ⟨?_, rfl⟩
      rw [et, List.filter_append, List.map_append]
      simp [hp]
    · refine ⟨?_, rfl⟩
      rw [et, List.filter_append, List.map_append]
      simp [hp]
  · rintro acc h' ⟨rfl, rfl⟩
    refine ⟨hc, ?_⟩
    rw [hi, List.length_map, List.take_length]
    exact q
theorem keys_okL {ks : List (List Str)} (h : ∀ k ∈ ks, Words k) : D.okL 63 (ks.map keyS) = true := by
  refine okL_of fun x hx => ?_
  obtain ⟨k, hk, rfl⟩ := List.mem_map.mp hx
  show D.okL 62 (k.map D.str) = true
  refine okL_of fun x hx => ?_
  obtain ⟨w, hw, rfl⟩ := List.mem_map.mp hx
  exact (h k hk w hw).ok
theorem all_deeds {room : Int} {row : List Str} (z : Szs room (ssT row)) (hr : Words row) (hrl : row.length ≤ 4000) (q : ∀ K, Seek room (ssT row) K [] → Q (.ref h.length) (h ++ [.dtt (webL room (ssT row) K), .lst []])) : Sat (m_all_deeds [.int room, .lst (row.map D.str)] h) Q := by
  refine sa_fn rfl ?_
  unfold m_all_deeds_b
  simp only [List.map_cons, List.map_nil, List.replicate, Nat.reduceSub, List.cons_append, List.nil_append]
  array_get_dec
  refine sa_dctT ?_
  array_get_dec
  have en : (h ++ [HD.dtt []]).length = h.length + 1 := by simp
  rw [en]
  refine ss_wh (fun v h' => ∃ (K wl : List (List Str)) (x4 x5 x6 x7 : Option D), v = [some (.int room), some (.lst (row.map D.str)), some (.ref h.length), some (.ref (h.length + 1)), x4, x5, x6, x7] ∧ h' = h ++ [.dtt (webL room (ssT row) K), .lst (wl.map keyS)] ∧ Seek room (ssT row) K wl)
    (fun v h' => match h'[h.length]?, h'[h.length + 1]? with
    | some (.dtt l), some (.lst w) => (121 - l.length) * 8 + w.length
    | _, _ => 0) ⟨[], [[]], none, none, none, none, rfl, by simp [webL, mkK, keyS], ⟨List.nodup_nil, (fun _ z => nomatch z), fun k hk => by rw [List.mem_singleton.mp hk]; exact .nil z.r0, (fun _ z => nomatch z), .inr (List.mem_singleton.mpr rfl), .inl ⟨rfl, rfl⟩, by simp⟩⟩ (by simp) ?_
  rintro v h' ⟨K, wl, x4, x5, x6, x7, rfl, rfl, sk⟩
  have hus := sset_words hr
  array_get_dec
  refine so_neNilR get_at3 (keys_okL fun k hk => (sk.okw k hk).words hus) ?_
  array_get_dec
  refine ⟨fun hc => ?_, fun hc => ?_⟩
  · have hne : wl ≠ [] := fun e => by subst e; cases hc
    obtain ⟨wl0, k, rfl⟩ : ∃ wl0 k, wl = wl0 ++ [k] := ⟨wl.dropLast, wl.getLast hne, (List.dropLast_concat_getLast hne).symm⟩
    have okk := sk.okw k (List.mem_append_right _ (List.mem_singleton.mpr rfl))
    array_get_dec
    refine ⟨rcR get_at3, ?_⟩
    array_get_dec
    refine so_popL (l := wl0.map keyS) (x := keyS k) (by rw [get_at3, List.map_append]; rfl) ?_
    rw [set_at3]
    array_get_dec
    refine so_notInNg (getD_dtt get_at2 keyTS) ?_
    rw [tVal_mkK, kget_tab]
    array_get_dec
    refine ⟨fun hc => ?_, fun hc => ?_⟩
    · have hkn : k ∉ K := fun hm => by rw [if_pos hm] at hc; cases hc
      array_get_dec
      refine ss_putN ?_
      array_get_dec
      refine deeds_at z.r0 (okk.words hus) (by have := okk.len z; omega) hr hrl ?_
      array_get_dec
      have hK := keys_le z (sk.new z hkn).nd (sk.new z hkn).ok
      rw [List.length_append, List.length_singleton] at hK
      refine so_putNT get_at2 (by rw [web_len]; omega) keyTS ?_
      rw [set_at2, web_snoc hkn]
      array_get_dec
      refine ⟨rcR get_at3, ?_⟩
      array_get_dec
      have okedge : ∀ e ∈ edgesP room (ssT row) k, KOk room (ssT row) e.1 := fun e he => okk.edge z.r0 he
      refine sa_LcE (h1 := h ++ [.dtt (webL room (ssT row) (K ++ [k])), .lst (wl0.map keyS)]) (edgesP room (ssT row) k) edD (fun e => [some (.int room), some (.lst (row.map D.str)), some (.ref h.length), some (.ref (h.length + 1)), some (keyS k), some (keyS e.1), some (.int e.2.1), some e.2.2]) (fun e => decide (e.1 ∉ K ++ [k])) (fun e => keyS e.1) (by have := edges_len z okk; omega) ?_ ?_ ?_ ?_ ?_
      · array_get_dec
        refine so_ixWeb (k := k) (.inl get_at2) (List.mem_append_right _ (List.mem_singleton.mpr rfl)) ?_
        exact so_wkL ⟨rfl, rfl, rfl⟩
      · intro e he
        rfl
      · intro e he P p
        array_get_dec
        refine so_notInNg (get_web (.inl get_at2) e.1) ?_
        refine ⟨_, rfl, ?_⟩
        have ee : (!(if e.1 ∈ K ++ [k] then some (D.lst ((edgesP room (ssT row) e.1).map edD)) else none).isSome) = decide (e.1 ∉ K ++ [k]) := by
          by_cases c : e.1 ∈ K ++ [k]
          · rw [if_pos c, decide_eq_false (fun z => z c)]; rfl
          · rw [if_neg c, decide_eq_true c]; rfl
        rw [ee]; exact p
      · intro e he _ P p
        array_get_dec
        exact p
      · array_get_dec
        have hs2 := (sk.new z hkn).sz
        simp only [List.length_append, List.length_map, List.length_singleton] at hs2
        refine so_extend get_at3 rfl (by simp only [List.length_map]; omega) ?_
        rw [set_at3]
        refine ⟨⟨K ++ [k], wl0 ++ ((edgesP room (ssT row) k).filter fun e => decide (e.1 ∉ K ++ [k])).map (·.1), _, x5, x6, x7, rfl, by rw [List.map_append, List.map_map]; rfl, sk.new z hkn⟩, ?_⟩
        have := edges_len z okk
        have := List.length_filter_le (fun e : Edge => decide (e.1 ∉ K ++ [k])) (edgesP room (ssT row) k)
        rw [get_at2, get_at3, get_at2, get_at3]
        simp only [List.length_map, List.length_append, List.length_singleton, mkK]
        omega
    · have hkm : k ∈ K := by
        by_cases hm : k ∈ K
        · exact hm
        · rw [if_neg hm] at hc; cases hc
      refine ss_nx ⟨⟨K, wl0, _, x5, x6, x7, rfl, rfl, sk.old hkm⟩, ?_⟩
      rw [get_at2, get_at3, get_at2, get_at3]
      simp only [List.length_map, List.length_append, List.length_singleton]
      omega
  · have hne : wl = [] := by
      cases wl with
      | nil => rfl
      | cons a r => cases hc
    subst hne
    array_get_dec
    exact q K sk
end
/-- a closed set of words that may be kept -/
structure Kc (room : Int) (us : List Str) (K : List (List Str)) : Prop where
  nd : K.Nodup
  ok : ∀ k ∈ K, KOk room us k
  cl : ∀ k ∈ K, ∀ e ∈ edgesP room us k, e.1 ∈ K
  nil : [] ∈ K
  hd : K.head? = some []
theorem Seek.kc {room : Int} {us : List Str} {K : List (List Str)} (s : Seek room us K []) : Kc room us K :=
  ⟨s.nd, s.ok, fun k hk e he => (s.cl k hk e he).resolve_right (fun z => nomatch z), s.nil.resolve_right (fun z => nomatch z), by
    rcases s.hd with ⟨_, h⟩ | h
    · cases h
    · exact h⟩
theorem whL_n {t : TM} {b : SM} {N : Ev → Hm → Prop} {T : D → Hm → Prop} {B G : Ev → Hm → Prop} {Y : D → Ev → Hm → Prop} (Inv : Nat → Ev → Hm → Prop)
    (hs : ∀ m v h, Inv m v h → SatX (fun x h1 => Y x v h1) (t v h) fun c h1 => (c = true → SatSX Y (b v h1) (fun v2 h2 => ∃ j, j < m ∧ Inv j v2 h2) T N (fun v2 h2 => ∃ j, j < m ∧ Inv j v2 h2)) ∧ (c = false → N v h1)) : ∀ (n m : Nat) (v : Ev) (h : Hm), Inv m v h → m < n → SatSX Y (whL t b n v h) N T B G
  | 0, m, v, h, _, hn => by omega
  | n + 1, m, v, h, hi, hn => by
    have s := hs m v h hi
    unfold whL
    generalize t v h = o at s
    cases o with
    | exc _ _ => exact ⟨s.out⟩
    | err => exact s.out.elim
    | ok c h1 =>
    obtain ⟨s1, s2⟩ := s.out
    cases c with
    | false => exact ⟨s2 rfl⟩
    | true =>
      have s2 := s1 rfl
      simp only
      generalize b v h1 = q at s2 ⊢
      cases q with
      | nx v2 h2 => obtain ⟨j, h1, h3⟩ := s2.out; exact whL_n Inv hs n j v2 h2 h3 (by omega)
      | ct v2 h2 => obtain ⟨j, h1, h3⟩ := s2.out; exact whL_n Inv hs n j v2 h2 h3 (by omega)
      | bk v2 h2 => exact ⟨s2.out⟩
      | rt _ _ => exact ⟨s2.out⟩
      | exc _ _ _ => exact ⟨s2.out⟩
      | err => exact s2.out.elim
theorem ss_whN {t : TM} {b : SM} {v : Ev} {h : Hm} {N : Ev → Hm → Prop} {T : D → Hm → Prop} {B G : Ev → Hm → Prop} {Y : D → Ev → Hm → Prop} (Inv : Nat → Ev → Hm → Prop) (m : Nat) (h0 : Inv m v h) (hm : m < 1000000)
    (hs : ∀ m v h, Inv m v h → SatX (fun x h1 => Y x v h1) (t v h) fun c h1 => (c = true → SatSX Y (b v h1) (fun v2 h2 => ∃ j, j < m ∧ Inv j v2 h2) T N (fun v2 h2 => ∃ j, j < m ∧ Inv j v2 h2)) ∧ (c = false → N v h1)) : SatSX Y (sWh t b v h) N T B G :=
  whL_n Inv hs _ m v h h0 hm
def sumK (K : List (List Str)) (f : List Str → Int) : Nat := (K.map fun k => (f k).toNat).sum
theorem sumK_le {f g : List Str → Int} : ∀ {K : List (List Str)}, (∀ k ∈ K, f k ≤ g k) → sumK K f ≤ sumK K g
  | [], _ => Nat.le_refl _
  | a :: r, h => by
    have := sumK_le (K := r) fun k hk => h k (List.mem_cons_of_mem _ hk)
    have := h a List.mem_cons_self
    unfold sumK at *
    simp only [List.map_cons, List.sum_cons]
    omega
theorem sumK_lt {f g : List Str → Int} {j : List Str} : ∀ {K : List (List Str)}, (∀ k ∈ K, f k ≤ g k) → (∀ k ∈ K, 0 ≤ f k) → j ∈ K → f j < g j → sumK K f < sumK K g
  | [], _, _, h, _ => nomatch h
  | a :: r, h, h0, hj, hlt => by
    have h1 := sumK_le (K := r) fun k hk => h k (List.mem_cons_of_mem _ hk)
    have h2 := h a List.mem_cons_self
    have h3 := h0 a List.mem_cons_self
    rcases List.mem_cons.mp hj with rfl | hj
    · unfold sumK at *
      simp only [List.map_cons, List.sum_cons]
      omega
    · have := sumK_lt (K := r) (fun k hk => h k (List.mem_cons_of_mem _ hk)) (fun k hk => h0 k (List.mem_cons_of_mem _ hk)) hj hlt
      unfold sumK at *
      simp only [List.map_cons, List.sum_cons]
      omega
theorem sumK_top {f : List Str → Int} {c : Nat} : ∀ {K : List (List Str)}, (∀ k ∈ K, f k ≤ c) → sumK K f ≤ K.length * c
  | [], _ => Nat.zero_le _
  | a :: r, h => by
    have := sumK_top (K := r) fun k hk => h k (List.mem_cons_of_mem _ hk)
    have := h a List.mem_cons_self
    unfold sumK at *
    simp only [List.map_cons, List.sum_cons, List.length_cons, Nat.succ_mul]
    omega
section
variable {X : D → Hm → Prop} {h : Hm} {Q : D → Hm → Prop}
theorem set_id {n : Nat} {o : HD} (e : h[n]? = some o) : h.set n o = h := by
  apply List.ext_getElem?
  intro i
  by_cases c : n = i
  · subst c; rw [List.getElem?_set_self (List.getElem?_eq_some_iff.mp e).1, e]
  · rw [List.getElem?_set_ne c]
theorem set3 {f d : Nat} (hfd : f ≠ d) (x y w : HD) : ((h.set f x).set d y).set f w = (h.set f w).set d y := by
  rw [List.set_comm _ _ hfd, List.set_set, List.set_comm _ _ (Ne.symm hfd)]
theorem web_keys {room : Int} {us : List Str} {K : List (List Str)} : (webL room us K).map (·.1) = K.map keyS := by
  rw [keys_mkK, List.map_map]; simp
theorem lessened {room : Int} {us : List Str} {K : List (List Str)} {F : List Str → Int} {A : List Str → Int → Prop} {f d : Nat} (z : Szs room us) (C : Kc room us K) (ef : h[f]? = some (tabD K F)) (ed : h[d]? = some (.dtt (webL room us K)))
    (hA : ∀ k ∈ K, A k (F k)) (hs : ∀ k ∈ K, ∀ e ∈ edgesP room us k, ∀ c, A e.1 c → A k (e.2.1 + c)) (hA0 : ∀ k c, A k c → 0 ≤ c) (hb : ∀ k ∈ K, F k ≤ 4000)
    (q : ∀ G, (∀ k ∈ K, A k (G k)) → (∀ k ∈ K, G k ≤ F k) → (∀ k ∈ K, ∀ e ∈ edgesP room us k, G k ≤ e.2.1 + G e.1) → Q (.ref f) (h.set f (tabD K G))) : Sat (m_lessened [.ref f, .ref d] h) Q := by
  have hfd : f ≠ d := fun e => by
    subst e
    rw [ef] at ed
    have ed := Option.some.inj ed
    injection ed with ed
    have := C.nil
    cases K with
    | nil => cases this
    | cons a r => cases ed
  have hKl := keys_le z C.nd C.ok
  have hlf : f < h.length := (List.getElem?_eq_some_iff.mp ef).1
  have hld : d < h.length := (List.getElem?_eq_some_iff.mp ed).1
  refine sa_fn rfl ?_
  unfold m_lessened_b
  simp only [List.map_cons, List.map_nil, List.replicate, Nat.reduceSub, List.cons_append, List.nil_append]
  array_get_dec
  refine ss_whN (fun m v h' => ∃ (G : List Str → Int) (ag : Bool) (x3 x4 x5 x6 x7 : Option D), v = [some (.ref f), some (.ref d), some (.bl ag), x3, x4, x5, x6, x7] ∧ h' = h.set f (tabD K G) ∧ (∀ k ∈ K, A k (G k)) ∧ (∀ k ∈ K, G k ≤ F k) ∧ (ag = false → ∀ k ∈ K, ∀ e ∈ edgesP room us k, G k ≤ e.2.1 + G e.1) ∧ m = 2 * sumK K G + ag.toNat) (2 * sumK K F + 1)
    ⟨F, true, none, none, none, none, none, rfl, (set_id ef).symm, hA, fun _ _ => Int.le_refl _, (fun c => nomatch c), rfl⟩ (by have := sumK_top (c := 4000) hb; omega) ?_
  rintro m v h' ⟨G, ag, x3, x4, x5, x6, x7, rfl, rfl, gA, gF, gc, rfl⟩
  array_get_dec
  refine ⟨fun hag => ?_, fun hag => ?_⟩
  · subst hag
    array_get_dec
    have e2 : (h.set f (tabD K G))[d]? = some (.dtt (webL room us K)) := by rw [List.getElem?_set_ne hfd, ed]
    have rd : ∀ G' : List Str → Int, ((h.set f (tabD K G')).set d (.lct (webL room us K)))[d]? = some (.lct (webL room us K)) := fun G' => List.getElem?_set_self (by rw [List.length_set]; exact hld)
    have rf : ∀ G' : List Str → Int, ((h.set f (tabD K G')).set d (.lct (webL room us K)))[f]? = some (tabD K G') := fun G' => by rw [List.getElem?_set_ne (Ne.symm hfd), List.getElem?_set_self hlf]
    refine ss_lockT (n := d) (by array_get_dec; rfl) e2 ?_
    refine ss_for ?_
    refine sa_wDkT (n := d) (l := webL room us K) ?_
    array_get_dec
    refine ⟨rfl, rd G, fun i v h' => ∃ (G' : List Str → Int) (ch : Bool) (x3 x4 x5 x6 x7 : Option D), v = [some (.ref f), some (.ref d), some (.bl ch), x3, x4, x5, x6, x7] ∧ h' = (h.set f (tabD K G')).set d (.lct (webL room us K)) ∧ (∀ k ∈ K, A k (G' k)) ∧ (∀ k ∈ K, G' k ≤ G k) ∧ (ch = false → G' = G ∧ ∀ k ∈ K.take i, ∀ e ∈ edgesP room us k, G k ≤ e.2.1 + G e.1) ∧ (ch = true → sumK K G' < sumK K G),
      ⟨G, false, _, _, _, _, _, rfl, rfl, gA, fun _ _ => Int.le_refl _, (fun _ => ⟨rfl, by simp⟩), (fun c => nomatch c)⟩, ?_, ?_⟩
    · rintro i x v h' hx ⟨G', ch, y3, y4, y5, y6, y7, rfl, rfl, a1, a2, a3, a4⟩
      refine ⟨chkD_of (rd G'), ?_⟩
      rw [web_keys, List.getElem?_map] at hx
      obtain ⟨k, hk, rfl⟩ := Option.map_eq_some_iff.mp hx
      have hkm := List.mem_of_getElem? hk
      refine ⟨_, rfl, ?_⟩
      simp only [List.set_cons_zero, List.set_cons_succ]
      array_get_dec
      refine so_ixTab (rf G') hkm ?_
      array_get_dec
      refine sa_LcE (h1 := (h.set f (tabD K G')).set d (.lct (webL room us K))) (edgesP room us k) edD (fun e => [some (.ref f), some (.ref d), some (.bl ch), some (keyS k), y4, some (keyS e.1), some (.int e.2.1), some e.2.2]) (fun _ => true) (fun e => .int (e.2.1 + G' e.1)) (by have := edges_len z (C.ok k hkm); omega) ?_ ?_ ?_ ?_ ?_
      · array_get_dec
        refine so_ixWeb (.inr (rd G')) hkm ?_
        exact so_wkL ⟨rfl, rfl, rfl⟩
      · intro e he; rfl
      · intro e he P p
        exact sa_tYes p
      · intro e he _ P p
        array_get_dec
        refine so_ixTab (rf G') (C.cl k hkm e he) ?_
        array_get_dec
        exact p
      · have hel := edges_len z (C.ok k hkm)
        array_get_dec
        have ft : (edgesP room us k).filter (fun _ => true) = edgesP room us k := List.filter_eq_self.mpr fun _ _ => rfl
        rw [ft]
        refine so_addL (by simp; omega) ?_
        array_get_dec
        have el : [D.int (G' k)] ++ (edgesP room us k).map (fun e => D.int (e.2.1 + G' e.1)) = (G' k :: (edgesP room us k).map fun e => e.2.1 + G' e.1).map D.int := by
          rw [List.map_cons, List.map_map]; rfl
        rw [el]
        refine so_minL (by simp) ?_
        obtain ⟨m1, m2⟩ := mnL_mem (l := G' k :: (edgesP room us k).map fun e => e.2.1 + G' e.1) (by simp)
        generalize mnL (G' k :: (edgesP room us k).map fun e => e.2.1 + G' e.1) = best at m1 m2
        array_get_dec
        refine so_ixTab (rf G') hkm ?_
        array_get_dec
        refine ⟨fun hc => ?_, fun hc => ?_⟩
        · have hc := of_decide_eq_true hc
          array_get_dec
          refine ss_putN ?_
          array_get_dec
          refine so_putNT (rf G') (by simp [mkK]; omega) keyTS ?_
          rw [tPut_mkK D.int k best, kput_old hkm, set3 hfd]
          array_get_dec
          have hle : ∀ j ∈ K, (if j = k then best else G' j) ≤ G' j := fun j _ => by
            by_cases e : j = k
            · rw [if_pos e, e]; omega
            · rw [if_neg e]; exact Int.le_refl _
          have hAb : A k best := by
            rcases List.mem_cons.mp m1 with e | m1
            · omega
            · obtain ⟨e, he, rfl⟩ := List.mem_map.mp m1
              exact hs k hkm e he _ (a1 _ (C.cl k hkm e he))
          have hA' : ∀ j ∈ K, A j (if j = k then best else G' j) := fun j hj => by
            by_cases e : j = k
            · rw [if_pos e, e]; exact hAb
            · rw [if_neg e]; exact a1 j hj
          refine ⟨fun j => if j = k then best else G' j, true, _, _, _, _, _, rfl, rfl, hA', fun j hj => Int.le_trans (hle j hj) (a2 j hj), (fun c => nomatch c), fun _ => ?_⟩
          have h1 := sumK_lt (f := fun j => if j = k then best else G' j) (g := G') (K := K) hle (fun j hj => hA0 _ _ (hA' j hj)) hkm (by rw [if_pos rfl]; exact hc)
          have h2 := sumK_le (f := G') (g := G) (K := K) a2
          omega
        · have hc := of_decide_eq_false hc
          refine ss_nx ⟨G', ch, _, _, _, _, _, rfl, rfl, a1, a2, fun c => ?_, a4⟩
          obtain ⟨b1, b2⟩ := a3 c
          refine ⟨b1, fun j hj e he => ?_⟩
          rw [take_succ_get hk] at hj
          rcases List.mem_append.mp hj with hj | hj
          · exact b2 j hj e he
          · rw [List.mem_singleton.mp hj] at he ⊢
            have := m2 _ (List.mem_cons_of_mem _ (List.mem_map_of_mem (f := fun e : Edge => e.2.1 + G' e.1) he))
            rw [← b1]
            omega
    · rintro v h' ⟨G', ch, y3, y4, y5, y6, y7, rfl, rfl, a1, a2, a3, a4⟩
      refine ⟨chkD_of (rd G'), ?_⟩
      have e3 : ((h.set f (tabD K G')).set d (.lct (webL room us K))).set d (.dtt (webL room us K)) = h.set f (tabD K G') := by
        rw [List.set_set]
        exact set_id (by rw [List.getElem?_set_ne hfd, ed])
      rw [web_keys, List.length_map, List.take_length] at a3
      refine ⟨_, rd G', ?_⟩
      rw [e3]
      refine ⟨2 * sumK K G' + ch.toNat, ?_, G', ch, _, _, _, _, _, rfl, rfl, a1, fun k hk => Int.le_trans (a2 k hk) (gF k hk), fun c k hk e he => ?_, rfl⟩
      · cases ch with
        | true => have := a4 rfl; simp; omega
        | false => obtain ⟨b1, _⟩ := a3 rfl; rw [b1]; simp
      · obtain ⟨b1, b2⟩ := a3 c
        rw [b1]; exact b2 k hk e he
  · subst hag
    array_get_dec
    exact q G gA gF (gc rfl)
end
section
variable {X : D → Hm → Prop} {h : Hm} {Q : D → Hm → Prop}
/-- a dict filled along the keys of another -/
theorem ss_fill {v : Ev} {iD iC iK : Nat} {e : EM} {N : Ev → Hm → Prop} {T : D → Hm → Prop} {B G : Ev → Hm → Prop} {Y : D → Ev → Hm → Prop} (K : List (List Str)) (f : List Str → Int) {d c : Nat} {l : List (D × D)} (hv1 : v[iD]? = some (some (.ref d))) (hv2 : v[iC]? = some (some (.ref c))) (h1 : iK ≠ iD) (h2 : iK ≠ iC) (h3 : iK < v.length)
    (hd : h[d]? = some (.dtt l)) (hl : l.map (·.1) = K.map keyS) (hc : h[c]? = some (.dtt [])) (hcd : c ≠ d) (nd : K.Nodup) (hK : K.length ≤ 1000)
    (he : ∀ k ∈ K, ∀ h' : Hm, (∀ n, n ≠ c → n ≠ d → h'[n]? = h[n]?) → h'[d]? = some (.lct l) → ∀ P : D → Hm → Prop, P (.int (f k)) h' → Sat (e (v.set iK (some (keyS k))) h') P)
    (q : ∀ x, N (v.set iK x) (h.set c (tabD K f))) : SatSX Y (sLock (eV iD) (sFor (gN iK) (wDk (eV iD)) (sPutN (eV iC) (eV iK) e)) v h) N T B G := by
  have hlc : c < h.length := (List.getElem?_eq_some_iff.mp hc).1
  have hld : d < h.length := (List.getElem?_eq_some_iff.mp hd).1
  have rd : ∀ o, ((h.set c o).set d (.lct l))[d]? = some (.lct l) := fun o => List.getElem?_set_self (by rw [List.length_set]; exact hld)
  have rc : ∀ o, ((h.set c o).set d (.lct l))[c]? = some o := fun o => by rw [List.getElem?_set_ne (Ne.symm hcd), List.getElem?_set_self hlc]
  have ro : ∀ o n, n ≠ c → n ≠ d → ((h.set c o).set d (.lct l))[n]? = h[n]? := fun o n a b => by rw [List.getElem?_set_ne (Ne.symm b), List.getElem?_set_ne (Ne.symm a)]
  have e0 : h.set d (.lct l) = (h.set c (.dtt [])).set d (.lct l) := by rw [set_id hc]
  refine ss_lockT (n := d) (sa_V hv1 rfl) hd ?_
  rw [e0]
  refine ss_for ?_
  refine sa_wDkT (n := d) (l := l) (sa_V hv1 ⟨rfl, rd _, ?_⟩)
  refine ⟨fun i v' h' => (∃ x, v' = v.set iK x) ∧ h' = (h.set c (.dtt (mkK D.int ((K.take i).map fun k => (k, f k))))).set d (.lct l), ⟨⟨v[iK], by rw [List.set_getElem_self]⟩, rfl⟩, ?_, ?_⟩
  · rintro i x v' h' hx ⟨⟨y, rfl⟩, rfl⟩
    have hx : (l.map (·.1))[i]? = some x := hx
    rw [hl, List.getElem?_map] at hx
    obtain ⟨k, hk, rfl⟩ := Option.map_eq_some_iff.mp hx
    have hkm := List.mem_of_getElem? hk
    have hil := (List.getElem?_eq_some_iff.mp hk).1
    refine ⟨chkD_of (rd _), _, rfl, ?_⟩
    rw [List.set_set]
    refine ss_putN ?_
    refine SatX.w (he k hkm _ (ro _) (rd _) _ ?_)
    refine sa_V (d := .ref c) (by rw [List.getElem?_set_ne h2]; exact hv2) ?_
    refine sa_V (d := keyS k) (by rw [List.getElem?_set_self h3]) ?_
    have hnk : k ∉ K.take i := fun hm => by
      have n2 : (K.take (i + 1)).Nodup := nd.sublist (List.take_sublist _ _)
      rw [take_succ_get hk] at n2
      exact (List.nodup_append.mp n2).2.2 k hm k (List.mem_singleton.mpr rfl) rfl
    refine so_putNT (rc _) (by simp [mkK]; omega) keyTS ?_
    refine ⟨⟨_, rfl⟩, ?_⟩
    rw [tPut_mkK D.int k (f k), kput_new hnk, set3 hcd, take_succ_get hk, List.map_append]
    rfl
  · rintro v' h' ⟨⟨y, rfl⟩, rfl⟩
    refine ⟨chkD_of (rd _), ?_⟩
    have e1 : (l.map (·.1)).length = K.length := by rw [hl, List.length_map]
    rw [e1, List.take_length]
    refine ⟨l, rd _, ?_⟩
    rw [List.set_set, set_id (n := d) (o := .dtt l) (h := h.set c _) (by rw [List.getElem?_set_ne hcd]; exact hd)]
    exact q y
/-- what holds of the layers from a place on -/
structure Lay (room : Int) (us row : List Str) (K : List (List Str)) (m : Nat) (F : Nat → List Str → Int) : Prop where
  d : ∀ p, m ≤ p → p < row.length → ∀ k ∈ K, ∀ e ∈ edgesP room us k, F p k ≤ e.2.1 + F p e.1
  t : ∀ p w, m ≤ p → row[p]? = some w → ∀ k ∈ K, ∀ t ∈ tellsP k w, F p k ≤ t.1 + F (p + 1) k
  z : ∀ k ∈ K, F row.length k = 0
  att : ∀ p, m ≤ p → p ≤ row.length → Att room us row K p (F p)
  b : ∀ p, m ≤ p → p ≤ row.length → ∀ k ∈ K, F p k ≤ 13 * ((row.length : Int) - p)
theorem Lay.low {room : Int} {us row : List Str} {K : List (List Str)} {F : Nat → List Str → Int} (L : Lay room us row K 0 F) (C : Kc room us K) : Low room us row K F :=
  ⟨C.nil, C.ok, C.cl, fun p hp => L.d p (Nat.zero_le _) hp, fun p w hw => L.t p w (Nat.zero_le _) hw, fun k hk => by rw [L.z k hk]; exact Int.le_refl _⟩
theorem Lay.step {room : Int} {us row : List Str} {K : List (List Str)} {F : Nat → List Str → Int} {m : Nat} {w : Str} {G : List Str → Int} (L : Lay room us row K (m + 1) F) (hw : row[m]? = some w)
    (h1 : ∀ k ∈ K, ∃ l k2, Pth room us row k m l (G k) k2 row.length) (h2 : ∀ k ∈ K, ∀ t ∈ tellsP k w, G k ≤ t.1 + F (m + 1) k) (h3 : ∀ k ∈ K, ∀ e ∈ edgesP room us k, G k ≤ e.2.1 + G e.1) (h4 : IsW w) : Lay room us row K m fun p => if p = m then G else F p := by
  have hm := (List.getElem?_eq_some_iff.mp hw).1
  have ne : row.length ≠ m := by omega
  refine ⟨fun p hp hl k hk e he => ?_, fun p u hp hu k hk t ht => ?_, fun k hk => ?_, fun p hp hl k hk => ?_, fun p hp hl k hk => ?_⟩
  · by_cases c : p = m
    · subst c; simp only [if_true]; exact h3 k hk e he
    · simp only [if_neg c]; exact L.d p (by omega) hl k hk e he
  · by_cases c : p = m
    · subst c
      rw [hw] at hu
      cases hu
      simp only [if_true, if_neg (show ¬ p + 1 = p by omega)]
      exact h2 k hk t ht
    · simp only [if_neg c, if_neg (show ¬ p + 1 = m by omega)]
      exact L.t p u (by omega) hu k hk t ht
  · simp only [if_neg ne]; exact L.z k hk
  · by_cases c : p = m
    · subst c; simp only [if_true]; exact h1 k hk
    · simp only [if_neg c]; exact L.att p (by omega) hl k hk
  · by_cases c : p = m
    · subst c
      simp only [if_true]
      have a := h2 k hk _ (mem_tells.mpr (.inl rfl))
      have b := L.b (p + 1) (Nat.le_refl _) (by omega) k hk
      have := h4.len
      simp only at a
      omega
    · simp only [if_neg c]; exact L.b p (by omega) hl k hk
/-- the layers on the heap -/
structure LayH (h0 : Nat) (K : List (List Str)) (a d : Nat) (refs : List D) (m n : Nat) (F : Nat → List Str → Int) (h : Hm) : Prop where
  at_ : h[a]? = some (.lst refs)
  len : refs.length + m = n + 1
  rs : ∀ j, m + j ≤ n → ∃ r, refs[j]? = some (.ref r) ∧ h0 ≤ r ∧ r ≠ a ∧ r ≠ d ∧ h[r]? = some (tabD K (F (m + j)))
theorem tells_len (k : List Str) (w : Str) : (tellsP k w).length ≤ k.length + 1 := by
  have h1 := List.length_filter_le (fun p : Nat × Str => decide (p.2 = w)) (k.mapIdx fun i x => (i, x))
  unfold tellsP
  simp only [List.length_cons, List.length_map, List.length_mapIdx] at h1 ⊢
  omega
theorem tells_min {k : List Str} {w : Str} : mnL ((tellsP k w).map (·.1)) ∈ (tellsP k w).map (·.1) ∧ ∀ t ∈ tellsP k w, mnL ((tellsP k w).map (·.1)) ≤ t.1 := by
  obtain ⟨h1, h2⟩ := mnL_mem (l := (tellsP k w).map (·.1)) (by unfold tellsP; simp)
  exact ⟨h1, fun t ht => h2 _ (List.mem_map_of_mem ht)⟩
theorem so_wkRev {l : List D} {Q : Wk → Hm → Prop} (q : Q ⟨l.reverse, fun _ => true⟩ h) : SatX X (wRevOf (.lst l) h) Q := ⟨q⟩
theorem sa_wRev {e : EM} {v : Ev} {Q : Wk → Hm → Prop} (s : SatX X (e v h) fun x h1 => SatX X (wRevOf x h1) Q) : SatX X (wRev e v h) Q := SatX.bind s
theorem so_insert0 {n : Nat} {l : List D} {x : D} (e : h[n]? = some (.lst l)) (hl : l.length < 16777216) (q : Q .non (h.set n (.lst (x :: l)))) : SatX X (mInsert (.ref n) [.int 0, x] h) Q := by
  unfold mInsert
  simp only [e, hl, if_pos (show l.length < 16777216 ∧ (0 : Int) ≤ 0 ∧ (0 : Int) < 2 ^ 62 by omega)]
  exact ⟨q⟩
theorem app_old {h r : Hm} {n : Nat} {o : HD} (e : h[n]? = some o) : (h ++ r)[n]? = some o := by
  rw [List.getElem?_append_left (List.getElem?_eq_some_iff.mp e).1]; exact e
theorem layers {room : Int} {row : List Str} (z : Szs room (ssT row)) (hr : Words row) (hrl : row.length ≤ 100)
    (q : ∀ K F refs a d h', Kc room (ssT row) K → Lay room (ssT row) row K 0 F → h.length ≤ h'.length → (∀ n, n < h.length → h'[n]? = h[n]?) → h.length ≤ a → h.length ≤ d → h'[d]? = some (.dtt (webL room (ssT row) K)) → LayH h.length K a d refs 0 row.length F h' → Q (.tup [.ref a, .ref d]) h') : Sat (m_layers [.int room, .lst (row.map D.str)] h) Q := by
  refine sa_fn rfl ?_
  unfold m_layers_b
  simp only [List.map_cons, List.map_nil, List.replicate, Nat.reduceSub, List.cons_append, List.nil_append]
  array_get_dec
  refine all_deeds z hr (by omega) fun K sk => ?_
  have C := sk.kc
  have hKl := keys_le z C.nd C.ok
  have hus := sset_words hr
  array_get_dec
  refine sa_dctT ?_
  array_get_dec
  have ek : h ++ [HD.dtt (webL room (ssT row) K), .lst []] ++ [HD.dtt []] = h ++ [.dtt (webL room (ssT row) K), .lst [], .dtt []] := by simp
  have en : (h ++ [HD.dtt (webL room (ssT row) K), .lst []]).length = h.length + 2 := by simp
  rw [ek, en]
  have g0 : (h ++ [HD.dtt (webL room (ssT row) K), .lst [], .dtt []])[h.length]? = some (.dtt (webL room (ssT row) K)) := by simp
  have g2 : (h ++ [HD.dtt (webL room (ssT row) K), .lst [], .dtt []])[h.length + 2]? = some (.dtt []) := by rw [List.getElem?_append_right (by omega)]; simp
  refine ss_fill (c := h.length + 2) K (fun _ => 0) rfl rfl (by decide) (by decide) (by show 4 < 10; omega) g0 web_keys g2 (by omega) C.nd (by omega) (fun k hk h' _ _ P p => by
    array_get_dec
    exact p) ?_
  intro x4
  simp only [List.set_cons_zero, List.set_cons_succ]
  array_get_dec
  have e1 : (h ++ [HD.dtt (webL room (ssT row) K), .lst [], .dtt []]).set (h.length + 2) (tabD K fun _ => 0) = h ++ [HD.dtt (webL room (ssT row) K), .lst [], tabD K fun _ => 0] := by
    rw [List.set_append_right _ _ (by omega)]; simp
  rw [e1]
  have e2 : h ++ [HD.dtt (webL room (ssT row) K), .lst [], tabD K fun _ => 0] ++ [.lst [.ref (h.length + 2)]] = h ++ [HD.dtt (webL room (ssT row) K), .lst [], tabD K (fun _ => 0), .lst [.ref (h.length + 2)]] := by simp
  have en2 : (h ++ [HD.dtt (webL room (ssT row) K), .lst [], tabD K fun _ => 0]).length = h.length + 3 := by simp
  rw [e2, en2]
  refine ss_forL (l := (row.map D.str).reverse) (fun i v h' => ∃ (F : Nat → List Str → Int) (refs : List D) (x4 x6 x7 x8 x9 : Option D), v = [some (.int room), some (.lst (row.map D.str)), some (.ref h.length), some (.ref (h.length + 2)), x4, some (.ref (h.length + 3)), x6, x7, x8, x9] ∧ i ≤ row.length ∧
      h.length + 4 ≤ h'.length ∧ (∀ n, n < h.length → h'[n]? = h[n]?) ∧ h'[h.length]? = some (.dtt (webL room (ssT row) K)) ∧ Lay room (ssT row) row K (row.length - i) F ∧ LayH h.length K (h.length + 3) h.length refs (row.length - i) row.length F h') (by
    array_get_dec
    exact sa_wRev (by
      array_get_dec
      exact so_wkRev ⟨rfl, rfl⟩)) ⟨fun _ _ => 0, [.ref (h.length + 2)], x4, none, none, none, none, rfl, Nat.zero_le _, by simp, fun n hn => by rw [List.getElem?_append_left hn], by simp, ⟨fun p hp hl => by omega, fun p w hp hw => by
      have := (List.getElem?_eq_some_iff.mp hw).1
      omega, fun _ _ => rfl, fun p hp hl k hk => ?_, fun p hp hl k hk => by show (0 : Int) ≤ _; omega⟩, ⟨by rw [List.getElem?_append_right (by omega)]; simp, by simp; omega, fun j hj => ⟨h.length + 2, ?_, by omega, by omega, by omega, ?_⟩⟩⟩ ?_ ?_
  · have : p = row.length := by omega
    subst this
    exact ⟨[], k, .nil _ _⟩
  · have : j = 0 := by omega
    subst this; rfl
  · have : j = 0 := by omega
    subst this
    rw [List.getElem?_append_right (by omega)]; simp
  · rintro i x v h' hx ⟨F, refs, y4, y6, y7, y8, y9, rfl, hi, hlen, hold, hd, L, H⟩
    have hx : (row.map D.str).reverse[i]? = some x := hx
    have hil : i < row.length := by
      have := (List.getElem?_eq_some_iff.mp hx).1
      simpa using this
    rw [List.getElem?_reverse (by simpa using hil)] at hx
    obtain ⟨w, hw, rfl⟩ := str_get hx
    rw [List.length_map] at hw
    obtain ⟨m, em⟩ : ∃ m, row.length - i = m + 1 := ⟨row.length - i - 1, by omega⟩
    rw [show row.length - 1 - i = m by omega] at hw
    rw [em] at L H
    have hm := (List.getElem?_eq_some_iff.mp hw).1
    have iw := hr w (List.mem_of_getElem? hw)
    refine ⟨_, rfl, ?_⟩
    simp only [List.set_cons_zero, List.set_cons_succ]
    array_get_dec
    refine sa_dctT ?_
    array_get_dec
    have hk200 : ∀ k ∈ K, Words k ∧ sumW k ≤ 200 := fun k hk => ⟨(C.ok k hk).words hus, by have := (C.ok k hk).sum; have := z.r1; omega⟩
    obtain ⟨r0, f1, f2, f3, f4, f5⟩ := H.rs 0 (by omega)
    rw [Nat.add_zero] at f5
    have hr0 := (List.getElem?_eq_some_iff.mp f5).1
    refine ss_fill (c := h'.length) K (fun k => F (m + 1) k + mnL ((tellsP k w).map (·.1))) rfl rfl (by decide) (by decide) (by show 4 < 10; omega) (app_old hd) web_keys (by simp) (by omega) C.nd (by omega) (fun k hk h2 ho hd2 P p => ?_) ?_
    · simp only [List.set_cons_zero, List.set_cons_succ]
      have ga : h2[h.length + 3]? = some (.lst refs) := by rw [ho _ (by omega) (by omega)]; exact app_old H.at_
      have gr : h2[r0]? = some (tabD K (F (m + 1))) := by rw [ho _ (by omega) f4]; exact app_old f5
      array_get_dec
      refine so_ixNR ga (so_ixR ga (d := .ref r0) (by have := atI_nat f1; exact this) ?_)
      array_get_dec
      refine so_ixTab gr hk ?_
      array_get_dec
      refine sa_LcE (h1 := h2) (tellsP k w) tD (fun t => [some (.int room), some (.lst (row.map D.str)), some (.ref h.length), some (.ref (h.length + 2)), some (keyS k), some (.ref (h.length + 3)), some (.str w), some (.ref h'.length), some (.int t.1), some t.2]) (fun _ => true) (fun t => .int t.1) (by
        have := tells_len k w
        have := (C.ok k hk).len z
        omega) ?_ ?_ ?_ ?_ ?_
      · array_get_dec
        refine tells_at (hk200 k hk).1 (hk200 k hk).2 iw ?_
        exact so_wkL ⟨rfl, rfl, rfl⟩
      · intro t ht; rfl
      · intro t ht P p
        exact sa_tYes p
      · intro t ht _ P p
        array_get_dec
        exact p
      · have ft : (tellsP k w).filter (fun _ => true) = tellsP k w := List.filter_eq_self.mpr fun _ _ => rfl
        rw [ft, show (tellsP k w).map (fun t => D.int t.1) = ((tellsP k w).map (·.1)).map D.int by rw [List.map_map]; rfl]
        array_get_dec
        refine so_minL (by unfold tellsP; simp) ?_
        array_get_dec
        exact p
    · intro x4
      simp only [List.set_cons_zero, List.set_cons_succ]
      rw [set_last]
      array_get_dec
      refine ⟨rcR (app_old H.at_), ?_⟩
      array_get_dec
      refine lessened (K := K) (A := fun k c => ∃ l k2, Pth room (ssT row) row k m l c k2 row.length) (d := h.length) z C get_last (app_old hd) (fun k hk => ?_) (fun k hk e he c ⟨l, k2, hp⟩ => ⟨_, k2, .deed he hm hp⟩) (fun k c ⟨l, k2, hp⟩ => hp.pos) (fun k hk => ?_) fun G g1 g2 g3 => ?_
      · obtain ⟨m1, _⟩ := tells_min (k := k) (w := w)
        obtain ⟨t, ht, et⟩ := List.mem_map.mp m1
        obtain ⟨l, k2, hp⟩ := L.att (m + 1) (Nat.le_refl _) (by omega) k hk
        refine ⟨t.2 :: l, k2, ?_⟩
        show Pth room (ssT row) row k m (t.2 :: l) (F (m + 1) k + mnL ((tellsP k w).map (·.1))) k2 row.length
        rw [← et, Int.add_comm]
        exact .tell hw ht hp
      · have a := (tells_min (k := k) (w := w)).2 _ (mem_tells.mpr (.inl rfl))
        have b := L.b (m + 1) (Nat.le_refl _) (by omega) k hk
        have := iw.len
        simp only at a
        show F (m + 1) k + mnL ((tellsP k w).map (·.1)) ≤ 4000
        omega
      · rw [set_last]
        array_get_dec
        refine so_insert0 (app_old H.at_) (by have := H.len; omega) ?_
        have ne3 : h.length + 3 ≠ h.length := by omega
        refine ⟨fun p => if p = m then G else F p, .ref h'.length :: refs, _, _, _, _, _, rfl, by omega, by simp; omega, fun n hn => ?_, ?_, ?_, ?_⟩
        · rw [List.getElem?_set_ne (by omega), List.getElem?_append_left (by omega)]
          exact hold n hn
        · rw [List.getElem?_set_ne ne3]; exact app_old hd
        · rw [show row.length - (i + 1) = m by omega]
          refine L.step hw g1 (fun k hk t ht => ?_) g3 iw
          have a : G k ≤ F (m + 1) k + mnL ((tellsP k w).map (·.1)) := g2 k hk
          have b := (tells_min (k := k) (w := w)).2 t ht
          omega
        · rw [show row.length - (i + 1) = m by omega]
          have hl := H.len
          refine ⟨List.getElem?_set_self (by simp; omega), by simp; omega, fun j hj => ?_⟩
          cases j with
          | zero =>
            refine ⟨h'.length, rfl, by omega, by omega, by omega, ?_⟩
            rw [List.getElem?_set_ne (by omega), Nat.add_zero]
            simp
          | succ j =>
            obtain ⟨r, q1, q2, q3, q4, q5⟩ := H.rs j (by omega)
            refine ⟨r, q1, q2, q3, q4, ?_⟩
            rw [List.getElem?_set_ne (Ne.symm q3), app_old q5, show m + 1 + j = m + (j + 1) by omega]
            simp only [if_neg (show ¬ m + (j + 1) = m by omega)]
  · rintro v h' ⟨F, refs, y4, y6, y7, y8, y9, rfl, hi, hlen, hold, hd, L, H⟩
    array_get_dec
    rw [List.length_reverse, List.length_map, Nat.sub_self] at L H
    exact q K F refs (h.length + 3) h.length h' C L (by omega) hold (by omega) (Nat.le_refl _) hd H
end
theorem Pth.one_deed {room : Int} {us row k : List Str} {p : Nat} {e : Edge} (he : e ∈ edgesP room us k) (hp : p < row.length) : Pth room us row k p [e.2.2] (e.2.1 + 0) e.1 p := .deed he hp (.nil _ _)
theorem Pth.one_tell {room : Int} {us row k : List Str} {p : Nat} {w : Str} {t : Int × D} (hw : row[p]? = some w) (ht : t ∈ tellsP k w) : Pth room us row k p [t.2] (t.1 + 0) k (p + 1) := .tell hw ht (.nil _ _)
theorem Pth.step_cl {n : Nat} {room : Int} {us row k k2 : List Str} {p p2 : Nat} {l : List D} {c : Int} (r : Pth room us row k p l c k2 p2) : ∀ x ∈ l, D.cl n x = true := by
  induction r with
  | nil => intro x hx; cases hx
  | deed he hp _ ih =>
    intro x hx
    rcases List.mem_cons.mp hx with rfl | hx
    · rcases mem_edges.mp he with ⟨w, _, _, rfl⟩ | ⟨i, w, _, rfl⟩ <;> rfl
    · exact ih x hx
  | tell hw ht _ ih =>
    intro x hx
    rcases List.mem_cons.mp hx with rfl | hx
    · rcases mem_tells.mp ht with rfl | ⟨i, _, rfl⟩ <;> rfl
    · exact ih x hx
theorem Lay.pos {room : Int} {us row : List Str} {K : List (List Str)} {F : Nat → List Str → Int} (L : Lay room us row K 0 F) {p : Nat} {k : List Str} (hp : p ≤ row.length) (hk : k ∈ K) : 0 ≤ F p k := by
  obtain ⟨l, k2, r⟩ := L.att p (Nat.zero_le _) hp k hk
  exact r.pos
/-- where no telling is as cheap as the floor, a deed is -/
theorem Lay.edge {room : Int} {us row : List Str} {K : List (List Str)} {F : Nat → List Str → Int} (L : Lay room us row K 0 F) (C : Kc room us K) {p : Nat} {k : List Str} {w : Str} {t : Int × D} (hw : row[p]? = some w) (hk : k ∈ K) (ht : ∀ u ∈ tellsP k w, t.1 ≤ u.1) (hlt : F p k < F (p + 1) k + t.1) : ∃ e ∈ edgesP room us k, e.2.1 + F p e.1 = F p k := by
  have hp := (List.getElem?_eq_some_iff.mp hw).1
  obtain ⟨l, k2, r⟩ := L.att p (Nat.zero_le _) (by omega) k hk
  have Lo := L.low C
  generalize hn : row.length = n at r
  generalize hc : F p k = c at r
  cases r with
  | nil => omega
  | deed he hp2 r =>
    subst hn
    obtain ⟨i1, i2⟩ := Lo.path r (C.cl k hk _ he)
    have i3 := L.z k2 i2
    have := L.d p (Nat.zero_le _) hp k hk _ he
    exact ⟨_, he, by omega⟩
  | tell hw2 ht2 r =>
    subst hn
    rw [hw] at hw2
    cases hw2
    obtain ⟨i1, i2⟩ := Lo.path r hk
    have i3 := L.z k2 i2
    have := ht _ ht2
    omega
section
variable {X : D → Hm → Prop} {h : Hm} {Q : D → Hm → Prop}
theorem so_found {h0 : Nat} {K : List (List Str)} {a d : Nat} {refs : List D} {n : Nat} {F : Nat → List Str → Int} (H : LayH h0 K a d refs 0 n F h) {p : Nat} {i : Int} {h1 : Hm} (hp : p ≤ n) (hi : i = (p : Int)) (ho : ∀ (m : Nat) (o : HD), h[m]? = some o → h1[m]? = some o) (q : ∀ r : Nat, h1[r]? = some (tabD K (F p)) → Q (.ref r) h1) : SatX X (opIxN (.ref a) (.int i) h1) Q := by
  obtain ⟨r, f1, f2, f3, f4, f5⟩ := H.rs p (by omega)
  subst hi
  rw [Nat.zero_add] at f5
  exact so_ixNR (ho _ _ H.at_) (so_ixR (ho _ _ H.at_) (d := .ref r) (by have := atI_nat f1; exact this) (q r (ho _ _ f5)))
theorem plan_along {room : Int} {us row : List Str} {K : List (List Str)} {F : Nat → List Str → Int} {h0 a d : Nat} {refs : List D} (z : Szs room us) (hr : Words row) (hrl : row.length ≤ 100) (C : Kc room us K) (L : Lay room us row K 0 F) (H : LayH h0 K a d refs 0 row.length F h) (hd : h[d]? = some (.dtt (webL room us K)))
    (q : ∀ l k2, Pth room us row [] 0 l (F 0 []) k2 row.length → l.length ≤ 10000 → Q (.lst l) h) : Sat (m_plan_along [.lst (row.map D.str), .ref a, .ref d] h) Q := by
  have hk200 : ∀ k ∈ K, Words k ∧ sumW k ≤ 200 := fun k hk => ⟨(C.ok k hk).words z.w, by have := (C.ok k hk).sum; have := z.r1; omega⟩
  refine sa_tr (sa_fn rfl ?_)
  unfold m_plan_along_b
  simp only [List.map_cons, List.map_nil, List.replicate, Nat.reduceSub, List.cons_append, List.nil_append]
  array_get_dec
  refine ss_forL (l := enumL (row.map D.str)) (fun i v h' => ∃ (l : List D) (k : List Str) (c : Int) (x5 x6 x7 x8 x9 x10 x11 : Option D), v = [some (.lst (row.map D.str)), some (.ref a), some (.ref d), some (.ref h.length), some (keyS k), x5, x6, x7, x8, x9, x10, x11] ∧ h' = h ++ [.lst l] ∧ k ∈ K ∧ Pth room us row [] 0 l c k i ∧ c + F i k = F 0 [] ∧ (l.length : Int) ≤ c) (by
    array_get_dec
    exact sa_wEnT (by
      array_get_dec
      exact so_enTL ⟨rfl, rfl⟩)) ⟨[], [], 0, none, none, none, none, none, none, none, rfl, rfl, C.nil, .nil _ _, by omega, by simp⟩ ?_ ?_
  · rintro i x v h' hx ⟨l, k, c, x5, x6, x7, x8, x9, x10, x11, rfl, rfl, hk, hp, hc, hlc⟩
    obtain ⟨w, hw, rfl⟩ := enum_get hx
    have hi := (List.getElem?_eq_some_iff.mp hw).1
    have iw := hr w (List.mem_of_getElem? hw)
    refine ⟨_, rfl, ?_⟩
    simp only [List.set_cons_zero, List.set_cons_succ]
    array_get_dec
    refine ss_asgT ?_
    array_get_dec
    refine cheapest (hk200 k hk).1 (hk200 k hk).2 iw fun t ht1 ht2 => ?_
    refine ⟨_, _, rfl, rfl, ?_⟩
    array_get_dec
    have old : ∀ (l' : List D) (m : Nat) (o : HD), h[m]? = some o → (h ++ [.lst l'])[m]? = some o := fun l' m o e => app_old e
    refine ss_whN (fun m v h' => ∃ (l : List D) (k : List Str) (c : Int) (t : Int × D) (x9 x10 x11 : Option D), v = [some (.lst (row.map D.str)), some (.ref a), some (.ref d), some (.ref h.length), some (keyS k), some (.int i), some (.str w), some (.int t.1), some t.2, x9, x10, x11] ∧ h' = h ++ [.lst l] ∧ k ∈ K ∧ Pth room us row [] 0 l c k i ∧ c + F i k = F 0 [] ∧ (l.length : Int) ≤ c ∧ t ∈ tellsP k w ∧ (∀ u ∈ tellsP k w, t.1 ≤ u.1) ∧ m = (F i k).toNat) (F i k).toNat
      ⟨l, k, c, t, x9, x10, x11, rfl, rfl, hk, hp, hc, hlc, ht1, ht2, rfl⟩ (by have := L.b i (Nat.zero_le _) (by omega) k hk; omega) ?_
    clear hp hc hlc ht1 ht2 hk
    clear l k c t x5 x6 x7 x8 x9 x10 x11
    rintro m v h' ⟨l, k, c, t, x9, x10, x11, rfl, rfl, hk, hp, hc, hlc, ht1, ht2, rfl⟩
    array_get_dec
    refine so_found H (p := i + 1) (by omega) (by omega) (old l) fun r1 e1 => ?_
    array_get_dec
    refine so_ixTab e1 hk ?_
    array_get_dec
    refine so_found H (p := i) (by omega) rfl (old l) fun r2 e2 => ?_
    array_get_dec
    refine so_ixTab e2 hk ?_
    array_get_dec
    refine ⟨fun hgt => ?_, fun hgt => ?_⟩
    · have hgt := of_decide_eq_true hgt
      obtain ⟨e0, he0, heq⟩ := L.edge C hw hk ht2 hgt
      array_get_dec
      refine ss_forL (l := (edgesP room us k).map edD) (fun j v h' => ∃ x9 x10 x11 : Option D, v = [some (.lst (row.map D.str)), some (.ref a), some (.ref d), some (.ref h.length), some (keyS k), some (.int i), some (.str w), some (.int t.1), some t.2, x9, x10, x11] ∧ h' = h ++ [.lst l] ∧ ∀ e ∈ (edgesP room us k).take j, e.2.1 + F i e.1 ≠ F i k) (by
        array_get_dec
        refine so_ixWeb (.inl (app_old hd)) hk ?_
        exact so_wkL ⟨rfl, rfl⟩) ⟨x9, x10, x11, rfl, rfl, by simp⟩ ?_ ?_
      · rintro j x v h' hx ⟨y9, y10, y11, rfl, rfl, hno⟩
        rw [List.getElem?_map] at hx
        obtain ⟨e, he, rfl⟩ := Option.map_eq_some_iff.mp hx
        have hem := List.mem_of_getElem? he
        refine ⟨_, rfl, ?_⟩
        simp only [List.set_cons_zero, List.set_cons_succ]
        array_get_dec
        refine so_found H (p := i) (by omega) rfl (old l) fun r3 e3 => ?_
        array_get_dec
        refine so_ixTab e3 (C.cl k hk e hem) ?_
        array_get_dec
        refine so_found H (p := i) (by omega) rfl (old l) fun r4 e4 => ?_
        array_get_dec
        refine so_ixTab e4 hk ?_
        array_get_dec
        refine ⟨fun hc2 => ?_, fun hc2 => ?_⟩
        · have hc2 := of_decide_eq_true hc2
          array_get_dec
          refine ⟨rcR get_last, ?_⟩
          array_get_dec
          have hep := edge_pos hem
          have hFp := L.pos (p := i) (by omega) (C.cl k hk e hem)
          have h0b := L.b 0 (Nat.zero_le _) (by omega) [] C.nil
          have h0c := L.pos (p := i) (by omega) hk
          refine so_append get_last (by omega) ?_
          rw [set_last]
          array_get_dec
          refine ss_asgT ?_
          array_get_dec
          refine cheapest (hk200 _ (C.cl k hk e hem)).1 (hk200 _ (C.cl k hk e hem)).2 iw fun t2 u1 u2 => ?_
          refine ⟨_, _, rfl, rfl, ?_⟩
          refine ⟨(F i e.1).toNat, by omega, l ++ [e.2.2], e.1, c + (e.2.1 + 0), t2, _, _, _, rfl, rfl, C.cl k hk e hem, hp.app (.one_deed hem hi), by omega, by rw [List.length_append, List.length_singleton]; omega, u1, u2, rfl⟩
        · have hc2 := of_decide_eq_false hc2
          refine ss_nx ⟨_, _, _, rfl, rfl, fun e' he' => ?_⟩
          rw [take_succ_get he] at he'
          rcases List.mem_append.mp he' with h5 | h5
          · exact hno e' h5
          · rw [List.mem_singleton.mp h5]; exact hc2
      · rintro v h' ⟨y9, y10, y11, rfl, rfl, hno⟩
        rw [List.length_map, List.take_length] at hno
        exact absurd heq (hno e0 he0)
    · have hgt := of_decide_eq_false hgt
      have hle := L.t i w (Nat.zero_le _) hw k hk t ht1
      have h0b := L.b 0 (Nat.zero_le _) (by omega) [] C.nil
      have h0c := L.pos (p := i) (by omega) hk
      array_get_dec
      refine ⟨rcR get_last, ?_⟩
      array_get_dec
      refine so_append get_last (by omega) ?_
      rw [set_last]
      have := tell_pos ht1
      exact ⟨l ++ [t.2], k, c + (t.1 + 0), _, _, _, _, _, _, _, rfl, rfl, hk, hp.app (.one_tell hw ht1), by omega, by rw [List.length_append, List.length_singleton]; omega⟩
  · rintro v h' ⟨l, k, c, x5, x6, x7, x8, x9, x10, x11, rfl, rfl, hk, hp, hc, hlc⟩
    have en : (enumL (row.map D.str)).length = row.length := by simp [enumL]
    rw [en] at hp hc
    rw [L.z k hk, Int.add_zero] at hc
    subst hc
    have h0b := L.b 0 (Nat.zero_le _) (by omega) [] C.nil
    array_get_dec
    refine so_fz get_last ?_
    rw [set_last]
    refine ⟨?_, trOk_app _ _ _, ?_⟩
    · show D.clL _ _ = true
      refine clL_all fun x hx => ?_
      exact hp.step_cl x hx
    · rw [take_last]; exact q l k hp (by omega)
end
def entD (p : Nat) (k : List Str) (v : Int) : D := .tup [.int (p : Int), keyS k, .int v]
def srtK (K : List (List Str)) : List (List Str) := K.mergeSort fun a b => Dn.leD (keyS a) (keyS b)
theorem srtK_perm (K : List (List Str)) : (srtK K).Perm K := List.mergeSort_perm _ _
theorem srtD_keys (K : List (List Str)) : srtD (K.map keyS) = (srtK K).map keyS := (PySem.W.sort_maps keyS fun _ _ _ _ => rfl).symm
def rowT (K : List (List Str)) (F : Nat → List Str → Int) (p : Nat) : List D := (srtK K).map fun k => entD p k (F p k)
def tblL (K : List (List Str)) (F : Nat → List Str → Int) (n : Nat) : List D := (List.range (n + 1)).flatMap (rowT K F)
theorem strs_alike : ∀ a b : List Str, PySem.W.alikeAll (D.pdL (a.map D.str)) (D.pdL (b.map D.str)) = true
  | [], _ => by simp [D.pdL, PySem.W.alikeAll]
  | _ :: _, [] => by simp [D.pdL, PySem.W.alikeAll]
  | x :: a, y :: b => by
    show PySem.W.alikeAll (.str x :: D.pdL (a.map D.str)) (.str y :: D.pdL (b.map D.str)) = true
    rw [PySem.W.alikeAll, strs_alike a b]
    simp [PySem.W.alike]
theorem keys_srt {K : List (List Str)} (hd : K.head? = some []) (hw : ∀ k ∈ K, Words k) : srtOk (K.map keyS) = true := by
  unfold srtOk
  have h1 : D.okL 40 (K.map keyS) = true := okL_of fun x hx => by
    obtain ⟨k, hk, rfl⟩ := List.mem_map.mp hx
    exact okS k (hw k hk)
  have h2 : ((K.map keyS).all fun a => (K.map keyS).all fun b => PySem.W.alike a.pd b.pd) = true := List.all_eq_true.mpr fun a ha => List.all_eq_true.mpr fun b hb => by
    obtain ⟨s, hs, rfl⟩ := List.mem_map.mp ha
    obtain ⟨t, ht, rfl⟩ := List.mem_map.mp hb
    show PySem.W.alike (.tuple (D.pdL (s.map D.str))) (.tuple (D.pdL (t.map D.str))) = true
    rw [PySem.W.alike]; exact strs_alike s t
  have h3 : headNil (K.map keyS) = true := by
    cases K with
    | nil => cases hd
    | cons a r =>
      cases hd
      rfl
  rw [h1, h2, h3]; simp
section
variable {X : D → Hm → Prop} {h : Hm} {Q : D → Hm → Prop}
theorem so_srtT {n : Nat} {K : List (List Str)} {f : List Str → Int} (e : h[n]? = some (tabD K f)) (hd : K.head? = some []) (hw : ∀ k ∈ K, Words k) (q : Q (.lst ((srtK K).map keyS)) h) : SatX X (bSortedDT [.ref n] h) Q := by
  unfold bSortedDT
  have ek : (mkK D.int (K.map fun k => (k, f k))).map (·.1) = K.map keyS := by rw [keys_mkK, List.map_map]; simp
  simp only [e, ek, keys_srt hd hw, if_true, srtD_keys]
  exact ⟨q⟩
theorem pre_app {h1 : Hm} (hl : h.length ≤ h1.length) (hp : ∀ n, n < h.length → h1[n]? = h[n]?) : ∃ r, h1 = h ++ r := by
  refine ⟨h1.drop h.length, ?_⟩
  apply List.ext_getElem?
  intro n
  by_cases c : n < h.length
  · rw [hp n c, List.getElem?_append_left c]
  · rw [List.getElem?_append_right (by omega), List.getElem?_drop]
    congr 1
    omega
theorem LayH.ext {h0 : Nat} {K : List (List Str)} {a d : Nat} {refs : List D} {m n : Nat} {F : Nat → List Str → Int} {h1 : Hm} (H : LayH h0 K a d refs m n F h) (ho : ∀ (m : Nat) (o : HD), h[m]? = some o → h1[m]? = some o) : LayH h0 K a d refs m n F h1 :=
  ⟨ho _ _ H.at_, H.len, fun j hj => by
    obtain ⟨r, q1, q2, q3, q4, q5⟩ := H.rs j hj
    exact ⟨r, q1, q2, q3, q4, ho _ _ q5⟩⟩
theorem least {room : Int} {row : List Str} (z : Szs room (ssT row)) (hr : Words row) (hrl : row.length ≤ 100)
    (q : ∀ K F l k2, Kc room (ssT row) K → Lay room (ssT row) row K 0 F → Pth room (ssT row) row [] 0 l (F 0 []) k2 row.length → l.length ≤ 10000 → Q (.tup [.int (F 0 []), .lst l, .lst (tblL K F row.length)]) h) : Sat (m_least [.int room, .lst (row.map D.str)] h) Q := by
  refine sa_tr (sa_fn rfl ?_)
  unfold m_least_b
  simp only [List.map_cons, List.map_nil, List.replicate, Nat.reduceSub, List.cons_append, List.nil_append]
  array_get_dec
  refine ss_asgT ?_
  array_get_dec
  refine layers z hr hrl fun K F refs a d h' C L hl hold ha hdd hd H => ?_
  have hus := sset_words hr
  have hKl := keys_le z C.nd C.ok
  have hw : ∀ k ∈ K, Words k := fun k hk => (C.ok k hk).words hus
  refine ⟨_, _, rfl, rfl, ?_⟩
  simp only [List.set_cons_zero, List.set_cons_succ]
  array_get_dec
  have len_k : (srtK K).length = K.length := (srtK_perm K).length_eq
  have hrow : ∀ p, (rowT K F p).length = K.length := fun p => by unfold rowT; rw [List.length_map, len_k]
  have htl : ∀ n, ((List.range n).flatMap (rowT K F)).length = K.length * n := fun n => by
    rw [flat_len _ K.length _ fun p _ => hrow p, List.length_range]
  have fe : ∀ l : List D, (h' ++ [HD.lst l])[a]? = some (.lst refs) := fun l => app_old H.at_
  refine ss_for ?_
  array_get_dec
  refine sa_wEnT ?_
  array_get_dec
  refine so_enTR (fe _) ?_
  refine ⟨fun i v h2 => ∃ (x5 x6 x7 : Option D), v = [some (.int room), some (.lst (row.map D.str)), some (.ref h'.length), some (.ref a), some (.ref d), x5, x6, x7] ∧ h2 = h' ++ [.lst ((List.range i).flatMap (rowT K F))], ⟨none, none, none, rfl, rfl⟩, ?_, ?_⟩
  · rintro i x v h2 hx ⟨x5, x6, x7, rfl, rfl⟩
    refine ⟨by simp [fe, HD.beq_refl], ?_⟩
    have hx : (enumL refs)[i]? = some x := hx
    have hi : i ≤ row.length := by
      have := (List.getElem?_eq_some_iff.mp hx).1
      have h5 := H.len
      simp [enumL] at this
      omega
    obtain ⟨r, f1, f2, f3, f4, f5⟩ := H.rs i (by omega)
    rw [Nat.zero_add] at f5
    unfold enumL at hx
    rw [List.getElem?_mapIdx, f1] at hx
    cases hx
    refine ⟨_, rfl, ?_⟩
    simp only [List.set_cons_zero, List.set_cons_succ]
    array_get_dec
    refine ss_forL (l := (srtK K).map keyS) (fun j v h2 => ∃ (x7 : Option D), v = [some (.int room), some (.lst (row.map D.str)), some (.ref h'.length), some (.ref a), some (.ref d), some (.int i), some (.ref r), x7] ∧ h2 = h' ++ [.lst ((List.range i).flatMap (rowT K F) ++ ((srtK K).take j).map fun k => entD i k (F i k))]) (by
      array_get_dec
      refine so_srtT (app_old f5) C.hd hw ?_
      exact so_wkL ⟨rfl, rfl⟩) ⟨x7, rfl, by simp⟩ ?_ ?_
    · rintro j x v h2 hx ⟨x7, rfl, rfl⟩
      rw [List.getElem?_map] at hx
      obtain ⟨k, hk, rfl⟩ := Option.map_eq_some_iff.mp hx
      have hkm : k ∈ K := (srtK_perm K).mem_iff.mp (List.mem_of_getElem? hk)
      refine ⟨_, rfl, ?_⟩
      simp only [List.set_cons_zero, List.set_cons_succ]
      array_get_dec
      refine ⟨rcR get_last, ?_⟩
      array_get_dec
      refine so_ixTab (app_old f5) hkm ?_
      array_get_dec
      refine so_append get_last ?_ ?_
      · have h6 := htl i
        have h7 : K.length * i ≤ 121 * 100 := Nat.mul_le_mul hKl (by omega)
        simp only [List.length_append, List.length_map, List.length_take, h6]
        omega
      · rw [set_last]
        refine ⟨_, rfl, ?_⟩
        rw [take_succ_get hk, List.map_append, ← List.append_assoc]
        rfl
    · rintro v h2 ⟨x7, rfl, rfl⟩
      refine ⟨_, _, _, rfl, ?_⟩
      rw [List.length_map, List.take_length, List.range_succ, List.flatMap_append]
      simp [rowT]
  · rintro v h2 ⟨x5, x6, x7, rfl, rfl⟩
    refine ⟨by simp [fe, HD.beq_refl], ?_⟩
    have en : (enumL refs).length = row.length + 1 := by
      have := H.len
      simp [enumL]
      omega
    have en' : ({ its := enumL refs, chk := fun h'' => match h''[a]? with
      | some o => HD.beq o (.lst refs)
      | none => false } : Wk).its.length = row.length + 1 := en
    rw [en]
    array_get_dec
    refine so_found H (p := 0) (by omega) rfl (fun m o e => app_old e) fun r e => ?_
    array_get_dec
    refine so_ixTab (k := []) e C.nil ?_
    array_get_dec
    refine plan_along z hr hrl C L (H.ext fun m o e => app_old e) (app_old hd) fun l k2 hp hll => ?_
    array_get_dec
    refine so_fz get_last ?_
    rw [set_last]
    array_get_dec
    obtain ⟨r', er⟩ := pre_app (h := h) (h1 := h' ++ [.dead]) (by simp; omega) fun n hn => by rw [List.getElem?_append_left (by omega)]; exact hold n hn
    rw [er]
    refine ⟨?_, trOk_app _ _ _, ?_⟩
    · show (true && (D.clL _ l && (D.clL _ (tblL K F row.length) && true))) = true
      have c1 : D.clL h.length l = true := clL_all fun x hx => hp.step_cl x hx
      have c2 : D.clL h.length (tblL K F row.length) = true := clL_all fun x hx => by
        obtain ⟨p, _, hx⟩ := List.mem_flatMap.mp hx
        obtain ⟨k, _, rfl⟩ := List.mem_map.mp hx
        show (true && (D.cl _ (keyS k) && (true && true))) = true
        rw [keyS_cl]; rfl
      rw [c1, c2]; rfl
    · rw [take_last]; exact q K F l k2 C L hp hll
end
theorem sgn1 {n : Int} (h0 : 1 ≤ n) (h1 : n ≤ 9) : (2 : Int) + (sgn (.int n) : Nat) = 3 := by
  have : n = 1 ∨ n = 2 ∨ n = 3 ∨ n = 4 ∨ n = 5 ∨ n = 6 ∨ n = 7 ∨ n = 8 ∨ n = 9 := by omega
  rcases this with rfl | rfl | rfl | rfl | rfl | rfl | rfl | rfl | rfl <;> decide +kernel
theorem ss_few {row some_ : List Str} (h : ∀ w ∈ row, w ∈ some_) (hl : some_.length ≤ 3) : (ssT row).length ≤ 3 :=
  Nat.le_trans (nodup_len (ssT_nodup row) fun w hw => h w (ssT_mem.mp hw)) hl
theorem szs_of {room : Int} {row some_ : List Str} (h0 : 0 ≤ room) (h1 : room ≤ 14) (hr : Words row) (h : ∀ w ∈ row, w ∈ some_) (hl : some_.length ≤ 3) : Szs room (ssT row) :=
  ⟨h0, h1, sset_words hr, ss_few h hl⟩
theorem Pth.th {room : Int} {us row k k2 : List Str} {p p2 : Nat} {l : List D} {c : Int} (z : Szs room us) (r : Pth room us row k p l c k2 p2) (o : KOk room us k) : ∀ x ∈ l, Th 20 100000 x := by
  induction r with
  | nil => intro x hx; cases hx
  | deed he hp _ ih =>
    intro x hx
    rcases List.mem_cons.mp hx with rfl | hx
    · rcases mem_edges.mp he with ⟨w, hw, _, rfl⟩ | ⟨i, w, hi, rfl⟩
      · exact t2 (Th.lit (by decide +kernel)) (th_w (z.w w hw) (by decide)) (by decide)
      · have := o.len z
        have := (List.getElem?_eq_some_iff.mp hi).1
        exact th_big (t2 (V := 100) (Th.lit (by decide +kernel)) (Th.int (by omega) (by omega)) (by decide)) (Nat.le_trans (t2 (n := 19) (V := 100) (Th.lit (by decide +kernel)) (Th.int (by omega) (by omega)) (by decide)).2.2 (by decide))
    · exact ih (o.edge z.r0 he) x hx
  | tell hw ht _ ih =>
    intro x hx
    rcases List.mem_cons.mp hx with rfl | hx
    · rcases mem_tells.mp ht with rfl | ⟨i, hi, rfl⟩
      · exact th_word (by decide)
      · have := o.len z
        have := (List.getElem?_eq_some_iff.mp hi).1
        exact th_big (t2 (V := 100) (Th.lit (by decide +kernel)) (Th.int (by omega) (by omega)) (by decide)) (Nat.le_trans (t2 (n := 19) (V := 100) (Th.lit (by decide +kernel)) (Th.int (by omega) (by omega)) (by decide)).2.2 (by decide))
    · exact ih o x hx
/-- a way from the start is a plan that costs as much -/
theorem Pth.plan {room : Int} {us row k2 : List Str} {l : List D} {c : Int} (z : Szs room us) (r : Pth room us row [] 0 l c k2 row.length) : ∃ b, PRun row (P0 room) l b ∧ b.t = row.length ∧ priceP row 0 l = c := by
  obtain ⟨f2, h1, h2⟩ := r.run z.r0 z.w (KOk.nil z.r0) 0
  exact ⟨_, h1, rfl, h2⟩
theorem suf_stay {room : Int} {a : List Str} : ∀ {b : List Str}, a <:+ b → sumW a ≤ room → a <:+ stay room b
  | [], h, _ => by rw [List.suffix_nil.mp h]; exact List.nil_suffix
  | x :: b, h, h1 => by
    unfold stay
    by_cases hc : room < sumW (x :: b) + 0
    · rw [fit_cons hc]
      rcases List.suffix_cons_iff.mp h with e | h
      · subst e; omega
      · exact suf_stay h h1
    · rw [fit_stop hc]; exact h
theorem stay_suf (room : Int) (b : List Str) : stay room b <:+ b := by
  rw [stay_gmin]; exact List.drop_suffix _ _
theorem suf_app {a b : List Str} (c : List Str) (h : a <:+ b) : a ++ c <:+ b ++ c := by
  obtain ⟨s, rfl⟩ := h
  exact ⟨s, by rw [List.append_assoc]⟩
theorem suf_filter (p : Str → Bool) {a b : List Str} (h : a <:+ b) : a.filter p <:+ b.filter p := by
  obtain ⟨s, rfl⟩ := h
  exact ⟨s.filter p, by rw [List.filter_append]⟩
theorem sumW_filter (p : Str → Bool) : ∀ l : List Str, sumW (l.filter p) ≤ sumW l
  | [] => Int.le_refl _
  | a :: r => by
    have := sumW_filter p r
    have := wt_pos a
    rw [List.filter_cons]
    split <;> simp only [sumW] <;> omega
/-- the same word by the same number -/
theorem suf_at {a b : List Str} {n : Int} {w : Str} (h : a <:+ b) (h0 : 1 ≤ n) (h1 : n ≤ (a.length : Int)) (hw : a[((a.length : Int) - n).toNat]? = some w) : n ≤ (b.length : Int) ∧ b[((b.length : Int) - n).toNat]? = some w := by
  obtain ⟨s, rfl⟩ := h
  have hl : (s ++ a).length = s.length + a.length := List.length_append
  refine ⟨by omega, ?_⟩
  rw [show (((s ++ a).length : Nat) : Int) - n = ((s.length + ((a.length : Int) - n).toNat : Nat) : Int) by omega, Int.toNat_natCast, List.getElem?_append_right (by omega), Nat.add_sub_cancel_left]
  exact hw
/-- in what is left of the words, it stands no farther from the end -/
theorem filter_at {us a : List Str} {n : Int} {w : Str} (h0 : 1 ≤ n) (h1 : n ≤ (a.length : Int)) (hw : a[((a.length : Int) - n).toNat]? = some w) (hm : w ∈ us) : ∃ m : Int, 1 ≤ m ∧ m ≤ n ∧ m ≤ ((a.filter fun x => decide (x ∈ us)).length : Int) ∧ (a.filter fun x => decide (x ∈ us))[(((a.filter fun x => decide (x ∈ us)).length : Int) - m).toNat]? = some w := by
  obtain ⟨hi, e⟩ := List.getElem?_eq_some_iff.mp hw
  have e1 : a = a.take ((a.length : Int) - n).toNat ++ w :: a.drop (((a.length : Int) - n).toNat + 1) := by
    rw [← e, ← List.drop_eq_getElem_cons hi, List.take_append_drop]
  generalize ha : a.take ((a.length : Int) - n).toNat = s at e1
  generalize hb : a.drop (((a.length : Int) - n).toNat + 1) = t at e1
  have ht : (t.length : Int) + 1 ≤ n := by rw [← hb, List.length_drop]; omega
  have ef : (a.filter fun x => decide (x ∈ us)) = (s.filter fun x => decide (x ∈ us)) ++ w :: (t.filter fun x => decide (x ∈ us)) := by
    rw [e1, List.filter_append, List.filter_cons, if_pos (decide_eq_true hm)]
  have l1 := List.length_filter_le (fun x => decide (x ∈ us)) t
  rw [ef]
  refine ⟨((t.filter fun x => decide (x ∈ us)).length : Int) + 1, by omega, by omega, by simp only [List.length_append, List.length_cons]; omega, ?_⟩
  rw [show ((((s.filter fun x => decide (x ∈ us)) ++ w :: (t.filter fun x => decide (x ∈ us))).length : Nat) : Int) - (((t.filter fun x => decide (x ∈ us)).length : Int) + 1) = (((s.filter fun x => decide (x ∈ us)).length : Nat) : Int) by simp only [List.length_append, List.length_cons]; omega, Int.toNat_natCast, List.getElem?_append_right (Nat.le_refl _), Nat.sub_self]
  rfl
theorem PRun.lift {row row' : List Str} {o : Nat} (hr : ∀ (i : Nat) w, row[i]? = some w → row'[i + o]? = some w) {a b : PS} {l : List D} (r : PRun row a l b) : ∀ s' : St, 0 ≤ a.s.room → a.s.ws <:+ s'.ws → a.s.room ≤ s'.room → ∃ s2, PRun row' ⟨s', a.t + o⟩ l ⟨s2, b.t + o⟩ ∧ b.s.ws <:+ s2.ws ∧ s2.room = s'.room ∧ priceP row' (a.t + o) l = priceP row a.t l := by
  have hlt : ∀ {t : Nat}, t < row.length → t + o < row'.length := fun {t} h => (List.getElem?_eq_some_iff.mp (hr t _ (List.getElem?_eq_getElem h))).1
  induction r with
  | nil a => exact fun s' _ h _ => ⟨s', .nil _, h, rfl, rfl⟩
  | @cons a b c x l k r ih =>
    intro s' h0 h hle
    cases k with
    | word s t ht =>
      obtain ⟨s2, i1, i2, i3, i4⟩ := ih s' h0 h hle
      have e : row[t]? = some row[t] := List.getElem?_eq_getElem ht
      refine ⟨s2, .cons (.word _ _ (hlt ht)) (by rw [show t + o + 1 = t + 1 + o by omega]; exact i1), i2, i3, ?_⟩
      show stepP row' (t + o) wordT + priceP row' (t + o + tellN wordT) l = stepP row t wordT + priceP row (t + tellN wordT) l
      rw [stepP_word e, stepP_word (hr t _ e), tellN_word, show t + o + 1 = t + 1 + o by omega, i4]
    | by_ s t n w n0 n1 hw hrw =>
      obtain ⟨s2, i1, i2, i3, i4⟩ := ih s' h0 h hle
      obtain ⟨q1, q2⟩ := suf_at h n0 n1 hw
      refine ⟨s2, .cons (.by_ _ _ n w n0 q1 q2 (hr t _ hrw)) (by rw [show t + o + 1 = t + 1 + o by omega]; exact i1), i2, i3, ?_⟩
      show stepP row' (t + o) (byT n) + priceP row' (t + o + tellN (byT n)) l = stepP row t (byT n) + priceP row (t + tellN (byT n)) l
      rw [stepP_by, stepP_by, tellN_by, show t + o + 1 = t + 1 + o by omega, i4]
    | put s t w ht hw hwr =>
      obtain ⟨s2, i1, i2, i3, i4⟩ := ih (nextS s' s'.room (s'.ws ++ [w])) h0 (suf_stay ((stay_suf _ _).trans (suf_app _ h)) (Int.le_trans (stay_ok h0 _) hle)) hle
      refine ⟨s2, .cons (.put _ _ w (hlt ht) hw (Int.le_trans hwr hle)) i1, i2, i3, ?_⟩
      show stepP row' (t + o) (.tup [.str (Str.ofString "put"), .str w]) + priceP row' (t + o + tellN (.tup [.str (Str.ofString "put"), .str w])) l = stepP row t (.tup [.str (Str.ofString "put"), .str w]) + priceP row (t + tellN (.tup [.str (Str.ofString "put"), .str w])) l
      rw [stepP_put, stepP_put, tellN_put, Nat.add_zero, Nat.add_zero, i4]
    | again s t n w ht n0 n1 hw hwr =>
      obtain ⟨q1, q2⟩ := suf_at h n0 n1 hw
      obtain ⟨s2, i1, i2, i3, i4⟩ := ih (nextS s' s'.room (s'.ws ++ [w])) h0 (suf_stay ((stay_suf _ _).trans (suf_app _ h)) (Int.le_trans (stay_ok h0 _) hle)) hle
      refine ⟨s2, .cons (.again _ _ n w (hlt ht) n0 q1 q2 (Int.le_trans hwr hle)) i1, i2, i3, ?_⟩
      show stepP row' (t + o) (.tup [.str (Str.ofString "again"), .int n]) + priceP row' (t + o + tellN (.tup [.str (Str.ofString "again"), .int n])) l = stepP row t (.tup [.str (Str.ofString "again"), .int n]) + priceP row (t + tellN (.tup [.str (Str.ofString "again"), .int n])) l
      rw [stepP_again, stepP_again, tellN_again, Nat.add_zero, Nat.add_zero, i4]
theorem stepP_pos (row : List Str) (t : Nat) (x : D) : 0 ≤ stepP row t x := by
  unfold stepP
  split <;> (try split) <;> omega
theorem priceP_pos (row : List Str) : ∀ (l : List D) (t : Nat), 0 ≤ priceP row t l
  | [], _ => Int.le_refl _
  | x :: l, t => by
    have := stepP_pos row t x
    have := priceP_pos row l (t + tellN x)
    simp only [priceP]; omega
theorem dg_pos (n : Nat) : 1 ≤ dg n := by
  by_cases h : n < 10
  · rw [dg_lt h]; exact Nat.le_refl _
  · rw [dg_ge (by omega)]; omega
theorem sgn_pos {n : Int} (h : 0 ≤ n) : 1 ≤ sgn (.int n) := by
  obtain ⟨m, rfl⟩ := Int.eq_ofNat_of_zero_le h
  exact dg_pos m
theorem Low.shadow {room : Int} {us rowX : List Str} {K : List (List Str)} {F : Nat → List Str → Int} (z : Szs room us) (L : Low room us rowX K F) (hus : ∀ w ∈ rowX, w ∈ us) {row : List Str} {g : Nat → Nat}
    (hg : ∀ p w, row[p]? = some w → g (p + 1) = g p ∨ (g (p + 1) = g p + 1 ∧ rowX[g p]? = some w)) (gl : ∀ p, g p ≤ rowX.length)
    {a b : PS} {l : List D} (r : PRun row a l b) (hb : g b.t = rowX.length) : 0 ≤ a.s.room → a.s.room ≤ room → ∀ kX ∈ K, (a.s.ws.filter fun x => decide (x ∈ us)) <:+ kX → F (g a.t) kX ≤ priceP row a.t l := by
  have fin : ∀ {t : Nat} {kX : List Str} (l : List D), kX ∈ K → ¬ g t < rowX.length → F (g t) kX ≤ priceP row t l := fun {t kX} l hk h => by
    have e : g t = rowX.length := Nat.le_antisymm (gl t) (by omega)
    have := priceP_pos row l t
    rw [e]
    have := L.z kX hk
    omega
  induction r with
  | nil a => exact fun _ _ kX hk _ => fin [] hk (by omega)
  | @cons a b c x l k r ih =>
    intro h0 hle kX hk hs
    by_cases hlt : g a.t < rowX.length
    case neg => exact fin _ hk hlt
    have hkl := (L.ok kX hk).len z
    have byX : ∀ {n : Int} {w : Str}, 1 ≤ n → n ≤ (a.s.ws.length : Int) → a.s.ws[((a.s.ws.length : Int) - n).toNat]? = some w → w ∈ us → ∃ i : Nat, kX[i]? = some w ∧ (sgn (.int ((kX.length : Int) - i)) : Int) ≤ (sgn (.int n) : Int) := fun {n w} n0 n1 hw hm => by
      obtain ⟨m, m0, m1, m2, m3⟩ := filter_at n0 n1 hw hm
      obtain ⟨q1, q2⟩ := suf_at hs m0 m2 m3
      refine ⟨_, q2, ?_⟩
      have := sgn_pos (n := n) (by omega)
      have := sgn1 (n := (kX.length : Int) - (((kX.length : Int) - m).toNat : Nat)) (by omega) (by omega)
      omega
    have tell : ∀ {w : Str} {c : Int}, row[a.t]? = some w → (w ∈ us → ∃ t ∈ tellsP kX w, t.1 ≤ c) → 0 ≤ c → F (g (a.t + 1)) kX ≤ priceP row (a.t + 1) l → F (g a.t) kX ≤ c + priceP row (a.t + 1) l := fun {w c} hw h1 h2 h3 => by
      rcases hg _ _ hw with e | ⟨e, e1⟩
      · rw [e] at h3; omega
      · obtain ⟨t, ht, hc⟩ := h1 (hus w (List.mem_of_getElem? e1))
        have := L.t _ _ e1 kX hk t ht
        rw [e] at h3
        omega
    have deed : ∀ {w : Str} {c : Int}, (w ∈ us → ∃ e ∈ edgesP room us kX, e.1 = psh room kX w ∧ e.2.1 ≤ c) → 0 ≤ c → (∀ kX ∈ K, ((stay a.s.room (a.s.ws ++ [w])).filter fun x => decide (x ∈ us)) <:+ kX → F (g a.t) kX ≤ priceP row a.t l) → F (g a.t) kX ≤ c + priceP row a.t l := fun {w c} h1 h2 h3 => by
      have s1 : ((stay a.s.room (a.s.ws ++ [w])).filter fun x => decide (x ∈ us)) <:+ (a.s.ws.filter fun x => decide (x ∈ us)) ++ ([w].filter fun x => decide (x ∈ us)) := by
        rw [← List.filter_append]; exact suf_filter _ (stay_suf _ _)
      have s2 : sumW ((stay a.s.room (a.s.ws ++ [w])).filter fun x => decide (x ∈ us)) ≤ room := Int.le_trans (sumW_filter _ _) (Int.le_trans (stay_ok h0 _) hle)
      by_cases hm : w ∈ us
      · obtain ⟨e, he, e1, e2⟩ := h1 hm
        have ef : ([w].filter fun x => decide (x ∈ us)) = [w] := by rw [List.filter_cons, if_pos (decide_eq_true hm)]; rfl
        rw [ef] at s1
        have q := h3 e.1 (L.cl kX hk e he) (by rw [e1]; exact suf_stay (s1.trans (suf_app _ hs)) s2)
        have := L.d _ hlt kX hk e he
        omega
      · have ef : ([w].filter fun x => decide (x ∈ us)) = [] := by rw [List.filter_cons, if_neg (by simp [hm])]; rfl
        rw [ef, List.append_nil] at s1
        have := h3 kX hk (s1.trans hs)
        omega
    cases k with
    | word s t ht =>
      have e : row[t]? = some row[t] := List.getElem?_eq_getElem ht
      show F (g t) kX ≤ stepP row t wordT + priceP row (t + tellN wordT) l
      rw [stepP_word e, tellN_word]
      exact tell e (fun _ => ⟨_, mem_tells.mpr (.inl rfl), Int.le_refl _⟩) (by omega) (ih hb h0 hle kX hk hs)
    | by_ s t n w n0 n1 hw hrw =>
      show F (g t) kX ≤ stepP row t (byT n) + priceP row (t + tellN (byT n)) l
      rw [stepP_by, tellN_by]
      refine tell hrw (fun hm => ?_) (by omega) (ih hb h0 hle kX hk hs)
      obtain ⟨i, i1, i2⟩ := byX n0 n1 hw hm
      exact ⟨_, mem_tells.mpr (.inr ⟨i, i1, rfl⟩), by show 1 + (sgn (.int ((kX.length : Int) - i)) : Int) ≤ _; omega⟩
    | put s t w ht hw hwr =>
      show F (g t) kX ≤ stepP row t (.tup [.str (Str.ofString "put"), .str w]) + priceP row (t + tellN (.tup [.str (Str.ofString "put"), .str w])) l
      rw [stepP_put, tellN_put, Nat.add_zero]
      refine deed (w := w) (fun hm => ⟨putE room kX w, mem_edges.mpr (.inl ⟨w, hm, Int.le_trans hwr hle, rfl⟩), rfl, ?_⟩) (by omega) (ih hb h0 hle)
      show wt w ≤ 2 + (w.length : Int)
      unfold wt; omega
    | again s t n w ht n0 n1 hw hwr =>
      show F (g t) kX ≤ stepP row t (.tup [.str (Str.ofString "again"), .int n]) + priceP row (t + tellN (.tup [.str (Str.ofString "again"), .int n])) l
      rw [stepP_again, tellN_again, Nat.add_zero]
      refine deed (w := w) (fun hm => ?_) (by omega) (ih hb h0 hle)
      obtain ⟨i, i1, i2⟩ := byX n0 n1 hw hm
      exact ⟨agE room kX i w, mem_edges.mpr (.inr ⟨i, w, i1, rfl⟩), rfl, by show 2 + (sgn (.int ((kX.length : Int) - i)) : Int) ≤ _; omega⟩
/-- the row's own floors -/
theorem Low.run {room r0 : Int} {us row : List Str} {K : List (List Str)} {F : Nat → List Str → Int} (z : Szs room us) (L : Low room us row K F) (hus : ∀ w ∈ row, w ∈ us) {b : PS} {l : List D} (r : PRun row (P0 r0) l b) (hb : b.t = row.length) (h0 : 0 ≤ r0) (h1 : r0 ≤ room) : F 0 [] ≤ priceP row 0 l :=
  L.shadow z hus (g := fun p => min p row.length) (fun p w hw => .inr (by have := (List.getElem?_eq_some_iff.mp hw).1; exact ⟨by omega, by rw [Nat.min_eq_left (by omega)]; exact hw⟩)) (fun p => Nat.min_le_right _ _) r (by rw [hb, Nat.min_self]) h0 h1 [] L.nil (by show ([] : List Str).filter _ <:+ []; exact List.nil_suffix) |> fun h => by
    rw [show (P0 r0).t = 0 from rfl, Nat.zero_min] at h; exact h
theorem sumW_map {f : Str → Str} (hf : ∀ w, (f w).length = w.length) : ∀ l : List Str, sumW (l.map f) = sumW l
  | [] => rfl
  | a :: r => by simp only [List.map_cons, sumW, wt, hf, sumW_map hf r]
theorem stay_map {f : Str → Str} (hf : ∀ w, (f w).length = w.length) {room : Int} : ∀ l : List Str, stay room (l.map f) = (stay room l).map f
  | [] => rfl
  | a :: r => by
    have ih := stay_map hf (room := room) r
    unfold stay at ih ⊢
    have e := sumW_map hf (a :: r)
    rw [List.map_cons] at e ⊢
    by_cases hc : room < sumW (a :: r) + 0
    · rw [fit_cons hc, fit_cons (by rw [e]; exact hc), ih]
    · rw [fit_stop hc, fit_stop (by rw [e]; exact hc)]; rfl
theorem psh_map {f : Str → Str} (hf : ∀ w, (f w).length = w.length) {room : Int} (k : List Str) (w : Str) : psh room (k.map f) (f w) = (psh room k w).map f := by
  unfold psh
  rw [← stay_map hf, List.map_append]; rfl
theorem Pth.map {f : Str → Str} (hf : ∀ w, (f w).length = w.length) {room : Int} {us us' row : List Str} (hu : ∀ w ∈ us, f w ∈ us') {k k2 : List Str} {p p2 : Nat} {l : List D} {c : Int} (r : Pth room us row k p l c k2 p2) : ∃ l', Pth room us' (row.map f) (k.map f) p l' c (k2.map f) p2 := by
  induction r with
  | nil k p => exact ⟨[], .nil _ _⟩
  | @deed k k2 p p2 e l c he hp r ih =>
    obtain ⟨l', ih⟩ := ih
    rcases mem_edges.mp he with ⟨w, hw, hr, rfl⟩ | ⟨i, w, hi, rfl⟩
    · have e2 : wt (f w) = wt w := by unfold wt; rw [hf]
      have q := Pth.deed (row := row.map f) (e := putE room (k.map f) (f w)) (mem_edges.mpr (.inl ⟨f w, hu w hw, by rw [e2]; exact hr, rfl⟩)) (by rw [List.length_map]; exact hp) (by show Pth _ _ _ (psh room (k.map f) (f w)) _ _ _ _ _; rw [psh_map (f := f) hf]; exact ih)
      exact ⟨_, by rw [show (putE room (k.map f) (f w)).2.1 = (putE room k w).2.1 from e2] at q; exact q⟩
    · have q := Pth.deed (row := row.map f) (e := agE room (k.map f) i (f w)) (mem_edges.mpr (.inr ⟨i, f w, by rw [List.getElem?_map, hi]; rfl, rfl⟩)) (by rw [List.length_map]; exact hp) (by show Pth _ _ _ (psh room (k.map f) (f w)) _ _ _ _ _; rw [psh_map (f := f) hf]; exact ih)
      exact ⟨_, by rw [show (agE room (k.map f) i (f w)).2.1 = (agE room k i w).2.1 by show 2 + (sgn (.int (((k.map f).length : Int) - i)) : Int) = _; rw [List.length_map]; rfl] at q; exact q⟩
  | @tell k k2 p p2 w t l c hw ht r ih =>
    obtain ⟨l', ih⟩ := ih
    have hw' : (row.map f)[p]? = some (f w) := by rw [List.getElem?_map, hw]; rfl
    rcases mem_tells.mp ht with rfl | ⟨i, hi, rfl⟩
    · have q := Pth.tell (t := (1 + ((f w).length : Int), wordT)) hw' (mem_tells.mpr (.inl rfl)) ih
      exact ⟨_, by rw [hf] at q; exact q⟩
    · have q := Pth.tell (t := byE (k.map f) i) hw' (mem_tells.mpr (.inr ⟨i, by rw [List.getElem?_map, hi]; rfl, rfl⟩)) ih
      exact ⟨_, by rw [show (byE (k.map f) i).1 = (byE k i).1 by show 1 + (sgn (.int (((k.map f).length : Int) - i)) : Int) = _; rw [List.length_map]; rfl] at q; exact q⟩
def m_law_b : SM :=
  (sSeq (sFor (gN 1) (wR1 (eF bMax (aC (eC (.int 1)) (aC (eF bMin (aC (eC (.int 2)) (aC (eF bLen (aC (eV 0) aN)) aN))) aN)))) (sSeq (sAsg (gN 2) (eF m_law_reed (aC (eV 0) (aC (eV 1) aN))))
  (sSeq (sAsg (gN 3) (eF m_law_sip (aC (eV 2) (aC (eC (.int 1000)) aN))))
  (sSeq (sAsg (gN 4) (eB opAdd (eC (.int 1)) (eF m_law_sip (aC (eV 2) (aC (eC (.int 25)) aN)))))
  (sSeq (sAsg (gT [12, 5]) (eF m_law_row_r (aC (eV 2) (aC (eC (.int 7)) aN))))
  (sSeq (sAsg (gN 5) (eB opAdd (eV 5) (eLst (aC (eB opIx (eV 5) (eC (.int 0))) aN))))
  (sSeq (sAsg (gN 3) (eB opAdd (eC (.int 1)) (eB opMod (eV 3) (eB opSub (eF bLen (aC (eV 5) aN)) (eC (.int 1))))))
  (sSeq (sAsg (gN 6) (eB opIx (eF m_least (aC (eV 12) (aC (eV 5) aN))) (eC (.int 0))))
  (sSeq (sAsg (gN 7) (eF m_least (aC (eV 12) (aC (eSl (eV 5) pN (pE (eV 3))) aN))))
  (sSeq (sAsg (gN 8) (eF m_least (aC (eV 12) (aC (eSl (eV 5) (pE (eV 3)) pN) aN))))
  (sSeq (sAsg (gN 9) (eB opAdd (eB opIx (eV 7) (eC (.int 1))) (eB opIx (eV 8) (eC (.int 1)))))
  (sSeq (sIf (tOr (tE (eB opNotB (eF m_is_plan (aC (eV 12) (aC (eV 5) (aC (eV 9) aN)))) (eC (.bl true)))) (tE (eB opNe (eF m_price_of (aC (eV 9) (aC (eV 5) aN))) (eB opAdd (eB opIx (eV 7) (eC (.int 0))) (eB opIx (eV 8) (eC (.int 0))))))) (sRet (eC (.bl false))) sNx)
  (sSeq (sIf (tOr (tE (eB opGt (eV 6) (eB opAdd (eB opIx (eV 7) (eC (.int 0))) (eB opIx (eV 8) (eC (.int 0)))))) (tE (eB opLt (eV 6) (eF bMax (aC (eB opIx (eV 7) (eC (.int 0))) (aC (eB opIx (eV 8) (eC (.int 0))) aN)))))) (sRet (eC (.bl false))) sNx)
  (sSeq (sAsg (gN 10) (eC (.str (Str.ofString "abcdefghijklmnopqrstuvwxyz"))))
  (sSeq (sAsg (gN 11) (eLc [13] (gN 13) (wE (eV 5)) tYes (eM "str" mJoin (eC (.str (Str.ofString ""))) (aC (eLc [14] (gN 14) (wE (eV 13)) tYes (eB opIx (eV 10) (eB opMod (eB opAdd (eM "str" mFind (eV 10) (aC (eV 14) aN)) (eV 4)) (eC (.int 26))))) aN))))
  (sIf (tE (eB opNe (eB opIx (eF m_least (aC (eV 12) (aC (eV 11) aN))) (eC (.int 0))) (eV 6))) (sRet (eC (.bl false))) sNx))))))))))))))))
  (sRet (eC (.bl true))))
def m_law : FM := fn0 1 15 m_law_b
def shC (t : Int) (c : Nat) : Nat := 97 + (((c : Int) - 97 + t) % 26).toNat
def shW (t : Int) (w : Str) : Str := S (w.cps.toList.map (shC t))
theorem shW_len (t : Int) (w : Str) : (shW t w).length = w.length := by
  unfold shW
  rw [S_len, List.length_map]
  rfl
theorem shC_small (t : Int) (c : Nat) : small (shC t c) := by
  unfold small shC
  have := Int.emod_nonneg ((c : Int) - 97 + t) (show (26 : Int) ≠ 0 by decide)
  have := Int.emod_lt_of_pos ((c : Int) - 97 + t) (show (0 : Int) < 26 by decide)
  omega
theorem shW_w (t : Int) {w : Str} (h : IsW w) : IsW (shW t w) := by
  obtain ⟨l, rfl, h1, h2, h3⟩ := h
  refine ⟨l.map (shC t), rfl, by rw [List.length_map]; exact h1, by rw [List.length_map]; exact h2, fun c hc => ?_⟩
  obtain ⟨x, _, rfl⟩ := List.mem_map.mp hc
  exact shC_small t x
theorem shC_back {t : Int} {c : Nat} (h : small c) : shC (26 - t) (shC t c) = c := by
  unfold small at h
  unfold shC
  have := Int.emod_nonneg ((c : Int) - 97 + t) (show (26 : Int) ≠ 0 by decide)
  have := Int.emod_lt_of_pos ((c : Int) - 97 + t) (show (0 : Int) < 26 by decide)
  omega
theorem shW_back {t : Int} {w : Str} (h : IsW w) : shW (26 - t) (shW t w) = w := by
  obtain ⟨l, rfl, _, _, h3⟩ := h
  unfold shW S
  simp only [List.map_map]
  congr 1
  congr 1
  refine (List.map_congr_left fun c hc => ?_).trans (List.map_id l)
  exact shC_back (h3 c hc)
theorem map_back {t : Int} {row : List Str} (h : Words row) : (row.map (shW t)).map (shW (26 - t)) = row := by
  rw [List.map_map]
  exact (List.map_congr_left fun w hw => shW_back (h w hw)).trans (List.map_id row)
theorem find_abc {c : Nat} (h : small c) : Txt.find (Str.ofString "abcdefghijklmnopqrstuvwxyz") (S [c]) = (c : Int) - 97 := by
  have k : ∀ i : Fin 26, Txt.find (Str.ofString "abcdefghijklmnopqrstuvwxyz") (S [97 + i.val]) = (i.val : Int) := by decide +kernel
  unfold small at h
  have := k ⟨c - 97, by omega⟩
  simp only [show 97 + (c - 97) = c by omega] at this
  rw [this]; omega
/-- the plans of both parts, one behind the other -/
theorem parts {room : Int} {row : List Str} {n : Nat} (hn : n ≤ row.length) (r0 : 0 ≤ room) {a b : PS} {l m : List D} (r : PRun (row.take n) (P0 room) l a) (ha : a.t = n) (r2 : PRun (row.drop n) (P0 room) m b) (hb : b.t = row.length - n) : ∃ c, PRun row (P0 room) (l ++ m) c ∧ c.t = row.length ∧ priceP row 0 (l ++ m) = priceP (row.take n) 0 l + priceP (row.drop n) 0 m := by
  obtain ⟨s1, p1, _, p3, p4⟩ := r.lift (row' := row) (o := 0) (fun i w hw => by
    rw [List.getElem?_take] at hw
    split at hw
    · exact hw
    · cases hw) (P0 room).s r0 (List.suffix_refl _) (Int.le_refl _)
  obtain ⟨s2, q1, _, _, q4⟩ := r2.lift (row' := row) (o := n) (fun i w hw => by
    rw [List.getElem?_drop] at hw
    rw [Nat.add_comm]; exact hw) s1 r0 List.nil_suffix (by rw [p3]; exact Int.le_refl _)
  have p1 : PRun row (P0 room) l ⟨s1, a.t⟩ := p1
  have p4 : priceP row 0 l = priceP (row.take n) 0 l := p4
  have q1 : PRun row ⟨s1, 0 + n⟩ m ⟨s2, b.t + n⟩ := q1
  have q4 : priceP row (0 + n) m = priceP (row.drop n) 0 m := q4
  rw [Nat.zero_add] at q1 q4
  have t := p1.told
  have t : a.t = 0 + (l.map tellN).sum := t
  rw [ha] at p1 t
  refine ⟨_, p1.app q1, by show b.t + n = _; omega, ?_⟩
  rw [priceP_app, ← t, p4, q4]
section
variable {X : D → Hm → Prop} {h : Hm} {Q : D → Hm → Prop}
theorem so_find {a b : Str} (q : Q (.int (Txt.find a b)) h) : SatX X (mFind (.str a) [.str b] h) Q := ⟨q⟩
/-- ways of both rows cost alike -/
theorem map_le {t room : Int} {row : List Str} {K' : List (List Str)} {F F' : Nat → List Str → Int} {l : List D} {k2 : List Str} (L' : Low room (ssT (row.map (shW t))) (row.map (shW t)) K' F') (r : Pth room (ssT row) row [] 0 l (F 0 []) k2 row.length) : F' 0 [] ≤ F 0 [] := by
  obtain ⟨l', r'⟩ := r.map (f := shW t) (shW_len t) (us' := ssT (row.map (shW t))) fun w hw => ssT_mem.mpr (List.mem_map_of_mem (ssT_mem.mp hw))
  obtain ⟨h1, h2⟩ := L'.path r' L'.nil
  have := L'.z _ h2
  rw [List.length_map] at this
  have h1 : F' 0 [] ≤ F 0 [] + F' row.length (k2.map (shW t)) := h1
  omega
end
theorem law_pure (ns : List Int) (hn : ns.length ≤ 63) : ∃ h1, m_law [.scr ns] [] = .ok (.bl true) h1 := by
  have s : Sat (m_law [.scr ns] []) fun d _ => d = .bl true := by
    refine sa_fn rfl ?_
    unfold m_law_b
    simp only [List.map_cons, List.map_nil, List.replicate, Nat.reduceSub, List.cons_append, List.nil_append]
    array_get_dec
    refine ss_forR (max 1 (min 2 (ns.length : Int))).toNat (fun i v h => ∃ x1 x2 x3 x4 x5 x6 x7 x8 x9 x10 x11 x12 x13 x14, v = [some (.scr ns), x1, x2, x3, x4, x5, x6, x7, x8, x9, x10, x11, x12, x13, x14]) (by
      array_get_dec
      exact ⟨by omega, by omega, rfl, rfl⟩) ⟨_, _, _, _, _, _, _, _, _, _, _, _, _, _, rfl⟩ ?_ ?_
    · rintro i v h hi ⟨x1, x2, x3, x4, x5, x6, x7, x8, x9, x10, x11, x12, x13, x14, rfl⟩
      simp only [List.set_cons_zero, List.set_cons_succ]
      array_get_dec
      refine reed_new (by omega) fun h1 w1 _ _ => ?_
      array_get_dec
      refine sip (B := 999990000) (w1.le (by omega)) (by decide) (by decide) fun at_ h2 a0 a1 d2 => ?_
      array_get_dec
      refine sip (B := 999980000) (d2.bow.le (by omega)) (by decide) (by decide) fun t h3 t0 t1 d3 => ?_
      array_get_dec
      refine ss_asgT ?_
      array_get_dec
      refine lrow (B := 999970000) (by decide) (by decide) (d3.bow.le (by omega)) fun room row0 some_ h4 r0 r1 hrow0 hl1 hl2 hs3 hsub0 d4 => ?_
      refine ⟨_, _, rfl, rfl, ?_⟩
      simp only [List.set_cons_zero, List.set_cons_succ]
      obtain ⟨a, rest, rfl⟩ : ∃ a rest, row0 = a :: rest := by
        cases row0 with
        | nil => simp at hl1
        | cons a rest => exact ⟨a, rest, rfl⟩
      rw [List.map_cons]
      array_get_dec
      refine so_addL (by simp at hl2 ⊢; omega) ?_
      rw [show D.str a :: List.map D.str rest ++ [D.str a] = ((a :: rest) ++ [a]).map D.str by simp]
      obtain ⟨row, er⟩ : ∃ row, row = (a :: rest) ++ [a] := ⟨_, rfl⟩
      have hrow : Words row := fun w hw => by
        rw [er] at hw
        rcases List.mem_append.mp hw with h | h
        · exact hrow0 w h
        · rw [List.mem_singleton.mp h]; exact hrow0 a List.mem_cons_self
      have hsub : ∀ w ∈ row, w ∈ some_ := fun w hw => by
        rw [er] at hw
        rcases List.mem_append.mp hw with h | h
        · exact hsub0 w h
        · rw [List.mem_singleton.mp h]; exact hsub0 a List.mem_cons_self
      have hlen : row.length = (a :: rest).length + 1 := by rw [er]; simp
      rw [← er]
      generalize hn0 : (a :: rest).length = n0 at hlen hl1 hl2
      clear er hn0
      array_get_dec
      rw [List.length_map]
      refine so_mod (by omega) ?_
      array_get_dec
      obtain ⟨at2, e2⟩ : ∃ at2 : Nat, (1 + at_ % ((row.length : Int) - 1)) = (at2 : Int) := ⟨(1 + at_ % ((row.length : Int) - 1)).toNat, by have := Int.emod_nonneg at_ (show (row.length : Int) - 1 ≠ 0 by omega); omega⟩
      have b0 := Int.emod_nonneg at_ (show (row.length : Int) - 1 ≠ 0 by omega)
      have b1 := Int.emod_lt_of_pos at_ (show 0 < (row.length : Int) - 1 by omega)
      have b2 : 1 ≤ at2 ∧ at2 < row.length := by omega
      rw [e2]
      clear e2 b0 b1
      have hrl : row.length ≤ 8 := by omega
      have z : Szs room (ssT row) := szs_of r0 (by omega) hrow hsub hs3
      have hA : Words (row.take at2) := fun w hw => hrow w (List.mem_of_mem_take hw)
      have hB : Words (row.drop at2) := fun w hw => hrow w (List.mem_of_mem_drop hw)
      have zA : Szs room (ssT (row.take at2)) := szs_of r0 (by omega) hA (fun w hw => hsub w (List.mem_of_mem_take hw)) hs3
      have zB : Szs room (ssT (row.drop at2)) := szs_of r0 (by omega) hB (fun w hw => hsub w (List.mem_of_mem_drop hw)) hs3
      have lA : (row.take at2).length = at2 := by rw [List.length_take]; omega
      have lB : (row.drop at2).length = row.length - at2 := List.length_drop
      refine least z hrow (by omega) fun K F l k2 C L r hll => ?_
      array_get_dec
      refine so_wTo (by omega) ?_
      rw [Int.toNat_natCast]
      array_get_dec
      refine least zA hA (by omega) fun KA FA lA_ kA2 CA LA rA hlA => ?_
      array_get_dec
      refine so_wFrom (by omega) ?_
      rw [Int.toNat_natCast]
      array_get_dec
      refine least zB hB (by omega) fun KB FB lB_ kB2 CB LB rB hlB => ?_
      array_get_dec
      refine so_addL (by omega) ?_
      array_get_dec
      obtain ⟨bA, pA, tA, cA⟩ := rA.plan zA
      obtain ⟨bB, pB, tB, cB⟩ := rB.plan zB
      obtain ⟨bb, pp, tt, cc⟩ := parts (by omega) r0 pA (tA.trans lA) pB (tB.trans lB)
      have thl : ∀ x ∈ lA_ ++ lB_, Th 20 100000 x := fun x hx => by
        rcases List.mem_append.mp hx with h | h
        · exact rA.th zA (KOk.nil r0) x h
        · exact rB.th zB (KOk.nil r0) x h
      refine is_planD r0 (by omega) (by omega) thl ?_
      rw [runP_iff.mpr ⟨bb, pp, tt⟩]
      array_get_dec
      refine so_notB ?_
      refine ⟨_, rfl, fun _ => ?_, fun z => nomatch z⟩
      array_get_dec
      refine price_of pp (P0_g r0 (by omega)) rfl hrow (by rw [List.length_append]; omega) ?_
      array_get_dec
      rw [show (!decide (priceP row 0 (lA_ ++ lB_) = FA 0 [] + FB 0 [])) = false by simp [cc, cA, cB]]
      refine ⟨(fun z => nomatch z), fun _ => ?_⟩
      array_get_dec
      have up := (L.low C).run z (fun w hw => ssT_mem.mpr hw) pp tt r0 (Int.le_refl _)
      obtain ⟨bR, pR, tR, cR⟩ := r.plan z
      have dA := (LA.low CA).shadow zA (fun w hw => ssT_mem.mpr hw) (row := row) (g := fun p => min p at2) (fun p w hw => by
        by_cases c : p < at2
        · exact .inr ⟨by omega, by rw [Nat.min_eq_left (by omega), List.getElem?_take, if_pos c]; exact hw⟩
        · exact .inl (by omega)) (fun p => by rw [lA]; exact Nat.min_le_right _ _) pR (by rw [tR, lA]; omega) r0 (Int.le_refl _) [] CA.nil List.nil_suffix
      have dB := (LB.low CB).shadow zB (fun w hw => ssT_mem.mpr hw) (row := row) (g := fun p => min (p - at2) (row.length - at2)) (fun p w hw => by
        have := (List.getElem?_eq_some_iff.mp hw).1
        by_cases c : p < at2
        · exact .inl (by omega)
        · exact .inr ⟨by omega, by rw [Nat.min_eq_left (by omega), List.getElem?_drop, show at2 + (p - at2) = p by omega]; exact hw⟩) (fun p => by rw [lB]; exact Nat.min_le_right _ _) pR (by rw [tR, lB]; omega) r0 (Int.le_refl _) [] CB.nil List.nil_suffix
      have dA : FA 0 [] ≤ priceP row 0 l := by
        have e : min 0 at2 = 0 := by omega
        have dA : FA (min 0 at2) [] ≤ priceP row 0 l := dA
        rw [e] at dA; exact dA
      have dB : FB 0 [] ≤ priceP row 0 l := by
        have e : min (0 - at2) (row.length - at2) = 0 := by omega
        have dB : FB (min (0 - at2) (row.length - at2)) [] ≤ priceP row 0 l := dB
        rw [e] at dB; exact dB
      rw [decide_eq_false (show ¬ F 0 [] > FA 0 [] + FB 0 [] by omega)]
      refine ⟨fun _ => ?_, fun z => nomatch z⟩
      array_get_dec
      rw [decide_eq_false (show ¬ F 0 [] < max (FA 0 []) (FB 0 []) by omega)]
      refine ⟨(fun z => nomatch z), fun _ => ?_⟩
      array_get_dec
      refine sa_LcE (h1 := h4) row D.str (fun w => _) (fun _ => true) (fun w => .str (shW (1 + t) w)) (by omega) ?_ (fun w hw => rfl) (fun w hw P p => sa_tYes p) (fun w hw _ P p => ?_) ?_
      · array_get_dec
        exact so_wkL ⟨rfl, rfl, rfl⟩
      · obtain ⟨cs, rfl, c1, c2, c3⟩ := hrow w hw
        simp only [wipeE, List.foldr, List.set_cons_zero, List.set_cons_succ]
        array_get_dec
        refine ⟨rfl, ?_⟩
        array_get_dec
        refine sa_LcE (h1 := h4) cs (fun c => .str (S [c])) (fun c => _) (fun _ => true) (fun c => .str (S [shC (1 + t) c])) (by omega) ?_ (fun c hc => rfl) (fun c hc P p => sa_tYes p) (fun c hc _ P p => ?_) ?_
        · array_get_dec
          exact so_wkS ⟨by simp [S], rfl, rfl⟩
        · simp only [wipeE, List.foldr, List.set_cons_zero, List.set_cons_succ]
          array_get_dec
          refine ⟨rfl, ?_⟩
          array_get_dec
          refine so_find ?_
          rw [find_abc (c3 c hc)]
          array_get_dec
          refine so_ixS (by rw [abc_len]; decide) (abc_exact (Int.emod_nonneg _ (by decide)) (Int.emod_lt_of_pos _ (by decide))) ?_
          exact p
        · rw [List.filter_eq_self.mpr (fun _ _ => rfl)]
          array_get_dec
          rw [show (cs.map fun c => D.str (S [shC (1 + t) c])) = (cs.map (shC (1 + t))).map fun c => D.str (S [c]) by rw [List.map_map]; rfl]
          exact so_joinL (by rw [List.length_map]; omega) p
      · rw [List.filter_eq_self.mpr (fun _ _ => rfl)]
        array_get_dec
        rw [show (row.map fun w => D.str (shW (1 + t) w)) = (row.map (shW (1 + t))).map D.str by rw [List.map_map]; rfl]
        have hM : Words (row.map (shW (1 + t))) := fun w hw => by
          obtain ⟨x, hx, rfl⟩ := List.mem_map.mp hw
          exact shW_w _ (hrow x hx)
        have zM : Szs room (ssT (row.map (shW (1 + t)))) := szs_of (some_ := some_.map (shW (1 + t))) r0 (by omega) hM (fun w hw => by
          obtain ⟨x, hx, rfl⟩ := List.mem_map.mp hw
          exact List.mem_map_of_mem (hsub x hx)) (by rw [List.length_map]; exact hs3)
        refine least zM hM (by rw [List.length_map]; omega) fun KM FM lM kM2 CM LM rM hlM => ?_
        array_get_dec
        have e1 := map_le (LM.low CM) r
        have e2 : F 0 [] ≤ FM 0 [] := by
          have L' := L.low C
          have e := map_back (t := 1 + t) hrow
          exact map_le (t := 26 - (1 + t)) (row := row.map (shW (1 + t))) (by rw [e]; exact L') rM
        rw [show (!decide (FM 0 [] = F 0 [])) = false by simp; omega]
        refine ⟨(fun z => nomatch z), fun _ => ?_⟩
        exact ss_nx ⟨_, _, _, _, _, _, _, _, _, _, _, _, _, _, rfl⟩
    · rintro v h ⟨x1, x2, x3, x4, x5, x6, x7, x8, x9, x10, x11, x12, x13, x14, rfl⟩
      array_get_dec
      rfl
  obtain ⟨d, h, e, rfl⟩ := s.get
  exact ⟨h, e⟩
end Lw
set_option Elab.async false
set_option linter.all false
set_option maxRecDepth 100000
set_option maxHeartbeats 8000000
namespace Lw
open PySem PySem.Spec PyProof.Rows L2 Dn
def top (i : Nat) : Stmt := PySem.Challenge.pw_nickbook_k51_whole_rows_put_together.main.body.getD i (.Pass ⟨0, 0, 0, 0⟩)
structure Tx (mg : Str → Option Value) : Prop where
  n_all : mg "all" = none
  n_bool : mg "bool" = none
  n_enumerate : mg "enumerate" = none
  n_int : mg "int" = none
  n_isinstance : mg "isinstance" = none
  n_len : mg "len" = none
  n_list : mg "list" = none
  n_max : mg "max" = none
  n_min : mg "min" = none
  n_range : mg "range" = none
  n_reversed : mg "reversed" = none
  n_set : mg "set" = none
  n_sorted : mg "sorted" = none
  n_str : mg "str" = none
  n_sum : mg "sum" = none
  n_tuple : mg "tuple" = none
  c_LETTERS : ∃ t, mg "LETTERS" = some (.str (Str.ofString "abcdefghijklmnopqrstuvwxyz") t)
  c_MOST_BACK : ∃ t, mg "MOST_BACK" = some (.int 999 t)
  c_MOST_LETTERS : ∃ t, mg "MOST_LETTERS" = some (.int 12 t)
  c_MOST_ROOM : ∃ t, mg "MOST_ROOM" = some (.int 200 t)
  c_WEIGHT_BESIDE : ∃ t, mg "WEIGHT_BESIDE" = some (.int 2 t)
structure Ux (P : Program) (w : World) (K : PySem.W.Frag) (mg : Str → Option Value) (base : Heap) (cl : Str → Option Addr) (tb : List (Addr × Str)) : Prop where
  tab : XTab ⟨K, cl, tb⟩
  n_BookError : XNm mg cl "BookError"
  n_NoRoom : XNm mg cl "NoRoom"
  n_NoWord : XNm mg cl "NoWord"
  x_NoRoom : XNo K mg cl "NoRoom"
  x_NoWord : XIn P w K mg base cl "NoWord" "number"
  f_number : ∀ c A, cl c = some A → PySem.W.findIn K (.ref A) "number" = some none
section
variable {P : Program} {w : World} {K : PySem.W.Frag} {mg : Str → Option Value} {base : Heap} {cl : Str → Option Addr} {tb : List (Addr × Str)}
abbrev s_NoWord_i : Stmt := inClass (top 3) 0
theorem sc_NoWord_i : FnScope ["self", "number"] ["self", "number"] (defScope s_NoWord_i) := ⟨rfl, rfl, rfl, by decide +kernel, rfl, by decide +kernel, by decide +kernel⟩
theorem ini_NoWord {fI A BA : Addr} {fd : FuncData} (F : Fun K "__init__" "NoWord.__init__" s_NoWord_i fI fd) (X : XCls K A) (hno : PySem.W.findIn K (.ref A) "number" = some none) (B : BIni K mg "BookError" BA) : FnOk P w K mg base CX0 1 fI fd ["self", "number"] (spIni A "number") :=
  F.ok sc_NoWord_i (fun vs H Q E h => by obtain ⟨a, y, e, _⟩ := h; subst e; rfl) fun cdv A outer s H vs Q E hr h => ⟨_, pss_cons (ps_expr (pe_bini rfl B (pa_cons (pv 0) (pa_cons pe_str pa_nil)))) (pss_one (ps_ost (pv 0) (pv 1))), ini_reads X.ox hno rfl h⟩
abbrev s_law_reed : Stmt := top 45
theorem sc_law_reed : FnScope ["script", "k", "cell", "rest"] ["script", "k"] (defScope s_law_reed) := ⟨rfl, rfl, rfl, by decide +kernel, rfl, by decide +kernel, by decide +kernel⟩
theorem ok_law_reed {f : Addr} {fd : FuncData} (F : Fun K "_law_reed" "_law_reed" s_law_reed f fd) (g : mg "_law_reed" = some (.ref f)) (T : Tx mg) (U : Ux P w K mg base cl tb)  : Cal P w K mg base ⟨K, cl, tb⟩ CX0 1 "_law_reed" ["script", "k"] m_law_reed := by
  have nd := sc_law_reed.nd
  refine ⟨f, fd, fn_ok0 F sc_law_reed fun cdv A outer s H E hr => ?_, g, F.kp, (F.binds fun _ _ _ _ _ _ us hl => match us, hl with | [_, _], _ => rfl)⟩
  have hr0 := hr.mono (Nat.zero_le _)
  exact (dss_cons (ds_set (i := 2) nd rfl (Or.inl rfl) (de_op do_add nox_add (de_op do_mul nox_mul de_int (de_var 1)) de_int))
  (dss_cons (ds_if (dt_cmp do_lt nox_lt (de_var 1) (de_callB (db_len rfl) nox_bLen (by rfl) T.n_len bt_len (da_cons (de_var 0) da_nil)) (nomark _)) (dss_one (ds_set (i := 2) nd rfl (Or.inl rfl) (de_ix (do_ix rfl hr0) nox_ix (de_var 0) (de_var 1) (fun _ _ => rfl)))) dss_nil)
  (dss_cons (ds_set (i := 3) nd rfl (Or.inl rfl) de_int)
  (dss_cons (ds_if (dt_cmp do_ge nox_ge (de_var 2) (de_op do_pow nox_pow de_int de_int) (nomark _)) (dss_one (ds_set (i := 3) nd rfl (Or.inl rfl) (de_op do_sub nox_sub (de_var 2) (de_op do_pow nox_pow de_int de_int)))) dss_nil)
  (dss_one (ds_ret (de_new (da_cons (de_var 3) (da_cons (de_op do_add nox_add (de_op do_mod nox_mod (de_var 2) de_int) (de_op do_mul nox_mul de_int (de_var 1))) (da_cons de_int da_nil))))))))))
abbrev s_law_sip : Stmt := top 46
theorem sc_law_sip : FnScope ["reed", "many", "primes", "prime", "one", "two", "digit"] ["reed", "many"] (defScope s_law_sip) := ⟨rfl, rfl, rfl, by decide +kernel, rfl, by decide +kernel, by decide +kernel⟩
theorem ok_law_sip {f : Addr} {fd : FuncData} (F : Fun K "_law_sip" "_law_sip" s_law_sip f fd) (g : mg "_law_sip" = some (.ref f)) (T : Tx mg) (U : Ux P w K mg base cl tb)  : Cal P w K mg base ⟨K, cl, tb⟩ CX0 1 "_law_sip" ["reed", "many"] m_law_sip := by
  have nd := sc_law_sip.nd
  refine ⟨f, fd, fn_ok0 F sc_law_sip fun cdv A outer s H E hr => ?_, g, F.kp, (F.binds fun _ _ _ _ _ _ us hl => match us, hl with | [_, _], _ => rfl)⟩
  have hr0 := hr.mono (Nat.zero_le _)
  exact (dss_cons (ds_if (dt_cmp do_ge nox_ge (de_ix (do_ix rfl hr0) nox_ix (de_var 0) de_int (fun _ _ => rfl)) (de_var 1) (nomark _)) (dss_cons (ds_set (i := 6) nd rfl (Or.inl rfl) (de_op do_mod nox_mod (de_ix (do_ix rfl hr0) nox_ix (de_var 0) de_int (fun _ _ => rfl)) (de_var 1)))
  (dss_cons (ds_put hr0 (de_op do_div nox_div (de_ix (do_ix rfl hr0) nox_ix (de_var 0) de_int (fun _ _ => rfl)) (de_var 1)) (de_var 0) de_int)
  (dss_one (ds_ret (de_var 6))))) dss_nil)
  (dss_cons (ds_put hr0 (de_op do_add nox_add (de_ix (do_ix rfl hr0) nox_ix (de_var 0) de_int (fun _ _ => rfl)) de_int) (de_var 0) de_int)
  (dss_cons (ds_set (i := 2) nd rfl (Or.inl rfl) (de_lst (da_cons de_int (da_cons de_int (da_cons de_int (da_cons de_int (da_cons de_int (da_cons de_int (da_cons de_int (da_cons de_int da_nil))))))))))
  (dss_cons (ds_set (i := 3) nd rfl (Or.inl rfl) (de_ix (do_ix rfl hr0) nox_ix (de_var 2) (de_op do_mod nox_mod (de_ix (do_ix rfl hr0) nox_ix (de_var 0) de_int (fun _ _ => rfl)) de_int) (fun _ _ => rfl)))
  (dss_cons (ds_set (i := 4) nd rfl (Or.inl rfl) (de_op do_add nox_add (de_op do_mul nox_mul (de_op do_mod nox_mod (de_ix (do_ix rfl hr0) nox_ix (de_var 0) de_int (fun _ _ => rfl)) (de_var 3)) (de_op do_add nox_add (de_op do_mul nox_mul de_int (de_ix (do_ix rfl hr0) nox_ix (de_var 0) de_int (fun _ _ => rfl))) de_int)) (de_op do_mul nox_mul de_int (de_ix (do_ix rfl hr0) nox_ix (de_var 0) de_int (fun _ _ => rfl)))))
  (dss_cons (ds_set (i := 4) nd rfl (Or.inl rfl) (de_op do_mod nox_mod (de_op do_pow nox_pow (de_var 4) de_int) (de_var 3)))
  (dss_cons (ds_set (i := 5) nd rfl (Or.inl rfl) (de_op do_add nox_add (de_op do_add nox_add (de_op do_mul nox_mul (de_var 4) (de_var 4)) (de_op do_mod nox_mod (de_ix (do_ix rfl hr0) nox_ix (de_var 0) de_int (fun _ _ => rfl)) de_int)) (de_ix (do_ix rfl hr0) nox_ix (de_var 0) de_int (fun _ _ => rfl))))
  (dss_one (ds_ret (de_op do_mod nox_mod (de_op do_div nox_div (de_op do_mod nox_mod (de_op do_pow nox_pow (de_var 5) de_int) (de_ix (do_ix rfl hr0) nox_ix (de_var 2) (de_op do_mod nox_mod (de_op do_add nox_add (de_ix (do_ix rfl hr0) nox_ix (de_var 0) de_int (fun _ _ => rfl)) de_int) de_int) (fun _ _ => rfl))) de_int) (de_var 1)))))))))))
abbrev s_law_row : Stmt := top 47
theorem sc_law_row : FnScope ["reed", "most", "way", "many", "letters", "room", "some", "turn", "size", "one"] ["reed", "most"] (defScope s_law_row) := ⟨rfl, rfl, rfl, by decide +kernel, rfl, by decide +kernel, by decide +kernel⟩
theorem ok_law_row {f : Addr} {fd : FuncData} (F : Fun K "_law_row" "_law_row" s_law_row f fd) (g : mg "_law_row" = some (.ref f)) (T : Tx mg) (U : Ux P w K mg base cl tb) (c_law_sip : Cal P w K mg base ⟨K, cl, tb⟩ CX0 1 "_law_sip" ["reed", "many"] m_law_sip) : Cal P w K mg base ⟨K, cl, tb⟩ CX0 2 "_law_row" ["reed", "most"] m_law_row_r := by
  have nd := sc_law_row.nd
  refine Cal.tr (fm := fn0 2 10 m_law_row_r_b) ⟨f, fd, fn_ok0 F sc_law_row fun cdv A outer s H E hr => ?_, g, F.kp, (F.binds fun _ _ _ _ _ _ us hl => match us, hl with | [_, _], _ => rfl)⟩
  have hr0 := hr.mono (Nat.zero_le _)
  exact (dss_cons (ds_set (i := 2) nd rfl (Or.inl rfl) (de_callC c_law_sip hr (by decide) (by rfl) (fun _ => pass0X) (da_cons (de_var 0) (da_cons de_int da_nil))))
  (dss_cons (ds_set (i := 3) nd rfl (Or.inl rfl) (de_op do_add nox_add de_int (de_callC c_law_sip hr (by decide) (by rfl) (fun _ => pass0X) (da_cons (de_var 0) (da_cons (de_var 1) da_nil)))))
  (dss_cons (ds_set (i := 4) nd rfl (Or.inr rfl) de_str)
  (dss_cons (ds_set (i := 5) nd rfl (Or.inl rfl) (de_ix (do_ix rfl hr0) nox_ix (de_lst (da_cons de_int (da_cons (de_callC c_law_sip hr (by decide) (by rfl) (fun _ => pass0X) (da_cons (de_var 0) (da_cons de_int da_nil))) (da_cons (de_op do_add nox_add de_int (de_callC c_law_sip hr (by decide) (by rfl) (fun _ => pass0X) (da_cons (de_var 0) (da_cons de_int da_nil)))) (da_cons de_int da_nil))))) (de_var 2) (fun _ _ => rfl)))
  (dss_cons (ds_set (i := 6) nd rfl (Or.inr rfl) (de_new da_nil))
  (dss_cons (ds_for PassesOwn.never rfl (di_r1 (by rfl) T.n_range (de_op do_add nox_add de_int (de_callC c_law_sip hr (by decide) (by rfl) (fun _ => pass0X) (da_cons (de_var 0) (da_cons de_int da_nil))))) (dg_name (i := 7) nd rfl (Or.inl rfl)) (dss_cons (ds_set (i := 8) nd rfl (Or.inl rfl) (de_op do_add nox_add de_int (de_callC c_law_sip hr (by decide) (by rfl) (fun _ => pass0X) (da_cons (de_var 0) (da_cons (de_ix (do_ix rfl hr0) nox_ix (de_lst (da_cons de_int (da_cons de_int (da_cons de_int (da_cons de_int da_nil))))) (de_callC c_law_sip hr (by decide) (by rfl) (fun _ => pass0X) (da_cons (de_var 0) (da_cons de_int da_nil))) (fun _ _ => rfl)) da_nil)))))
  (dss_one (ds_expr (de_bm PySem.F.plainAttrs_list PySem.F.slot_list_append PySem.F.type_list_append dm_append nox_append (de_var 6) (da_cons (de_bm PySem.F.plainAttrs_str PySem.F.slot_str_join PySem.F.type_str_join dm_join nox_join de_str (da_cons (de_lc rfl nd (own := [("one", 9)]) (blkOk_by (N := ["reed", "most", "way", "many", "letters", "room", "some", "turn", "size", "one"]) (sc := defScope s_law_row) (by decide +kernel)) (di_r1 (by rfl) T.n_range (de_callB (db_min rfl) nox_bMin (by rfl) T.n_min bt_min (da_cons de_int (da_cons (de_var 8) da_nil)))) (lcg_name (by decide)) (fun _ _ _ _ _ => (pg_name (i := 9) nd rfl (Or.inl rfl))) (fun _ _ _ _ _ => dts_nil) (fun _ _ _ _ _ => (de_ix (do_ix rfl hr0) nox_ix (de_var 4) (de_callC c_law_sip hr (by decide) (by rfl) (fun _ => pass0X) (da_cons (de_var 0) (da_cons de_int da_nil))) (fun _ _ => rfl)))) da_nil)) da_nil))))))
  (dss_one (ds_ret (de_tup (da_cons (de_var 5) (da_cons (de_lc rfl nd (own := [("turn", 7)]) (blkOk_by (N := ["reed", "most", "way", "many", "letters", "room", "some", "turn", "size", "one"]) (sc := defScope s_law_row) (by decide +kernel)) (di_r1 (by rfl) T.n_range (de_var 3)) (lcg_name (by decide)) (fun _ _ _ _ _ => (pg_name (i := 7) nd rfl (Or.inl rfl))) (fun _ _ _ _ _ => dts_nil) (fun _ _ _ _ _ => (de_ix (do_ix rfl hr0) nox_ix (de_var 6) (de_callC c_law_sip hr (by decide) (by rfl) (fun _ => pass0X) (da_cons (de_var 0) (da_cons (de_callB (db_len rfl) nox_bLen (by rfl) T.n_len bt_len (da_cons (de_var 6) da_nil)) da_nil))) (fun _ _ => rfl)))) da_nil)))))))))))
abbrev s_weight : Stmt := top 10
theorem sc_weight : FnScope ["word"] ["word"] (defScope s_weight) := ⟨rfl, rfl, rfl, by decide +kernel, rfl, by decide +kernel, by decide +kernel⟩
theorem ok_weight {f : Addr} {fd : FuncData} (F : Fun K "weight" "weight" s_weight f fd) (g : mg "weight" = some (.ref f)) (T : Tx mg) (U : Ux P w K mg base cl tb)  : Cal P w K mg base ⟨K, cl, tb⟩ CX0 1 "weight" ["word"] m_weight := by
  have nd := sc_weight.nd
  refine ⟨f, fd, fn_ok0 F sc_weight fun cdv A outer s H E hr => ?_, g, F.kp, (F.binds fun _ _ _ _ _ _ us hl => match us, hl with | [_], _ => rfl)⟩
  have hr0 := hr.mono (Nat.zero_le _)
  exact (dss_one (ds_ret (de_op do_add nox_add (de_callB (db_len rfl) nox_bLen (by rfl) T.n_len bt_len (da_cons (de_var 0) da_nil)) (de_gI (by rfl) T.c_WEIGHT_BESIDE))))
abbrev s_behind_put : Stmt := top 34
theorem sc_behind_put : FnScope ["room", "kept", "word", "left", "one"] ["room", "kept", "word"] (defScope s_behind_put) := ⟨rfl, rfl, rfl, by decide +kernel, rfl, by decide +kernel, by decide +kernel⟩
theorem ok_behind_put {f : Addr} {fd : FuncData} (F : Fun K "behind_put" "behind_put" s_behind_put f fd) (g : mg "behind_put" = some (.ref f)) (T : Tx mg) (U : Ux P w K mg base cl tb) (c_weight : Cal P w K mg base ⟨K, cl, tb⟩ CX0 1 "weight" ["word"] m_weight) : Cal P w K mg base ⟨K, cl, tb⟩ CX0 2 "behind_put" ["room", "kept", "word"] m_behind_put := by
  have nd := sc_behind_put.nd
  refine Cal.tr (fm := fn0 3 5 m_behind_put_b) ⟨f, fd, fn_ok0 F sc_behind_put fun cdv A outer s H E hr => ?_, g, F.kp, (F.binds fun _ _ _ _ _ _ us hl => match us, hl with | [_, _, _], _ => rfl)⟩
  have hr0 := hr.mono (Nat.zero_le _)
  exact (dss_cons (ds_set (i := 3) nd rfl (Or.inl rfl) (de_op do_addN nox_addN (de_callTy db_list nox_bList (by rfl) T.n_list bt_list (da_cons (de_var 1) da_nil)) (de_lst (da_cons (de_var 2) da_nil))))
  (dss_cons (ds_while PassesOwn.never (dt_cmp do_gt nox_gt (de_callB (db_sum rfl) nox_bSum (by rfl) T.n_sum bt_sum (da_cons (de_lc rfl nd (own := [("one", 4)]) (blkOk_by (N := ["room", "kept", "word", "left", "one"]) (sc := defScope s_behind_put) (by decide +kernel)) (di_e rfl (de_var 3)) (lcg_name (by decide)) (fun _ _ _ _ _ => (pg_name (i := 4) nd rfl (Or.inl rfl))) (fun _ _ _ _ _ => dts_nil) (fun _ _ _ _ _ => (de_callC c_weight hr (by decide) (by rfl) (fun _ => pass0X) (da_cons (de_var 4) da_nil)))) da_nil)) (de_var 0) (nomark _)) (dss_one (ds_expr (de_bm PySem.F.plainAttrs_list PySem.F.slot_list_pop PySem.F.type_list_pop dm_pop nox_pop (de_var 3) (da_cons de_int da_nil)))))
  (dss_one (ds_ret (de_callTy db_tuple nox_bTuple (by rfl) T.n_tuple bt_tuple (da_cons (de_var 3) da_nil))))))
abbrev s_deed_text : Stmt := top 23
theorem sc_deed_text : FnScope ["deed"] ["deed"] (defScope s_deed_text) := ⟨rfl, rfl, rfl, by decide +kernel, rfl, by decide +kernel, by decide +kernel⟩
theorem ok_deed_text {f : Addr} {fd : FuncData} (F : Fun K "deed_text" "deed_text" s_deed_text f fd) (g : mg "deed_text" = some (.ref f)) (T : Tx mg) (U : Ux P w K mg base cl tb)  : Cal P w K mg base ⟨K, cl, tb⟩ CX0 1 "deed_text" ["deed"] m_deed_text := by
  have nd := sc_deed_text.nd
  refine ⟨f, fd, fn_ok0 F sc_deed_text fun cdv A outer s H E hr => ?_, g, F.kp, (F.binds fun _ _ _ _ _ _ us hl => match us, hl with | [_], _ => rfl)⟩
  have hr0 := hr.mono (Nat.zero_le _)
  exact (dss_cons (ds_if (dt_cmp (do_eq hr0) nox_eq (de_ix (do_ix rfl hr0) nox_ix (de_var 0) de_int (fun _ _ => rfl)) de_str (nomark _)) (dss_one (ds_ret (de_op do_add nox_add de_str (de_ix (do_ix rfl hr0) nox_ix (de_var 0) de_int (fun _ _ => rfl))))) dss_nil)
  (dss_one (ds_ret (de_op do_add nox_add (de_if (dt_cmp (do_eq hr0) nox_eq (de_ix (do_ix rfl hr0) nox_ix (de_var 0) de_int (fun _ _ => rfl)) de_str (nomark _)) de_str de_str) (de_callTy db_str nox_bStr (by rfl) T.n_str bt_str (da_cons (de_ix (do_ix rfl hr0) nox_ix (de_var 0) de_int (fun _ _ => rfl)) da_nil))))))
abbrev s_deed_price : Stmt := top 25
theorem sc_deed_price : FnScope ["deed"] ["deed"] (defScope s_deed_price) := ⟨rfl, rfl, rfl, by decide +kernel, rfl, by decide +kernel, by decide +kernel⟩
theorem ok_deed_price {f : Addr} {fd : FuncData} (F : Fun K "deed_price" "deed_price" s_deed_price f fd) (g : mg "deed_price" = some (.ref f)) (T : Tx mg) (U : Ux P w K mg base cl tb) (c_deed_text : Cal P w K mg base ⟨K, cl, tb⟩ CX0 1 "deed_text" ["deed"] m_deed_text) : Cal P w K mg base ⟨K, cl, tb⟩ CX0 2 "deed_price" ["deed"] m_deed_price := by
  have nd := sc_deed_price.nd
  refine ⟨f, fd, fn_ok0 F sc_deed_price fun cdv A outer s H E hr => ?_, g, F.kp, (F.binds fun _ _ _ _ _ _ us hl => match us, hl with | [_], _ => rfl)⟩
  have hr0 := hr.mono (Nat.zero_le _)
  exact (dss_one (ds_ret (de_op do_add nox_add (de_callB (db_len rfl) nox_bLen (by rfl) T.n_len bt_len (da_cons (de_callC c_deed_text hr (by decide) (by rfl) (fun _ => pass0X) (da_cons (de_var 0) da_nil)) da_nil)) de_int)))
abbrev s_deeds_at : Stmt := top 35
theorem sc_deeds_at : FnScope ["room", "kept", "row", "found", "word", "at", "deed"] ["room", "kept", "row"] (defScope s_deeds_at) := ⟨rfl, rfl, rfl, by decide +kernel, rfl, by decide +kernel, by decide +kernel⟩
theorem ok_deeds_at {f : Addr} {fd : FuncData} (F : Fun K "deeds_at" "deeds_at" s_deeds_at f fd) (g : mg "deeds_at" = some (.ref f)) (T : Tx mg) (U : Ux P w K mg base cl tb) (c_weight : Cal P w K mg base ⟨K, cl, tb⟩ CX0 1 "weight" ["word"] m_weight) (c_behind_put : Cal P w K mg base ⟨K, cl, tb⟩ CX0 2 "behind_put" ["room", "kept", "word"] m_behind_put) (c_deed_price : Cal P w K mg base ⟨K, cl, tb⟩ CX0 2 "deed_price" ["deed"] m_deed_price) : Cal P w K mg base ⟨K, cl, tb⟩ CX0 3 "deeds_at" ["room", "kept", "row"] m_deeds_at := by
  have nd := sc_deeds_at.nd
  refine Cal.tr (fm := fn0 3 7 m_deeds_at_b) ⟨f, fd, fn_ok0 F sc_deeds_at fun cdv A outer s H E hr => ?_, g, F.kp, (F.binds fun _ _ _ _ _ _ us hl => match us, hl with | [_, _, _], _ => rfl)⟩
  have hr0 := hr.mono (Nat.zero_le _)
  exact (dss_cons (ds_set (i := 3) nd rfl (Or.inl rfl) (de_new da_nil))
  (dss_cons (ds_for PassesOwn.never rfl (di_e rfl (de_sset rfl (by rfl) T.n_sorted bt_sorted (by rfl) T.n_set bt_set (de_var 2))) (dg_name (i := 4) nd rfl (Or.inl rfl)) (dss_one (ds_if (dt_cmp do_le nox_le (de_callC c_weight hr (by decide) (by rfl) (fun _ => pass0X) (da_cons (de_var 4) da_nil)) (de_var 0) (nomark _)) (dss_one (ds_expr (de_bm PySem.F.plainAttrs_list PySem.F.slot_list_append PySem.F.type_list_append dm_append nox_append (de_var 3) (da_cons (de_tup (da_cons (de_callC c_behind_put hr (by decide) (by rfl) (fun _ => pass0X) (da_cons (de_var 0) (da_cons (de_var 1) (da_cons (de_var 4) da_nil)))) (da_cons (de_callC c_deed_price hr (by decide) (by rfl) (fun _ => pass0X) (da_cons (de_tup (da_cons de_str (da_cons (de_var 4) da_nil))) da_nil)) (da_cons (de_tup (da_cons de_str (da_cons (de_var 4) da_nil))) da_nil)))) da_nil)))) dss_nil)))
  (dss_cons (ds_for PassesOwn.never rfl (di_enT rfl (by rfl) T.n_enumerate (de_var 1)) (dg_tup rfl rfl (dgn_cons (i := 5) (dgn_cons (i := 4) dgn_nil nd rfl (Or.inl rfl)) nd rfl (Or.inl rfl))) (dss_cons (ds_set (i := 6) nd rfl (Or.inl rfl) (de_tup (da_cons de_str (da_cons (de_op do_sub nox_sub (de_callB (db_len rfl) nox_bLen (by rfl) T.n_len bt_len (da_cons (de_var 1) da_nil)) (de_var 5)) da_nil))))
  (dss_one (ds_expr (de_bm PySem.F.plainAttrs_list PySem.F.slot_list_append PySem.F.type_list_append dm_append nox_append (de_var 3) (da_cons (de_tup (da_cons (de_callC c_behind_put hr (by decide) (by rfl) (fun _ => pass0X) (da_cons (de_var 0) (da_cons (de_var 1) (da_cons (de_var 4) da_nil)))) (da_cons (de_callC c_deed_price hr (by decide) (by rfl) (fun _ => pass0X) (da_cons (de_var 6) da_nil)) (da_cons (de_var 6) da_nil)))) da_nil))))))
  (dss_one (ds_ret (de_fz (de_var 3)))))))
abbrev s_all_deeds : Stmt := top 38
theorem sc_all_deeds : FnScope ["room", "row", "found", "waiting", "kept", "other", "price", "deed"] ["room", "row"] (defScope s_all_deeds) := ⟨rfl, rfl, rfl, by decide +kernel, rfl, by decide +kernel, by decide +kernel⟩
theorem ok_all_deeds {f : Addr} {fd : FuncData} (F : Fun K "all_deeds" "all_deeds" s_all_deeds f fd) (g : mg "all_deeds" = some (.ref f)) (T : Tx mg) (U : Ux P w K mg base cl tb) (c_deeds_at : Cal P w K mg base ⟨K, cl, tb⟩ CX0 3 "deeds_at" ["room", "kept", "row"] m_deeds_at) : Cal P w K mg base ⟨K, cl, tb⟩ CX0 4 "all_deeds" ["room", "row"] m_all_deeds := by
  have nd := sc_all_deeds.nd
  refine ⟨f, fd, fn_ok0 F sc_all_deeds fun cdv A outer s H E hr => ?_, g, F.kp, (F.binds fun _ _ _ _ _ _ us hl => match us, hl with | [_, _], _ => rfl)⟩
  have hr0 := hr.mono (Nat.zero_le _)
  exact (dss_cons (ds_set (i := 2) nd rfl (Or.inr rfl) de_dctT)
  (dss_cons (ds_set (i := 3) nd rfl (Or.inl rfl) (de_new (da_cons (de_tup da_nil) da_nil)))
  (dss_cons (ds_while PassesOwn.never (dt_cmp (do_ne hr0) nox_ne (de_var 3) (de_lst da_nil) (nomark _)) (dss_cons (ds_set (i := 4) nd rfl (Or.inl rfl) (de_bm0 PySem.F.plainAttrs_list PySem.F.slot_list_pop PySem.F.type_list_pop dm_pop nox_pop (de_var 3)))
  (dss_one (ds_if (dt_cmp (do_notInN hr0) nox_notInN (de_var 4) (de_var 2) (by with_unfolding_all rfl)) (dss_cons (ds_putN hr0 (de_callC c_deeds_at hr (by decide) (by rfl) (fun _ => pass0X) (da_cons (de_var 0) (da_cons (de_var 4) (da_cons (de_var 1) da_nil)))) (de_var 2) (de_var 4))
  (dss_one (ds_expr (de_bm PySem.F.plainAttrs_list PySem.F.slot_list_extend PySem.F.type_list_extend dm_extend nox_extend (de_var 3) (da_cons (de_lc rfl nd (own := [("other", 5), ("price", 6), ("deed", 7)]) (blkOk_by (N := ["room", "row", "found", "waiting", "kept", "other", "price", "deed"]) (sc := defScope s_all_deeds) (by decide +kernel)) (di_e rfl (de_ix (do_ixN rfl hr0) nox_ixN (de_var 2) (de_var 4) (fun _ _ => rfl))) (lcg_tup (by decide)) (fun _ _ _ _ _ => (pg_tup rfl (pgs_cons (pg_name (i := 5) nd rfl (Or.inl rfl)) (pgs_cons (pg_name (i := 6) nd rfl (Or.inl rfl)) (pgs_cons (pg_name (i := 7) nd rfl (Or.inl rfl)) pgs_nil))))) (fun _ _ _ _ _ => (dts_one (dt_cmp (do_notInN hr0) nox_notInN (de_var 5) (de_var 2) (by with_unfolding_all rfl)))) (fun _ _ _ _ _ => (de_var 5))) da_nil))))) dss_nil))))
  (dss_one (ds_ret (de_var 2))))))
abbrev s_lessened : Stmt := top 39
theorem sc_lessened : FnScope ["floors", "deeds", "again", "kept", "best", "other", "price", "deed"] ["floors", "deeds"] (defScope s_lessened) := ⟨rfl, rfl, rfl, by decide +kernel, rfl, by decide +kernel, by decide +kernel⟩
theorem ok_lessened {f : Addr} {fd : FuncData} (F : Fun K "lessened" "lessened" s_lessened f fd) (g : mg "lessened" = some (.ref f)) (T : Tx mg) (U : Ux P w K mg base cl tb)  : Cal P w K mg base ⟨K, cl, tb⟩ CX0 1 "lessened" ["floors", "deeds"] m_lessened := by
  have nd := sc_lessened.nd
  refine ⟨f, fd, fn_ok0 F sc_lessened fun cdv A outer s H E hr => ?_, g, F.kp, (F.binds fun _ _ _ _ _ _ us hl => match us, hl with | [_, _], _ => rfl)⟩
  have hr0 := hr.mono (Nat.zero_le _)
  exact (dss_cons (ds_set (i := 2) nd rfl (Or.inl rfl) de_bl)
  (dss_cons (ds_while PassesOwn.never (dt_val (de_var 2)) (dss_cons (ds_set (i := 2) nd rfl (Or.inl rfl) de_bl)
  (dss_one (ds_lock (eV 1) (ds_for PassesOwn.never rfl (di_dk (de_var 1)) (dg_name (i := 3) nd rfl (Or.inl rfl)) (dss_cons (ds_set (i := 4) nd rfl (Or.inl rfl) (de_callB (db_min rfl) nox_bMin (by rfl) T.n_min bt_min (da_cons (de_op do_add nox_add (de_lst (da_cons (de_ix (do_ixN rfl hr0) nox_ixN (de_var 0) (de_var 3) (fun _ _ => rfl)) da_nil)) (de_lc rfl nd (own := [("other", 5), ("price", 6), ("deed", 7)]) (blkOk_by (N := ["floors", "deeds", "again", "kept", "best", "other", "price", "deed"]) (sc := defScope s_lessened) (by decide +kernel)) (di_e rfl (de_ix (do_ixN rfl hr0) nox_ixN (de_var 1) (de_var 3) (fun _ _ => rfl))) (lcg_tup (by decide)) (fun _ _ _ _ _ => (pg_tup rfl (pgs_cons (pg_name (i := 5) nd rfl (Or.inl rfl)) (pgs_cons (pg_name (i := 6) nd rfl (Or.inl rfl)) (pgs_cons (pg_name (i := 7) nd rfl (Or.inl rfl)) pgs_nil))))) (fun _ _ _ _ _ => dts_nil) (fun _ _ _ _ _ => (de_op do_add nox_add (de_var 6) (de_ix (do_ixN rfl hr0) nox_ixN (de_var 0) (de_var 5) (fun _ _ => rfl)))))) da_nil)))
  (dss_one (ds_if (dt_cmp do_lt nox_lt (de_var 4) (de_ix (do_ixN rfl hr0) nox_ixN (de_var 0) (de_var 3) (fun _ _ => rfl)) (nomark _)) (dss_cons (ds_putN hr0 (de_var 4) (de_var 0) (de_var 3))
  (dss_one (ds_set (i := 2) nd rfl (Or.inl rfl) de_bl))) dss_nil))))))))
  (dss_one (ds_ret (de_var 0)))))
abbrev s_item_text : Stmt := top 24
theorem sc_item_text : FnScope ["item"] ["item"] (defScope s_item_text) := ⟨rfl, rfl, rfl, by decide +kernel, rfl, by decide +kernel, by decide +kernel⟩
theorem ok_item_text {f : Addr} {fd : FuncData} (F : Fun K "item_text" "item_text" s_item_text f fd) (g : mg "item_text" = some (.ref f)) (T : Tx mg) (U : Ux P w K mg base cl tb)  : Cal P w K mg base ⟨K, cl, tb⟩ CX0 1 "item_text" ["item"] m_item_text := by
  have nd := sc_item_text.nd
  refine ⟨f, fd, fn_ok0 F sc_item_text fun cdv A outer s H E hr => ?_, g, F.kp, (F.binds fun _ _ _ _ _ _ us hl => match us, hl with | [_], _ => rfl)⟩
  have hr0 := hr.mono (Nat.zero_le _)
  exact (dss_one (ds_ret (de_if (dt_cmp (do_eq hr0) nox_eq (de_ix (do_ix rfl hr0) nox_ix (de_var 0) de_int (fun _ _ => rfl)) de_str (nomark _)) (de_ix (do_ix rfl hr0) nox_ix (de_var 0) de_int (fun _ _ => rfl)) (de_callTy db_str nox_bStr (by rfl) T.n_str bt_str (da_cons (de_ix (do_ix rfl hr0) nox_ix (de_var 0) de_int (fun _ _ => rfl)) da_nil)))))
abbrev s_item_price : Stmt := top 26
theorem sc_item_price : FnScope ["item"] ["item"] (defScope s_item_price) := ⟨rfl, rfl, rfl, by decide +kernel, rfl, by decide +kernel, by decide +kernel⟩
theorem ok_item_price {f : Addr} {fd : FuncData} (F : Fun K "item_price" "item_price" s_item_price f fd) (g : mg "item_price" = some (.ref f)) (T : Tx mg) (U : Ux P w K mg base cl tb) (c_item_text : Cal P w K mg base ⟨K, cl, tb⟩ CX0 1 "item_text" ["item"] m_item_text) : Cal P w K mg base ⟨K, cl, tb⟩ CX0 2 "item_price" ["item"] m_item_price := by
  have nd := sc_item_price.nd
  refine ⟨f, fd, fn_ok0 F sc_item_price fun cdv A outer s H E hr => ?_, g, F.kp, (F.binds fun _ _ _ _ _ _ us hl => match us, hl with | [_], _ => rfl)⟩
  have hr0 := hr.mono (Nat.zero_le _)
  exact (dss_one (ds_ret (de_op do_add nox_add (de_callB (db_len rfl) nox_bLen (by rfl) T.n_len bt_len (da_cons (de_callC c_item_text hr (by decide) (by rfl) (fun _ => pass0X) (da_cons (de_var 0) da_nil)) da_nil)) de_int)))
abbrev s_step_price : Stmt := top 32
theorem sc_step_price : FnScope ["step", "word"] ["step", "word"] (defScope s_step_price) := ⟨rfl, rfl, rfl, by decide +kernel, rfl, by decide +kernel, by decide +kernel⟩
theorem ok_step_price {f : Addr} {fd : FuncData} (F : Fun K "step_price" "step_price" s_step_price f fd) (g : mg "step_price" = some (.ref f)) (T : Tx mg) (U : Ux P w K mg base cl tb) (c_deed_price : Cal P w K mg base ⟨K, cl, tb⟩ CX0 2 "deed_price" ["deed"] m_deed_price) (c_item_price : Cal P w K mg base ⟨K, cl, tb⟩ CX0 2 "item_price" ["item"] m_item_price) : Cal P w K mg base ⟨K, cl, tb⟩ CX0 3 "step_price" ["step", "word"] m_step_price := by
  have nd := sc_step_price.nd
  refine ⟨f, fd, fn_ok0 F sc_step_price fun cdv A outer s H E hr => ?_, g, F.kp, (F.binds fun _ _ _ _ _ _ us hl => match us, hl with | [_, _], _ => rfl)⟩
  have hr0 := hr.mono (Nat.zero_le _)
  exact (dss_cons (ds_if (dt_cmp (do_eq hr0) nox_eq (de_ix (do_ix rfl hr0) nox_ix (de_var 0) de_int (fun _ _ => rfl)) de_str (nomark _)) (dss_one (ds_ret (de_callC c_item_price hr (by decide) (by rfl) (fun _ => pass0X) (da_cons (de_tup (da_cons de_str (da_cons (de_var 1) da_nil))) da_nil)))) dss_nil)
  (dss_cons (ds_if (dt_cmp (do_eq hr0) nox_eq (de_ix (do_ix rfl hr0) nox_ix (de_var 0) de_int (fun _ _ => rfl)) de_str (nomark _)) (dss_one (ds_ret (de_callC c_item_price hr (by decide) (by rfl) (fun _ => pass0X) (da_cons (de_var 0) da_nil)))) dss_nil)
  (dss_one (ds_ret (de_callC c_deed_price hr (by decide) (by rfl) (fun _ => pass0X) (da_cons (de_var 0) da_nil))))))
abbrev s_tells_at : Stmt := top 36
theorem sc_tells_at : FnScope ["kept", "word", "found", "at", "one"] ["kept", "word"] (defScope s_tells_at) := ⟨rfl, rfl, rfl, by decide +kernel, rfl, by decide +kernel, by decide +kernel⟩
theorem ok_tells_at {f : Addr} {fd : FuncData} (F : Fun K "tells_at" "tells_at" s_tells_at f fd) (g : mg "tells_at" = some (.ref f)) (T : Tx mg) (U : Ux P w K mg base cl tb) (c_step_price : Cal P w K mg base ⟨K, cl, tb⟩ CX0 3 "step_price" ["step", "word"] m_step_price) : Cal P w K mg base ⟨K, cl, tb⟩ CX0 4 "tells_at" ["kept", "word"] m_tells_at := by
  have nd := sc_tells_at.nd
  refine Cal.tr (fm := fn0 2 5 m_tells_at_b) ⟨f, fd, fn_ok0 F sc_tells_at fun cdv A outer s H E hr => ?_, g, F.kp, (F.binds fun _ _ _ _ _ _ us hl => match us, hl with | [_, _], _ => rfl)⟩
  have hr0 := hr.mono (Nat.zero_le _)
  exact (dss_cons (ds_set (i := 2) nd rfl (Or.inl rfl) (de_new (da_cons (de_tup (da_cons (de_callC c_step_price hr (by decide) (by rfl) (fun _ => pass0X) (da_cons (de_tup (da_cons de_str da_nil)) (da_cons (de_var 1) da_nil))) (da_cons (de_tup (da_cons de_str da_nil)) da_nil))) da_nil)))
  (dss_cons (ds_for PassesOwn.never rfl (di_enT rfl (by rfl) T.n_enumerate (de_var 0)) (dg_tup rfl rfl (dgn_cons (i := 3) (dgn_cons (i := 4) dgn_nil nd rfl (Or.inl rfl)) nd rfl (Or.inl rfl))) (dss_one (ds_if (dt_cmp (do_eq hr0) nox_eq (de_var 4) (de_var 1) (nomark _)) (dss_one (ds_expr (de_bm PySem.F.plainAttrs_list PySem.F.slot_list_append PySem.F.type_list_append dm_append nox_append (de_var 2) (da_cons (de_tup (da_cons (de_callC c_step_price hr (by decide) (by rfl) (fun _ => pass0X) (da_cons (de_tup (da_cons de_str (da_cons (de_op do_sub nox_sub (de_callB (db_len rfl) nox_bLen (by rfl) T.n_len bt_len (da_cons (de_var 0) da_nil)) (de_var 3)) da_nil))) (da_cons (de_var 1) da_nil))) (da_cons (de_tup (da_cons de_str (da_cons (de_op do_sub nox_sub (de_callB (db_len rfl) nox_bLen (by rfl) T.n_len bt_len (da_cons (de_var 0) da_nil)) (de_var 3)) da_nil))) da_nil))) da_nil)))) dss_nil)))
  (dss_one (ds_ret (de_fz (de_var 2))))))
abbrev s_layers : Stmt := top 40
theorem sc_layers : FnScope ["room", "row", "deeds", "floors", "kept", "found", "word", "here", "price", "step"] ["room", "row"] (defScope s_layers) := ⟨rfl, rfl, rfl, by decide +kernel, rfl, by decide +kernel, by decide +kernel⟩
theorem ok_layers {f : Addr} {fd : FuncData} (F : Fun K "layers" "layers" s_layers f fd) (g : mg "layers" = some (.ref f)) (T : Tx mg) (U : Ux P w K mg base cl tb) (c_all_deeds : Cal P w K mg base ⟨K, cl, tb⟩ CX0 4 "all_deeds" ["room", "row"] m_all_deeds) (c_lessened : Cal P w K mg base ⟨K, cl, tb⟩ CX0 1 "lessened" ["floors", "deeds"] m_lessened) (c_tells_at : Cal P w K mg base ⟨K, cl, tb⟩ CX0 4 "tells_at" ["kept", "word"] m_tells_at) : Cal P w K mg base ⟨K, cl, tb⟩ CX0 5 "layers" ["room", "row"] m_layers := by
  have nd := sc_layers.nd
  refine ⟨f, fd, fn_ok0 F sc_layers fun cdv A outer s H E hr => ?_, g, F.kp, (F.binds fun _ _ _ _ _ _ us hl => match us, hl with | [_, _], _ => rfl)⟩
  have hr0 := hr.mono (Nat.zero_le _)
  exact (dss_cons (ds_set (i := 2) nd rfl (Or.inl rfl) (de_callC c_all_deeds hr (by decide) (by rfl) (fun _ => pass0X) (da_cons (de_var 0) (da_cons (de_var 1) da_nil))))
  (dss_cons (ds_set (i := 3) nd rfl (Or.inl rfl) de_dctT)
  (dss_cons (ds_lock (eV 2) (ds_for PassesOwn.never rfl (di_dk (de_var 2)) (dg_name (i := 4) nd rfl (Or.inl rfl)) (dss_one (ds_putN hr0 de_int (de_var 3) (de_var 4)))))
  (dss_cons (ds_set (i := 5) nd rfl (Or.inl rfl) (de_new (da_cons (de_var 3) da_nil)))
  (dss_cons (ds_for PassesOwn.never rfl (di_rev rfl (by rfl) T.n_reversed (de_var 1)) (dg_name (i := 6) nd rfl (Or.inl rfl)) (dss_cons (ds_set (i := 7) nd rfl (Or.inl rfl) de_dctT)
  (dss_cons (ds_lock (eV 2) (ds_for PassesOwn.never rfl (di_dk (de_var 2)) (dg_name (i := 4) nd rfl (Or.inl rfl)) (dss_one (ds_putN hr0 (de_op do_add nox_add (de_ix (do_ixN rfl hr0) nox_ixN (de_ix (do_ixN rfl hr0) nox_ixN (de_var 5) de_int (fun _ _ => rfl)) (de_var 4) (fun _ _ => rfl)) (de_callB (db_min rfl) nox_bMin (by rfl) T.n_min bt_min (da_cons (de_lc rfl nd (own := [("price", 8), ("step", 9)]) (blkOk_by (N := ["room", "row", "deeds", "floors", "kept", "found", "word", "here", "price", "step"]) (sc := defScope s_layers) (by decide +kernel)) (di_e rfl (de_callC c_tells_at hr (by decide) (by rfl) (fun _ => pass0X) (da_cons (de_var 4) (da_cons (de_var 6) da_nil)))) (lcg_tup (by decide)) (fun _ _ _ _ _ => (pg_tup rfl (pgs_cons (pg_name (i := 8) nd rfl (Or.inl rfl)) (pgs_cons (pg_name (i := 9) nd rfl (Or.inl rfl)) pgs_nil)))) (fun _ _ _ _ _ => dts_nil) (fun _ _ _ _ _ => (de_var 8))) da_nil))) (de_var 7) (de_var 4)))))
  (dss_one (ds_expr (de_bm PySem.F.plainAttrs_list PySem.F.slot_list_insert PySem.F.type_list_insert dm_insert nox_insert (de_var 5) (da_cons de_int (da_cons (de_callC c_lessened hr (by decide) (by rfl) (fun _ => pass0X) (da_cons (de_var 7) (da_cons (de_var 2) da_nil))) da_nil))))))))
  (dss_one (ds_ret (de_tup (da_cons (de_var 5) (da_cons (de_var 2) da_nil))))))))))
abbrev s_cheapest_tell : Stmt := top 41
theorem sc_cheapest_tell : FnScope ["kept", "word"] ["kept", "word"] (defScope s_cheapest_tell) := ⟨rfl, rfl, rfl, by decide +kernel, rfl, by decide +kernel, by decide +kernel⟩
theorem ok_cheapest_tell {f : Addr} {fd : FuncData} (F : Fun K "cheapest_tell" "cheapest_tell" s_cheapest_tell f fd) (g : mg "cheapest_tell" = some (.ref f)) (T : Tx mg) (U : Ux P w K mg base cl tb) (c_tells_at : Cal P w K mg base ⟨K, cl, tb⟩ CX0 4 "tells_at" ["kept", "word"] m_tells_at) : Cal P w K mg base ⟨K, cl, tb⟩ CX0 5 "cheapest_tell" ["kept", "word"] m_cheapest_tell := by
  have nd := sc_cheapest_tell.nd
  refine ⟨f, fd, fn_ok0 F sc_cheapest_tell fun cdv A outer s H E hr => ?_, g, F.kp, (F.binds fun _ _ _ _ _ _ us hl => match us, hl with | [_, _], _ => rfl)⟩
  have hr0 := hr.mono (Nat.zero_le _)
  exact (dss_one (ds_ret (de_ix (do_ix rfl hr0) nox_ix (de_callB (db_sortedA hr0) nox_bSortedA (by rfl) T.n_sorted bt_sorted (da_cons (de_callC c_tells_at hr (by decide) (by rfl) (fun _ => pass0X) (da_cons (de_var 0) (da_cons (de_var 1) da_nil))) da_nil)) de_int (fun _ _ => rfl))))
abbrev s_plan_along : Stmt := top 42
theorem sc_plan_along : FnScope ["row", "found", "deeds", "plan", "kept", "place", "word", "price", "step", "other", "cost", "deed"] ["row", "found", "deeds"] (defScope s_plan_along) := ⟨rfl, rfl, rfl, by decide +kernel, rfl, by decide +kernel, by decide +kernel⟩
theorem ok_plan_along {f : Addr} {fd : FuncData} (F : Fun K "plan_along" "plan_along" s_plan_along f fd) (g : mg "plan_along" = some (.ref f)) (T : Tx mg) (U : Ux P w K mg base cl tb) (c_cheapest_tell : Cal P w K mg base ⟨K, cl, tb⟩ CX0 5 "cheapest_tell" ["kept", "word"] m_cheapest_tell) : Cal P w K mg base ⟨K, cl, tb⟩ CX0 6 "plan_along" ["row", "found", "deeds"] m_plan_along := by
  have nd := sc_plan_along.nd
  refine Cal.tr (fm := fn0 3 12 m_plan_along_b) ⟨f, fd, fn_ok0 F sc_plan_along fun cdv A outer s H E hr => ?_, g, F.kp, (F.binds fun _ _ _ _ _ _ us hl => match us, hl with | [_, _, _], _ => rfl)⟩
  have hr0 := hr.mono (Nat.zero_le _)
  exact (dss_cons (ds_set (i := 3) nd rfl (Or.inl rfl) (de_new da_nil))
  (dss_cons (ds_set (i := 4) nd rfl (Or.inl rfl) (de_tup da_nil))
  (dss_cons (ds_for PassesOwn.never rfl (di_enT rfl (by rfl) T.n_enumerate (de_var 0)) (dg_tup rfl rfl (dgn_cons (i := 5) (dgn_cons (i := 6) dgn_nil nd rfl (Or.inl rfl)) nd rfl (Or.inl rfl))) (dss_cons (ds_asg (de_callC c_cheapest_tell hr (by decide) (by rfl) (fun _ => pass0X) (da_cons (de_var 4) (da_cons (de_var 6) da_nil))) (dg_tup rfl rfl (dgn_cons (i := 7) (dgn_cons (i := 8) dgn_nil nd rfl (Or.inl rfl)) nd rfl (Or.inl rfl))))
  (dss_cons (ds_while PassesOwn.never (dt_cmp do_gt nox_gt (de_op do_add nox_add (de_ix (do_ixN rfl hr0) nox_ixN (de_ix (do_ixN rfl hr0) nox_ixN (de_var 1) (de_op do_add nox_add (de_var 5) de_int) (fun _ _ => rfl)) (de_var 4) (fun _ _ => rfl)) (de_var 7)) (de_ix (do_ixN rfl hr0) nox_ixN (de_ix (do_ixN rfl hr0) nox_ixN (de_var 1) (de_var 5) (fun _ _ => rfl)) (de_var 4) (fun _ _ => rfl)) (nomark _)) (dss_cons (ds_for PassesOwn.never rfl (di_e rfl (de_ix (do_ixN rfl hr0) nox_ixN (de_var 2) (de_var 4) (fun _ _ => rfl))) (dg_tup rfl rfl (dgn_cons (i := 9) (dgn_cons (i := 10) (dgn_cons (i := 11) dgn_nil nd rfl (Or.inl rfl)) nd rfl (Or.inl rfl)) nd rfl (Or.inl rfl))) (dss_one (ds_if (dt_cmp (do_eq hr0) nox_eq (de_op do_add nox_add (de_var 10) (de_ix (do_ixN rfl hr0) nox_ixN (de_ix (do_ixN rfl hr0) nox_ixN (de_var 1) (de_var 5) (fun _ _ => rfl)) (de_var 9) (fun _ _ => rfl))) (de_ix (do_ixN rfl hr0) nox_ixN (de_ix (do_ixN rfl hr0) nox_ixN (de_var 1) (de_var 5) (fun _ _ => rfl)) (de_var 4) (fun _ _ => rfl)) (nomark _)) (dss_cons (ds_expr (de_bm PySem.F.plainAttrs_list PySem.F.slot_list_append PySem.F.type_list_append dm_append nox_append (de_var 3) (da_cons (de_var 11) da_nil)))
  (dss_cons (ds_set (i := 4) nd rfl (Or.inl rfl) (de_var 9))
  (dss_one ds_break))) dss_nil)))
  (dss_one (ds_asg (de_callC c_cheapest_tell hr (by decide) (by rfl) (fun _ => pass0X) (da_cons (de_var 4) (da_cons (de_var 6) da_nil))) (dg_tup rfl rfl (dgn_cons (i := 7) (dgn_cons (i := 8) dgn_nil nd rfl (Or.inl rfl)) nd rfl (Or.inl rfl)))))))
  (dss_one (ds_expr (de_bm PySem.F.plainAttrs_list PySem.F.slot_list_append PySem.F.type_list_append dm_append nox_append (de_var 3) (da_cons (de_var 8) da_nil)))))))
  (dss_one (ds_ret (de_fz (de_var 3)))))))
abbrev s_least : Stmt := top 43
theorem sc_least : FnScope ["room", "row", "table", "found", "deeds", "place", "floors", "kept"] ["room", "row"] (defScope s_least) := ⟨rfl, rfl, rfl, by decide +kernel, rfl, by decide +kernel, by decide +kernel⟩
theorem ok_least {f : Addr} {fd : FuncData} (F : Fun K "least" "least" s_least f fd) (g : mg "least" = some (.ref f)) (T : Tx mg) (U : Ux P w K mg base cl tb) (c_layers : Cal P w K mg base ⟨K, cl, tb⟩ CX0 5 "layers" ["room", "row"] m_layers) (c_plan_along : Cal P w K mg base ⟨K, cl, tb⟩ CX0 6 "plan_along" ["row", "found", "deeds"] m_plan_along) : Cal P w K mg base ⟨K, cl, tb⟩ CX0 7 "least" ["room", "row"] m_least := by
  have nd := sc_least.nd
  refine Cal.tr (fm := fn0 2 8 m_least_b) ⟨f, fd, fn_ok0 F sc_least fun cdv A outer s H E hr => ?_, g, F.kp, (F.binds fun _ _ _ _ _ _ us hl => match us, hl with | [_, _], _ => rfl)⟩
  have hr0 := hr.mono (Nat.zero_le _)
  exact (dss_cons (ds_asg (de_callC c_layers hr (by decide) (by rfl) (fun _ => pass0X) (da_cons (de_var 0) (da_cons (de_var 1) da_nil))) (dg_tup rfl rfl (dgn_cons (i := 3) (dgn_cons (i := 4) dgn_nil nd rfl (Or.inl rfl)) nd rfl (Or.inl rfl))))
  (dss_cons (ds_set (i := 2) nd rfl (Or.inl rfl) (de_new da_nil))
  (dss_cons (ds_for PassesOwn.never rfl (di_enT rfl (by rfl) T.n_enumerate (de_var 3)) (dg_tup rfl rfl (dgn_cons (i := 5) (dgn_cons (i := 6) dgn_nil nd rfl (Or.inl rfl)) nd rfl (Or.inl rfl))) (dss_one (ds_for PassesOwn.never rfl (di_e rfl (de_callB (db_sortedDT rfl hr0) nox_bSortedDT (by rfl) T.n_sorted bt_sorted (da_cons (de_var 6) da_nil))) (dg_name (i := 7) nd rfl (Or.inl rfl)) (dss_one (ds_expr (de_bm PySem.F.plainAttrs_list PySem.F.slot_list_append PySem.F.type_list_append dm_append nox_append (de_var 2) (da_cons (de_tup (da_cons (de_var 5) (da_cons (de_var 7) (da_cons (de_ix (do_ixN rfl hr0) nox_ixN (de_var 6) (de_var 7) (fun _ _ => rfl)) da_nil)))) da_nil)))))))
  (dss_one (ds_ret (de_tup (da_cons (de_ix (do_ixN rfl hr0) nox_ixN (de_ix (do_ixN rfl hr0) nox_ixN (de_var 3) de_int (fun _ _ => rfl)) (de_tup da_nil) (fun _ _ => rfl)) (da_cons (de_callC c_plan_along hr (by decide) (by rfl) (fun _ => pass0X) (da_cons (de_var 1) (da_cons (de_var 3) (da_cons (de_var 4) da_nil)))) (da_cons (de_fz (de_var 2)) da_nil)))))))))
abbrev s_tells : Stmt := top 28
theorem sc_tells : FnScope ["step"] ["step"] (defScope s_tells) := ⟨rfl, rfl, rfl, by decide +kernel, rfl, by decide +kernel, by decide +kernel⟩
theorem ok_tells {f : Addr} {fd : FuncData} (F : Fun K "tells" "tells" s_tells f fd) (g : mg "tells" = some (.ref f)) (T : Tx mg) (U : Ux P w K mg base cl tb)  : Cal P w K mg base ⟨K, cl, tb⟩ CX0 1 "tells" ["step"] m_tells := by
  have nd := sc_tells.nd
  refine ⟨f, fd, fn_ok0 F sc_tells fun cdv A outer s H E hr => ?_, g, F.kp, (F.binds fun _ _ _ _ _ _ us hl => match us, hl with | [_], _ => rfl)⟩
  have hr0 := hr.mono (Nat.zero_le _)
  exact (dss_one (ds_ret (de_cmp (do_in hr0) nox_in (de_ix (do_ix rfl hr0) nox_ix (de_var 0) de_int (fun _ _ => rfl)) (de_tup (da_cons de_str (da_cons de_str da_nil))) (by with_unfolding_all rfl))))
abbrev s_weight_of : Stmt := top 13
theorem sc_weight_of : FnScope ["words", "word"] ["words"] (defScope s_weight_of) := ⟨rfl, rfl, rfl, by decide +kernel, rfl, by decide +kernel, by decide +kernel⟩
theorem ok_weight_of {f : Addr} {fd : FuncData} (F : Fun K "weight_of" "weight_of" s_weight_of f fd) (g : mg "weight_of" = some (.ref f)) (T : Tx mg) (U : Ux P w K mg base cl tb) (c_weight : Cal P w K mg base ⟨K, cl, tb⟩ CX0 1 "weight" ["word"] m_weight) : Cal P w K mg base ⟨K, cl, tb⟩ CX0 2 "weight_of" ["words"] m_weight_of := by
  have nd := sc_weight_of.nd
  refine ⟨f, fd, fn_ok0 F sc_weight_of fun cdv A outer s H E hr => ?_, g, F.kp, (F.binds fun _ _ _ _ _ _ us hl => match us, hl with | [_], _ => rfl)⟩
  have hr0 := hr.mono (Nat.zero_le _)
  exact (dss_one (ds_ret (de_callB (db_sum rfl) nox_bSum (by rfl) T.n_sum bt_sum (da_cons (de_lc rfl nd (own := [("word", 1)]) (blkOk_by (N := ["words", "word"]) (sc := defScope s_weight_of) (by decide +kernel)) (di_e rfl (de_var 0)) (lcg_name (by decide)) (fun _ _ _ _ _ => (pg_name (i := 1) nd rfl (Or.inl rfl))) (fun _ _ _ _ _ => dts_nil) (fun _ _ _ _ _ => (de_callC c_weight hr (by decide) (by rfl) (fun _ => pass0X) (da_cons (de_var 1) da_nil)))) da_nil))))
abbrev s_left_in : Stmt := top 19
theorem sc_left_in : FnScope ["room", "first", "words", "going", "total"] ["room", "first", "words"] (defScope s_left_in) := ⟨rfl, rfl, rfl, by decide +kernel, rfl, by decide +kernel, by decide +kernel⟩
theorem ok_left_in {f : Addr} {fd : FuncData} (F : Fun K "left_in" "left_in" s_left_in f fd) (g : mg "left_in" = some (.ref f)) (T : Tx mg) (U : Ux P w K mg base cl tb) (c_weight_of : Cal P w K mg base ⟨K, cl, tb⟩ CX0 2 "weight_of" ["words"] m_weight_of) (c_weight : Cal P w K mg base ⟨K, cl, tb⟩ CX0 1 "weight" ["word"] m_weight) : Cal P w K mg base ⟨K, cl, tb⟩ CX0 3 "left_in" ["room", "first", "words"] m_left_in := by
  have nd := sc_left_in.nd
  refine ⟨f, fd, fn_ok0 F sc_left_in fun cdv A outer s H E hr => ?_, g, F.kp, (F.binds fun _ _ _ _ _ _ us hl => match us, hl with | [_, _, _], _ => rfl)⟩
  have hr0 := hr.mono (Nat.zero_le _)
  exact (dss_cons (ds_set (i := 3) nd rfl (Or.inl rfl) de_int)
  (dss_cons (ds_set (i := 4) nd rfl (Or.inl rfl) (de_callC c_weight_of hr (by decide) (by rfl) (fun _ => pass0X) (da_cons (de_var 2) da_nil)))
  (dss_cons (ds_while PassesOwn.never (dt_cmp do_gt nox_gt (de_var 4) (de_var 0) (nomark _)) (dss_cons (ds_set (i := 4) nd rfl (Or.inl rfl) (de_op do_sub nox_sub (de_var 4) (de_callC c_weight hr (by decide) (by rfl) (fun _ => pass0X) (da_cons (de_ix (do_ix rfl hr0) nox_ix (de_var 2) (de_var 3) (fun _ _ => rfl)) da_nil))))
  (dss_one (ds_set (i := 3) nd rfl (Or.inl rfl) (de_op do_add nox_add (de_var 3) de_int)))))
  (dss_one (ds_ret (de_tup (da_cons (de_var 0) (da_cons (de_op do_add nox_add (de_var 1) (de_var 3)) (da_cons (de_sl (de_var 2) (dp_some (de_var 3)) dp_none) da_nil)))))))))
abbrev s_put_in : Stmt := top 20
theorem sc_put_in : FnScope ["book", "word", "kept", "room", "first", "words"] ["book", "word"] (defScope s_put_in) := ⟨rfl, rfl, rfl, by decide +kernel, rfl, by decide +kernel, by decide +kernel⟩
theorem ok_put_in {f : Addr} {fd : FuncData} (F : Fun K "put_in" "put_in" s_put_in f fd) (g : mg "put_in" = some (.ref f)) (T : Tx mg) (U : Ux P w K mg base cl tb) (c_left_in : Cal P w K mg base ⟨K, cl, tb⟩ CX0 3 "left_in" ["room", "first", "words"] m_left_in) (c_weight : Cal P w K mg base ⟨K, cl, tb⟩ CX0 1 "weight" ["word"] m_weight) : Cal P w K mg base ⟨K, cl, tb⟩ (L2.CX P w) 4 "put_in" ["book", "word"] m_put_in_r := by
  have nd := sc_put_in.nd
  refine ⟨f, fd, fn_okX F sc_put_in fun cdv A outer s H E hr tk => ?_, g, F.kp, (F.binds fun _ _ _ _ _ _ us hl => match us, hl with | [_, _], _ => rfl)⟩
  have hr0 := hr.mono (Nat.zero_le _)
  exact (dss_cons (ds_asg (de_var 0) (dg_tup rfl rfl (dgn_cons (i := 3) (dgn_cons (i := 4) (dgn_cons (i := 5) dgn_nil nd rfl (Or.inl rfl)) nd rfl (Or.inl rfl)) nd rfl (Or.inl rfl))))
  (dss_cons (ds_if (dt_cmp do_gt nox_gt (de_callC c_weight hr (by decide) (by rfl) (fun _ => pass0X) (da_cons (de_var 1) da_nil)) (de_var 3) (nomark _)) (dss_one (ds_raise0 rfl tk U.x_NoRoom (by rfl))) dss_nil)
  (dss_cons (ds_set (i := 2) nd rfl (Or.inl rfl) (de_callC c_left_in hr (by decide) (by rfl) (fun _ => pass0X) (da_cons (de_op do_sub nox_sub (de_var 3) (de_callC c_weight hr (by decide) (by rfl) (fun _ => pass0X) (da_cons (de_var 1) da_nil))) (da_cons (de_var 4) (da_cons (de_var 5) da_nil)))))
  (dss_one (ds_ret (de_tup (da_cons (de_var 3) (da_cons (de_ix (do_ix rfl hr0) nox_ix (de_var 2) de_int (fun _ _ => rfl)) (da_cons (de_op do_add nox_add (de_ix (do_ix rfl hr0) nox_ix (de_var 2) de_int (fun _ _ => rfl)) (de_tup (da_cons (de_var 1) da_nil))) da_nil)))))))))
abbrev s_word_at : Stmt := top 15
theorem sc_word_at : FnScope ["book", "number", "place"] ["book", "number"] (defScope s_word_at) := ⟨rfl, rfl, rfl, by decide +kernel, rfl, by decide +kernel, by decide +kernel⟩
theorem ok_word_at {f : Addr} {fd : FuncData} (F : Fun K "word_at" "word_at" s_word_at f fd) (g : mg "word_at" = some (.ref f)) (T : Tx mg) (U : Ux P w K mg base cl tb)  : Cal P w K mg base ⟨K, cl, tb⟩ (L2.CX P w) 3 "word_at" ["book", "number"] m_word_at_r := by
  have nd := sc_word_at.nd
  refine ⟨f, fd, fn_okX F sc_word_at fun cdv A outer s H E hr tk => ?_, g, F.kp, (F.binds fun _ _ _ _ _ _ us hl => match us, hl with | [_, _], _ => rfl)⟩
  have hr0 := hr.mono (Nat.zero_le _)
  exact (dss_cons (ds_set (i := 2) nd rfl (Or.inl rfl) (de_op do_sub nox_sub (de_var 1) (de_ix (do_ix rfl hr0) nox_ix (de_var 0) de_int (fun _ _ => rfl))))
  (dss_cons (ds_if (dt_not (dt_chain do_le do_lt nox_le nox_lt de_int (de_var 2) (de_callB (db_len rfl) nox_bLen (by rfl) T.n_len bt_len (da_cons (de_ix (do_ix rfl hr0) nox_ix (de_var 0) de_int (fun _ _ => rfl)) da_nil)))) (dss_one (ds_raise1 rfl tk U.x_NoWord hr (by decide) (by rfl) (de_var 1))) dss_nil)
  (dss_one (ds_ret (de_ix (do_ix rfl hr0) nox_ix (de_ix (do_ix rfl hr0) nox_ix (de_var 0) de_int (fun _ _ => rfl)) (de_var 2) (fun _ _ => rfl))))))
abbrev s_next_number : Stmt := top 14
theorem sc_next_number : FnScope ["book"] ["book"] (defScope s_next_number) := ⟨rfl, rfl, rfl, by decide +kernel, rfl, by decide +kernel, by decide +kernel⟩
theorem ok_next_number {f : Addr} {fd : FuncData} (F : Fun K "next_number" "next_number" s_next_number f fd) (g : mg "next_number" = some (.ref f)) (T : Tx mg) (U : Ux P w K mg base cl tb)  : Cal P w K mg base ⟨K, cl, tb⟩ CX0 1 "next_number" ["book"] m_next_number := by
  have nd := sc_next_number.nd
  refine ⟨f, fd, fn_ok0 F sc_next_number fun cdv A outer s H E hr => ?_, g, F.kp, (F.binds fun _ _ _ _ _ _ us hl => match us, hl with | [_], _ => rfl)⟩
  have hr0 := hr.mono (Nat.zero_le _)
  exact (dss_one (ds_ret (de_op do_add nox_add (de_ix (do_ix rfl hr0) nox_ix (de_var 0) de_int (fun _ _ => rfl)) (de_callB (db_len rfl) nox_bLen (by rfl) T.n_len bt_len (da_cons (de_ix (do_ix rfl hr0) nox_ix (de_var 0) de_int (fun _ _ => rfl)) da_nil)))))
abbrev s_done : Stmt := top 21
theorem sc_done : FnScope ["book", "deed"] ["book", "deed"] (defScope s_done) := ⟨rfl, rfl, rfl, by decide +kernel, rfl, by decide +kernel, by decide +kernel⟩
theorem ok_done {f : Addr} {fd : FuncData} (F : Fun K "done" "done" s_done f fd) (g : mg "done" = some (.ref f)) (T : Tx mg) (U : Ux P w K mg base cl tb) (c_left_in : Cal P w K mg base ⟨K, cl, tb⟩ CX0 3 "left_in" ["room", "first", "words"] m_left_in) (c_put_in : Cal P w K mg base ⟨K, cl, tb⟩ (L2.CX P w) 4 "put_in" ["book", "word"] m_put_in_r) (c_word_at : Cal P w K mg base ⟨K, cl, tb⟩ (L2.CX P w) 3 "word_at" ["book", "number"] m_word_at_r) (c_next_number : Cal P w K mg base ⟨K, cl, tb⟩ CX0 1 "next_number" ["book"] m_next_number) : Cal P w K mg base ⟨K, cl, tb⟩ (L2.CX P w) 5 "done" ["book", "deed"] m_done_r := by
  have nd := sc_done.nd
  refine ⟨f, fd, fn_okX F sc_done fun cdv A outer s H E hr tk => ?_, g, F.kp, (F.binds fun _ _ _ _ _ _ us hl => match us, hl with | [_, _], _ => rfl)⟩
  have hr0 := hr.mono (Nat.zero_le _)
  exact (dss_cons (ds_if (dt_cmp (do_eq hr0) nox_eq (de_ix (do_ix rfl hr0) nox_ix (de_var 1) de_int (fun _ _ => rfl)) de_str (nomark _)) (dss_one (ds_ret (de_callC c_put_in hr (by decide) (by rfl) (fun σ => (passX tk σ)) (da_cons (de_var 0) (da_cons (de_ix (do_ix rfl hr0) nox_ix (de_var 1) de_int (fun _ _ => rfl)) da_nil))))) dss_nil)
  (dss_cons (ds_if (dt_cmp (do_eq hr0) nox_eq (de_ix (do_ix rfl hr0) nox_ix (de_var 1) de_int (fun _ _ => rfl)) de_str (nomark _)) (dss_one (ds_ret (de_callC c_put_in hr (by decide) (by rfl) (fun σ => (passX tk σ)) (da_cons (de_var 0) (da_cons (de_callC c_word_at hr (by decide) (by rfl) (fun σ => (passX tk σ)) (da_cons (de_var 0) (da_cons (de_op do_sub nox_sub (de_callC c_next_number hr (by decide) (by rfl) (fun _ => pass0X) (da_cons (de_var 0) da_nil)) (de_ix (do_ix rfl hr0) nox_ix (de_var 1) de_int (fun _ _ => rfl))) da_nil))) da_nil))))) dss_nil)
  (dss_one (ds_ret (de_callC c_left_in hr (by decide) (by rfl) (fun _ => pass0X) (da_cons (de_ix (do_ix rfl hr0) nox_ix (de_var 1) de_int (fun _ _ => rfl)) (da_cons (de_ix (do_ix rfl hr0) nox_ix (de_var 0) de_int (fun _ _ => rfl)) (da_cons (de_ix (do_ix rfl hr0) nox_ix (de_var 0) de_int (fun _ _ => rfl)) da_nil))))))))
abbrev s_is_word : Stmt := top 9
theorem sc_is_word : FnScope ["thing", "sign"] ["thing"] (defScope s_is_word) := ⟨rfl, rfl, rfl, by decide +kernel, rfl, by decide +kernel, by decide +kernel⟩
theorem ok_is_word {f : Addr} {fd : FuncData} (F : Fun K "is_word" "is_word" s_is_word f fd) (g : mg "is_word" = some (.ref f)) (T : Tx mg) (U : Ux P w K mg base cl tb)  : Cal P w K mg base ⟨K, cl, tb⟩ CX0 1 "is_word" ["thing"] m_is_word := by
  have nd := sc_is_word.nd
  refine ⟨f, fd, fn_ok0 F sc_is_word fun cdv A outer s H E hr => ?_, g, F.kp, (F.binds fun _ _ _ _ _ _ us hl => match us, hl with | [_], _ => rfl)⟩
  have hr0 := hr.mono (Nat.zero_le _)
  exact (dss_one (ds_ret (de_and (de_isi (T := "str") (by decide) (by rfl) T.n_isinstance bt_isinstance (by rfl) T.n_str bt_str (de_var 0)) (de_and (de_chain do_le do_le nox_le nox_le de_int (de_callB (db_len rfl) nox_bLen (by rfl) T.n_len bt_len (da_cons (de_var 0) da_nil)) (de_gI (by rfl) T.c_MOST_LETTERS)) (de_one (de_callB (db_all rfl) nox_bAll (by rfl) T.n_all bt_all (da_cons (de_lc rfl nd (own := [("sign", 1)]) (blkOk_by (N := ["thing", "sign"]) (sc := defScope s_is_word) (by decide +kernel)) (di_e rfl (de_var 0)) (lcg_name (by decide)) (fun _ _ _ _ _ => (pg_name (i := 1) nd rfl (Or.inl rfl))) (fun _ _ _ _ _ => dts_nil) (fun _ _ _ _ _ => (de_cmp (do_in hr0) nox_in (de_var 1) (de_gS (by rfl) T.c_LETTERS) (by with_unfolding_all rfl)))) da_nil)))))))
abbrev s_is_between : Stmt := top 8
theorem sc_is_between : FnScope ["thing", "low", "high"] ["thing", "low", "high"] (defScope s_is_between) := ⟨rfl, rfl, rfl, by decide +kernel, rfl, by decide +kernel, by decide +kernel⟩
theorem ok_is_between {f : Addr} {fd : FuncData} (F : Fun K "is_between" "is_between" s_is_between f fd) (g : mg "is_between" = some (.ref f)) (T : Tx mg) (U : Ux P w K mg base cl tb)  : Cal P w K mg base ⟨K, cl, tb⟩ CX0 1 "is_between" ["thing", "low", "high"] m_is_between := by
  have nd := sc_is_between.nd
  refine ⟨f, fd, fn_ok0 F sc_is_between fun cdv A outer s H E hr => ?_, g, F.kp, (F.binds fun _ _ _ _ _ _ us hl => match us, hl with | [_, _, _], _ => rfl)⟩
  have hr0 := hr.mono (Nat.zero_le _)
  exact (dss_one (ds_ret (de_and (de_isi (T := "int") (by decide) (by rfl) T.n_isinstance bt_isinstance (by rfl) T.n_int bt_int (de_var 0)) (de_and (de_not (de_isi (T := "bool") (by decide) (by rfl) T.n_isinstance bt_isinstance (by rfl) T.n_bool bt_bool (de_var 0))) (de_one (de_chain do_le do_le nox_le nox_le (de_var 1) (de_var 0) (de_var 2)))))))
abbrev s_is_deed : Stmt := top 18
theorem sc_is_deed : FnScope ["thing"] ["thing"] (defScope s_is_deed) := ⟨rfl, rfl, rfl, by decide +kernel, rfl, by decide +kernel, by decide +kernel⟩
theorem ok_is_deed {f : Addr} {fd : FuncData} (F : Fun K "is_deed" "is_deed" s_is_deed f fd) (g : mg "is_deed" = some (.ref f)) (T : Tx mg) (U : Ux P w K mg base cl tb) (c_is_word : Cal P w K mg base ⟨K, cl, tb⟩ CX0 1 "is_word" ["thing"] m_is_word) (c_is_between : Cal P w K mg base ⟨K, cl, tb⟩ CX0 1 "is_between" ["thing", "low", "high"] m_is_between) : Cal P w K mg base ⟨K, cl, tb⟩ CX0 2 "is_deed" ["thing"] m_is_deed := by
  have nd := sc_is_deed.nd
  refine ⟨f, fd, fn_ok0 F sc_is_deed fun cdv A outer s H E hr => ?_, g, F.kp, (F.binds fun _ _ _ _ _ _ us hl => match us, hl with | [_], _ => rfl)⟩
  have hr0 := hr.mono (Nat.zero_le _)
  exact (dss_cons (ds_if (dt_bool (dw_or (dt_not (dt_val (de_isi (T := "tuple") (by decide) (by rfl) T.n_isinstance bt_isinstance (by rfl) T.n_tuple bt_tuple (de_var 0)))) (dw_or (dt_cmp (do_ne hr0) nox_ne (de_callB (db_len rfl) nox_bLen (by rfl) T.n_len bt_len (da_cons (de_var 0) da_nil)) de_int (nomark _)) (dw_or1 (dt_not (dt_val (de_isi (T := "str") (by decide) (by rfl) T.n_isinstance bt_isinstance (by rfl) T.n_str bt_str (de_ix (do_ix rfl hr0) nox_ix (de_var 0) de_int (fun _ _ => rfl))))))))) (dss_one (ds_ret de_bl)) dss_nil)
  (dss_cons (ds_if (dt_cmp (do_eq hr0) nox_eq (de_ix (do_ix rfl hr0) nox_ix (de_var 0) de_int (fun _ _ => rfl)) de_str (nomark _)) (dss_one (ds_ret (de_callC c_is_word hr (by decide) (by rfl) (fun _ => pass0X) (da_cons (de_ix (do_ix rfl hr0) nox_ix (de_var 0) de_int (fun _ _ => rfl)) da_nil)))) dss_nil)
  (dss_cons (ds_if (dt_cmp (do_eq hr0) nox_eq (de_ix (do_ix rfl hr0) nox_ix (de_var 0) de_int (fun _ _ => rfl)) de_str (nomark _)) (dss_one (ds_ret (de_callC c_is_between hr (by decide) (by rfl) (fun _ => pass0X) (da_cons (de_ix (do_ix rfl hr0) nox_ix (de_var 0) de_int (fun _ _ => rfl)) (da_cons de_int (da_cons (de_gI (by rfl) T.c_MOST_BACK) da_nil)))))) dss_nil)
  (dss_one (ds_ret (de_and (de_cmp (do_eq hr0) nox_eq (de_ix (do_ix rfl hr0) nox_ix (de_var 0) de_int (fun _ _ => rfl)) de_str (nomark _)) (de_one (de_callC c_is_between hr (by decide) (by rfl) (fun _ => pass0X) (da_cons (de_ix (do_ix rfl hr0) nox_ix (de_var 0) de_int (fun _ _ => rfl)) (da_cons de_int (da_cons (de_gI (by rfl) T.c_MOST_ROOM) da_nil)))))))))))
abbrev s_behind_step : Stmt := top 30
theorem sc_behind_step : FnScope ["book", "step"] ["book", "step"] (defScope s_behind_step) := ⟨rfl, rfl, rfl, by decide +kernel, rfl, by decide +kernel, by decide +kernel⟩
theorem ok_behind_step {f : Addr} {fd : FuncData} (F : Fun K "behind_step" "behind_step" s_behind_step f fd) (g : mg "behind_step" = some (.ref f)) (T : Tx mg) (U : Ux P w K mg base cl tb) (c_done : Cal P w K mg base ⟨K, cl, tb⟩ (L2.CX P w) 5 "done" ["book", "deed"] m_done_r) (c_is_deed : Cal P w K mg base ⟨K, cl, tb⟩ CX0 2 "is_deed" ["thing"] m_is_deed) : Cal P w K mg base ⟨K, cl, tb⟩ (L2.CX P w) 6 "behind_step" ["book", "step"] m_behind_step := by
  have nd := sc_behind_step.nd
  refine ⟨f, fd, fn_okX F sc_behind_step fun cdv A outer s H E hr tk => ?_, g, F.kp, (F.binds fun _ _ _ _ _ _ us hl => match us, hl with | [_, _], _ => rfl)⟩
  have hr0 := hr.mono (Nat.zero_le _)
  exact (dss_cons (ds_if (dt_bool (dw_or (dt_not (dt_val (de_callC c_is_deed hr (by decide) (by rfl) (fun _ => pass0X) (da_cons (de_var 1) da_nil)))) (dw_or1 (dt_cmp (do_eq hr0) nox_eq (de_ix (do_ix rfl hr0) nox_ix (de_var 1) de_int (fun _ _ => rfl)) de_str (nomark _))))) (dss_one (ds_ret de_non)) dss_nil)
  (dss_cons (ds_try2 rfl rfl U.tab rfl U.n_NoRoom U.n_NoWord (by rfl) (by rfl) tk (fun W pn xe tk hp => (dss_one (ds_set (i := 0) nd rfl (Or.inl rfl) (de_callC c_done hr (by decide) (by rfl) (fun σ => (passX tk σ)) (da_cons (de_var 0) (da_cons (de_var 1) da_nil)))))) (fun a pn => (dss_one (ds_set (i := 0) nd rfl (Or.inl rfl) de_non))))
  (dss_one (ds_ret (de_var 0)))))
abbrev s_can_tell : Stmt := top 29
theorem sc_can_tell : FnScope ["book", "step", "word"] ["book", "step", "word"] (defScope s_can_tell) := ⟨rfl, rfl, rfl, by decide +kernel, rfl, by decide +kernel, by decide +kernel⟩
theorem ok_can_tell {f : Addr} {fd : FuncData} (F : Fun K "can_tell" "can_tell" s_can_tell f fd) (g : mg "can_tell" = some (.ref f)) (T : Tx mg) (U : Ux P w K mg base cl tb) (c_is_between : Cal P w K mg base ⟨K, cl, tb⟩ CX0 1 "is_between" ["thing", "low", "high"] m_is_between) : Cal P w K mg base ⟨K, cl, tb⟩ CX0 2 "can_tell" ["book", "step", "word"] m_can_tell := by
  have nd := sc_can_tell.nd
  refine ⟨f, fd, fn_ok0 F sc_can_tell fun cdv A outer s H E hr => ?_, g, F.kp, (F.binds fun _ _ _ _ _ _ us hl => match us, hl with | [_, _, _], _ => rfl)⟩
  have hr0 := hr.mono (Nat.zero_le _)
  exact (dss_cons (ds_if (dt_cmp (do_eq hr0) nox_eq (de_ix (do_ix rfl hr0) nox_ix (de_var 1) de_int (fun _ _ => rfl)) de_str (nomark _)) (dss_one (ds_ret (de_cmp (do_eq hr0) nox_eq (de_callB (db_len rfl) nox_bLen (by rfl) T.n_len bt_len (da_cons (de_var 1) da_nil)) de_int (nomark _)))) dss_nil)
  (dss_cons (ds_if (dt_bool (dw_or (dt_cmp (do_ne hr0) nox_ne (de_callB (db_len rfl) nox_bLen (by rfl) T.n_len bt_len (da_cons (de_var 1) da_nil)) de_int (nomark _)) (dw_or1 (dt_not (dt_val (de_callC c_is_between hr (by decide) (by rfl) (fun _ => pass0X) (da_cons (de_ix (do_ix rfl hr0) nox_ix (de_var 1) de_int (fun _ _ => rfl)) (da_cons de_int (da_cons (de_callB (db_len rfl) nox_bLen (by rfl) T.n_len bt_len (da_cons (de_ix (do_ix rfl hr0) nox_ix (de_var 0) de_int (fun _ _ => rfl)) da_nil)) da_nil))))))))) (dss_one (ds_ret de_bl)) dss_nil)
  (dss_one (ds_ret (de_cmp (do_eq hr0) nox_eq (de_ix (do_ix rfl hr0) nox_ix (de_ix (do_ix rfl hr0) nox_ix (de_var 0) de_int (fun _ _ => rfl)) (de_op do_sub nox_sub (de_callB (db_len rfl) nox_bLen (by rfl) T.n_len bt_len (da_cons (de_ix (do_ix rfl hr0) nox_ix (de_var 0) de_int (fun _ _ => rfl)) da_nil)) (de_ix (do_ix rfl hr0) nox_ix (de_var 1) de_int (fun _ _ => rfl))) (fun _ _ => rfl)) (de_var 2) (nomark _))))))
abbrev s_is_plan : Stmt := top 31
theorem sc_is_plan : FnScope ["room", "row", "thing", "book", "told", "step"] ["room", "row", "thing"] (defScope s_is_plan) := ⟨rfl, rfl, rfl, by decide +kernel, rfl, by decide +kernel, by decide +kernel⟩
theorem ok_is_plan {f : Addr} {fd : FuncData} (F : Fun K "is_plan" "is_plan" s_is_plan f fd) (g : mg "is_plan" = some (.ref f)) (T : Tx mg) (U : Ux P w K mg base cl tb) (c_tells : Cal P w K mg base ⟨K, cl, tb⟩ CX0 1 "tells" ["step"] m_tells) (c_behind_step : Cal P w K mg base ⟨K, cl, tb⟩ (L2.CX P w) 6 "behind_step" ["book", "step"] m_behind_step) (c_can_tell : Cal P w K mg base ⟨K, cl, tb⟩ CX0 2 "can_tell" ["book", "step", "word"] m_can_tell) : Cal P w K mg base ⟨K, cl, tb⟩ (L2.CX P w) 7 "is_plan" ["room", "row", "thing"] m_is_plan := by
  have nd := sc_is_plan.nd
  refine ⟨f, fd, fn_okX F sc_is_plan fun cdv A outer s H E hr tk => ?_, g, F.kp, (F.binds fun _ _ _ _ _ _ us hl => match us, hl with | [_, _, _], _ => rfl)⟩
  have hr0 := hr.mono (Nat.zero_le _)
  exact (dss_cons (ds_if (dt_not (dt_val (de_isi (T := "list") (by decide) (by rfl) T.n_isinstance bt_isinstance (by rfl) T.n_list bt_list (de_var 2)))) (dss_one (ds_ret de_bl)) dss_nil)
  (dss_cons (ds_set (i := 3) nd rfl (Or.inl rfl) (de_tup (da_cons (de_var 0) (da_cons de_int (da_cons (de_tup da_nil) da_nil)))))
  (dss_cons (ds_set (i := 4) nd rfl (Or.inl rfl) de_int)
  (dss_cons (ds_for (passes_of rfl) rfl (di_e rfl (de_var 2)) (dg_name (i := 5) nd rfl (Or.inl rfl)) (dss_cons (ds_if (dt_bool (dw_or (dt_cmp (do_eq hr0) nox_eq (de_var 4) (de_callB (db_len rfl) nox_bLen (by rfl) T.n_len bt_len (da_cons (de_var 1) da_nil)) (nomark _)) (dw_or (dt_not (dt_val (de_isi (T := "tuple") (by decide) (by rfl) T.n_isinstance bt_isinstance (by rfl) T.n_tuple bt_tuple (de_var 5)))) (dw_or (dt_cmp (do_eq hr0) nox_eq (de_callB (db_len rfl) nox_bLen (by rfl) T.n_len bt_len (da_cons (de_var 5) da_nil)) de_int (nomark _)) (dw_or1 (dt_not (dt_val (de_isi (T := "str") (by decide) (by rfl) T.n_isinstance bt_isinstance (by rfl) T.n_str bt_str (de_ix (do_ix rfl hr0) nox_ix (de_var 5) de_int (fun _ _ => rfl)))))))))) (dss_one (ds_ret de_bl)) dss_nil)
  (dss_one (ds_if (dt_val (de_callC c_tells hr (by decide) (by rfl) (fun _ => pass0X) (da_cons (de_var 5) da_nil))) (dss_cons (ds_if (dt_not (dt_val (de_callC c_can_tell hr (by decide) (by rfl) (fun _ => pass0X) (da_cons (de_var 3) (da_cons (de_var 5) (da_cons (de_ix (do_ix rfl hr0) nox_ix (de_var 1) (de_var 4) (fun _ _ => rfl)) da_nil)))))) (dss_one (ds_ret de_bl)) dss_nil)
  (dss_one (ds_set (i := 4) nd rfl (Or.inl rfl) (de_op do_add nox_add (de_var 4) de_int)))) (dss_cons (ds_set (i := 3) nd rfl (Or.inl rfl) (de_callC c_behind_step hr (by decide) (by rfl) (fun σ => (passX tk σ)) (da_cons (de_var 3) (da_cons (de_var 5) da_nil))))
  (dss_one (ds_if (dt_cmp do_isN nox_isN (de_var 3) de_non (nomark _)) (dss_one (ds_ret de_bl)) dss_nil)))))))
  (dss_one (ds_ret (de_cmp (do_eq hr0) nox_eq (de_var 4) (de_callB (db_len rfl) nox_bLen (by rfl) T.n_len bt_len (da_cons (de_var 1) da_nil)) (nomark _))))))))
abbrev s_price_of : Stmt := top 33
theorem sc_price_of : FnScope ["plan", "row", "total", "told", "step"] ["plan", "row"] (defScope s_price_of) := ⟨rfl, rfl, rfl, by decide +kernel, rfl, by decide +kernel, by decide +kernel⟩
theorem ok_price_of {f : Addr} {fd : FuncData} (F : Fun K "price_of" "price_of" s_price_of f fd) (g : mg "price_of" = some (.ref f)) (T : Tx mg) (U : Ux P w K mg base cl tb) (c_step_price : Cal P w K mg base ⟨K, cl, tb⟩ CX0 3 "step_price" ["step", "word"] m_step_price) (c_tells : Cal P w K mg base ⟨K, cl, tb⟩ CX0 1 "tells" ["step"] m_tells) : Cal P w K mg base ⟨K, cl, tb⟩ CX0 4 "price_of" ["plan", "row"] m_price_of := by
  have nd := sc_price_of.nd
  refine ⟨f, fd, fn_ok0 F sc_price_of fun cdv A outer s H E hr => ?_, g, F.kp, (F.binds fun _ _ _ _ _ _ us hl => match us, hl with | [_, _], _ => rfl)⟩
  have hr0 := hr.mono (Nat.zero_le _)
  exact (dss_cons (ds_set (i := 2) nd rfl (Or.inl rfl) de_int)
  (dss_cons (ds_set (i := 3) nd rfl (Or.inl rfl) de_int)
  (dss_cons (ds_for PassesOwn.never rfl (di_e rfl (de_var 0)) (dg_name (i := 4) nd rfl (Or.inl rfl)) (dss_cons (ds_set (i := 2) nd rfl (Or.inl rfl) (de_op do_add nox_add (de_var 2) (de_callC c_step_price hr (by decide) (by rfl) (fun _ => pass0X) (da_cons (de_var 4) (da_cons (de_ix (do_ix rfl hr0) nox_ix (de_var 1) (de_var 3) (fun _ _ => rfl)) da_nil)))))
  (dss_one (ds_set (i := 3) nd rfl (Or.inl rfl) (de_op do_add nox_add (de_var 3) (de_callTy db_int nox_bInt (by rfl) T.n_int bt_int (da_cons (de_callC c_tells hr (by decide) (by rfl) (fun _ => pass0X) (da_cons (de_var 4) da_nil)) da_nil)))))))
  (dss_one (ds_ret (de_var 2))))))
abbrev s_law : Stmt := top 48
theorem sc_law : FnScope ["script", "k", "reed", "at", "turn", "row", "price", "first", "other", "plan", "letters", "moved", "room", "word", "sign"] ["script"] (defScope s_law) := ⟨rfl, rfl, rfl, by decide +kernel, rfl, by decide +kernel, by decide +kernel⟩
theorem okF_law {f : Addr} {fd : FuncData} (F : Fun K "law" "law" s_law f fd) (T : Tx mg) (U : Ux P w K mg base cl tb) (c_law_reed : Cal P w K mg base ⟨K, cl, tb⟩ CX0 1 "_law_reed" ["script", "k"] m_law_reed) (c_law_sip : Cal P w K mg base ⟨K, cl, tb⟩ CX0 1 "_law_sip" ["reed", "many"] m_law_sip) (c_law_row : Cal P w K mg base ⟨K, cl, tb⟩ CX0 2 "_law_row" ["reed", "most"] m_law_row_r) (c_least : Cal P w K mg base ⟨K, cl, tb⟩ CX0 7 "least" ["room", "row"] m_least) (c_is_plan : Cal P w K mg base ⟨K, cl, tb⟩ (L2.CX P w) 7 "is_plan" ["room", "row", "thing"] m_is_plan) (c_price_of : Cal P w K mg base ⟨K, cl, tb⟩ CX0 4 "price_of" ["plan", "row"] m_price_of) : FnOk P w K mg base CX0 8 f fd ["script"] (spD ⟨K, cl, tb⟩ m_law) := by
  have nd := sc_law.nd
  refine fn_ok0 F sc_law fun cdv A outer s H E hr => ?_
  have hr0 := hr.mono (Nat.zero_le _)
  exact (dss_cons (ds_for PassesOwn.never rfl (di_r1 (by rfl) T.n_range (de_callB (db_max rfl) nox_bMax (by rfl) T.n_max bt_max (da_cons de_int (da_cons (de_callB (db_min rfl) nox_bMin (by rfl) T.n_min bt_min (da_cons de_int (da_cons (de_callB (db_len rfl) nox_bLen (by rfl) T.n_len bt_len (da_cons (de_var 0) da_nil)) da_nil))) da_nil)))) (dg_name (i := 1) nd rfl (Or.inl rfl)) (dss_cons (ds_set (i := 2) nd rfl (Or.inl rfl) (de_callC c_law_reed hr (by decide) (by rfl) (fun _ => pass0X) (da_cons (de_var 0) (da_cons (de_var 1) da_nil))))
  (dss_cons (ds_set (i := 3) nd rfl (Or.inl rfl) (de_callC c_law_sip hr (by decide) (by rfl) (fun _ => pass0X) (da_cons (de_var 2) (da_cons de_int da_nil))))
  (dss_cons (ds_set (i := 4) nd rfl (Or.inr rfl) (de_op do_add nox_add de_int (de_callC c_law_sip hr (by decide) (by rfl) (fun _ => pass0X) (da_cons (de_var 2) (da_cons de_int da_nil)))))
  (dss_cons (ds_asg (de_callC c_law_row hr (by decide) (by rfl) (fun _ => pass0X) (da_cons (de_var 2) (da_cons de_int da_nil))) (dg_tup rfl rfl (dgn_cons (i := 12) (dgn_cons (i := 5) dgn_nil nd rfl (Or.inl rfl)) nd rfl (Or.inl rfl))))
  (dss_cons (ds_set (i := 5) nd rfl (Or.inl rfl) (de_op do_add nox_add (de_var 5) (de_lst (da_cons (de_ix (do_ix rfl hr0) nox_ix (de_var 5) de_int (fun _ _ => rfl)) da_nil))))
  (dss_cons (ds_set (i := 3) nd rfl (Or.inl rfl) (de_op do_add nox_add de_int (de_op do_mod nox_mod (de_var 3) (de_op do_sub nox_sub (de_callB (db_len rfl) nox_bLen (by rfl) T.n_len bt_len (da_cons (de_var 5) da_nil)) de_int))))
  (dss_cons (ds_set (i := 6) nd rfl (Or.inl rfl) (de_ix (do_ix rfl hr0) nox_ix (de_callC c_least hr (by decide) (by rfl) (fun _ => pass0X) (da_cons (de_var 12) (da_cons (de_var 5) da_nil))) de_int (fun _ _ => rfl)))
  (dss_cons (ds_set (i := 7) nd rfl (Or.inl rfl) (de_callC c_least hr (by decide) (by rfl) (fun _ => pass0X) (da_cons (de_var 12) (da_cons (de_sl (de_var 5) dp_none (dp_some (de_var 3))) da_nil))))
  (dss_cons (ds_set (i := 8) nd rfl (Or.inl rfl) (de_callC c_least hr (by decide) (by rfl) (fun _ => pass0X) (da_cons (de_var 12) (da_cons (de_sl (de_var 5) (dp_some (de_var 3)) dp_none) da_nil))))
  (dss_cons (ds_set (i := 9) nd rfl (Or.inl rfl) (de_op do_add nox_add (de_ix (do_ix rfl hr0) nox_ix (de_var 7) de_int (fun _ _ => rfl)) (de_ix (do_ix rfl hr0) nox_ix (de_var 8) de_int (fun _ _ => rfl))))
  (dss_cons (ds_if (dt_bool (dw_or (dt_cmp do_notB nox_notB (de_callC c_is_plan hr (by decide) (by rfl) (fun σ => (passX takesF σ)) (da_cons (de_var 12) (da_cons (de_var 5) (da_cons (de_var 9) da_nil)))) de_bl (nomark _)) (dw_or1 (dt_cmp (do_ne hr0) nox_ne (de_callC c_price_of hr (by decide) (by rfl) (fun _ => pass0X) (da_cons (de_var 9) (da_cons (de_var 5) da_nil))) (de_op do_add nox_add (de_ix (do_ix rfl hr0) nox_ix (de_var 7) de_int (fun _ _ => rfl)) (de_ix (do_ix rfl hr0) nox_ix (de_var 8) de_int (fun _ _ => rfl))) (nomark _))))) (dss_one (ds_ret de_bl)) dss_nil)
  (dss_cons (ds_if (dt_bool (dw_or (dt_cmp do_gt nox_gt (de_var 6) (de_op do_add nox_add (de_ix (do_ix rfl hr0) nox_ix (de_var 7) de_int (fun _ _ => rfl)) (de_ix (do_ix rfl hr0) nox_ix (de_var 8) de_int (fun _ _ => rfl))) (nomark _)) (dw_or1 (dt_cmp do_lt nox_lt (de_var 6) (de_callB (db_max rfl) nox_bMax (by rfl) T.n_max bt_max (da_cons (de_ix (do_ix rfl hr0) nox_ix (de_var 7) de_int (fun _ _ => rfl)) (da_cons (de_ix (do_ix rfl hr0) nox_ix (de_var 8) de_int (fun _ _ => rfl)) da_nil))) (nomark _))))) (dss_one (ds_ret de_bl)) dss_nil)
  (dss_cons (ds_set (i := 10) nd rfl (Or.inr rfl) de_str)
  (dss_cons (ds_setLc (i := 11) rfl nd rfl rfl (sw_true rfl rfl rfl (by decide +kernel)) (own := [("word", 13)]) (blkOk_by (N := ["script", "k", "reed", "at", "turn", "row", "price", "first", "other", "plan", "letters", "moved", "room", "word", "sign"]) (sc := defScope s_law) (by decide +kernel)) (di_e rfl (de_var 5)) (lcg_name (by decide)) (fun _ _ _ _ _ => (pg_name (i := 13) nd rfl (Or.inl rfl))) (fun _ _ _ _ _ => dts_nil) (fun _ _ _ _ _ => (de_bm PySem.F.plainAttrs_str PySem.F.slot_str_join PySem.F.type_str_join dm_join nox_join de_str (da_cons (de_lc rfl nd (own := [("sign", 14)]) (blkOk_by (N := ["script", "k", "reed", "at", "turn", "row", "price", "first", "other", "plan", "letters", "moved", "room", "word", "sign"]) (by kernel_rfl)) (di_e rfl (de_var 13)) (lcg_name (by decide)) (fun _ _ _ _ _ => (pg_name (i := 14) nd rfl (Or.inl rfl))) (fun _ _ _ _ _ => dts_nil) (fun _ _ _ _ _ => (de_ix (do_ix rfl hr0) nox_ix (de_var 10) (de_op do_mod nox_mod (de_op do_add nox_add (de_bm PySem.F.plainAttrs_str PySem.F.slot_str_find PySem.F.type_str_find dm_find nox_find (de_var 10) (da_cons (de_var 14) da_nil)) (de_var 4)) de_int) (fun _ _ => rfl)))) da_nil))))
  (dss_one (ds_if (dt_cmp (do_ne hr0) nox_ne (de_ix (do_ix rfl hr0) nox_ix (de_callC c_least hr (by decide) (by rfl) (fun _ => pass0X) (da_cons (de_var 12) (da_cons (de_var 11) da_nil))) de_int (fun _ _ => rfl)) (de_var 6) (nomark _)) (dss_one (ds_ret de_bl)) dss_nil)))))))))))))))))
  (dss_one (ds_ret de_bl)))
end
end Lw
set_option Elab.async false
set_option linter.all false
set_option maxRecDepth 100000
set_option maxHeartbeats 8000000
namespace Lw
open PySem PySem.Spec PyProof.Rows L2 Dn
theorem all_mk {l : PySem.W.OpenLaw} {w : World} {K : PySem.W.Frag} {h : Heap} {mg : Str → Option Value} {fa : Addr} (X : K.In h) (G : h.Ns mainGlobals mg) (hfa : mg "law" = some (.ref fa))
    {f1 f2 f3 f4 f5 f6 f7 f8 f9 f10 f11 f12 f13 f14 f15 f16 f17 f18 f19 f20 f21 f22 f23 f24 f25 f26 f27 f28 f29 f30 f31 f32 f33 : Addr} {od1 an1 od2 an2 od3 an3 od4 an4 od5 an5 od6 an6 od7 an7 od8 an8 od9 an9 od10 an10 od11 an11 od12 an12 od13 an13 od14 an14 od15 an15 od16 an16 od17 an17 od18 an18 od19 an19 od20 an20 od21 an21 od22 an22 od23 an23 od24 an24 od25 an25 od26 an26 od27 an27 od28 an28 od29 an29 od30 an30 od31 an31 od32 an32 od33 an33 : Option Addr} {sl1 sl2 sl3 sl4 sl5 sl6 sl7 sl8 sl9 sl10 sl11 sl12 sl13 sl14 sl15 sl16 sl17 sl18 sl19 sl20 sl21 sl22 sl23 sl24 sl25 sl26 sl27 sl28 sl29 sl30 sl31 sl32 sl33 : Array (Option Value)} {oc1 kV1 dc1 pm1 cd1 ct1 oc2 kV2 dc2 pm2 cd2 ct2 oc3 kV3 dc3 pm3 cd3 ct3 oc4 kV4 dc4 pm4 cd4 ct4 oc5 kV5 dc5 pm5 cd5 ct5 oc6 kV6 dc6 pm6 cd6 ct6 oc7 kV7 dc7 pm7 cd7 ct7 oc8 kV8 dc8 pm8 cd8 ct8 oc9 kV9 dc9 pm9 cd9 ct9 oc10 kV10 dc10 pm10 cd10 ct10 oc11 kV11 dc11 pm11 cd11 ct11 oc12 kV12 dc12 pm12 cd12 ct12 oc13 kV13 dc13 pm13 cd13 ct13 oc14 kV14 dc14 pm14 cd14 ct14 oc15 kV15 dc15 pm15 cd15 ct15 oc16 kV16 dc16 pm16 cd16 ct16 oc17 kV17 dc17 pm17 cd17 ct17 oc18 kV18 dc18 pm18 cd18 ct18 oc19 kV19 dc19 pm19 cd19 ct19 oc20 kV20 dc20 pm20 cd20 ct20 oc21 kV21 dc21 pm21 cd21 ct21 oc22 kV22 dc22 pm22 cd22 ct22 oc23 kV23 dc23 pm23 cd23 ct23 oc24 kV24 dc24 pm24 cd24 ct24 oc25 kV25 dc25 pm25 cd25 ct25 oc26 kV26 dc26 pm26 cd26 ct26 oc27 kV27 dc27 pm27 cd27 ct27 oc28 kV28 dc28 pm28 cd28 ct28 oc29 kV29 dc29 pm29 cd29 ct29 oc30 kV30 dc30 pm30 cd30 ct30 oc31 kV31 dc31 pm31 cd31 ct31 oc32 kV32 dc32 pm32 cd32 ct32 oc33 kV33 dc33 pm33 cd33 ct33 : Value} {t_LETTERS t_MOST_BACK t_MOST_LETTERS t_MOST_ROOM t_WEIGHT_BESIDE : Tok} {A_BookError A_NoRoom A_NoWord : Addr} {fI_NoWord : Addr} {od_NoWord an_NoWord : Option Addr} {sl_NoWord : Array (Option Value)} {oc_NoWord kV_NoWord dc_NoWord pm_NoWord cd_NoWord ct_NoWord : Value}
    (a1 : PySem.W.nsIn K mainGlobals "_law_reed" = some (some (.ref f1))) (l1 : K.lookup f1 = some ⟨oc1, od1, .func (PySem.W.fnOf "_law_reed" "_law_reed" (defArgs s_law_reed) (defBody s_law_reed) (defScope s_law_reed) .none kV1 dc1 pm1 an1 cd1 ct1), sl1⟩) (e1 : PySem.W.codeIn K cd1 "_law_reed" = true) (k1 : PySem.W.keepIn K (.ref f1) = true)
    (a2 : PySem.W.nsIn K mainGlobals "_law_sip" = some (some (.ref f2))) (l2 : K.lookup f2 = some ⟨oc2, od2, .func (PySem.W.fnOf "_law_sip" "_law_sip" (defArgs s_law_sip) (defBody s_law_sip) (defScope s_law_sip) .none kV2 dc2 pm2 an2 cd2 ct2), sl2⟩) (e2 : PySem.W.codeIn K cd2 "_law_sip" = true) (k2 : PySem.W.keepIn K (.ref f2) = true)
    (a3 : PySem.W.nsIn K mainGlobals "_law_row" = some (some (.ref f3))) (l3 : K.lookup f3 = some ⟨oc3, od3, .func (PySem.W.fnOf "_law_row" "_law_row" (defArgs s_law_row) (defBody s_law_row) (defScope s_law_row) .none kV3 dc3 pm3 an3 cd3 ct3), sl3⟩) (e3 : PySem.W.codeIn K cd3 "_law_row" = true) (k3 : PySem.W.keepIn K (.ref f3) = true)
    (a4 : PySem.W.nsIn K mainGlobals "weight" = some (some (.ref f4))) (l4 : K.lookup f4 = some ⟨oc4, od4, .func (PySem.W.fnOf "weight" "weight" (defArgs s_weight) (defBody s_weight) (defScope s_weight) .none kV4 dc4 pm4 an4 cd4 ct4), sl4⟩) (e4 : PySem.W.codeIn K cd4 "weight" = true) (k4 : PySem.W.keepIn K (.ref f4) = true)
    (a5 : PySem.W.nsIn K mainGlobals "behind_put" = some (some (.ref f5))) (l5 : K.lookup f5 = some ⟨oc5, od5, .func (PySem.W.fnOf "behind_put" "behind_put" (defArgs s_behind_put) (defBody s_behind_put) (defScope s_behind_put) .none kV5 dc5 pm5 an5 cd5 ct5), sl5⟩) (e5 : PySem.W.codeIn K cd5 "behind_put" = true) (k5 : PySem.W.keepIn K (.ref f5) = true)
    (a6 : PySem.W.nsIn K mainGlobals "deed_text" = some (some (.ref f6))) (l6 : K.lookup f6 = some ⟨oc6, od6, .func (PySem.W.fnOf "deed_text" "deed_text" (defArgs s_deed_text) (defBody s_deed_text) (defScope s_deed_text) .none kV6 dc6 pm6 an6 cd6 ct6), sl6⟩) (e6 : PySem.W.codeIn K cd6 "deed_text" = true) (k6 : PySem.W.keepIn K (.ref f6) = true)
    (a7 : PySem.W.nsIn K mainGlobals "deed_price" = some (some (.ref f7))) (l7 : K.lookup f7 = some ⟨oc7, od7, .func (PySem.W.fnOf "deed_price" "deed_price" (defArgs s_deed_price) (defBody s_deed_price) (defScope s_deed_price) .none kV7 dc7 pm7 an7 cd7 ct7), sl7⟩) (e7 : PySem.W.codeIn K cd7 "deed_price" = true) (k7 : PySem.W.keepIn K (.ref f7) = true)
    (a8 : PySem.W.nsIn K mainGlobals "deeds_at" = some (some (.ref f8))) (l8 : K.lookup f8 = some ⟨oc8, od8, .func (PySem.W.fnOf "deeds_at" "deeds_at" (defArgs s_deeds_at) (defBody s_deeds_at) (defScope s_deeds_at) .none kV8 dc8 pm8 an8 cd8 ct8), sl8⟩) (e8 : PySem.W.codeIn K cd8 "deeds_at" = true) (k8 : PySem.W.keepIn K (.ref f8) = true)
    (a9 : PySem.W.nsIn K mainGlobals "all_deeds" = some (some (.ref f9))) (l9 : K.lookup f9 = some ⟨oc9, od9, .func (PySem.W.fnOf "all_deeds" "all_deeds" (defArgs s_all_deeds) (defBody s_all_deeds) (defScope s_all_deeds) .none kV9 dc9 pm9 an9 cd9 ct9), sl9⟩) (e9 : PySem.W.codeIn K cd9 "all_deeds" = true) (k9 : PySem.W.keepIn K (.ref f9) = true)
    (a10 : PySem.W.nsIn K mainGlobals "lessened" = some (some (.ref f10))) (l10 : K.lookup f10 = some ⟨oc10, od10, .func (PySem.W.fnOf "lessened" "lessened" (defArgs s_lessened) (defBody s_lessened) (defScope s_lessened) .none kV10 dc10 pm10 an10 cd10 ct10), sl10⟩) (e10 : PySem.W.codeIn K cd10 "lessened" = true) (k10 : PySem.W.keepIn K (.ref f10) = true)
    (a11 : PySem.W.nsIn K mainGlobals "item_text" = some (some (.ref f11))) (l11 : K.lookup f11 = some ⟨oc11, od11, .func (PySem.W.fnOf "item_text" "item_text" (defArgs s_item_text) (defBody s_item_text) (defScope s_item_text) .none kV11 dc11 pm11 an11 cd11 ct11), sl11⟩) (e11 : PySem.W.codeIn K cd11 "item_text" = true) (k11 : PySem.W.keepIn K (.ref f11) = true)
    (a12 : PySem.W.nsIn K mainGlobals "item_price" = some (some (.ref f12))) (l12 : K.lookup f12 = some ⟨oc12, od12, .func (PySem.W.fnOf "item_price" "item_price" (defArgs s_item_price) (defBody s_item_price) (defScope s_item_price) .none kV12 dc12 pm12 an12 cd12 ct12), sl12⟩) (e12 : PySem.W.codeIn K cd12 "item_price" = true) (k12 : PySem.W.keepIn K (.ref f12) = true)
    (a13 : PySem.W.nsIn K mainGlobals "step_price" = some (some (.ref f13))) (l13 : K.lookup f13 = some ⟨oc13, od13, .func (PySem.W.fnOf "step_price" "step_price" (defArgs s_step_price) (defBody s_step_price) (defScope s_step_price) .none kV13 dc13 pm13 an13 cd13 ct13), sl13⟩) (e13 : PySem.W.codeIn K cd13 "step_price" = true) (k13 : PySem.W.keepIn K (.ref f13) = true)
    (a14 : PySem.W.nsIn K mainGlobals "tells_at" = some (some (.ref f14))) (l14 : K.lookup f14 = some ⟨oc14, od14, .func (PySem.W.fnOf "tells_at" "tells_at" (defArgs s_tells_at) (defBody s_tells_at) (defScope s_tells_at) .none kV14 dc14 pm14 an14 cd14 ct14), sl14⟩) (e14 : PySem.W.codeIn K cd14 "tells_at" = true) (k14 : PySem.W.keepIn K (.ref f14) = true)
    (a15 : PySem.W.nsIn K mainGlobals "layers" = some (some (.ref f15))) (l15 : K.lookup f15 = some ⟨oc15, od15, .func (PySem.W.fnOf "layers" "layers" (defArgs s_layers) (defBody s_layers) (defScope s_layers) .none kV15 dc15 pm15 an15 cd15 ct15), sl15⟩) (e15 : PySem.W.codeIn K cd15 "layers" = true) (k15 : PySem.W.keepIn K (.ref f15) = true)
    (a16 : PySem.W.nsIn K mainGlobals "cheapest_tell" = some (some (.ref f16))) (l16 : K.lookup f16 = some ⟨oc16, od16, .func (PySem.W.fnOf "cheapest_tell" "cheapest_tell" (defArgs s_cheapest_tell) (defBody s_cheapest_tell) (defScope s_cheapest_tell) .none kV16 dc16 pm16 an16 cd16 ct16), sl16⟩) (e16 : PySem.W.codeIn K cd16 "cheapest_tell" = true) (k16 : PySem.W.keepIn K (.ref f16) = true)
    (a17 : PySem.W.nsIn K mainGlobals "plan_along" = some (some (.ref f17))) (l17 : K.lookup f17 = some ⟨oc17, od17, .func (PySem.W.fnOf "plan_along" "plan_along" (defArgs s_plan_along) (defBody s_plan_along) (defScope s_plan_along) .none kV17 dc17 pm17 an17 cd17 ct17), sl17⟩) (e17 : PySem.W.codeIn K cd17 "plan_along" = true) (k17 : PySem.W.keepIn K (.ref f17) = true)
    (a18 : PySem.W.nsIn K mainGlobals "least" = some (some (.ref f18))) (l18 : K.lookup f18 = some ⟨oc18, od18, .func (PySem.W.fnOf "least" "least" (defArgs s_least) (defBody s_least) (defScope s_least) .none kV18 dc18 pm18 an18 cd18 ct18), sl18⟩) (e18 : PySem.W.codeIn K cd18 "least" = true) (k18 : PySem.W.keepIn K (.ref f18) = true)
    (a19 : PySem.W.nsIn K mainGlobals "tells" = some (some (.ref f19))) (l19 : K.lookup f19 = some ⟨oc19, od19, .func (PySem.W.fnOf "tells" "tells" (defArgs s_tells) (defBody s_tells) (defScope s_tells) .none kV19 dc19 pm19 an19 cd19 ct19), sl19⟩) (e19 : PySem.W.codeIn K cd19 "tells" = true) (k19 : PySem.W.keepIn K (.ref f19) = true)
    (a20 : PySem.W.nsIn K mainGlobals "weight_of" = some (some (.ref f20))) (l20 : K.lookup f20 = some ⟨oc20, od20, .func (PySem.W.fnOf "weight_of" "weight_of" (defArgs s_weight_of) (defBody s_weight_of) (defScope s_weight_of) .none kV20 dc20 pm20 an20 cd20 ct20), sl20⟩) (e20 : PySem.W.codeIn K cd20 "weight_of" = true) (k20 : PySem.W.keepIn K (.ref f20) = true)
    (a21 : PySem.W.nsIn K mainGlobals "left_in" = some (some (.ref f21))) (l21 : K.lookup f21 = some ⟨oc21, od21, .func (PySem.W.fnOf "left_in" "left_in" (defArgs s_left_in) (defBody s_left_in) (defScope s_left_in) .none kV21 dc21 pm21 an21 cd21 ct21), sl21⟩) (e21 : PySem.W.codeIn K cd21 "left_in" = true) (k21 : PySem.W.keepIn K (.ref f21) = true)
    (a22 : PySem.W.nsIn K mainGlobals "put_in" = some (some (.ref f22))) (l22 : K.lookup f22 = some ⟨oc22, od22, .func (PySem.W.fnOf "put_in" "put_in" (defArgs s_put_in) (defBody s_put_in) (defScope s_put_in) .none kV22 dc22 pm22 an22 cd22 ct22), sl22⟩) (e22 : PySem.W.codeIn K cd22 "put_in" = true) (k22 : PySem.W.keepIn K (.ref f22) = true)
    (a23 : PySem.W.nsIn K mainGlobals "word_at" = some (some (.ref f23))) (l23 : K.lookup f23 = some ⟨oc23, od23, .func (PySem.W.fnOf "word_at" "word_at" (defArgs s_word_at) (defBody s_word_at) (defScope s_word_at) .none kV23 dc23 pm23 an23 cd23 ct23), sl23⟩) (e23 : PySem.W.codeIn K cd23 "word_at" = true) (k23 : PySem.W.keepIn K (.ref f23) = true)
    (a24 : PySem.W.nsIn K mainGlobals "next_number" = some (some (.ref f24))) (l24 : K.lookup f24 = some ⟨oc24, od24, .func (PySem.W.fnOf "next_number" "next_number" (defArgs s_next_number) (defBody s_next_number) (defScope s_next_number) .none kV24 dc24 pm24 an24 cd24 ct24), sl24⟩) (e24 : PySem.W.codeIn K cd24 "next_number" = true) (k24 : PySem.W.keepIn K (.ref f24) = true)
    (a25 : PySem.W.nsIn K mainGlobals "done" = some (some (.ref f25))) (l25 : K.lookup f25 = some ⟨oc25, od25, .func (PySem.W.fnOf "done" "done" (defArgs s_done) (defBody s_done) (defScope s_done) .none kV25 dc25 pm25 an25 cd25 ct25), sl25⟩) (e25 : PySem.W.codeIn K cd25 "done" = true) (k25 : PySem.W.keepIn K (.ref f25) = true)
    (a26 : PySem.W.nsIn K mainGlobals "is_word" = some (some (.ref f26))) (l26 : K.lookup f26 = some ⟨oc26, od26, .func (PySem.W.fnOf "is_word" "is_word" (defArgs s_is_word) (defBody s_is_word) (defScope s_is_word) .none kV26 dc26 pm26 an26 cd26 ct26), sl26⟩) (e26 : PySem.W.codeIn K cd26 "is_word" = true) (k26 : PySem.W.keepIn K (.ref f26) = true)
    (a27 : PySem.W.nsIn K mainGlobals "is_between" = some (some (.ref f27))) (l27 : K.lookup f27 = some ⟨oc27, od27, .func (PySem.W.fnOf "is_between" "is_between" (defArgs s_is_between) (defBody s_is_between) (defScope s_is_between) .none kV27 dc27 pm27 an27 cd27 ct27), sl27⟩) (e27 : PySem.W.codeIn K cd27 "is_between" = true) (k27 : PySem.W.keepIn K (.ref f27) = true)
    (a28 : PySem.W.nsIn K mainGlobals "is_deed" = some (some (.ref f28))) (l28 : K.lookup f28 = some ⟨oc28, od28, .func (PySem.W.fnOf "is_deed" "is_deed" (defArgs s_is_deed) (defBody s_is_deed) (defScope s_is_deed) .none kV28 dc28 pm28 an28 cd28 ct28), sl28⟩) (e28 : PySem.W.codeIn K cd28 "is_deed" = true) (k28 : PySem.W.keepIn K (.ref f28) = true)
    (a29 : PySem.W.nsIn K mainGlobals "behind_step" = some (some (.ref f29))) (l29 : K.lookup f29 = some ⟨oc29, od29, .func (PySem.W.fnOf "behind_step" "behind_step" (defArgs s_behind_step) (defBody s_behind_step) (defScope s_behind_step) .none kV29 dc29 pm29 an29 cd29 ct29), sl29⟩) (e29 : PySem.W.codeIn K cd29 "behind_step" = true) (k29 : PySem.W.keepIn K (.ref f29) = true)
    (a30 : PySem.W.nsIn K mainGlobals "can_tell" = some (some (.ref f30))) (l30 : K.lookup f30 = some ⟨oc30, od30, .func (PySem.W.fnOf "can_tell" "can_tell" (defArgs s_can_tell) (defBody s_can_tell) (defScope s_can_tell) .none kV30 dc30 pm30 an30 cd30 ct30), sl30⟩) (e30 : PySem.W.codeIn K cd30 "can_tell" = true) (k30 : PySem.W.keepIn K (.ref f30) = true)
    (a31 : PySem.W.nsIn K mainGlobals "is_plan" = some (some (.ref f31))) (l31 : K.lookup f31 = some ⟨oc31, od31, .func (PySem.W.fnOf "is_plan" "is_plan" (defArgs s_is_plan) (defBody s_is_plan) (defScope s_is_plan) .none kV31 dc31 pm31 an31 cd31 ct31), sl31⟩) (e31 : PySem.W.codeIn K cd31 "is_plan" = true) (k31 : PySem.W.keepIn K (.ref f31) = true)
    (a32 : PySem.W.nsIn K mainGlobals "price_of" = some (some (.ref f32))) (l32 : K.lookup f32 = some ⟨oc32, od32, .func (PySem.W.fnOf "price_of" "price_of" (defArgs s_price_of) (defBody s_price_of) (defScope s_price_of) .none kV32 dc32 pm32 an32 cd32 ct32), sl32⟩) (e32 : PySem.W.codeIn K cd32 "price_of" = true) (k32 : PySem.W.keepIn K (.ref f32) = true)
    (a33 : PySem.W.nsIn K mainGlobals "law" = some (some (.ref f33))) (l33 : K.lookup f33 = some ⟨oc33, od33, .func (PySem.W.fnOf "law" "law" (defArgs s_law) (defBody s_law) (defScope s_law) .none kV33 dc33 pm33 an33 cd33 ct33), sl33⟩) (e33 : PySem.W.codeIn K cd33 "law" = true) (k33 : PySem.W.keepIn K (.ref f33) = true)
    (u_LETTERS : PySem.W.nsIn K mainGlobals "LETTERS" = some (some (.str (Str.ofString "abcdefghijklmnopqrstuvwxyz") t_LETTERS)))
    (u_MOST_BACK : PySem.W.nsIn K mainGlobals "MOST_BACK" = some (some (.int 999 t_MOST_BACK)))
    (u_MOST_LETTERS : PySem.W.nsIn K mainGlobals "MOST_LETTERS" = some (some (.int 12 t_MOST_LETTERS)))
    (u_MOST_ROOM : PySem.W.nsIn K mainGlobals "MOST_ROOM" = some (some (.int 200 t_MOST_ROOM)))
    (u_WEIGHT_BESIDE : PySem.W.nsIn K mainGlobals "WEIGHT_BESIDE" = some (some (.int 2 t_WEIGHT_BESIDE)))
    (z_all : PySem.W.nsIn K mainGlobals "all" = some none)
    (z_bool : PySem.W.nsIn K mainGlobals "bool" = some none)
    (z_enumerate : PySem.W.nsIn K mainGlobals "enumerate" = some none)
    (z_int : PySem.W.nsIn K mainGlobals "int" = some none)
    (z_isinstance : PySem.W.nsIn K mainGlobals "isinstance" = some none)
    (z_len : PySem.W.nsIn K mainGlobals "len" = some none)
    (z_list : PySem.W.nsIn K mainGlobals "list" = some none)
    (z_max : PySem.W.nsIn K mainGlobals "max" = some none)
    (z_min : PySem.W.nsIn K mainGlobals "min" = some none)
    (z_range : PySem.W.nsIn K mainGlobals "range" = some none)
    (z_reversed : PySem.W.nsIn K mainGlobals "reversed" = some none)
    (z_set : PySem.W.nsIn K mainGlobals "set" = some none)
    (z_sorted : PySem.W.nsIn K mainGlobals "sorted" = some none)
    (z_str : PySem.W.nsIn K mainGlobals "str" = some none)
    (z_sum : PySem.W.nsIn K mainGlobals "sum" = some none)
    (z_tuple : PySem.W.nsIn K mainGlobals "tuple" = some none)
    (b_BookError : PySem.W.nsIn K mainGlobals "BookError" = some (some (.ref A_BookError)))
    (b_NoRoom : PySem.W.nsIn K mainGlobals "NoRoom" = some (some (.ref A_NoRoom)))
    (b_NoWord : PySem.W.nsIn K mainGlobals "NoWord" = some (some (.ref A_NoWord)))
    (q_NoRoom : PySem.W.excIn K A_NoRoom PySem.HandSPX.veTail "ValueError.__new__" = true)
    (i_NoWord : PySem.W.findIn K (.ref A_NoWord) "__init__" = some (some (.ref fI_NoWord))) (t_NoWord : PySem.W.typeIn K (.ref fI_NoWord) = some (.type "function")) (l_NoWord : K.lookup fI_NoWord = some ⟨oc_NoWord, od_NoWord, .func (PySem.W.fnOf "__init__" "NoWord.__init__" (defArgs s_NoWord_i) (defBody s_NoWord_i) (defScope s_NoWord_i) .none kV_NoWord dc_NoWord pm_NoWord an_NoWord cd_NoWord ct_NoWord), sl_NoWord⟩) (e_NoWord : PySem.W.codeIn K cd_NoWord "NoWord.__init__" = true) (k_NoWord : PySem.W.keepIn K (.ref fI_NoWord) = true)
    (y_sp : PySem.W.specialIn K (.ref A_BookError) "__getattribute__" = some (some (.builtin "type.__getattribute__"))) (y_rd : PySem.W.readsIn K A_BookError (.type "type") = true) (y_fc : PySem.W.findCls K (.ref A_BookError) (.type "type") "__init__" = some (.val (.builtin "ValueError.__init__")))
    (tb : tabB K [("BookError", A_BookError), ("NoRoom", A_NoRoom), ("NoWord", A_NoWord)] = true)
    (nf_number : nofB K [("BookError", A_BookError), ("NoRoom", A_NoRoom), ("NoWord", A_NoWord)] "number" = true) :
    ∃ fd : FuncData, (∀ (s : Shared) (v : Value), BindsTo s fd ⟨[v], []⟩ [("script", v)]) ∧ ∀ base : Heap, K.In base → base.Ns mainGlobals mg → FnOk l.prog w K mg base CX0 8 fa fd ["script"] (spLaw K) := by
  have e := hfa.symm.trans (PySem.W.mg_of X G a33)
  cases e
  have T : Tx mg := ⟨PySem.W.mg_none_of X G z_all, PySem.W.mg_none_of X G z_bool, PySem.W.mg_none_of X G z_enumerate, PySem.W.mg_none_of X G z_int, PySem.W.mg_none_of X G z_isinstance, PySem.W.mg_none_of X G z_len, PySem.W.mg_none_of X G z_list, PySem.W.mg_none_of X G z_max, PySem.W.mg_none_of X G z_min, PySem.W.mg_none_of X G z_range, PySem.W.mg_none_of X G z_reversed, PySem.W.mg_none_of X G z_set, PySem.W.mg_none_of X G z_sorted, PySem.W.mg_none_of X G z_str, PySem.W.mg_none_of X G z_sum, PySem.W.mg_none_of X G z_tuple, ⟨_, PySem.W.mg_of X G u_LETTERS⟩, ⟨_, PySem.W.mg_of X G u_MOST_BACK⟩, ⟨_, PySem.W.mg_of X G u_MOST_LETTERS⟩, ⟨_, PySem.W.mg_of X G u_MOST_ROOM⟩, ⟨_, PySem.W.mg_of X G u_WEIGHT_BESIDE⟩⟩
  refine ⟨PySem.W.fnOf "law" "law" (defArgs s_law) (defBody s_law) (defScope s_law) .none kV33 dc33 pm33 an33 cd33 ct33, fun s v => .of_eq rfl, fun base _ _ => ?_⟩
  have tab := tab_mk (tb := []) tb
  have lk_BookError : List.lookup ("BookError" : Str) ([("BookError", A_BookError), ("NoRoom", A_NoRoom), ("NoWord", A_NoWord)] : List (Str × Addr)) = some A_BookError := by kernel_rfl
  have lk_NoRoom : List.lookup ("NoRoom" : Str) ([("BookError", A_BookError), ("NoRoom", A_NoRoom), ("NoWord", A_NoWord)] : List (Str × Addr)) = some A_NoRoom := by kernel_rfl
  have lk_NoWord : List.lookup ("NoWord" : Str) ([("BookError", A_BookError), ("NoRoom", A_NoRoom), ("NoWord", A_NoWord)] : List (Str × Addr)) = some A_NoWord := by kernel_rfl
  have B : BIni K mg "BookError" A_BookError := ⟨PySem.W.mg_of X G b_BookError, y_sp, y_rd, y_fc⟩
  have fn_NoWord := fun_mk (st := s_NoWord_i) l_NoWord e_NoWord k_NoWord
  have U : Ux l.prog w K mg base (fun c => List.lookup c ([("BookError", A_BookError), ("NoRoom", A_NoRoom), ("NoWord", A_NoWord)] : List (Str × Addr))) [] := ⟨tab, ⟨_, lk_BookError, PySem.W.mg_of X G b_BookError⟩, ⟨_, lk_NoRoom, PySem.W.mg_of X G b_NoRoom⟩, ⟨_, lk_NoWord, PySem.W.mg_of X G b_NoWord⟩, ⟨_, lk_NoRoom, PySem.W.mg_of X G b_NoRoom, tab.ex "NoRoom" _ lk_NoRoom, q_NoRoom⟩, ⟨_, _, _, lk_NoWord, PySem.W.mg_of X G b_NoWord, tab.ex "NoWord" _ lk_NoWord, i_NoWord, t_NoWord, ini_NoWord fn_NoWord (tab.ex "NoWord" _ lk_NoWord) (nof_mk nf_number "NoWord" _ lk_NoWord) B, fn_NoWord.binds fun _ _ _ _ _ _ us hl => match us, hl with | [_, _], _ => rfl⟩, nof_mk nf_number⟩
  have c_law_reed := ok_law_reed (P := l.prog) (w := w) (base := base) (cl := fun c => List.lookup c ([("BookError", A_BookError), ("NoRoom", A_NoRoom), ("NoWord", A_NoWord)] : List (Str × Addr))) (tb := []) (fun_mk (st := s_law_reed) l1 e1 k1) (PySem.W.mg_of X G a1) T U 
  have c_law_sip := ok_law_sip (P := l.prog) (w := w) (base := base) (cl := fun c => List.lookup c ([("BookError", A_BookError), ("NoRoom", A_NoRoom), ("NoWord", A_NoWord)] : List (Str × Addr))) (tb := []) (fun_mk (st := s_law_sip) l2 e2 k2) (PySem.W.mg_of X G a2) T U 
  have c_law_row := ok_law_row (P := l.prog) (w := w) (base := base) (cl := fun c => List.lookup c ([("BookError", A_BookError), ("NoRoom", A_NoRoom), ("NoWord", A_NoWord)] : List (Str × Addr))) (tb := []) (fun_mk (st := s_law_row) l3 e3 k3) (PySem.W.mg_of X G a3) T U c_law_sip
  have c_weight := ok_weight (P := l.prog) (w := w) (base := base) (cl := fun c => List.lookup c ([("BookError", A_BookError), ("NoRoom", A_NoRoom), ("NoWord", A_NoWord)] : List (Str × Addr))) (tb := []) (fun_mk (st := s_weight) l4 e4 k4) (PySem.W.mg_of X G a4) T U 
  have c_behind_put := ok_behind_put (P := l.prog) (w := w) (base := base) (cl := fun c => List.lookup c ([("BookError", A_BookError), ("NoRoom", A_NoRoom), ("NoWord", A_NoWord)] : List (Str × Addr))) (tb := []) (fun_mk (st := s_behind_put) l5 e5 k5) (PySem.W.mg_of X G a5) T U c_weight
  have c_deed_text := ok_deed_text (P := l.prog) (w := w) (base := base) (cl := fun c => List.lookup c ([("BookError", A_BookError), ("NoRoom", A_NoRoom), ("NoWord", A_NoWord)] : List (Str × Addr))) (tb := []) (fun_mk (st := s_deed_text) l6 e6 k6) (PySem.W.mg_of X G a6) T U 
  have c_deed_price := ok_deed_price (P := l.prog) (w := w) (base := base) (cl := fun c => List.lookup c ([("BookError", A_BookError), ("NoRoom", A_NoRoom), ("NoWord", A_NoWord)] : List (Str × Addr))) (tb := []) (fun_mk (st := s_deed_price) l7 e7 k7) (PySem.W.mg_of X G a7) T U c_deed_text
  have c_deeds_at := ok_deeds_at (P := l.prog) (w := w) (base := base) (cl := fun c => List.lookup c ([("BookError", A_BookError), ("NoRoom", A_NoRoom), ("NoWord", A_NoWord)] : List (Str × Addr))) (tb := []) (fun_mk (st := s_deeds_at) l8 e8 k8) (PySem.W.mg_of X G a8) T U c_weight c_behind_put c_deed_price
  have c_all_deeds := ok_all_deeds (P := l.prog) (w := w) (base := base) (cl := fun c => List.lookup c ([("BookError", A_BookError), ("NoRoom", A_NoRoom), ("NoWord", A_NoWord)] : List (Str × Addr))) (tb := []) (fun_mk (st := s_all_deeds) l9 e9 k9) (PySem.W.mg_of X G a9) T U c_deeds_at
  have c_lessened := ok_lessened (P := l.prog) (w := w) (base := base) (cl := fun c => List.lookup c ([("BookError", A_BookError), ("NoRoom", A_NoRoom), ("NoWord", A_NoWord)] : List (Str × Addr))) (tb := []) (fun_mk (st := s_lessened) l10 e10 k10) (PySem.W.mg_of X G a10) T U 
  have c_item_text := ok_item_text (P := l.prog) (w := w) (base := base) (cl := fun c => List.lookup c ([("BookError", A_BookError), ("NoRoom", A_NoRoom), ("NoWord", A_NoWord)] : List (Str × Addr))) (tb := []) (fun_mk (st := s_item_text) l11 e11 k11) (PySem.W.mg_of X G a11) T U 
  have c_item_price := ok_item_price (P := l.prog) (w := w) (base := base) (cl := fun c => List.lookup c ([("BookError", A_BookError), ("NoRoom", A_NoRoom), ("NoWord", A_NoWord)] : List (Str × Addr))) (tb := []) (fun_mk (st := s_item_price) l12 e12 k12) (PySem.W.mg_of X G a12) T U c_item_text
  have c_step_price := ok_step_price (P := l.prog) (w := w) (base := base) (cl := fun c => List.lookup c ([("BookError", A_BookError), ("NoRoom", A_NoRoom), ("NoWord", A_NoWord)] : List (Str × Addr))) (tb := []) (fun_mk (st := s_step_price) l13 e13 k13) (PySem.W.mg_of X G a13) T U c_deed_price c_item_price
  have c_tells_at := ok_tells_at (P := l.prog) (w := w) (base := base) (cl := fun c => List.lookup c ([("BookError", A_BookError), ("NoRoom", A_NoRoom), ("NoWord", A_NoWord)] : List (Str × Addr))) (tb := []) (fun_mk (st := s_tells_at) l14 e14 k14) (PySem.W.mg_of X G a14) T U c_step_price
  have c_layers := ok_layers (P := l.prog) (w := w) (base := base) (cl := fun c => List.lookup c ([("BookError", A_BookError), ("NoRoom", A_NoRoom), ("NoWord", A_NoWord)] : List (Str × Addr))) (tb := []) (fun_mk (st := s_layers) l15 e15 k15) (PySem.W.mg_of X G a15) T U c_all_deeds c_lessened c_tells_at
  have c_cheapest_tell := ok_cheapest_tell (P := l.prog) (w := w) (base := base) (cl := fun c => List.lookup c ([("BookError", A_BookError), ("NoRoom", A_NoRoom), ("NoWord", A_NoWord)] : List (Str × Addr))) (tb := []) (fun_mk (st := s_cheapest_tell) l16 e16 k16) (PySem.W.mg_of X G a16) T U c_tells_at
  have c_plan_along := ok_plan_along (P := l.prog) (w := w) (base := base) (cl := fun c => List.lookup c ([("BookError", A_BookError), ("NoRoom", A_NoRoom), ("NoWord", A_NoWord)] : List (Str × Addr))) (tb := []) (fun_mk (st := s_plan_along) l17 e17 k17) (PySem.W.mg_of X G a17) T U c_cheapest_tell
  have c_least := ok_least (P := l.prog) (w := w) (base := base) (cl := fun c => List.lookup c ([("BookError", A_BookError), ("NoRoom", A_NoRoom), ("NoWord", A_NoWord)] : List (Str × Addr))) (tb := []) (fun_mk (st := s_least) l18 e18 k18) (PySem.W.mg_of X G a18) T U c_layers c_plan_along
  have c_tells := ok_tells (P := l.prog) (w := w) (base := base) (cl := fun c => List.lookup c ([("BookError", A_BookError), ("NoRoom", A_NoRoom), ("NoWord", A_NoWord)] : List (Str × Addr))) (tb := []) (fun_mk (st := s_tells) l19 e19 k19) (PySem.W.mg_of X G a19) T U 
  have c_weight_of := ok_weight_of (P := l.prog) (w := w) (base := base) (cl := fun c => List.lookup c ([("BookError", A_BookError), ("NoRoom", A_NoRoom), ("NoWord", A_NoWord)] : List (Str × Addr))) (tb := []) (fun_mk (st := s_weight_of) l20 e20 k20) (PySem.W.mg_of X G a20) T U c_weight
  have c_left_in := ok_left_in (P := l.prog) (w := w) (base := base) (cl := fun c => List.lookup c ([("BookError", A_BookError), ("NoRoom", A_NoRoom), ("NoWord", A_NoWord)] : List (Str × Addr))) (tb := []) (fun_mk (st := s_left_in) l21 e21 k21) (PySem.W.mg_of X G a21) T U c_weight_of c_weight
  have c_put_in := ok_put_in (P := l.prog) (w := w) (base := base) (cl := fun c => List.lookup c ([("BookError", A_BookError), ("NoRoom", A_NoRoom), ("NoWord", A_NoWord)] : List (Str × Addr))) (tb := []) (fun_mk (st := s_put_in) l22 e22 k22) (PySem.W.mg_of X G a22) T U c_left_in c_weight
  have c_word_at := ok_word_at (P := l.prog) (w := w) (base := base) (cl := fun c => List.lookup c ([("BookError", A_BookError), ("NoRoom", A_NoRoom), ("NoWord", A_NoWord)] : List (Str × Addr))) (tb := []) (fun_mk (st := s_word_at) l23 e23 k23) (PySem.W.mg_of X G a23) T U 
  have c_next_number := ok_next_number (P := l.prog) (w := w) (base := base) (cl := fun c => List.lookup c ([("BookError", A_BookError), ("NoRoom", A_NoRoom), ("NoWord", A_NoWord)] : List (Str × Addr))) (tb := []) (fun_mk (st := s_next_number) l24 e24 k24) (PySem.W.mg_of X G a24) T U 
  have c_done := ok_done (P := l.prog) (w := w) (base := base) (cl := fun c => List.lookup c ([("BookError", A_BookError), ("NoRoom", A_NoRoom), ("NoWord", A_NoWord)] : List (Str × Addr))) (tb := []) (fun_mk (st := s_done) l25 e25 k25) (PySem.W.mg_of X G a25) T U c_left_in c_put_in c_word_at c_next_number
  have c_is_word := ok_is_word (P := l.prog) (w := w) (base := base) (cl := fun c => List.lookup c ([("BookError", A_BookError), ("NoRoom", A_NoRoom), ("NoWord", A_NoWord)] : List (Str × Addr))) (tb := []) (fun_mk (st := s_is_word) l26 e26 k26) (PySem.W.mg_of X G a26) T U 
  have c_is_between := ok_is_between (P := l.prog) (w := w) (base := base) (cl := fun c => List.lookup c ([("BookError", A_BookError), ("NoRoom", A_NoRoom), ("NoWord", A_NoWord)] : List (Str × Addr))) (tb := []) (fun_mk (st := s_is_between) l27 e27 k27) (PySem.W.mg_of X G a27) T U 
  have c_is_deed := ok_is_deed (P := l.prog) (w := w) (base := base) (cl := fun c => List.lookup c ([("BookError", A_BookError), ("NoRoom", A_NoRoom), ("NoWord", A_NoWord)] : List (Str × Addr))) (tb := []) (fun_mk (st := s_is_deed) l28 e28 k28) (PySem.W.mg_of X G a28) T U c_is_word c_is_between
  have c_behind_step := ok_behind_step (P := l.prog) (w := w) (base := base) (cl := fun c => List.lookup c ([("BookError", A_BookError), ("NoRoom", A_NoRoom), ("NoWord", A_NoWord)] : List (Str × Addr))) (tb := []) (fun_mk (st := s_behind_step) l29 e29 k29) (PySem.W.mg_of X G a29) T U c_done c_is_deed
  have c_can_tell := ok_can_tell (P := l.prog) (w := w) (base := base) (cl := fun c => List.lookup c ([("BookError", A_BookError), ("NoRoom", A_NoRoom), ("NoWord", A_NoWord)] : List (Str × Addr))) (tb := []) (fun_mk (st := s_can_tell) l30 e30 k30) (PySem.W.mg_of X G a30) T U c_is_between
  have c_is_plan := ok_is_plan (P := l.prog) (w := w) (base := base) (cl := fun c => List.lookup c ([("BookError", A_BookError), ("NoRoom", A_NoRoom), ("NoWord", A_NoWord)] : List (Str × Addr))) (tb := []) (fun_mk (st := s_is_plan) l31 e31 k31) (PySem.W.mg_of X G a31) T U c_tells c_behind_step c_can_tell
  have c_price_of := ok_price_of (P := l.prog) (w := w) (base := base) (cl := fun c => List.lookup c ([("BookError", A_BookError), ("NoRoom", A_NoRoom), ("NoWord", A_NoWord)] : List (Str × Addr))) (tb := []) (fun_mk (st := s_price_of) l32 e32 k32) (PySem.W.mg_of X G a32) T U c_step_price c_tells
  exact law_end (C := ⟨K, fun c => List.lookup c ([("BookError", A_BookError), ("NoRoom", A_NoRoom), ("NoWord", A_NoWord)] : List (Str × Addr)), []⟩) rfl rfl (okF_law (P := l.prog) (w := w) (base := base) (cl := fun c => List.lookup c ([("BookError", A_BookError), ("NoRoom", A_NoRoom), ("NoWord", A_NoWord)] : List (Str × Addr))) (fun_mk (st := s_law) l33 e33 k33) T U c_law_reed c_law_sip c_law_row c_least c_is_plan c_price_of) law_pure
theorem walk {l : PySem.W.OpenLaw} {q : Program} {loose : List Str} {XP : (Str → Option Value) → Heap → Prop} {YP : World → Heap → Prop} {d : DefRec} {K : Params → PySem.W.Frag} (hn : l.most = some 63) (hdf : d.params.defaults = [])
    (hY : ∀ (w : World) (h : Heap), YP w h → (K w.params).In h)
    (F : ∀ (w : World) (mg : Str → Option Value) (fa : Addr) (h : Heap), (K w.params).In h → h.Ns mainGlobals mg → mg d.name = some (.ref fa) →
      ∃ fd : FuncData, (∀ (s : Shared) (u : Value), BindsTo s fd ⟨[u], []⟩ [("script", u)]) ∧ ∀ base : Heap, (K w.params).In base → base.Ns mainGlobals mg → FnOk l.prog w (K w.params) mg base CX0 8 fa fd ["script"] (spLaw (K w.params))) :
    PySem.W.WalkO q loose XP YP l.row.toRowW d [] (fun f vs => PySem.call f vs) :=
  L2.walk_of (n := 63) (k := 8) (x := "script") (CX := fun _ => CX0) (sp := fun w => spLaw (K w.params)) hn (by decide) hdf ⟨rfl, by decide, by decide⟩ hY F (fun _ _ a ns hl _ hS => ⟨a, ns, rfl, hS, hl, fun _ => rfl⟩) fun _ _ _ _ _ z => z
end Lw
open PySem PySem.W PyProof.Rows
set_option maxRecDepth 100000 in
set_option maxHeartbeats 0 in
theorem PySem.Challenge.cw_nickbook_k51_whole_rows_put_together_holds : PySem.Challenge.rw_nickbook_k51_whole_rows_put_together.Holds := by
  w_on; o_law; k_head; (case hw => w_witness2)
  k_fill
  refine Lw.walk (l := PySem.Challenge.rw_nickbook_k51_whole_rows_put_together) rfl rfl (fun w h Y => PySem.W.kIn_of Y) ?F
  case F =>
    intro w mg fa h KX G hmg 
    refine' Lw.all_mk KX G hmg  ?a1 ?l1 ?e1 ?k1 ?a2 ?l2 ?e2 ?k2 ?a3 ?l3 ?e3 ?k3 ?a4 ?l4 ?e4 ?k4 ?a5 ?l5 ?e5 ?k5 ?a6 ?l6 ?e6 ?k6 ?a7 ?l7 ?e7 ?k7 ?a8 ?l8 ?e8 ?k8 ?a9 ?l9 ?e9 ?k9 ?a10 ?l10 ?e10 ?k10 ?a11 ?l11 ?e11 ?k11 ?a12 ?l12 ?e12 ?k12 ?a13 ?l13 ?e13 ?k13 ?a14 ?l14 ?e14 ?k14 ?a15 ?l15 ?e15 ?k15 ?a16 ?l16 ?e16 ?k16 ?a17 ?l17 ?e17 ?k17 ?a18 ?l18 ?e18 ?k18 ?a19 ?l19 ?e19 ?k19 ?a20 ?l20 ?e20 ?k20 ?a21 ?l21 ?e21 ?k21 ?a22 ?l22 ?e22 ?k22 ?a23 ?l23 ?e23 ?k23 ?a24 ?l24 ?e24 ?k24 ?a25 ?l25 ?e25 ?k25 ?a26 ?l26 ?e26 ?k26 ?a27 ?l27 ?e27 ?k27 ?a28 ?l28 ?e28 ?k28 ?a29 ?l29 ?e29 ?k29 ?a30 ?l30 ?e30 ?k30 ?a31 ?l31 ?e31 ?k31 ?a32 ?l32 ?e32 ?k32 ?a33 ?l33 ?e33 ?k33 ?u_LETTERS ?u_MOST_BACK ?u_MOST_LETTERS ?u_MOST_ROOM ?u_WEIGHT_BESIDE ?z_all ?z_bool ?z_enumerate ?z_int ?z_isinstance ?z_len ?z_list ?z_max ?z_min ?z_range ?z_reversed ?z_set ?z_sorted ?z_str ?z_sum ?z_tuple ?b_BookError ?b_NoRoom ?b_NoWord ?q_NoRoom ?i_NoWord ?t_NoWord ?l_NoWord ?e_NoWord ?k_NoWord ?y_sp ?y_rd ?y_fc ?tb ?nf_number
    (case a1 => k_is); (case l1 => k_is); (case e1 => k_is); (case k1 => k_is); (case a2 => k_is); (case l2 => k_is); (case e2 => k_is); (case k2 => k_is); (case a3 => k_is); (case l3 => k_is); (case e3 => k_is); (case k3 => k_is); (case a4 => k_is); (case l4 => k_is); (case e4 => k_is); (case k4 => k_is); (case a5 => k_is); (case l5 => k_is); (case e5 => k_is); (case k5 => k_is); (case a6 => k_is); (case l6 => k_is); (case e6 => k_is); (case k6 => k_is); (case a7 => k_is); (case l7 => k_is); (case e7 => k_is); (case k7 => k_is); (case a8 => k_is); (case l8 => k_is); (case e8 => k_is); (case k8 => k_is); (case a9 => k_is); (case l9 => k_is); (case e9 => k_is); (case k9 => k_is); (case a10 => k_is); (case l10 => k_is); (case e10 => k_is); (case k10 => k_is); (case a11 => k_is); (case l11 => k_is); (case e11 => k_is); (case k11 => k_is); (case a12 => k_is); (case l12 => k_is); (case e12 => k_is); (case k12 => k_is); (case a13 => k_is); (case l13 => k_is); (case e13 => k_is); (case k13 => k_is); (case a14 => k_is); (case l14 => k_is); (case e14 => k_is); (case k14 => k_is); (case a15 => k_is); (case l15 => k_is); (case e15 => k_is); (case k15 => k_is); (case a16 => k_is); (case l16 => k_is); (case e16 => k_is); (case k16 => k_is); (case a17 => k_is); (case l17 => k_is); (case e17 => k_is); (case k17 => k_is); (case a18 => k_is); (case l18 => k_is); (case e18 => k_is); (case k18 => k_is); (case a19 => k_is); (case l19 => k_is); (case e19 => k_is); (case k19 => k_is); (case a20 => k_is); (case l20 => k_is); (case e20 => k_is); (case k20 => k_is); (case a21 => k_is); (case l21 => k_is); (case e21 => k_is); (case k21 => k_is); (case a22 => k_is); (case l22 => k_is); (case e22 => k_is); (case k22 => k_is); (case a23 => k_is); (case l23 => k_is); (case e23 => k_is); (case k23 => k_is); (case a24 => k_is); (case l24 => k_is); (case e24 => k_is); (case k24 => k_is); (case a25 => k_is); (case l25 => k_is); (case e25 => k_is); (case k25 => k_is); (case a26 => k_is); (case l26 => k_is); (case e26 => k_is); (case k26 => k_is); (case a27 => k_is); (case l27 => k_is); (case e27 => k_is); (case k27 => k_is); (case a28 => k_is); (case l28 => k_is); (case e28 => k_is); (case k28 => k_is); (case a29 => k_is); (case l29 => k_is); (case e29 => k_is); (case k29 => k_is); (case a30 => k_is); (case l30 => k_is); (case e30 => k_is); (case k30 => k_is); (case a31 => k_is); (case l31 => k_is); (case e31 => k_is); (case k31 => k_is); (case a32 => k_is); (case l32 => k_is); (case e32 => k_is); (case k32 => k_is); (case a33 => k_is); (case l33 => k_is); (case e33 => k_is); (case k33 => k_is); (case u_LETTERS => k_is); (case u_MOST_BACK => k_is); (case u_MOST_LETTERS => k_is); (case u_MOST_ROOM => k_is); (case u_WEIGHT_BESIDE => k_is); (case z_all => k_is); (case z_bool => k_is); (case z_enumerate => k_is); (case z_int => k_is); (case z_isinstance => k_is); (case z_len => k_is); (case z_list => k_is); (case z_max => k_is); (case z_min => k_is); (case z_range => k_is); (case z_reversed => k_is); (case z_set => k_is); (case z_sorted => k_is); (case z_str => k_is); (case z_sum => k_is); (case z_tuple => k_is); (case b_BookError => k_is); (case b_NoRoom => k_is); (case b_NoWord => k_is); (case q_NoRoom => k_exc); (case i_NoWord => k_is); (case t_NoWord => k_is); (case l_NoWord => k_is); (case e_NoWord => k_is); (case k_NoWord => k_is); (case y_sp => k_is); (case y_rd => k_is); (case y_fc => k_is); (case tb => kernel_rfl); (case nf_number => kernel_rfl)
