import PyProof.Rows.All
import Wide.All
import OpenK.AllK
import Wide.FinOn
import HandS.ForMost
import HandS.ForExc
import HandS.IsInst
import HandS.Wide
import HandS.WideBits
import HandS.WideMore
import HandS.TupAny
import HandS.SortInts
import HandS.Style
import HandS.RaiseMore
import HandS.Deep
import KE.GoesNew
import HandS.Defaults
import HandS.Flow
import HandS.More
import HandS.List
import HandS.Ends
import HandS.Words
import PySem.Challenge.RW_cutplans_k74_fewest_lengths_judged
set_option Elab.async false
set_option linter.all false
set_option autoImplicit false
set_option maxRecDepth 100000
set_option maxHeartbeats 4000000
/-! CutBase: a functional mirror of Python runs. MV: values of the mirror, MO: its objects, Hm: its heap (a list, an
object's address is its place), Res: how a piece ends. Rst ties a mirror heap to HandS's abstract heap. rdE, rdT, rdS:
the reading «the mirror's run of this piece ends well, and what is wanted holds of all that it stands for». -/
namespace Cutp
open PySem L2

/-! ### the mirror -/
inductive MV where
  | non | bl (b : Bool) | int (i : Int) | str (x : Str) | ty (n : String) | gl (n : Nat) | ref (i : Nat)
  | tup (xs : List MV) | flst (xs : List MV)
inductive MO where
  | lst (xs : List MV) | ins (c : Nat) (fs : List (Str × MV)) | dK (kvs : List (Key × MV))
abbrev Hm := List MO
structure MX where
  c : Nat
  fs : List (Str × MV)
inductive Res (α : Type) where
  | ok (a : α) (h : Hm) | exc (x : MX) (h : Hm) | stuck
abbrev M (α : Type) := Hm → Res α
abbrev En := List (Option MV)
/-- how a statement ends -/
inductive SR where
  | nx (ρ : En) (h : Hm) | rt (v : MV) (h : Hm) | bk (ρ : En) (h : Hm) | ct (ρ : En) (h : Hm) | exc (x : MX) (ρ : En) (h : Hm) | stuck

def Res.bind {α β : Type} (r : Res α) (k : α → M β) : Res β :=
  match r with
  | .ok a h => k a h
  | .exc x h => .exc x h
  | .stuck => .stuck
@[simp] theorem Res.bind_ok {α β : Type} (a : α) (h : Hm) (k : α → M β) : (Res.ok a h).bind k = k a h := rfl
@[simp] theorem Res.bind_exc {α β : Type} (x : MX) (h : Hm) (k : α → M β) : (Res.exc x h : Res α).bind k = .exc x h := rfl
@[simp] theorem Res.bind_stuck {α β : Type} (k : α → M β) : (Res.stuck : Res α).bind k = .stuck := rfl

/-! ### what a mirror value stands for -/
/-- where the program's own things stand: T.ga its defs, T.ca its classes -/
structure Tb where
  K : PySem.W.Frag
  ga : Nat → Addr
  ca : Nat → Addr
/-- a list that never changes: locked, or written -/
def SqF (K : PySem.W.Frag) (H : Hp) (a : Addr) (xs : List V) : Prop :=
  (∃ o, H a = some (.frz o (.lst xs))) ∨ ∀ H', SqL K H' a xs
mutual
def RepV (T : Tb) (as : List Addr) (H : Hp) : MV → V → Prop
  | .non, v => v = .non
  | .bl b, v => v = .bl b
  | .int i, v => v = .int i
  | .str x, v => v = .str x
  | .ty n, v => v = .ty n
  | .gl n, v => v = .ref (T.ga n)
  | .ref i, v => ∃ a, as[i]? = some a ∧ v = .ref a
  | .tup xs, v => ∃ a vs, v = .ref a ∧ SqT T.K H a vs ∧ RepL T as H xs vs
  | .flst xs, v => ∃ a vs, v = .ref a ∧ SqF T.K H a vs ∧ RepL T as H xs vs
def RepL (T : Tb) (as : List Addr) (H : Hp) : List MV → List V → Prop
  | [], vs => vs = []
  | x :: xs, vs => ∃ v r, vs = v :: r ∧ RepV T as H x v ∧ RepL T as H xs r
end
def RepF (T : Tb) (as : List Addr) (H : Hp) : List (Str × MV) → List (Str × V) → Prop
  | [], vs => vs = []
  | x :: xs, vs => ∃ v r, vs = (x.1, v) :: r ∧ RepV T as H x.2 v ∧ RepF T as H xs r
def RepK (T : Tb) (as : List Addr) (H : Hp) : List (Key × MV) → List (Key × V) → Prop
  | [], vs => vs = []
  | x :: xs, vs => ∃ v r, vs = (x.1, v) :: r ∧ RepV T as H x.2 v ∧ RepK T as H xs r
def RepO (T : Tb) (as : List Addr) (H : Hp) : MO → HO → Prop
  | .lst xs, u => ∃ vs, u = .lst vs ∧ RepL T as H xs vs
  | .ins c fs, u => ∃ dx vs, u = .ins (T.ca c) dx vs ∧ RepF T as H fs vs
  | .dK kvs, u => ∃ vs, u = .dK vs ∧ RepK T as H kvs vs
structure Rst (T : Tb) (as : List Addr) (H : Hp) (h : Hm) : Prop where
  len : as.length = h.length
  nd : as.Nodup
  obj : ∀ (i : Nat) (a : Addr) (o : MO), as[i]? = some a → h[i]? = some o → ∃ u, H a = some u ∧ RepO T as H o u
/-- the heap goes on: more addresses, what is none of them stays -/
structure Stp (as : List Addr) (H : Hp) (as' : List Addr) (H' : Hp) : Prop where
  pre : ∃ l, as' = as ++ l
  out : ∀ a u, H a = some u → a ∉ as → H' a = some u ∧ a ∉ as'
theorem Stp.refl (as : List Addr) (H : Hp) : Stp as H as H := ⟨⟨[], by simp⟩, fun _ _ e n => ⟨e, n⟩⟩
theorem Stp.trans {as as1 as2 : List Addr} {H H1 H2 : Hp} (a : Stp as H as1 H1) (b : Stp as1 H1 as2 H2) : Stp as H as2 H2 := by
  obtain ⟨l1, e1⟩ := a.pre
  obtain ⟨l2, e2⟩ := b.pre
  refine ⟨⟨l1 ++ l2, by rw [e2, e1, List.append_assoc]⟩, fun c u e n => ?_⟩
  obtain ⟨q1, q2⟩ := a.out c u e n
  exact b.out c u q1 q2
/-- what is neither list, instance nor dict is none of the mirror's -/
def NotM : HO → Prop
  | .lst _ => False
  | .ins _ _ _ => False
  | .dK _ => False
  | _ => True
section
variable {T : Tb} {as as' : List Addr} {H H' : Hp} {h : Hm}
theorem Rst.notIn (R : Rst T as H h) {a : Addr} {u : HO} (e : H a = some u) (n : NotM u) : a ∉ as := fun hm => by
  obtain ⟨i, hi⟩ := List.getElem?_of_mem hm
  have hl : i < h.length := by rw [← R.len]; exact (List.getElem?_eq_some_iff.mp hi).1
  obtain ⟨w, hw, r⟩ := R.obj i a h[i] hi (by simp [hl])
  rw [e] at hw; cases hw
  cases ho : h[i] with
  | lst xs => rw [ho] at r; obtain ⟨_, rfl, _⟩ := r; exact n
  | ins c fs => rw [ho] at r; obtain ⟨_, _, rfl, _⟩ := r; exact n
  | dK kvs => rw [ho] at r; obtain ⟨_, rfl, _⟩ := r; exact n
theorem Stp.sqT (S : Stp as H as' H') (R : Rst T as H h) {a : Addr} {vs : List V} (q : SqT T.K H a vs) : SqT T.K H' a vs := by
  rcases q with (q | ⟨o, q⟩) | q
  · exact .inl (.inl (S.out a _ q (R.notIn q trivial)).1)
  · exact .inl (.inr ⟨o, (S.out a _ q (R.notIn q trivial)).1⟩)
  · exact .inr q
end
theorem nodup_at {α : Type} {l : List α} (nd : l.Nodup) {i j : Nat} {a : α} (x : l[i]? = some a) (y : l[j]? = some a) : i = j := by
  obtain ⟨h1, e1⟩ := List.getElem?_eq_some_iff.mp x
  obtain ⟨h2, e2⟩ := List.getElem?_eq_some_iff.mp y
  exact (List.getElem_inj nd).mp (e1.trans e2.symm)
/-- what the mirror's values lean on -/
structure Kp (T : Tb) (as : List Addr) (H : Hp) (as' : List Addr) (H' : Hp) : Prop where
  pre : ∃ l, as' = as ++ l
  tup : ∀ a vs, SqT T.K H a vs → SqT T.K H' a vs
  frz : ∀ a o u, H a = some (.frz o u) → H' a = some (.frz o u)
theorem Stp.kp {T : Tb} {as as' : List Addr} {H H' : Hp} {h : Hm} (S : Stp as H as' H') (R : Rst T as H h) : Kp T as H as' H' :=
  ⟨S.pre, fun _ _ q => S.sqT R q, fun a _ _ q => (S.out a _ q (R.notIn q trivial)).1⟩
theorem get_pre {α : Type} {as as' : List α} (p : ∃ l, as' = as ++ l) {i : Nat} {a : α} (e : as[i]? = some a) : as'[i]? = some a := by
  obtain ⟨l, rfl⟩ := p
  rw [List.getElem?_append_left (List.getElem?_eq_some_iff.mp e).1]
  exact e

section
variable {T : Tb} {as as' : List Addr} {H H' : Hp} {h : Hm}
mutual
theorem RepV.kp (k : Kp T as H as' H') : ∀ {m : MV} {v : V}, RepV T as H m v → RepV T as' H' m v
  | .non, _, r => r
  | .bl _, _, r => r
  | .int _, _, r => r
  | .str _, _, r => r
  | .ty _, _, r => r
  | .gl _, _, r => r
  | .ref _, _, r => by
    unfold RepV at r ⊢
    obtain ⟨a, e, q⟩ := r
    exact ⟨a, get_pre k.pre e, q⟩
  | .tup xs, _, r => by
    unfold RepV at r ⊢
    obtain ⟨a, vs, e, q, l⟩ := r
    exact ⟨a, vs, e, k.tup _ _ q, RepL.kp k l⟩
  | .flst xs, _, r => by
    unfold RepV at r ⊢
    obtain ⟨a, vs, e, q, l⟩ := r
    refine ⟨a, vs, e, ?_, RepL.kp k l⟩
    rcases q with ⟨o, q⟩ | q
    · exact .inl ⟨o, k.frz _ _ _ q⟩
    · exact .inr q
theorem RepL.kp (k : Kp T as H as' H') : ∀ {m : List MV} {v : List V}, RepL T as H m v → RepL T as' H' m v
  | [], _, r => by
    unfold RepL at r ⊢
    exact r
  | x :: xs, _, r => by
    unfold RepL at r ⊢
    obtain ⟨v, q, e, r1, r2⟩ := r
    exact ⟨v, q, e, RepV.kp k r1, RepL.kp k r2⟩
end
theorem RepF.kp (k : Kp T as H as' H') : ∀ {m : List (Str × MV)} {v : List (Str × V)}, RepF T as H m v → RepF T as' H' m v
  | [], _, r => r
  | x :: xs, _, r => by
    unfold RepF at r ⊢
    obtain ⟨v, q, e, r1, r2⟩ := r
    exact ⟨v, q, e, RepV.kp k r1, RepF.kp k r2⟩
theorem RepK.kp (k : Kp T as H as' H') : ∀ {m : List (Key × MV)} {v : List (Key × V)}, RepK T as H m v → RepK T as' H' m v
  | [], _, r => r
  | x :: xs, _, r => by
    unfold RepK at r ⊢
    obtain ⟨v, q, e, r1, r2⟩ := r
    exact ⟨v, q, e, RepV.kp k r1, RepK.kp k r2⟩
theorem RepO.kp (k : Kp T as H as' H') {m : MO} {u : HO} (r : RepO T as H m u) : RepO T as' H' m u := by
  cases m with
  | lst xs => obtain ⟨vs, e, r⟩ := r; exact ⟨vs, e, RepL.kp k r⟩
  | ins c fs => obtain ⟨dx, vs, e, r⟩ := r; exact ⟨dx, vs, e, RepF.kp k r⟩
  | dK kvs => obtain ⟨vs, e, r⟩ := r; exact ⟨vs, e, RepK.kp k r⟩
theorem RepL.length : ∀ {m : List MV} {v : List V}, RepL T as H m v → m.length = v.length
  | [], _, r => by unfold RepL at r; rw [r]; rfl
  | x :: xs, _, r => by
    unfold RepL at r
    obtain ⟨v, q, rfl, _, r2⟩ := r
    rw [List.length_cons, List.length_cons, RepL.length r2]
theorem RepL.get : ∀ {m : List MV} {v : List V} {i : Nat} {x : MV}, RepL T as H m v → m[i]? = some x → ∃ y, v[i]? = some y ∧ RepV T as H x y
  | [], _, _, _, _, e => by simp at e
  | x :: xs, _, 0, y, r, e => by
    unfold RepL at r
    obtain ⟨v, q, rfl, r1, r2⟩ := r
    simp at e; subst e
    exact ⟨v, rfl, r1⟩
  | x :: xs, _, i + 1, y, r, e => by
    unfold RepL at r
    obtain ⟨v, q, rfl, r1, r2⟩ := r
    obtain ⟨z, h1, h2⟩ := RepL.get (i := i) r2 (by simpa using e)
    exact ⟨z, by simpa using h1, h2⟩
theorem RepL.cons {x : MV} {xs : List MV} {v : V} {vs : List V} (a : RepV T as H x v) (b : RepL T as H xs vs) : RepL T as H (x :: xs) (v :: vs) := by
  unfold RepL
  exact ⟨v, vs, rfl, a, b⟩
theorem RepL.nil : RepL T as H [] [] := by unfold RepL; rfl
theorem RepL.app : ∀ {a b : List MV} {v w : List V}, RepL T as H a v → RepL T as H b w → RepL T as H (a ++ b) (v ++ w)
  | [], _, _, _, r, q => by unfold RepL at r; rw [r]; exact q
  | x :: xs, _, _, _, r, q => by
    unfold RepL at r
    obtain ⟨v, l, rfl, r1, r2⟩ := r
    exact RepL.cons r1 (RepL.app r2 q)
theorem RepL.take : ∀ {a : List MV} {v : List V} (n : Nat), RepL T as H a v → RepL T as H (a.take n) (v.take n)
  | _, _, 0, _ => by simpa using RepL.nil
  | [], _, n + 1, r => by unfold RepL at r; rw [r]; simpa using RepL.nil
  | x :: xs, _, n + 1, r => by
    unfold RepL at r
    obtain ⟨v, l, rfl, r1, r2⟩ := r
    exact RepL.cons r1 (RepL.take n r2)
theorem RepL.drop : ∀ {a : List MV} {v : List V} (n : Nat), RepL T as H a v → RepL T as H (a.drop n) (v.drop n)
  | _, _, 0, r => r
  | [], _, n + 1, r => by unfold RepL at r; rw [r]; simpa using RepL.nil
  | x :: xs, _, n + 1, r => by
    unfold RepL at r
    obtain ⟨v, l, rfl, r1, r2⟩ := r
    exact RepL.drop n r2
theorem RepL.set : ∀ {a : List MV} {v : List V} {x : MV} {y : V} (n : Nat), RepL T as H a v → RepV T as H x y → RepL T as H (a.set n x) (v.set n y)
  | [], _, _, _, _, r, _ => by unfold RepL at r; rw [r]; exact RepL.nil
  | x :: xs, _, _, _, 0, r, q => by
    unfold RepL at r
    obtain ⟨v, l, rfl, r1, r2⟩ := r
    exact RepL.cons q r2
  | x :: xs, _, _, _, n + 1, r, q => by
    unfold RepL at r
    obtain ⟨v, l, rfl, r1, r2⟩ := r
    exact RepL.cons r1 (RepL.set n r2 q)
theorem RepL.rev {a : List MV} {v : List V} (r : RepL T as H a v) : RepL T as H a.reverse v.reverse := by
  induction a generalizing v with
  | nil => unfold RepL at r; rw [r]; exact RepL.nil
  | cons x xs ih =>
    unfold RepL at r
    obtain ⟨v, l, rfl, r1, r2⟩ := r
    rw [List.reverse_cons, List.reverse_cons]
    exact RepL.app (ih r2) (RepL.cons r1 RepL.nil)
theorem RepL.ints : ∀ {ns : List Int} {v : List V}, RepL T as H (ns.map MV.int) v → v = ns.map V.int
  | [], _, r => by
    have r' : RepL T as H [] _ := r
    unfold RepL at r'; rw [r']; rfl
  | n :: ns, _, r => by
    have r' : RepL T as H (.int n :: ns.map MV.int) _ := r
    unfold RepL at r'
    obtain ⟨v, l, rfl, r1, r2⟩ := r'
    unfold RepV at r1
    rw [RepL.ints r2, r1]; rfl
theorem RepL.of_ints : ∀ {ns : List Int}, RepL T as H (ns.map MV.int) (ns.map V.int)
  | [] => RepL.nil
  | n :: ns => RepL.cons (by unfold RepV; rfl) RepL.of_ints
/-- a new object is laid -/
theorem Rst.laid (R : Rst T as H h) {p : Addr} {o : MO} {u : HO} (hp : H p = none) (hr : RepO T as H o u) : Rst T (as ++ [p]) (upd H p u) (h ++ [o]) ∧ Stp as H (as ++ [p]) (upd H p u) := by
  have pn : p ∉ as := fun hm => by
    obtain ⟨i, hi⟩ := List.getElem?_of_mem hm
    have hl : i < h.length := by rw [← R.len]; exact (List.getElem?_eq_some_iff.mp hi).1
    obtain ⟨w, hw, _⟩ := R.obj i p h[i] hi (by simp [hl])
    rw [hp] at hw; cases hw
  have S : Stp as H (as ++ [p]) (upd H p u) := by
    refine ⟨⟨[p], rfl⟩, fun a w e n => ⟨by rw [upd_ne (ne_of_none e hp)]; exact e, ?_⟩⟩
    simp only [List.mem_append, List.mem_singleton, not_or]
    exact ⟨n, ne_of_none e hp⟩
  refine ⟨⟨by simp [R.len], ?_, fun i a ob ha ho => ?_⟩, S⟩
  · rw [List.nodup_append]
    refine ⟨R.nd, by simp, fun a ha b hb => ?_⟩
    simp only [List.mem_singleton] at hb
    subst hb
    exact fun e => pn (e ▸ ha)
  · by_cases hi : i < as.length
    · rw [List.getElem?_append_left hi] at ha
      rw [List.getElem?_append_left (by rw [← R.len]; exact hi)] at ho
      obtain ⟨w, hw, r⟩ := R.obj i a ob ha ho
      exact ⟨w, by rw [upd_ne (ne_of_none hw hp)]; exact hw, r.kp (S.kp R)⟩
    · have e : i = as.length := by
        have := (List.getElem?_eq_some_iff.mp ha).1
        simp at this; omega
      subst e
      rw [List.getElem?_append_right (Nat.le_refl _)] at ha
      rw [R.len, List.getElem?_append_right (Nat.le_refl _)] at ho
      simp at ha ho
      subst ha; subst ho
      exact ⟨u, upd_same, hr.kp (S.kp R)⟩
/-- an object of the mirror's is written -/
theorem Rst.write (R : Rst T as H h) {i : Nat} {a : Addr} {o : MO} {u : HO} (ha : as[i]? = some a) (hr : RepO T as H o u) : Rst T as (upd H a u) (h.set i o) ∧ Stp as H as (upd H a u) := by
  have S : Stp as H as (upd H a u) := ⟨⟨[], by simp⟩, fun b w e n => ⟨by rw [upd_ne (fun z => n (by rw [z]; exact List.mem_of_getElem? ha))]; exact e, n⟩⟩
  refine ⟨⟨by simp [R.len], R.nd, fun j b ob hb ho => ?_⟩, S⟩
  by_cases hj : j = i
  · subst hj
    rw [ha] at hb; cases hb
    have hl : j < h.length := by
      have := (List.getElem?_eq_some_iff.mp ho).1
      simpa using this
    rw [List.getElem?_set_self hl] at ho
    cases ho
    exact ⟨u, upd_same, hr.kp (S.kp R)⟩
  · rw [List.getElem?_set_ne (Ne.symm hj)] at ho
    obtain ⟨w, hw, r⟩ := R.obj j b ob hb ho
    have ne : b ≠ a := fun e => hj (nodup_at R.nd hb (e ▸ ha))
    exact ⟨w, by rw [upd_ne ne]; exact hw, r.kp (S.kp R)⟩
end

/-! ### readings -/
def RepX (T : Tb) (as : List Addr) (H : Hp) (x : MX) (cls : Value) (d : Option Addr) : Prop :=
  cls = .ref (T.ca x.c) ∧ ((x.fs = [] ∧ d = none) ∨ ∃ dd vs, d = some dd ∧ H dd = some (.xd vs) ∧ RepF T as H x.fs vs)
/-- the run ends as r; Q is wanted of all that its value stands for -/
def EndG {α β : Type} (rep : List Addr → Hp → α → β → Prop) (T : Tb) (as : List Addr) (H : Hp) (W : WX) (σ : St) (r : Res α) (Q : β → Hp → Prop) : Prop :=
  match r with
  | .ok v h' => ∀ V H' as', Stp as H as' H' → Rst T as' H' h' → rep as' H' v V → Q V H'
  | .exc x h' => ∀ cls d H' as', Stp as H as' H' → Rst T as' H' h' → RepX T as' H' x cls d → W cls d σ H'
  | .stuck => False
/-- the frame's names -/
structure RepE (T : Tb) (as : List Addr) (H : Hp) (ρ : En) (σ : St) : Prop where
  len : ρ.length = σ.length
  at_ : ∀ (i : Nat) (v : MV), ρ[i]? = some (some v) → ∃ V, σ[i]? = some (some V) ∧ RepV T as H v V
def rdG {α β : Type} (rep : List Addr → Hp → α → β → Prop) (T : Tb) (W : WX) (m : En → M α) : St → Hp → (β → Hp → Prop) → Prop :=
  fun σ H Q => ∃ as h ρ, Rst T as H h ∧ RepE T as H ρ σ ∧ EndG rep T as H W σ (m ρ h) Q
abbrev rdE (T : Tb) (W : WX) (m : En → M MV) : TE := rdG (RepV T) T W m
abbrev rdT (T : Tb) (W : WX) (m : En → M Bool) : TT := rdG (fun _ _ a b => a = b) T W m
abbrev rdA (T : Tb) (W : WX) (m : En → M (List MV)) : TA := rdG (RepL T) T W m
section
variable {T : Tb} {as as1 : List Addr} {H H1 : Hp} {h : Hm} {W : WX} {σ : St} {ρ : En} {α β γ δ : Type} {rep : List Addr → Hp → α → β → Prop} {rep2 : List Addr → Hp → γ → δ → Prop}
theorem EndG.weaken (S : Stp as H as1 H1) {r : Res α} {Q : β → Hp → Prop} (e : EndG rep T as H W σ r Q) : EndG rep T as1 H1 W σ r Q := by
  cases r with
  | ok v h' => exact fun V H' as' s R q => e V H' as' (S.trans s) R q
  | exc x h' => exact fun c d H' as' s R q => e c d H' as' (S.trans s) R q
  | stuck => exact e
theorem EndG.mono {r : Res α} {Q Q' : β → Hp → Prop} (e : EndG rep T as H W σ r Q) (k : ∀ V H', Q V H' → Q' V H') : EndG rep T as H W σ r Q' := by
  cases r with
  | ok v h' => exact fun V H' as' s R q => k _ _ (e V H' as' s R q)
  | exc x h' => exact e
  | stuck => exact e
theorem rdG.mono {m : En → M α} {Q Q' : β → Hp → Prop} (e : rdG rep T W m σ H Q) (k : ∀ V H', Q V H' → Q' V H') : rdG rep T W m σ H Q' := by
  obtain ⟨as, h, ρ, R, E, q⟩ := e
  exact ⟨as, h, ρ, R, E, q.mono k⟩
theorem RepE.kp {as' : List Addr} {H' : Hp} (k : Kp T as H as' H') (e : RepE T as H ρ σ) : RepE T as' H' ρ σ :=
  ⟨e.len, fun i v q => let ⟨V, a, b⟩ := e.at_ i v q; ⟨V, a, b.kp k⟩⟩
/-- what stands behind a first part -/
structure Bk (T : Tb) (as : List Addr) (H : Hp) (ρ : En) (σ : St) (rep : List Addr → Hp → α → β → Prop) (as1 : List Addr) (h1 : Hm) (v : α) (V : β) (H1 : Hp) : Prop where
  S : Stp as H as1 H1
  R : Rst T as1 H1 h1
  E : RepE T as1 H1 ρ σ
  r : rep as1 H1 v V
/-- THE STEP: a run of ma, then k -/
theorem EndG.bind {m : En → M α} {k : α → M γ} {Q : δ → Hp → Prop} (R : Rst T as H h) (E : RepE T as H ρ σ) (e : EndG rep2 T as H W σ ((m ρ h).bind k) Q) :
    rdG rep T W m σ H fun V H1 => ∃ as1 h1 v, Bk T as H ρ σ rep as1 h1 v V H1 ∧ EndG rep2 T as1 H1 W σ (k v h1) Q := by
  refine ⟨as, h, ρ, R, E, ?_⟩
  cases q : m ρ h with
  | ok v h1 =>
    rw [q] at e
    exact fun V H' as' s R' rv => ⟨as', h1, v, ⟨s, R', E.kp (s.kp R), rv⟩, EndG.weaken s e⟩
  | exc x h1 =>
    rw [q] at e
    exact e
  | stuck =>
    rw [q] at e
    exact e
/-- the run's end: the value at hand -/
theorem EndG.done {v : α} {V : β} {Q : β → Hp → Prop} (e : EndG rep T as H W σ (.ok v h) Q) (R : Rst T as H h) (r : rep as H v V) : Q V H := e V H as (Stp.refl _ _) R r
end
section
variable {X : Cx} {e : Expr} {es : List Expr}
theorem pe_mono {t t' : TE} (p : PE X e t) (k : ∀ σ H Q, t' σ H Q → t σ H Q) : PE X e t' := ⟨fun pins s σ H Q I q => p.run pins s σ H Q I (k _ _ _ q)⟩
theorem pt_mono {t t' : TT} (p : PT X e t) (k : ∀ σ H Q, t' σ H Q → t σ H Q) : PT X e t' := ⟨fun pins s σ H Q I q => p.run pins s σ H Q I (k _ _ _ q)⟩
theorem pw_mono {t t' : TT} (p : PW X e t) (k : ∀ σ H Q, t' σ H Q → t σ H Q) : PW X e t' := ⟨fun wh pins s σ H Q I q => p.run wh pins s σ H Q I (k _ _ _ q)⟩
theorem pa_mono {t t' : TA} (p : PA X es t) (k : ∀ σ H Q, t' σ H Q → t σ H Q) : PA X es t' := ⟨fun pos pins s σ H Q I q => p.run pos pins s σ H Q I (k _ _ _ q)⟩
end

/-! ### expressions: what the mirror does -/
def mVar (i : Nat) : En → M MV := fun ρ h => match ρ[i]? with
  | some (some v) => .ok v h
  | _ => .stuck
def mC (v : MV) : En → M MV := fun _ h => .ok v h
def mOp (f : MV → MV → M MV) (a b : En → M MV) : En → M MV := fun ρ h => (a ρ h).bind fun x h1 => (b ρ h1).bind fun y h2 => f x y h2
def mUn (f : MV → M MV) (a : En → M MV) : En → M MV := fun ρ h => (a ρ h).bind f
def mNil : En → M (List MV) := fun _ h => .ok [] h
def mCons (a : En → M MV) (r : En → M (List MV)) : En → M (List MV) := fun ρ h => (a ρ h).bind fun x h1 => (r ρ h1).bind fun xs h2 => .ok (x :: xs) h2
def mTup (r : En → M (List MV)) : En → M MV := fun ρ h => (r ρ h).bind fun xs h1 => if xs.length ≤ 10000000 then .ok (.tup xs) h1 else .stuck
def newLst (xs : List MV) : M MV := fun h => if xs.length ≤ 10000000 then .ok (.ref h.length) (h ++ [.lst xs]) else .stuck
def mLst (r : En → M (List MV)) : En → M MV := fun ρ h => (r ρ h).bind newLst
def mCB (f : List MV → M MV) (r : En → M (List MV)) : En → M MV := fun ρ h => (r ρ h).bind f
/-- tests -/
def mTest (a : En → M MV) : En → M Bool := fun ρ h => (a ρ h).bind fun v h1 => match v with
  | .bl b => .ok b h1
  | _ => .stuck
def mAnd (a b : En → M Bool) : En → M Bool := fun ρ h => (a ρ h).bind fun c h1 => if c = true then b ρ h1 else .ok false h1
def mOr (a b : En → M Bool) : En → M Bool := fun ρ h => (a ρ h).bind fun c h1 => if c = true then .ok true h1 else b ρ h1
def mNot (a : En → M Bool) : En → M Bool := fun ρ h => (a ρ h).bind fun c h1 => .ok (!c) h1
def mIf {α : Type} (c : En → M Bool) (a b : En → M α) : En → M α := fun ρ h => (c ρ h).bind fun d h1 => if d = true then a ρ h1 else b ρ h1
def truM (v : MV) : M Bool := fun h => match v with
  | .non => .ok false h
  | .bl b => .ok b h
  | .int i => .ok (i != 0) h
  | .str x => if x.length ≤ sizeLine then .ok ((x.length : Int) != 0) h else .stuck
  | .tup xs => .ok (!xs.isEmpty) h
  | .ref i => match h[i]? with
    | some (.lst xs) => .ok (!xs.isEmpty) h
    | some (.dK kvs) => .ok (!kvs.isEmpty) h
    | _ => .stuck
  | _ => .stuck
def mTru (a : En → M MV) : En → M Bool := fun ρ h => (a ρ h).bind truM
/-- values by truth -/
def mAndV (a b : En → M MV) : En → M MV := fun ρ h => (a ρ h).bind fun v h1 => (truM v h1).bind fun c h2 => if c = true then b ρ h2 else .ok v h2
def mOrV (a b : En → M MV) : En → M MV := fun ρ h => (a ρ h).bind fun v h1 => (truM v h1).bind fun c h2 => if c = true then .ok v h2 else b ρ h2
def mNotV (a : En → M MV) : En → M MV := fun ρ h => (a ρ h).bind fun v h1 => (truM v h1).bind fun c h2 => .ok (.bl (!c)) h2
/-- a R b R' c -/
def mChain (f g : MV → MV → M MV) (a b c : En → M MV) : En → M MV := fun ρ h => (a ρ h).bind fun x h1 => (b ρ h1).bind fun y h2 => (f x y h2).bind fun z h3 => match z with
  | .bl true => (c ρ h3).bind fun w h4 => g y w h4
  | .bl false => .ok (.bl false) h3
  | _ => .stuck

/-! ### what an operator's mirror owes -/
def Ref2 (T : Tb) (r : R2) (f : MV → MV → M MV) : Prop := ∀ {as : List Addr} {H : Hp} {h : Hm} {W : WX} {σ : St} {x y : MV} {U V : V} {Q : VK},
  Rst T as H h → RepV T as H x U → RepV T as H y V → EndG (RepV T) T as H W σ (f x y h) Q → r U V H Q
def Ref1 (T : Tb) (r : V → Hp → VK → Prop) (f : MV → M MV) : Prop := ∀ {as : List Addr} {H : Hp} {h : Hm} {W : WX} {σ : St} {x : MV} {U : V} {Q : VK},
  Rst T as H h → RepV T as H x U → EndG (RepV T) T as H W σ (f x h) Q → r U H Q
def RefC (T : Tb) (r : List V → Hp → VK → Prop) (f : List MV → M MV) : Prop := ∀ {as : List Addr} {H : Hp} {h : Hm} {W : WX} {σ : St} {x : List MV} {U : List V} {Q : VK},
  Rst T as H h → RepL T as H x U → EndG (RepV T) T as H W σ (f x h) Q → r U H Q
/-- .. at the value that comes: the caller's reading at it -/
structure Here (T : Tb) (as : List Addr) (H : Hp) (h : Hm) : Prop where
  R : Rst T as H h

section
variable {X : Cx} {T : Tb} {W : WX} {pos : Pos} {a b c : Expr} {ma mb mc : En → M MV}
theorem pm_var {i : Nat} {x : Str} (hN : X.N[i]? = some x := by rfl) (hv : Vis X.env.scope x := by first | exact Or.inl rfl | exact Or.inr (Or.inl rfl) | exact Or.inr (Or.inr rfl)) (hd : (x == ("__debug__" : Str)) = false := by decide)
    (hcd : (x == ("__classdict__" : Str)) = false := by decide) : PE X (.Name x pos) (rdE T W (mVar i)) := by
  refine pe_mono (pe_var hN hv hd hcd) fun σ H Q ⟨as, h, ρ, R, E, e⟩ => ?_
  unfold mVar at e
  split at e
  · rename_i v hv
    obtain ⟨V, e1, r⟩ := E.at_ i v hv
    exact ⟨V, e1, e.done R r⟩
  · exact e.elim
theorem pm_c {e : Expr} {v : MV} {u : V} (p : PE X e (tC u)) (r : ∀ as H, RepV T as H v u) : PE X e (rdE T W (mC v)) :=
  pe_mono p fun σ H Q ⟨as, h, ρ, R, E, e⟩ => e.done R (r as H)
theorem pm_int {i j} : PE X (.Constant (.int i) j pos) (rdE T W (mC (.int i))) := pm_c pe_int fun _ _ => by unfold RepV; rfl
theorem pm_bl {i j} : PE X (.Constant (.bool i) j pos) (rdE T W (mC (.bl i))) := pm_c pe_bl fun _ _ => by unfold RepV; rfl
theorem pm_non {j} : PE X (.Constant .none j pos) (rdE T W (mC .non)) := pm_c pe_non fun _ _ => by unfold RepV; rfl
theorem pm_str {x j} : PE X (.Constant (.str x) j pos) (rdE T W (mC (.str x))) := pm_c pe_str fun _ _ => by unfold RepV; rfl
theorem op_run {r : R2} {f : MV → MV → M MV} (hf : Ref2 T r f) {σ : St} {H : Hp} {Q : VK} (q : rdE T W (mOp f ma mb) σ H Q) : tOp r (rdE T W ma) (rdE T W mb) σ H Q := by
  obtain ⟨as, h, ρ, R, E, e⟩ := q
  refine (EndG.bind R E e).mono fun x H1 ⟨as1, h1, v, B1, e1⟩ => ?_
  refine (EndG.bind B1.R B1.E e1).mono fun y H2 ⟨as2, h2, u, B2, e2⟩ => ?_
  exact hf B2.R (B1.r.kp (B2.S.kp B1.R)) B2.r e2
theorem pm_op {op : Operator} {r : R2} {f : MV → MV → M MV} (ho : OpR X (binaryOp op) r) (hf : Ref2 T r f) (ha : PE X a (rdE T W ma)) (hb : PE X b (rdE T W mb)) : PE X (.BinOp a op b pos) (rdE T W (mOp f ma mb)) :=
  pe_mono (pe_op ho ha hb) fun _ _ _ q => op_run hf q
theorem pm_cmp {op : CmpOp} {r : R2} {f : MV → MV → M MV} (ho : OpR X (compareOp op) r) (hf : Ref2 T r f) (ha : PE X a (rdE T W ma)) (hb : PE X b (rdE T W mb)) (hm : behindInMarks op b = false) : PE X (.Compare a [op] [b] pos) (rdE T W (mOp f ma mb)) :=
  pe_mono (pe_cmpR ho ha hb hm) fun _ _ _ q => op_run hf q
theorem test_run {m : En → M MV} {σ : St} {H : Hp} {Q : Bool → Hp → Prop} (q : rdT T W (mTest m) σ H Q) : rdE T W m σ H fun x H' => ∃ k, x = .bl k ∧ Q k H' := by
  obtain ⟨as, h, ρ, R, E, e⟩ := q
  refine (EndG.bind R E e).mono fun x H1 ⟨as1, h1, v, B1, e1⟩ => ?_
  cases v with
  | bl k =>
    have r := B1.r
    unfold RepV at r
    exact ⟨k, r, e1.done B1.R rfl⟩
  | _ => exact e1.elim
theorem pt_cmpM {op : CmpOp} {r : R2} {f : MV → MV → M MV} (ho : OpR X (compareOp op) r) (hf : Ref2 T r f) (ha : PE X a (rdE T W ma)) (hb : PE X b (rdE T W mb)) (hm : behindInMarks op b = false) : PT X (.Compare a [op] [b] pos) (rdT T W (mTest (mOp f ma mb))) :=
  pt_mono (pt_cmpR ho ha hb hm) fun _ _ _ q => op_run hf (test_run q)
theorem pm_un {op : UnaryOp} {r : V → Hp → VK → Prop} {f : MV → M MV} (ho : UnR X (unaryOp op) r) (hf : Ref1 T r f) (ha : PE X a (rdE T W ma)) : PE X (.UnaryOp op a pos) (rdE T W (mUn f ma)) :=
  pe_mono (pe_un ho ha) fun σ H Q ⟨as, h, ρ, R, E, e⟩ => (EndG.bind R E e).mono fun x H1 ⟨as1, h1, v, B1, e1⟩ => hf B1.R B1.r e1
/-! argument lists, displays -/
variable {es : List Expr} {mr : En → M (List MV)}
theorem pam_nil : PA X [] (rdA T W mNil) := pa_mono pa_nil fun _ _ _ ⟨as, h, ρ, R, E, e⟩ => e.done R RepL.nil
theorem pam_cons (ha : PE X a (rdE T W ma)) (hr : PA X es (rdA T W mr)) (hs : starEach (a :: es) X.env = (false, eval a X.env) :: starEach es X.env := by rfl) : PA X (a :: es) (rdA T W (mCons ma mr)) :=
  pa_mono (pa_cons ha hr hs) fun σ H Q ⟨as, h, ρ, R, E, e⟩ => by
    refine (EndG.bind R E e).mono fun x H1 ⟨as1, h1, v, B1, e1⟩ => ?_
    refine (EndG.bind B1.R B1.E e1).mono fun y H2 ⟨as2, h2, u, B2, e2⟩ => ?_
    exact e2.done B2.R (RepL.cons (B1.r.kp (B2.S.kp B1.R)) B2.r)
theorem big_line {n : Nat} (h : n ≤ 10000000) : n ≤ sizeLine := by rw [sizeLine_eq]; omega
theorem pm_tup {k} (h : PA X es (rdA T W mr)) : PE X (.Tuple es k pos) (rdE T W (mTup mr)) :=
  pe_mono (pe_tup h) fun σ H Q ⟨as, h, ρ, R, E, e⟩ => by
    refine (EndG.bind R E e).mono fun x H1 ⟨as1, h1, v, B1, e1⟩ => ?_
    split at e1
    · rename_i hl
      refine ⟨by rw [← B1.r.length]; exact big_line hl, fun p hp => ?_⟩
      have S : Stp as1 H1 as1 (upd H1 p (.tup x)) := ⟨⟨[], by simp⟩, fun a u e n => ⟨by rw [upd_ne (ne_of_none e hp)]; exact e, n⟩⟩
      refine e1 _ _ as1 S ?_ ?_
      · exact ⟨B1.R.len, B1.R.nd, fun i a o ha ho => let ⟨u, hu, r⟩ := B1.R.obj i a o ha ho; ⟨u, by rw [upd_ne (ne_of_none hu hp)]; exact hu, r.kp (S.kp B1.R)⟩⟩
      · unfold RepV
        exact ⟨p, x, rfl, .inl (.inl upd_same), B1.r.kp (S.kp B1.R)⟩
    · exact e1.elim
theorem newLst_run {as : List Addr} {H : Hp} {h : Hm} {xs : List MV} {U : List V} {σ : St} {Q : VK} (R : Rst T as H h) (r : RepL T as H xs U) (e : EndG (RepV T) T as H W σ (newLst xs h) Q) : xs.length ≤ sizeLine ∧ ∀ p, H p = none → Q (.ref p) (upd H p (.lst U)) := by
  unfold newLst at e
  split at e
  · rename_i hl
    refine ⟨big_line hl, fun p hp => ?_⟩
    have r' : RepO T as H (.lst xs) (.lst U) := ⟨U, rfl, r⟩
    obtain ⟨R', S⟩ := R.laid hp r'
    refine e _ _ _ S R' ?_
    unfold RepV
    exact ⟨p, by rw [← R.len, List.getElem?_append_right (Nat.le_refl _)]; simp, rfl⟩
  · exact e.elim
theorem pm_lst (h : PA X es (rdA T W mr)) : PE X (.List es pos) (rdE T W (mLst mr)) :=
  pe_mono (pe_lst h) fun σ H Q ⟨as, h, ρ, R, E, e⟩ => by
    refine (EndG.bind R E e).mono fun x H1 ⟨as1, h1, v, B1, e1⟩ => ?_
    have q := newLst_run B1.R B1.r e1
    exact ⟨by rw [← B1.r.length]; exact q.1, q.2⟩
/-! built-in functions by their values -/
theorem pm_callB {x : Str} {p : Pos} {id : String} {r : List V → Hp → VK → Prop} {f : List MV → M MV} (hc : CallR X (.builtin id) r) (hf : RefC T r f) (hg : Gl X x) (hm : X.mg x = none) (hv : bootBuiltins x = some (.builtin id)) (ha : PA X (a :: es) (rdA T W mr)) (hn : x ≠ "__name__" := by decide) (hdb : (x == ("__debug__" : Str)) = false := by decide)
    (he : starEach (a :: es) X.env = (false, eval a X.env) :: starEach es X.env := by rfl) (hpl : (backTo pos (starEach es X.env)).any (·.1) = false := by rfl) : PE X (.Call (.Name x p) (a :: es) [] pos) (rdE T W (mCB f mr)) :=
  pe_mono (pe_callB hc hg hm hv ha hn hdb he hpl) fun σ H Q ⟨as, h, ρ, R, E, e⟩ => (EndG.bind R E e).mono fun x H1 ⟨as1, h1, v, B1, e1⟩ => hf B1.R B1.r e1
theorem pm_callTy {x : Str} {p : Pos} {id : String} {r : List V → Hp → VK → Prop} {f : List MV → M MV} (hc : CallR X (.type id) r) (hf : RefC T r f) (hg : Gl X x) (hm : X.mg x = none) (hv : bootBuiltins x = some (.type id)) (ha : PA X (a :: es) (rdA T W mr)) (hn : x ≠ "__name__" := by decide) (hdb : (x == ("__debug__" : Str)) = false := by decide)
    (he : starEach (a :: es) X.env = (false, eval a X.env) :: starEach es X.env := by rfl) (hpl : (backTo pos (starEach es X.env)).any (·.1) = false := by rfl) : PE X (.Call (.Name x p) (a :: es) [] pos) (rdE T W (mCB f mr)) :=
  pe_mono (pe_callTy hc hg hm hv ha hn hdb he hpl) fun σ H Q ⟨as, h, ρ, R, E, e⟩ => (EndG.bind R E e).mono fun x H1 ⟨as1, h1, v, B1, e1⟩ => hf B1.R B1.r e1
/-! tests -/
variable {ta tb : En → M Bool} {rest : List Expr}
theorem ptm_and1 (ha : PT X a (rdT T W ta)) : PW X (.BoolOp .And [a] pos) (rdT T W ta) := pw_and1 ha
theorem ptm_or1 (ha : PT X a (rdT T W ta)) : PW X (.BoolOp .Or [a] pos) (rdT T W ta) := pw_or1 ha
theorem ptm_and (ha : PT X a (rdT T W ta)) (hb : PW X (.BoolOp .And (b :: rest) pos) (rdT T W tb)) : PW X (.BoolOp .And (a :: b :: rest) pos) (rdT T W (mAnd ta tb)) :=
  pw_mono (pw_and ha hb) fun σ H Q ⟨as, h, ρ, R, E, e⟩ => (EndG.bind R E e).mono fun x H1 ⟨as1, h1, v, B1, e1⟩ => by
    have r := B1.r
    subst r
    cases v with
    | true => exact iteT ⟨as1, h1, ρ, B1.R, B1.E, e1⟩
    | false => exact iteF (EndG.done e1 B1.R rfl)
theorem ptm_or (ha : PT X a (rdT T W ta)) (hb : PW X (.BoolOp .Or (b :: rest) pos) (rdT T W tb)) : PW X (.BoolOp .Or (a :: b :: rest) pos) (rdT T W (mOr ta tb)) :=
  pw_mono (pw_or ha hb) fun σ H Q ⟨as, h, ρ, R, E, e⟩ => (EndG.bind R E e).mono fun x H1 ⟨as1, h1, v, B1, e1⟩ => by
    have r := B1.r
    subst r
    cases v with
    | false => exact iteF ⟨as1, h1, ρ, B1.R, B1.E, e1⟩
    | true => exact iteT (EndG.done e1 B1.R rfl)
theorem ptm_not (ha : PT X a (rdT T W ta)) : PT X (.UnaryOp .Not a pos) (rdT T W (mNot ta)) :=
  pt_mono (pt_not ha) fun σ H Q ⟨as, h, ρ, R, E, e⟩ => (EndG.bind R E e).mono fun x H1 ⟨as1, h1, v, B1, e1⟩ => by
    have r := B1.r
    subst r
    exact EndG.done e1 B1.R rfl
theorem pm_ifExp (hc : PT X c (rdT T W ta)) (ha : PE X a (rdE T W ma)) (hb : PE X b (rdE T W mb)) : PE X (.IfExp c a b pos) (rdE T W (mIf ta ma mb)) :=
  pe_mono (pe_ifExp hc ha hb) fun σ H Q ⟨as, h, ρ, R, E, e⟩ => (EndG.bind R E e).mono fun x H1 ⟨as1, h1, v, B1, e1⟩ => by
    have r := B1.r
    subst r
    cases v with
    | true => exact iteT ⟨as1, h1, ρ, B1.R, B1.E, e1⟩
    | false => exact iteF ⟨as1, h1, ρ, B1.R, B1.E, e1⟩
theorem truM_run (hK : X.K = T.K) {as : List Addr} {H : Hp} {h : Hm} {v : MV} {U : V} {σ : St} {Q : Bool → Hp → Prop} (R : Rst T as H h) (r : RepV T as H v U) (e : EndG (fun _ _ a b => a = b) T as H W σ (truM v h) Q) : ∃ k, TruV X.K U H k ∧ Q k H := by
  cases v with
  | non => unfold RepV at r; subst r; exact ⟨false, rfl, e.done R rfl⟩
  | bl b => unfold RepV at r; subst r; exact ⟨b, rfl, e.done R rfl⟩
  | int i => unfold RepV at r; subst r; exact ⟨_, rfl, e.done R rfl⟩
  | str x =>
    unfold RepV at r; subst r
    unfold truM at e
    dsimp only at e
    split at e
    · rename_i hl
      exact ⟨_, ⟨hl, rfl⟩, e.done R rfl⟩
    · exact e.elim
  | tup xs =>
    unfold RepV at r
    obtain ⟨a, vs, rfl, q, l⟩ := r
    refine ⟨_, .inr (.inl ⟨vs, hK ▸ q, rfl⟩), ?_⟩
    have z : xs.isEmpty = vs.isEmpty := by
      have := l.length
      cases xs <;> cases vs <;> simp_all
    rw [← z]
    exact e.done R rfl
  | ref i =>
    unfold RepV at r
    obtain ⟨a, ha, rfl⟩ := r
    unfold truM at e
    dsimp only at e
    split at e
    · rename_i xs ho
      obtain ⟨u, hu, vs, rfl, l⟩ := R.obj i a _ ha ho
      refine ⟨_, .inl ⟨vs, SqL.of hu, rfl⟩, ?_⟩
      have z : xs.isEmpty = vs.isEmpty := by
        have := l.length
        cases xs <;> cases vs <;> simp_all
      rw [← z]
      exact e.done R rfl
    · rename_i kvs ho
      obtain ⟨u, hu, vs, rfl, l⟩ := R.obj i a _ ha ho
      have z : kvs.isEmpty = vs.isEmpty := by
        cases kvs with
        | nil => unfold RepK at l; subst l; rfl
        | cons x xs => unfold RepK at l; obtain ⟨v, r, e, _⟩ := l; rw [e]; rfl
      exact ⟨!kvs.isEmpty, .inr (.inr ⟨vs, hu, by rw [z]⟩), e.done R rfl⟩
    · exact e.elim
  | ty n => exact e.elim
  | gl n => exact e.elim
  | flst xs => exact e.elim
end
end Cutp

/-! CutStmt: statements, targets, loops, comprehensions over the mirror. -/
namespace Cutp
open PySem L2

/-! ### statements -/
def EndS (T : Tb) (as : List Addr) (H : Hp) (W : WX) (r : SR) (D : Ends) : Prop :=
  match r with
  | .nx ρ h => ∀ σ H' as', Stp as H as' H' → Rst T as' H' h → RepE T as' H' ρ σ → D.nx σ H'
  | .bk ρ h => ∀ σ H' as', Stp as H as' H' → Rst T as' H' h → RepE T as' H' ρ σ → D.bk σ H'
  | .ct ρ h => ∀ σ H' as', Stp as H as' H' → Rst T as' H' h → RepE T as' H' ρ σ → D.ct σ H'
  | .rt v h => ∀ V H' as', Stp as H as' H' → Rst T as' H' h → RepV T as' H' v V → D.rt V H'
  | .exc x ρ h => ∀ cls d σ H' as', Stp as H as' H' → Rst T as' H' h → RepE T as' H' ρ σ → RepX T as' H' x cls d → W cls d σ H'
  | .stuck => False
abbrev SM := En → Hm → SR
def rdS (T : Tb) (W : WX) (m : SM) : TS := fun D σ H => ∃ as h ρ, Rst T as H h ∧ RepE T as H ρ σ ∧ EndS T as H W (m ρ h) D
section
variable {T : Tb} {as as1 : List Addr} {H H1 : Hp} {h : Hm} {W : WX} {σ : St} {ρ : En} {α β : Type} {rep : List Addr → Hp → α → β → Prop} {D D' : Ends}
theorem EndS.weaken (S : Stp as H as1 H1) {r : SR} (e : EndS T as H W r D) : EndS T as1 H1 W r D := by
  cases r with
  | nx ρ h => exact fun σ H' as' s => e σ H' as' (S.trans s)
  | bk ρ h => exact fun σ H' as' s => e σ H' as' (S.trans s)
  | ct ρ h => exact fun σ H' as' s => e σ H' as' (S.trans s)
  | rt v h => exact fun V H' as' s => e V H' as' (S.trans s)
  | exc x ρ h => exact fun c d σ H' as' s => e c d σ H' as' (S.trans s)
  | stuck => exact e
theorem EndS.nx (e : EndS T as H W (.nx ρ h) D) (R : Rst T as H h) (E : RepE T as H ρ σ) : D.nx σ H := e σ H as (Stp.refl _ _) R E
/-- a part's run, then a statement's -/
def sE (m : En → M α) (k : α → SM) : SM := fun ρ h => match m ρ h with
  | .ok v h1 => k v ρ h1
  | .exc x h1 => .exc x ρ h1
  | .stuck => .stuck
theorem EndS.bind {m : En → M α} {k : α → SM} (R : Rst T as H h) (E : RepE T as H ρ σ) (e : EndS T as H W (sE m k ρ h) D) :
    rdG rep T W m σ H fun V H1 => ∃ as1 h1 v, Bk T as H ρ σ rep as1 h1 v V H1 ∧ EndS T as1 H1 W (k v ρ h1) D := by
  refine ⟨as, h, ρ, R, E, ?_⟩
  unfold sE at e
  cases q : m ρ h with
  | ok v h1 =>
    rw [q] at e
    exact fun V H' as' s R' rv => ⟨as', h1, v, ⟨s, R', E.kp (s.kp R), rv⟩, EndS.weaken s e⟩
  | exc x h1 =>
    rw [q] at e
    exact fun c d H' as' s R' rx => e c d σ H' as' s R' (E.kp (s.kp R)) rx
  | stuck =>
    rw [q] at e
    exact e
end
def sNext : SM := fun ρ h => .nx ρ h
def sSeq (s t : SM) : SM := fun ρ h => match s ρ h with
  | .nx ρ1 h1 => t ρ1 h1
  | r => r
def sExpr (m : En → M MV) : SM := sE m fun _ ρ h => .nx ρ h
def sRet (m : En → M MV) : SM := sE m fun v _ h => .rt v h
def sRetN : SM := fun _ h => .rt .non h
def sIf (c : En → M Bool) (s t : SM) : SM := sE c fun b ρ h => if b = true then s ρ h else t ρ h
def sBreak : SM := fun ρ h => .bk ρ h
def sCont : SM := fun ρ h => .ct ρ h
def sNever : SM := fun _ _ => .stuck
section
variable {X : Cx} {T : Tb} {W : WX} {pos : Pos} {a b c e : Expr} {ma mb mc : En → M MV} {ta : En → M Bool} {st : Stmt} {rest sts sts' : List Stmt} {m m' : SM}
theorem ps_mono {t t' : TS} (p : PS X st t) (k : ∀ D σ H, t' D σ H → t D σ H) : PS X st t' := ⟨fun pins s σ H D I q => p.run pins s σ H D I (k _ _ _ q)⟩
theorem pss_mono {t t' : TS} (p : PSs X sts t) (k : ∀ D σ H, t' D σ H → t D σ H) : PSs X sts t' := ⟨fun pins s σ H D I q => p.run pins s σ H D I (k _ _ _ q)⟩
theorem pssm_nil : PSs X [] (rdS T W sNext) := pss_mono pss_nil fun D σ H ⟨as, h, ρ, R, E, e⟩ => EndS.nx e R E
theorem pssm_one (h : PS X st (rdS T W m)) : PSs X [st] (rdS T W m) := pss_one h
theorem pssm_cons (h1 : PS X st (rdS T W m)) (h2 : PSs X rest (rdS T W m')) : PSs X (st :: rest) (rdS T W (sSeq m m')) :=
  pss_mono (pss_cons h1 h2) fun D σ H ⟨as, h, ρ, R, E, e⟩ => by
    refine ⟨as, h, ρ, R, E, ?_⟩
    unfold sSeq at e
    cases q : m ρ h with
    | nx ρ1 h1 =>
      rw [q] at e
      exact fun σ' H' as' s R' E' => ⟨as', h1, ρ1, R', E', EndS.weaken s e⟩
    | _ => rw [q] at e; exact e
theorem psm_pass : PS X (.Pass pos) (rdS T W sNext) := ps_mono ps_pass fun D σ H ⟨as, h, ρ, R, E, e⟩ => EndS.nx e R E
theorem psm_break : PS X (.Break pos) (rdS T W sBreak) := ps_mono ps_break fun D σ H ⟨as, h, ρ, R, E, e⟩ => e σ H as (Stp.refl _ _) R E
theorem psm_continue : PS X (.Continue pos) (rdS T W sCont) := ps_mono ps_continue fun D σ H ⟨as, h, ρ, R, E, e⟩ => e σ H as (Stp.refl _ _) R E
theorem psm_never : PS X st (rdS T W sNever) := ps_mono ps_never fun D σ H ⟨as, h, ρ, R, E, e⟩ => e
theorem pssm_never : PSs X sts (rdS T W sNever) := pss_mono pss_never fun D σ H ⟨as, h, ρ, R, E, e⟩ => e
theorem psm_expr (he : PE X e (rdE T W ma)) (hs : swapsWith e none pos.line X.env = pure false := by rfl) : PS X (.Expr e pos) (rdS T W (sExpr ma)) :=
  ps_mono (ps_expr he hs) fun D σ H ⟨as, h, ρ, R, E, e⟩ => (EndS.bind R E e).mono fun V H1 ⟨as1, h1, v, B, e1⟩ => EndS.nx e1 B.R B.E
theorem psm_ret (he : PE X e (rdE T W ma)) : PS X (.Return (some e) pos) (rdS T W (sRet ma)) :=
  ps_mono (ps_ret he) fun D σ H ⟨as, h, ρ, R, E, e⟩ => (EndS.bind R E e).mono fun V H1 ⟨as1, h1, v, B, e1⟩ => e1 V H1 as1 (Stp.refl _ _) B.R B.r
theorem psm_retN : PS X (.Return none pos) (rdS T W sRetN) := ps_mono ps_retN fun D σ H ⟨as, h, ρ, R, E, e⟩ => e .non H as (Stp.refl _ _) R (by unfold RepV; rfl)
theorem psm_if (hc : PT X c (rdT T W ta)) (ha : PSs X sts (rdS T W m)) (hb : PSs X sts' (rdS T W m')) : PS X (.If c sts sts' pos) (rdS T W (sIf ta m m')) :=
  ps_mono (ps_if hc ha hb) fun D σ H ⟨as, h, ρ, R, E, e⟩ => (EndS.bind R E e).mono fun V H1 ⟨as1, h1, v, B, e1⟩ => by
    have r := B.r
    subst r
    cases v with
    | true => exact iteT ⟨as1, h1, ρ, B.R, B.E, e1⟩
    | false => exact iteF ⟨as1, h1, ρ, B.R, B.E, e1⟩

/-! ### targets -/
abbrev GM := MV → En → M En
def EndT (T : Tb) (as : List Addr) (H : Hp) (r : Res En) (Q : St → Hp → Prop) : Prop :=
  match r with
  | .ok ρ h => ∀ σ H' as', Stp as H as' H' → Rst T as' H' h → RepE T as' H' ρ σ → Q σ H'
  | _ => False
def rdTG (T : Tb) (g : GM) : TG := fun V σ H Q => ∃ as h ρ v, Rst T as H h ∧ RepE T as H ρ σ ∧ RepV T as H v V ∧ EndT T as H (g v ρ h) Q
theorem EndT.weaken {as as1 : List Addr} {H H1 : Hp} (S : Stp as H as1 H1) {r : Res En} {Q : St → Hp → Prop} (e : EndT T as H r Q) : EndT T as1 H1 r Q := by
  cases r with
  | ok ρ h => exact fun σ H' as' s => e σ H' as' (S.trans s)
  | exc x h => exact e
  | stuck => exact e
def gmName (i : Nat) : GM := fun v ρ h => .ok (ρ.set i (some v)) h
theorem RepE.set {as : List Addr} {H : Hp} {ρ : En} {σ : St} (E : RepE T as H ρ σ) (i : Nat) {v : MV} {V : V} (r : RepV T as H v V) : RepE T as H (ρ.set i (some v)) (σ.set i (some V)) := by
  refine ⟨by simp [E.len], fun j u q => ?_⟩
  by_cases hj : i = j
  · subst hj
    have hl : i < ρ.length := by
      have := (List.getElem?_eq_some_iff.mp q).1
      simpa using this
    rw [List.getElem?_set_self hl] at q
    cases q
    exact ⟨V, by rw [List.getElem?_set_self (by rw [← E.len]; exact hl)], r⟩
  · rw [List.getElem?_set_ne hj] at q ⊢
    exact E.at_ j u q
theorem pg_mono {t t' : TG} (p : PG X e t) (k : ∀ v σ H Q, t' v σ H Q → t v σ H Q) : PG X e t' := ⟨fun pins s σ H v u Q I r q => p.run pins s σ H v u Q I r (k _ _ _ _ q)⟩
theorem pgm_name {i : Nat} {x : Str} (hN : X.N.Nodup) (hi : X.N[i]? = some x) (hx : Loc X.env.scope x) (hf : X.fn x = true ∨ X.env.scope.names.lookup x = some .local := by first | exact .inl rfl | exact .inr rfl | assumption) : PG X (.Name x pos) (rdTG T (gmName i)) :=
  pg_mono (pg_name hN hi hx hf) fun V σ H Q ⟨as, h, ρ, v, R, E, r, e⟩ => e (σ.set i (some V)) H as (Stp.refl _ _) R (E.set i r)
def gmNil : List MV → En → M En := fun vs ρ h => match vs with
  | [] => .ok ρ h
  | _ => .stuck
def gmCons (g : GM) (gs : List MV → En → M En) : List MV → En → M En := fun vs ρ h => match vs with
  | [] => .stuck
  | v :: r => (g v ρ h).bind (gs r)
def gmTup (n : Nat) (gs : List MV → En → M En) : GM := fun v ρ h => match v with
  | .tup xs => if xs.length = n then gs xs ρ h else .stuck
  | _ => .stuck
def rdTGs (T : Tb) (g : List MV → En → M En) : TGs := fun Vs σ H Q => ∃ as h ρ vs, Rst T as H h ∧ RepE T as H ρ σ ∧ RepL T as H vs Vs ∧ EndT T as H (g vs ρ h) Q
theorem pgs_mono {es : List Expr} {t t' : TGs} (p : PGs X es t) (k : ∀ v σ H Q, t' v σ H Q → t v σ H Q) : PGs X es t' := ⟨fun pins s σ H v u Q I r q => p.run pins s σ H v u Q I r (k _ _ _ _ q)⟩
theorem pgsm_nil : PGs X [] (rdTGs T gmNil) := pgs_mono pgs_nil fun V σ H Q ⟨as, h, ρ, v, R, E, r, e⟩ => by
  cases v with
  | nil => unfold RepL at r; exact ⟨r, e σ H as (Stp.refl _ _) R E⟩
  | cons x xs => exact e.elim
theorem pgsm_cons {es : List Expr} {g : GM} {gs : List MV → En → M En} (h1 : PG X e (rdTG T g)) (h2 : PGs X es (rdTGs T gs))
    (hs : (assignEach (e :: es) X.env).map (·.2) = assign e X.env :: (assignEach es X.env).map (·.2) := by rfl) : PGs X (e :: es) (rdTGs T (gmCons g gs)) :=
  pgs_mono (pgs_cons h1 h2 hs) fun V σ H Q ⟨as, h, ρ, v, R, E, r, e⟩ => by
    cases v with
    | nil => exact e.elim
    | cons x xs =>
      unfold RepL at r
      obtain ⟨u, us, rfl, r1, r2⟩ := r
      refine ⟨u, us, rfl, as, h, ρ, x, R, E, r1, ?_⟩
      unfold gmCons at e
      dsimp only at e
      cases q : g x ρ h with
      | ok ρ1 h1 =>
        rw [q] at e
        exact fun σ' H' as' s R' E' => ⟨as', h1, ρ1, xs, R', E', r2.kp (s.kp R), EndT.weaken s e⟩
      | exc x h1 => rw [q] at e; exact e.elim
      | stuck => rw [q] at e; exact e.elim
theorem pgm_tup {es : List Expr} {k n : Nat} {gs : List MV → En → M En} (hK : X.K = T.K) (hc : X.calm = true) (h : PGs X es (rdTGs T gs))
    (hn : (assignEach es X.env).length = n := by rfl) (hst : (assignEach es X.env).findIdx? (·.1) = none := by rfl) : PG X (.Tuple es k pos) (rdTG T (gmTup n gs)) :=
  pg_mono (pg_tup hc h hn hst) fun V σ H Q ⟨as, h, ρ, v, R, E, r, e⟩ => by
    cases v with
    | tup xs =>
      unfold RepV at r
      obtain ⟨a, vs, rfl, q, l⟩ := r
      unfold gmTup at e
      dsimp only at e
      split at e
      · rename_i hl
        exact ⟨a, vs, rfl, hK ▸ q, by rw [← l.length]; exact hl, as, h, ρ, xs, R, E, l, e⟩
      · exact e.elim
    | _ => exact e.elim
/-- o[i] = v -/
def gmSub (a b : En → M MV) (st : MV → MV → MV → M Unit) : GM := fun v ρ h => (a ρ h).bind fun o h1 => (b ρ h1).bind fun i h2 => (st o i v h2).bind fun _ h3 => .ok ρ h3
def RefSet (T : Tb) (t : TSet) (f : MV → MV → MV → M Unit) : Prop := ∀ {as : List Addr} {H : Hp} {h : Hm} {o i v : MV} {O I V : V} {Q : Hp → Prop},
  Rst T as H h → RepV T as H o O → RepV T as H i I → RepV T as H v V →
  (match f o i v h with
    | .ok _ h' => ∀ H' as', Stp as H as' H' → Rst T as' H' h' → Q H'
    | _ => False) → t O I V H Q
theorem pgm_sub {f : MV → MV → MV → M Unit} {t : TSet} (ho : PE X a (rdE T W ma)) (hi : PE X b (rdE T W mb)) (hs : PSet X t) (hf : RefSet T t f)
    (ha : ∀ v, assign (.Subscript a b pos) X.env v = (do
      let ov ← holding [v] (eval a X.env)
      let iv ← holding [v, ov] (eval b X.env)
      standAt pos
      holding [v, ov, iv] (setItem ov iv v)
      release [v, ov, iv] []) := by intro _; rfl) : PG X (.Subscript a b pos) (rdTG T (gmSub ma mb f)) :=
  pg_mono (pg_sub ho hi hs ha) fun V σ H Q ⟨as, h, ρ, v, R, E, r, e⟩ => by
    show rdE T W ma σ H _
    unfold gmSub at e
    refine ⟨as, h, ρ, R, E, ?_⟩
    cases q : ma ρ h with
    | ok o h1 =>
      rw [q] at e
      intro O H1 as1 s1 R1 r1
      refine ⟨as1, h1, ρ, R1, E.kp (s1.kp R), ?_⟩
      rw [Res.bind_ok] at e
      cases q2 : mb ρ h1 with
      | ok i h2 =>
        rw [q2] at e
        intro I H2 as2 s2 R2 r2
        rw [Res.bind_ok] at e
        refine hf R2 (r1.kp (s2.kp R1)) r2 (r.kp ((s1.trans s2).kp R)) ?_
        cases q3 : f o i v h2 with
        | ok u h3 =>
          rw [q3] at e
          exact fun H3 as3 s3 R3 => e σ H3 as3 ((s1.trans s2).trans s3) R3 (E.kp (((s1.trans s2).trans s3).kp R))
        | exc x h3 => rw [q3] at e; exact e
        | stuck => rw [q3] at e; exact e
      | exc x h2 => rw [q2] at e; exact e.elim
      | stuck => rw [q2] at e; exact e.elim
    | exc x h1 => rw [q] at e; exact e.elim
    | stuck => rw [q] at e; exact e.elim
/-- target = e -/
def sAsg (m : En → M MV) (g : GM) : SM := sE m fun v ρ h => match g v ρ h with
  | .ok ρ1 h1 => .nx ρ1 h1
  | _ => .stuck
theorem asg_run {g : GM} {as : List Addr} {H : Hp} {h : Hm} {ρ : En} {σ : St} {v : MV} {V : V} {D : Ends} (R : Rst T as H h) (E : RepE T as H ρ σ) (r : RepV T as H v V)
    (e : EndS T as H W (match g v ρ h with | .ok ρ1 h1 => .nx ρ1 h1 | _ => .stuck) D) : rdTG T g V σ H D.nx := by
  refine ⟨as, h, ρ, v, R, E, r, ?_⟩
  cases q : g v ρ h with
  | ok ρ1 h1 => rw [q] at e; exact e
  | exc x h1 => rw [q] at e; exact e
  | stuck => rw [q] at e; exact e
theorem psm_asg {tg : Expr} {g : GM} (he : PE X e (rdE T W ma)) (hg : PG X tg (rdTG T g)) (hs : swapsWithSole [tg] e pos.line X.env = pure false := by rfl) (hw : swappedStores [tg] e X.env = pure none := by rfl)
    (h1 : (assignEach [tg] X.env).map (·.2) = [assign tg X.env] := by rfl) : PS X (.Assign [tg] e pos) (rdS T W (sAsg ma g)) :=
  ps_mono (ps_asg he hg hs hw h1) fun D σ H ⟨as, h, ρ, R, E, e⟩ => (EndS.bind R E e).mono fun V H1 ⟨as1, h1, v, B, e1⟩ => asg_run B.R B.E B.r e1
theorem psm_set {i : Nat} {x : Str} {pos' : Pos} (hN : X.N.Nodup) (hi : X.N[i]? = some x) (hx : Loc X.env.scope x) (he : PE X e (rdE T W ma)) (hs : swapsWith e (some (.Name x pos')) pos.line X.env = pure false := by rfl) (hf : X.fn x = true ∨ X.env.scope.names.lookup x = some .local := by first | exact .inl rfl | exact .inr rfl | assumption) :
    PS X (.Assign [.Name x pos'] e pos) (rdS T W (sAsg ma (gmName i))) :=
  ps_mono (ps_set hN hi hx he hs hf) fun D σ H ⟨as, h, ρ, R, E, e⟩ => (EndS.bind R E e).mono fun V H1 ⟨as1, h1, v, B, e1⟩ => EndS.nx e1 B.R (B.E.set i B.r)
/-- a, b = x, y -/
def sPar (i j : Nat) (ma mb : En → M MV) : SM := sE ma fun v => sE mb fun w ρ h => .nx ((ρ.set i (some v)).set j (some w)) h
theorem psm_par {i j : Nat} {x y : Str} {px py pt : Pos} {kt k2 pt2} (hc : X.calm = true) (hN : X.N.Nodup) (hi : X.N[i]? = some x) (hj : X.N[j]? = some y) (hij : i ≠ j)
    (hx : X.env.scope.names.lookup x = some .local) (hy : X.env.scope.names.lookup y = some .local) (ha : PE X a (rdE T W ma)) (hb : PE X b (rdE T W mb))
    (hw : swappedStores [.Tuple [.Name x px, .Name y py] kt pt] (.Tuple [a, b] k2 pt2) X.env = pure (some [x, y]))
    (hs : swapsWithSole [.Tuple [.Name x px, .Name y py] kt pt] (.Tuple [a, b] k2 pt2) pos.line X.env = pure false := by rfl)
    (hs1 : starEach [a, b] X.env = (false, eval a X.env) :: starEach [b] X.env := by rfl) (hs2 : starEach [b] X.env = (false, eval b X.env) :: starEach [] X.env := by rfl) :
    PS X (.Assign [.Tuple [.Name x px, .Name y py] kt pt] (.Tuple [a, b] k2 pt2) pos) (rdS T W (sPar i j ma mb)) :=
  ps_mono (ps_par hc hN hi hj hij hx hy (pa_cons ha (pa_cons hb pa_nil hs2) hs1) hw hs) fun D σ H ⟨as, h, ρ, R, E, e⟩ => by
    refine (EndS.bind R E e).mono fun V H1 ⟨as1, h1, v, B, e1⟩ => ?_
    refine (EndS.bind B.R B.E e1).mono fun U H2 ⟨as2, h2, u, B2, e2⟩ => ?_
    exact ⟨V, U, rfl, EndS.nx e2 B2.R ((B2.E.set i (B.r.kp (B2.S.kp B.R))).set j B2.r)⟩
theorem var_run {i : Nat} {σ : St} {H : Hp} {Q : VK} (q : rdE T W (mVar i) σ H Q) : ∃ V, σ[i]? = some (some V) ∧ Q V H := by
  obtain ⟨as, h, ρ, R, E, e⟩ := q
  unfold mVar at e
  split at e
  · rename_i v hv
    obtain ⟨V, e1, r⟩ := E.at_ i v hv
    exact ⟨V, e1, e.done R r⟩
  · exact e.elim
/-- name op= e -/
def sAug (i : Nat) (f : MV → MV → M MV) (m : En → M MV) : SM := sE (mOp f (mVar i) m) fun z ρ h => .nx (ρ.set i (some z)) h
theorem psm_aug {i : Nat} {x : Str} {op : Operator} {ti : TIp} {f : MV → MV → M MV} {pos' : Pos} (hN : X.N.Nodup) (hi : X.N[i]? = some x) (hx : Loc X.env.scope x) (he : PE X e (rdE T W ma)) (ho : PIp X op ti) (hr : Ref2 T ti f) (hf : X.fn x = true ∨ X.env.scope.names.lookup x = some .local := by first | exact .inl rfl | exact .inr rfl | assumption) :
    PS X (.AugAssign (.Name x pos') op e pos) (rdS T W (sAug i f ma)) :=
  ps_mono (ps_aug hN hi hx he ho hf) fun D σ H ⟨as, h, ρ, R, E, e⟩ => by
    have q : rdE T W (mOp f (mVar i) ma) σ H fun z H2 => D.nx (σ.set i (some z)) H2 := (EndS.bind R E e).mono fun z H2 ⟨as1, h1, v, B, e1⟩ => EndS.nx e1 B.R (B.E.set i B.r)
    obtain ⟨V, e1, q2⟩ := var_run (op_run hr q)
    exact ⟨V, e1, q2⟩
end
end Cutp

/-! CutLoop: for, while, comprehensions. -/
namespace Cutp
open PySem L2

/-- what a loop walks: at turn i, over a heap: none: it can't be told; some none: the end; some (some v): v -/
abbrev IT := Nat → Hm → Option (Option MV)
/-- the mirror's walk stands for HandS's -/
structure ItRel (T : Tb) (as : List Addr) (H : Hp) (it : IT) (J : It) : Prop where
  go : ∀ {as1 : List Addr} {H1 : Hp} {h1 : Hm} {i : Nat} {v : MV}, Stp as H as1 H1 → Rst T as1 H1 h1 → it i h1 = some (some v) →
    J.go i H1 ∧ ∀ x H2, J.yld i H1 x H2 → Stp as1 H1 as1 H2 ∧ Rst T as1 H2 h1 ∧ RepV T as1 H2 v x
  stop : ∀ {as1 : List Addr} {H1 : Hp} {h1 : Hm} {i : Nat}, Stp as H as1 H1 → Rst T as1 H1 h1 → it i h1 = some none → J.stop i H1
abbrev rdI (T : Tb) (W : WX) (m : En → M IT) : TI := rdG (fun as H it J => ItRel T as H it J) T W m
/-- turns that a loop has at most -/
def fuel : Nat := 10 ^ 40
def forM (it : IT) (g : GM) (b : SM) : Nat → Nat → SM
  | 0, _, _, _ => .stuck
  | n + 1, i, ρ, h => match it i h with
    | none => .stuck
    | some none => .nx ρ h
    | some (some v) => match g v ρ h with
      | .ok ρ1 h1 => match b ρ1 h1 with
        | .nx ρ2 h2 => forM it g b n (i + 1) ρ2 h2
        | .ct ρ2 h2 => forM it g b n (i + 1) ρ2 h2
        | .bk ρ2 h2 => .nx ρ2 h2
        | r => r
      | _ => .stuck
def sFor (m : En → M IT) (g : GM) (b : SM) : SM := sE m fun it ρ h => forM it g b fuel 0 ρ h
def whileM (c : En → M Bool) (b : SM) : Nat → SM
  | 0, _, _ => .stuck
  | n + 1, ρ, h => match c ρ h with
    | .ok true h1 => match b ρ h1 with
      | .nx ρ2 h2 => whileM c b n ρ2 h2
      | .ct ρ2 h2 => whileM c b n ρ2 h2
      | .bk ρ2 h2 => .nx ρ2 h2
      | r => r
    | .ok false h1 => .nx ρ h1
    | .exc x h1 => .exc x ρ h1
    | .stuck => .stuck
def sWhile (c : En → M Bool) (b : SM) : SM := fun ρ h => whileM c b fuel ρ h

section
variable {X : Cx} {T : Tb} {W : WX} {pos : Pos} {tg iter c : Expr} {body : List Stmt} {mi : En → M IT} {mc : En → M Bool} {g : GM} {mb : SM}
theorem pi_mono {t t' : TI} (p : PI X tg iter t) (k : ∀ σ H Q, t' σ H Q → t σ H Q) : PI X tg iter t' := ⟨fun pins s σ H Q I q => p.run pins s σ H Q I (k _ _ _ q)⟩
theorem pi_or {t t' : TI} (p : PI X tg iter t) (p' : PI X tg iter t') : PI X tg iter (fun σ H R => t σ H R ∨ t' σ H R) :=
  ⟨fun pins s σ H Q I q => q.elim (p.run pins s σ H Q I) (p'.run pins s σ H Q I)⟩
/-- behind a loop's body: go on -/
def EndsN (D : Ends) (N : St → Hp → Prop) : Ends := { D with nx := N, ct := N, bk := D.nx }
theorem psm_for (hp : PassesOwn (model X.prog X.w) X.A X.env X.xe) (hc : X.calm = true) (hi : PI X tg iter (rdI T W mi)) (hg : PG X tg (rdTG T g)) (hb : PSs X body (rdS T W mb))
    (hs : ∀ x, foldedSetIterable iter X.env x = pure x := by intro _; rfl) : PS X (.For tg iter body [] pos) (rdS T W (sFor mi g mb)) :=
  ps_mono (ps_for hp hc hi hg hb hs) fun D σ H ⟨as, h, ρ, R, E, e⟩ => by
    refine (EndS.bind R E e).mono fun J H1 ⟨as1, h1, it, B, e1⟩ => ?_
    have IR : ItRel T as1 H1 it J := B.r
    refine ⟨fun i m σ' H' => ∃ as' h' ρ', Stp as1 H1 as' H' ∧ Rst T as' H' h' ∧ RepE T as' H' ρ' σ' ∧ EndS T as' H' W (forM it g mb m i ρ' h') D,
      ⟨fuel, as1, h1, ρ, Stp.refl _ _, B.R, B.E, e1⟩, ?_⟩
    rintro i m σ' H' ⟨as', h', ρ', S', R', E', e'⟩
    cases m with
    | zero => exact e'.elim
    | succ m =>
      unfold forM at e'
      cases q : it i h' with
      | none => rw [q] at e'; exact e'.elim
      | some o =>
        cases o with
        | none =>
          rw [q] at e'
          exact .inl ⟨IR.stop S' R' q, EndS.nx e' R' E'⟩
        | some v =>
          rw [q] at e'
          dsimp only at e'
          obtain ⟨hgo, hy⟩ := IR.go S' R' q
          refine .inr ⟨hgo, fun σ2 H2 => ∃ as2 h2 ρ2, Stp as1 H1 as2 H2 ∧ Rst T as2 H2 h2 ∧ RepE T as2 H2 ρ2 σ2 ∧ EndS T as2 H2 W (forM it g mb m (i + 1) ρ2 h2) D, fun σ2 H2 z => ⟨m, Nat.lt_succ_self _, z⟩, fun x H2 y => ?_⟩
          obtain ⟨s2, R2, rv⟩ := hy x H2 y
          refine ⟨as', h', ρ', v, R2, E'.kp (s2.kp R'), rv, ?_⟩
          cases q2 : g v ρ' h' with
          | ok ρ3 h3 =>
            rw [q2] at e'
            dsimp only at e'
            intro σ3 H3 as3 s3 R3 E3
            refine ⟨as3, h3, ρ3, R3, E3, ?_⟩
            have S3 : Stp as' H' as3 H3 := s2.trans s3
            cases q3 : mb ρ3 h3 with
            | nx ρ4 h4 =>
              rw [q3] at e'
              exact fun σ4 H4 as4 s4 R4 E4 => ⟨as4, h4, ρ4, S'.trans (S3.trans s4), R4, E4, EndS.weaken (S3.trans s4) e'⟩
            | ct ρ4 h4 =>
              rw [q3] at e'
              exact fun σ4 H4 as4 s4 R4 E4 => ⟨as4, h4, ρ4, S'.trans (S3.trans s4), R4, E4, EndS.weaken (S3.trans s4) e'⟩
            | bk ρ4 h4 =>
              rw [q3] at e'
              exact fun σ4 H4 as4 s4 R4 E4 => e' σ4 H4 as4 (S3.trans s4) R4 E4
            | rt v4 h4 =>
              rw [q3] at e'
              exact fun V4 H4 as4 s4 R4 r4 => e' V4 H4 as4 (S3.trans s4) R4 r4
            | exc x4 ρ4 h4 =>
              rw [q3] at e'
              exact fun c4 d4 σ4 H4 as4 s4 R4 E4 r4 => e' c4 d4 σ4 H4 as4 (S3.trans s4) R4 E4 r4
            | stuck => rw [q3] at e'; exact e'
          | exc x3 h3 => rw [q2] at e'; exact e'.elim
          | stuck => rw [q2] at e'; exact e'.elim
theorem psm_while (hp : PassesOwn (model X.prog X.w) X.A X.env X.xe) (hc : PT X c (rdT T W mc)) (hb : PSs X body (rdS T W mb)) : PS X (.While c body [] pos) (rdS T W (sWhile mc mb)) :=
  ps_mono (ps_while hp hc hb) fun D σ H ⟨as, h, ρ, R, E, e⟩ => by
    refine ⟨fun m σ' H' => ∃ as' h' ρ', Stp as H as' H' ∧ Rst T as' H' h' ∧ RepE T as' H' ρ' σ' ∧ EndS T as' H' W (whileM mc mb m ρ' h') D,
      ⟨fuel, as, h, ρ, Stp.refl _ _, R, E, e⟩, ?_⟩
    rintro m σ' H' ⟨as', h', ρ', S', R', E', e'⟩
    cases m with
    | zero => exact e'.elim
    | succ m =>
      unfold whileM at e'
      refine ⟨as', h', ρ', R', E', ?_⟩
      cases q : mc ρ' h' with
      | ok b h1 =>
        rw [q] at e'
        intro b' H1 as1 s1 R1 rb
        have rb' : b = b' := rb
        subst rb'
        cases b with
        | false => exact iteF (e' σ' H1 as1 s1 R1 (E'.kp (s1.kp R')))
        | true =>
          refine iteT ⟨fun σ2 H2 => ∃ as2 h2 ρ2, Stp as H as2 H2 ∧ Rst T as2 H2 h2 ∧ RepE T as2 H2 ρ2 σ2 ∧ EndS T as2 H2 W (whileM mc mb m ρ2 h2) D, fun σ2 H2 z => ⟨m, Nat.lt_succ_self _, z⟩, ?_⟩
          refine ⟨as1, h1, ρ', R1, E'.kp (s1.kp R'), ?_⟩
          dsimp only at e'
          cases q3 : mb ρ' h1 with
          | nx ρ4 h4 =>
            rw [q3] at e'
            exact fun σ4 H4 as4 s4 R4 E4 => ⟨as4, h4, ρ4, S'.trans (s1.trans s4), R4, E4, EndS.weaken (s1.trans s4) e'⟩
          | ct ρ4 h4 =>
            rw [q3] at e'
            exact fun σ4 H4 as4 s4 R4 E4 => ⟨as4, h4, ρ4, S'.trans (s1.trans s4), R4, E4, EndS.weaken (s1.trans s4) e'⟩
          | bk ρ4 h4 =>
            rw [q3] at e'
            exact fun σ4 H4 as4 s4 R4 E4 => e' σ4 H4 as4 (s1.trans s4) R4 E4
          | rt v4 h4 =>
            rw [q3] at e'
            exact fun V4 H4 as4 s4 R4 r4 => e' V4 H4 as4 (s1.trans s4) R4 r4
          | exc x4 ρ4 h4 =>
            rw [q3] at e'
            exact fun c4 d4 σ4 H4 as4 s4 R4 E4 r4 => e' c4 d4 σ4 H4 as4 (s1.trans s4) R4 E4 r4
          | stuck => rw [q3] at e'; exact e'
      | exc x h1 =>
        rw [q] at e'
        exact fun c d H1 as1 s1 R1 rx => e' c d σ' H1 as1 s1 R1 (E'.kp (s1.kp R')) rx
      | stuck => rw [q] at e'; exact e'

/-! what is walked -/
def itTup (xs : List MV) : IT := fun i _ => some xs[i]?
def itLst (a : Nat) : IT := fun i h => match h[a]? with
  | some (.lst xs) => some xs[i]?
  | _ => none
def itRng (lo : Int) (n : Nat) : IT := fun i _ => some (if i < n then some (.int (lo + i)) else none)
def itStr (x : Str) : IT := fun i _ => some (x.cps[i]?.map fun c => .str ⟨#[c]⟩)
/-- the items of a list, a tuple, a text -/
def itOf (v : MV) : M IT := fun h => match v with
  | .tup xs => .ok (itTup xs) h
  | .flst xs => .ok (itTup xs) h
  | .ref a => match h[a]? with
    | some (.lst _) => .ok (itLst a) h
    | _ => .stuck
  | .str x => .ok (itStr x) h
  | _ => .stuck
def mIter (m : En → M MV) : En → M IT := fun ρ h => (m ρ h).bind itOf
theorem itRel_tup {as : List Addr} {H : Hp} {h : Hm} (R : Rst T as H h) {xs : List MV} {a : Addr} {vs : List V} (q : SqT T.K H a vs) (l : RepL T as H xs vs) : ItRel T as H (itTup xs) (Itt T.K a) := by
  refine ⟨fun {as1 H1 h1 i v} S R1 e => ?_, fun {as1 H1 h1 i} S R1 e => ?_⟩
  · have e' : xs[i]? = some v := Option.some.inj e
    have k := S.kp R
    obtain ⟨y, hy, ry⟩ := l.get e'
    refine ⟨⟨vs, y, k.tup _ _ q, hy⟩, fun x H2 ⟨e2, z⟩ => ?_⟩
    subst e2
    have zx := z vs (k.tup _ _ q)
    rw [hy] at zx; cases zx
    exact ⟨Stp.refl _ _, R1, ry.kp k⟩
  · have e' : xs[i]? = none := Option.some.inj e
    have k := S.kp R
    refine ⟨vs, k.tup _ _ q, ?_⟩
    rw [← l.length]
    exact List.getElem?_eq_none_iff.mp e'
theorem sqF_kp {as as' : List Addr} {H H' : Hp} (k : Kp T as H as' H') {a : Addr} {vs : List V} (q : SqF T.K H a vs) : SqF T.K H' a vs := by
  rcases q with ⟨o, q⟩ | q
  · exact .inl ⟨o, k.frz _ _ _ q⟩
  · exact .inr q
theorem SqF.sq {K : PySem.W.Frag} {H : Hp} {a : Addr} {vs : List V} (q : SqF K H a vs) : SqL K H a vs := by
  rcases q with ⟨o, q⟩ | q
  · exact .inl (.inr ⟨o, q⟩)
  · exact q H
theorem itRel_flst {as : List Addr} {H : Hp} {h : Hm} (R : Rst T as H h) {xs : List MV} {a : Addr} {vs : List V} (q : SqF T.K H a vs) (l : RepL T as H xs vs) : ItRel T as H (itTup xs) (Itl T.K a) := by
  refine ⟨fun {as1 H1 h1 i v} S R1 e => ?_, fun {as1 H1 h1 i} S R1 e => ?_⟩
  · have e' : xs[i]? = some v := Option.some.inj e
    have k := S.kp R
    obtain ⟨y, hy, ry⟩ := l.get e'
    refine ⟨⟨vs, y, (sqF_kp k q).sq, hy⟩, fun x H2 ⟨e2, z⟩ => ?_⟩
    subst e2
    have zx := z vs (sqF_kp k q).sq
    rw [hy] at zx; cases zx
    exact ⟨Stp.refl _ _, R1, ry.kp k⟩
  · have e' : xs[i]? = none := Option.some.inj e
    have k := S.kp R
    refine ⟨vs, (sqF_kp k q).sq, ?_⟩
    rw [← l.length]
    exact List.getElem?_eq_none_iff.mp e'
theorem itRel_lst {as : List Addr} {H : Hp} {b : Nat} {a : Addr} (ha : as[b]? = some a) : ItRel T as H (itLst b) (Itl T.K a) := by
  refine ⟨fun {as1 H1 h1 i v} S R1 e => ?_, fun {as1 H1 h1 i} S R1 e => ?_⟩
  · unfold itLst at e
    split at e
    · rename_i xs ho
      have e' : xs[i]? = some v := Option.some.inj e
      obtain ⟨u, hu, vs, rfl, l⟩ := R1.obj b a _ (get_pre S.pre ha) ho
      obtain ⟨y, hy, ry⟩ := l.get e'
      refine ⟨⟨vs, y, SqL.of hu, hy⟩, fun x H2 ⟨e2, z⟩ => ?_⟩
      subst e2
      have zx := z vs (SqL.of hu)
      rw [hy] at zx; cases zx
      exact ⟨Stp.refl _ _, R1, ry⟩
    · cases e
  · unfold itLst at e
    split at e
    · rename_i xs ho
      have e' : xs[i]? = none := Option.some.inj e
      obtain ⟨u, hu, vs, rfl, l⟩ := R1.obj b a _ (get_pre S.pre ha) ho
      refine ⟨vs, SqL.of hu, ?_⟩
      rw [← l.length]
      exact List.getElem?_eq_none_iff.mp e'
    · cases e
theorem itRel_str {as : List Addr} {H : Hp} {x : Str} : ItRel T as H (itStr x) (Its x) := by
  refine ⟨fun {as1 H1 h1 i v} S R1 e => ?_, fun {as1 H1 h1 i} S R1 e => ?_⟩
  · have e' : (x.cps[i]?.map fun c => MV.str ⟨#[c]⟩) = some v := Option.some.inj e
    cases q : x.cps[i]? with
    | none => rw [q] at e'; cases e'
    | some c =>
      rw [q] at e'
      have e2 : MV.str ⟨#[c]⟩ = v := Option.some.inj e'
      subst e2
      refine ⟨(Array.getElem?_eq_some_iff.mp q).1, fun y H2 ⟨e2, c', q', z⟩ => ?_⟩
      subst e2
      rw [q] at q'; cases q'
      subst z
      exact ⟨Stp.refl _ _, R1, by unfold RepV; rfl⟩
  · have e' : (x.cps[i]?.map fun c => MV.str ⟨#[c]⟩) = none := Option.some.inj e
    cases q : x.cps[i]? with
    | none => exact Array.getElem?_eq_none_iff.mp q
    | some c => rw [q] at e'; cases e'
theorem itRel_rng {as : List Addr} {H : Hp} {lo : Int} {n : Nat} : ItRel T as H (itRng lo n) (Itr lo n) := by
  refine ⟨fun {as1 H1 h1 i v} S R1 e => ?_, fun {as1 H1 h1 i} S R1 e => ?_⟩
  · have e' : (if i < n then some (MV.int (lo + i)) else none) = some v := Option.some.inj e
    split at e'
    · rename_i hi
      cases e'
      refine ⟨hi, fun y H2 ⟨e2, z⟩ => ?_⟩
      subst e2
      subst z
      exact ⟨Stp.refl _ _, R1, by unfold RepV; rfl⟩
    · cases e'
  · have e' : (if i < n then some (MV.int (lo + i)) else none) = none := Option.some.inj e
    split at e'
    · cases e'
    · rename_i hi
      exact Nat.le_of_not_lt hi
theorem itOf_run (hK : X.K = T.K) {as : List Addr} {H : Hp} {h : Hm} {v : MV} {U : V} {σ : St} {R : It → Hp → Prop} (Rs : Rst T as H h) (r : RepV T as H v U) (e : EndG (fun as H it J => ItRel T as H it J) T as H W σ (itOf v h) R) :
    (∃ a, U = .ref a ∧ (∃ xs, SqL X.K H a xs) ∧ R (Itl X.K a) H) ∨ (∃ a, U = .ref a ∧ (∃ xs, SqT X.K H a xs) ∧ R (Itt X.K a) H) ∨ ∃ x, U = .str x ∧ R (Its x) H := by
  rw [hK]
  cases v with
  | tup xs =>
    unfold RepV at r
    obtain ⟨a, vs, rfl, q, l⟩ := r
    exact .inr (.inl ⟨a, rfl, ⟨vs, q⟩, e.done Rs (itRel_tup Rs q l)⟩)
  | flst xs =>
    unfold RepV at r
    obtain ⟨a, vs, rfl, q, l⟩ := r
    exact .inl ⟨a, rfl, ⟨vs, q.sq⟩, e.done Rs (itRel_flst Rs q l)⟩
  | str x =>
    unfold RepV at r
    subst r
    exact .inr (.inr ⟨x, rfl, e.done Rs itRel_str⟩)
  | ref b =>
    unfold RepV at r
    obtain ⟨a, ha, rfl⟩ := r
    unfold itOf at e
    dsimp only at e
    split at e
    · rename_i xs ho
      obtain ⟨u, hu, vs, rfl, l⟩ := Rs.obj b a _ ha ho
      exact .inl ⟨a, rfl, ⟨vs, SqL.of hu⟩, e.done Rs (itRel_lst ha)⟩
    · exact e.elim
  | _ => exact e.elim
/-- a list, a tuple, a text at hand is walked -/
theorem iter_at {pins : List (Addr × Obj)} {σ : St} {H : Hp} {s : Shared} {R : It → Hp → Prop} {E : Value → Shared → Prop} {U : V} {v : Value} (I : Inv X pins σ H s) (r : RelV U v)
    (q : (∃ a, U = .ref a ∧ (∃ xs, SqL X.K H a xs) ∧ R (Itl X.K a) H) ∨ (∃ a, U = .ref a ∧ (∃ xs, SqT X.K H a xs) ∧ R (Itt X.K a) H) ∨ ∃ x, U = .str x ∧ R (Its x) H) : wpAny (model X.prog X.w) X.A (pyIter v) (PIE X pins σ tg R) E s := by
  rcases q with ⟨a, rfl, ⟨xs, hq⟩, q⟩ | ⟨a, rfl, ⟨xs, hq⟩, q⟩ | ⟨x, rfl, q⟩
  · cases r
    obtain ⟨its, rv, p, hz⟩ := I.list hq
    exact wpAny_pyIter_list p.isList (pi_one (tk := s.toks) I _ (turn_list a _) ⟨_, Heap.get?_push_size _ rfl, rfl, rfl⟩ q)
  · cases r
    obtain ⟨its, rv, p, hz⟩ := I.tuple hq
    exact wpAny_pyIter_tuple (show s.heap.IsTuple a its.toArray from p) (pi_one (tk := s.toks) I _ (turn_tuple a _) ⟨_, Heap.get?_push_size _ rfl, rfl, rfl⟩ q)
  · obtain ⟨t, rfl⟩ := r
    cases ha : x.cps.all (· < 128)
    · exact wpAny_pyIter_wide ha (pi_one (tk := s.toks) I _ (turn_str _ x t "str_iterator" (.inr rfl)) ⟨_, Heap.get?_push_size _ rfl, rfl, rfl⟩ q)
    · exact wpAny_pyIter_ascii ha (pi_one (tk := s.toks) I _ (turn_str _ x t "str_ascii_iterator" (.inl rfl)) ⟨_, Heap.get?_push_size _ rfl, rfl, rfl⟩ q)
theorem pim_seq {m : En → M MV} (hK : X.K = T.K) (he : PE X iter (rdE T W m)) : PI X tg iter (rdI T W (mIter m)) :=
  ⟨fun pins s σ H R I q => by
    obtain ⟨as, h, ρ, Rs, E, e⟩ := q
    have z : rdE T W m σ H fun U H1 => (∃ a, U = .ref a ∧ (∃ xs, SqL X.K H1 a xs) ∧ R (Itl X.K a) H1) ∨ (∃ a, U = .ref a ∧ (∃ xs, SqT X.K H1 a xs) ∧ R (Itt X.K a) H1) ∨ ∃ x, U = .str x ∧ R (Its x) H1 :=
      (EndG.bind Rs E e).mono fun U H1 ⟨as1, h1, v, B, e1⟩ => itOf_run hK B.R B.r e1
    refine thn (he.run pins s σ H _ I z) fun v s1 ⟨x, H1, I1, r1, q1⟩ => ?_
    exact iter_at I1 r1 q1⟩
end
end Cutp

/-! CutComp: list comprehensions with one for. -/
namespace Cutp
open PySem L2

def wipeM (ρ : En) : List Nat → En
  | [] => ρ
  | v :: vs => (wipeM ρ vs).set v none
def compM (it : IT) (g : GM) (t : En → M Bool) (e : En → M MV) (ρ : En) : Nat → Nat → List MV → M (List MV)
  | 0, _, _, _ => .stuck
  | n + 1, i, acc, h => match it i h with
    | none => .stuck
    | some none => .ok acc h
    | some (some v) => match g v ρ h with
      | .ok ρ1 h1 => match t ρ1 h1 with
        | .ok true h2 => match e ρ1 h2 with
          | .ok y h3 => if acc.length < 10000000 then compM it g t e ρ n (i + 1) (acc ++ [y]) h3 else .stuck
          | _ => .stuck
        | .ok false h2 => compM it g t e ρ n (i + 1) acc h2
        | _ => .stuck
      | _ => .stuck
/-- a finished list is laid -/
def layLst (xs : List MV) : M MV := fun h => .ok (.ref h.length) (h ++ [.lst xs])
def mComp (mi : En → M IT) (vs : List Nat) (g : GM) (t : En → M Bool) (e : En → M MV) : En → M MV := fun ρ h => (mi ρ h).bind fun it h1 => (compM it g t e (wipeM ρ vs) fuel 0 [] h1).bind layLst
def mYes : En → M Bool := fun _ h => .ok true h

/-- a target that stores into the slots vs alone -/
def EndTW (T : Tb) (vs : List Nat) (as : List Addr) (H : Hp) (σ : St) (r : Res En) (Q : St → Hp → Prop) : Prop :=
  match r with
  | .ok ρ h => ∀ σ' H' as', Stp as H as' H' → Rst T as' H' h → RepE T as' H' ρ σ' → wipe σ' vs = wipe σ vs → Q σ' H'
  | _ => False
def rdTW (T : Tb) (vs : List Nat) (g : GM) : TG := fun V σ H Q => ∃ as h ρ v, Rst T as H h ∧ RepE T as H ρ σ ∧ RepV T as H v V ∧ EndTW T vs as H σ (g v ρ h) Q
def rdTWs (T : Tb) (vs : List Nat) (g : List MV → En → M En) : TGs := fun V σ H Q => ∃ as h ρ v, Rst T as H h ∧ RepE T as H ρ σ ∧ RepL T as H v V ∧ EndTW T vs as H σ (g v ρ h) Q
theorem wipe_set : ∀ (vs : List Nat) {σ : St} {i : Nat} {v : Option V}, i ∈ vs → wipe (σ.set i v) vs = wipe σ vs
  | [], _, _, _, h => by cases h
  | x :: vs, σ, i, v, h => by
    unfold wipe
    by_cases hx : x = i
    · subst hx
      have key : ∀ (ws : List Nat), (wipe (σ.set x v) ws).set x none = (wipe σ ws).set x none := by
        intro ws
        induction ws with
        | nil => unfold wipe; rw [List.set_set]
        | cons y ws ih =>
          unfold wipe
          by_cases hy : y = x
          · subst hy; rw [List.set_set, List.set_set, ih]
          · rw [List.set_comm _ _ hy, ih, List.set_comm _ _ hy]
      exact key vs
    · rw [wipe_set vs (by simpa [Ne.symm hx] using h)]
theorem wipe_idem {σ : St} (vs : List Nat) : ∀ ws : List Nat, (∀ i ∈ ws, i ∈ vs) → wipe (wipe σ ws) vs = wipe σ vs
  | [], _ => rfl
  | w :: ws, k => by
    rw [show wipe σ (w :: ws) = (wipe σ ws).set w none from rfl, wipe_set vs (k w (by simp))]
    exact wipe_idem vs ws fun i hi => k i (by simp [hi])
section
variable {X : Cx} {T : Tb} {W : WX} {pos : Pos} {e a b : Expr} {ma mb : En → M MV} {vs : List Nat}
theorem EndTW.weaken {as as1 : List Addr} {H H1 : Hp} {σ : St} (S : Stp as H as1 H1) {r : Res En} {Q : St → Hp → Prop} (e : EndTW T vs as H σ r Q) : EndTW T vs as1 H1 σ r Q := by
  cases r with
  | ok ρ h => exact fun σ H' as' s => e σ H' as' (S.trans s)
  | exc x h => exact e
  | stuck => exact e
theorem pgw_name {i : Nat} {x : Str} (hN : X.N.Nodup) (hi : X.N[i]? = some x) (hx : Loc X.env.scope x) (hv : i ∈ vs := by decide) (hf : X.fn x = true ∨ X.env.scope.names.lookup x = some .local := by first | exact .inl rfl | exact .inr rfl | assumption) : PG X (.Name x pos) (rdTW T vs (gmName i)) :=
  pg_mono (pg_name hN hi hx hf) fun V σ H Q ⟨as, h, ρ, v, R, E, r, e⟩ => e (σ.set i (some V)) H as (Stp.refl _ _) R (E.set i r) (wipe_set vs hv)
theorem pgsw_nil : PGs X [] (rdTWs T vs gmNil) := pgs_mono pgs_nil fun V σ H Q ⟨as, h, ρ, v, R, E, r, e⟩ => by
  cases v with
  | nil => unfold RepL at r; exact ⟨r, e σ H as (Stp.refl _ _) R E rfl⟩
  | cons x xs => exact e.elim
theorem pgsw_cons {es : List Expr} {g : GM} {gs : List MV → En → M En} (h1 : PG X e (rdTW T vs g)) (h2 : PGs X es (rdTWs T vs gs))
    (hs : (assignEach (e :: es) X.env).map (·.2) = assign e X.env :: (assignEach es X.env).map (·.2) := by rfl) : PGs X (e :: es) (rdTWs T vs (gmCons g gs)) :=
  pgs_mono (pgs_cons h1 h2 hs) fun V σ H Q ⟨as, h, ρ, v, R, E, r, e⟩ => by
    cases v with
    | nil => exact e.elim
    | cons x xs =>
      unfold RepL at r
      obtain ⟨u, us, rfl, r1, r2⟩ := r
      refine ⟨u, us, rfl, as, h, ρ, x, R, E, r1, ?_⟩
      unfold gmCons at e
      dsimp only at e
      cases q : g x ρ h with
      | ok ρ1 h1 =>
        rw [q] at e
        intro σ' H' as' s R' E' hw
        refine ⟨as', h1, ρ1, xs, R', E', r2.kp (s.kp R), ?_⟩
        cases q2 : gs xs ρ1 h1 with
        | ok ρ2 h2 =>
          rw [Res.bind_ok, q2] at e
          exact fun σ2 H2 as2 s2 R2 E2 hw2 => e σ2 H2 as2 (s.trans s2) R2 E2 (hw2.trans hw)
        | exc x h2 => rw [Res.bind_ok, q2] at e; exact e
        | stuck => rw [Res.bind_ok, q2] at e; exact e
      | exc x h1 => rw [q] at e; exact e.elim
      | stuck => rw [q] at e; exact e.elim
theorem pgw_tup {es : List Expr} {k n : Nat} {gs : List MV → En → M En} (hK : X.K = T.K) (hc : X.calm = true) (h : PGs X es (rdTWs T vs gs))
    (hn : (assignEach es X.env).length = n := by rfl) (hst : (assignEach es X.env).findIdx? (·.1) = none := by rfl) : PG X (.Tuple es k pos) (rdTW T vs (gmTup n gs)) :=
  pg_mono (pg_tup hc h hn hst) fun V σ H Q ⟨as, h, ρ, v, R, E, r, e⟩ => by
    cases v with
    | tup xs =>
      unfold RepV at r
      obtain ⟨a, us, rfl, q, l⟩ := r
      unfold gmTup at e
      dsimp only at e
      split at e
      · rename_i hl
        exact ⟨a, us, rfl, hK ▸ q, by rw [← l.length]; exact hl, as, h, ρ, xs, R, E, l, e⟩
      · exact e.elim
    | _ => exact e.elim
theorem pts_mono {ifs : List Expr} {t t' : TT} (p : PTs X ifs t) (k : ∀ σ H Q, t' σ H Q → t σ H Q) : PTs X ifs t' := ⟨fun pins s σ H Q I q => p.run pins s σ H Q I (k _ _ _ q)⟩
theorem ptsm_nil : PTs X [] (rdT T W mYes) := pts_mono pts_nil fun σ H Q ⟨as, h, ρ, R, E, e⟩ => e.done R rfl
theorem ptsm_one {c : Expr} {t : En → M Bool} (h : PT X c (rdT T W t)) : PTs X [c] (rdT T W t) := pts_one h
end
/-- no exception is let out -/
def W0 : WX := fun _ _ _ _ => False
section
variable {T : Tb} {as : List Addr} {H : Hp} {h : Hm}
/-- something beside the mirror is written -/
theorem Rst.side (R : Rst T as H h) {D : Addr} {u : HO} (hD : D ∉ as) (hM : ∀ w, H D = some w → ∃ xs, w = .lst xs) : Rst T as (upd H D u) h ∧ Kp T as H as (upd H D u) := by
  have k : Kp T as H as (upd H D u) := by
    refine ⟨⟨[], by simp⟩, fun a vs q => ?_, fun a o w q => ?_⟩
    · rcases q with (q | ⟨o, q⟩) | q
      · exact .inl (.inl (by rw [upd_ne (fun e => by subst e; obtain ⟨xs, z⟩ := hM _ q; cases z)]; exact q))
      · exact .inl (.inr ⟨o, by rw [upd_ne (fun e => by subst e; obtain ⟨xs, z⟩ := hM _ q; cases z)]; exact q⟩)
      · exact .inr q
    · rw [upd_ne (fun e => by subst e; obtain ⟨xs, z⟩ := hM _ q; cases z)]; exact q
  refine ⟨⟨R.len, R.nd, fun i a o ha ho => ?_⟩, k⟩
  obtain ⟨w, hw, r⟩ := R.obj i a o ha ho
  exact ⟨w, by rw [upd_ne (fun e => hD (by rw [← e]; exact List.mem_of_getElem? ha))]; exact hw, r.kp k⟩
theorem Rst.fresh (R : Rst T as H h) {D : Addr} (hD : H D = none) : D ∉ as := fun hm => by
  obtain ⟨i, hi⟩ := List.getElem?_of_mem hm
  have hl : i < h.length := by rw [← R.len]; exact (List.getElem?_eq_some_iff.mp hi).1
  obtain ⟨w, hw, _⟩ := R.obj i D h[i] hi (by simp [hl])
  rw [hD] at hw; cases hw
/-- a list beside the mirror becomes the mirror's -/
theorem Rst.adopt (R : Rst T as H h) {D : Addr} {xs : List MV} {U : List V} (hD : D ∉ as) (hu : H D = some (.lst U)) (r : RepL T as H xs U) : Rst T (as ++ [D]) H (h ++ [.lst xs]) := by
  have k : Kp T as H (as ++ [D]) H := ⟨⟨[D], rfl⟩, fun _ _ q => q, fun _ _ _ q => q⟩
  refine ⟨by simp [R.len], ?_, fun i a ob ha ho => ?_⟩
  · rw [List.nodup_append]
    refine ⟨R.nd, by simp, fun a ha b hb => ?_⟩
    simp only [List.mem_singleton] at hb
    subst hb
    exact fun e => hD (e ▸ ha)
  · by_cases hi : i < as.length
    · rw [List.getElem?_append_left hi] at ha
      rw [List.getElem?_append_left (by rw [← R.len]; exact hi)] at ho
      obtain ⟨w, hw, r⟩ := R.obj i a ob ha ho
      exact ⟨w, hw, r.kp k⟩
    · have e : i = as.length := by
        have := (List.getElem?_eq_some_iff.mp ha).1
        simp at this; omega
      subst e
      rw [List.getElem?_append_right (Nat.le_refl _)] at ha
      rw [R.len, List.getElem?_append_right (Nat.le_refl _)] at ho
      simp at ha ho
      subst ha; subst ho
      exact ⟨_, hu, U, rfl, r.kp k⟩
theorem RepE.wipe {ρ : En} {σ : St} (E : RepE T as H ρ σ) : ∀ vs : List Nat, RepE T as H (wipeM ρ vs) (wipe σ vs)
  | [] => E
  | v :: vs => by
    have ih := RepE.wipe E vs
    unfold wipeM L2.wipe
    refine ⟨by simp [ih.len], fun j u q => ?_⟩
    by_cases hj : v = j
    · subst hj
      by_cases hl : v < (wipeM ρ vs).length
      · rw [List.getElem?_set_self hl] at q; cases q
      · rw [List.getElem?_eq_none (by simpa using hl)] at q; cases q
    · rw [List.getElem?_set_ne hj] at q ⊢
      exact ih.at_ j u q
end
section
variable {X : Cx} {T : Tb} {W : WX} {pos : Pos}
/-- the mirror's comprehension does what HandS's reading asks -/
theorem lc_run {mi : En → M IT} {g : GM} {t : En → M Bool} {me : En → M MV} {vs : List Nat} {σ : St} {H : Hp} {Q : VK} (q : rdE T W (mComp mi vs g t me) σ H Q) : tLc (rdI T W mi) (rdTW T vs g) (rdT T W0 t) (rdE T W0 me) vs σ H Q := by
    obtain ⟨as, h, ρ, R, E, e⟩ := q
    refine (EndG.bind R E e).mono fun J H1 ⟨as1, h1, it, B, e1⟩ => ?_
    have IR : ItRel T as1 H1 it J := B.r
    intro D hD
    have hDn := B.R.fresh hD
    refine ⟨fun i m H' => ∃ as' h' acc U, Stp as1 H1 as' H' ∧ Rst T as' H' h' ∧ D ∉ as' ∧ H' D = some (.lst U) ∧ RepL T as' H' acc U ∧ EndG (RepV T) T as1 H1 W σ ((compM it g t me (wipeM ρ vs) m i acc h').bind layLst) Q, ⟨fuel, as1, h1, [], [], ?_⟩, ?_⟩
    · have sd := B.R.side (u := .lst []) hDn (fun w q => by rw [hD] at q; cases q)
      have S : Stp as1 H1 as1 (upd H1 D (.lst [])) := ⟨⟨[], by simp⟩, fun a u q n => ⟨by rw [upd_ne (ne_of_none q hD)]; exact q, n⟩⟩
      exact ⟨S, sd.1, hDn, upd_same, RepL.nil, e1⟩
    · rintro i m H' ⟨as', h', acc, U, S', R', nD, hU, rU, e'⟩
      have E' : RepE T as' H' (wipeM ρ vs) (wipe σ vs) := (B.E.kp (S'.kp B.R)).wipe vs
      cases m with
      | zero => exact e'.elim
      | succ m =>
        unfold compM at e'
        cases q : it i h' with
        | none => rw [q] at e'; exact e'.elim
        | some o =>
          cases o with
          | none =>
            rw [q] at e'
            refine .inl ⟨IR.stop S' R' q, ?_⟩
            have R2 := R'.adopt nD hU rU
            have S2 : Stp as1 H1 (as' ++ [D]) H' := by
              obtain ⟨l, hl⟩ := S'.pre
              refine ⟨⟨l ++ [D], by rw [hl, List.append_assoc]⟩, fun a u z n => ?_⟩
              obtain ⟨z1, z2⟩ := S'.out a u z n
              refine ⟨z1, ?_⟩
              simp only [List.mem_append, List.mem_singleton, not_or]
              exact ⟨z2, ne_of_none z hD⟩
            refine e' (.ref D) H' (as' ++ [D]) S2 R2 ?_
            unfold RepV
            exact ⟨D, by rw [← R'.len, List.getElem?_append_right (Nat.le_refl _)]; simp, rfl⟩
          | some v =>
            rw [q] at e'
            dsimp only at e'
            obtain ⟨hgo, hy⟩ := IR.go S' R' q
            refine .inr ⟨hgo, fun H2 => ∃ as' h' acc U, Stp as1 H1 as' H2 ∧ Rst T as' H2 h' ∧ D ∉ as' ∧ H2 D = some (.lst U) ∧ RepL T as' H2 acc U ∧ EndG (RepV T) T as1 H1 W σ ((compM it g t me (wipeM ρ vs) m (i + 1) acc h').bind layLst) Q, fun H2 z => ⟨m, Nat.lt_succ_self _, z⟩, fun x H2 y => ?_⟩
            obtain ⟨s2, R2, rv⟩ := hy x H2 y
            refine ⟨as', h', wipeM ρ vs, v, R2, E'.kp (s2.kp R'), rv, ?_⟩
            obtain ⟨u2, n2⟩ := s2.out D _ hU nD
            cases q2 : g v (wipeM ρ vs) h' with
            | ok ρ3 h3 =>
              rw [q2] at e'
              dsimp only at e'
              intro σ3 H3 as3 s3 R3 E3 hw
              refine ⟨hw.trans (wipe_idem vs vs fun _ z => z), as3, h3, ρ3, R3, E3, ?_⟩
              obtain ⟨u3, n3⟩ := s3.out D _ u2 n2
              cases q3 : t ρ3 h3 with
              | ok b h4 =>
                rw [q3] at e'
                intro b' H4 as4 s4 R4 rb
                have rb' : b = b' := rb
                subst rb'
                obtain ⟨u4, n4⟩ := s4.out D _ u3 n3
                have S4 : Stp as1 H1 as4 H4 := S'.trans (s2.trans (s3.trans s4))
                have K4 : Kp T as' H' as4 H4 := (s2.trans (s3.trans s4)).kp R'
                cases b with
                | false =>
                  exact iteF ⟨as4, h4, acc, U, S4, R4, n4, u4, rU.kp K4, e'⟩
                | true =>
                  refine iteT ⟨as4, h4, ρ3, R4, E3.kp (s4.kp R3), ?_⟩
                  dsimp only at e'
                  cases q5 : me ρ3 h4 with
                  | ok y5 h5 =>
                    rw [q5] at e'
                    dsimp only at e'
                    intro Y H5 as5 s5 R5 ry
                    obtain ⟨u5, n5⟩ := s5.out D _ u4 n4
                    by_cases hz : acc.length < 10000000
                    · rw [if_pos hz] at e'
                      have S5 := S4.trans s5
                      have sd := R5.side (u := .lst (U ++ [Y])) n5 (fun w z => by rw [u5] at z; cases z; exact ⟨_, rfl⟩)
                      refine ⟨U, u5, ?_, as5, h5, acc ++ [y5], U ++ [Y], ?_, sd.1, n5, upd_same, ?_, e'⟩
                      · rw [← rU.length, sizeLine_eq]; omega
                      · obtain ⟨l, hl⟩ := S5.pre
                        refine ⟨⟨l, hl⟩, fun a u z n => ?_⟩
                        obtain ⟨z1, z2⟩ := S5.out a u z n
                        exact ⟨by rw [upd_ne (ne_of_none z hD)]; exact z1, z2⟩
                      · exact ((rU.kp K4).kp (s5.kp R4)).app (RepL.cons ry RepL.nil) |>.kp sd.2
                    · rw [if_neg hz] at e'; exact e'.elim
                  | exc x h5 => rw [q5] at e'; exact e'.elim
                  | stuck => rw [q5] at e'; exact e'.elim
              | exc x h4 => rw [q3] at e'; exact e'.elim
              | stuck => rw [q3] at e'; exact e'.elim
            | exc x h3 => rw [q2] at e'; exact e'.elim
            | stuck => rw [q2] at e'; exact e'.elim
theorem pm_lc {elt tg iter : Expr} {ifs : List Expr} {scope : Scope} {own : List (Str × Nat)} {mi : En → M IT} {g : GM} {t : En → M Bool} {me : En → M MV} (hc : X.calm = true) (hN : X.N.Nodup) (hi : PI X tg iter (rdI T W mi)) (ok : BlkOk X.N X.env.scope scope own)
    (hg : ∀ (s : Shared) (H : Hp) (C : Addr) (cl : List (Str × Addr)) (fp : List Addr), PG (X.blk s H scope (compEnvC scope cl C X.env) fp) tg (rdTW T (own.map (·.2)) g))
    (ht : ∀ (s : Shared) (H : Hp) (C : Addr) (cl : List (Str × Addr)) (fp : List Addr), PTs (X.blk s H scope (compEnvC scope cl C X.env) fp) ifs (rdT T W0 t))
    (he : ∀ (s : Shared) (H : Hp) (C : Addr) (cl : List (Str × Addr)) (fp : List Addr), PE (X.blk s H scope (compEnvC scope cl C X.env) fp) elt (rdE T W0 me)) (hs : ∀ x, foldedSetIterable iter X.env x = pure x := by intro _; rfl) :
    PE X (.ListComp elt [⟨tg, iter, ifs, 0⟩] scope pos) (rdE T W (mComp mi (own.map (·.2)) g t me)) := pe_mono (pe_lc hc hN hi ok hg ht he hs) fun _ _ _ q => lc_run q
/-- name = [..] -/
theorem psm_setLc {i : Nat} {y : Str} {py spos : Pos} {elt tg iter : Expr} {ifs : List Expr} {scope : Scope} {own : List (Str × Nat)} {mi : En → M IT} {g : GM} {t : En → M Bool} {me : En → M MV} (hc : X.calm = true) (hN : X.N.Nodup) (hy : X.N[i]? = some y) (hyl : X.env.scope.names.lookup y = some .local)
    (hsw : swapsWith (.ListComp elt [⟨tg, iter, ifs, 0⟩] scope pos) (some (.Name y py)) spos.line X.env = pure true) (hi : PI X tg iter (rdI T W mi)) (ok : BlkOk X.N X.env.scope scope own)
    (hg : ∀ (s : Shared) (H : Hp) (C : Addr) (cl : List (Str × Addr)) (fp : List Addr), PG (X.blk s H scope (compEnvC scope cl C X.env) fp) tg (rdTW T (own.map (·.2)) g))
    (ht : ∀ (s : Shared) (H : Hp) (C : Addr) (cl : List (Str × Addr)) (fp : List Addr), PTs (X.blk s H scope (compEnvC scope cl C X.env) fp) ifs (rdT T W0 t))
    (he : ∀ (s : Shared) (H : Hp) (C : Addr) (cl : List (Str × Addr)) (fp : List Addr), PE (X.blk s H scope (compEnvC scope cl C X.env) fp) elt (rdE T W0 me)) (hs : ∀ x, foldedSetIterable iter X.env x = pure x := by intro _; rfl) :
    PS X (.Assign [.Name y py] (.ListComp elt [⟨tg, iter, ifs, 0⟩] scope pos) spos) (rdS T W (sAsg (mComp mi (own.map (·.2)) g t me) (gmName i))) :=
  ps_mono (ps_setLc hc hN hy hyl hsw hi ok hg ht he hs) fun D σ H ⟨as, h, ρ, R, E, e⟩ => lc_run ((EndS.bind R E e).mono fun V H1 ⟨as1, h1, v, B, e1⟩ => EndS.nx e1 B.R (B.E.set i B.r))
end
end Cutp

/-! CutOps: operators, subscripts, slices, comparisons and built-in functions of the mirror. -/
namespace Cutp
open PySem L2

section
variable {T : Tb} {as : List Addr} {H : Hp} {h : Hm} {W : WX} {σ : St} {Q : VK}
theorem rep_int {i : Int} {U : V} (r : RepV T as H (.int i) U) : U = .int i := by unfold RepV at r; exact r
theorem rep_bl {i : Bool} {U : V} (r : RepV T as H (.bl i) U) : U = .bl i := by unfold RepV at r; exact r
theorem rep_str {i : Str} {U : V} (r : RepV T as H (.str i) U) : U = .str i := by unfold RepV at r; exact r
theorem rep_non {U : V} (r : RepV T as H .non U) : U = .non := by unfold RepV at r; exact r
theorem rep_tup {xs : List MV} {U : V} (r : RepV T as H (.tup xs) U) : ∃ a vs, U = .ref a ∧ SqT T.K H a vs ∧ RepL T as H xs vs := by unfold RepV at r; exact r
theorem rep_flst {xs : List MV} {U : V} (r : RepV T as H (.flst xs) U) : ∃ a vs, U = .ref a ∧ SqF T.K H a vs ∧ RepL T as H xs vs := by unfold RepV at r; exact r
theorem rep_ref {b : Nat} {U : V} (r : RepV T as H (.ref b) U) : ∃ a, as[b]? = some a ∧ U = .ref a := by unfold RepV at r; exact r
theorem rep_lst (R : Rst T as H h) {b : Nat} {xs : List MV} (ho : h[b]? = some (.lst xs)) {U : V} (r : RepV T as H (.ref b) U) : ∃ a vs, as[b]? = some a ∧ U = .ref a ∧ H a = some (.lst vs) ∧ RepL T as H xs vs := by
  obtain ⟨a, ha, rfl⟩ := rep_ref r
  obtain ⟨u, hu, vs, rfl, l⟩ := R.obj b a _ ha ho
  exact ⟨a, vs, ha, rfl, hu, l⟩
theorem repL_one {x : MV} {U : List V} (r : RepL T as H [x] U) : ∃ u, U = [u] ∧ RepV T as H x u := by
  unfold RepL at r
  obtain ⟨v, q, rfl, r1, r2⟩ := r
  unfold RepL at r2
  exact ⟨v, by rw [r2], r1⟩
theorem repL_two {x y : MV} {U : List V} (r : RepL T as H [x, y] U) : ∃ u v, U = [u, v] ∧ RepV T as H x u ∧ RepV T as H y v := by
  unfold RepL at r
  obtain ⟨v, q, rfl, r1, r2⟩ := r
  obtain ⟨u, rfl, r3⟩ := repL_one r2
  exact ⟨v, u, rfl, r1, r3⟩
/-- the value is a number, a truth, a text .. that the mirror names -/
theorem EndG.int {i : Int} (e : EndG (RepV T) T as H W σ (.ok (.int i) h) Q) (R : Rst T as H h) : Q (.int i) H := e.done R (by unfold RepV; rfl)
theorem EndG.bl {i : Bool} (e : EndG (RepV T) T as H W σ (.ok (.bl i) h) Q) (R : Rst T as H h) : Q (.bl i) H := e.done R (by unfold RepV; rfl)
theorem EndG.str {i : Str} (e : EndG (RepV T) T as H W σ (.ok (.str i) h) Q) (R : Rst T as H h) : Q (.str i) H := e.done R (by unfold RepV; rfl)
theorem EndG.non (e : EndG (RepV T) T as H W σ (.ok .non h) Q) (R : Rst T as H h) : Q .non H := e.done R (by unfold RepV; rfl)
/-- a new tuple -/
theorem EndG.tup {xs : List MV} {U : List V} (e : EndG (RepV T) T as H W σ (.ok (.tup xs) h) Q) (R : Rst T as H h) (r : RepL T as H xs U) : ∀ p, H p = none → Q (.ref p) (upd H p (.tup U)) := fun p hp => by
  have S : Stp as H as (upd H p (.tup U)) := ⟨⟨[], by simp⟩, fun a u e n => ⟨by rw [upd_ne (ne_of_none e hp)]; exact e, n⟩⟩
  refine e _ _ as S ⟨R.len, R.nd, fun i a o ha ho => ?_⟩ ?_
  · obtain ⟨u, hu, r⟩ := R.obj i a o ha ho
    exact ⟨u, by rw [upd_ne (ne_of_none hu hp)]; exact hu, r.kp (S.kp R)⟩
  · unfold RepV
    exact ⟨p, U, rfl, .inl (.inl upd_same), r.kp (S.kp R)⟩
/-- a new list -/
theorem EndG.lst {xs : List MV} {U : List V} (e : EndG (RepV T) T as H W σ (.ok (.ref h.length) (h ++ [.lst xs])) Q) (R : Rst T as H h) (r : RepL T as H xs U) : ∀ p, H p = none → Q (.ref p) (upd H p (.lst U)) := fun p hp => by
  obtain ⟨R', S⟩ := R.laid (o := .lst xs) hp ⟨U, rfl, r⟩
  refine e _ _ _ S R' ?_
  unfold RepV
  exact ⟨p, by rw [← R.len, List.getElem?_append_right (Nat.le_refl _)]; simp, rfl⟩
/-- a list is written -/
theorem EndG.wr {b : Nat} {a : Addr} {xs : List MV} {v : MV} {u : V} {U : List V} (e : EndG (RepV T) T as H W σ (.ok v (h.set b (.lst xs))) Q) (R : Rst T as H h) (ha : as[b]? = some a) (r : RepL T as H xs U) (rv : RepV T as H v u) : Q u (upd H a (.lst U)) := by
  obtain ⟨R', S⟩ := R.write (o := .lst xs) ha ⟨U, rfl, r⟩
  exact e _ _ _ S R' (rv.kp (S.kp R))
end
theorem OpR.or3 {X : Cx} {f : Value → Value → Sem Value} {a b c : R2} (ha : OpR X f a) (hb : OpR X f b) (hc : OpR X f c) : OpR X f (fun x y H Q => a x y H Q ∨ b x y H Q ∨ c x y H Q) := ha.or (hb.or hc)
theorem big_sum {a b : Nat} (h : a + b ≤ 10000000) : a + b ≤ sizeLine := big_line h

/-! ### + -/
def addM (x y : MV) : M MV := fun h => match x, y with
  | .int i, .int j => .ok (.int (i + j)) h
  | .str a, .str b => if a.length + b.length ≤ sizeLine then .ok (.str (a ++ b)) h else .stuck
  | .tup xs, .tup ys => if xs.length + ys.length ≤ 10000000 then .ok (.tup (xs ++ ys)) h else .stuck
  | .ref a, .ref b => match h[a]?, h[b]? with
    | some (.lst xs), some (.lst ys) => if xs.length + ys.length ≤ 10000000 then .ok (.ref h.length) (h ++ [.lst (xs ++ ys)]) else .stuck
    | _, _ => .stuck
  | _, _ => .stuck
def rAddA (K : PySem.W.Frag) : R2 := fun x y H Q => (∃ i j, x = .int i ∧ y = .int j ∧ Q (.int (i + j)) H) ∨ (∃ i j, x = .str i ∧ y = .str j ∧ i.length + j.length ≤ sizeLine ∧ Q (.str (i ++ j)) H) ∨ rCatA K x y H Q ∨ rCat x y H Q
theorem op_addA {X : Cx} : OpR X (binaryOp .Add) (rAddA X.K) := op_add.or (op_add_str.or (op_catA.or op_cat))
theorem ref_add {T : Tb} : Ref2 T (rAddA T.K) addM := by
  intro as H h W σ x y U V Q R rx ry e
  unfold addM at e
  split at e
  · rw [rep_int rx, rep_int ry]
    exact .inl ⟨_, _, rfl, rfl, e.int R⟩
  · split at e
    · rename_i hl
      rw [rep_str rx, rep_str ry]
      exact .inr (.inl ⟨_, _, rfl, rfl, hl, e.str R⟩)
    · exact e.elim
  · rename_i xs ys
    split at e
    · rename_i hl
      obtain ⟨a, vs, rfl, q, l⟩ := rep_tup rx
      obtain ⟨b, ws, rfl, q2, l2⟩ := rep_tup ry
      refine .inr (.inr (.inl ⟨a, b, vs, ws, rfl, rfl, q, q2, by rw [← l.length, ← l2.length]; exact big_line hl, fun z => ?_, fun _ z => ?_, fun _ _ => e.tup R (l.app l2)⟩))
      · refine e.done R ?_
        have hx : xs = [] := by
          have := l.length
          rw [z] at this
          exact List.eq_nil_of_length_eq_zero this
        subst hx
        unfold RepV
        exact ⟨b, ws, rfl, q2, l2⟩
      · refine e.done R ?_
        have hy : ys = [] := by
          have := l2.length
          rw [z] at this
          exact List.eq_nil_of_length_eq_zero this
        subst hy
        rw [List.append_nil]
        unfold RepV
        exact ⟨a, vs, rfl, q, l⟩
    · exact e.elim
  · split at e
    · split at e
      · rename_i h1 h2 hl
        obtain ⟨a, vs, ha, rfl, q, l⟩ := rep_lst R h1 rx
        obtain ⟨b, ws, hb, rfl, q2, l2⟩ := rep_lst R h2 ry
        exact .inr (.inr (.inr ⟨a, b, vs, ws, rfl, rfl, q, q2, by rw [← l.length, ← l2.length]; exact big_line hl, e.lst R (l.app l2)⟩))
      · exact e.elim
    · exact e.elim
  · exact e.elim

/-! ### numbers -/
def intM (f : Int → Int → M MV) (x y : MV) : M MV := fun h => match x, y with
  | .int i, .int j => f i j h
  | _, _ => .stuck
def subM := intM fun i j h => .ok (.int (i - j)) h
theorem ref_sub {T : Tb} : Ref2 T (rI0 fun i j => .int (i - j)) subM := by
  intro as H h W σ x y U V Q R rx ry e
  unfold subM intM at e
  split at e
  · rw [rep_int rx, rep_int ry]
    exact ⟨_, _, rfl, rfl, e.int R⟩
  · exact e.elim
/-- bits of a number -/
def bitsOk (i j : Int) : Bool := decide (i.natAbs < 2 ^ 40000000) && decide (j.natAbs < 2 ^ 40000000)
def mulM (x y : MV) : M MV := fun h => match x, y with
  | .int i, .int j => if i.natAbs.log2 + j.natAbs.log2 < 1000000 then .ok (.int (i * j)) h else .stuck
  | .ref a, .int k => match h[a]? with
    | some (.lst xs) => if k < 10000000 ∧ -10000000 < k ∧ xs.length * k.toNat ≤ 10000000 then .ok (.ref h.length) (h ++ [.lst (List.replicate k.toNat xs).flatten]) else .stuck
    | _ => .stuck
  | _, _ => .stuck
def rMulA : R2 := fun x y H Q => (∃ i j, x = .int i ∧ y = .int j ∧ CMulW i j ∧ Q (.int (i * j)) H) ∨ rRep x y H Q
theorem op_mulA {X : Cx} : OpR X (binaryOp .Mult) rMulA := op_mulW.or op_rep
theorem RepL.rep {T : Tb} {as : List Addr} {H : Hp} {xs : List MV} {U : List V} (r : RepL T as H xs U) : ∀ k : Nat, RepL T as H (List.replicate k xs).flatten (List.replicate k U).flatten
  | 0 => RepL.nil
  | k + 1 => by
    rw [List.replicate_succ, List.replicate_succ, List.flatten_cons, List.flatten_cons]
    exact RepL.app r (RepL.rep r k)
theorem ref_mul {T : Tb} : Ref2 T rMulA mulM := by
  intro as H h W σ x y U V Q R rx ry e
  unfold mulM at e
  split at e
  · split at e
    · rename_i hc
      rw [rep_int rx, rep_int ry]
      exact .inl ⟨_, _, rfl, rfl, hc, e.int R⟩
    · exact e.elim
  · split at e
    · split at e
      · rename_i h1 hl
        obtain ⟨a, vs, ha, rfl, q, l⟩ := rep_lst R h1 rx
        rw [rep_int ry]
        refine .inr ⟨a, _, vs, rfl, rfl, q, by omega, by omega, by rw [← l.length]; exact big_line hl.2.2, e.lst R (l.rep _)⟩
      · exact e.elim
    · exact e.elim
  · exact e.elim
def divM := intM fun i j h => if 0 < j ∧ j.natAbs.log2 < 9000 then .ok (.int (i / j)) h else .stuck
theorem ref_div {T : Tb} : Ref2 T (rI CDivW fun i j => .int (i / j)) divM := by
  intro as H h W σ x y U V Q R rx ry e
  unfold divM intM at e
  split at e
  · dsimp only at e
    split at e
    · rename_i hc
      rw [rep_int rx, rep_int ry]
      exact ⟨_, _, rfl, rfl, hc, e.int R⟩
    · exact e.elim
  · exact e.elim
def modM := intM fun i j h => if 0 < j then .ok (.int (i % j)) h else .stuck
theorem ref_mod {T : Tb} : Ref2 T (rI (fun _ j => 0 < j) fun i j => .int (i % j)) modM := by
  intro as H h W σ x y U V Q R rx ry e
  unfold modM intM at e
  split at e
  · dsimp only at e
    split at e
    · rename_i hc
      rw [rep_int rx, rep_int ry]
      exact ⟨_, _, rfl, rfl, hc, e.int R⟩
    · exact e.elim
  · exact e.elim
def powM := intM fun i j h => if 0 ≤ j ∧ j ≤ 1000000 ∧ i.natAbs < 2 ^ 64 then .ok (.int (i ^ j.toNat)) h else .stuck
theorem ref_pow {T : Tb} : Ref2 T (rI CPow fun i j => .int (i ^ j.toNat)) powM := by
  intro as H h W σ x y U V Q R rx ry e
  unfold powM intM at e
  split at e
  · dsimp only at e
    split at e
    · rename_i hc
      rw [rep_int rx, rep_int ry]
      exact ⟨_, _, rfl, rfl, hc, e.int R⟩
    · exact e.elim
  · exact e.elim
def cmpM (p : Int → Int → Bool) := intM fun i j h => .ok (.bl (p i j)) h
theorem ref_cmp {T : Tb} {p : Int → Int → Bool} : Ref2 T (rI0 fun i j => .bl (p i j)) (cmpM p) := by
  intro as H h W σ x y U V Q R rx ry e
  unfold cmpM intM at e
  split at e
  · rw [rep_int rx, rep_int ry]
    exact ⟨_, _, rfl, rfl, e.bl R⟩
  · exact e.elim
abbrev ltM := cmpM fun i j => decide (i < j)
abbrev leM := cmpM fun i j => decide (i ≤ j)
abbrev gtM := cmpM fun i j => decide (j < i)
abbrev geM := cmpM fun i j => decide (j ≤ i)
def negM (x : MV) : M MV := fun h => match x with
  | .int i => .ok (.int (-i)) h
  | _ => .stuck
theorem ref_neg {T : Tb} : Ref1 T (rU fun i => .int (-i)) negM := by
  intro as H h W σ x U Q R rx e
  unfold negM at e
  split at e
  · rw [rep_int rx]
    exact ⟨_, rfl, e.int R⟩
  · exact e.elim
/-- is None, is not None -/
def isNon : MV → Bool
  | .non => true
  | _ => false
def isNonM (x y : MV) : M MV := fun h => match y with
  | .non => .ok (.bl (isNon x)) h
  | _ => .stuck
def notNonM (x y : MV) : M MV := fun h => match y with
  | .non => .ok (.bl (!isNon x)) h
  | _ => .stuck
theorem rep_is_non {T : Tb} {as : List Addr} {H : Hp} {x : MV} {U : V} (r : RepV T as H x U) : decide (U = .non) = isNon x := by
  cases x with
  | non => rw [rep_non r]; rfl
  | bl b => rw [rep_bl r]; rfl
  | int b => rw [rep_int r]; rfl
  | str b => rw [rep_str r]; rfl
  | ty n => unfold RepV at r; rw [r]; rfl
  | gl n => unfold RepV at r; rw [r]; rfl
  | ref n => obtain ⟨a, _, rfl⟩ := rep_ref r; rfl
  | tup xs => obtain ⟨a, _, rfl, _⟩ := rep_tup r; rfl
  | flst xs => obtain ⟨a, _, rfl, _⟩ := rep_flst r; rfl
theorem ref_isN {T : Tb} : Ref2 T (fun x y H Q => y = .non ∧ Q (.bl (decide (x = .non))) H) isNonM := by
  intro as H h W σ x y U V Q R rx ry e
  unfold isNonM at e
  split at e
  · refine ⟨rep_non ry, ?_⟩
    rw [rep_is_non rx]
    exact e.bl R
  · exact e.elim
theorem ref_notN {T : Tb} : Ref2 T (fun x y H Q => y = .non ∧ Q (.bl (!decide (x = .non))) H) notNonM := by
  intro as H h W σ x y U V Q R rx ry e
  unfold notNonM at e
  split at e
  · refine ⟨rep_non ry, ?_⟩
    rw [rep_is_non rx]
    exact e.bl R
  · exact e.elim

/-! ### data: == and repr -/
def allD {α β : Type} (f : α → Option β) : List α → Option (List β)
  | [] => some []
  | x :: xs => match f x, allD f xs with
    | some y, some ys => some (y :: ys)
    | _, _ => none
def toD (h : Hm) : Nat → MV → Option PyData
  | 0, _ => none
  | _ + 1, .non => some .none
  | _ + 1, .bl b => some (.bool b)
  | _ + 1, .int i => some (.int i)
  | _ + 1, .str x => some (.str x)
  | n + 1, .tup xs => (allD (toD h n) xs).map .tuple
  | n + 1, .flst xs => (allD (toD h n) xs).map .list
  | n + 1, .ref a => match h[a]? with
    | some (.lst xs) => (allD (toD h n) xs).map .list
    | _ => none
  | _ + 1, _ => none
section
variable {T : Tb} {as : List Addr} {H : Hp} {h : Hm}
theorem allD_dp {f : MV → Option PyData} (k : ∀ x d U, f x = some d → RepV T as H x U → Dp T.K H U d) : ∀ {xs : List MV} {ds : List PyData} {U : List V}, allD f xs = some ds → RepL T as H xs U → DpAll T.K H U ds
  | [], ds, U, e, r => by
    unfold allD at e; cases e
    unfold RepL at r; rw [r]; exact .nil
  | x :: xs, ds, U, e, r => by
    unfold RepL at r
    obtain ⟨v, q, rfl, r1, r2⟩ := r
    unfold allD at e
    split at e
    · rename_i y ys h1 h2
      cases e
      exact .cons (k _ _ _ h1 r1) (allD_dp k h2 r2)
    · cases e
theorem toD_dp (R : Rst T as H h) : ∀ (n : Nat) {x : MV} {d : PyData} {U : V}, toD h n x = some d → RepV T as H x U → Dp T.K H U d
  | 0, _, _, _, e, _ => by cases e
  | n + 1, x, d, U, e, r => by
    cases x with
    | non => cases e; rw [rep_non r]; exact .non
    | bl b => cases e; rw [rep_bl r]; exact .bl b
    | int b => cases e; rw [rep_int r]; exact .int b
    | str b => cases e; rw [rep_str r]; exact .str b
    | ty n => cases e
    | gl n => cases e
    | tup xs =>
      unfold toD at e
      obtain ⟨a, vs, rfl, q, l⟩ := rep_tup r
      cases z : allD (toD h n) xs with
      | none => rw [z] at e; cases e
      | some ds => rw [z] at e; cases e; exact .tup q (allD_dp (fun x d U e r => toD_dp R n e r) z l)
    | flst xs =>
      unfold toD at e
      obtain ⟨a, vs, rfl, q, l⟩ := rep_flst r
      cases z : allD (toD h n) xs with
      | none => rw [z] at e; cases e
      | some ds => rw [z] at e; cases e; exact .lst q.sq (allD_dp (fun x d U e r => toD_dp R n e r) z l)
    | ref b =>
      unfold toD at e
      split at e
      · rename_i xs ho
        obtain ⟨a, vs, ha, rfl, q, l⟩ := rep_lst R ho r
        cases z : allD (toD h n) xs with
        | none => rw [z] at e; cases e
        | some ds => rw [z] at e; cases e; exact .lst (SqL.of q) (allD_dp (fun x d U e r => toD_dp R n e r) z l)
      · cases e
end
/-- nestings that are looked through -/
def deep : Nat := 20
def eqM (x y : MV) : M MV := fun h => match toD h deep x, toD h deep y with
  | some d, some e => if SeqAt.shaped d = true ∧ SeqAt.shaped e = true then .ok (.bl (PyData.eqv d e)) h else .stuck
  | _, _ => .stuck
def neM (x y : MV) : M MV := fun h => match toD h deep x, toD h deep y with
  | some d, some e => if SeqAt.shaped d = true ∧ SeqAt.shaped e = true then .ok (.bl (!PyData.eqv d e)) h else .stuck
  | _, _ => .stuck
theorem ref_eq {T : Tb} : Ref2 T (rEqD T.K) eqM := by
  intro as H h W σ x y U V Q R rx ry e
  unfold eqM at e
  split at e
  · split at e
    · rename_i h1 h2 hs
      exact ⟨_, _, toD_dp R _ h1 rx, toD_dp R _ h2 ry, hs.1, hs.2, e.bl R⟩
    · exact e.elim
  · exact e.elim
theorem ref_ne {T : Tb} : Ref2 T (rNeD T.K) neM := by
  intro as H h W σ x y U V Q R rx ry e
  unfold neM at e
  split at e
  · split at e
    · rename_i h1 h2 hs
      exact ⟨_, _, toD_dp R _ h1 rx, toD_dp R _ h2 ry, hs.1, hs.2, e.bl R⟩
    · exact e.elim
  · exact e.elim
def rReprD (K : PySem.W.Frag) : List V → Hp → VK → Prop := fun xs H Q => ∃ x a d, xs = [x] ∧ x = .ref a ∧ Dp K H x d ∧ d.showable = true ∧ d.hasDict = false ∧ d.depth ≤ 60 ∧ d.shown.length ≤ sizeLine ∧ Q (.str d.shown) H
theorem call_reprD {X : Cx} (hg : X.A.guards = some []) (hu : X.A.units + 64 < cLine) : CallR X (.builtin "repr") (rReprD X.K) := by
  intro pins s σ H xs us Q I r h
  obtain ⟨x, a, d, rfl, rfl, hd, hs, hn, hdp, hz, q⟩ := h
  obtain ⟨u, rfl, ru⟩ := vals1 r
  obtain ⟨as, rd⟩ := hd.reads I _ _ _ ru
  cases ru
  refine repr_of_reads' rd hs (fun z => by rw [hn] at z; cases z) hg (by omega) (fun _ _ e => e) (fun h' u tk k => ?_) hz
  exact ⟨.str _, H, I.kept k, ⟨_, rfl⟩, q⟩
def reprM (xs : List MV) : M MV := fun h => match xs with
  | [x] => match x with
    | .ref _ | .tup _ => match toD h deep x with
      | some d => if d.showable = true ∧ d.hasDict = false ∧ d.depth ≤ 60 ∧ d.shown.length ≤ sizeLine then .ok (.str d.shown) h else .stuck
      | none => .stuck
    | .int i => if i.natAbs.log2 < 1920 then .ok (.str (toString i)) h else .stuck
    | _ => .stuck
  | _ => .stuck
def rReprA (K : PySem.W.Frag) : List V → Hp → VK → Prop := fun xs H Q => rReprD K xs H Q ∨ ∃ i, xs = [.int i] ∧ i.natAbs.log2 < 1920 ∧ Q (.str (toString i)) H
theorem call_reprA {X : Cx} (hg : X.A.guards = some []) (hu : X.A.units + 64 < cLine) : CallR X (.builtin "repr") (rReprA X.K) := (call_reprD hg hu).or SkE.call_repr_int
theorem ref_repr {T : Tb} : RefC T (rReprA T.K) reprM := by
  intro as H h W σ x U Q R rx e
  unfold reprM at e
  split at e
  · rename_i x
    obtain ⟨u, rfl, r⟩ := repL_one rx
    have go : ∀ (z : ∃ a, u = .ref a), EndG (RepV T) T as H W σ (match toD h deep x with
      | some d => if d.showable = true ∧ d.hasDict = false ∧ d.depth ≤ 60 ∧ d.shown.length ≤ sizeLine then .ok (.str d.shown) h else .stuck
      | none => .stuck) Q → rReprA T.K [u] H Q := by
      rintro ⟨a, rfl⟩ e
      split at e
      · rename_i d hd
        split at e
        · rename_i hc
          exact .inl ⟨_, a, d, rfl, rfl, toD_dp R _ hd r, hc.1, hc.2.1, hc.2.2.1, hc.2.2.2, e.str R⟩
        · exact e.elim
      · exact e.elim
    split at e
    · obtain ⟨a, _, z⟩ := rep_ref r
      exact go ⟨a, z⟩ e
    · obtain ⟨a, _, z, _⟩ := rep_tup r
      exact go ⟨a, z⟩ e
    · split at e
      · rename_i hc
        rw [rep_int r]
        exact .inr ⟨_, rfl, hc, e.str R⟩
      · exact e.elim
    · exact e.elim
  · exact e.elim

/-! ### items and slices -/
/-- the place i of n, from the end if i is below 0 -/
def getAt {α : Type} (xs : List α) (i : Int) : Option α := atI xs i
def ixM (x y : MV) : M MV := fun h => match y with
  | .int i => match x with
    | .tup xs => match getAt xs i with
      | some v => .ok v h
      | none => .stuck
    | .flst xs => match getAt xs i with
      | some v => .ok v h
      | none => .stuck
    | .ref a => match h[a]? with
      | some (.lst xs) => match getAt xs i with
        | some v => .ok v h
        | none => .stuck
      | _ => .stuck
    | .str z => if z.length ≤ sizeLine then match getAt z.cps.toList i with
        | some c => .ok (.str ⟨#[c]⟩) h
        | none => .stuck
      else .stuck
    | _ => .stuck
  | _ => .stuck
theorem RepL.atI {T : Tb} {as : List Addr} {H : Hp} {xs : List MV} {U : List V} (r : RepL T as H xs U) {i : Int} {v : MV} (e : getAt xs i = some v) : ∃ u, L2.atI U i = some u ∧ RepV T as H v u := by
  unfold getAt L2.atI at e
  unfold L2.atI
  rw [← r.length]
  cases z : ixN xs.length i with
  | none => rw [z] at e; cases e
  | some j =>
    rw [z] at e
    exact r.get e
theorem ref_ix {T : Tb} : Ref2 T (rIx T.K) ixM := by
  intro as H h W σ x y U V Q R rx ry e
  unfold ixM at e
  split at e
  · rw [rep_int ry]
    split at e
    · split at e
      · rename_i hv
        obtain ⟨a, vs, rfl, q, l⟩ := rep_tup rx
        obtain ⟨u, hu, ru⟩ := l.atI hv
        exact .inr (.inl ⟨a, vs, _, u, rfl, rfl, q, hu, e.done R ru⟩)
      · exact e.elim
    · split at e
      · rename_i hv
        obtain ⟨a, vs, rfl, q, l⟩ := rep_flst rx
        obtain ⟨u, hu, ru⟩ := l.atI hv
        exact .inl ⟨a, vs, _, u, rfl, rfl, q.sq, hu, e.done R ru⟩
      · exact e.elim
    · split at e
      · rename_i ho
        split at e
        · rename_i hv
          obtain ⟨a, vs, ha, rfl, q, l⟩ := rep_lst R ho rx
          obtain ⟨u, hu, ru⟩ := l.atI hv
          exact .inl ⟨a, vs, _, u, rfl, rfl, SqL.of q, hu, e.done R ru⟩
        · exact e.elim
      · exact e.elim
    · split at e
      · rename_i hz
        split at e
        · rename_i hv
          rw [rep_str rx]
          exact .inr (.inr ⟨_, _, _, rfl, rfl, hz, hv, e.str R⟩)
        · exact e.elim
      · exact e.elim
    · exact e.elim
  · exact e.elim
theorem pm_ix {X : Cx} {T : Tb} {W : WX} {pos : Pos} {a b : Expr} {ma mb : En → M MV} {r : R2} {f : MV → MV → M MV} (hr : IxR X r) (hf : Ref2 T r f) (ha : PE X a (rdE T W ma)) (hb : PE X b (rdE T W mb)) (hs : PlainIx b) : PE X (.Subscript a b pos) (rdE T W (mOp f ma mb)) :=
  pe_mono (pe_ix hr ha hb hs) fun _ _ _ q => op_run hf q
/-- slices with two bounds -/
def cutM {α : Type} (xs : List α) (lo hi : Option Int) : List α := (xs.drop (HT.sIx xs.length 0 lo)).take (HT.sIx xs.length xs.length hi - HT.sIx xs.length 0 lo)
abbrev rdO (T : Tb) (W : WX) (m : En → M (Option Int)) : TO := rdG (fun _ _ a b => a = b) T W m
def mNoPart : En → M (Option Int) := fun _ h => .ok none h
def mPart (m : En → M MV) : En → M (Option Int) := fun ρ h => (m ρ h).bind fun v h1 => match v with
  | .int i => .ok (some i) h1
  | _ => .stuck
def slM (v : MV) (lo hi : Option Int) : M MV := fun h => match v with
  | .tup xs => .ok (.tup (cutM xs lo hi)) h
  | .flst xs => .ok (.ref h.length) (h ++ [.lst (cutM xs lo hi)])
  | .ref a => match h[a]? with
    | some (.lst xs) => .ok (.ref h.length) (h ++ [.lst (cutM xs lo hi)])
    | _ => .stuck
  | _ => .stuck
def mSlice (m : En → M MV) (l u : En → M (Option Int)) : En → M MV := fun ρ h => (m ρ h).bind fun v h1 => (l ρ h1).bind fun lo h2 => (u ρ h2).bind fun hi h3 => slM v lo hi h3
def rSlA2 (K : PySem.W.Frag) : V → Option Int → Option Int → Hp → VK → Prop := fun x lo hi H Q => rSlL K x lo hi H Q ∨ rSlA K x lo hi H Q
theorem RepL.cut {T : Tb} {as : List Addr} {H : Hp} {xs : List MV} {U : List V} (r : RepL T as H xs U) (lo hi : Option Int) : RepL T as H (cutM xs lo hi) (cutV U lo hi) := by
  unfold cutM cutV
  rw [← r.length]
  exact (r.drop _).take _
section
variable {X : Cx} {T : Tb} {W : WX} {pos p2 : Pos} {e : Expr} {m : En → M MV}
theorem po_mono {o : Option Expr} {t t' : TO} (p : PO X o t) (k : ∀ σ H Q, t' σ H Q → t σ H Q) : PO X o t' := ⟨fun pins s σ H Q I q => p.run pins s σ H Q I (k _ _ _ q)⟩
theorem pom_none : PO X none (rdO T W mNoPart) := po_mono po_none fun σ H Q ⟨as, h, ρ, R, E, e⟩ => e.done R rfl
theorem pom_some (he : PE X e (rdE T W m)) : PO X (some e) (rdO T W (mPart m)) := po_mono (po_some he) fun σ H Q ⟨as, h, ρ, R, E, e⟩ => (EndG.bind R E e).mono fun x H1 ⟨as1, h1, v, B, e1⟩ => by
  cases v with
  | int i =>
    rw [rep_int B.r]
    exact ⟨i, rfl, EndG.done e1 B.R rfl⟩
  | _ => exact e1.elim
theorem pm_slice {lo hi : Option Expr} {l u : En → M (Option Int)} (hK : X.K = T.K) (he : PE X e (rdE T W m)) (hl : PO X lo (rdO T W l)) (hu : PO X hi (rdO T W u)) : PE X (.Subscript e (.Slice lo hi none p2) pos) (rdE T W (mSlice m l u)) :=
  pe_mono (pe_slice (r := rSlA2 X.K) (sl_list.or sl_tupA) he hl hu) fun σ H Q ⟨as, h, ρ, R, E, e⟩ => by
    refine (EndG.bind R E e).mono fun x H1 ⟨as1, h1, v, B, e1⟩ => ?_
    refine (EndG.bind B.R B.E e1).mono fun l H2 ⟨as2, h2, l', B2, e2⟩ => ?_
    have r2 := B2.r
    subst r2
    refine (EndG.bind B2.R B2.E e2).mono fun u H3 ⟨as3, h3, u', B3, e3⟩ => ?_
    have r3 := B3.r
    subst r3
    have r := (B.r.kp (B2.S.kp B.R)).kp (B3.S.kp B2.R)
    rw [hK]
    cases v with
    | tup xs =>
      obtain ⟨a, vs, rfl, q, l⟩ := rep_tup r
      refine .inr ⟨a, vs, rfl, q, fun z => ?_, fun _ => EndG.tup e3 B3.R (l.cut _ _)⟩
      refine EndG.done e3 B3.R ?_
      unfold RepV
      refine ⟨a, vs, rfl, q, ?_⟩
      have c : cutM xs l' u' = xs := by
        unfold cutM
        rw [l.length, z.1, z.2, List.drop_zero, Nat.sub_zero, ← l.length, List.take_length]
      rw [c]
      exact l
    | flst xs =>
      obtain ⟨a, vs, rfl, q, l⟩ := rep_flst r
      exact .inl ⟨a, vs, rfl, q.sq, EndG.lst e3 B3.R (l.cut _ _)⟩
    | ref b =>
      unfold slM at e3
      dsimp only at e3
      split at e3
      · rename_i ho
        obtain ⟨a, vs, ha, rfl, q, l⟩ := rep_lst B3.R ho r
        exact .inl ⟨a, vs, rfl, SqL.of q, e3.lst B3.R (l.cut _ _)⟩
      · exact e3.elim
    | _ => exact e3.elim
end

/-! ### built-in functions -/
def lenOf (x : MV) (h : Hm) : Option Nat := match x with
  | .tup xs => some xs.length
  | .flst xs => some xs.length
  | .str z => if z.length ≤ sizeLine then some z.length else none
  | .ref a => match h[a]? with
    | some (.lst xs) => some xs.length
    | _ => none
  | _ => none
def lenM (xs : List MV) : M MV := fun h => match xs with
  | [x] => match lenOf x h with
    | some n => .ok (.int n) h
    | none => .stuck
  | _ => .stuck
theorem ref_len {T : Tb} : RefC T (fun xs H Q => ∃ x n, xs = [x] ∧ LenV T.K x H n ∧ Q (.int n) H) lenM := by
  intro as H h W σ x U Q R rx e
  unfold lenM at e
  split at e
  · rename_i x
    obtain ⟨u, rfl, r⟩ := repL_one rx
    split at e
    · rename_i n hn
      refine ⟨u, n, rfl, ?_, e.int R⟩
      unfold lenOf at hn
      split at hn
      · cases hn
        obtain ⟨a, vs, rfl, q, l⟩ := rep_tup r
        exact .inr ⟨vs, q, l.length⟩
      · cases hn
        obtain ⟨a, vs, rfl, q, l⟩ := rep_flst r
        exact .inl ⟨vs, q.sq, l.length⟩
      · split at hn
        · rename_i hz
          cases hn
          rw [rep_str r]
          exact ⟨hz, rfl⟩
        · cases hn
      · split at hn
        · rename_i ho
          cases hn
          obtain ⟨a, vs, ha, rfl, q, l⟩ := rep_lst R ho r
          exact .inl ⟨vs, SqL.of q, l.length⟩
        · cases hn
      · cases hn
    · exact e.elim
  · exact e.elim
def absM (xs : List MV) : M MV := fun h => match xs with
  | [.int i] => .ok (.int (if i < 0 then -i else i)) h
  | _ => .stuck
theorem ref_abs {T : Tb} : RefC T (fun xs H Q => ∃ i, xs = [.int i] ∧ Q (.int (if i < 0 then -i else i)) H) absM := by
  intro as H h W σ x U Q R rx e
  unfold absM at e
  split at e
  · obtain ⟨u, rfl, r⟩ := repL_one rx
    rw [rep_int r]
    exact ⟨_, rfl, e.int R⟩
  · exact e.elim
/-- the greatest, the least of some -/
def topOf : Int → List Int → Int
  | m, [] => m
  | m, x :: xs => topOf (if x > m then x else m) xs
def lowOf : Int → List Int → Int
  | m, [] => m
  | m, x :: xs => lowOf (if x < m then x else m) xs
theorem topOf_ge : ∀ (xs : List Int) (m : Int), m ≤ topOf m xs ∧ (∀ y ∈ xs, y ≤ topOf m xs) ∧ (topOf m xs = m ∨ topOf m xs ∈ xs)
  | [], m => ⟨Int.le_refl _, by simp, .inl rfl⟩
  | x :: xs, m => by
    unfold topOf
    have hg : ∀ g, g = (if x > m then x else m) → m ≤ g ∧ x ≤ g ∧ (g = m ∨ g = x) := fun g e => by
      by_cases hc : x > m
      · rw [if_pos hc] at e; omega
      · rw [if_neg hc] at e; omega
    generalize (if x > m then x else m) = g at hg
    obtain ⟨g1, g2, g3⟩ := hg g rfl
    obtain ⟨h1, h2, h3⟩ := topOf_ge xs g
    refine ⟨by omega, fun y hy => ?_, ?_⟩
    · rcases List.mem_cons.mp hy with rfl | hy
      · omega
      · exact h2 y hy
    · rcases h3 with h3 | h3
      · rcases g3 with g3 | g3
        · exact .inl (by omega)
        · exact .inr (by rw [h3, g3]; simp)
      · exact .inr (List.mem_cons_of_mem _ h3)
theorem lowOf_le : ∀ (xs : List Int) (m : Int), lowOf m xs ≤ m ∧ (∀ y ∈ xs, lowOf m xs ≤ y) ∧ (lowOf m xs = m ∨ lowOf m xs ∈ xs)
  | [], m => ⟨Int.le_refl _, by simp, .inl rfl⟩
  | x :: xs, m => by
    unfold lowOf
    have hg : ∀ g, g = (if x < m then x else m) → g ≤ m ∧ g ≤ x ∧ (g = m ∨ g = x) := fun g e => by
      by_cases hc : x < m
      · rw [if_pos hc] at e; omega
      · rw [if_neg hc] at e; omega
    generalize (if x < m then x else m) = g at hg
    obtain ⟨g1, g2, g3⟩ := hg g rfl
    obtain ⟨h1, h2, h3⟩ := lowOf_le xs g
    refine ⟨by omega, fun y hy => ?_, ?_⟩
    · rcases List.mem_cons.mp hy with rfl | hy
      · omega
      · exact h2 y hy
    · rcases h3 with h3 | h3
      · rcases g3 with g3 | g3
        · exact .inl (by omega)
        · exact .inr (by rw [h3, g3]; simp)
      · exact .inr (List.mem_cons_of_mem _ h3)
/-- a list of ints, of bools -/
def intOf : MV → Option Int
  | .int i => some i
  | _ => none
def blOf : MV → Option Bool
  | .bl i => some i
  | _ => none
theorem allD_ints : ∀ {xs : List MV} {ns : List Int}, allD intOf xs = some ns → xs = ns.map MV.int
  | [], ns, e => by unfold allD at e; cases e; rfl
  | x :: xs, ns, e => by
    unfold allD at e
    split at e
    · rename_i y ys h1 h2
      cases e
      rw [allD_ints h2]
      cases x <;> simp_all [intOf]
    · cases e
theorem allD_bls : ∀ {xs : List MV} {ns : List Bool}, allD blOf xs = some ns → xs = ns.map MV.bl
  | [], ns, e => by unfold allD at e; cases e; rfl
  | x :: xs, ns, e => by
    unfold allD at e
    split at e
    · rename_i y ys h1 h2
      cases e
      rw [allD_bls h2]
      cases x <;> simp_all [blOf]
    · cases e
theorem RepL.bls {T : Tb} {as : List Addr} {H : Hp} : ∀ {ns : List Bool} {v : List V}, RepL T as H (ns.map MV.bl) v → v = ns.map V.bl
  | [], _, r => by
    have r' : RepL T as H [] _ := r
    unfold RepL at r'; rw [r']; rfl
  | n :: ns, _, r => by
    have r' : RepL T as H (.bl n :: ns.map MV.bl) _ := r
    unfold RepL at r'
    obtain ⟨v, l, rfl, r1, r2⟩ := r'
    rw [RepL.bls r2, rep_bl r1]; rfl
/-- the items of a list -/
def lstOf (x : MV) (h : Hm) : Option (List MV) := match x with
  | .flst xs => some xs
  | .ref a => match h[a]? with
    | some (.lst xs) => some xs
    | _ => none
  | _ => none
theorem lstOf_rep {T : Tb} {as : List Addr} {H : Hp} {h : Hm} {x : MV} {U : V} {xs : List MV} (R : Rst T as H h) (e : lstOf x h = some xs) (r : RepV T as H x U) : ∃ a vs, U = .ref a ∧ SqL T.K H a vs ∧ RepL T as H xs vs := by
  unfold lstOf at e
  split at e
  · cases e
    obtain ⟨a, vs, rfl, q, l⟩ := rep_flst r
    exact ⟨a, vs, rfl, q.sq, l⟩
  · split at e
    · rename_i ho
      cases e
      obtain ⟨a, vs, ha, rfl, q, l⟩ := rep_lst R ho r
      exact ⟨a, vs, rfl, SqL.of q, l⟩
    · cases e
  · cases e
/-- a function of a list of ints, .. -/
def intsF (f : List Int → M MV) (xs : List MV) : M MV := fun h => match xs with
  | [x] => match (lstOf x h).bind (allD intOf) with
    | some ns => f ns h
    | none => .stuck
  | _ => .stuck
theorem intsF_run {T : Tb} {as : List Addr} {H : Hp} {h : Hm} {W : WX} {σ : St} {f : List Int → M MV} {xs : List MV} {U : List V} {Q : VK} (R : Rst T as H h) (r : RepL T as H xs U) (e : EndG (RepV T) T as H W σ (intsF f xs h) Q) :
    ∃ a ns, U = [.ref a] ∧ SqL T.K H a (ns.map V.int) ∧ EndG (RepV T) T as H W σ (f ns h) Q := by
  unfold intsF at e
  split at e
  · rename_i x
    obtain ⟨u, rfl, r1⟩ := repL_one r
    split at e
    · rename_i ns hn
      cases z : lstOf x h with
      | none => rw [z] at hn; cases hn
      | some ys =>
        rw [z] at hn
        have z2 := allD_ints (show allD intOf ys = some ns from hn)
        subst z2
        obtain ⟨a, vs, rfl, q, l⟩ := lstOf_rep R z r1
        rw [l.ints] at q
        exact ⟨a, ns, rfl, q, e⟩
    · exact e.elim
  · exact e.elim
def sumM := intsF fun ns h => .ok (.int ns.sum) h
theorem ref_sum {T : Tb} : RefC T (rSum T.K) sumM := by
  intro as H h W σ x U Q R rx e
  obtain ⟨a, ns, rfl, q, e⟩ := intsF_run R rx e
  exact ⟨a, ns, rfl, q, e.int R⟩
def maxLM := intsF fun ns h => match ns with
  | [] => .stuck
  | n :: r => .ok (.int (topOf n r)) h
theorem ref_maxL {T : Tb} : RefC T (rMax T.K) maxLM := by
  intro as H h W σ x U Q R rx e
  obtain ⟨a, ns, rfl, q, e⟩ := intsF_run R rx e
  cases ns with
  | nil => exact e.elim
  | cons n r =>
    refine ⟨a, n :: r, rfl, q, by simp, fun m hm hx => ?_⟩
    obtain ⟨h1, h2, h3⟩ := topOf_ge r n
    have : m = topOf n r := by
      have a1 : m ≤ topOf n r := by
        rcases List.mem_cons.mp hm with rfl | hm
        · exact h1
        · exact h2 m hm
      have a2 : topOf n r ≤ m := by
        rcases h3 with h3 | h3
        · rw [h3]; exact hx n (by simp)
        · exact hx _ (List.mem_cons_of_mem _ h3)
      omega
    rw [this]
    exact e.int R
def minLM := intsF fun ns h => match ns with
  | [] => .stuck
  | n :: r => .ok (.int (lowOf n r)) h
theorem ref_minL {T : Tb} : RefC T (rMin T.K) minLM := by
  intro as H h W σ x U Q R rx e
  obtain ⟨a, ns, rfl, q, e⟩ := intsF_run R rx e
  cases ns with
  | nil => exact e.elim
  | cons n r =>
    refine ⟨a, n :: r, rfl, q, by simp, fun m hm hx => ?_⟩
    obtain ⟨h1, h2, h3⟩ := lowOf_le r n
    have : m = lowOf n r := by
      have a1 : lowOf n r ≤ m := by
        rcases List.mem_cons.mp hm with rfl | hm
        · exact h1
        · exact h2 m hm
      have a2 : m ≤ lowOf n r := by
        rcases h3 with h3 | h3
        · rw [h3]; exact hx n (by simp)
        · exact hx _ (List.mem_cons_of_mem _ h3)
      omega
    rw [this]
    exact e.int R
def max2M (xs : List MV) : M MV := fun h => match xs with
  | [.int i, .int j] => .ok (.int (if j > i then j else i)) h
  | _ => .stuck
def min2M (xs : List MV) : M MV := fun h => match xs with
  | [.int i, .int j] => .ok (.int (if j < i then j else i)) h
  | _ => .stuck
theorem ref_max2 {T : Tb} : RefC T (fun xs H Q => ∃ i j, xs = [.int i, .int j] ∧ Q (.int (if j > i then j else i)) H) max2M := by
  intro as H h W σ x U Q R rx e
  unfold max2M at e
  split at e
  · obtain ⟨u, v, rfl, r1, r2⟩ := repL_two rx
    rw [rep_int r1, rep_int r2]
    exact ⟨_, _, rfl, e.int R⟩
  · exact e.elim
theorem ref_min2 {T : Tb} : RefC T (fun xs H Q => ∃ i j, xs = [.int i, .int j] ∧ Q (.int (if j < i then j else i)) H) min2M := by
  intro as H h W σ x U Q R rx e
  unfold min2M at e
  split at e
  · obtain ⟨u, v, rfl, r1, r2⟩ := repL_two rx
    rw [rep_int r1, rep_int r2]
    exact ⟨_, _, rfl, e.int R⟩
  · exact e.elim
def blsF (f : List Bool → Bool) (xs : List MV) : M MV := fun h => match xs with
  | [x] => match (lstOf x h).bind (allD blOf) with
    | some ns => .ok (.bl (f ns)) h
    | none => .stuck
  | _ => .stuck
abbrev allM := blsF fun bs => bs.all id
abbrev anyM := blsF fun bs => bs.any id
theorem ref_bls {T : Tb} {f : List Bool → Bool} : RefC T (fun vs H Q => ∃ (a : Addr) (bs : List Bool), vs = [V.ref a] ∧ SqL T.K H a (bs.map V.bl) ∧ Q (.bl (f bs)) H) (blsF f) := by
  intro as H h W σ x U Q R rx e
  unfold blsF at e
  split at e
  · rename_i x
    obtain ⟨u, rfl, r⟩ := repL_one rx
    split at e
    · rename_i ns hn
      cases z : lstOf x h with
      | none => rw [z] at hn; cases hn
      | some ys =>
        rw [z] at hn
        have z2 := allD_bls (show allD blOf ys = some ns from hn)
        subst z2
        obtain ⟨a, vs, rfl, q, l⟩ := lstOf_rep R z r
        rw [l.bls] at q
        exact ⟨a, ns, rfl, q, e.bl R⟩
    · exact e.elim
  · exact e.elim
def intCM (xs : List MV) : M MV := fun h => match xs with
  | [.int i] => .ok (.int i) h
  | [.bl b] => .ok (.int (if b then 1 else 0)) h
  | _ => .stuck
theorem ref_intC {T : Tb} : RefC T (fun xs H Q => (∃ i, xs = [.int i] ∧ Q (.int i) H) ∨ ∃ k, xs = [.bl k] ∧ Q (.int (if k then 1 else 0)) H) intCM := by
  intro as H h W σ x U Q R rx e
  unfold intCM at e
  split at e
  · obtain ⟨u, rfl, r⟩ := repL_one rx
    rw [rep_int r]
    exact .inl ⟨_, rfl, e.int R⟩
  · obtain ⟨u, rfl, r⟩ := repL_one rx
    rw [rep_bl r]
    exact .inr ⟨_, rfl, e.int R⟩
  · exact e.elim
def divmodM (xs : List MV) : M MV := fun h => match xs with
  | [.int i, .int j] => if 0 < j ∧ j.natAbs.log2 < 9000 then .ok (.tup [.int (i / j), .int (i % j)]) h else .stuck
  | _ => .stuck
/-- tuple(xs), list(xs) -/
def tupleM (xs : List MV) : M MV := fun h => match xs with
  | [x] => match x with
    | .tup ys => .ok (.tup ys) h
    | _ => match lstOf x h with
      | some ys => .ok (.tup ys) h
      | none => .stuck
  | _ => .stuck
def listM (xs : List MV) : M MV := fun h => match xs with
  | [x] => match x with
    | .tup ys => .ok (.ref h.length) (h ++ [.lst ys])
    | _ => match lstOf x h with
      | some ys => .ok (.ref h.length) (h ++ [.lst ys])
      | none => .stuck
  | _ => .stuck
theorem ref_tuple {T : Tb} : RefC T (fun xs H Q => ∃ p ys, xs = [.ref p] ∧ ((SqL T.K H p ys ∧ ∀ l, H l = none → Q (.ref l) (upd H l (.tup ys))) ∨ (SqT T.K H p ys ∧ Q (.ref p) H))) tupleM := by
  intro as H h W σ x U Q R rx e
  unfold tupleM at e
  split at e
  · rename_i x
    obtain ⟨u, rfl, r⟩ := repL_one rx
    split at e
    · obtain ⟨a, vs, rfl, q, l⟩ := rep_tup r
      refine ⟨a, vs, rfl, .inr ⟨q, e.done R r⟩⟩
    · split at e
      · rename_i ys hy
        obtain ⟨a, vs, rfl, q, l⟩ := lstOf_rep R hy r
        exact ⟨a, vs, rfl, .inl ⟨q, e.tup R l⟩⟩
      · exact e.elim
  · exact e.elim
theorem ref_list {T : Tb} : RefC T (fun xs H Q => ∃ p ys, xs = [.ref p] ∧ (SqL T.K H p ys ∨ SqT T.K H p ys) ∧ ∀ l, H l = none → Q (.ref l) (upd H l (.lst ys))) listM := by
  intro as H h W σ x U Q R rx e
  unfold listM at e
  split at e
  · rename_i x
    obtain ⟨u, rfl, r⟩ := repL_one rx
    split at e
    · obtain ⟨a, vs, rfl, q, l⟩ := rep_tup r
      exact ⟨a, vs, rfl, .inr q, e.lst R l⟩
    · split at e
      · rename_i ys hy
        obtain ⟨a, vs, rfl, q, l⟩ := lstOf_rep R hy r
        exact ⟨a, vs, rfl, .inl q, e.lst R l⟩
      · exact e.elim
  · exact e.elim
end Cutp

/-! CutOps2: more operators and built-in functions of the mirror. -/
namespace Cutp
open PySem PySem.Spec PyProof.Rows L2
abbrev En2 := En

/-! ### t[::-1] of a tuple -/
section
variable {prog : Program} {w : World} {A : Around} {E : Value → Shared → Prop} {s : Shared}
theorem adj_rev (n : Nat) : Builtin.Slice.sliceAdjust none none (-1) (n : Int) = ((n : Int) - 1, -1) := by
  unfold Builtin.Slice.sliceAdjust
  rfl
theorem plc_rev (n : Nat) : Builtin.Slice.slicePlaces ((n : Int) - 1) (-1) (-1) = n := by
  unfold Builtin.Slice.slicePlaces
  rw [if_neg (by decide)]
  by_cases h : (-1 : Int) < (n : Int) - 1
  · rw [if_pos h]
    have e : ((n : Int) - 1 - -1 - 1) / - -1 + 1 = (n : Int) := by
      rw [show (- -1 : Int) = 1 by decide, Int.ediv_one]; omega
    rw [e]; omega
  · rw [if_neg h]; omega
theorem pick_rev (xs : Array Value) : ((List.range xs.size).filterMap fun (m : Nat) => xs[(((xs.size : Int) - 1) + (m : Int) * (-1)).toNat]?) = xs.toList.reverse := by
  obtain ⟨l⟩ := xs
  have key : ∀ (k : Nat) (l : List Value), k ≤ l.length → ((List.range k).filterMap fun (m : Nat) => (l.toArray)[(((l.length : Int) - 1) + (m : Int) * (-1)).toNat]?) = (l.reverse).take k := by
    intro k
    induction k with
    | zero => intro l _; simp
    | succ k ih =>
      intro l hk
      rw [List.range_succ, List.filterMap_append, ih l (by omega)]
      have e : (((l.length : Int) - 1) + (k : Int) * (-1)).toNat = l.length - 1 - k := by omega
      have q : (l.toArray)[l.length - 1 - k]? = some l[l.length - 1 - k] := by simp
      simp only [List.filterMap_cons, List.filterMap_nil, e, q]
      rw [List.take_succ]
      congr 1
      have z : l.reverse[k]? = some l[l.length - 1 - k] := by
        rw [List.getElem?_reverse (by omega)]
        simp
      rw [z]; rfl
  have z := key l.length l (Nat.le_refl _)
  rw [show l.reverse.take l.length = l.reverse by rw [← List.length_reverse, List.take_length]] at z
  exact z
theorem tup_back {t sl : Addr} {items : Array Value} {vl vu vs : Value} {Q : Value → Shared → Prop} (ht : IsTup s.heap t items) (hs : s.heap.IsSliceOf sl vl vu vs) (pl : IsPart vl none) (pu : IsPart vu none) (ps : IsPart vs (some (-1))) (hsz : items.size ≤ sizeLine)
    (h : Q (.ref s.heap.objs.size) { s with heap := s.heap.push { cls := .type "tuple", data := .seq items.toList.reverse.toArray } }) : wpAny (model prog w) A (getItem (.ref t) (.ref sl)) Q E s := by
  obtain ⟨os, o1, o2, o3⟩ := id hs
  cases pl; cases pu
  cases ps with
  | int i tk =>
  have tS : s.TypeIs (.ref sl) "slice" := ⟨os, o1, o2⟩
  have fits : sizeOk (.seq items.toList.reverse.toArray) := by
    show items.toList.reverse.toArray.size ≤ sizeLine
    rw [List.size_toArray, List.length_reverse, Array.length_toList]; exact hsz
  have applied : ∀ {A' : Around} {E' : Value → Shared → Prop} {R : Int × Int × Nat → Shared → Prop}, R ((items.size : Int) - 1, -1, items.size) s → wpAny (model prog w) A' (Builtin.Slice.sliceApplied (.ref sl) (pure (items.size : Int))) R E' s := by
    intro A' E' R hR
    unfold Builtin.Slice.sliceApplied Builtin.Slice.sliceFields
    apply wpAny_bind
    apply wpAny_bind
    apply wpAny_field o1 o3 (x := .none) rfl
    apply wpAny_bind
    apply wpAny_field o1 o3 (x := .none) rfl
    apply wpAny_bind
    apply wpAny_field o1 o3 (x := .int (-1) tk) rfl
    apply wpAny_pure
    apply wpAny_bind
    apply slicePart_int
    show wpAny _ _ (if ((-1 : Int) == 0) = true then _ else _) _ _ s
    rw [if_neg (by decide)]
    apply wpAny_bind
    apply slicePart_none
    apply wpAny_bind
    apply slicePart_none
    apply wpAny_bind
    apply wpAny_pure
    show wpAny _ _ (match Builtin.Slice.sliceAdjust none none (-1) (items.size : Int) with | (lo, hi) => pure (lo, (-1 : Int), Builtin.Slice.slicePlaces lo hi (-1))) _ _ s
    rw [adj_rev]
    show wpAny _ _ (pure (((items.size : Int) - 1), (-1 : Int), Builtin.Slice.slicePlaces ((items.size : Int) - 1) (-1) (-1))) _ _ s
    rw [plc_rev]
    exact wpAny_pure hR
  unfold getItem
  try with_reducible apply wpAny_holding
  first | apply wpAny_bind (wpAny_pure ?_) | skip
  apply wpAny_bind (wpAny_sequenceKey ht.typeIs (by decide) ?_)
  apply wpAny_bind (wpAny_callSpecial?_slot (name := Str.ofString "__getitem__") ht.typeIs PyProof.Rows.slot_tuple_getitem (wpAny_call_entry PyProof.Rows.slot_tuple_getitem ht.typeIs entry_tuple_getitem ?_ (args_tuple_getitem _ _)))
  show wpAny _ _ (Builtin.Tuple.tupleItemsOf (.ref t) >>= _) _ _ s
  apply wpAny_bind (tupleItemsOf_ ht ?_)
  apply wpAny_bind (wpAny_typeOf tS ?_)
  rw [if_pos (by decide)]
  apply wpAny_bind (applied ?_)
  have no : ¬ ((((items.size : Int) - 1) == 0 && (-1 : Int) == 1 && items.size == items.size) = true) := by
    rw [show ((-1 : Int) == 1) = false by decide, Bool.and_false, Bool.false_and]; exact Bool.false_ne_true
  show wpAny _ _ (if ((((items.size : Int) - 1) == 0 && (-1 : Int) == 1 && items.size == items.size) = true) then _ else _) _ _ s
  rw [if_neg no, pick_rev]
  first
    | exact wpAny_bind (m := Builtin.Tuple.tupleExact _) (wpAny_newObj_type (wpAny_pure ⟨_, rfl, wpAny_pure h⟩) fits)
    | exact wpAny_bind (m := Builtin.Tuple.tupleExact _) (wpAny_newObj_type (wpAny_bind (wpAny_pure (wpAny_pure ⟨_, rfl, wpAny_pure h⟩))) fits)
    | exact wpAny_bind (wpAny_bind (m := Builtin.Tuple.tupleExact _) (wpAny_newObj_type (wpAny_pure (wpAny_pure ⟨_, rfl, wpAny_pure h⟩)) fits))
end
section
variable {X : Cx} {T : Tb} {W : WX} {pos p1 p2 p3 : Pos} {e : Expr} {m : En → M MV}
/-- x[::-1] -/
def backM (v : MV) : M MV := fun h => match v with
  | .tup xs => .ok (.tup xs.reverse) h
  | .flst xs => .ok (.ref h.length) (h ++ [.lst xs.reverse])
  | .ref a => match h[a]? with
    | some (.lst xs) => .ok (.ref h.length) (h ++ [.lst xs.reverse])
    | _ => .stuck
  | _ => .stuck
def mBack (m : En → M MV) : En → M MV := fun ρ h => (m ρ h).bind backM
theorem pm_back {k : Nat} (hK : X.K = T.K) (he : PE X e (rdE T W m)) : PE X (.Subscript e (.Slice none none (some (.UnaryOp .USub (.Constant (.int 1) k p1) p2)) p3) pos) (rdE T W (mBack m)) := by
  refine ⟨fun pins s σ H Q I q => ?_⟩
  obtain ⟨as, h, ρ, R, E, e0⟩ := q
  refine Subscript_ (thn (he.run pins s σ H _ I (EndG.bind R E e0)) fun v s1 ⟨x, H1, I1, r1, as1, h1, mv, B, e1⟩ => ?_)
  have rr := B.r
  have key : (∃ a xs, x = .ref a ∧ SqL X.K H1 a xs ∧ ∀ p, H1 p = none → Q (.ref p) (upd H1 p (.lst xs.reverse))) ∨ (∃ a xs, x = .ref a ∧ SqT X.K H1 a xs ∧ ∀ p, H1 p = none → Q (.ref p) (upd H1 p (.tup xs.reverse))) := by
    rw [hK]
    cases mv with
    | tup xs =>
      obtain ⟨a, vs, rfl, q, l⟩ := rep_tup rr
      exact .inr ⟨a, vs, rfl, q, EndG.tup e1 B.R l.rev⟩
    | flst xs =>
      obtain ⟨a, vs, rfl, q, l⟩ := rep_flst rr
      exact .inl ⟨a, vs, rfl, q.sq, EndG.lst e1 B.R l.rev⟩
    | ref b =>
      unfold backM at e1
      dsimp only at e1
      split at e1
      · rename_i ho
        obtain ⟨a, vs, ha, rfl, q, l⟩ := rep_lst B.R ho rr
        exact .inl ⟨a, vs, rfl, SqL.of q, e1.lst B.R l.rev⟩
      · exact e1.elim
    | _ => exact e1.elim
  have minus : PO X (some (.UnaryOp .USub (.Constant (.int 1) k p1) p2)) (tPart (tUn (rU fun i => .int (-i)) (tC (.int 1)))) := po_some (pe_un un_neg pe_int)
  apply wpAny_Slice
  have low := po_none.run pins s1 σ H1 (fun o G => o = none ∧ G = H1) I1 (And.intro rfl rfl)
  refine thn low fun v2 s2 ⟨l2, G2, J2, w2, z2, y2⟩ => ?_
  rw [z2] at w2; rw [y2] at J2
  have top := po_none.run pins s2 σ H1 (fun o G => o = none ∧ G = H1) J2 (And.intro rfl rfl)
  refine thn top fun v3 s3 ⟨l3, G3, J3, w3, z3, y3⟩ => ?_
  rw [z3] at w3; rw [y3] at J3
  have stp := minus.run pins s3 σ H1 (fun o G => o = some (-1) ∧ G = H1) J3 ⟨1, rfl, -1, rfl, And.intro rfl rfl⟩
  refine thn stp fun v4 s4 ⟨l4, G4, J4, w4, z4, y4⟩ => ?_
  rw [z4] at w4; rw [y4] at J4
  have J5 : Inv X pins σ H1 ⟨s4.heap.push ⟨.type "slice", none, .fields #[v2, v3, v4], #[]⟩, s4.gens, s4.drawn, s4.toks, s4.os⟩ := J4.kept fun b ob z => Heap.get?_push_of_some _ z
  show wpAny _ _ (subscriptTail e (.Slice none none (some (.UnaryOp .USub (.Constant (.int 1) k p1) p2)) p3) v (.ref s4.heap.objs.size)) _ _ _
  rcases key with ⟨a, xs, rfl, hx, q⟩ | ⟨a, xs, rfl, hx, q⟩
  · cases r1
    obtain ⟨its, r, ht, hz⟩ := J5.list hx
    have small : its.toArray.size ≤ sizeLine := by rw [List.size_toArray, ← r.length]; exact hz
    apply tail_any (ops := [.ref a, .ref s4.heap.objs.size]) ht.isList.typeIs PySem.slot_list_getitem.lookup _ (by with_unfolding_all rfl)
    apply wpAny_getItem_list_slice ht.isList (Heap.IsSliceOf.new _ v2 v3 v4) w2 w3 w4 (by decide) _ (by have := small; omega)
    rw [PySem.W.krv_pick]
    refine ⟨.ref _, _, J5.laid (t' := s4.toks) (fun b ob z => Heap.get?_push_of_some _ z) (Nat.le_refl _) ?_, rfl, q _ (J5.hok.fresh (Nat.le_refl _))⟩
    exact ⟨by simpa using hz, its.reverse, 0, r.reverse, Heap.get?_push_size _ rfl⟩
  · cases r1
    obtain ⟨its, r, ht, hz⟩ := J5.tuple hx
    have small : its.toArray.size ≤ sizeLine := by rw [List.size_toArray, ← r.length]; exact hz
    apply tail_any (ops := [.ref a, .ref s4.heap.objs.size]) ht.typeIs PyProof.Rows.slot_tuple_getitem.lookup _ (by with_unfolding_all rfl)
    apply tup_back ht (Heap.IsSliceOf.new _ v2 v3 v4) w2 w3 w4 small
    refine ⟨.ref _, _, J5.laid (t' := s4.toks) (fun b ob z => Heap.get?_push_of_some _ z) (Nat.le_refl _) ?_, rfl, q _ (J5.hok.fresh (Nat.le_refl _))⟩
    exact ⟨by simpa using hz, its.reverse, r.reverse, ⟨_, Heap.get?_push_size _ rfl, rfl, 0, rfl⟩⟩
end

/-! ### in, not in -/
def flatM : MV → Bool
  | .non => true
  | .bl _ => true
  | .int _ => true
  | .str _ => true
  | _ => false
/-- == of such values -/
def eqF : MV → MV → Bool
  | .non, .non => true
  | .bl a, .bl b => a == b
  | .bl a, .int b => (if a then 1 else 0) == b
  | .int a, .bl b => a == (if b then 1 else 0)
  | .int a, .int b => a == b
  | .str a, .str b => a == b
  | _, _ => false
section
variable {T : Tb} {as : List Addr} {H : Hp} {h : Hm}
theorem rep_flat {x : MV} {U : V} (r : RepV T as H x U) (f : flatM x = true) : flatV U = true := by
  cases x with
  | non => rw [rep_non r]; rfl
  | bl b => rw [rep_bl r]; rfl
  | int b => rw [rep_int r]; rfl
  | str b => rw [rep_str r]; rfl
  | _ => cases f
theorem rep_eqF {x y : MV} {U V : V} (r : RepV T as H x U) (q : RepV T as H y V) (f : flatM x = true) (g : flatM y = true) : eqV U V = eqF x y := by
  cases x with
  | non => rw [rep_non r]; cases y <;> first | (rw [rep_non q]; rfl) | (rw [rep_bl q]; rfl) | (rw [rep_int q]; rfl) | (rw [rep_str q]; rfl) | cases g
  | bl b => rw [rep_bl r]; cases y <;> first | (rw [rep_non q]; rfl) | (rw [rep_bl q]; rfl) | (rw [rep_int q]; rfl) | (rw [rep_str q]; rfl) | cases g
  | int b => rw [rep_int r]; cases y <;> first | (rw [rep_non q]; rfl) | (rw [rep_bl q]; rfl) | (rw [rep_int q]; rfl) | (rw [rep_str q]; rfl) | cases g
  | str b => rw [rep_str r]; cases y <;> first | (rw [rep_non q]; rfl) | (rw [rep_bl q]; rfl) | (rw [rep_int q]; rfl) | (rw [rep_str q]; rfl) | cases g
  | _ => cases f
theorem repL_flat : ∀ {xs : List MV} {U : List V}, RepL T as H xs U → xs.all flatM = true → U.all flatV = true
  | [], _, r, _ => by unfold RepL at r; rw [r]; rfl
  | x :: xs, _, r, f => by
    unfold RepL at r
    obtain ⟨v, l, rfl, r1, r2⟩ := r
    rw [List.all_cons, Bool.and_eq_true] at f ⊢
    exact ⟨rep_flat r1 f.1, repL_flat r2 f.2⟩
theorem repL_in {y : MV} {V : V} (q : RepV T as H y V) (g : flatM y = true) : ∀ {xs : List MV} {U : List L2.V}, RepL T as H xs U → xs.all flatM = true → inV V U = xs.any fun x => eqF x y
  | [], _, r, _ => by unfold RepL at r; rw [r]; rfl
  | x :: xs, _, r, f => by
    unfold RepL at r
    obtain ⟨v, l, rfl, r1, r2⟩ := r
    rw [List.all_cons, Bool.and_eq_true] at f
    have ih := repL_in q g r2 f.2
    unfold inV at ih ⊢
    rw [List.any_cons, List.any_cons, ih, rep_eqF r1 q f.1 g]
/-- the items of a list or a tuple -/
def seqOf (x : MV) (h : Hm) : Option (List MV) := match x with
  | .tup xs => some xs
  | x => lstOf x h
theorem seqOf_rep {x : MV} {U : V} {xs : List MV} (R : Rst T as H h) (e : seqOf x h = some xs) (r : RepV T as H x U) : ∃ a vs, U = .ref a ∧ (SqL T.K H a vs ∨ SqT T.K H a vs) ∧ RepL T as H xs vs := by
  unfold seqOf at e
  split at e
  · cases e
    obtain ⟨a, vs, rfl, q, l⟩ := rep_tup r
    exact ⟨a, vs, rfl, .inr q, l⟩
  · obtain ⟨a, vs, rfl, q, l⟩ := lstOf_rep R e r
    exact ⟨a, vs, rfl, .inl q, l⟩
end
def inM (neg : Bool) (x y : MV) : M MV := fun h => match seqOf y h with
  | some xs => if flatM x = true ∧ xs.all flatM = true then .ok (.bl (if neg then !(xs.any fun z => eqF z x) else xs.any fun z => eqF z x)) h else .stuck
  | none => .stuck
theorem ref_in {T : Tb} {neg : Bool} : Ref2 T (rIn T.K neg) (inM neg) := by
  intro as H h W σ x y U V Q R rx ry e
  unfold inM at e
  split at e
  · rename_i xs hx
    split at e
    · rename_i hc
      obtain ⟨a, vs, rfl, q, l⟩ := seqOf_rep R hx ry
      refine ⟨a, vs, rfl, q, rep_flat rx hc.1, repL_flat l hc.2, ?_⟩
      rw [repL_in rx hc.1 l hc.2]
      exact e.bl R
    · exact e.elim
  · exact e.elim
/-! ### sorted, divmod, isinstance -/
def sortI (ns : List Int) : List Int := ns.mergeSort fun a b => decide (a ≤ b)
theorem sortI_perm (ns : List Int) : (sortI ns).Perm ns := List.mergeSort_perm _ _
theorem sortI_le (ns : List Int) : (sortI ns).Pairwise (· ≤ ·) := by
  have z := List.pairwise_mergeSort (le := fun a b : Int => decide (a ≤ b)) (fun a b c h1 h2 => by simp at *; omega) (fun a b => by simp; omega) ns
  exact z.imp fun h => by simpa using h
theorem sortI_is {ns ms : List Int} (p : ms.Perm ns) (s : ms.Pairwise (· ≤ ·)) : ms = sortI ns :=
  List.Perm.eq_of_pairwise (le := (· ≤ ·)) (fun a b _ _ h1 h2 => Int.le_antisymm h1 h2) s (sortI_le ns) (p.trans (sortI_perm ns).symm)
/-- of a list of ints (a set of ints: SetOf, elsewhere) -/
def sortedM := intsF fun ns h => .ok (.ref h.length) (h ++ [.lst ((sortI ns).map .int)])
theorem ref_sorted {T : Tb} : RefC T (rSortedI T.K) sortedM := by
  intro as H h W σ x U Q R rx e
  obtain ⟨a, ns, rfl, q, e⟩ := intsF_run R rx e
  refine ⟨a, ns, rfl, q, fun ms p hp hs hn => ?_⟩
  rw [sortI_is hp hs]
  exact e.lst R RepL.of_ints p hn
theorem divP_of {i j : Int} (h : 0 < j) (hb : j.natAbs.log2 < 9000) : CDivP i j := ⟨h, PyProof.noPylong_of_log2 hb⟩
theorem ref_divmod {T : Tb} : RefC T (fun xs H Q => ∃ i j, xs = [.int i, .int j] ∧ CDivP i j ∧ ∀ p, H p = none → Q (.ref p) (upd H p (.tup [.int (i / j), .int (i % j)]))) divmodM := by
  intro as H h W σ x U Q R rx e
  unfold divmodM at e
  split at e
  · split at e
    · rename_i hc
      obtain ⟨u, v, rfl, r1, r2⟩ := repL_two rx
      rw [rep_int r1, rep_int r2]
      refine ⟨_, _, rfl, divP_of hc.1 hc.2, e.tup R ?_⟩
      exact RepL.cons (by unfold RepV; rfl) (RepL.cons (by unfold RepV; rfl) RepL.nil)
    · exact e.elim
  · exact e.elim

/-! ### isinstance of a built-in class -/
def tyNm (x : MV) (h : Hm) : Option String := match x with
  | .non => some "NoneType"
  | .bl _ => some "bool"
  | .int _ => some "int"
  | .str _ => some "str"
  | .tup _ => some "tuple"
  | .flst _ => some "list"
  | .ref a => match h[a]? with
    | some (.lst _) => some "list"
    | some (.dK _) => some "dict"
    | _ => none
  | _ => none
def isiM (xs : List MV) : M MV := fun h => match xs with
  | [x, .ty n] => match (tyNm x h).bind fun t => kitB t n with
    | some b => .ok (.bl b) h
    | none => .stuck
  | _ => .stuck
theorem tyNm_ty {T : Tb} {as : List Addr} {H : Hp} {h : Hm} {x : MV} {U : V} {t : String} (R : Rst T as H h) (e : tyNm x h = some t) (r : RepV T as H x U) : TyX T.K H U (.type t) := by
  have tup : ∀ {a : Addr} {vs : List V}, SqT T.K H a vs → TyX T.K H (.ref a) (.type "tuple") := fun {a vs} q => by
    rcases q with (q | ⟨o, q⟩) | ⟨o, its, n, h1, h2, _⟩
    · exact .base (.tup q)
    · exact .fTuple q
    · exact .kTuple h1 h2
  unfold tyNm at e
  split at e
  · cases e; rw [rep_non r]; exact .base .non
  · cases e; rw [rep_bl r]; exact .base (.bl _)
  · cases e; rw [rep_int r]; exact .base (.int _)
  · cases e; rw [rep_str r]; exact .base (.str _)
  · cases e
    obtain ⟨a, vs, rfl, q, l⟩ := rep_tup r
    exact tup q
  · cases e
    obtain ⟨a, vs, rfl, q, l⟩ := rep_flst r
    rcases q with ⟨o, q⟩ | q
    · exact .base (.frz q)
    · rcases q (fun _ => none) with (q | ⟨o, q⟩) | ⟨o, its, n, h1, h2, _⟩
      · cases q
      · cases q
      · exact .kList h1 h2
  · split at e
    · rename_i ho
      cases e
      obtain ⟨a, vs, ha, rfl, q, l⟩ := rep_lst R ho r
      exact .base (.lst q)
    · rename_i ho
      cases e
      obtain ⟨a, ha, rfl⟩ := rep_ref r
      obtain ⟨u, hu, vs, rfl, l⟩ := R.obj _ a _ ha ho
      exact .base (.dK hu)
    · cases e
  · cases e
theorem ref_isi {T : Tb} : RefC T (rIsi T.K) isiM := by
  intro as H h W σ x U Q R rx e
  unfold isiM at e
  split at e
  · rename_i x n
    obtain ⟨u, v, rfl, r1, r2⟩ := repL_two rx
    split at e
    · rename_i b hb
      cases z : tyNm x h with
      | none => rw [z] at hb; cases hb
      | some t =>
        rw [z] at hb
        have r2' : v = .ty n := by unfold RepV at r2; exact r2
        subst r2'
        exact ⟨u, .ty n, .type t, .type n, b, rfl, .ty n, tyNm_ty R z r1, kit_ty hb, e.bl R⟩
    · exact e.elim
  · exact e.elim
/-! ### lists change -/
def appendM (x : MV) (ys : List MV) : M MV := fun h => match x, ys with
  | .ref a, [y] => match h[a]? with
    | some (.lst xs) => if xs.length < 10000000 then .ok .non (h.set a (.lst (xs ++ [y]))) else .stuck
    | _ => .stuck
  | _, _ => .stuck
/-- a method of a built-in type at values -/
def RefM (T : Tb) (ty : String) (r : V → List V → Hp → VK → Prop) (f : MV → List MV → M MV) : Prop := ∀ {as : List Addr} {H : Hp} {h : Hm} {W : WX} {σ : L2.St} {x : MV} {ys : List MV} {U : V} {Vs : List V} {Q : VK},
  Rst T as H h → RepV T as H x U → RepL T as H ys Vs → EndG (RepV T) T as H W σ (f x ys h) Q → r U Vs H Q
def mMeth (ty : MV → Hm → Bool) (f : MV → List MV → M MV) (o : En → M MV) (r : En → M (List MV)) : En → M MV := fun ρ h => (o ρ h).bind fun x h1 => if ty x h1 = true then (r ρ h1).bind fun ys h2 => f x ys h2 else .stuck
/-- the receiver is of the type -/
def RefTy (T : Tb) (n : String) (ty : MV → Hm → Bool) : Prop := ∀ {as : List Addr} {H : Hp} {h : Hm} {x : MV} {U : V}, Rst T as H h → RepV T as H x U → ty x h = true → tyV T.K n U H
def isLst (x : MV) (h : Hm) : Bool := match x with
  | .ref a => match h[a]? with
    | some (.lst _) => true
    | _ => false
  | _ => false
def isStr (x : MV) (_ : Hm) : Bool := match x with
  | .str _ => true
  | _ => false
theorem refTy_lst {T : Tb} : RefTy T "list" isLst := by
  intro as H h x U R r e
  unfold isLst at e
  split at e
  · split at e
    · rename_i ho
      obtain ⟨a, vs, ha, rfl, q, l⟩ := rep_lst R ho r
      exact .inl ⟨rfl, _, SqL.of q⟩
    · cases e
  · cases e
theorem refTy_str {T : Tb} : RefTy T "str" isStr := by
  intro as H h x U R r e
  unfold isStr at e
  split at e
  · rw [rep_str r]; rfl
  · cases e
theorem ref_append {T : Tb} : RefM T "list" rAppend appendM := by
  intro as H h W σ x ys U Vs Q R rx ry e
  unfold appendM at e
  split at e
  · split at e
    · rename_i ho
      split at e
      · rename_i hl
        obtain ⟨a, vs, ha, rfl, q, l⟩ := rep_lst R ho rx
        obtain ⟨v, rfl, rv⟩ := repL_one ry
        exact ⟨a, vs, v, rfl, rfl, q, by rw [← l.length, sizeLine_eq]; omega, e.wr R ha (l.app (RepL.cons rv RepL.nil)) (by unfold RepV; rfl)⟩
      · exact e.elim
    · exact e.elim
  · exact e.elim
section
variable {X : Cx} {T : Tb} {W : WX} {apos cpos : Pos} {o a : Expr} {es : List Expr} {mo : En → M MV} {mr : En → M (List MV)} {name : Str} {Ty id : String} {r : V → List V → Hp → VK → Prop} {f : MV → List MV → M MV} {ty : MV → Hm → Bool}
theorem bm_run (hK : X.K = T.K) (ht : RefTy T Ty ty) (hf : RefM T Ty r f) {σ : L2.St} {H : Hp} {Q : VK} (q : rdE T W (mMeth ty f mo mr) σ H Q) : tBM X.K Ty r (rdE T W mo) (rdA T W mr) σ H Q := by
  obtain ⟨as, h, ρ, R, E, e⟩ := q
  refine (EndG.bind R E e).mono fun x H1 ⟨as1, h1, v, B, e1⟩ => ?_
  split at e1
  · rename_i hc
    rw [hK]
    refine ⟨ht B.R B.r hc, (EndG.bind B.R B.E e1).mono fun y H2 ⟨as2, h2, u, B2, e2⟩ => ?_⟩
    exact hf B2.R (B.r.kp (B2.S.kp B.R)) B2.r e2
  · exact e1.elim
theorem bm0_run (hK : X.K = T.K) (ht : RefTy T Ty ty) (hf : RefM T Ty r f) {σ : L2.St} {H : Hp} {Q : VK} (q : rdE T W (mMeth ty f mo mNil) σ H Q) : tBM0 X.K Ty r (rdE T W mo) σ H Q := by
  obtain ⟨as, h, ρ, R, E, e⟩ := q
  refine (EndG.bind R E e).mono fun x H1 ⟨as1, h1, v, B, e1⟩ => ?_
  split at e1
  · rename_i hc
    rw [hK]
    exact ⟨ht B.R B.r hc, hf B.R B.r RepL.nil e1⟩
  · exact e1.elim
end
/-! ### xs[i] = v -/
def setLM (o i v : MV) : M Unit := fun h => match o, i with
  | .ref a, .int k => match h[a]? with
    | some (.lst xs) => match ixN xs.length k with
      | some j => .ok () (h.set a (.lst (xs.set j v)))
      | none => .stuck
    | _ => .stuck
  | _, _ => .stuck
theorem ref_setL {T : Tb} : RefSet T rSetL setLM := by
  intro as H h o i v O I V Q R ro ri rv e
  unfold setLM at e
  split at e
  · rename_i hq
    split at hq
    · split at hq
      · rename_i ho
        split at hq
        · rename_i j hj
          cases hq
          obtain ⟨a, vs, ha, rfl, q, l⟩ := rep_lst R ho ro
          rw [rep_int ri]
          refine ⟨a, vs, _, j, rfl, rfl, q, by rw [← l.length]; exact hj, ?_⟩
          obtain ⟨R', S⟩ := R.write (o := .lst _) ha ⟨_, rfl, l.set j rv⟩
          exact e _ _ S R'
        · cases hq
      · cases hq
    · cases hq
  · exact e.elim
end Cutp

/-! CutZip: zip of two things, each a list or a tuple. -/
namespace Cutp
open PySem PySem.Spec PyProof.Rows L2

inductive Sk where
  | l | t
def SqK (K : PySem.W.Frag) (H : Hp) : Sk → Addr → List V → Prop
  | .l, a, xs => SqL K H a xs
  | .t, a, xs => SqT K H a xs
def ItS (h : Heap) : Sk → Addr → Addr → Nat → Prop
  | .l, it, a, i => h.IsListIter it a i
  | .t, it, a, i => h.IsTupleIter it a i
def SrcOk (h : Heap) : Sk → Addr → Array Value → Prop
  | .l, a, xs => h.IsList a xs
  | .t, a, xs => h.IsTuple a xs
def obOf : Sk → Addr → Obj
  | .l, a => { cls := .type "list_iterator", data := .fields #[.ref a, .int 0 0] }
  | .t, a => { cls := .type "tuple_iterator", data := .fields #[.ref a, .int 0 0] }
theorem ItS.at {h h' : Heap} {k : Sk} {it a : Addr} {i : Nat} (x : ItS h k it a i) (e : ∀ o, h.get? it = some o → h'.get? it = some o) : ItS h' k it a i := by
  cases k with
  | l => exact Heap.IsListIter.at x e
  | t => exact Heap.IsTupleIter.at x e
theorem ItS.ob {h : Heap} {k : Sk} {it a : Addr} {i : Nat} (x : ItS h k it a i) : ∃ o, h.get? it = some o ∧ ∀ v, o.data ≠ .cell v := by
  cases k with
  | l => obtain ⟨o, e, _, d⟩ := x; exact ⟨o, e, fun v q => by rw [d] at q; cases q⟩
  | t => obtain ⟨o, e, _, d⟩ := x; exact ⟨o, e, fun v q => by rw [d] at q; cases q⟩
theorem itS_new {h : Heap} {k : Sk} {it a : Addr} (e : h.get? it = some (obOf k a)) : ItS h k it a 0 := by
  cases k with
  | l => exact ⟨_, e, rfl, rfl⟩
  | t => exact ⟨_, e, rfl, rfl⟩
theorem drawK {prog : Program} {w : World} {A : Around} (hh : A.handled = none) (k : Sk) (it a : Addr) (ne : a ≠ it) (items : Array Value) : Draws prog w A it [it, a] items.size (fun i v => items[i]? = some v) (fun i h => ItS h k it a i ∧ SrcOk h k a items) := by
  cases k with
  | l => exact Draws.list hh it a ne items
  | t => exact Draws.tuple hh it a ne items
theorem beginK (k : Sk) (a : Addr) (items : Array Value) : Begins (.ref a) (obOf k a) fun h => SrcOk h k a items := by
  cases k with
  | l => exact begins_list a items
  | t => exact begins_tuple a items
section
variable {X : Cx} {pins : List (Addr × Obj)} {σ : L2.St} {H : Hp} {s : Shared}
theorem srcK (I : L2.Inv X pins σ H s) {k : Sk} {a : Addr} {xs : List V} (q : SqK X.K H k a xs) : ∃ its : List Value, Vals xs its ∧ SrcOk s.heap k a its.toArray ∧ a < s.heap.objs.size := by
  cases k with
  | l => obtain ⟨its, r, p, _⟩ := I.list q; exact ⟨its, r, p.isList, p.lt⟩
  | t => obtain ⟨its, r, p, _⟩ := I.tuple q; exact ⟨its, r, p, p.lt⟩
theorem srcK_inj (I : L2.Inv X pins σ H s) {k : Sk} {a : Addr} {xs ys : List V} (q : SqK X.K H k a xs) (q' : SqK X.K H k a ys) : xs = ys := by
  cases k with
  | l => exact I.list_inj q q'
  | t => exact I.tuple_inj q q'
end
def Itzk (K : PySem.W.Frag) (k1 k2 : Sk) (a b : Addr) : It :=
  ⟨fun i H => ∃ (xs ys : List V) (x y : V), SqK K H k1 a xs ∧ SqK K H k2 b ys ∧ xs[i]? = some x ∧ ys[i]? = some y,
   fun i H v H' => ∃ t x y, v = .ref t ∧ H t = none ∧ H' = upd H t (.tup [x, y]) ∧ (∀ xs, SqK K H k1 a xs → xs[i]? = some x) ∧ ∀ ys, SqK K H k2 b ys → ys[i]? = some y,
   fun i H => ∃ xs ys : List V, SqK K H k1 a xs ∧ SqK K H k2 b ys ∧ i = min xs.length ys.length⟩
theorem turn_zk {P : Program} {w : World} {K : PySem.W.Frag} {elts : List Expr} {kk : Nat} {tpos : Pos} {k1 k2 : Sk} {a b z TI TO i1 i2 : Addr} (D : ZipSep2 z TI TO i1 i2 [i1, a] [i2, b]) (ne1 : a ≠ i1) (ne2 : b ≠ i2) :
    Turn P w K (.Tuple elts kk tpos) (Itzk K k1 k2 a b) [z, TI, TO, i1, i2] z (fun i h => IsZip h z TI TO .none ∧ IsTupOf2 h TI (.ref i1) (.ref i2) ∧ (∃ x y, IsTupOf2 h TO x y) ∧ ItS h k1 i1 a i ∧ ItS h k2 i2 b i) where
  mem := by simp
  obj := fun i h st c hc => by
    obtain ⟨s1, s2, ⟨x, y, s3⟩, s4, s5⟩ := st
    simp only [List.mem_cons, List.not_mem_nil, or_false] at hc
    rcases hc with rfl | rfl | rfl | rfl | rfl
    · exact ⟨_, s1, fun v q => nomatch q⟩
    · exact ⟨_, s2, fun v q => nomatch q⟩
    · exact ⟨_, s3, fun v q => nomatch q⟩
    · exact s4.ob
    · exact s5.ob
  keep := fun i h h' st kp => by
    obtain ⟨s1, s2, ⟨x, y, s3⟩, s4, s5⟩ := st
    exact ⟨kp z (by simp) _ s1, kp TI (by simp) _ s2, ⟨x, y, kp TO (by simp) _ s3⟩, s4.at fun o q => kp i1 (by simp) o q, s5.at fun o q => kp i2 (by simp) o q⟩
  item := by
    intro X hP hw hK hc i pins s σ H E I hf st hg
    subst hP hw hK
    obtain ⟨s1, s2, s3, s4, s5⟩ := st
    obtain ⟨xs, ys, x, y, q1, q2, gx, gy⟩ := hg
    obtain ⟨us, r1, p1, _⟩ := srcK I q1
    obtain ⟨ws, r2, p2, _⟩ := srcK I q2
    have hx : i < us.toArray.size := by rw [List.size_toArray, ← r1.length]; exact (List.getElem?_eq_some_iff.mp gx).1
    have hy : i < ws.toArray.size := by rw [List.size_toArray, ← r2.length]; exact (List.getElem?_eq_some_iff.mp gy).1
    have hd : X.A.in1.handled = none := I.ok.hd hc
    have G := GoesN.zip2 (prog := X.prog) (w := X.w) (A := X.A) (elts := elts) (x1 := kk) (pos := tpos) D (drawK hd k1 i1 a ne1 us.toArray) (drawK hd k2 i2 b ne2 ws.toArray)
    refine thn (G.goes i s (fun u s2 => ∃ x H', L2.Inv X pins σ H' s2 ∧ RelV x u ∧ (Itzk X.K k1 k2 a b).yld i H x H' ∧ (IsZip s2.heap z TI TO .none ∧ IsTupOf2 s2.heap TI (.ref i1) (.ref i2) ∧ (∃ x y, IsTupOf2 s2.heap TO x y) ∧ ItS s2.heap k1 i1 a (i + 1) ∧ ItS s2.heap k2 i2 b (i + 1)) ∧ ∀ b ∈ [z, TI, TO, i1, i2], H' b = none) E (by omega) ⟨s1, s2, s3, ⟨s4, p1⟩, ⟨s5, p2⟩⟩ fun v h' tk Y st' kp _ => ?_) fun r s' hr => hr
    obtain ⟨t, ux, uy, rfl, new, gx', gy', ht⟩ := Y
    obtain ⟨t1, t2, t3, ⟨t4, _⟩, ⟨t5, _⟩⟩ := st'
    obtain ⟨ux', hux, rx⟩ := r1.get gx
    obtain ⟨uy', huy, ry⟩ := r2.get gy
    have ex : ux' = ux := by
      have z : us[i]? = some ux := by simpa using gx'
      rw [hux] at z; exact Option.some.inj z
    have ey : uy' = uy := by
      have z : ws[i]? = some uy := by simpa using gy'
      rw [huy] at z; exact Option.some.inj z
    subst ex ey
    have fr := I.hok.fresh new
    have ob : ObjOk X.prog X.w (upd H t (.tup [x, y])) h' t (.tup [x, y]) := ⟨by show 2 ≤ sizeLine; decide, [ux', uy'], .cons rx (.cons ry .nil), ht⟩
    have J : L2.Inv X pins σ (upd H t (.tup [x, y])) { s with heap := h', toks := tk } := I.turnedNew (ch := [z, TO, i1, i2]) kp (fun c hcm => hf c (by
      simp only [List.mem_cons, List.not_mem_nil, or_false] at hcm
      rcases hcm with rfl | rfl | rfl | rfl <;> simp)) new ob
    refine ⟨.ref t, _, J, rfl, ⟨t, x, y, rfl, fr, rfl, fun l hl => by rw [srcK_inj I hl q1]; exact gx, fun l hl => by rw [srcK_inj I hl q2]; exact gy⟩, ⟨t1, t2, t3, t4, t5⟩, fun c hcm => ?_⟩
    have hlt : c < s.heap.objs.size := by
      simp only [List.mem_cons, List.not_mem_nil, or_false] at hcm
      rcases hcm with rfl | rfl | rfl | rfl | rfl
      · exact Heap.lt_size s1
      · exact Heap.lt_size s2
      · obtain ⟨_, _, s3⟩ := s3; exact Heap.lt_size s3
      · obtain ⟨_, e, _⟩ := s4.ob; exact Heap.lt_size e
      · obtain ⟨_, e, _⟩ := s5.ob; exact Heap.lt_size e
    rw [upd_ne (Nat.ne_of_lt (Nat.lt_of_lt_of_le hlt new))]
    exact (hf c hcm).1
  done := by
    intro X hP hw hK hc i pins s σ H E I hf st hg
    subst hP hw hK
    obtain ⟨s1, s2, s3, s4, s5⟩ := st
    obtain ⟨xs, ys, q1, q2, hi⟩ := hg
    obtain ⟨us, r1, p1, _⟩ := srcK I q1
    obtain ⟨ws, r2, p2, _⟩ := srcK I q2
    have hd : X.A.in1.handled = none := I.ok.hd hc
    have G := GoesN.zip2 (prog := X.prog) (w := X.w) (A := X.A) (elts := elts) (x1 := kk) (pos := tpos) D (drawK hd k1 i1 a ne1 us.toArray) (drawK hd k2 i2 b ne2 ws.toArray)
    have hi' : i = min us.toArray.size ws.toArray.size := by rw [List.size_toArray, List.size_toArray, ← r1.length, ← r2.length]; exact hi
    subst hi'
    refine G.stops s (fun s' => L2.Inv X pins σ H s') E ⟨s1, s2, s3, ⟨s4, p1⟩, ⟨s5, p2⟩⟩ fun h' tk kp _ => ?_
    exact I.turnedL (ch := [z, TO, i1, i2]) kp (fun c hcm => hf c (by
      simp only [List.mem_cons, List.not_mem_nil, or_false] at hcm
      rcases hcm with rfl | rfl | rfl | rfl <;> simp))
  self := fun A i s Q E st h => wpAny_pyIter_zip st.1 h

/-- a list or a tuple of the mirror's, to be walked together with others: its items at a turn -/
def itemsAt (x : MV) (h : Hm) : Option (List MV) := seqOf x h
def itZip (x y : MV) : IT := fun i h => match seqOf x h, seqOf y h with
  | some xs, some ys => match xs[i]?, ys[i]? with
    | some a, some b => some (some (.tup [a, b]))
    | _, _ => if i = min xs.length ys.length then some none else none
  | _, _ => none
def zipM (zs : List MV) : M IT := fun h => match zs with
  | [x, y] => match seqOf x h, seqOf y h with
    | some _, some _ => .ok (itZip x y) h
    | _, _ => .stuck
  | _ => .stuck
def mZip (r : En → M (List MV)) : En → M IT := fun ρ h => (r ρ h).bind zipM
section
variable {T : Tb} {as : List Addr} {H : Hp} {h : Hm}
/-- which kind a value is, and where -/
theorem seqOf_k {x : MV} {U : V} {xs : List MV} (R : Rst T as H h) (e : seqOf x h = some xs) (r : RepV T as H x U) : ∃ k a, U = .ref a ∧ (∃ vs, SqK T.K H k a vs) ∧
    ∀ {as1 : List Addr} {H1 : Hp} {h1 : Hm} {ys : List MV}, Stp as H as1 H1 → Rst T as1 H1 h1 → seqOf x h1 = some ys → ∃ vs, SqK T.K H1 k a vs ∧ RepL T as1 H1 ys vs := by
  cases x with
  | tup zs =>
    obtain ⟨a, vs, rfl, q, l⟩ := rep_tup r
    refine ⟨.t, a, rfl, ⟨vs, q⟩, fun S R1 e1 => ?_⟩
    cases e1
    exact ⟨vs, (S.kp R).tup _ _ q, l.kp (S.kp R)⟩
  | flst zs =>
    obtain ⟨a, vs, rfl, q, l⟩ := rep_flst r
    refine ⟨.l, a, rfl, ⟨vs, q.sq⟩, fun S R1 e1 => ?_⟩
    cases e1
    exact ⟨vs, (sqF_kp (S.kp R) q).sq, l.kp (S.kp R)⟩
  | ref b =>
    obtain ⟨a, ha, rfl⟩ := rep_ref r
    have key : ∀ {as1 : List Addr} {H1 : Hp} {h1 : Hm} {ys : List MV}, Stp as H as1 H1 → Rst T as1 H1 h1 → seqOf (.ref b) h1 = some ys → ∃ vs, SqK T.K H1 .l a vs ∧ RepL T as1 H1 ys vs := fun {as1 H1 h1 ys} S R1 e1 => by
      unfold seqOf lstOf at e1
      dsimp only at e1
      split at e1
      · rename_i ho
        cases e1
        obtain ⟨u, hu, vs, rfl, l⟩ := R1.obj b a _ (get_pre S.pre ha) ho
        exact ⟨vs, SqL.of hu, l⟩
      · cases e1
    obtain ⟨vs, q, _⟩ := key (Stp.refl _ _) R e
    exact ⟨.l, a, rfl, ⟨vs, q⟩, key⟩
  | _ => cases e
theorem itRel_zip {x y : MV} {k1 k2 : Sk} {a b : Addr}
    (f : ∀ {as1 : List Addr} {H1 : Hp} {h1 : Hm} {ys : List MV}, Stp as H as1 H1 → Rst T as1 H1 h1 → seqOf x h1 = some ys → ∃ vs, SqK T.K H1 k1 a vs ∧ RepL T as1 H1 ys vs)
    (g : ∀ {as1 : List Addr} {H1 : Hp} {h1 : Hm} {ys : List MV}, Stp as H as1 H1 → Rst T as1 H1 h1 → seqOf y h1 = some ys → ∃ vs, SqK T.K H1 k2 b vs ∧ RepL T as1 H1 ys vs) : ItRel T as H (itZip x y) (Itzk T.K k1 k2 a b) := by
  refine ⟨fun {as1 H1 h1 i v} S R1 e => ?_, fun {as1 H1 h1 i} S R1 e => ?_⟩
  · unfold itZip at e
    split at e
    · rename_i xs ys hx hy
      obtain ⟨us, q1, l1⟩ := f S R1 hx
      obtain ⟨ws, q2, l2⟩ := g S R1 hy
      split at e
      · rename_i p q hp hq
        cases e
        obtain ⟨u, hu, ru⟩ := l1.get hp
        obtain ⟨w, hw, rw'⟩ := l2.get hq
        refine ⟨⟨us, ws, u, w, q1, q2, hu, hw⟩, fun z H2 ⟨t, u2, w2, ez, fr, eH, e1, e2⟩ => ?_⟩
        subst ez eH
        have z1 := e1 us q1
        have z2 := e2 ws q2
        rw [hu] at z1; rw [hw] at z2
        cases z1; cases z2
        have S2 : Stp as1 H1 as1 (upd H1 t (.tup [u, w])) := ⟨⟨[], by simp⟩, fun c o e n => ⟨by rw [upd_ne (ne_of_none e fr)]; exact e, n⟩⟩
        refine ⟨S2, ⟨R1.len, R1.nd, fun j c o hc ho => ?_⟩, ?_⟩
        · obtain ⟨o', h1, r⟩ := R1.obj j c o hc ho
          exact ⟨o', by rw [upd_ne (ne_of_none h1 fr)]; exact h1, r.kp (S2.kp R1)⟩
        · unfold RepV
          exact ⟨t, [u, w], rfl, .inl (.inl upd_same), RepL.cons (ru.kp (S2.kp R1)) (RepL.cons (rw'.kp (S2.kp R1)) RepL.nil)⟩
      · split at e <;> cases e
    · cases e
  · unfold itZip at e
    split at e
    · rename_i xs ys hx hy
      obtain ⟨us, q1, l1⟩ := f S R1 hx
      obtain ⟨ws, q2, l2⟩ := g S R1 hy
      split at e
      · cases e
      · split at e
        · rename_i hi
          exact ⟨us, ws, q1, q2, by rw [← l1.length, ← l2.length]; exact hi⟩
        · cases e
    · cases e
end
section
variable {X : Cx} {T : Tb} {W : WX} {pos tpos p : Pos} {e e2 : Expr} {mr : En → M (List MV)}
theorem pim_zip {elts : List Expr} {kk : Nat} (hK : X.K = T.K) (hg : Gl X "zip") (hm : X.mg "zip" = none) (ha : PA X [e, e2] (rdA T W mr))
    (hs : starEach [e, e2] X.env = (false, eval e X.env) :: starEach [e2] X.env := by rfl) (hpl : (backTo pos (starEach [e2] X.env)).any (·.1) = false := by rfl) :
    PI X (.Tuple elts kk tpos) (.Call (.Name "zip" p) [e, e2] [] pos) (rdI T W (mZip mr)) := by
  refine ⟨fun pins s σ H R I q => ?_⟩
  obtain ⟨as, h, ρ, Rs, E, e0⟩ := q
  refine Call_ (ld_blt I hg hm PyProof.Rows.boot_zip (PyProof.Rows.callWith_type1 (thn (ha.run pos pins s σ H _ I (EndG.bind Rs E e0)) fun us s1 ⟨vs, H1, I1, r1, as1, h1, zs, B, e1⟩ => ?_) hs hpl))
  unfold zipM at e1
  split at e1
  · rename_i x y
    obtain ⟨u, v, rfl, ru, rv⟩ := repL_two B.r
    split at e1
    · rename_i xs ys hx hy
      obtain ⟨k1, a, rfl, ⟨vs1, q1⟩, f1⟩ := seqOf_k B.R hx ru
      obtain ⟨k2, b, rfl, ⟨vs2, q2⟩, f2⟩ := seqOf_k B.R hy rv
      obtain ⟨w1, w2, rfl, z1, z2⟩ := vals2 r1
      cases z1; cases z2
      have J : ∀ (R : It → Hp → Prop), EndG (fun as H it J => ItRel T as H it J) T as1 H1 W σ (.ok (itZip x y) h1) R → R (Itzk X.K k1 k2 a b) H1 := fun R e => by
        rw [hK]
        exact e.done B.R (itRel_zip f1 f2)
      have q := J R e1
      rw [← hK] at q1 q2
      obtain ⟨us1, _, p1, la⟩ := srcK I1 q1
      obtain ⟨us2, _, p2, lb⟩ := srcK I1 q2
      refine zip_begins2 (beginK k1 a us1.toArray) (beginK k2 b us2.toArray) p1 p2 fun h' hz hTI hTO h1' h2' hsz hk => wpAny_pyIter_zip hz ?_
      have I2 : L2.Inv X pins σ H1 { s1 with heap := h' } := I1.kept (t' := s1.toks) hk
      generalize hN : s1.heap.objs.size = N at *
      have D : ZipSep2 (N + 4) (N + 2) (N + 3) N (N + 1) [N, a] [N + 1, b] := zip_sep2 (fp1 := [a]) (fp2 := [b]) (by intro c hc; simp only [List.mem_singleton] at hc; subst hc; exact la) (by intro c hc; simp only [List.mem_singleton] at hc; subst hc; exact lb)
      refine ⟨N + 4, [N + 4, N + 2, N + 3, N, N + 1], _, _, H1, rfl, I2, turn_zk D (Nat.ne_of_lt la) (Nat.ne_of_lt (Nat.lt_succ_of_lt lb)), ⟨hz, hTI, ⟨_, _, hTO⟩, itS_new h1', itS_new h2'⟩, fun c hcm => ?_, q⟩
      have hle : s1.heap.objs.size ≤ c := by
        rw [hN]
        simp only [List.mem_cons, List.not_mem_nil, or_false] at hcm
        rcases hcm with rfl | rfl | rfl | rfl | rfl
        · exact Nat.le_add_right _ _
        · exact Nat.le_add_right _ _
        · exact Nat.le_add_right _ _
        · exact Nat.le_refl _
        · exact Nat.le_add_right _ _
      exact I1.fpOk hle (I1.hok.fresh hle)
    · exact e1.elim
  · exact e1.elim
/-- range(n), range(a, b) walked -/
def rng1M (zs : List MV) : M IT := fun h => match zs with
  | [.int j] => if -(2 ^ 62) ≤ j ∧ j < 2 ^ 62 then .ok (itRng 0 j.toNat) h else .stuck
  | _ => .stuck
def rng2M (zs : List MV) : M IT := fun h => match zs with
  | [.int i, .int j] => if (-(2 ^ 62) ≤ i ∧ i < 2 ^ 62) ∧ -(2 ^ 62) ≤ j ∧ j < 2 ^ 62 then .ok (itRng i (j - i).toNat) h else .stuck
  | _ => .stuck
def mRng1 (r : En → M (List MV)) : En → M IT := fun ρ h => (r ρ h).bind rng1M
def mRng2 (r : En → M (List MV)) : En → M IT := fun ρ h => (r ρ h).bind rng2M
theorem pim_rng1 {tg : Expr} (hg : Gl X "range") (hm : X.mg "range" = none) (ha : PA X [e] (rdA T W mr)) (hs : starEach [e] X.env = [(false, eval e X.env)] := by rfl) : PI X tg (.Call (.Name "range" p) [e] [] pos) (rdI T W (mRng1 mr)) :=
  pi_mono (pi_range1 hg hm ha hs) fun σ H R ⟨as, h, ρ, Rs, E, e⟩ => by
    refine (EndG.bind Rs E e).mono fun V H1 ⟨as1, h1, xs, B, e1⟩ => ?_
    unfold rng1M at e1
    split at e1
    · obtain ⟨u, rfl, r⟩ := repL_one B.r
      split at e1
      · rename_i hb
        rw [rep_int r]
        exact ⟨_, rfl, hb.1, hb.2, e1.done B.R itRel_rng⟩
      · exact e1.elim
    · exact e1.elim
theorem pim_rng2 {tg : Expr} (hg : Gl X "range") (hm : X.mg "range" = none) (ha : PA X [e, e2] (rdA T W mr)) (hs : starEach [e, e2] X.env = [(false, eval e X.env), (false, eval e2 X.env)] := by rfl) (hs2 : starEach [e2] X.env = [(false, eval e2 X.env)] := by rfl) : PI X tg (.Call (.Name "range" p) [e, e2] [] pos) (rdI T W (mRng2 mr)) :=
  pi_mono (pi_range2 hg hm ha hs hs2) fun σ H R ⟨as, h, ρ, Rs, E, e⟩ => by
    refine (EndG.bind Rs E e).mono fun V H1 ⟨as1, h1, xs, B, e1⟩ => ?_
    unfold rng2M at e1
    split at e1
    · obtain ⟨u, v, rfl, r, r2⟩ := repL_two B.r
      split at e1
      · rename_i hb
        rw [rep_int r, rep_int r2]
        exact ⟨_, _, rfl, ⟨hb.1.1, hb.1.2, hb.2.1, hb.2.2⟩, e1.done B.R itRel_rng⟩
      · exact e1.elim
    · exact e1.elim
end
end Cutp

/-! CutCall: defs of the text and their calls. -/
namespace Cutp
open PySem PySem.Spec PyProof.Rows L2

/-- the promise: the def does what its mirror does -/
def prom (T : Tb) (n : Nat) (fm : List MV → M MV) : Sp := fun vs H Q E => vs.length = n ∧ ∃ as h xs, Rst T as H h ∧ RepL T as H xs vs ∧ EndG (RepV T) T as H (fun c d _ H' => E c d H') [] (fm xs h) Q
/-- a def at f that keeps it, by at most k calls one in another; nothing is being shown around it -/
structure FnG (P : Program) (w : World) (mg : Str → Option Value) (base : Heap) (T : Tb) (k : Nat) (f : Addr) (fd : FuncData) (ps : List Str) (fm : List MV → M MV) : Prop where
  run : ∀ (A : Around) (outer : List Env) (s : Shared) (H : Hp) (args : Args) (us : List Value) (vs : List V) (Q : VK) (E : XK), Room k A → A.guards = some [] → Env0 P w T.K mg base A outer s H →
    BindsTo s fd args (ps.zip us) → Vals vs us → prom T ps.length fm vs H Q E → codeAny (model P w) A (.call (.ref f) args) (CR (L2.CX P w) outer P w H s Q E) s
theorem FnG.mono {P : Program} {w : World} {mg : Str → Option Value} {base : Heap} {T : Tb} {j k : Nat} {f : Addr} {fd : FuncData} {ps : List Str} {fm : List MV → M MV} (F : FnG P w mg base T j f fd ps fm) (h : j ≤ k) : FnG P w mg base T k f fd ps fm :=
  ⟨fun A outer s H args us vs Q E hr => F.run A outer s H args us vs Q E (hr.mono h)⟩
/-- a def's body, run at the parameters -/
def runD (n : Nat) (m : SM) (xs : List MV) : M MV := fun h => match m (xs.map some ++ List.replicate (n - xs.length) none) h with
  | .nx _ h' => .ok .non h'
  | .rt v h' => .ok v h'
  | .exc x _ h' => .exc x h'
  | _ => .stuck
theorem repE_start {T : Tb} {as : List Addr} {H : Hp} {N : List Str} {xs : List MV} {vs : List V} (r : RepL T as H xs vs) : RepE T as H (xs.map some ++ List.replicate (N.length - xs.length) none) (L2.start N vs) := by
  refine ⟨by unfold L2.start; simp [r.length], fun i v q => ?_⟩
  by_cases hi : i < xs.length
  · rw [List.getElem?_append_left (by simpa using hi), List.getElem?_map] at q
    cases z : xs[i]? with
    | none => rw [z] at q; cases q
    | some y =>
      rw [z] at q
      cases q
      obtain ⟨u, hu, ru⟩ := r.get z
      refine ⟨u, ?_, ru⟩
      unfold L2.start
      rw [List.getElem?_append_left (by simpa [← r.length] using hi), List.getElem?_map, hu]
      rfl
  · rw [List.getElem?_append_right (by simpa using hi), List.getElem?_replicate] at q
    split at q <;> cases q
/-- THE RULE: a def by its body -/
theorem fnG_of {P : Program} {w : World} {mg : Str → Option Value} {base : Heap} {T : Tb} {k : Nat} {f : Addr} {nm qn : Str} {par : Arguments} {bd : List Stmt} {sc : Scope} {v1 v2 v3 v4 v5 v6 v7 : Value} {a1 a2 : Option Addr}
    {sl : Array (Option Value)} {N ps : List Str} {m : SM} (l : T.K.lookup f = some ⟨v7, a2, .func (PySem.W.fnOf nm qn par bd sc v1 v2 v3 v4 a1 v5 v6), sl⟩) (c : PySem.W.codeIn T.K v5 qn = true) (S : FnScope N ps sc)
    (body : ∀ (A : Around) (outer : List Env) (s : Shared) (H : Hp) (E : XK), Room k (A.deeper (envOfC qn sc s.heap.objs.size f v5)) → A.guards = some [] →
      PSs (cxOf (L2.CX P w) P w T.K mg base N qn sc f v5 A outer s H E) bd (rdS T (fun c d _ H' => E c d H') m)) :
    FnG P w mg base T (k + 1) f (PySem.W.fnOf nm qn par bd sc v1 v2 v3 v4 a1 v5 v6) ps (runD N.length m) := by
  constructor
  intro A outer s H args us vs Q E room hgd e0 bnd rel pr
  obtain ⟨len, as, h, xs, R, rL, fin⟩ := pr
  have inK : T.K.In s.heap := e0.mod.kin.keeps fun b o q => (e0.bs b o q).1
  have noL : s.heap.NoLimit := e0.mod.nolimit.keeps fun b o q => (e0.bs b o q).1
  have kinds : ∀ y ∈ ps.zip us, sc.names.lookup y.1 = some .local ∨ (sc.names.lookup y.1 = some .cell ∧ ((cellsFrom (s.heap.objs.size + 1) sc.names []).lookup y.1).isSome = true) := by
    intro y hy
    rcases S.par y.1 (List.of_mem_zip (a := y.1) (b := y.2) hy).1 with q | q
    · exact .inl q
    · exact .inr ⟨q, PySem.W.cellsFrom_some _ _ _ (.inl q)⟩
  apply codeAny_call_function room.depth (inK _ _ l) rfl S.co S.gen rfl (PySem.W.codeRec_of inK c) (bnd _ _ _ _ ?_)
  apply wpAny_newFunctionEnv_cells S.kind kinds
  intro env he s1 x
  subst he
  refine ⟨noL.keeps x.toInCall.keep, codeAny_func ?_⟩
  have I := inv_start (CX := L2.CX P w) (E := E) S room.hd e0 len rel x
  have D : rdS T (fun c d _ H' => E c d H') m { nx := fun _ H' => Q .non H', rt := Q } (L2.start N vs) H := by
    refine ⟨as, h, _, R, repE_start (N := N) rL, ?_⟩
    unfold runD at fin
    generalize m (xs.map some ++ List.replicate (N.length - xs.length) none) h = r at fin ⊢
    cases r with
    | nx ρ h' => exact fun σ H' as' s R' _ => fin .non H' as' s R' (by unfold RepV; rfl)
    | rt v h' => exact fin
    | exc x ρ h' => exact fun cl d σ H' as' s R' _ rx => fin cl d H' as' s R' rx
    | _ => exact fin.elim
  have B := (body A outer s H E (room.deeper _) hgd).run [] s1 (L2.start N vs) H _ I D
  refine wpAny_mono B (fun fl s' z => ?_) fun _ _ z => z
  cases fl with
  | ret u =>
    obtain ⟨v, σ', H', J, rv, q⟩ := z
    exact ⟨v, H', J.os, J.bare, J.base, J.hok, rv, q⟩
  | next =>
    obtain ⟨σ', H', J, q⟩ := z
    exact ⟨.non, H', J.os, J.bare, J.base, J.hok, rfl, q⟩
  | brk => obtain ⟨_, _, _, q⟩ := z; exact False.elim q
  | cont => obtain ⟨_, _, _, q⟩ := z; exact False.elim q

section
variable {X : Cx} {T : Tb} {W : WX} {pos : Pos} {k : Nat} {f : Addr} {fd : FuncData} {ps : List Str} {fm : List MV → M MV}
/-- a call, its arguments bound as bnd says -/
theorem run_G {pins : List (Addr × Obj)} {σ : L2.St} {H : Hp} {s : Shared} {Q : VK} {args : Args} {us : List Value} {vs : List V} (hK : X.K = T.K) (F : FnG X.prog X.w X.mg X.base T k f fd ps fm) (hr : Room k X.A) (hg : X.A.guards = some []) (tk : Takes X W)
    (I : Inv X pins σ H s) (bnd : BindsTo s fd args (ps.zip us)) (r : Vals vs us) (h : prom T ps.length fm vs H Q (fun c d H' => W c d σ H')) : wpAny (model X.prog X.w) X.A (runValue (.call (.ref f) args)) (EP X pins σ Q) X.xe s := by
  have e0 : Env0 X.prog X.w T.K X.mg X.base X.A X.stack s H := by rw [← hK]; exact I.env0
  refine wpAny_runValue (codeAny_mono (F.run X.A X.stack s H args us vs Q _ hr hg e0 bnd r h) fun r s' hq => ?_)
  cases r with
  | error e => exact tk e s' (XE.of_call (E := fun c d H' => W c d σ H') I (fun _ _ _ z => z) hq)
  | ok fl =>
    cases fl with
    | ret u => exact I.after hq
    | _ => exact False.elim hq

variable {x : Str} {p : Pos} {a : Expr} {es : List Expr} {mr : En → M (List MV)} {dvs : List V} {ds : List Value} {dms : List MV}
/-- what a def gets: the written arguments, then the defaults -/
def mCall (n : Nat) (fm : List MV → M MV) (dms : List MV) (r : En → M (List MV)) : En → M MV := fun ρ h => (r ρ h).bind fun xs h1 => if xs.length + dms.length = n then fm (xs ++ dms) h1 else .stuck
theorem call_prom {n : Nat} {as : List Addr} {H : Hp} {h : Hm} {σ : L2.St} {xs : List MV} {vs : List V} {Q : VK} (hd : ∀ as H, RepL T as H dms dvs) (R : Rst T as H h) (r : RepL T as H xs vs)
    (e : EndG (RepV T) T as H W σ (if xs.length + dms.length = n then fm (xs ++ dms) h else .stuck) Q) : prom T n fm (vs ++ dvs) H Q (fun c d H' => W c d σ H') := by
  split at e
  · rename_i hl
    refine ⟨by rw [List.length_append, ← r.length, ← (hd as H).length]; exact hl, as, h, xs ++ dms, R, r.app (hd as H), ?_⟩
    revert e
    cases fm (xs ++ dms) h with
    | ok v h' => exact id
    | exc x h' => exact id
    | stuck => exact id
  · exact e.elim
theorem pm_call (hK : X.K = T.K) (F : FnG X.prog X.w X.mg X.base T k f fd ps fm) (hr : Room k X.A) (hg : X.A.guards = some []) (tk : Takes X W) (gl : Gl X x) (hm : X.mg x = some (.ref f)) (hk : PySem.W.keepIn T.K (.ref f) = true) (hb : Binds T.K fd ps ds) (hd : ∀ as H, RepL T as H dms dvs) (hv : Vals dvs ds)
    (ha : PA X (a :: es) (rdA T W mr)) (hdb : (x == ("__debug__" : Str)) = false := by decide) (he : starEach (a :: es) X.env = (false, eval a X.env) :: starEach es X.env := by rfl) (hpl : (backTo pos (starEach es X.env)).any (·.1) = false := by rfl) :
    PE X (.Call (.Name x p) (a :: es) [] pos) (rdE T W (mCall ps.length fm dms mr)) := by
  refine ⟨fun pins s σ H Q I q => ?_⟩
  obtain ⟨as, h, ρ, R, E, e⟩ := q
  have hk' : PySem.W.keepIn X.K (.ref f) = true := by rw [hK]; exact hk
  refine wpAny_Call_Name_kw (ld_glob I gl hm ?_ hdb)
  refine PySem.W.callWith_K (h₀ := X.base) I.ok.mod.kin hk' (thn (ha.run pos pins s σ H _ I (EndG.bind R E e)) fun us s1 ⟨vs, H1, I1, rv, as1, h1, xs, B, e1⟩ => ⟨I1.kIn, ?_⟩) he hpl
  have pr := call_prom hd B.R B.r e1
  exact run_G hK F hr hg tk I1 (hb s1 (us ++ ds) |> fun _ => by
    have z := hb s1 us (by rw [← hK]; exact I1.kIn) (by rw [← (rv.append hv).length]; exact pr.1)
    exact z) (rv.append hv) pr
theorem pm_call0 (hK : X.K = T.K) (F : FnG X.prog X.w X.mg X.base T k f fd ps fm) (hr : Room k X.A) (hg : X.A.guards = some []) (tk : Takes X W) (gl : Gl X x) (hm : X.mg x = some (.ref f)) (hk : PySem.W.keepIn T.K (.ref f) = true) (hb : Binds T.K fd ps ds) (hd : ∀ as H, RepL T as H dms dvs) (hv : Vals dvs ds)
    (hdb : (x == ("__debug__" : Str)) = false := by decide) : PE X (.Call (.Name x p) [] [] pos) (rdE T W (mCall ps.length fm dms mNil)) := by
  refine ⟨fun pins s σ H Q I q => ?_⟩
  obtain ⟨as, h, ρ, R, E, e⟩ := q
  have hk' : PySem.W.keepIn X.K (.ref f) = true := by rw [hK]; exact hk
  refine wpAny_Call_Name_kw (ld_glob I gl hm ?_ hdb)
  have pr := call_prom (vs := []) hd R RepL.nil e
  exact PySem.W.callWith_K0 I.kIn hk' (run_G hK F hr hg tk I (hb s [] (by rw [← hK]; exact I.kIn) (by simpa [hv.length] using pr.1)) hv pr)
end
end Cutp
namespace Cutp
open PySem PySem.Spec PyProof.Rows L2
/-! ### calls with keywords -/
/-- items by their places -/
def pick {α : Type} (idx : List Nat) (l : List α) : List α := idx.filterMap fun i => l[i]?
theorem vals_pick {vs : List V} {us : List Value} (r : Vals vs us) : ∀ idx : List Nat, Vals (pick idx vs) (pick idx us)
  | [] => .nil
  | i :: idx => by
    have ih := vals_pick r idx
    unfold pick at ih ⊢
    rw [List.filterMap_cons, List.filterMap_cons]
    cases z : vs[i]? with
    | none => rw [r.none_of z]; exact ih
    | some v =>
      obtain ⟨u, hu, ru⟩ := r.get z
      rw [hu]
      exact .cons ru ih
theorem repL_pick {T : Tb} {as : List Addr} {H : Hp} {xs : List MV} {U : List V} (r : RepL T as H xs U) : ∀ idx : List Nat, RepL T as H (pick idx xs) (pick idx U)
  | [] => RepL.nil
  | i :: idx => by
    have ih := repL_pick r idx
    unfold pick at ih ⊢
    rw [List.filterMap_cons, List.filterMap_cons]
    cases z : xs[i]? with
    | none =>
      have : U[i]? = none := by
        rw [List.getElem?_eq_none_iff, ← r.length]
        exact List.getElem?_eq_none_iff.mp z
      rw [this]; exact ih
    | some v =>
      obtain ⟨u, hu, ru⟩ := r.get z
      rw [hu]
      exact RepL.cons ru ih
section
variable {X : Cx} {T : Tb} {W : WX} {pos kpos : Pos} {k : Nat} {f : Addr} {fd : FuncData} {ps ks : List Str} {fm : List MV → M MV} {x : Str} {p : Pos} {a : Expr} {es : List Expr} {kws : List Keyword} {ma : En → M MV} {mr mk : En → M (List MV)} {idx : List Nat} {n m : Nat} {nm : Option Str}
theorem pk_mono {t t' : TA} (q : PK X kws t) (h : ∀ σ H Q, t' σ H Q → t σ H Q) : PK X kws t' := ⟨fun pos pins s σ H Q I z => q.run pos pins s σ H Q I (h _ _ _ z)⟩
theorem pkm_nil : PK X [] (rdA T W mNil) := pk_mono pk_nil fun _ _ _ ⟨as, h, ρ, R, E, e⟩ => e.done R RepL.nil
theorem pkm_cons (ha : PE X a (rdE T W ma)) (hr : PK X kws (rdA T W mk)) : PK X (⟨nm, a, kpos⟩ :: kws) (rdA T W (mCons ma mk)) :=
  pk_mono (pk_cons ha hr) fun σ H Q ⟨as, h, ρ, R, E, e⟩ => by
    refine (EndG.bind R E e).mono fun x H1 ⟨as1, h1, v, B1, e1⟩ => ?_
    refine (EndG.bind B1.R B1.E e1).mono fun y H2 ⟨as2, h2, u, B2, e2⟩ => ?_
    exact e2.done B2.R (RepL.cons (B1.r.kp (B2.S.kp B1.R)) B2.r)
/-- n written values, then m by name; idx: where each parameter's value stands among them -/
def mCallK (n m q : Nat) (idx : List Nat) (fm : List MV → M MV) (r rk : En → M (List MV)) : En → M MV := fun ρ h => (r ρ h).bind fun xs h1 => (rk ρ h1).bind fun zs h2 =>
  if xs.length = n ∧ zs.length = m ∧ (pick idx (xs ++ zs)).length = q then fm (pick idx (xs ++ zs)) h2 else .stuck
/-- how such a call binds -/
def KwB (K : PySem.W.Frag) (fd : FuncData) (ps ks : List Str) (n m : Nat) (idx : List Nat) : Prop := ∀ (s : Shared) (us ws : List Value), K.In s.heap → us.length = n → ws.length = m → BindsTo s fd ⟨us, ks.zip ws⟩ (ps.zip (pick idx (us ++ ws)))
theorem callK_prom {as : List Addr} {H : Hp} {h : Hm} {σ : L2.St} {xs zs : List MV} {vs ws : List V} {Q : VK} (R : Rst T as H h) (r : RepL T as H xs vs) (rz : RepL T as H zs ws)
    (e : EndG (RepV T) T as H W σ (if xs.length = n ∧ zs.length = m ∧ (pick idx (xs ++ zs)).length = ps.length then fm (pick idx (xs ++ zs)) h else .stuck) Q) : vs.length = n ∧ ws.length = m ∧ prom T ps.length fm (pick idx (vs ++ ws)) H Q (fun c d H' => W c d σ H') := by
  split at e
  · rename_i hl
    have rr := repL_pick (r.app rz) idx
    refine ⟨by rw [← r.length]; exact hl.1, by rw [← rz.length]; exact hl.2.1, by rw [← rr.length]; exact hl.2.2, as, h, _, R, rr, ?_⟩
    revert e
    cases fm (pick idx (xs ++ zs)) h with
    | ok v h' => exact id
    | exc x h' => exact id
    | stuck => exact id
  · exact e.elim
theorem pm_callK (hK : X.K = T.K) (F : FnG X.prog X.w X.mg X.base T k f fd ps fm) (hr : Room k X.A) (hg : X.A.guards = some []) (tk : Takes X W) (gl : Gl X x) (hm : X.mg x = some (.ref f)) (hk : PySem.W.keepIn T.K (.ref f) = true) (hb : KwB T.K fd ps ks n m idx)
    (ha : PA X (a :: es) (rdA T W mr)) (hkw : PK X kws (rdA T W mk)) (hall : (backToKw pos (keywordEach kws X.env)).all (·.1.isSome) = true := by rfl) (hks : (backToKw pos (keywordEach kws X.env)).filterMap (·.1) = ks := by rfl)
    (hdb : (x == ("__debug__" : Str)) = false := by decide) (he : starEach (a :: es) X.env = (false, eval a X.env) :: starEach es X.env := by rfl)
    (hpl : ((backTo pos (starEach (a :: es) X.env)).any (·.1) || (backToKw pos (keywordEach kws X.env)).any (·.1.isNone)) = false := by rfl) :
    PE X (.Call (.Name x p) (a :: es) kws pos) (rdE T W (mCallK n m ps.length idx fm mr mk)) := by
  refine ⟨fun pins s σ H Q I q => ?_⟩
  obtain ⟨as, h, ρ, R, E, e⟩ := q
  have hk' : PySem.W.keepIn X.K (.ref f) = true := by rw [hK]; exact hk
  refine wpAny_Call_Name_kw (ld_glob I gl hm ?_ hdb)
  refine PySem.W.callWith_KW (h₀ := X.base) I.ok.mod.kin hk' hall (thn (ha.run pos pins s σ H _ I (EndG.bind R E e)) fun us s1 ⟨vs, H1, I1, r1, as1, h1, xs, B, e1⟩ => ?_) hpl he
  refine thn (hkw.run pos pins s1 σ H1 _ I1 (EndG.bind B.R B.E e1)) fun ws s2 ⟨zs, H2, I2, r2, as2, h2, zm, B2, e2⟩ => ⟨I2.kIn, ?_⟩
  rw [hks]
  obtain ⟨l1, l2, pr⟩ := callK_prom B2.R (B.r.kp (B2.S.kp B.R)) B2.r e2
  exact run_G hK F hr hg tk I2 (hb s2 us ws (by rw [← hK]; exact I2.kIn) (by rw [← r1.length]; exact l1) (by rw [← r2.length]; exact l2)) (vals_pick (r1.append r2) idx) pr
theorem pm_callK0 (hK : X.K = T.K) (F : FnG X.prog X.w X.mg X.base T k f fd ps fm) (hr : Room k X.A) (hg : X.A.guards = some []) (tk : Takes X W) (gl : Gl X x) (hm : X.mg x = some (.ref f)) (hk : PySem.W.keepIn T.K (.ref f) = true) (hb : KwB T.K fd ps ks 0 m idx)
    (hkw : PK X kws (rdA T W mk)) (hall : (backToKw pos (keywordEach kws X.env)).all (·.1.isSome) = true := by rfl) (hks : (backToKw pos (keywordEach kws X.env)).filterMap (·.1) = ks := by rfl)
    (hdb : (x == ("__debug__" : Str)) = false := by decide)
    (hpl : ((backTo pos (starEach [] X.env)).any (·.1) || (backToKw pos (keywordEach kws X.env)).any (·.1.isNone)) = false := by rfl) :
    PE X (.Call (.Name x p) [] kws pos) (rdE T W (mCallK 0 m ps.length idx fm mNil mk)) := by
  refine ⟨fun pins s σ H Q I q => ?_⟩
  obtain ⟨as, h, ρ, R, E, e⟩ := q
  have hk' : PySem.W.keepIn X.K (.ref f) = true := by rw [hK]; exact hk
  refine wpAny_Call_Name_kw (ld_glob I gl hm ?_ hdb)
  refine PySem.W.callWith_KW0 (h₀ := X.base) I.ok.mod.kin hk' hall (thn (hkw.run pos pins s σ H _ I (EndG.bind R E e)) fun ws s2 ⟨zs, H2, I2, r2, as2, h2, zm, B2, e2⟩ => ⟨I2.kIn, ?_⟩) hpl
  rw [hks]
  obtain ⟨l1, l2, pr⟩ := callK_prom (vs := []) B2.R RepL.nil B2.r e2
  exact run_G hK F hr hg tk I2 (hb s2 [] ws (by rw [← hK]; exact I2.kIn) rfl (by rw [← r2.length]; exact l2)) (vals_pick (Vals.append .nil r2) idx) pr
end
end Cutp

/-! CutMore: truth, and/or/not as values, chains, written dicts, calls of a name that holds a def, list methods. -/
theorem L2.Room.un64 {k : Nat} {A : PySem.Around} (r : L2.Room k A) : A.units + 64 < PySem.cLine := by
  have := r.un
  omega
namespace Cutp
open PySem PySem.Spec PyProof.Rows L2

section
variable {X : Cx} {T : Tb} {W : WX} {pos : Pos} {a b c : Expr} {ma mb mc : En → M MV} {rest : List Expr}
theorem truM_h {v : MV} {h h2 : Hm} {c : Bool} (e : truM v h = .ok c h2) : h2 = h := by
  unfold truM at e
  repeat' first | (cases e; rfl) | cases e | split at e
theorem tru_step {γ δ : Type} {rep : List Addr → Hp → γ → δ → Prop} {as : List Addr} {H : Hp} {h : Hm} {v : MV} {U : V} {σ : L2.St} {k : Bool → M γ} {Q : δ → Hp → Prop} (hK : X.K = T.K) (R : Rst T as H h) (r : RepV T as H v U)
    (e : EndG rep T as H W σ ((truM v h).bind k) Q) : ∃ c, TruV X.K U H c ∧ EndG rep T as H W σ (k c h) Q := by
  cases q : truM v h with
  | ok c h2 =>
    have e2 := truM_h q
    subst e2
    rw [q] at e
    have z : EndG (fun _ _ (a b : Bool) => a = b) T as H W σ (truM v h2) (fun c' _ => c' = c) := by
      rw [q]
      exact fun V _ _ _ _ x => x.symm
    obtain ⟨k', h1, h2⟩ := truM_run hK R r z
    subst h2
    exact ⟨_, h1, e⟩
  | exc x h2 =>
    exfalso
    unfold truM at q
    repeat' first | cases q | split at q
  | stuck =>
    rw [q] at e
    exact e.elim
theorem ptm_truth (hK : X.K = T.K) (ha : PE X a (rdE T W ma)) (he : ∀ whole, isTrue a X.env whole = (do let v ← whole; standAt a.pos; holding [v] (truthy v)) := by intro _; rfl) : PT X a (rdT T W (mTru ma)) :=
  pt_mono (pt_truth ha he) fun σ H Q ⟨as, h, ρ, R, E, e⟩ => (EndG.bind R E e).mono fun x H1 ⟨as1, h1, v, B, e1⟩ => truM_run hK B.R B.r e1
theorem pm_andV (hK : X.K = T.K) (ha : PE X a (rdE T W ma)) (hb : PE X (.BoolOp .And (b :: rest) pos) (rdE T W mb)) : PE X (.BoolOp .And (a :: b :: rest) pos) (rdE T W (mAndV ma mb)) :=
  pe_mono (pe_andT ha hb) fun σ H Q ⟨as, h, ρ, R, E, e⟩ => (EndG.bind R E e).mono fun x H1 ⟨as1, h1, v, B, e1⟩ => by
    obtain ⟨k, t, e2⟩ := tru_step hK B.R B.r e1
    refine ⟨k, t, ?_⟩
    cases k with
    | true => exact iteT ⟨as1, h1, ρ, B.R, B.E, e2⟩
    | false => exact iteF (EndG.done e2 B.R B.r)
theorem pm_orV (hK : X.K = T.K) (ha : PE X a (rdE T W ma)) (hb : PE X (.BoolOp .Or (b :: rest) pos) (rdE T W mb)) : PE X (.BoolOp .Or (a :: b :: rest) pos) (rdE T W (mOrV ma mb)) :=
  pe_mono (pe_orT ha hb) fun σ H Q ⟨as, h, ρ, R, E, e⟩ => (EndG.bind R E e).mono fun x H1 ⟨as1, h1, v, B, e1⟩ => by
    obtain ⟨k, t, e2⟩ := tru_step hK B.R B.r e1
    refine ⟨k, t, ?_⟩
    cases k with
    | false => exact iteF ⟨as1, h1, ρ, B.R, B.E, e2⟩
    | true => exact iteT (EndG.done e2 B.R B.r)
theorem pm_notV (hK : X.K = T.K) (ha : PE X a (rdE T W ma)) : PE X (.UnaryOp .Not a pos) (rdE T W (mNotV ma)) :=
  pe_mono (pe_notT ha) fun σ H Q ⟨as, h, ρ, R, E, e⟩ => (EndG.bind R E e).mono fun x H1 ⟨as1, h1, v, B, e1⟩ => by
    obtain ⟨k, t, e2⟩ := tru_step hK B.R B.r e1
    exact ⟨k, t, EndG.bl e2 B.R⟩
theorem chain_run {r r' : R2} {f g : MV → MV → M MV} (hf : Ref2 T r f) (hg : Ref2 T r' g) {σ : L2.St} {H : Hp} {Q : VK} (q : rdE T W (mChain f g ma mb mc) σ H Q) : tChain r r' (rdE T W ma) (rdE T W mb) (rdE T W mc) σ H Q := by
  obtain ⟨as, h, ρ, R, E, e⟩ := q
  refine (EndG.bind R E e).mono fun x H1 ⟨as1, h1, v, B, e1⟩ => ?_
  refine (EndG.bind B.R B.E e1).mono fun y H2 ⟨as2, h2, u, B2, e2⟩ => ?_
  refine hf (W := W) (σ := σ) B2.R (B.r.kp (B2.S.kp B.R)) B2.r ?_
  have e3 := EndG.bind (rep := RepV T) (ρ := ρ) (σ := σ) (m := fun _ => f v u) B2.R B2.E e2
  obtain ⟨as', h', ρ', R', E', e3⟩ := e3
  clear as' h' ρ' R' E' e3
  cases q : f v u h2 with
  | ok z h3 =>
    rw [q] at e2
    intro Z H3 as3 s3 R3 rz
    have e2' := EndG.weaken s3 e2
    dsimp only [Res.bind_ok] at e2'
    cases z with
    | bl k =>
      refine ⟨k, rep_bl rz, ?_⟩
      cases k with
      | true =>
        refine iteT ?_
        refine (EndG.bind R3 (B2.E.kp (s3.kp B2.R)) e2').mono fun w H4 ⟨as4, h4, wv, B4, e4⟩ => ?_
        exact hg B4.R ((B2.r.kp (s3.kp B2.R)).kp (B4.S.kp R3)) B4.r e4
      | false => exact iteF (EndG.bl e2' R3)
    | _ => exact e2'.elim
  | exc x h3 =>
    rw [q] at e2
    exact e2
  | stuck =>
    rw [q] at e2
    exact e2
theorem pm_chain {op op' : CmpOp} {r r' : R2} {f g : MV → MV → M MV} (ho : OpR X (compareOp op) r) (ho' : OpR X (compareOp op') r') (hf : Ref2 T r f) (hg : Ref2 T r' g) (ha : PE X a (rdE T W ma)) (hb : PE X b (rdE T W mb)) (hc : PE X c (rdE T W mc))
    (hm : lastMarks [op, op'] [b, c] = false := by with_unfolding_all rfl) : PE X (.Compare a [op, op'] [b, c] pos) (rdE T W (mChain f g ma mb mc)) :=
  pe_mono (pe_chain ho ho' ha hb hc hm) fun _ _ _ q => chain_run hf hg q
theorem ptm_chain {op op' : CmpOp} {r r' : R2} {f g : MV → MV → M MV} (ho : OpR X (compareOp op) r) (ho' : OpR X (compareOp op') r') (hf : Ref2 T r f) (hg : Ref2 T r' g) (ha : PE X a (rdE T W ma)) (hb : PE X b (rdE T W mb)) (hc : PE X c (rdE T W mc))
    (hm : lastMarks [op, op'] [b, c] = false := by with_unfolding_all rfl) : PT X (.Compare a [op, op'] [b, c] pos) (rdT T W (mTest (mChain f g ma mb mc))) :=
  pt_mono (pt_chain ho ho' ha hb hc hm) fun _ _ _ q => chain_run hf hg (test_run q)
theorem pm_glob {x : Str} {v : MV} {U : V} {u : Value} (hg : Gl X x) (hm : X.mg x = some u) (r : RelV U u) (rv : ∀ as H, RepV T as H v U) (hd : (x == ("__debug__" : Str)) = false := by decide) : PE X (.Name x pos) (rdE T W (mC v)) :=
  pm_c (pe_glob hg hm r hd) rv
theorem pm_ty {x : Str} {n : String} (hg : Gl X x) (hm : X.mg x = none) (hv : bootBuiltins x = some (.type n)) (hn : x ≠ "__name__" := by decide) (hd : (x == ("__debug__" : Str)) = false := by decide) : PE X (.Name x pos) (rdE T W (mC (.ty n))) :=
  pm_c (pe_bltn (v := .ty n) hg hm hv rfl hn hd) fun _ _ => by unfold RepV; rfl

/-! ### a written dict, text keys -/
/-- look: for the texts that it is asked: is it a key -/
def kdM (neg : Bool) (look : Str → Option Bool) (x : MV) : M MV := fun h => match x with
  | .str z => match look z with
    | some b => .ok (.bl (if neg then !b else b)) h
    | none => .stuck
  | _ => .stuck
def KdLook (K : PySem.W.Frag) (d : Addr) (look : Str → Option Bool) : Prop := ∀ z b, look z = some b → ∃ r, PySem.W.nsIn K d z = some r ∧ b = r.isSome
theorem kd_run {d : Addr} {look : Str → Option Bool} {neg : Bool} {ta : TE} (hK : X.K = T.K) (hl : KdLook T.K d look) (ht : ta = tC (.ref d)) {σ : L2.St} {H : Hp} {Q : VK} (q : rdE T W (mUn (kdM neg look) ma) σ H Q) :
    tOp (fun x y H Q => ∃ (z : Str) (r : Option Value), x = .str z ∧ y = .ref d ∧ PySem.W.nsIn X.K d z = some r ∧ Q (.bl (if neg then !r.isSome else r.isSome)) H) (rdE T W ma) ta σ H Q := by
  subst ht
  obtain ⟨as, h, ρ, R, E, e⟩ := q
  refine (EndG.bind R E e).mono fun x H1 ⟨as1, h1, v, B, e1⟩ => ?_
  unfold kdM at e1
  split at e1
  · rename_i z
    split at e1
    · rename_i b hb
      obtain ⟨r, h2, h3⟩ := hl z b hb
      subst h3
      exact ⟨z, r, rep_str B.r, rfl, hK ▸ h2, EndG.bl e1 B.R⟩
    · exact e1.elim
  · exact e1.elim
theorem pm_kdIn {d : Addr} {es : Array DictEntry} {n : Nat} {look : Str → Option Bool} (hK : X.K = T.K) (D : KDict X.K X.w d es n) (hl : KdLook T.K d look) (ha : PE X a (rdE T W ma)) (hb : PE X b (tC (.ref d))) (hm : behindInMarks .In b = false) : PE X (.Compare a [.In] [b] pos) (rdE T W (mUn (kdM false look) ma)) :=
  pe_mono (pe_cmpR (op_in_kd D) ha hb hm) fun _ _ _ q => kd_run (neg := false) hK hl rfl q
theorem pm_kdNotIn {d : Addr} {es : Array DictEntry} {n : Nat} {look : Str → Option Bool} (hK : X.K = T.K) (D : KDict X.K X.w d es n) (hl : KdLook T.K d look) (ha : PE X a (rdE T W ma)) (hb : PE X b (tC (.ref d))) (hm : behindInMarks .NotIn b = false) : PE X (.Compare a [.NotIn] [b] pos) (rdE T W (mUn (kdM true look) ma)) :=
  pe_mono (pe_cmpR (op_notIn_kd D) ha hb hm) fun _ _ _ q => kd_run (neg := true) hK hl rfl q
theorem ptm_kdIn {d : Addr} {es : Array DictEntry} {n : Nat} {look : Str → Option Bool} (hK : X.K = T.K) (D : KDict X.K X.w d es n) (hl : KdLook T.K d look) (ha : PE X a (rdE T W ma)) (hb : PE X b (tC (.ref d))) (hm : behindInMarks .In b = false) : PT X (.Compare a [.In] [b] pos) (rdT T W (mTest (mUn (kdM false look) ma))) :=
  pt_mono (pt_cmpR (op_in_kd D) ha hb hm) fun _ _ _ q => kd_run (neg := false) hK hl rfl (test_run q)
theorem ptm_kdNotIn {d : Addr} {es : Array DictEntry} {n : Nat} {look : Str → Option Bool} (hK : X.K = T.K) (D : KDict X.K X.w d es n) (hl : KdLook T.K d look) (ha : PE X a (rdE T W ma)) (hb : PE X b (tC (.ref d))) (hm : behindInMarks .NotIn b = false) : PT X (.Compare a [.NotIn] [b] pos) (rdT T W (mTest (mUn (kdM true look) ma))) :=
  pt_mono (pt_cmpR (op_notIn_kd D) ha hb hm) fun _ _ _ q => kd_run (neg := true) hK hl rfl (test_run q)
/-- d[key] -/
def kdItM (itm : Str → Option MV) (x : MV) : M MV := fun h => match x with
  | .str z => match itm z with
    | some v => .ok v h
    | none => .stuck
  | _ => .stuck
def KdItems (T : Tb) (w : World) (d : Addr) (itm : Str → Option MV) : Prop := ∀ z m, itm z = some m → ∃ v, KDct T.K w d z v ∧ ∀ as H, RepV T as H m v
theorem pm_kdItem {d : Addr} {itm : Str → Option MV} (hK : X.K = T.K) (hl : KdItems T X.w d itm) (ha : PE X a (rdE T W ma)) (hb : PE X b (tC (.ref d))) (hs : PlainIx a) : PE X (.Subscript b a pos) (rdE T W (mUn (kdItM itm) ma)) :=
  pe_mono (pe_ix ix_kdict hb ha hs) fun σ H Q ⟨as, h, ρ, R, E, e⟩ => by
    refine (EndG.bind R E e).mono fun x H1 ⟨as1, h1, v, B, e1⟩ => ?_
    unfold kdItM at e1
    split at e1
    · rename_i z
      split at e1
      · rename_i m hm
        obtain ⟨u, h2, h3⟩ := hl z m hm
        refine ⟨d, z, u, rfl, rep_str B.r, hK ▸ h2, EndG.done e1 B.R (h3 _ _)⟩
      · exact e1.elim
    · exact e1.elim
end

/-! ### a call of a name that holds a def -/
section
variable {X : Cx} {T : Tb} {W : WX} {pos p : Pos} {k i : Nat} {x : Str} {a : Expr} {es : List Expr} {mr : En → M (List MV)}
def mCallV (cal : Nat → Option (Nat × (List MV → M MV))) (i : Nat) (r : En → M (List MV)) : En → M MV := fun ρ h => match ρ[i]? with
  | some (some (.gl g)) => match cal g with
    | some (n, fm) => (r ρ h).bind fun xs h1 => if xs.length = n then fm xs h1 else .stuck
    | none => .stuck
  | _ => .stuck
def Cals (P : Program) (w : World) (mg : Str → Option Value) (base : Heap) (T : Tb) (k : Nat) (cal : Nat → Option (Nat × (List MV → M MV))) : Prop := ∀ g n fm, cal g = some (n, fm) → ∃ fd ps, ps.length = n ∧ FnG P w mg base T k (T.ga g) fd ps fm ∧ PySem.W.keepIn T.K (.ref (T.ga g)) = true ∧ Binds T.K fd ps []
theorem pm_callV {cal : Nat → Option (Nat × (List MV → M MV))} (hK : X.K = T.K) (C : Cals X.prog X.w X.mg X.base T k cal) (hr : Room k X.A) (hg : X.A.guards = some []) (tk : Takes X W) (hN : X.N[i]? = some x) (hv : Vis X.env.scope x) (ha : PA X (a :: es) (rdA T W mr))
    (hdb : (x == ("__debug__" : Str)) = false := by decide) (hcd : (x == ("__classdict__" : Str)) = false := by decide)
    (he : starEach (a :: es) X.env = (false, eval a X.env) :: starEach es X.env := by rfl) (hpl : (backTo pos (starEach es X.env)).any (·.1) = false := by rfl) :
    PE X (.Call (.Name x p) (a :: es) [] pos) (rdE T W (mCallV cal i mr)) := by
  refine ⟨fun pins s σ H Q I q => ?_⟩
  obtain ⟨as, h, ρ, R, E, e⟩ := q
  unfold mCallV at e
  split at e
  · rename_i g hgl
    obtain ⟨V0, hs, rv⟩ := E.at_ i _ hgl
    have rv' : V0 = .ref (T.ga g) := by unfold RepV at rv; exact rv
    subst rv'
    split at e
    · rename_i n fm hc
      obtain ⟨fd, ps, hn, F, hk, hb⟩ := C g n fm hc
      subst hn
      have hk' : PySem.W.keepIn X.K (.ref (T.ga g)) = true := by rw [hK]; exact hk
      refine wpAny_Call_Name_kw (thn ((pe_var (pos := p) hN hv hdb hcd).run pins s σ H (fun v H1 => v = .ref (T.ga g) ∧ H1 = H) I ⟨_, hs, rfl, rfl⟩) fun u s0 ⟨v, H0, I0, r0, q0⟩ => ?_)
      obtain ⟨rfl, rfl⟩ := q0
      cases r0
      refine PySem.W.callWith_K (h₀ := X.base) I0.ok.mod.kin hk' (thn (ha.run pos pins s0 σ _ _ I0 (EndG.bind R E e)) fun us s1 ⟨vs, H1, I1, rv, as1, h1, xs, B, e1⟩ => ⟨I1.kIn, ?_⟩) he hpl
      have e2 : EndG (RepV T) T as1 H1 W σ (if xs.length + ([] : List MV).length = ps.length then fm (xs ++ []) h1 else .stuck) Q := by
        rw [List.append_nil]
        exact e1
      have pr := call_prom (dvs := []) (fun _ _ => RepL.nil) B.R B.r e2
      rw [List.append_nil] at pr
      refine run_G hK F hr hg tk I1 ?_ rv pr
      have z := hb s1 us (by rw [← hK]; exact I1.kIn) (by rw [List.append_nil, ← rv.length]; exact pr.1)
      rw [List.append_nil] at z
      exact z
    · exact e.elim
  · exact e.elim
end

/-! ### list methods -/
section
variable {X : Cx} {T : Tb} {W : WX} {apos cpos : Pos} {o a : Expr} {es : List Expr} {mo : En → M MV} {mr : En → M (List MV)}
theorem pm_append (hK : X.K = T.K) (ho : PE X o (rdE T W mo)) (ha : PA X (a :: es) (rdA T W mr))
    (hbase : attributeBase o "append" X.env (eval o X.env) = eval o X.env := by rfl)
    (hfew : ((backTo cpos (starEach (a :: es) X.env)).all (fun x => !x.1) && (backToKw cpos (keywordEach [] X.env)).all (fun x => x.1.isSome)
      && decide ((a :: es).length + ([] : List Keyword).length + (if ([] : List Keyword).isEmpty then 0 else 1) < 30)) = true := by rfl)
    (hline : (apos.endLine == cpos.line) = true := by rfl) (hs : starEach (a :: es) X.env = (false, eval a X.env) :: starEach es X.env := by rfl) (hplain : (backTo cpos (starEach es X.env)).any (·.1) = false := by rfl) :
    PE X (.Call (.Attribute o "append" apos) (a :: es) [] cpos) (rdE T W (mMeth isLst appendM mo mr)) :=
  pe_mono (pe_bm PySem.F.plainAttrs_list slot_list_append type_list_append mt_append ho ha hbase hfew hline hs hplain) fun _ _ _ q => bm_run hK refTy_lst ref_append q
end
end Cutp

/-! CutEnd: defs of the text behind the top, the law's end. -/
namespace Cutp
open PySem PySem.Spec PyProof.Rows L2

/-- THE RULE for a def of the text -/
theorem okG {P : Program} {w : World} {mg : Str → Option Value} {base : Heap} {T : Tb} {k : Nat} {f : Addr} {fd : FuncData} {nm qn : Str} {st : Stmt} {N ps : List Str} {m : SM} (F : Fun T.K nm qn st f fd) (S : FnScope N ps (defScope st))
    (body : ∀ (cdv : Value) (A : Around) (outer : List Env) (s : Shared) (H : Hp) (E : XK), Room k (A.deeper (envOfC qn (defScope st) s.heap.objs.size f cdv)) → A.guards = some [] →
      PSs (cxOf (L2.CX P w) P w T.K mg base N qn (defScope st) f cdv A outer s H E) (defBody st) (rdS T (fun c d _ H' => E c d H') m)) :
    FnG P w mg base T (k + 1) f fd ps (runD N.length m) := by
  obtain ⟨oc, od, kV, doc, pm, an, cdv, ct, osl, rfl, lk, hcd⟩ := F.ex
  exact fnG_of lk hcd S fun A outer s H E hr hg => body cdv A outer s H E hr hg

/-- a new start: the caller's guards -/
theorem guards0 : callerA.guards = some [] := rfl

section
variable {P : Program} {w : World} {T : Tb} {mg mb : Str → Option Value} {k : Nat} {fa a : Addr} {fd : FuncData} {x : Str} {fm : List MV → M MV} {s₁ : Shared} {vs : List Value} {ns : List Int}
/-- the script as HandS sees it -/
def scriptO (vs : List Value) : Obj := { cls := .type "list", data := .seq vs.toArray }
/-- nothing but the script is tracked -/
def OnlyS (H : Hp) (a : Addr) (vs : List Value) (ns : List Int) : Prop := ∀ b u, H b = some u → b = a ∧ u = .frz (scriptO vs) (.lst (ns.map V.int))
theorem lawG_core {H : Hp} (KX : T.K.In s₁.heap) (hns : s₁.heap.Ns mainGlobals mg) (hb : s₁.heap.Ns builtinsNs mb) (hbb : ∀ x : Str, x ≠ "__name__" → mb x = bootBuiltins x) (hlim : s₁.heap.NoLimit) (hg : s₁.gens = #[])
    (ha : s₁.heap.get? a = some (scriptO vs)) (hi : IntsAre vs ns) (hl : ns.length ≤ sizeLine) (hr : Room k callerA)
    (F : ∀ base : Heap, T.K.In base → base.Ns mainGlobals mg → FnG P w mg base T k fa fd [x] fm) (bd : ∀ (s : Shared) (u : Value), BindsTo s fd ⟨[u], []⟩ [(x, u)])
    (hO : OnlyS H a vs ns) (hS : SqF T.K H a (ns.map V.int)) (hA : H a ≠ none → T.K.lookup a = none) {b : Bool} (end_ : ∃ h', fm [.flst (ns.map .int)] [] = .ok (.bl b) h') :
    codeAny (model P w) callerA (.call (.ref fa) ⟨[.ref a], []⟩) (fun r s' => r = .ok (.ret (.bool b)) ∧ OldK s₁.heap s'.heap ∧ s'.os = s₁.os ∧ AllBare s'.gens) s₁ := by
  have rv := vals_ints hi
  have ok : HOk P w H s₁.heap := fun c u z => by
    obtain ⟨e1, e2⟩ := hO c u z
    subst e1 e2
    exact ⟨ha, by rw [List.length_map]; exact hl, vs, _, rv, ha⟩
  have keepB : ∀ {c : Addr} {o : Obj}, s₁.heap.get? c = some o → (c = a → H a = none) → (hidT s₁.heap H).get? c = some o := fun {c o} e hc => hidT_get e (by
    cases q : H c with
    | none => rfl
    | some u =>
      obtain ⟨e1, _⟩ := hO c u q
      have := hc e1
      rw [e1, this] at q; cases q)
  have space : ∀ {c : Addr} {m : Str → Option Value}, s₁.heap.Ns c m → (hidT s₁.heap H).Ns c m := by
    rintro c m ⟨o, es, ep, e, d, r⟩
    refine ⟨o, es, ep, keepB e fun hc => ?_, d, r⟩
    exfalso
    rw [hc, ha] at e
    cases e
    have d' : Data.seq vs.toArray _ = Data.dict es ep := d
    cases d'
  have inB : T.K.In (hidT s₁.heap H) := fun c o e => keepB (KX c o e) fun hc => by
    cases q : H a with
    | none => rfl
    | some u => rw [hc, hA (by rw [q]; exact fun z => by cases z)] at e; cases e
  obtain ⟨mc, l1, l2⟩ := hlim
  have e0 : Env0 P w T.K mg (hidT s₁.heap H) callerA [] s₁ H :=
    ⟨rfl, ⟨inB, space hns, ⟨mb, space hb, hbb⟩, ⟨mc, space l1, l2⟩⟩, fun _ _ e => of_hidT e, Nat.le_of_eq (hidT_size _ _), trivial, fun c hc => (nomatch hc), ok, .of_eq hg⟩
  obtain ⟨hm, end_⟩ := end_
  have R0 : Rst T [] H [] := ⟨rfl, List.nodup_nil, fun i a o e _ => by simp at e⟩
  have pr : prom T [x].length fm [.ref a] H (fun v _ => v = .bl b) fun _ _ _ => False := by
    refine ⟨rfl, [], [], [.flst (ns.map .int)], R0, ?_, ?_⟩
    · refine RepL.cons ?_ RepL.nil
      unfold RepV
      exact ⟨a, ns.map V.int, rfl, hS, RepL.of_ints⟩
    · rw [end_]
      intro V H' as' _ _ r
      exact rep_bl r
  refine codeAny_mono ((F _ inB (space hns)).run callerA [] s₁ H ⟨[.ref a], []⟩ [.ref a] [.ref a] _ _ hr guards0 e0 (bd s₁ (.ref a)) (.cons rfl .nil) pr) fun r s' z => ?_
  match r, z with
  | .ok (.ret u), ⟨v, H', os, bare, un, ok', rel, q⟩ =>
    have q' : v = .bl b := q
    subst q'
    obtain rfl : u = Value.bool b := rel
    refine ⟨rfl, OldK.of_keep fun c o e => ?_, os, bare⟩
    cases hc : H c with
    | none => exact un.keep c o e hc (fun z => (nomatch z)) (fun z => (nomatch z))
    | some u =>
      obtain ⟨e1, e2⟩ := hO c u hc
      subst e2
      obtain ⟨g, _⟩ := ok' c _ (un.frzs c _ _ hc)
      rw [e1, ha] at e
      cases e
      exact g
  | .error e, z =>
    obtain ⟨_, _, _, _, _, _, _, _, _, _, _, _, z⟩ := z
    exact z.elim
theorem lawG {b : Bool} (KX : T.K.In s₁.heap) (hns : s₁.heap.Ns mainGlobals mg) (hb : s₁.heap.Ns builtinsNs mb) (hbb : ∀ x : Str, x ≠ "__name__" → mb x = bootBuiltins x) (hlim : s₁.heap.NoLimit) (hg : s₁.gens = #[])
    (ha : s₁.heap.get? a = some (scriptO vs)) (hi : IntsAre vs ns) (hl : ns.length ≤ sizeLine) (hr : Room k callerA)
    (F : ∀ base : Heap, T.K.In base → base.Ns mainGlobals mg → FnG P w mg base T k fa fd [x] fm) (bd : ∀ (s : Shared) (u : Value), BindsTo s fd ⟨[u], []⟩ [(x, u)])
    (end_ : ∃ h', fm [.flst (ns.map .int)] [] = .ok (.bl b) h') :
    codeAny (model P w) callerA (.call (.ref fa) ⟨[.ref a], []⟩) (fun r s' => r = .ok (.ret (.bool b)) ∧ OldK s₁.heap s'.heap ∧ s'.os = s₁.os ∧ AllBare s'.gens) s₁ := by
  have len := hi.length
  cases hk : T.K.lookup a with
  | none =>
    refine lawG_core (H := fun c => if c = a then some (.frz (scriptO vs) (.lst (ns.map V.int))) else none) KX hns hb hbb hlim hg ha hi hl hr F bd (fun c u z => ?_) (.inl ⟨scriptO vs, if_pos rfl⟩) (fun _ => hk) end_
    dsimp only at z
    by_cases hc : c = a
    · rw [if_pos hc] at z
      exact ⟨hc, (Option.some.inj z).symm⟩
    · rw [if_neg hc] at z
      cases z
  | some o =>
    have e := KX a o hk
    rw [ha] at e
    cases e
    have wr : ∀ H', SqL T.K H' a (ns.map V.int) := fun H' => .inr ⟨_, vs.toArray, _, hk, rfl, rfl, rfl, by rw [List.size_toArray, len]; exact hl, by simpa using vals_ints hi⟩
    exact lawG_core (H := fun _ => none) KX hns hb hbb hlim hg ha hi hl hr F bd (fun c u z => nomatch z) (.inr wr) (fun z => absurd rfl z) end_
end
/-- the law's row -/
theorem walkG {l : PySem.W.OpenLaw} {n k : Nat} {q : Program} {loose : List Str} {XP : (Str → Option Value) → Heap → Prop} {YP : World → Heap → Prop} {d : DefRec} {K : Params → PySem.W.Frag} {x : Str} {fm : List MV → M MV}
    (hn : l.most = some n) (hn2 : n ≤ sizeLine) (hdf : d.params.defaults = []) (hr : Room k callerA)
    (hY : ∀ (w : World) (h : Heap), YP w h → (K w.params).In h)
    (F : ∀ (w : World) (mg : Str → Option Value) (fa : Addr) (h : Heap), (K w.params).In h → h.Ns mainGlobals mg → mg d.name = some (.ref fa) →
      ∃ (T : Tb) (fd : FuncData), T.K = K w.params ∧ (∀ (s : Shared) (u : Value), BindsTo s fd ⟨[u], []⟩ [(x, u)]) ∧
        ∀ base : Heap, (K w.params).In base → base.Ns mainGlobals mg → FnG l.prog w mg base T k fa fd [x] fm)
    (plain : ∀ ns : List Int, ns.length ≤ n → ∃ h', fm [.flst (ns.map .int)] [] = .ok (.bl true) h') :
    PySem.W.WalkO q loose XP YP l.row.toRowW d [] (fun f vs => PySem.call f vs) := by
  refine Att.attach_call hn hdf fun w s₀ s₁ mg mb fa o pm cd doc a vs ns G Y ho hd hcd hmg hobj hints hlen hg => ?_
  obtain ⟨T, fd, hT, hb, hF⟩ := F w mg fa _ (hY w _ Y) G.T.g hmg
  exact lawG (T := T) (by rw [hT]; exact hY w _ Y) G.T.g G.T.b G.T.builtins G.T.nolimit hg hobj hints (Nat.le_trans hlen hn2) hr (fun base h1 h2 => hF base (by rw [← hT]; exact h1) h2) hb (plain ns hlen)

/-- a def at hand: what it promises, where it stands, how it binds -/
structure Dn (P : Program) (w : World) (mg : Str → Option Value) (base : Heap) (T : Tb) (k : Nat) (nm : Str) (f : Addr) (fd : FuncData) (ps : List Str) (fm : List MV → M MV) : Prop where
  F : FnG P w mg base T k f fd ps fm
  m : mg nm = some (.ref f)
  k : PySem.W.keepIn T.K (.ref f) = true
  b : Binds T.K fd ps []
section
variable {X : Cx} {T : Tb} {W : WX} {pos p : Pos} {k : Nat} {f : Addr} {fd : FuncData} {ps ks : List Str} {fm : List MV → M MV} {x : Str} {a : Expr} {es : List Expr} {kws : List Keyword} {mr mk : En → M (List MV)} {idx : List Nat} {n m : Nat}
theorem pm_callD (hK : X.K = T.K) (D : Dn X.prog X.w X.mg X.base T k x f fd ps fm) (hr : Room k X.A) (hg : X.A.guards = some []) (tk : Takes X W) (gl : Gl X x)
    (ha : PA X (a :: es) (rdA T W mr)) (hn : ps.length = n := by rfl) (hdb : (x == ("__debug__" : Str)) = false := by decide) (he : starEach (a :: es) X.env = (false, eval a X.env) :: starEach es X.env := by rfl) (hpl : (backTo pos (starEach es X.env)).any (·.1) = false := by rfl) :
    PE X (.Call (.Name x p) (a :: es) [] pos) (rdE T W (mCall n fm [] mr)) := hn ▸ pm_call hK D.F hr hg tk gl D.m D.k D.b (fun _ _ => RepL.nil) .nil ha hdb he hpl
theorem pm_callD0 (hK : X.K = T.K) (D : Dn X.prog X.w X.mg X.base T k x f fd ps fm) (hr : Room k X.A) (hg : X.A.guards = some []) (tk : Takes X W) (gl : Gl X x) (hn : ps.length = n := by rfl) (hdb : (x == ("__debug__" : Str)) = false := by decide) :
    PE X (.Call (.Name x p) [] [] pos) (rdE T W (mCall n fm [] mNil)) := hn ▸ pm_call0 hK D.F hr hg tk gl D.m D.k D.b (fun _ _ => RepL.nil) .nil hdb
theorem pm_callKD {q : Nat} (hK : X.K = T.K) (D : Dn X.prog X.w X.mg X.base T k x f fd ps fm) (hb : KwB T.K fd ps ks n m idx) (hr : Room k X.A) (hg : X.A.guards = some []) (tk : Takes X W) (gl : Gl X x)
    (ha : PA X (a :: es) (rdA T W mr)) (hkw : PK X kws (rdA T W mk)) (hn : ps.length = q := by rfl) (hall : (backToKw pos (keywordEach kws X.env)).all (·.1.isSome) = true := by rfl) (hks : (backToKw pos (keywordEach kws X.env)).filterMap (·.1) = ks := by rfl)
    (hdb : (x == ("__debug__" : Str)) = false := by decide) (he : starEach (a :: es) X.env = (false, eval a X.env) :: starEach es X.env := by rfl)
    (hpl : ((backTo pos (starEach (a :: es) X.env)).any (·.1) || (backToKw pos (keywordEach kws X.env)).any (·.1.isNone)) = false := by rfl) :
    PE X (.Call (.Name x p) (a :: es) kws pos) (rdE T W (mCallK n m q idx fm mr mk)) := hn ▸ pm_callK hK D.F hr hg tk gl D.m D.k hb ha hkw hall hks hdb he hpl
theorem pm_callKD0 {q : Nat} (hK : X.K = T.K) (D : Dn X.prog X.w X.mg X.base T k x f fd ps fm) (hb : KwB T.K fd ps ks 0 m idx) (hr : Room k X.A) (hg : X.A.guards = some []) (tk : Takes X W) (gl : Gl X x)
    (hkw : PK X kws (rdA T W mk)) (hn : ps.length = q := by rfl) (hall : (backToKw pos (keywordEach kws X.env)).all (·.1.isSome) = true := by rfl) (hks : (backToKw pos (keywordEach kws X.env)).filterMap (·.1) = ks := by rfl)
    (hdb : (x == ("__debug__" : Str)) = false := by decide)
    (hpl : ((backTo pos (starEach [] X.env)).any (·.1) || (backToKw pos (keywordEach kws X.env)).any (·.1.isNone)) = false := by rfl) :
    PE X (.Call (.Name x p) [] kws pos) (rdE T W (mCallK 0 m q idx fm mNil mk)) := hn ▸ pm_callK0 hK D.F hr hg tk gl D.m D.k hb hkw hall hks hdb hpl
theorem pm_lcD {elt tg iter : Expr} {ifs : List Expr} {scope : Scope} {own : List (Str × Nat)} {vs : List Nat} {mi : En → M IT} {g : GM} {t : En → M Bool} {me : En → M MV} (hc : X.calm = true) (hN : X.N.Nodup) (hi : PI X tg iter (rdI T W mi)) (ok : BlkOk X.N X.env.scope scope own)
    (hg : ∀ (s : Shared) (H : Hp) (C : Addr) (cl : List (Str × Addr)) (fp : List Addr), PG (X.blk s H scope (compEnvC scope cl C X.env) fp) tg (rdTW T vs g))
    (ht : ∀ (s : Shared) (H : Hp) (C : Addr) (cl : List (Str × Addr)) (fp : List Addr), PTs (X.blk s H scope (compEnvC scope cl C X.env) fp) ifs (rdT T W0 t))
    (he : ∀ (s : Shared) (H : Hp) (C : Addr) (cl : List (Str × Addr)) (fp : List Addr), PE (X.blk s H scope (compEnvC scope cl C X.env) fp) elt (rdE T W0 me)) (hv : own.map (·.2) = vs := by rfl) (hs : ∀ x, foldedSetIterable iter X.env x = pure x := by intro _; rfl) :
    PE X (.ListComp elt [⟨tg, iter, ifs, 0⟩] scope pos) (rdE T W (mComp mi vs g t me)) := by
  subst hv
  exact pm_lc hc hN hi ok hg ht he hs
theorem psm_setLcD {i : Nat} {y : Str} {py spos : Pos} {elt tg iter : Expr} {ifs : List Expr} {scope : Scope} {own : List (Str × Nat)} {vs : List Nat} {mi : En → M IT} {g : GM} {t : En → M Bool} {me : En → M MV} (hc : X.calm = true) (hN : X.N.Nodup) (hy : X.N[i]? = some y) (hyl : X.env.scope.names.lookup y = some .local)
    (hsw : swapsWith (.ListComp elt [⟨tg, iter, ifs, 0⟩] scope pos) (some (.Name y py)) spos.line X.env = pure true) (hi : PI X tg iter (rdI T W mi)) (ok : BlkOk X.N X.env.scope scope own)
    (hg : ∀ (s : Shared) (H : Hp) (C : Addr) (cl : List (Str × Addr)) (fp : List Addr), PG (X.blk s H scope (compEnvC scope cl C X.env) fp) tg (rdTW T vs g))
    (ht : ∀ (s : Shared) (H : Hp) (C : Addr) (cl : List (Str × Addr)) (fp : List Addr), PTs (X.blk s H scope (compEnvC scope cl C X.env) fp) ifs (rdT T W0 t))
    (he : ∀ (s : Shared) (H : Hp) (C : Addr) (cl : List (Str × Addr)) (fp : List Addr), PE (X.blk s H scope (compEnvC scope cl C X.env) fp) elt (rdE T W0 me)) (hv : own.map (·.2) = vs := by rfl) (hs : ∀ x, foldedSetIterable iter X.env x = pure x := by intro _; rfl) :
    PS X (.Assign [.Name y py] (.ListComp elt [⟨tg, iter, ifs, 0⟩] scope pos) spos) (rdS T W (sAsg (mComp mi vs g t me) (gmName i))) := by
  subst hv
  exact psm_setLc hc hN hy hyl hsw hi ok hg ht he hs
theorem pip_of {op : Operator} {r : R2} (h : OpR X (inplaceOp op) r) : PIp X op r := fun pins s σ H x y v u Q I rx ry q => h pins s σ H x y v u Q I rx ry q
end
theorem fun_kwb {K : PySem.W.Frag} {x qual : Str} {st : Stmt} {f : Addr} {fd : FuncData} {ps ks : List Str} {n m : Nat} {idx : List Nat} (F : Fun K x qual st f fd)
    (h : ∀ (kV doc pm : Value) (an : Option Addr) (cdv ct : Value) (us ws : List Value), us.length = n → ws.length = m → bindArgs (PySem.W.fnOf x qual (defArgs st) (defBody st) (defScope st) .none kV doc pm an cdv ct) ⟨us, ks.zip ws⟩ = pure (ps.zip (pick idx (us ++ ws)))) : KwB K fd ps ks n m idx := by
  obtain ⟨oc, od, kV, doc, pm, an, cdv, ct, osl, rfl, lk, hcd⟩ := F.ex
  exact fun s us ws _ h1 h2 => .of_eq (h kV doc pm an cdv ct us ws h1 h2)
end Cutp

/-! CutWp: what a mirror's run ends in, backwards. Ok r Q: it ends well, in a value and a heap of which Q holds. -/
namespace Cutp
open PySem
def Ok {α : Type} (r : Res α) (Q : α → Hm → Prop) : Prop := match r with
  | .ok a h => Q a h
  | _ => False
def Sn (r : SR) (N : En → Hm → Prop) (R : MV → Hm → Prop) (B C : En → Hm → Prop) : Prop := match r with
  | .nx ρ h => N ρ h
  | .rt v h => R v h
  | .bk ρ h => B ρ h
  | .ct ρ h => C ρ h
  | _ => False
section
variable {α β : Type} {r : Res α} {Q Q' : α → Hm → Prop} {ρ : En} {h : Hm}
theorem ok_iff : Ok r Q ↔ ∃ a h', r = .ok a h' ∧ Q a h' := by
  cases r with
  | ok a h => exact ⟨fun q => ⟨a, h, rfl, q⟩, fun ⟨_, _, e, q⟩ => by cases e; exact q⟩
  | exc x h => exact ⟨fun q => q.elim, fun ⟨_, _, e, _⟩ => by cases e⟩
  | stuck => exact ⟨fun q => q.elim, fun ⟨_, _, e, _⟩ => by cases e⟩
theorem Ok.mono (o : Ok r Q) (k : ∀ a h, Q a h → Q' a h) : Ok r Q' := by
  cases r with
  | ok a h => exact k a h o
  | _ => exact o
theorem ok_ok {a : α} : Ok (.ok a h) Q ↔ Q a h := Iff.rfl
theorem ok_exc {x : MX} : Ok (.exc x h) Q ↔ False := Iff.rfl
theorem ok_stuck : Ok .stuck Q ↔ False := Iff.rfl
theorem ok_bind {k : α → M β} {Q : β → Hm → Prop} : Ok (r.bind k) Q ↔ Ok r fun a h => Ok (k a h) Q := by
  cases r <;> exact Iff.rfl
theorem ok_ite {c : Prop} [Decidable c] {a b : Res α} : Ok (if c then a else b) Q ↔ if c then Ok a Q else Ok b Q := by
  split <;> exact Iff.rfl
theorem ok_mVar {i : Nat} {Q : MV → Hm → Prop} : Ok (mVar i ρ h) Q ↔ ∃ v, ρ[i]? = some (some v) ∧ Q v h := by
  unfold mVar
  split
  · rename_i v e
    rw [ok_ok, e]
    exact ⟨fun q => ⟨v, rfl, q⟩, fun ⟨_, e, q⟩ => by cases e; exact q⟩
  · rename_i n
    rw [ok_stuck]
    exact ⟨fun q => q.elim, fun ⟨_, e, q⟩ => (n _ e).elim⟩
theorem ok_mC {v : MV} {Q : MV → Hm → Prop} : Ok (mC v ρ h) Q ↔ Q v h := Iff.rfl
theorem ok_mOp {f : MV → MV → M MV} {a b : En → M MV} {Q : MV → Hm → Prop} : Ok (mOp f a b ρ h) Q ↔ Ok (a ρ h) fun x h1 => Ok (b ρ h1) fun y h2 => Ok (f x y h2) Q := by
  unfold mOp
  simp only [ok_bind]
theorem ok_mUn {f : MV → M MV} {a : En → M MV} {Q : MV → Hm → Prop} : Ok (mUn f a ρ h) Q ↔ Ok (a ρ h) fun x h1 => Ok (f x h1) Q := by
  unfold mUn
  simp only [ok_bind]
theorem ok_mNil {Q : List MV → Hm → Prop} : Ok (mNil ρ h) Q ↔ Q [] h := Iff.rfl
theorem ok_mCons {a : En → M MV} {r : En → M (List MV)} {Q : List MV → Hm → Prop} : Ok (mCons a r ρ h) Q ↔ Ok (a ρ h) fun x h1 => Ok (r ρ h1) fun xs h2 => Q (x :: xs) h2 := by
  unfold mCons
  simp only [ok_bind, ok_ok]
theorem ok_mTup {r : En → M (List MV)} {Q : MV → Hm → Prop} : Ok (mTup r ρ h) Q ↔ Ok (r ρ h) fun xs h1 => xs.length ≤ 10000000 ∧ Q (.tup xs) h1 := by
  unfold mTup
  simp only [ok_bind, ok_ite, ok_ok, ok_stuck]
  refine Iff.of_eq (congrArg _ (funext fun xs => funext fun h1 => ?_))
  by_cases c : xs.length ≤ 10000000 <;> simp [c]
theorem ok_mLst {r : En → M (List MV)} {Q : MV → Hm → Prop} : Ok (mLst r ρ h) Q ↔ Ok (r ρ h) fun xs h1 => xs.length ≤ 10000000 ∧ Q (.ref h1.length) (h1 ++ [.lst xs]) := by
  unfold mLst newLst
  simp only [ok_bind, ok_ite, ok_ok, ok_stuck]
  refine Iff.of_eq (congrArg _ (funext fun xs => funext fun h1 => ?_))
  by_cases c : xs.length ≤ 10000000 <;> simp [c]
theorem ok_mCB {f : List MV → M MV} {r : En → M (List MV)} {Q : MV → Hm → Prop} : Ok (mCB f r ρ h) Q ↔ Ok (r ρ h) fun xs h1 => Ok (f xs h1) Q := by
  unfold mCB
  simp only [ok_bind]
theorem ok_mTest {a : En → M MV} {Q : Bool → Hm → Prop} : Ok (mTest a ρ h) Q ↔ Ok (a ρ h) fun v h1 => ∃ b, v = .bl b ∧ Q b h1 := by
  unfold mTest
  rw [ok_bind]
  refine Iff.of_eq (congrArg _ (funext fun v => funext fun h1 => ?_))
  cases v <;> simp [Ok]
theorem ok_mAnd {a b : En → M Bool} {Q : Bool → Hm → Prop} : Ok (mAnd a b ρ h) Q ↔ Ok (a ρ h) fun c h1 => if c = true then Ok (b ρ h1) Q else Q false h1 := by
  unfold mAnd
  simp only [ok_bind, ok_ite, ok_ok]
theorem ok_mOr {a b : En → M Bool} {Q : Bool → Hm → Prop} : Ok (mOr a b ρ h) Q ↔ Ok (a ρ h) fun c h1 => if c = true then Q true h1 else Ok (b ρ h1) Q := by
  unfold mOr
  simp only [ok_bind, ok_ite, ok_ok]
theorem ok_mNot {a : En → M Bool} {Q : Bool → Hm → Prop} : Ok (mNot a ρ h) Q ↔ Ok (a ρ h) fun c h1 => Q (!c) h1 := by
  unfold mNot
  simp only [ok_bind, ok_ok]
theorem ok_mIf {c : En → M Bool} {a b : En → M α} : Ok (mIf c a b ρ h) Q ↔ Ok (c ρ h) fun d h1 => if d = true then Ok (a ρ h1) Q else Ok (b ρ h1) Q := by
  unfold mIf
  simp only [ok_bind, ok_ite]
theorem ok_mTru {a : En → M MV} {Q : Bool → Hm → Prop} : Ok (mTru a ρ h) Q ↔ Ok (a ρ h) fun v h1 => Ok (truM v h1) Q := by
  unfold mTru
  simp only [ok_bind]
theorem ok_truM_bl {b : Bool} {Q : Bool → Hm → Prop} : Ok (truM (.bl b) h) Q ↔ Q b h := Iff.rfl
theorem ok_mAndV {a b : En → M MV} {Q : MV → Hm → Prop} : Ok (mAndV a b ρ h) Q ↔ Ok (a ρ h) fun v h1 => Ok (truM v h1) fun c h2 => if c = true then Ok (b ρ h2) Q else Q v h2 := by
  unfold mAndV
  simp only [ok_bind, ok_ite, ok_ok]
theorem ok_mOrV {a b : En → M MV} {Q : MV → Hm → Prop} : Ok (mOrV a b ρ h) Q ↔ Ok (a ρ h) fun v h1 => Ok (truM v h1) fun c h2 => if c = true then Q v h2 else Ok (b ρ h2) Q := by
  unfold mOrV
  simp only [ok_bind, ok_ite, ok_ok]
theorem ok_mNotV {a : En → M MV} {Q : MV → Hm → Prop} : Ok (mNotV a ρ h) Q ↔ Ok (a ρ h) fun v h1 => Ok (truM v h1) fun c h2 => Q (.bl (!c)) h2 := by
  unfold mNotV
  simp only [ok_bind, ok_ok]
theorem ok_mChain {f g : MV → MV → M MV} {a b c : En → M MV} {Q : MV → Hm → Prop} : Ok (mChain f g a b c ρ h) Q ↔ Ok (a ρ h) fun x h1 => Ok (b ρ h1) fun y h2 => Ok (f x y h2) fun z h3 => ∃ k, z = .bl k ∧ if k = true then Ok (c ρ h3) fun w h4 => Ok (g y w h4) Q else Q (.bl false) h3 := by
  unfold mChain
  simp only [ok_bind]
  refine Iff.of_eq (congrArg _ (funext fun x => funext fun h1 => congrArg _ (funext fun y => funext fun h2 => congrArg _ (funext fun z => funext fun h3 => ?_))))
  cases z with
  | bl k =>
    cases k with
    | true => simp only [ok_bind, MV.bl.injEq, exists_eq_left', if_true]
    | false => simp [Ok]
  | _ => simp [Ok]
/-! parts of slices, calls -/
theorem ok_mNoPart {Q : Option Int → Hm → Prop} : Ok (mNoPart ρ h) Q ↔ Q none h := Iff.rfl
theorem ok_mPart {m : En → M MV} {Q : Option Int → Hm → Prop} : Ok (mPart m ρ h) Q ↔ Ok (m ρ h) fun v h1 => ∃ i, v = .int i ∧ Q (some i) h1 := by
  unfold mPart
  rw [ok_bind]
  refine Iff.of_eq (congrArg _ (funext fun v => funext fun h1 => ?_))
  cases v <;> simp [Ok]
theorem ok_mSlice {m : En → M MV} {l u : En → M (Option Int)} {Q : MV → Hm → Prop} : Ok (mSlice m l u ρ h) Q ↔ Ok (m ρ h) fun v h1 => Ok (l ρ h1) fun lo h2 => Ok (u ρ h2) fun hi h3 => Ok (slM v lo hi h3) Q := by
  unfold mSlice
  simp only [ok_bind]
theorem ok_mBack {m : En → M MV} {Q : MV → Hm → Prop} : Ok (mBack m ρ h) Q ↔ Ok (m ρ h) fun v h1 => Ok (backM v h1) Q := by
  unfold mBack
  simp only [ok_bind]
theorem ok_mCall {n : Nat} {fm : List MV → M MV} {dms : List MV} {r : En → M (List MV)} {Q : MV → Hm → Prop} : Ok (mCall n fm dms r ρ h) Q ↔ Ok (r ρ h) fun xs h1 => xs.length + dms.length = n ∧ Ok (fm (xs ++ dms) h1) Q := by
  unfold mCall
  simp only [ok_bind, ok_ite, ok_stuck]
  refine Iff.of_eq (congrArg _ (funext fun xs => funext fun h1 => ?_))
  by_cases c : xs.length + dms.length = n <;> simp [c]
theorem ok_mCallK {n m q : Nat} {idx : List Nat} {fm : List MV → M MV} {r rk : En → M (List MV)} {Q : MV → Hm → Prop} : Ok (mCallK n m q idx fm r rk ρ h) Q ↔ Ok (r ρ h) fun xs h1 => Ok (rk ρ h1) fun zs h2 =>
    (xs.length = n ∧ zs.length = m ∧ (pick idx (xs ++ zs)).length = q) ∧ Ok (fm (pick idx (xs ++ zs)) h2) Q := by
  unfold mCallK
  simp only [ok_bind, ok_ite, ok_stuck]
  refine Iff.of_eq (congrArg _ (funext fun xs => funext fun h1 => congrArg _ (funext fun zs => funext fun h2 => ?_)))
  by_cases c : xs.length = n ∧ zs.length = m ∧ (pick idx (xs ++ zs)).length = q <;> simp [c]
theorem ok_mMeth {ty : MV → Hm → Bool} {f : MV → List MV → M MV} {o : En → M MV} {r : En → M (List MV)} {Q : MV → Hm → Prop} : Ok (mMeth ty f o r ρ h) Q ↔ Ok (o ρ h) fun x h1 => ty x h1 = true ∧ Ok (r ρ h1) fun ys h2 => Ok (f x ys h2) Q := by
  unfold mMeth
  simp only [ok_bind, ok_ite, ok_stuck]
  refine Iff.of_eq (congrArg _ (funext fun xs => funext fun h1 => ?_))
  by_cases c : ty xs h1 = true <;> simp [c]
theorem ok_mIter {m : En → M MV} {Q : IT → Hm → Prop} : Ok (mIter m ρ h) Q ↔ Ok (m ρ h) fun v h1 => Ok (itOf v h1) Q := by
  unfold mIter
  simp only [ok_bind]
theorem ok_mRng1 {r : En → M (List MV)} {Q : IT → Hm → Prop} : Ok (mRng1 r ρ h) Q ↔ Ok (r ρ h) fun v h1 => Ok (rng1M v h1) Q := by
  unfold mRng1
  simp only [ok_bind]
theorem ok_mRng2 {r : En → M (List MV)} {Q : IT → Hm → Prop} : Ok (mRng2 r ρ h) Q ↔ Ok (r ρ h) fun v h1 => Ok (rng2M v h1) Q := by
  unfold mRng2
  simp only [ok_bind]
theorem ok_mZip {r : En → M (List MV)} {Q : IT → Hm → Prop} : Ok (mZip r ρ h) Q ↔ Ok (r ρ h) fun v h1 => Ok (zipM v h1) Q := by
  unfold mZip
  simp only [ok_bind]
theorem ok_rng1 {j : Int} {Q : IT → Hm → Prop} : Ok (rng1M [.int j] h) Q ↔ (-(2 ^ 62) ≤ j ∧ j < 2 ^ 62) ∧ Q (itRng 0 j.toNat) h := by
  show Ok (if -(2 ^ 62) ≤ j ∧ j < 2 ^ 62 then _ else _) Q ↔ _
  rw [ok_ite]
  by_cases c : -(2 ^ 62) ≤ j ∧ j < 2 ^ 62
  · rw [if_pos c]; exact ⟨fun q => ⟨c, q⟩, fun q => q.2⟩
  · rw [if_neg c]; exact ⟨fun q => q.elim, fun q => (c q.1).elim⟩
theorem ok_rng2 {i j : Int} {Q : IT → Hm → Prop} : Ok (rng2M [.int i, .int j] h) Q ↔ ((-(2 ^ 62) ≤ i ∧ i < 2 ^ 62) ∧ -(2 ^ 62) ≤ j ∧ j < 2 ^ 62) ∧ Q (itRng i (j - i).toNat) h := by
  show Ok (if (-(2 ^ 62) ≤ i ∧ i < 2 ^ 62) ∧ -(2 ^ 62) ≤ j ∧ j < 2 ^ 62 then _ else _) Q ↔ _
  rw [ok_ite]
  by_cases c : (-(2 ^ 62) ≤ i ∧ i < 2 ^ 62) ∧ -(2 ^ 62) ≤ j ∧ j < 2 ^ 62
  · rw [if_pos c]; exact ⟨fun q => ⟨c, q⟩, fun q => q.2⟩
  · rw [if_neg c]; exact ⟨fun q => q.elim, fun q => (c q.1).elim⟩
/-! targets -/
theorem ok_gmName {i : Nat} {v : MV} {Q : En → Hm → Prop} : Ok (gmName i v ρ h) Q ↔ Q (ρ.set i (some v)) h := Iff.rfl
theorem ok_gmNil {Q : En → Hm → Prop} : Ok (gmNil [] ρ h) Q ↔ Q ρ h := Iff.rfl
theorem ok_gmCons {g : GM} {gs : List MV → En → M En} {v : MV} {vs : List MV} {Q : En → Hm → Prop} : Ok (gmCons g gs (v :: vs) ρ h) Q ↔ Ok (g v ρ h) fun ρ1 h1 => Ok (gs vs ρ1 h1) Q := by
  show Ok ((g v ρ h).bind (gs vs)) Q ↔ _
  rw [ok_bind]
theorem ok_gmTup {n : Nat} {gs : List MV → En → M En} {xs : List MV} {Q : En → Hm → Prop} : Ok (gmTup n gs (.tup xs) ρ h) Q ↔ xs.length = n ∧ Ok (gs xs ρ h) Q := by
  show Ok (if xs.length = n then gs xs ρ h else .stuck) Q ↔ _
  rw [ok_ite]
  by_cases c : xs.length = n <;> simp [c, ok_stuck]
theorem ok_gmSub {a b : En → M MV} {st : MV → MV → MV → M Unit} {v : MV} {Q : En → Hm → Prop} : Ok (gmSub a b st v ρ h) Q ↔ Ok (a ρ h) fun o h1 => Ok (b ρ h1) fun i h2 => Ok (st o i v h2) fun _ h3 => Q ρ h3 := by
  unfold gmSub
  simp only [ok_bind, ok_ok]
end
/-! statements -/
section
variable {α : Type} {ρ : En} {h : Hm} {N B C : En → Hm → Prop} {R : MV → Hm → Prop}
theorem Sn.mono {r : SR} {N' B' C' : En → Hm → Prop} {R' : MV → Hm → Prop} (o : Sn r N R B C) (kN : ∀ ρ h, N ρ h → N' ρ h) (kR : ∀ v h, R v h → R' v h) (kB : ∀ ρ h, B ρ h → B' ρ h) (kC : ∀ ρ h, C ρ h → C' ρ h) : Sn r N' R' B' C' := by
  cases r with
  | nx ρ h => exact kN _ _ o
  | rt v h => exact kR _ _ o
  | bk ρ h => exact kB _ _ o
  | ct ρ h => exact kC _ _ o
  | exc x ρ h => exact o
  | stuck => exact o
theorem sn_nx : Sn (.nx ρ h) N R B C ↔ N ρ h := Iff.rfl
theorem sn_rt {v : MV} : Sn (.rt v h) N R B C ↔ R v h := Iff.rfl
theorem sn_stuck : Sn .stuck N R B C ↔ False := Iff.rfl
theorem sn_ite {c : Prop} [Decidable c] {a b : SR} : Sn (if c then a else b) N R B C ↔ if c then Sn a N R B C else Sn b N R B C := by
  split <;> exact Iff.rfl
theorem sn_sE {m : En → M α} {k : α → SM} : Sn (sE m k ρ h) N R B C ↔ Ok (m ρ h) fun v h1 => Sn (k v ρ h1) N R B C := by
  unfold sE
  cases m ρ h <;> exact Iff.rfl
theorem sn_sSeq {s t : SM} : Sn (sSeq s t ρ h) N R B C ↔ Sn (s ρ h) (fun ρ1 h1 => Sn (t ρ1 h1) N R B C) R B C := by
  unfold sSeq
  cases s ρ h <;> exact Iff.rfl
theorem sn_sNext : Sn (sNext ρ h) N R B C ↔ N ρ h := Iff.rfl
theorem sn_sBreak : Sn (sBreak ρ h) N R B C ↔ B ρ h := Iff.rfl
theorem sn_sCont : Sn (sCont ρ h) N R B C ↔ C ρ h := Iff.rfl
theorem sn_sRetN : Sn (sRetN ρ h) N R B C ↔ R .non h := Iff.rfl
theorem sn_sExpr {m : En → M MV} : Sn (sExpr m ρ h) N R B C ↔ Ok (m ρ h) fun _ h1 => N ρ h1 := by
  unfold sExpr
  simp only [sn_sE, sn_nx]
theorem sn_sRet {m : En → M MV} : Sn (sRet m ρ h) N R B C ↔ Ok (m ρ h) R := by
  unfold sRet
  simp only [sn_sE, sn_rt]
theorem sn_sIf {c : En → M Bool} {s t : SM} : Sn (sIf c s t ρ h) N R B C ↔ Ok (c ρ h) fun b h1 => if b = true then Sn (s ρ h1) N R B C else Sn (t ρ h1) N R B C := by
  unfold sIf
  simp only [sn_sE, sn_ite]
theorem sn_sAsg {m : En → M MV} {g : GM} : Sn (sAsg m g ρ h) N R B C ↔ Ok (m ρ h) fun v h1 => Ok (g v ρ h1) N := by
  unfold sAsg
  rw [sn_sE]
  refine Iff.of_eq (congrArg _ (funext fun v => funext fun h1 => ?_))
  cases g v ρ h1 <;> rfl
theorem sn_sPar {i j : Nat} {a b : En → M MV} : Sn (sPar i j a b ρ h) N R B C ↔ Ok (a ρ h) fun v h1 => Ok (b ρ h1) fun w h2 => N ((ρ.set i (some v)).set j (some w)) h2 := by
  unfold sPar
  simp only [sn_sE, sn_nx]
theorem sn_sAug {i : Nat} {f : MV → MV → M MV} {m : En → M MV} : Sn (sAug i f m ρ h) N R B C ↔ Ok (mOp f (mVar i) m ρ h) fun z h1 => N (ρ.set i (some z)) h1 := by
  unfold sAug
  simp only [sn_sE, sn_nx]
theorem ok_runD {n : Nat} {m : SM} {xs : List MV} {Q : MV → Hm → Prop} : Ok (runD n m xs h) Q ↔ Sn (m (xs.map some ++ List.replicate (n - xs.length) none) h) (fun _ h' => Q .non h') Q (fun _ _ => False) (fun _ _ => False) := by
  unfold runD
  cases m (xs.map some ++ List.replicate (n - xs.length) none) h <;> exact Iff.rfl

/-! loops -/
theorem forM_ok {it : IT} {g : GM} {b : SM} {xs : List MV} {I : Nat → En → Hm → Prop} (hit : ∀ i ρ h, I i ρ h → it i h = some xs[i]?)
    (step : ∀ i x, xs[i]? = some x → ∀ ρ h, I i ρ h → Ok (g x ρ h) fun ρ1 h1 => Sn (b ρ1 h1) (I (i + 1)) R N (I (i + 1)))
    (fin : ∀ ρ h, I xs.length ρ h → N ρ h) : ∀ (n i : Nat) (ρ : En) (h : Hm), xs.length - i < n → i ≤ xs.length → I i ρ h → Sn (forM it g b n i ρ h) N R B C
  | 0, i, ρ, h, e, _, _ => by omega
  | n + 1, i, ρ, h, e, hi, q => by
    unfold forM
    rw [hit i ρ h q]
    cases z : xs[i]? with
    | none =>
      have : i = xs.length := by
        have := List.getElem?_eq_none_iff.mp z
        omega
      subst this
      exact fin ρ h q
    | some x =>
      have hl := (List.getElem?_eq_some_iff.mp z).1
      have s := step i x z ρ h q
      dsimp only
      cases z2 : g x ρ h with
      | ok ρ1 h1 =>
        rw [z2] at s
        have s' : Sn (b ρ1 h1) (I (i + 1)) R N (I (i + 1)) := s
        dsimp only
        cases z3 : b ρ1 h1 with
        | nx ρ2 h2 => rw [z3] at s'; exact forM_ok hit step fin n (i + 1) ρ2 h2 (by omega) hl s'
        | ct ρ2 h2 => rw [z3] at s'; exact forM_ok hit step fin n (i + 1) ρ2 h2 (by omega) hl s'
        | bk ρ2 h2 => rw [z3] at s'; exact s'
        | rt v h2 => rw [z3] at s'; exact s'
        | exc x ρ h => rw [z3] at s'; exact s'
        | stuck => rw [z3] at s'; exact s'
      | exc x h => rw [z2] at s; exact s.elim
      | stuck => rw [z2] at s; exact s.elim
theorem sn_sFor {mi : En → M IT} {g : GM} {b : SM} : Sn (sFor mi g b ρ h) N R B C ↔ Ok (mi ρ h) fun it h1 => Sn (forM it g b fuel 0 ρ h1) N R B C := by
  unfold sFor
  simp only [sn_sE]
theorem fuel_big {n : Nat} (h : n ≤ 10 ^ 39) : n < fuel := by
  have e : fuel = 10 * 10 ^ 39 := by unfold fuel; decide
  rw [e]
  have p : 0 < 10 ^ 39 := by decide
  generalize 10 ^ 39 = k at *
  omega
theorem for_ok {it : IT} {g : GM} {b : SM} (xs : List MV) (I : Nat → En → Hm → Prop) (hl : xs.length ≤ 10 ^ 39) (q : I 0 ρ h) (hit : ∀ i ρ h, I i ρ h → it i h = some xs[i]?)
    (step : ∀ i x, xs[i]? = some x → ∀ ρ h, I i ρ h → Ok (g x ρ h) fun ρ1 h1 => Sn (b ρ1 h1) (I (i + 1)) R N (I (i + 1)))
    (fin : ∀ ρ h, I xs.length ρ h → N ρ h) : Sn (forM it g b fuel 0 ρ h) N R B C :=
  forM_ok hit step fin fuel 0 ρ h (by rw [Nat.sub_zero]; exact fuel_big hl) (Nat.zero_le _) q
theorem whileM_ok {c : En → M Bool} {b : SM} {I : Nat → En → Hm → Prop}
    (step : ∀ k ρ h, I k ρ h → Ok (c ρ h) fun d h1 => if d = true then 0 < k ∧ Sn (b ρ h1) (fun ρ2 h2 => ∃ j, j < k ∧ I j ρ2 h2) R N (fun ρ2 h2 => ∃ j, j < k ∧ I j ρ2 h2) else N ρ h1) : ∀ (n k : Nat) (ρ : En) (h : Hm), k < n → I k ρ h → Sn (whileM c b n ρ h) N R B C
  | 0, k, ρ, h, e, _ => by omega
  | n + 1, k, ρ, h, e, q => by
    unfold whileM
    have s := step k ρ h q
    cases z : c ρ h with
    | ok d h1 =>
      rw [z] at s
      have s' : if d = true then _ else _ := s
      cases d with
      | false => exact s'
      | true =>
        have s2 := s'
        rw [if_pos rfl] at s2
        obtain ⟨hk, s2⟩ := s2
        dsimp only
        cases z3 : b ρ h1 with
        | nx ρ2 h2 => rw [z3] at s2; obtain ⟨j, hj, s2⟩ := s2; exact whileM_ok step n j ρ2 h2 (by omega) s2
        | ct ρ2 h2 => rw [z3] at s2; obtain ⟨j, hj, s2⟩ := s2; exact whileM_ok step n j ρ2 h2 (by omega) s2
        | bk ρ2 h2 => rw [z3] at s2; exact s2
        | rt v h2 => rw [z3] at s2; exact s2
        | exc x ρ h => rw [z3] at s2; exact s2
        | stuck => rw [z3] at s2; exact s2
    | exc x h1 => rw [z] at s; exact s.elim
    | stuck => rw [z] at s; exact s.elim
theorem while_ok {c : En → M Bool} {b : SM} (k : Nat) (I : Nat → En → Hm → Prop) (hk : k ≤ 10 ^ 39) (q : I k ρ h)
    (step : ∀ k ρ h, I k ρ h → Ok (c ρ h) fun d h1 => if d = true then 0 < k ∧ Sn (b ρ h1) (fun ρ2 h2 => ∃ j, j < k ∧ I j ρ2 h2) R N (fun ρ2 h2 => ∃ j, j < k ∧ I j ρ2 h2) else N ρ h1) : Sn (sWhile c b ρ h) N R B C :=
  whileM_ok step fuel k ρ h (fuel_big hk) q
theorem compM_ok {it : IT} {g : GM} {t : En → M Bool} {e : En → M MV} {ρ : En} {xs : List MV} {I : Nat → List MV → Hm → Prop} {Q : List MV → Hm → Prop} (hit : ∀ i acc h, I i acc h → it i h = some xs[i]?)
    (step : ∀ i x, xs[i]? = some x → ∀ acc h, I i acc h → Ok (g x ρ h) fun ρ1 h1 => Ok (t ρ1 h1) fun c h2 => if c = true then Ok (e ρ1 h2) (fun y h3 => acc.length < 10000000 ∧ I (i + 1) (acc ++ [y]) h3) else I (i + 1) acc h2)
    (fin : ∀ acc h, I xs.length acc h → Q acc h) : ∀ (n i : Nat) (acc : List MV) (h : Hm), xs.length - i < n → i ≤ xs.length → I i acc h → Ok (compM it g t e ρ n i acc h) Q
  | 0, i, acc, h, e, _, _ => by omega
  | n + 1, i, acc, h, _, hi, q => by
    unfold compM
    rw [hit i acc h q]
    cases z : xs[i]? with
    | none =>
      have : i = xs.length := by
        have := List.getElem?_eq_none_iff.mp z
        omega
      subst this
      exact fin acc h q
    | some x =>
      have hl := (List.getElem?_eq_some_iff.mp z).1
      have s := step i x z acc h q
      dsimp only
      cases z2 : g x ρ h with
      | ok ρ1 h1 =>
        rw [z2] at s
        have s' : Ok (t ρ1 h1) _ := s
        dsimp only
        cases z3 : t ρ1 h1 with
        | ok c h2 =>
          rw [z3] at s'
          have s2 : if c = true then _ else _ := s'
          cases c with
          | false => exact compM_ok hit step fin n (i + 1) acc h2 (by omega) hl s2
          | true =>
            dsimp only
            rw [if_pos rfl] at s2
            cases z4 : e ρ1 h2 with
            | ok y h3 =>
              rw [z4] at s2
              obtain ⟨s3, s4⟩ : acc.length < 10000000 ∧ I (i + 1) (acc ++ [y]) h3 := s2
              dsimp only
              rw [if_pos s3]
              exact compM_ok hit step fin n (i + 1) (acc ++ [y]) h3 (by omega) hl s4
            | exc x h => rw [z4] at s2; exact s2.elim
            | stuck => rw [z4] at s2; exact s2.elim
        | exc x h => rw [z3] at s'; exact s'.elim
        | stuck => rw [z3] at s'; exact s'.elim
      | exc x h => rw [z2] at s; exact s.elim
      | stuck => rw [z2] at s; exact s.elim
theorem ok_mComp {mi : En → M IT} {vs : List Nat} {g : GM} {t : En → M Bool} {e : En → M MV} {Q : MV → Hm → Prop} : Ok (mComp mi vs g t e ρ h) Q ↔ Ok (mi ρ h) fun it h1 => Ok (compM it g t e (wipeM ρ vs) fuel 0 [] h1) fun ys h2 => Q (.ref h2.length) (h2 ++ [.lst ys]) := by
  unfold mComp layLst
  simp only [ok_bind, ok_ok]
theorem comp_ok {it : IT} {g : GM} {t : En → M Bool} {e : En → M MV} {Q : List MV → Hm → Prop} (xs : List MV) (I : Nat → List MV → Hm → Prop) (hl : xs.length ≤ 10 ^ 39) (q : I 0 [] h) (hit : ∀ i acc h, I i acc h → it i h = some xs[i]?)
    (step : ∀ i x, xs[i]? = some x → ∀ acc h, I i acc h → Ok (g x ρ h) fun ρ1 h1 => Ok (t ρ1 h1) fun c h2 => if c = true then Ok (e ρ1 h2) (fun y h3 => acc.length < 10000000 ∧ I (i + 1) (acc ++ [y]) h3) else I (i + 1) acc h2)
    (fin : ∀ acc h, I xs.length acc h → Q acc h) : Ok (compM it g t e ρ fuel 0 [] h) Q :=
  compM_ok hit step fin fuel 0 [] h (by rw [Nat.sub_zero]; exact fuel_big hl) (Nat.zero_le _) q
/-- a comprehension whose parts leave the heap as it is: what is taken and what becomes of it -/
theorem comp_pure {it : IT} {g : GM} {t : En → M Bool} {e : En → M MV} {Q : List MV → Hm → Prop} (xs : List MV) (p : MV → Bool) (f : MV → MV) (hl : xs.length ≤ 10000000) (hit : ∀ i, it i h = some xs[i]?)
    (step : ∀ x ∈ xs, Ok (g x ρ h) fun ρ1 h1 => Ok (t ρ1 h1) fun c h2 => c = p x ∧ h2 = h ∧ (c = true → Ok (e ρ1 h2) fun y h3 => y = f x ∧ h3 = h))
    (fin : Q ((xs.filter p).map f) h) : Ok (compM it g t e ρ fuel 0 [] h) Q := by
  refine comp_ok xs (fun i acc h' => h' = h ∧ acc = ((xs.take i).filter p).map f) (Nat.le_trans hl (by decide)) ⟨rfl, by simp⟩ (fun i acc h' q => by rw [q.1]; exact hit i) (fun i x hx acc h' q => ?_) (fun acc h' q => by
    obtain ⟨rfl, rfl⟩ := q
    rw [List.take_length]
    exact fin)
  obtain ⟨rfl, rfl⟩ := q
  have hm := List.mem_of_getElem? hx
  have tk : xs.take (i + 1) = xs.take i ++ [x] := by rw [List.take_succ, hx]; rfl
  refine (step x hm).mono fun ρ1 h1 s => s.mono fun c h2 s => ?_
  obtain ⟨hc, rfl, s⟩ := s
  cases c with
  | true =>
    rw [if_pos rfl]
    refine (s rfl).mono fun y h3 s => ?_
    obtain ⟨rfl, rfl⟩ := s
    refine ⟨?_, rfl, by rw [tk, List.filter_append, List.map_append]; simp [← hc]⟩
    rw [List.length_map]
    refine Nat.lt_of_le_of_lt (List.length_filter_le _ _) ?_
    have := (List.getElem?_eq_some_iff.mp hx).1
    rw [List.length_take]
    omega
  | false =>
    rw [if_neg Bool.false_ne_true]
    refine ⟨rfl, by rw [tk, List.filter_append, List.map_append]; simp [← hc]⟩
theorem ok_mYes {Q : Bool → Hm → Prop} : Ok (mYes ρ h) Q ↔ Q true h := Iff.rfl
/-! operators on values at hand -/
theorem ok_intM {f : Int → Int → M MV} {i j : Int} : Ok (intM f (.int i) (.int j) h) R ↔ Ok (f i j h) R := Iff.rfl
theorem ok_add {i j : Int} : Ok (addM (.int i) (.int j) h) R ↔ R (.int (i + j)) h := Iff.rfl
theorem ok_addT {xs ys : List MV} : Ok (addM (.tup xs) (.tup ys) h) R ↔ xs.length + ys.length ≤ 10000000 ∧ R (.tup (xs ++ ys)) h := by
  show Ok (if _ then _ else _) R ↔ _
  rw [ok_ite]
  by_cases c : xs.length + ys.length ≤ 10000000 <;> simp [c, ok_ok, ok_stuck]
theorem ok_addL {a b : Nat} {xs ys : List MV} (ha : h[a]? = some (.lst xs)) (hb : h[b]? = some (.lst ys)) : Ok (addM (.ref a) (.ref b) h) R ↔ xs.length + ys.length ≤ 10000000 ∧ R (.ref h.length) (h ++ [.lst (xs ++ ys)]) := by
  unfold addM
  simp only [ha, hb]
  rw [ok_ite]
  by_cases c : xs.length + ys.length ≤ 10000000 <;> simp [c, ok_ok, ok_stuck]
theorem ok_sub {i j : Int} : Ok (subM (.int i) (.int j) h) R ↔ R (.int (i - j)) h := Iff.rfl
theorem ok_mul {i j : Int} : Ok (mulM (.int i) (.int j) h) R ↔ i.natAbs.log2 + j.natAbs.log2 < 1000000 ∧ R (.int (i * j)) h := by
  show Ok (if _ then _ else _) R ↔ _
  rw [ok_ite]
  by_cases c : i.natAbs.log2 + j.natAbs.log2 < 1000000 <;> simp [c, ok_ok, ok_stuck]
theorem ok_div {i j : Int} : Ok (divM (.int i) (.int j) h) R ↔ (0 < j ∧ j.natAbs.log2 < 9000) ∧ R (.int (i / j)) h := by
  show Ok (if _ then _ else _) R ↔ _
  rw [ok_ite]
  by_cases c : 0 < j ∧ j.natAbs.log2 < 9000 <;> simp [c, ok_ok, ok_stuck]
theorem ok_mod {i j : Int} : Ok (modM (.int i) (.int j) h) R ↔ 0 < j ∧ R (.int (i % j)) h := by
  show Ok (if _ then _ else _) R ↔ _
  rw [ok_ite]
  by_cases c : 0 < j <;> simp [c, ok_ok, ok_stuck]
theorem ok_pow {i j : Int} : Ok (powM (.int i) (.int j) h) R ↔ (0 ≤ j ∧ j ≤ 1000000 ∧ i.natAbs < 2 ^ 64) ∧ R (.int (i ^ j.toNat)) h := by
  show Ok (if _ then _ else _) R ↔ _
  rw [ok_ite]
  by_cases c : 0 ≤ j ∧ j ≤ 1000000 ∧ i.natAbs < 2 ^ 64
  · rw [if_pos c]; exact ⟨fun q => ⟨c, q⟩, fun q => q.2⟩
  · rw [if_neg c]; exact ⟨fun q => q.elim, fun q => (c q.1).elim⟩
theorem ok_lt {i j : Int} : Ok (ltM (.int i) (.int j) h) R ↔ R (.bl (decide (i < j))) h := Iff.rfl
theorem ok_le {i j : Int} : Ok (leM (.int i) (.int j) h) R ↔ R (.bl (decide (i ≤ j))) h := Iff.rfl
theorem ok_gt {i j : Int} : Ok (gtM (.int i) (.int j) h) R ↔ R (.bl (decide (j < i))) h := Iff.rfl
theorem ok_ge {i j : Int} : Ok (geM (.int i) (.int j) h) R ↔ R (.bl (decide (j ≤ i))) h := Iff.rfl
theorem ok_neg {i : Int} : Ok (negM (.int i) h) R ↔ R (.int (-i)) h := Iff.rfl
theorem ok_eqI {i j : Int} : Ok (eqM (.int i) (.int j) h) R ↔ R (.bl (decide (i = j))) h := by
  show R (.bl (i == j)) h ↔ _
  rfl
theorem ok_neI {i j : Int} : Ok (neM (.int i) (.int j) h) R ↔ R (.bl (!decide (i = j))) h := by
  show R (.bl (!(i == j))) h ↔ _
  rfl
theorem ok_isN {x : MV} : Ok (isNonM x .non h) R ↔ R (.bl (isNon x)) h := Iff.rfl
theorem ok_notN {x : MV} : Ok (notNonM x .non h) R ↔ R (.bl (!isNon x)) h := Iff.rfl
theorem ok_ixT {xs : List MV} {i : Int} : Ok (ixM (.tup xs) (.int i) h) R ↔ ∃ v, getAt xs i = some v ∧ R v h := by
  show Ok (match getAt xs i with | some v => .ok v h | none => .stuck) R ↔ _
  cases getAt xs i with
  | none => exact ⟨fun q => q.elim, fun ⟨_, e, _⟩ => by cases e⟩
  | some v => exact ⟨fun q => ⟨v, rfl, q⟩, fun ⟨_, e, q⟩ => by cases e; exact q⟩
theorem ok_ixF {xs : List MV} {i : Int} : Ok (ixM (.flst xs) (.int i) h) R ↔ ∃ v, getAt xs i = some v ∧ R v h := by
  show Ok (match getAt xs i with | some v => .ok v h | none => .stuck) R ↔ _
  cases getAt xs i with
  | none => exact ⟨fun q => q.elim, fun ⟨_, e, _⟩ => by cases e⟩
  | some v => exact ⟨fun q => ⟨v, rfl, q⟩, fun ⟨_, e, q⟩ => by cases e; exact q⟩
theorem ok_ixL {a : Nat} {xs : List MV} {i : Int} (ha : h[a]? = some (.lst xs)) : Ok (ixM (.ref a) (.int i) h) R ↔ ∃ v, getAt xs i = some v ∧ R v h := by
  unfold ixM
  simp only [ha]
  cases getAt xs i with
  | none => exact ⟨fun q => q.elim, fun ⟨_, e, _⟩ => by cases e⟩
  | some v => exact ⟨fun q => ⟨v, rfl, q⟩, fun ⟨_, e, q⟩ => by cases e; exact q⟩
theorem ok_slT {xs : List MV} {lo hi : Option Int} : Ok (slM (.tup xs) lo hi h) R ↔ R (.tup (cutM xs lo hi)) h := Iff.rfl
theorem ok_slF {xs : List MV} {lo hi : Option Int} : Ok (slM (.flst xs) lo hi h) R ↔ R (.ref h.length) (h ++ [.lst (cutM xs lo hi)]) := Iff.rfl
theorem ok_backT {xs : List MV} : Ok (backM (.tup xs) h) R ↔ R (.tup xs.reverse) h := Iff.rfl
theorem ok_lenT {xs : List MV} : Ok (lenM [.tup xs] h) R ↔ R (.int xs.length) h := Iff.rfl
theorem ok_lenF {xs : List MV} : Ok (lenM [.flst xs] h) R ↔ R (.int xs.length) h := Iff.rfl
theorem ok_lenL {a : Nat} {xs : List MV} (ha : h[a]? = some (.lst xs)) : Ok (lenM [.ref a] h) R ↔ R (.int xs.length) h := by
  unfold lenM lenOf
  simp only [ha]
  exact Iff.rfl
theorem ok_abs {i : Int} : Ok (absM [.int i] h) R ↔ R (.int (if i < 0 then -i else i)) h := Iff.rfl
theorem ok_max2 {i j : Int} : Ok (max2M [.int i, .int j] h) R ↔ R (.int (if j > i then j else i)) h := Iff.rfl
theorem ok_min2 {i j : Int} : Ok (min2M [.int i, .int j] h) R ↔ R (.int (if j < i then j else i)) h := Iff.rfl
theorem ok_intB {b : Bool} : Ok (intCM [.bl b] h) R ↔ R (.int (if b then 1 else 0)) h := Iff.rfl
theorem ok_divmod {i j : Int} : Ok (divmodM [.int i, .int j] h) R ↔ (0 < j ∧ j.natAbs.log2 < 9000) ∧ R (.tup [.int (i / j), .int (i % j)]) h := by
  show Ok (if _ then _ else _) R ↔ _
  rw [ok_ite]
  by_cases c : 0 < j ∧ j.natAbs.log2 < 9000 <;> simp [c, ok_ok, ok_stuck]
theorem ok_tupleL {a : Nat} {xs : List MV} (ha : h[a]? = some (.lst xs)) : Ok (tupleM [.ref a] h) R ↔ R (.tup xs) h := by
  unfold tupleM lstOf
  simp only [ha]
  exact Iff.rfl
theorem allD_int (ns : List Int) : allD intOf (ns.map .int) = some ns := by
  induction ns with
  | nil => rfl
  | cons n ns ih =>
    rw [List.map_cons]
    unfold allD
    rw [ih]
    rfl
theorem allD_bl (ns : List Bool) : allD blOf (ns.map .bl) = some ns := by
  induction ns with
  | nil => rfl
  | cons n ns ih =>
    rw [List.map_cons]
    unfold allD
    rw [ih]
    rfl
theorem ok_ints {f : List Int → M MV} {a : Nat} {ns : List Int} (ha : h[a]? = some (.lst (ns.map .int))) : Ok (intsF f [.ref a] h) R ↔ Ok (f ns h) R := by
  unfold intsF lstOf
  simp only [ha, Option.bind_some, allD_int]
theorem ok_bls {f : List Bool → Bool} {a : Nat} {ns : List Bool} (ha : h[a]? = some (.lst (ns.map .bl))) : Ok (blsF f [.ref a] h) R ↔ R (.bl (f ns)) h := by
  unfold blsF lstOf
  simp only [ha, Option.bind_some, allD_bl, ok_ok]
theorem ok_append {a : Nat} {xs : List MV} {y : MV} (ha : h[a]? = some (.lst xs)) : Ok (appendM (.ref a) [y] h) R ↔ xs.length < 10000000 ∧ R .non (h.set a (.lst (xs ++ [y]))) := by
  unfold appendM
  simp only [ha]
  rw [ok_ite]
  by_cases c : xs.length < 10000000 <;> simp [c, ok_ok, ok_stuck]
theorem isLst_at {a : Nat} {xs : List MV} (ha : h[a]? = some (.lst xs)) : isLst (.ref a) h = true := by
  unfold isLst
  simp only [ha]
theorem ok_setL {a : Nat} {xs : List MV} {k : Int} {v : MV} {Q : Unit → Hm → Prop} (ha : h[a]? = some (.lst xs)) : Ok (setLM (.ref a) (.int k) v h) Q ↔ ∃ j, L2.ixN xs.length k = some j ∧ Q () (h.set a (.lst (xs.set j v))) := by
  unfold setLM
  simp only [ha]
  cases L2.ixN xs.length k with
  | none => exact ⟨fun q => q.elim, fun ⟨_, e, _⟩ => by cases e⟩
  | some j => exact ⟨fun q => ⟨j, rfl, q⟩, fun ⟨_, e, q⟩ => by cases e; exact q⟩
theorem ok_itT {xs : List MV} {Q : IT → Hm → Prop} : Ok (itOf (.tup xs) h) Q ↔ Q (itTup xs) h := Iff.rfl
theorem ok_itF {xs : List MV} {Q : IT → Hm → Prop} : Ok (itOf (.flst xs) h) Q ↔ Q (itTup xs) h := Iff.rfl
theorem ok_itL {a : Nat} {xs : List MV} {Q : IT → Hm → Prop} (ha : h[a]? = some (.lst xs)) : Ok (itOf (.ref a) h) Q ↔ Q (itLst a) h := by
  unfold itOf
  simp only [ha, ok_ok]
theorem itLst_at {a i : Nat} {xs : List MV} (ha : h[a]? = some (.lst xs)) : itLst a i h = some xs[i]? := by
  unfold itLst
  simp only [ha]
/-- the numbers from lo on, n of them -/
def rngL (lo : Int) (n : Nat) : List Int := (List.range n).map fun (i : Nat) => lo + (i : Int)
theorem rngL_len {lo : Int} {n : Nat} : (rngL lo n).length = n := by simp [rngL]
theorem rngL_mem {lo x : Int} {n : Nat} : x ∈ rngL lo n ↔ lo ≤ x ∧ x < lo + n := by
  unfold rngL
  simp only [List.mem_map, List.mem_range]
  constructor
  · rintro ⟨i, hi, rfl⟩; omega
  · rintro ⟨h1, h2⟩; exact ⟨(x - lo).toNat, by omega, by omega⟩
theorem rngL_lt {lo : Int} {n : Nat} : (rngL lo n).Pairwise (· < ·) := by
  unfold rngL
  rw [List.pairwise_map]
  exact List.pairwise_lt_range.imp fun h => by omega
theorem itRng_at {lo : Int} {n i : Nat} {h : Hm} : itRng lo n i h = some ((rngL lo n).map MV.int)[i]? := by
  unfold itRng rngL
  rw [List.map_map, List.getElem?_map]
  by_cases c : i < n
  · rw [if_pos c, List.getElem?_range c]; rfl
  · rw [if_neg c, List.getElem?_eq_none (by simpa using c)]; rfl
end
end Cutp

/-! CutWp2: more of values at hand; how a heap goes on. -/
namespace Cutp
open PySem
section
variable {h : Hm} {R : MV → Hm → Prop}
theorem ok_isi {x : MV} {t n : String} {b : Bool} (e : tyNm x h = some t) (k : L2.kitB t n = some b) : Ok (isiM [x, .ty n] h) R ↔ R (.bl b) h := by
  unfold isiM
  simp only [e, Option.bind_some, k, ok_ok]
theorem ok_isiII {i : Int} : Ok (isiM [.int i, .ty "int"] h) R ↔ R (.bl true) h := ok_isi rfl (by decide +kernel)
theorem ok_isiIB {i : Int} : Ok (isiM [.int i, .ty "bool"] h) R ↔ R (.bl false) h := ok_isi rfl (by decide +kernel)
theorem ok_isiIT {i : Int} : Ok (isiM [.int i, .ty "tuple"] h) R ↔ R (.bl false) h := ok_isi rfl (by decide +kernel)
theorem ok_isiTT {xs : List MV} : Ok (isiM [.tup xs, .ty "tuple"] h) R ↔ R (.bl true) h := ok_isi rfl (by decide +kernel)
theorem ok_isiTI {xs : List MV} : Ok (isiM [.tup xs, .ty "int"] h) R ↔ R (.bl false) h := ok_isi rfl (by decide +kernel)
theorem ok_isiSS {x : Str} : Ok (isiM [.str x, .ty "str"] h) R ↔ R (.bl true) h := ok_isi rfl (by decide +kernel)
theorem ok_isiLT {a : Nat} {xs : List MV} (ha : h[a]? = some (.lst xs)) : Ok (isiM [.ref a, .ty "tuple"] h) R ↔ R (.bl false) h := ok_isi (t := "list") (by unfold tyNm; simp only [ha]) (by decide +kernel)
theorem getAt_at {α : Type} {xs : List α} {i : Int} (h : 0 ≤ i) : getAt xs i = xs[i.toNat]? := by
  unfold getAt L2.atI L2.ixN
  rw [if_pos h]
  by_cases c : i < xs.length
  · rw [if_pos c]; rfl
  · rw [if_neg c, List.getElem?_eq_none (by omega)]; rfl
theorem getAt0 {α : Type} {a : α} {l : List α} : getAt (a :: l) 0 = some a := getAt_at (by decide)
theorem getAt1 {α : Type} {a b : α} {l : List α} : getAt (a :: b :: l) 1 = some b := getAt_at (by decide)
theorem getAt2 {α : Type} {a b c : α} {l : List α} : getAt (a :: b :: c :: l) 2 = some c := getAt_at (by decide)
/-! numbers: bits -/
theorem lg {i : Int} {k : Nat} (h : i.natAbs < 2 ^ k) (hk : 0 < k) : i.natAbs.log2 < k := by
  by_cases z : i.natAbs = 0
  · rw [z]; simpa using hk
  · exact (Nat.log2_lt z).mpr h
theorem lg64 {i : Int} (h : -9223372036854775808 < i ∧ i < 9223372036854775808) : i.natAbs.log2 < 64 := lg (by
  have e : (2 : Nat) ^ 64 = 18446744073709551616 := by decide
  rw [e]; omega) (by decide)
theorem mul_ok {i j : Int} (h : -9223372036854775808 < i ∧ i < 9223372036854775808) (h2 : -9223372036854775808 < j ∧ j < 9223372036854775808) : i.natAbs.log2 + j.natAbs.log2 < 1000000 := by
  have := lg64 h
  have := lg64 h2
  omega
theorem div_ok {j : Int} (h0 : 0 < j) (h : j < 9223372036854775808) : 0 < j ∧ j.natAbs.log2 < 9000 := ⟨h0, by have := lg64 (i := j) (by omega); omega⟩
/-! texts -/
/-! == of lists of ints -/
def dI (ns : List Int) : List PyData := ns.map .int
theorem toD_ints (h : Hm) (n : Nat) : ∀ ns : List Int, allD (toD h (n + 1)) (ns.map .int) = some (dI ns)
  | [] => rfl
  | m :: ns => by
    rw [List.map_cons]
    unfold allD
    rw [toD_ints h n ns]
    rfl
theorem dI_lay : ∀ ns : List Int, PyData.canLayAll0 (dI ns) = true
  | [] => rfl
  | _ :: ns => dI_lay ns
theorem dI_depth : ∀ ns : List Int, PyData.depthAll (dI ns) = 0
  | [] => rfl
  | _ :: ns => by
    show max 0 (PyData.depthAll (dI ns)) = 0
    rw [dI_depth ns]; rfl
theorem dI_shaped (ns : List Int) : SeqAt.shaped (.list (dI ns)) = true := by
  unfold SeqAt.shaped
  rw [show PyData.canLay0 (.list (dI ns)) = PyData.canLayAll0 (dI ns) from rfl, dI_lay, show PyData.depth (.list (dI ns)) = PyData.depthAll (dI ns) + 1 from rfl, dI_depth]
  rfl
theorem dI_eqv : ∀ a b : List Int, PyData.eqvAll (dI a) (dI b) = decide (a = b)
  | [], [] => rfl
  | [], _ :: _ => rfl
  | _ :: _, [] => rfl
  | x :: a, y :: b => by
    show ((x == y) && PyData.eqvAll (dI a) (dI b)) = _
    rw [dI_eqv a b]
    by_cases h1 : x = y <;> by_cases h2 : a = b <;> simp [h1, h2]
theorem toD_lst {a : Nat} {ns : List Int} (ha : h[a]? = some (.lst (ns.map .int))) : toD h deep (.ref a) = some (.list (dI ns)) := by
  show toD h (18 + 1 + 1) (.ref a) = _
  unfold toD
  simp only [ha, toD_ints, Option.map_some]
theorem ok_eqL {a b : Nat} {ns ms : List Int} (ha : h[a]? = some (.lst (ns.map .int))) (hb : h[b]? = some (.lst (ms.map .int))) : Ok (eqM (.ref a) (.ref b) h) R ↔ R (.bl (decide (ns = ms))) h := by
  unfold eqM
  simp only [toD_lst ha, toD_lst hb, dI_shaped, and_self, if_true, ok_ok]
  rw [show PyData.eqv (.list (dI ns)) (.list (dI ms)) = PyData.eqvAll (dI ns) (dI ms) from rfl, dI_eqv]
theorem ok_neL {a b : Nat} {ns ms : List Int} (ha : h[a]? = some (.lst (ns.map .int))) (hb : h[b]? = some (.lst (ms.map .int))) : Ok (neM (.ref a) (.ref b) h) R ↔ R (.bl (!decide (ns = ms))) h := by
  unfold neM
  simp only [toD_lst ha, toD_lst hb, dI_shaped, and_self, if_true, ok_ok]
  rw [show PyData.eqv (.list (dI ns)) (.list (dI ms)) = PyData.eqvAll (dI ns) (dI ms) from rfl, dI_eqv]
/-- repr of a list of two truths -/
def sh2 (x y : Bool) : Str := PyData.shown (.list [.bool x, .bool y])
theorem ok_repr2 {a : Nat} {x y : Bool} (ha : h[a]? = some (.lst [.bl x, .bl y])) : Ok (reprM [.ref a] h) R ↔ R (.str (sh2 x y)) h := by
  have e : toD h deep (.ref a) = some (.list [.bool x, .bool y]) := by
    show toD h (18 + 1 + 1) (.ref a) = _
    unfold toD
    simp only [ha]
    rfl
  unfold reprM
  simp only [e]
  rw [if_pos]
  · exact Iff.rfl
  · cases x <;> cases y <;> exact ⟨rfl, rfl, by decide +kernel, by decide +kernel⟩
theorem ok_eqR {x y : Bool} : Ok (eqM (.str (sh2 x x)) (.str (sh2 y y)) h) R ↔ R (.bl (x == y)) h := by
  have e : ∀ x y, eqM (.str (sh2 x x)) (.str (sh2 y y)) h = .ok (.bl (x == y)) h := by
    intro x y
    have s : ∀ x, SeqAt.shaped (.str (sh2 x x)) = true := by decide +kernel
    have q : ∀ x y, PyData.eqv (.str (sh2 x x)) (.str (sh2 y y)) = (x == y) := by decide +kernel
    show (if SeqAt.shaped (.str (sh2 x x)) = true ∧ SeqAt.shaped (.str (sh2 y y)) = true then Res.ok (MV.bl (PyData.eqv (.str (sh2 x x)) (.str (sh2 y y)))) h else .stuck) = _
    rw [if_pos ⟨s x, s y⟩, q]
  rw [e, ok_ok]
/-! how the heap goes on -/
/-- all stays, new ones come -/
def Gr (h h' : Hm) : Prop := ∃ l, h' = h ++ l
theorem Gr.refl (h : Hm) : Gr h h := ⟨[], by simp⟩
theorem Gr.trans {a b c : Hm} (x : Gr a b) (y : Gr b c) : Gr a c := by
  obtain ⟨l, rfl⟩ := x
  obtain ⟨m, rfl⟩ := y
  exact ⟨l ++ m, by simp⟩
theorem Gr.one (h : Hm) (o : MO) : Gr h (h ++ [o]) := ⟨[o], rfl⟩
theorem Gr.at {h h' : Hm} (g : Gr h h') {i : Nat} {o : MO} (e : h[i]? = some o) : h'[i]? = some o := by
  obtain ⟨l, rfl⟩ := g
  rw [List.getElem?_append_left (List.getElem?_eq_some_iff.mp e).1]
  exact e
theorem new_at {h : Hm} {o : MO} : (h ++ [o])[h.length]? = some o := by simp
/-- all but p stays -/
structure Kh (p : Nat) (h h' : Hm) : Prop where
  len : h.length ≤ h'.length
  at_ : ∀ i, i < h.length → i ≠ p → h'[i]? = h[i]?
theorem Kh.refl (p : Nat) (h : Hm) : Kh p h h := ⟨Nat.le_refl _, fun _ _ _ => rfl⟩
theorem Kh.trans {p : Nat} {a b c : Hm} (x : Kh p a b) (y : Kh p b c) : Kh p a c :=
  ⟨Nat.le_trans x.len y.len, fun i hi hp => (y.at_ i (Nat.lt_of_lt_of_le hi x.len) hp).trans (x.at_ i hi hp)⟩
theorem Gr.kh {h h' : Hm} (g : Gr h h') (p : Nat) : Kh p h h' := by
  obtain ⟨l, rfl⟩ := g
  exact ⟨by simp, fun i hi _ => List.getElem?_append_left hi⟩
theorem Kh.get {p : Nat} {h h' : Hm} (k : Kh p h h') {i : Nat} {o : MO} (e : h[i]? = some o) (n : i ≠ p) : h'[i]? = some o := by
  rw [k.at_ i (List.getElem?_eq_some_iff.mp e).1 n]
  exact e
theorem Kh.set {p : Nat} {h : Hm} {o : MO} : Kh p h (h.set p o) := ⟨by simp, fun i _ hp => List.getElem?_set_ne (Ne.symm hp)⟩
theorem set_at {p : Nat} {h : Hm} {o x : MO} (e : h[p]? = some x) : (h.set p o)[p]? = some o := List.getElem?_set_self (List.getElem?_eq_some_iff.mp e).1
end
end Cutp

/-! CutWp3: slices by places, lists of ints searched, sorted, repeated. -/
namespace Cutp
open PySem L2
section
variable {h : Hm} {R : MV → Hm → Prop}
theorem cut_hi {α : Type} {xs : List α} {k : Int} (h0 : 0 ≤ k) : cutM xs none (some k) = xs.take k.toNat := by
  unfold cutM
  have e1 : HT.sIx xs.length 0 none = 0 := rfl
  have e2 : HT.sIx xs.length xs.length (some k) = min k.toNat xs.length := by
    unfold HT.sIx
    simp only
    split <;> omega
  rw [e1, e2, List.drop_zero, Nat.sub_zero, List.take_eq_take_iff]
  omega
theorem cut_lo {α : Type} {xs : List α} {k : Int} (h0 : 0 ≤ k) : cutM xs (some k) none = xs.drop k.toNat := by
  unfold cutM
  have e1 : HT.sIx xs.length xs.length none = xs.length := rfl
  have e2 : HT.sIx xs.length 0 (some k) = min k.toNat xs.length := by
    unfold HT.sIx
    simp only
    split <;> omega
  rw [e1, e2]
  by_cases c : k.toNat ≤ xs.length
  · rw [Nat.min_eq_left c, List.take_of_length_le (by rw [List.length_drop]; omega)]
  · rw [Nat.min_eq_right (by omega), Nat.sub_self, List.take_zero, List.drop_eq_nil_of_le (by omega)]
theorem ok_mulL {a : Nat} {xs : List MV} {k : Int} (ha : h[a]? = some (.lst xs)) : Ok (mulM (.ref a) (.int k) h) R ↔ (k < 10000000 ∧ -10000000 < k ∧ xs.length * k.toNat ≤ 10000000) ∧ R (.ref h.length) (h ++ [.lst (List.replicate k.toNat xs).flatten]) := by
  unfold mulM
  simp only [ha]
  rw [ok_ite]
  by_cases c : k < 10000000 ∧ -10000000 < k ∧ xs.length * k.toNat ≤ 10000000
  · rw [if_pos c]; exact ⟨fun q => ⟨c, q⟩, fun q => q.2⟩
  · rw [if_neg c]; exact ⟨fun q => q.elim, fun q => (c q.1).elim⟩
theorem flat_ints : ∀ ds : List Int, (ds.map MV.int).all flatM = true
  | [] => rfl
  | _ :: ds => flat_ints ds
theorem any_ints (x : Int) : ∀ ds : List Int, ((ds.map MV.int).any fun z => eqF z (.int x)) = decide (x ∈ ds)
  | [] => rfl
  | d :: ds => by
    rw [List.map_cons, List.any_cons, any_ints x ds]
    show ((d == x) || decide (x ∈ ds)) = _
    by_cases c : d = x
    · subst c; simp
    · have : ¬ x = d := fun z => c z.symm
      simp [c, this]
theorem ok_inL {a : Nat} {ds : List Int} {x : Int} {neg : Bool} (ha : h[a]? = some (.lst (ds.map .int))) : Ok (inM neg (.int x) (.ref a) h) R ↔ R (.bl (if neg = true then !decide (x ∈ ds) else decide (x ∈ ds))) h := by
  unfold inM seqOf lstOf
  simp only [ha, flat_ints, any_ints]
  rw [if_pos ⟨rfl, trivial⟩]
  exact Iff.rfl
theorem ok_sorted {a : Nat} {ns : List Int} (ha : h[a]? = some (.lst (ns.map .int))) : Ok (sortedM [.ref a] h) R ↔ R (.ref h.length) (h ++ [.lst ((sortI ns).map .int)]) := by
  unfold sortedM
  rw [ok_ints ha, ok_ok]
theorem sortI_lt {ns : List Int} (h : ns.Nodup) : (sortI ns).Pairwise (· < ·) := by
  have h1 := sortI_le ns
  have h2 : (sortI ns).Nodup := (sortI_perm ns).nodup_iff.mpr h
  have h3 : (sortI ns).Pairwise (fun a b => a ≤ b ∧ a ≠ b) := List.pairwise_and_iff.mpr ⟨h1, h2⟩
  exact h3.imp fun {a b} ⟨x, y⟩ => by omega
end
end Cutp

namespace K74
open PySem PySem.Spec PyProof.Rows L2 Cutp
def top (i : Nat) : Stmt := PySem.Challenge.pw_cutplans_k74_fewest_lengths_judged.main.body.getD i (.Pass ⟨0, 0, 0, 0⟩)
abbrev s_is_between : Stmt := top 4
abbrev s_is_cut_reel : Stmt := top 6
abbrev s_reel_rest : Stmt := top 11
abbrev s_breaks_hold : Stmt := top 12
abbrev s_accepts_at_least : Stmt := top 16
abbrev s_accepts : Stmt := top 18
abbrev s__law_judged : Stmt := top 33
abbrev s__law_draw : Stmt := top 22
abbrev s__law_rest : Stmt := top 23
abbrev s__law_spots : Stmt := top 24
abbrev s__law_times : Stmt := top 29
abbrev s__law_left : Stmt := top 25
abbrev s__law_pairs : Stmt := top 26
abbrev s__law_is_period : Stmt := top 28
abbrev s__law_parts : Stmt := top 27
abbrev s__law_bent_pairs : Stmt := top 31
abbrev s__law_bent : Stmt := top 32
abbrev s__law_holds : Stmt := top 30
abbrev s__law_right : Stmt := top 34
abbrev s__law_pool : Stmt := top 21
abbrev s__law_cell : Stmt := top 20
abbrev s_law : Stmt := top 35
/-! the mirrors -/
def b_is_between : SM :=
    (sRet (mAndV (mCB isiM (mCons (mVar 0) (mCons (mC (.ty "int")) mNil))) (mAndV (mNotV (mCB isiM (mCons (mVar 0) (mCons (mC (.ty "bool")) mNil)))) (mChain leM leM (mVar 1) (mVar 0) (mVar 2)))))
def m_is_between : List MV → M MV := runD 3 b_is_between
def b_is_cut_reel : SM :=
    (sSeq (sIf (mOr (mNot (mTru (mCall 3 m_is_between [] (mCons (mVar 0) (mCons (mC (.int 1)) (mCons (mC (.int 1000000000000000)) mNil)))))) (mOr (mNot (mTru (mCB isiM (mCons (mVar 1) (mCons (mC (.ty "tuple")) mNil))))) (mTest (mOp gtM (mCB lenM (mCons (mVar 1) mNil)) (mC (.int 200)))))) (sRet (mC (.bl false))) sNext)
    (sSeq (sAsg (mC (.int 1)) (gmName 2))
    (sSeq (sFor (mIter (mVar 1)) (gmName 3) (sSeq (sIf (mNot (mTru (mCall 3 m_is_between [] (mCons (mVar 3) (mCons (mVar 2) (mCons (mOp subM (mVar 0) (mC (.int 1))) mNil)))))) (sRet (mC (.bl false))) sNext)
    (sAsg (mOp addM (mVar 3) (mC (.int 1))) (gmName 2))))
    (sRet (mC (.bl true))))))
def m_is_cut_reel : List MV → M MV := runD 4 b_is_cut_reel
def b_reel_rest : SM :=
    (sSeq (sPar 2 3 (mC (.int 0)) (mCB lenM (mCons (mVar 0) mNil)))
    (sSeq (sWhile (mTest (mOp ltM (mVar 2) (mVar 3))) (sSeq (sAsg (mOp divM (mOp addM (mVar 2) (mVar 3)) (mC (.int 2))) (gmName 4))
    (sIf (mTest (mOp leM (mOp ixM (mVar 0) (mVar 4)) (mVar 1))) (sAsg (mOp addM (mVar 4) (mC (.int 1))) (gmName 2)) (sAsg (mVar 4) (gmName 3)))))
    (sRet (mIf (mTest (mOp eqM (mVar 2) (mC (.int 0)))) (mVar 1) (mOp subM (mVar 1) (mOp ixM (mVar 0) (mOp subM (mVar 2) (mC (.int 1)))))))))
def m_reel_rest : List MV → M MV := runD 5 b_reel_rest
def b_breaks_hold : SM :=
    (sSeq (sAsg (mComp (mIter (mVar 0)) [5] (gmName 5) (mTest (mOp ltM (mVar 5) (mVar 2))) (mVar 5)) (gmName 4))
    (sSeq (sIf (mOr (mNot (mTru (mCB isiM (mCons (mVar 3) (mCons (mC (.ty "tuple")) mNil))))) (mTest (mOp neM (mCB lenM (mCons (mVar 3) mNil)) (mCB lenM (mCons (mVar 4) mNil))))) (sRet (mC (.bl false))) sNext)
    (sSeq (sFor (mZip (mCons (mVar 4) (mCons (mVar 3) mNil))) (gmTup 2 (gmCons (gmName 5) (gmCons (gmName 6) gmNil))) (sSeq (sIf (mOr (mNot (mTru (mCB isiM (mCons (mVar 6) (mCons (mC (.ty "tuple")) mNil))))) (mOr (mTest (mOp neM (mCB lenM (mCons (mVar 6) mNil)) (mC (.int 2)))) (mNot (mTru (mCall 3 m_is_between [] (mCons (mOp ixM (mVar 6) (mC (.int 0))) (mCons (mVar 5) (mCons (mVar 5) mNil)))))))) (sRet (mC (.bl false))) sNext)
    (sSeq (sIf (mNot (mTru (mCall 3 m_is_between [] (mCons (mOp ixM (mVar 6) (mC (.int 1))) (mCons (mC (.int 0)) (mCons (mOp subM (mOp subM (mVar 1) (mVar 5)) (mC (.int 1))) mNil)))))) (sRet (mC (.bl false))) sNext)
    (sIf (mTest (mOp eqM (mCall 2 m_reel_rest [] (mCons (mVar 0) (mCons (mOp ixM (mVar 6) (mC (.int 1))) mNil))) (mCall 2 m_reel_rest [] (mCons (mVar 0) (mCons (mOp addM (mOp ixM (mVar 6) (mC (.int 1))) (mVar 5)) mNil))))) (sRet (mC (.bl false))) sNext))))
    (sRet (mC (.bl true))))))
def m_breaks_hold : List MV → M MV := runD 7 b_breaks_hold
def b_accepts_at_least : SM :=
    (sSeq (sIf (mOr (mTest (mOp neM (mCB lenM (mCons (mVar 0) mNil)) (mC (.int 3)))) (mOr (mNot (mTru (mCall 2 m_is_cut_reel [] (mCons (mOp ixM (mVar 0) (mC (.int 0))) (mCons (mOp ixM (mVar 0) (mC (.int 1))) mNil))))) (mNot (mTru (mCall 3 m_is_between [] (mCons (mOp ixM (mVar 0) (mC (.int 2))) (mCons (mC (.int 0)) (mCons (mC (.int 200)) mNil)))))))) (sRet (mC (.bl false))) sNext)
    (sSeq (sIf (mOr (mNot (mTru (mCB isiM (mCons (mVar 1) (mCons (mC (.ty "tuple")) mNil))))) (mTest (mOp neM (mCB lenM (mCons (mVar 1) mNil)) (mOp ixM (mVar 0) (mC (.int 2)))))) (sRet (mC (.bl false))) sNext)
    (sSeq (sPar 2 3 (mOp ixM (mVar 0) (mC (.int 0))) (mOp ixM (mVar 0) (mC (.int 1))))
    (sSeq (sFor (mIter (mVar 1)) (gmName 4) (sSeq (sIf (mOr (mNot (mTru (mCB isiM (mCons (mVar 4) (mCons (mC (.ty "tuple")) mNil))))) (mOr (mTest (mOp neM (mCB lenM (mCons (mVar 4) mNil)) (mC (.int 2)))) (mNot (mTru (mCall 3 m_is_between [] (mCons (mOp ixM (mVar 4) (mC (.int 0))) (mCons (mC (.int 1)) (mCons (mOp subM (mVar 2) (mC (.int 1))) mNil)))))))) (sRet (mC (.bl false))) sNext)
    (sSeq (sIf (mOr (mTest (mOp (inM true) (mOp ixM (mVar 4) (mC (.int 0))) (mVar 3))) (mNot (mTru (mCall 4 m_breaks_hold [] (mCons (mVar 3) (mCons (mVar 2) (mCons (mOp ixM (mVar 4) (mC (.int 0))) (mCons (mOp ixM (mVar 4) (mC (.int 1))) mNil)))))))) (sRet (mC (.bl false))) sNext)
    (sAsg (mOp ixM (mVar 4) (mC (.int 0))) (gmName 2)))))
    (sRet (mC (.bl true)))))))
def m_accepts_at_least : List MV → M MV := runD 5 b_accepts_at_least
def cal_accepts : Nat → Option (Nat × (List MV → M MV)) := fun g => if g = 4 then some (2, m_accepts_at_least) else none
def look_JUDGES : Str → Option Bool := fun z => if z = "at least" then some true else none
def itm_JUDGES : Str → Option MV := fun z => if z = "at least" then some (.gl 4) else none
def b_accepts : SM :=
    (sSeq (sIf (mOr (mNot (mTru (mCB isiM (mCons (mVar 0) (mCons (mC (.ty "tuple")) mNil))))) (mOr (mTest (mOp eqM (mCB lenM (mCons (mVar 0) mNil)) (mC (.int 0)))) (mOr (mNot (mTru (mCB isiM (mCons (mOp ixM (mVar 0) (mC (.int 0))) (mCons (mC (.ty "str")) mNil))))) (mTest (mUn (kdM true look_JUDGES) (mOp ixM (mVar 0) (mC (.int 0)))))))) (sRet (mC (.bl false))) sNext)
    (sSeq (sAsg (mUn (kdItM itm_JUDGES) (mOp ixM (mVar 0) (mC (.int 0)))) (gmName 2))
    (sRet (mCallV cal_accepts 2 (mCons (mSlice (mVar 0) (mPart (mC (.int 1))) mNoPart) (mCons (mVar 1) mNil))))))
def m_accepts : List MV → M MV := runD 3 b_accepts
def b__law_judged : SM :=
    (sRet (mOp eqM (mCB reprM (mCons (mLst (mCons (mCall 2 m_accepts [] (mCons (mVar 0) (mCons (mVar 1) mNil))) (mCons (mCallK 0 2 2 [1, 0] m_accepts mNil (mCons (mVar 1) (mCons (mVar 0) mNil))) mNil))) mNil)) (mCB reprM (mCons (mLst (mCons (mVar 2) (mCons (mVar 2) mNil))) mNil))))
def m__law_judged : List MV → M MV := runD 3 b__law_judged
def b__law_draw : SM :=
    (sSeq (sAsg (mOp addM (mOp ixM (mVar 0) (mC (.int 2))) (mC (.int 1))) (gmSub (mVar 0) (mC (.int 2)) setLM))
    (sSeq (sAsg (mOp ixM (mVar 0) (mC (.int 0))) (gmName 2))
    (sSeq (sAsg (mOp modM (mOp addM (mOp addM (mOp mulM (mVar 2) (mOp addM (mOp modM (mVar 2) (mC (.int 42017))) (mC (.int 29017)))) (mOp mulM (mC (.int 70039)) (mOp ixM (mVar 0) (mC (.int 2))))) (mC (.int 13))) (mC (.int 2147483237))) (gmSub (mVar 0) (mC (.int 0)) setLM))
    (sSeq (sIf (mTest (mOp gtM (mOp ixM (mVar 0) (mC (.int 1))) (mC (.int 0)))) (sSeq (sAsg (mCB divmodM (mCons (mOp ixM (mVar 0) (mC (.int 1))) (mCons (mVar 1) mNil))) (gmTup 2 (gmCons (gmSub (mVar 0) (mC (.int 1)) setLM) (gmCons (gmName 3) gmNil))))
    (sRet (mVar 3))) sNext)
    (sRet (mOp modM (mOp divM (mOp ixM (mVar 0) (mC (.int 0))) (mC (.int 64))) (mVar 1)))))))
def m__law_draw : List MV → M MV := runD 4 b__law_draw
def b__law_rest : SM :=
    (sSeq (sFor (mIter (mVar 0)) (gmName 2) (sAsg (mOp modM (mVar 1) (mVar 2)) (gmName 1)))
    (sRet (mVar 1)))
def m__law_rest : List MV → M MV := runD 3 b__law_rest
def b__law_spots : SM :=
    (sSeq (sIf (mTest (mOp eqM (mVar 1) (mC (.int 1)))) (sRet (mTup mNil)) sNext)
    (sSeq (sIf (mTest (mOp eqM (mCall 2 m__law_draw [] (mCons (mVar 0) (mCons (mC (.int 3)) mNil))) (mC (.int 0)))) (sRet (mCB tupleM (mCons (mComp (mRng2 (mCons (mC (.int 1)) (mCons (mVar 1) mNil))) [5] (gmName 5) (mTest (mOp eqM (mCall 2 m__law_draw [] (mCons (mVar 0) (mCons (mC (.int 3)) mNil))) (mC (.int 0)))) (mVar 5)) mNil))) sNext)
    (sSeq (sAsg (mComp (mRng1 (mCons (mOp addM (mC (.int 1)) (mCall 2 m__law_draw [] (mCons (mVar 0) (mCons (mC (.int 3)) mNil)))) mNil)) [6] (gmName 6) mYes (mOp addM (mC (.int 1)) (mCall 2 m__law_draw [] (mCons (mVar 0) (mCons (mC (.int 9)) mNil))))) (gmName 2))
    (sSeq (sAsg (mComp (mRng2 (mCons (mC (.int 1)) (mCons (mVar 1) mNil))) [5] (gmName 5) (mTest (mOp eqM (mCall 2 m__law_rest [] (mCons (mVar 2) (mCons (mVar 5) mNil))) (mC (.int 0)))) (mVar 5)) (gmName 3))
    (sSeq (sAsg (mOp addM (mC (.int 1)) (mCall 2 m__law_draw [] (mCons (mVar 0) (mCons (mOp subM (mVar 1) (mC (.int 1))) mNil)))) (gmName 4))
    (sSeq (sIf (mTest (mOp eqM (mCall 2 m__law_draw [] (mCons (mVar 0) (mCons (mC (.int 4)) mNil))) (mC (.int 0)))) (sAsg (mOp addM (mComp (mIter (mVar 3)) [5] (gmName 5) (mTest (mOp neM (mVar 5) (mVar 4))) (mVar 5)) (mOp mulM (mLst (mCons (mVar 4) mNil)) (mCB intCM (mCons (mOp (inM true) (mVar 4) (mVar 3)) mNil)))) (gmName 3)) sNext)
    (sRet (mCB tupleM (mCons (mCB sortedM (mCons (mVar 3) mNil)) mNil)))))))))
def m__law_spots : List MV → M MV := runD 7 b__law_spots
def b__law_times : SM :=
    (sSeq (sAsg (mLst mNil) (gmName 2))
    (sSeq (sFor (mIter (mVar 0)) (gmTup 2 (gmCons (gmName 3) (gmCons (gmName 4) gmNil))) (sExpr (mMeth isLst appendM (mVar 2) (mCons (mTup (mCons (mOp mulM (mVar 3) (mVar 1)) (mCons (mCB tupleM (mCons (mComp (mIter (mVar 4)) [5, 6] (gmTup 2 (gmCons (gmName 5) (gmCons (gmName 6) gmNil))) mYes (mTup (mCons (mOp mulM (mVar 5) (mVar 1)) (mCons (mOp mulM (mVar 6) (mVar 1)) mNil)))) mNil)) mNil))) mNil))))
    (sRet (mCB tupleM (mCons (mVar 2) mNil)))))
def m__law_times : List MV → M MV := runD 7 b__law_times
def b__law_left : SM :=
    (sRet (mOp subM (mVar 1) (mCB maxLM (mCons (mOp addM (mLst (mCons (mC (.int 0)) mNil)) (mComp (mIter (mVar 0)) [2] (gmName 2) (mTest (mOp leM (mVar 2) (mVar 1))) (mVar 2))) mNil))))
def m__law_left : List MV → M MV := runD 3 b__law_left
def b__law_pairs : SM :=
    (sSeq (sAsg (mLst mNil) (gmName 4))
    (sSeq (sFor (mIter (mVar 1)) (gmName 5) (sIf (mTest (mOp ltM (mVar 5) (mVar 3))) (sSeq (sAsg (mComp (mRng1 (mCons (mOp subM (mVar 2) (mVar 5)) mNil)) [8] (gmName 8) (mTest (mOp neM (mCall 2 m__law_left [] (mCons (mVar 1) (mCons (mVar 8) mNil))) (mCall 2 m__law_left [] (mCons (mVar 1) (mCons (mOp addM (mVar 8) (mVar 5)) mNil))))) (mVar 8)) (gmName 6))
    (sSeq (sAsg (mIf (mTest (mOp neM (mVar 6) (mLst mNil))) (mOp ixM (mVar 6) (mOp mulM (mCall 2 m__law_draw [] (mCons (mVar 0) (mCons (mC (.int 2)) mNil))) (mOp subM (mCB lenM (mCons (mVar 6) mNil)) (mC (.int 1))))) (mCall 2 m__law_draw [] (mCons (mVar 0) (mCons (mOp subM (mVar 2) (mVar 5)) mNil)))) (gmName 7))
    (sExpr (mMeth isLst appendM (mVar 4) (mCons (mTup (mCons (mVar 5) (mCons (mVar 7) mNil))) mNil))))) sNext))
    (sRet (mCB tupleM (mCons (mVar 4) mNil)))))
def m__law_pairs : List MV → M MV := runD 9 b__law_pairs
def b__law_is_period : SM :=
    (sRet (mCB allM (mCons (mComp (mRng1 (mCons (mOp subM (mVar 1) (mVar 2)) mNil)) [3] (gmName 3) mYes (mOp eqM (mCall 2 m__law_left [] (mCons (mVar 0) (mCons (mVar 3) mNil))) (mCall 2 m__law_left [] (mCons (mVar 0) (mCons (mOp addM (mVar 3) (mVar 2)) mNil))))) mNil)))
def m__law_is_period : List MV → M MV := runD 4 b__law_is_period
def b__law_parts : SM :=
    (sSeq (sAsg (mLst mNil) (gmName 3))
    (sSeq (sFor (mRng1 (mCons (mCall 2 m__law_draw [] (mCons (mVar 0) (mCons (mC (.int 6)) mNil))) mNil)) (gmName 4) (sSeq (sAsg (mComp (mIter (mVar 1)) [8] (gmName 8) (mTest (mOp ltM (mVar 8) (mVar 2))) (mVar 8)) (gmName 5))
    (sSeq (sIf (mTest (mOp eqM (mVar 5) (mLst mNil))) (sRet (mCB tupleM (mCons (mVar 3) mNil))) sNext)
    (sSeq (sAsg (mOp ixM (mVar 5) (mCall 2 m__law_draw [] (mCons (mVar 0) (mCons (mCB lenM (mCons (mVar 5) mNil)) mNil)))) (gmName 6))
    (sSeq (sIf (mTest (mOp gtM (mCall 2 m__law_draw [] (mCons (mVar 0) (mCons (mC (.int 3)) mNil))) (mC (.int 0)))) (sSeq (sAsg (mComp (mIter (mVar 5)) [9] (gmName 9) (mTru (mCall 3 m__law_is_period [] (mCons (mVar 1) (mCons (mVar 2) (mCons (mVar 9) mNil))))) (mVar 9)) (gmName 7))
    (sAsg (mIf (mTest (mOp neM (mVar 7) (mLst mNil))) (mOp ixM (mVar 7) (mC (.int 0))) (mVar 6)) (gmName 6))) sNext)
    (sSeq (sExpr (mMeth isLst appendM (mVar 3) (mCons (mTup (mCons (mVar 6) (mCons (mCall 4 m__law_pairs [] (mCons (mVar 0) (mCons (mVar 1) (mCons (mVar 2) (mCons (mVar 6) mNil))))) mNil))) mNil)))
    (sAsg (mVar 6) (gmName 2))))))))
    (sRet (mCB tupleM (mCons (mVar 3) mNil)))))
def m__law_parts : List MV → M MV := runD 10 b__law_parts
def b__law_bent_pairs : SM :=
    (sSeq (sPar 2 3 (mCall 2 m__law_draw [] (mCons (mVar 0) (mCons (mOp addM (mCB lenM (mCons (mVar 1) mNil)) (mC (.int 1))) mNil))) (mCall 2 m__law_draw [] (mCons (mVar 0) (mCons (mC (.int 5)) mNil))))
    (sSeq (sAsg (mIf (mTest (mOp ltM (mVar 2) (mCB lenM (mCons (mVar 1) mNil)))) (mOp ixM (mVar 1) (mVar 2)) (mTup (mCons (mC (.int 1)) (mCons (mC (.int 0)) mNil)))) (gmName 4))
    (sSeq (sAsg (mLst (mCons (mOp addM (mSlice (mVar 1) mNoPart (mPart (mVar 2))) (mSlice (mVar 1) (mPart (mOp addM (mVar 2) (mC (.int 1)))) mNoPart)) (mCons (mOp addM (mOp addM (mSlice (mVar 1) mNoPart (mPart (mVar 2))) (mTup (mCons (mVar 4) mNil))) (mSlice (mVar 1) (mPart (mVar 2)) mNoPart)) mNil))) (gmName 5))
    (sSeq (sAsg (mOp addM (mVar 5) (mLst (mCons (mOp addM (mOp addM (mSlice (mVar 1) mNoPart (mPart (mVar 2))) (mTup (mCons (mTup (mCons (mOp ixM (mVar 4) (mC (.int 0))) (mCons (mOp addM (mOp ixM (mVar 4) (mC (.int 1))) (mC (.int 1))) mNil))) mNil))) (mSlice (mVar 1) (mPart (mOp addM (mVar 2) (mC (.int 1)))) mNoPart)) mNil))) (gmName 5))
    (sSeq (sAsg (mOp addM (mVar 5) (mLst (mCons (mOp addM (mOp addM (mSlice (mVar 1) mNoPart (mPart (mVar 2))) (mTup (mCons (mTup (mCons (mOp addM (mOp ixM (mVar 4) (mC (.int 0))) (mC (.int 1))) (mCons (mOp ixM (mVar 4) (mC (.int 1))) mNil))) mNil))) (mSlice (mVar 1) (mPart (mOp addM (mVar 2) (mC (.int 1)))) mNoPart)) mNil))) (gmName 5))
    (sRet (mOp ixM (mOp addM (mVar 5) (mLst (mCons (mOp addM (mOp addM (mSlice (mVar 1) mNoPart (mPart (mVar 2))) (mTup (mCons (mTup (mCons (mOp ixM (mVar 4) (mC (.int 0))) (mCons (mOp subM (mOp ixM (mVar 4) (mC (.int 1))) (mC (.int 1))) mNil))) mNil))) (mSlice (mVar 1) (mPart (mOp addM (mVar 2) (mC (.int 1)))) mNoPart)) mNil))) (mVar 3))))))))
def m__law_bent_pairs : List MV → M MV := runD 6 b__law_bent_pairs
def b__law_bent : SM :=
    (sSeq (sPar 2 3 (mCall 2 m__law_draw [] (mCons (mVar 0) (mCons (mOp addM (mCB lenM (mCons (mVar 1) mNil)) (mC (.int 1))) mNil))) (mCall 2 m__law_draw [] (mCons (mVar 0) (mCons (mC (.int 6)) mNil))))
    (sSeq (sAsg (mIf (mTest (mOp ltM (mVar 2) (mCB lenM (mCons (mVar 1) mNil)))) (mOp ixM (mVar 1) (mVar 2)) (mTup (mCons (mC (.int 1)) (mCons (mTup mNil) mNil)))) (gmTup 2 (gmCons (gmName 4) (gmCons (gmName 5) gmNil))))
    (sSeq (sAsg (mLst (mCons (mVar 1) (mCons (mOp addM (mSlice (mVar 1) mNoPart (mPart (mVar 2))) (mSlice (mVar 1) (mPart (mOp addM (mVar 2) (mC (.int 1)))) mNoPart)) (mCons (mOp addM (mOp addM (mSlice (mVar 1) mNoPart (mPart (mVar 2))) (mTup (mCons (mTup (mCons (mVar 4) (mCons (mVar 5) mNil))) mNil))) (mSlice (mVar 1) (mPart (mVar 2)) mNoPart)) (mCons (mBack (mVar 1)) mNil))))) (gmName 6))
    (sSeq (sExpr (mMeth isLst appendM (mVar 6) (mCons (mOp addM (mOp addM (mSlice (mVar 1) mNoPart (mPart (mVar 2))) (mTup (mCons (mTup (mCons (mVar 4) (mCons (mCall 2 m__law_bent_pairs [] (mCons (mVar 0) (mCons (mVar 5) mNil))) mNil))) mNil))) (mSlice (mVar 1) (mPart (mOp addM (mVar 2) (mC (.int 1)))) mNoPart)) mNil)))
    (sSeq (sAsg (mOp addM (mVar 4) (mOp ixM (mLst (mCons (mC (.int 1)) (mCons (mUn negM (mC (.int 1))) mNil))) (mCall 2 m__law_draw [] (mCons (mVar 0) (mCons (mC (.int 2)) mNil))))) (gmName 4))
    (sRet (mOp ixM (mOp addM (mVar 6) (mLst (mCons (mOp addM (mOp addM (mSlice (mVar 1) mNoPart (mPart (mVar 2))) (mTup (mCons (mTup (mCons (mVar 4) (mCons (mVar 5) mNil))) mNil))) (mSlice (mVar 1) (mPart (mOp addM (mVar 2) (mC (.int 1)))) mNoPart)) mNil))) (mVar 3))))))))
def m__law_bent : List MV → M MV := runD 7 b__law_bent
def b__law_holds : SM :=
    (sSeq (sFor (mIter (mVar 2)) (gmTup 2 (gmCons (gmName 3) (gmCons (gmName 4) gmNil))) (sSeq (sAsg (mComp (mIter (mVar 0)) [6] (gmName 6) (mTest (mOp ltM (mVar 6) (mVar 3))) (mVar 6)) (gmName 5))
    (sSeq (sIf (mOr (mTest (mOp (inM true) (mVar 3) (mVar 0))) (mOr (mTest (mOp geM (mVar 3) (mVar 1))) (mTest (mOp neM (mComp (mIter (mVar 4)) [8] (gmName 8) mYes (mOp ixM (mVar 8) (mC (.int 0)))) (mVar 5))))) (sRet (mC (.bl false))) sNext)
    (sSeq (sFor (mIter (mVar 4)) (gmTup 2 (gmCons (gmName 6) (gmCons (gmName 7) gmNil))) (sIf (mOr (mNot (mTest (mChain leM ltM (mC (.int 0)) (mVar 7) (mOp subM (mVar 1) (mVar 6))))) (mTest (mOp eqM (mCall 2 m__law_left [] (mCons (mVar 0) (mCons (mVar 7) mNil))) (mCall 2 m__law_left [] (mCons (mVar 0) (mCons (mOp addM (mVar 7) (mVar 6)) mNil)))))) (sRet (mC (.bl false))) sNext))
    (sAsg (mVar 3) (gmName 1))))))
    (sRet (mC (.bl true))))
def m__law_holds : List MV → M MV := runD 9 b__law_holds
def b__law_right : SM :=
    (sSeq (sAsg (mOp addM (mC (.int 1)) (mCall 2 m__law_draw [] (mCons (mVar 0) (mCons (mC (.int 14)) mNil)))) (gmName 1))
    (sSeq (sAsg (mTup (mCons (mCall 2 m__law_spots [] (mCons (mVar 0) (mCons (mVar 1) mNil))) (mCons (mOp ixM (mLst (mCons (mC (.int 1)) (mCons (mC (.int 1)) (mCons (mC (.int 5)) (mCons (mOp powM (mC (.int 10)) (mC (.int 6))) (mCons (mOp powM (mC (.int 10)) (mC (.int 13))) mNil)))))) (mCall 2 m__law_draw [] (mCons (mVar 0) (mCons (mC (.int 5)) mNil)))) mNil))) (gmTup 2 (gmCons (gmName 2) (gmCons (gmName 3) gmNil))))
    (sSeq (sAsg (mCB tupleM (mCons (mComp (mIter (mVar 2)) [11] (gmName 11) mYes (mOp mulM (mVar 11) (mVar 3))) mNil)) (gmName 4))
    (sSeq (sFor (mRng1 (mCons (mC (.int 6)) mNil)) (gmName 5) (sSeq (sAsg (mCall 2 m__law_times [] (mCons (mCall 3 m__law_parts [] (mCons (mVar 0) (mCons (mVar 2) (mCons (mVar 1) mNil)))) (mCons (mVar 3) mNil))) (gmName 6))
    (sFor (mIter (mLst (mCons (mVar 6) (mCons (mCall 2 m__law_bent [] (mCons (mVar 0) (mCons (mVar 6) mNil))) mNil)))) (gmName 7) (sSeq (sAsg (mCall 3 m__law_holds [] (mCons (mVar 4) (mCons (mOp mulM (mVar 1) (mVar 3)) (mCons (mVar 7) mNil)))) (gmName 8))
    (sFor (mIter (mLst (mCons (mCB lenM (mCons (mVar 7) mNil)) (mCons (mOp addM (mCB lenM (mCons (mVar 7) mNil)) (mC (.int 1))) (mCons (mCB max2M (mCons (mC (.int 0)) (mCons (mOp subM (mCB lenM (mCons (mVar 7) mNil)) (mC (.int 1))) mNil))) (mCons (mCall 2 m__law_draw [] (mCons (mVar 0) (mCons (mC (.int 4)) mNil))) mNil)))))) (gmName 9) (sSeq (sAsg (mTup (mCons (mC (.str "at least")) (mCons (mOp mulM (mVar 1) (mVar 3)) (mCons (mVar 4) (mCons (mVar 9) mNil))))) (gmName 10))
    (sIf (mNot (mTru (mCall 3 m__law_judged [] (mCons (mVar 10) (mCons (mVar 7) (mCons (mAndV (mVar 8) (mOp eqM (mVar 9) (mCB lenM (mCons (mVar 7) mNil)))) mNil)))))) (sRet (mC (.bl false))) sNext)))))))
    (sRet (mCall 3 m__law_judged [] (mCons (mTup (mCons (mC (.str "at least")) (mCons (mOp mulM (mVar 1) (mVar 3)) (mCons (mVar 4) (mCons (mC (.int 0)) mNil))))) (mCons (mTup mNil) (mCons (mC (.bl true)) mNil)))))))))
def m__law_right : List MV → M MV := runD 12 b__law_right
def b__law_pool : SM :=
    (sSeq (sAsg (mIf (mOr (mTest (mOp ltM (mVar 0) (mC (.int 0)))) (mTest (mOp geM (mVar 0) (mOp powM (mC (.int 10)) (mC (.int 18)))))) (mCB absM (mCons (mVar 0) mNil)) (mC (.int 0))) (gmName 1))
    (sRet (mLst (mCons (mOp modM (mVar 0) (mC (.int 2147483237))) (mCons (mVar 1) (mCons (mC (.int 0)) mNil))))))
def m__law_pool : List MV → M MV := runD 2 b__law_pool
def b__law_cell : SM :=
    (sSeq (sIf (mTest (mOp ltM (mVar 1) (mCB lenM (mCons (mVar 0) mNil)))) (sRet (mOp ixM (mVar 0) (mVar 1))) sNext)
    (sSeq (sAsg (mOp modM (mOp mulM (mC (.int 60029)) (mOp addM (mOp addM (mOp mulM (mVar 1) (mVar 1)) (mOp mulM (mC (.int 47)) (mVar 1))) (mC (.int 61)))) (mC (.int 2147483237))) (gmName 2))
    (sSeq (sFor (mIter (mSlice (mVar 0) mNoPart (mPart (mC (.int 3))))) (gmName 3) (sAsg (mOp modM (mOp addM (mOp mulM (mVar 2) (mC (.int 43037))) (mVar 3)) (mC (.int 2147483237))) (gmName 2)))
    (sRet (mVar 2)))))
def m__law_cell : List MV → M MV := runD 4 b__law_cell
def b_law : SM :=
    (sRet (mCB allM (mCons (mComp (mRng1 (mCons (mCB max2M (mCons (mC (.int 2)) (mCons (mCB min2M (mCons (mCB lenM (mCons (mVar 0) mNil)) (mCons (mC (.int 6)) mNil))) mNil))) mNil)) [1] (gmName 1) mYes (mCall 1 m__law_right [] (mCons (mCall 1 m__law_pool [] (mCons (mCall 2 m__law_cell [] (mCons (mVar 0) (mCons (mVar 1) mNil))) mNil)) mNil))) mNil)))
def m_law : List MV → M MV := runD 2 b_law
/-! what the top has written -/
structure Txt (w : World) (T : Tb) (mg : Str → Option Value) (ad_JUDGES : Addr) (es_JUDGES : Array DictEntry) (n_JUDGES : Nat) : Prop where
  b_abs : mg "abs" = none
  b_all : mg "all" = none
  b_bool : mg "bool" = none
  b_divmod : mg "divmod" = none
  b_int : mg "int" = none
  b_isinstance : mg "isinstance" = none
  b_len : mg "len" = none
  b_max : mg "max" = none
  b_min : mg "min" = none
  b_range : mg "range" = none
  b_repr : mg "repr" = none
  b_sorted : mg "sorted" = none
  b_str : mg "str" = none
  b_tuple : mg "tuple" = none
  b_zip : mg "zip" = none
  g_LONGEST : ∃ t, mg "LONGEST" = some (.int 1000000000000000 t)
  g_MOST_CUTS : ∃ t, mg "MOST_CUTS" = some (.int 200 t)
  m_JUDGES : mg "JUDGES" = some (.ref ad_JUDGES)
  d_JUDGES : KDict T.K w ad_JUDGES es_JUDGES n_JUDGES
  l_JUDGES : KdLook T.K ad_JUDGES look_JUDGES
  it_JUDGES : KdItems T w ad_JUDGES itm_JUDGES
section
variable {P : Program} {w : World} {mg : Str → Option Value} {base : Heap} {T : Tb} {ad_JUDGES : Addr} {es_JUDGES : Array DictEntry} {n_JUDGES : Nat}
theorem sc_is_between : FnScope ["value", "least", "most"] ["value", "least", "most"] (defScope s_is_between) := ⟨rfl, rfl, rfl, by decide +kernel, rfl, by decide +kernel, by decide +kernel⟩
theorem ok_is_between (TX : Txt w T mg ad_JUDGES es_JUDGES n_JUDGES) {a : Addr} {fd : FuncData} (F : Fun T.K "is_between" "is_between" s_is_between a fd)  : FnG P w mg base T 1 a fd ["value", "least", "most"] m_is_between := by
  exact okG F sc_is_between fun cdv A outer s H E hr hg =>
    (pssm_one (psm_ret (pm_andV rfl (pm_callB call_isi ref_isi rfl TX.b_isinstance PyProof.Rows.boot_isinstance (pam_cons (pm_var (i := 0)) (pam_cons (pm_ty rfl TX.b_int PyProof.Rows.boot_int) pam_nil))) (pm_andV rfl (pm_notV rfl (pm_callB call_isi ref_isi rfl TX.b_isinstance PyProof.Rows.boot_isinstance (pam_cons (pm_var (i := 0)) (pam_cons (pm_ty rfl TX.b_bool PyProof.Rows.boot_bool) pam_nil)))) (pe_one (pm_chain op_le op_le ref_cmp ref_cmp (pm_var (i := 1)) (pm_var (i := 0)) (pm_var (i := 2))))))))
theorem sc_is_cut_reel : FnScope ["length", "cuts", "least", "cut"] ["length", "cuts"] (defScope s_is_cut_reel) := ⟨rfl, rfl, rfl, by decide +kernel, rfl, by decide +kernel, by decide +kernel⟩
theorem ok_is_cut_reel (TX : Txt w T mg ad_JUDGES es_JUDGES n_JUDGES) {a : Addr} {fd : FuncData} (F : Fun T.K "is_cut_reel" "is_cut_reel" s_is_cut_reel a fd) {a_is_between : Addr} {fd_is_between : FuncData} (D_is_between : Dn P w mg base T 1 "is_between" a_is_between fd_is_between ["value", "least", "most"] m_is_between) : FnG P w mg base T 2 a fd ["length", "cuts"] m_is_cut_reel := by
  obtain ⟨_, g_LONGEST⟩ := TX.g_LONGEST
  obtain ⟨_, g_MOST_CUTS⟩ := TX.g_MOST_CUTS
  exact okG F sc_is_cut_reel fun cdv A outer s H E hr hg =>
    (pssm_cons (psm_if (PW.pt (ptm_or (ptm_not (ptm_truth rfl (pm_callD rfl D_is_between (hr.mono (by decide)) hg (takes_of rfl rfl rfl rfl) rfl (pam_cons (pm_var (i := 0)) (pam_cons pm_int (pam_cons (pm_glob (v := (.int 1000000000000000)) (U := (.int 1000000000000000)) rfl g_LONGEST ⟨_, rfl⟩ fun _ _ => by unfold RepV; rfl) pam_nil)))))) (ptm_or (ptm_not (ptm_truth rfl (pm_callB call_isi ref_isi rfl TX.b_isinstance PyProof.Rows.boot_isinstance (pam_cons (pm_var (i := 1)) (pam_cons (pm_ty rfl TX.b_tuple PyProof.Rows.boot_tuple) pam_nil))))) (ptm_or1 (pt_cmpM op_gt ref_cmp (pm_callB call_len ref_len rfl TX.b_len PySem.boot_len (pam_cons (pm_var (i := 1)) pam_nil)) (pm_glob (v := (.int 200)) (U := (.int 200)) rfl g_MOST_CUTS ⟨_, rfl⟩ fun _ _ => by unfold RepV; rfl) (nomark _)))))) (pssm_one (psm_ret pm_bl)) pssm_nil)
    (pssm_cons (psm_set (i := 2) sc_is_cut_reel.nd rfl (by first | exact Or.inl rfl | exact Or.inr rfl) pm_int)
    (pssm_cons (psm_for (passes_of rfl) rfl (pim_seq rfl (pm_var (i := 1))) (pgm_name (i := 3) sc_is_cut_reel.nd rfl (by first | exact Or.inl rfl | exact Or.inr rfl)) (pssm_cons (psm_if (ptm_not (ptm_truth rfl (pm_callD rfl D_is_between (hr.mono (by decide)) hg (takes_of rfl rfl rfl rfl) rfl (pam_cons (pm_var (i := 3)) (pam_cons (pm_var (i := 2)) (pam_cons (pm_op op_sub ref_sub (pm_var (i := 0)) pm_int) pam_nil)))))) (pssm_one (psm_ret pm_bl)) pssm_nil)
    (pssm_one (psm_set (i := 2) sc_is_cut_reel.nd rfl (by first | exact Or.inl rfl | exact Or.inr rfl) (pm_op op_addA ref_add (pm_var (i := 3)) pm_int)))))
    (pssm_one (psm_ret pm_bl)))))
theorem sc_reel_rest : FnScope ["cuts", "place", "low", "high", "middle"] ["cuts", "place"] (defScope s_reel_rest) := ⟨rfl, rfl, rfl, by decide +kernel, rfl, by decide +kernel, by decide +kernel⟩
theorem ok_reel_rest (TX : Txt w T mg ad_JUDGES es_JUDGES n_JUDGES) {a : Addr} {fd : FuncData} (F : Fun T.K "reel_rest" "reel_rest" s_reel_rest a fd)  : FnG P w mg base T 1 a fd ["cuts", "place"] m_reel_rest := by
  exact okG F sc_reel_rest fun cdv A outer s H E hr hg =>
    (pssm_cons (psm_par (i := 2) (j := 3) rfl sc_reel_rest.nd rfl rfl (by decide) rfl rfl pm_int (pm_callB call_len ref_len rfl TX.b_len PySem.boot_len (pam_cons (pm_var (i := 0)) pam_nil)) rfl)
    (pssm_cons (psm_while (passes_of rfl) (pt_cmpM op_lt ref_cmp (pm_var (i := 2)) (pm_var (i := 3)) (nomark _)) (pssm_cons (psm_set (i := 4) sc_reel_rest.nd rfl (by first | exact Or.inl rfl | exact Or.inr rfl) (pm_op op_fdivW ref_div (pm_op op_addA ref_add (pm_var (i := 2)) (pm_var (i := 3))) pm_int))
    (pssm_one (psm_if (pt_cmpM op_le ref_cmp (pm_ix ix_seq ref_ix (pm_var (i := 0)) (pm_var (i := 4)) fun _ _ => rfl) (pm_var (i := 1)) (nomark _)) (pssm_one (psm_set (i := 2) sc_reel_rest.nd rfl (by first | exact Or.inl rfl | exact Or.inr rfl) (pm_op op_addA ref_add (pm_var (i := 4)) pm_int))) (pssm_one (psm_set (i := 3) sc_reel_rest.nd rfl (by first | exact Or.inl rfl | exact Or.inr rfl) (pm_var (i := 4))))))))
    (pssm_one (psm_ret (pm_ifExp (pt_cmpM (op_eqD hr.un64) ref_eq (pm_var (i := 2)) pm_int (nomark _)) (pm_var (i := 1)) (pm_op op_sub ref_sub (pm_var (i := 1)) (pm_ix ix_seq ref_ix (pm_var (i := 0)) (pm_op op_sub ref_sub (pm_var (i := 2)) pm_int) fun _ _ => rfl)))))))
theorem sc_breaks_hold : FnScope ["cuts", "size", "bound", "value", "wanted", "cut", "pair"] ["cuts", "size", "bound", "value"] (defScope s_breaks_hold) := ⟨rfl, rfl, rfl, by decide +kernel, rfl, by decide +kernel, by decide +kernel⟩
theorem ok_breaks_hold (TX : Txt w T mg ad_JUDGES es_JUDGES n_JUDGES) {a : Addr} {fd : FuncData} (F : Fun T.K "breaks_hold" "breaks_hold" s_breaks_hold a fd) {a_is_between : Addr} {fd_is_between : FuncData} (D_is_between : Dn P w mg base T 1 "is_between" a_is_between fd_is_between ["value", "least", "most"] m_is_between) {a_reel_rest : Addr} {fd_reel_rest : FuncData} (D_reel_rest : Dn P w mg base T 1 "reel_rest" a_reel_rest fd_reel_rest ["cuts", "place"] m_reel_rest) : FnG P w mg base T 2 a fd ["cuts", "size", "bound", "value"] m_breaks_hold := by
  exact okG F sc_breaks_hold fun cdv A outer s H E hr hg =>
    (pssm_cons (psm_setLcD (i := 4) rfl sc_breaks_hold.nd rfl rfl (sw_true rfl rfl rfl (by decide +kernel)) (pim_seq rfl (pm_var (i := 0))) (blkOk_by (own := [("cut", 5)]) (N := ["cuts", "size", "bound", "value", "wanted", "cut", "pair"]) (sc := defScope s_breaks_hold) (by decide +kernel)) (fun _ _ _ _ _ => (pgw_name (i := 5) sc_breaks_hold.nd rfl (by first | exact Or.inl rfl | exact Or.inr rfl))) (fun _ _ _ _ _ => (ptsm_one (pt_cmpM op_lt ref_cmp (pm_var (i := 5)) (pm_var (i := 2)) (nomark _)))) (fun _ _ _ _ _ => (pm_var (i := 5))))
    (pssm_cons (psm_if (PW.pt (ptm_or (ptm_not (ptm_truth rfl (pm_callB call_isi ref_isi rfl TX.b_isinstance PyProof.Rows.boot_isinstance (pam_cons (pm_var (i := 3)) (pam_cons (pm_ty rfl TX.b_tuple PyProof.Rows.boot_tuple) pam_nil))))) (ptm_or1 (pt_cmpM (op_neD hr.un64) ref_ne (pm_callB call_len ref_len rfl TX.b_len PySem.boot_len (pam_cons (pm_var (i := 3)) pam_nil)) (pm_callB call_len ref_len rfl TX.b_len PySem.boot_len (pam_cons (pm_var (i := 4)) pam_nil)) (nomark _))))) (pssm_one (psm_ret pm_bl)) pssm_nil)
    (pssm_cons (psm_for (passes_of rfl) rfl (pim_zip rfl rfl TX.b_zip (pam_cons (pm_var (i := 4)) (pam_cons (pm_var (i := 3)) pam_nil))) (pgm_tup rfl rfl (pgsm_cons (pgm_name (i := 5) sc_breaks_hold.nd rfl (by first | exact Or.inl rfl | exact Or.inr rfl)) (pgsm_cons (pgm_name (i := 6) sc_breaks_hold.nd rfl (by first | exact Or.inl rfl | exact Or.inr rfl)) pgsm_nil))) (pssm_cons (psm_if (PW.pt (ptm_or (ptm_not (ptm_truth rfl (pm_callB call_isi ref_isi rfl TX.b_isinstance PyProof.Rows.boot_isinstance (pam_cons (pm_var (i := 6)) (pam_cons (pm_ty rfl TX.b_tuple PyProof.Rows.boot_tuple) pam_nil))))) (ptm_or (pt_cmpM (op_neD hr.un64) ref_ne (pm_callB call_len ref_len rfl TX.b_len PySem.boot_len (pam_cons (pm_var (i := 6)) pam_nil)) pm_int (nomark _)) (ptm_or1 (ptm_not (ptm_truth rfl (pm_callD rfl D_is_between (hr.mono (by decide)) hg (takes_of rfl rfl rfl rfl) rfl (pam_cons (pm_ix ix_seq ref_ix (pm_var (i := 6)) pm_int fun _ _ => rfl) (pam_cons (pm_var (i := 5)) (pam_cons (pm_var (i := 5)) pam_nil)))))))))) (pssm_one (psm_ret pm_bl)) pssm_nil)
    (pssm_cons (psm_if (ptm_not (ptm_truth rfl (pm_callD rfl D_is_between (hr.mono (by decide)) hg (takes_of rfl rfl rfl rfl) rfl (pam_cons (pm_ix ix_seq ref_ix (pm_var (i := 6)) pm_int fun _ _ => rfl) (pam_cons pm_int (pam_cons (pm_op op_sub ref_sub (pm_op op_sub ref_sub (pm_var (i := 1)) (pm_var (i := 5))) pm_int) pam_nil)))))) (pssm_one (psm_ret pm_bl)) pssm_nil)
    (pssm_one (psm_if (pt_cmpM (op_eqD hr.un64) ref_eq (pm_callD rfl D_reel_rest (hr.mono (by decide)) hg (takes_of rfl rfl rfl rfl) rfl (pam_cons (pm_var (i := 0)) (pam_cons (pm_ix ix_seq ref_ix (pm_var (i := 6)) pm_int fun _ _ => rfl) pam_nil))) (pm_callD rfl D_reel_rest (hr.mono (by decide)) hg (takes_of rfl rfl rfl rfl) rfl (pam_cons (pm_var (i := 0)) (pam_cons (pm_op op_addA ref_add (pm_ix ix_seq ref_ix (pm_var (i := 6)) pm_int fun _ _ => rfl) (pm_var (i := 5))) pam_nil))) (nomark _)) (pssm_one (psm_ret pm_bl)) pssm_nil)))))
    (pssm_one (psm_ret pm_bl)))))
theorem sc_accepts_at_least : FnScope ["parts", "certificate", "size", "cuts", "pair"] ["parts", "certificate"] (defScope s_accepts_at_least) := ⟨rfl, rfl, rfl, by decide +kernel, rfl, by decide +kernel, by decide +kernel⟩
theorem ok_accepts_at_least (TX : Txt w T mg ad_JUDGES es_JUDGES n_JUDGES) {a : Addr} {fd : FuncData} (F : Fun T.K "accepts_at_least" "accepts_at_least" s_accepts_at_least a fd) {a_is_between : Addr} {fd_is_between : FuncData} (D_is_between : Dn P w mg base T 1 "is_between" a_is_between fd_is_between ["value", "least", "most"] m_is_between) {a_is_cut_reel : Addr} {fd_is_cut_reel : FuncData} (D_is_cut_reel : Dn P w mg base T 2 "is_cut_reel" a_is_cut_reel fd_is_cut_reel ["length", "cuts"] m_is_cut_reel) {a_breaks_hold : Addr} {fd_breaks_hold : FuncData} (D_breaks_hold : Dn P w mg base T 2 "breaks_hold" a_breaks_hold fd_breaks_hold ["cuts", "size", "bound", "value"] m_breaks_hold) : FnG P w mg base T 3 a fd ["parts", "certificate"] m_accepts_at_least := by
  obtain ⟨_, g_MOST_CUTS⟩ := TX.g_MOST_CUTS
  exact okG F sc_accepts_at_least fun cdv A outer s H E hr hg =>
    (pssm_cons (psm_if (PW.pt (ptm_or (pt_cmpM (op_neD hr.un64) ref_ne (pm_callB call_len ref_len rfl TX.b_len PySem.boot_len (pam_cons (pm_var (i := 0)) pam_nil)) pm_int (nomark _)) (ptm_or (ptm_not (ptm_truth rfl (pm_callD rfl D_is_cut_reel (hr.mono (by decide)) hg (takes_of rfl rfl rfl rfl) rfl (pam_cons (pm_ix ix_seq ref_ix (pm_var (i := 0)) pm_int fun _ _ => rfl) (pam_cons (pm_ix ix_seq ref_ix (pm_var (i := 0)) pm_int fun _ _ => rfl) pam_nil))))) (ptm_or1 (ptm_not (ptm_truth rfl (pm_callD rfl D_is_between (hr.mono (by decide)) hg (takes_of rfl rfl rfl rfl) rfl (pam_cons (pm_ix ix_seq ref_ix (pm_var (i := 0)) pm_int fun _ _ => rfl) (pam_cons pm_int (pam_cons (pm_glob (v := (.int 200)) (U := (.int 200)) rfl g_MOST_CUTS ⟨_, rfl⟩ fun _ _ => by unfold RepV; rfl) pam_nil)))))))))) (pssm_one (psm_ret pm_bl)) pssm_nil)
    (pssm_cons (psm_if (PW.pt (ptm_or (ptm_not (ptm_truth rfl (pm_callB call_isi ref_isi rfl TX.b_isinstance PyProof.Rows.boot_isinstance (pam_cons (pm_var (i := 1)) (pam_cons (pm_ty rfl TX.b_tuple PyProof.Rows.boot_tuple) pam_nil))))) (ptm_or1 (pt_cmpM (op_neD hr.un64) ref_ne (pm_callB call_len ref_len rfl TX.b_len PySem.boot_len (pam_cons (pm_var (i := 1)) pam_nil)) (pm_ix ix_seq ref_ix (pm_var (i := 0)) pm_int fun _ _ => rfl) (nomark _))))) (pssm_one (psm_ret pm_bl)) pssm_nil)
    (pssm_cons (psm_par (i := 2) (j := 3) rfl sc_accepts_at_least.nd rfl rfl (by decide) rfl rfl (pm_ix ix_seq ref_ix (pm_var (i := 0)) pm_int fun _ _ => rfl) (pm_ix ix_seq ref_ix (pm_var (i := 0)) pm_int fun _ _ => rfl) rfl)
    (pssm_cons (psm_for (passes_of rfl) rfl (pim_seq rfl (pm_var (i := 1))) (pgm_name (i := 4) sc_accepts_at_least.nd rfl (by first | exact Or.inl rfl | exact Or.inr rfl)) (pssm_cons (psm_if (PW.pt (ptm_or (ptm_not (ptm_truth rfl (pm_callB call_isi ref_isi rfl TX.b_isinstance PyProof.Rows.boot_isinstance (pam_cons (pm_var (i := 4)) (pam_cons (pm_ty rfl TX.b_tuple PyProof.Rows.boot_tuple) pam_nil))))) (ptm_or (pt_cmpM (op_neD hr.un64) ref_ne (pm_callB call_len ref_len rfl TX.b_len PySem.boot_len (pam_cons (pm_var (i := 4)) pam_nil)) pm_int (nomark _)) (ptm_or1 (ptm_not (ptm_truth rfl (pm_callD rfl D_is_between (hr.mono (by decide)) hg (takes_of rfl rfl rfl rfl) rfl (pam_cons (pm_ix ix_seq ref_ix (pm_var (i := 4)) pm_int fun _ _ => rfl) (pam_cons pm_int (pam_cons (pm_op op_sub ref_sub (pm_var (i := 2)) pm_int) pam_nil)))))))))) (pssm_one (psm_ret pm_bl)) pssm_nil)
    (pssm_cons (psm_if (PW.pt (ptm_or (pt_cmpM op_notIn_seq ref_in (pm_ix ix_seq ref_ix (pm_var (i := 4)) pm_int fun _ _ => rfl) (pm_var (i := 3)) (by with_unfolding_all rfl)) (ptm_or1 (ptm_not (ptm_truth rfl (pm_callD rfl D_breaks_hold (hr.mono (by decide)) hg (takes_of rfl rfl rfl rfl) rfl (pam_cons (pm_var (i := 3)) (pam_cons (pm_var (i := 2)) (pam_cons (pm_ix ix_seq ref_ix (pm_var (i := 4)) pm_int fun _ _ => rfl) (pam_cons (pm_ix ix_seq ref_ix (pm_var (i := 4)) pm_int fun _ _ => rfl) pam_nil)))))))))) (pssm_one (psm_ret pm_bl)) pssm_nil)
    (pssm_one (psm_set (i := 2) sc_accepts_at_least.nd rfl (by first | exact Or.inl rfl | exact Or.inr rfl) (pm_ix ix_seq ref_ix (pm_var (i := 4)) pm_int fun _ _ => rfl))))))
    (pssm_one (psm_ret pm_bl))))))
theorem sc_accepts : FnScope ["claim", "certificate", "judge"] ["claim", "certificate"] (defScope s_accepts) := ⟨rfl, rfl, rfl, by decide +kernel, rfl, by decide +kernel, by decide +kernel⟩
theorem ok_accepts (TX : Txt w T mg ad_JUDGES es_JUDGES n_JUDGES) {a : Addr} {fd : FuncData} (F : Fun T.K "accepts" "accepts" s_accepts a fd) (CAL : Cals P w mg base T 3 cal_accepts) : FnG P w mg base T 4 a fd ["claim", "certificate"] m_accepts := by
  exact okG F sc_accepts fun cdv A outer s H E hr hg =>
    (pssm_cons (psm_if (PW.pt (ptm_or (ptm_not (ptm_truth rfl (pm_callB call_isi ref_isi rfl TX.b_isinstance PyProof.Rows.boot_isinstance (pam_cons (pm_var (i := 0)) (pam_cons (pm_ty rfl TX.b_tuple PyProof.Rows.boot_tuple) pam_nil))))) (ptm_or (pt_cmpM (op_eqD hr.un64) ref_eq (pm_callB call_len ref_len rfl TX.b_len PySem.boot_len (pam_cons (pm_var (i := 0)) pam_nil)) pm_int (nomark _)) (ptm_or (ptm_not (ptm_truth rfl (pm_callB call_isi ref_isi rfl TX.b_isinstance PyProof.Rows.boot_isinstance (pam_cons (pm_ix ix_seq ref_ix (pm_var (i := 0)) pm_int fun _ _ => rfl) (pam_cons (pm_ty rfl TX.b_str PyProof.Rows.boot_str) pam_nil))))) (ptm_or1 (ptm_kdNotIn rfl TX.d_JUDGES TX.l_JUDGES (pm_ix ix_seq ref_ix (pm_var (i := 0)) pm_int fun _ _ => rfl) (pe_glob rfl TX.m_JUDGES rfl) (by with_unfolding_all rfl))))))) (pssm_one (psm_ret pm_bl)) pssm_nil)
    (pssm_cons (psm_set (i := 2) sc_accepts.nd rfl (by first | exact Or.inl rfl | exact Or.inr rfl) (pm_kdItem rfl TX.it_JUDGES (pm_ix ix_seq ref_ix (pm_var (i := 0)) pm_int fun _ _ => rfl) (pe_glob rfl TX.m_JUDGES rfl) fun _ _ => rfl))
    (pssm_one (psm_ret (pm_callV rfl CAL hr hg (takes_of rfl rfl rfl rfl) (i := 2) rfl (Or.inl rfl) (pam_cons (pm_slice rfl (pm_var (i := 0)) (pom_some pm_int) pom_none) (pam_cons (pm_var (i := 1)) pam_nil)))))))
theorem sc__law_judged : FnScope ["_law_plea", "_law_paper", "_law_due"] ["_law_plea", "_law_paper", "_law_due"] (defScope s__law_judged) := ⟨rfl, rfl, rfl, by decide +kernel, rfl, by decide +kernel, by decide +kernel⟩
theorem ok__law_judged (TX : Txt w T mg ad_JUDGES es_JUDGES n_JUDGES) {a : Addr} {fd : FuncData} (F : Fun T.K "_law_judged" "_law_judged" s__law_judged a fd) {a_accepts : Addr} {fd_accepts : FuncData} (D_accepts : Dn P w mg base T 4 "accepts" a_accepts fd_accepts ["claim", "certificate"] m_accepts) (KW_accepts_0 : KwB T.K fd_accepts ["claim", "certificate"] ["certificate", "claim"] 0 2 [1, 0]) : FnG P w mg base T 5 a fd ["_law_plea", "_law_paper", "_law_due"] m__law_judged := by
  exact okG F sc__law_judged fun cdv A outer s H E hr hg =>
    (pssm_one (psm_ret (pm_cmp (op_eqD hr.un64) ref_eq (pm_callB (call_reprA hg hr.un64) ref_repr rfl TX.b_repr PyProof.Rows.boot_repr (pam_cons (pm_lst (pam_cons (pm_callD rfl D_accepts (hr.mono (by decide)) hg (takes_of rfl rfl rfl rfl) rfl (pam_cons (pm_var (i := 0)) (pam_cons (pm_var (i := 1)) pam_nil))) (pam_cons (pm_callKD0 rfl D_accepts KW_accepts_0 (hr.mono (by decide)) hg (takes_of rfl rfl rfl rfl) rfl (pkm_cons (pm_var (i := 1)) (pkm_cons (pm_var (i := 0)) pkm_nil))) pam_nil))) pam_nil)) (pm_callB (call_reprA hg hr.un64) ref_repr rfl TX.b_repr PyProof.Rows.boot_repr (pam_cons (pm_lst (pam_cons (pm_var (i := 2)) (pam_cons (pm_var (i := 2)) pam_nil))) pam_nil)) (nomark _))))
theorem sc__law_draw : FnScope ["_law_pool_here", "_law_upto", "_law_state", "_law_digit"] ["_law_pool_here", "_law_upto"] (defScope s__law_draw) := ⟨rfl, rfl, rfl, by decide +kernel, rfl, by decide +kernel, by decide +kernel⟩
theorem ok__law_draw (TX : Txt w T mg ad_JUDGES es_JUDGES n_JUDGES) {a : Addr} {fd : FuncData} (F : Fun T.K "_law_draw" "_law_draw" s__law_draw a fd)  : FnG P w mg base T 1 a fd ["_law_pool_here", "_law_upto"] m__law_draw := by
  exact okG F sc__law_draw fun cdv A outer s H E hr hg =>
    (pssm_cons (psm_asg (pm_op op_addA ref_add (pm_ix ix_seq ref_ix (pm_var (i := 0)) pm_int fun _ _ => rfl) pm_int) (pgm_sub (W := W0) (pm_var (i := 0)) pm_int set_list ref_setL))
    (pssm_cons (psm_set (i := 2) sc__law_draw.nd rfl (by first | exact Or.inl rfl | exact Or.inr rfl) (pm_ix ix_seq ref_ix (pm_var (i := 0)) pm_int fun _ _ => rfl))
    (pssm_cons (psm_asg (pm_op op_mod ref_mod (pm_op op_addA ref_add (pm_op op_addA ref_add (pm_op op_mulA ref_mul (pm_var (i := 2)) (pm_op op_addA ref_add (pm_op op_mod ref_mod (pm_var (i := 2)) pm_int) pm_int)) (pm_op op_mulA ref_mul pm_int (pm_ix ix_seq ref_ix (pm_var (i := 0)) pm_int fun _ _ => rfl))) pm_int) pm_int) (pgm_sub (W := W0) (pm_var (i := 0)) pm_int set_list ref_setL))
    (pssm_cons (psm_if (pt_cmpM op_gt ref_cmp (pm_ix ix_seq ref_ix (pm_var (i := 0)) pm_int fun _ _ => rfl) pm_int (nomark _)) (pssm_cons (psm_asg (pm_callB call_divmodW ref_divmod rfl TX.b_divmod PyProof.Rows.boot_divmod (pam_cons (pm_ix ix_seq ref_ix (pm_var (i := 0)) pm_int fun _ _ => rfl) (pam_cons (pm_var (i := 1)) pam_nil))) (pgm_tup rfl rfl (pgsm_cons (pgm_sub (W := W0) (pm_var (i := 0)) pm_int set_list ref_setL) (pgsm_cons (pgm_name (i := 3) sc__law_draw.nd rfl (by first | exact Or.inl rfl | exact Or.inr rfl)) pgsm_nil))))
    (pssm_one (psm_ret (pm_var (i := 3))))) pssm_nil)
    (pssm_one (psm_ret (pm_op op_mod ref_mod (pm_op op_fdivW ref_div (pm_ix ix_seq ref_ix (pm_var (i := 0)) pm_int fun _ _ => rfl) pm_int) (pm_var (i := 1)))))))))
theorem sc__law_rest : FnScope ["_law_marks", "_law_spot", "_law_mark"] ["_law_marks", "_law_spot"] (defScope s__law_rest) := ⟨rfl, rfl, rfl, by decide +kernel, rfl, by decide +kernel, by decide +kernel⟩
theorem ok__law_rest (TX : Txt w T mg ad_JUDGES es_JUDGES n_JUDGES) {a : Addr} {fd : FuncData} (F : Fun T.K "_law_rest" "_law_rest" s__law_rest a fd)  : FnG P w mg base T 1 a fd ["_law_marks", "_law_spot"] m__law_rest := by
  exact okG F sc__law_rest fun cdv A outer s H E hr hg =>
    (pssm_cons (psm_for (passes_of rfl) rfl (pim_seq rfl (pm_var (i := 0))) (pgm_name (i := 2) sc__law_rest.nd rfl (by first | exact Or.inl rfl | exact Or.inr rfl)) (pssm_one (psm_set (i := 1) sc__law_rest.nd rfl (by first | exact Or.inl rfl | exact Or.inr rfl) (pm_op op_mod ref_mod (pm_var (i := 1)) (pm_var (i := 2))))))
    (pssm_one (psm_ret (pm_var (i := 1)))))
theorem sc__law_spots : FnScope ["_law_pool_here", "_law_size", "_law_marks", "_law_found", "_law_extra", "_law_spot", "_law_k"] ["_law_pool_here", "_law_size"] (defScope s__law_spots) := ⟨rfl, rfl, rfl, by decide +kernel, rfl, by decide +kernel, by decide +kernel⟩
theorem ok__law_spots (TX : Txt w T mg ad_JUDGES es_JUDGES n_JUDGES) {a : Addr} {fd : FuncData} (F : Fun T.K "_law_spots" "_law_spots" s__law_spots a fd) {a__law_draw : Addr} {fd__law_draw : FuncData} (D__law_draw : Dn P w mg base T 1 "_law_draw" a__law_draw fd__law_draw ["_law_pool_here", "_law_upto"] m__law_draw) {a__law_rest : Addr} {fd__law_rest : FuncData} (D__law_rest : Dn P w mg base T 1 "_law_rest" a__law_rest fd__law_rest ["_law_marks", "_law_spot"] m__law_rest) : FnG P w mg base T 2 a fd ["_law_pool_here", "_law_size"] m__law_spots := by
  exact okG F sc__law_spots fun cdv A outer s H E hr hg =>
    (pssm_cons (psm_if (pt_cmpM (op_eqD hr.un64) ref_eq (pm_var (i := 1)) pm_int (nomark _)) (pssm_one (psm_ret (pm_tup pam_nil))) pssm_nil)
    (pssm_cons (psm_if (pt_cmpM (op_eqD hr.un64) ref_eq (pm_callD rfl D__law_draw (hr.mono (by decide)) hg (takes_of rfl rfl rfl rfl) rfl (pam_cons (pm_var (i := 0)) (pam_cons pm_int pam_nil))) pm_int (nomark _)) (pssm_one (psm_ret (pm_callTy call_tuple_of ref_tuple rfl TX.b_tuple PyProof.Rows.boot_tuple (pam_cons (pm_lcD rfl sc__law_spots.nd (pim_rng2 rfl TX.b_range (pam_cons pm_int (pam_cons (pm_var (i := 1)) pam_nil))) (blkOk_by (own := [("_law_spot", 5)]) (N := ["_law_pool_here", "_law_size", "_law_marks", "_law_found", "_law_extra", "_law_spot", "_law_k"]) (sc := defScope s__law_spots) (by decide +kernel)) (fun _ _ _ _ _ => (pgw_name (i := 5) sc__law_spots.nd rfl (by first | exact Or.inl rfl | exact Or.inr rfl))) (fun _ _ _ _ _ => (ptsm_one (pt_cmpM (op_eqD hr.un64) ref_eq (pm_callD rfl D__law_draw (hr.mono (by decide)) hg takes0 rfl (pam_cons (pm_var (i := 0)) (pam_cons pm_int pam_nil))) pm_int (nomark _)))) (fun _ _ _ _ _ => (pm_var (i := 5)))) pam_nil)))) pssm_nil)
    (pssm_cons (psm_set (i := 2) sc__law_spots.nd rfl (by first | exact Or.inl rfl | exact Or.inr rfl) (pm_lcD rfl sc__law_spots.nd (pim_rng1 rfl TX.b_range (pam_cons (pm_op op_addA ref_add pm_int (pm_callD rfl D__law_draw (hr.mono (by decide)) hg (takes_of rfl rfl rfl rfl) rfl (pam_cons (pm_var (i := 0)) (pam_cons pm_int pam_nil)))) pam_nil)) (blkOk_by (own := [("_law_k", 6)]) (N := ["_law_pool_here", "_law_size", "_law_marks", "_law_found", "_law_extra", "_law_spot", "_law_k"]) (sc := defScope s__law_spots) (by decide +kernel)) (fun _ _ _ _ _ => (pgw_name (i := 6) sc__law_spots.nd rfl (by first | exact Or.inl rfl | exact Or.inr rfl))) (fun _ _ _ _ _ => ptsm_nil) (fun _ _ _ _ _ => (pm_op op_addA ref_add pm_int (pm_callD rfl D__law_draw (hr.mono (by decide)) hg takes0 rfl (pam_cons (pm_var (i := 0)) (pam_cons pm_int pam_nil)))))))
    (pssm_cons (psm_setLcD (i := 3) rfl sc__law_spots.nd rfl rfl (sw_true rfl rfl rfl (by decide +kernel)) (pim_rng2 rfl TX.b_range (pam_cons pm_int (pam_cons (pm_var (i := 1)) pam_nil))) (blkOk_by (own := [("_law_spot", 5)]) (N := ["_law_pool_here", "_law_size", "_law_marks", "_law_found", "_law_extra", "_law_spot", "_law_k"]) (sc := defScope s__law_spots) (by decide +kernel)) (fun _ _ _ _ _ => (pgw_name (i := 5) sc__law_spots.nd rfl (by first | exact Or.inl rfl | exact Or.inr rfl))) (fun _ _ _ _ _ => (ptsm_one (pt_cmpM (op_eqD hr.un64) ref_eq (pm_callD rfl D__law_rest (hr.mono (by decide)) hg takes0 rfl (pam_cons (pm_var (i := 2)) (pam_cons (pm_var (i := 5)) pam_nil))) pm_int (nomark _)))) (fun _ _ _ _ _ => (pm_var (i := 5))))
    (pssm_cons (psm_set (i := 4) sc__law_spots.nd rfl (by first | exact Or.inl rfl | exact Or.inr rfl) (pm_op op_addA ref_add pm_int (pm_callD rfl D__law_draw (hr.mono (by decide)) hg (takes_of rfl rfl rfl rfl) rfl (pam_cons (pm_var (i := 0)) (pam_cons (pm_op op_sub ref_sub (pm_var (i := 1)) pm_int) pam_nil)))))
    (pssm_cons (psm_if (pt_cmpM (op_eqD hr.un64) ref_eq (pm_callD rfl D__law_draw (hr.mono (by decide)) hg (takes_of rfl rfl rfl rfl) rfl (pam_cons (pm_var (i := 0)) (pam_cons pm_int pam_nil))) pm_int (nomark _)) (pssm_one (psm_set (i := 3) sc__law_spots.nd rfl (by first | exact Or.inl rfl | exact Or.inr rfl) (pm_op op_addA ref_add (pm_lcD rfl sc__law_spots.nd (pim_seq rfl (pm_var (i := 3))) (blkOk_by (own := [("_law_spot", 5)]) (N := ["_law_pool_here", "_law_size", "_law_marks", "_law_found", "_law_extra", "_law_spot", "_law_k"]) (sc := defScope s__law_spots) (by decide +kernel)) (fun _ _ _ _ _ => (pgw_name (i := 5) sc__law_spots.nd rfl (by first | exact Or.inl rfl | exact Or.inr rfl))) (fun _ _ _ _ _ => (ptsm_one (pt_cmpM (op_neD hr.un64) ref_ne (pm_var (i := 5)) (pm_var (i := 4)) (nomark _)))) (fun _ _ _ _ _ => (pm_var (i := 5)))) (pm_op op_mulA ref_mul (pm_lst (pam_cons (pm_var (i := 4)) pam_nil)) (pm_callTy call_int1 ref_intC rfl TX.b_int PyProof.Rows.boot_int (pam_cons (pm_cmp op_notIn_seq ref_in (pm_var (i := 4)) (pm_var (i := 3)) (by with_unfolding_all rfl)) pam_nil)))))) pssm_nil)
    (pssm_one (psm_ret (pm_callTy call_tuple_of ref_tuple rfl TX.b_tuple PyProof.Rows.boot_tuple (pam_cons (pm_callB cr_sortedI ref_sorted rfl TX.b_sorted PyProof.Rows.boot_sorted (pam_cons (pm_var (i := 3)) pam_nil)) pam_nil))))))))))
theorem sc__law_times : FnScope ["_law_parts_here", "_law_factor", "_law_found", "_law_cut", "_law_pairs_here", "_law_spot", "_law_place"] ["_law_parts_here", "_law_factor"] (defScope s__law_times) := ⟨rfl, rfl, rfl, by decide +kernel, rfl, by decide +kernel, by decide +kernel⟩
theorem ok__law_times (TX : Txt w T mg ad_JUDGES es_JUDGES n_JUDGES) {a : Addr} {fd : FuncData} (F : Fun T.K "_law_times" "_law_times" s__law_times a fd)  : FnG P w mg base T 1 a fd ["_law_parts_here", "_law_factor"] m__law_times := by
  exact okG F sc__law_times fun cdv A outer s H E hr hg =>
    (pssm_cons (psm_set (i := 2) sc__law_times.nd rfl (by first | exact Or.inl rfl | exact Or.inr rfl) (pm_lst pam_nil))
    (pssm_cons (psm_for (passes_of rfl) rfl (pim_seq rfl (pm_var (i := 0))) (pgm_tup rfl rfl (pgsm_cons (pgm_name (i := 3) sc__law_times.nd rfl (by first | exact Or.inl rfl | exact Or.inr rfl)) (pgsm_cons (pgm_name (i := 4) sc__law_times.nd rfl (by first | exact Or.inl rfl | exact Or.inr rfl)) pgsm_nil))) (pssm_one (psm_expr (pm_append rfl (pm_var (i := 2)) (pam_cons (pm_tup (pam_cons (pm_op op_mulA ref_mul (pm_var (i := 3)) (pm_var (i := 1))) (pam_cons (pm_callTy call_tuple_of ref_tuple rfl TX.b_tuple PyProof.Rows.boot_tuple (pam_cons (pm_lcD rfl sc__law_times.nd (pim_seq rfl (pm_var (i := 4))) (blkOk_by (own := [("_law_spot", 5), ("_law_place", 6)]) (N := ["_law_parts_here", "_law_factor", "_law_found", "_law_cut", "_law_pairs_here", "_law_spot", "_law_place"]) (sc := defScope s__law_times) (by decide +kernel)) (fun _ _ _ _ _ => (pgw_tup rfl rfl (pgsw_cons (pgw_name (i := 5) sc__law_times.nd rfl (by first | exact Or.inl rfl | exact Or.inr rfl)) (pgsw_cons (pgw_name (i := 6) sc__law_times.nd rfl (by first | exact Or.inl rfl | exact Or.inr rfl)) pgsw_nil)))) (fun _ _ _ _ _ => ptsm_nil) (fun _ _ _ _ _ => (pm_tup (pam_cons (pm_op op_mulA ref_mul (pm_var (i := 5)) (pm_var (i := 1))) (pam_cons (pm_op op_mulA ref_mul (pm_var (i := 6)) (pm_var (i := 1))) pam_nil))))) pam_nil)) pam_nil))) pam_nil)))))
    (pssm_one (psm_ret (pm_callTy call_tuple_of ref_tuple rfl TX.b_tuple PyProof.Rows.boot_tuple (pam_cons (pm_var (i := 2)) pam_nil))))))
theorem sc__law_left : FnScope ["_law_spots_here", "_law_place", "_law_spot"] ["_law_spots_here", "_law_place"] (defScope s__law_left) := ⟨rfl, rfl, rfl, by decide +kernel, rfl, by decide +kernel, by decide +kernel⟩
theorem ok__law_left (TX : Txt w T mg ad_JUDGES es_JUDGES n_JUDGES) {a : Addr} {fd : FuncData} (F : Fun T.K "_law_left" "_law_left" s__law_left a fd)  : FnG P w mg base T 1 a fd ["_law_spots_here", "_law_place"] m__law_left := by
  exact okG F sc__law_left fun cdv A outer s H E hr hg =>
    (pssm_one (psm_ret (pm_op op_sub ref_sub (pm_var (i := 1)) (pm_callB (cr_max rfl) ref_maxL rfl TX.b_max PyProof.Rows.boot_max (pam_cons (pm_op op_addA ref_add (pm_lst (pam_cons pm_int pam_nil)) (pm_lcD rfl sc__law_left.nd (pim_seq rfl (pm_var (i := 0))) (blkOk_by (own := [("_law_spot", 2)]) (N := ["_law_spots_here", "_law_place", "_law_spot"]) (sc := defScope s__law_left) (by decide +kernel)) (fun _ _ _ _ _ => (pgw_name (i := 2) sc__law_left.nd rfl (by first | exact Or.inl rfl | exact Or.inr rfl))) (fun _ _ _ _ _ => (ptsm_one (pt_cmpM op_le ref_cmp (pm_var (i := 2)) (pm_var (i := 1)) (nomark _)))) (fun _ _ _ _ _ => (pm_var (i := 2))))) pam_nil)))))
theorem sc__law_pairs : FnScope ["_law_pool_here", "_law_spots_here", "_law_size", "_law_bound", "_law_found", "_law_spot", "_law_places", "_law_place", "_law_k"] ["_law_pool_here", "_law_spots_here", "_law_size", "_law_bound"] (defScope s__law_pairs) := ⟨rfl, rfl, rfl, by decide +kernel, rfl, by decide +kernel, by decide +kernel⟩
theorem ok__law_pairs (TX : Txt w T mg ad_JUDGES es_JUDGES n_JUDGES) {a : Addr} {fd : FuncData} (F : Fun T.K "_law_pairs" "_law_pairs" s__law_pairs a fd) {a__law_draw : Addr} {fd__law_draw : FuncData} (D__law_draw : Dn P w mg base T 1 "_law_draw" a__law_draw fd__law_draw ["_law_pool_here", "_law_upto"] m__law_draw) {a__law_left : Addr} {fd__law_left : FuncData} (D__law_left : Dn P w mg base T 1 "_law_left" a__law_left fd__law_left ["_law_spots_here", "_law_place"] m__law_left) : FnG P w mg base T 2 a fd ["_law_pool_here", "_law_spots_here", "_law_size", "_law_bound"] m__law_pairs := by
  exact okG F sc__law_pairs fun cdv A outer s H E hr hg =>
    (pssm_cons (psm_set (i := 4) sc__law_pairs.nd rfl (by first | exact Or.inl rfl | exact Or.inr rfl) (pm_lst pam_nil))
    (pssm_cons (psm_for (passes_of rfl) rfl (pim_seq rfl (pm_var (i := 1))) (pgm_name (i := 5) sc__law_pairs.nd rfl (by first | exact Or.inl rfl | exact Or.inr rfl)) (pssm_one (psm_if (pt_cmpM op_lt ref_cmp (pm_var (i := 5)) (pm_var (i := 3)) (nomark _)) (pssm_cons (psm_setLcD (i := 6) rfl sc__law_pairs.nd rfl rfl (sw_true rfl rfl rfl (by decide +kernel)) (pim_rng1 rfl TX.b_range (pam_cons (pm_op op_sub ref_sub (pm_var (i := 2)) (pm_var (i := 5))) pam_nil)) (blkOk_by (own := [("_law_k", 8)]) (N := ["_law_pool_here", "_law_spots_here", "_law_size", "_law_bound", "_law_found", "_law_spot", "_law_places", "_law_place", "_law_k"]) (sc := defScope s__law_pairs) (by decide +kernel)) (fun _ _ _ _ _ => (pgw_name (i := 8) sc__law_pairs.nd rfl (by first | exact Or.inl rfl | exact Or.inr rfl))) (fun _ _ _ _ _ => (ptsm_one (pt_cmpM (op_neD hr.un64) ref_ne (pm_callD rfl D__law_left (hr.mono (by decide)) hg takes0 rfl (pam_cons (pm_var (i := 1)) (pam_cons (pm_var (i := 8)) pam_nil))) (pm_callD rfl D__law_left (hr.mono (by decide)) hg takes0 rfl (pam_cons (pm_var (i := 1)) (pam_cons (pm_op op_addA ref_add (pm_var (i := 8)) (pm_var (i := 5))) pam_nil))) (nomark _)))) (fun _ _ _ _ _ => (pm_var (i := 8))))
    (pssm_cons (psm_set (i := 7) sc__law_pairs.nd rfl (by first | exact Or.inl rfl | exact Or.inr rfl) (pm_ifExp (pt_cmpM (op_neD hr.un64) ref_ne (pm_var (i := 6)) (pm_lst pam_nil) (nomark _)) (pm_ix ix_seq ref_ix (pm_var (i := 6)) (pm_op op_mulA ref_mul (pm_callD rfl D__law_draw (hr.mono (by decide)) hg (takes_of rfl rfl rfl rfl) rfl (pam_cons (pm_var (i := 0)) (pam_cons pm_int pam_nil))) (pm_op op_sub ref_sub (pm_callB call_len ref_len rfl TX.b_len PySem.boot_len (pam_cons (pm_var (i := 6)) pam_nil)) pm_int)) fun _ _ => rfl) (pm_callD rfl D__law_draw (hr.mono (by decide)) hg (takes_of rfl rfl rfl rfl) rfl (pam_cons (pm_var (i := 0)) (pam_cons (pm_op op_sub ref_sub (pm_var (i := 2)) (pm_var (i := 5))) pam_nil)))))
    (pssm_one (psm_expr (pm_append rfl (pm_var (i := 4)) (pam_cons (pm_tup (pam_cons (pm_var (i := 5)) (pam_cons (pm_var (i := 7)) pam_nil))) pam_nil)))))) pssm_nil)))
    (pssm_one (psm_ret (pm_callTy call_tuple_of ref_tuple rfl TX.b_tuple PyProof.Rows.boot_tuple (pam_cons (pm_var (i := 4)) pam_nil))))))
theorem sc__law_is_period : FnScope ["_law_spots_here", "_law_size", "_law_cut", "_law_k"] ["_law_spots_here", "_law_size", "_law_cut"] (defScope s__law_is_period) := ⟨rfl, rfl, rfl, by decide +kernel, rfl, by decide +kernel, by decide +kernel⟩
theorem ok__law_is_period (TX : Txt w T mg ad_JUDGES es_JUDGES n_JUDGES) {a : Addr} {fd : FuncData} (F : Fun T.K "_law_is_period" "_law_is_period" s__law_is_period a fd) {a__law_left : Addr} {fd__law_left : FuncData} (D__law_left : Dn P w mg base T 1 "_law_left" a__law_left fd__law_left ["_law_spots_here", "_law_place"] m__law_left) : FnG P w mg base T 2 a fd ["_law_spots_here", "_law_size", "_law_cut"] m__law_is_period := by
  exact okG F sc__law_is_period fun cdv A outer s H E hr hg =>
    (pssm_one (psm_ret (pm_callB (cr_all rfl) ref_bls rfl TX.b_all PyProof.Rows.boot_all (pam_cons (pm_lcD rfl sc__law_is_period.nd (pim_rng1 rfl TX.b_range (pam_cons (pm_op op_sub ref_sub (pm_var (i := 1)) (pm_var (i := 2))) pam_nil)) (blkOk_by (own := [("_law_k", 3)]) (N := ["_law_spots_here", "_law_size", "_law_cut", "_law_k"]) (sc := defScope s__law_is_period) (by decide +kernel)) (fun _ _ _ _ _ => (pgw_name (i := 3) sc__law_is_period.nd rfl (by first | exact Or.inl rfl | exact Or.inr rfl))) (fun _ _ _ _ _ => ptsm_nil) (fun _ _ _ _ _ => (pm_cmp (op_eqD hr.un64) ref_eq (pm_callD rfl D__law_left (hr.mono (by decide)) hg takes0 rfl (pam_cons (pm_var (i := 0)) (pam_cons (pm_var (i := 3)) pam_nil))) (pm_callD rfl D__law_left (hr.mono (by decide)) hg takes0 rfl (pam_cons (pm_var (i := 0)) (pam_cons (pm_op op_addA ref_add (pm_var (i := 3)) (pm_var (i := 2))) pam_nil))) (nomark _)))) pam_nil))))
theorem sc__law_parts : FnScope ["_law_pool_here", "_law_spots_here", "_law_size", "_law_found", "_law_turn", "_law_inside", "_law_cut", "_law_least", "_law_spot", "_law_one"] ["_law_pool_here", "_law_spots_here", "_law_size"] (defScope s__law_parts) := ⟨rfl, rfl, rfl, by decide +kernel, rfl, by decide +kernel, by decide +kernel⟩
theorem ok__law_parts (TX : Txt w T mg ad_JUDGES es_JUDGES n_JUDGES) {a : Addr} {fd : FuncData} (F : Fun T.K "_law_parts" "_law_parts" s__law_parts a fd) {a__law_draw : Addr} {fd__law_draw : FuncData} (D__law_draw : Dn P w mg base T 1 "_law_draw" a__law_draw fd__law_draw ["_law_pool_here", "_law_upto"] m__law_draw) {a__law_pairs : Addr} {fd__law_pairs : FuncData} (D__law_pairs : Dn P w mg base T 2 "_law_pairs" a__law_pairs fd__law_pairs ["_law_pool_here", "_law_spots_here", "_law_size", "_law_bound"] m__law_pairs) {a__law_is_period : Addr} {fd__law_is_period : FuncData} (D__law_is_period : Dn P w mg base T 2 "_law_is_period" a__law_is_period fd__law_is_period ["_law_spots_here", "_law_size", "_law_cut"] m__law_is_period) : FnG P w mg base T 3 a fd ["_law_pool_here", "_law_spots_here", "_law_size"] m__law_parts := by
  exact okG F sc__law_parts fun cdv A outer s H E hr hg =>
    (pssm_cons (psm_set (i := 3) sc__law_parts.nd rfl (by first | exact Or.inl rfl | exact Or.inr rfl) (pm_lst pam_nil))
    (pssm_cons (psm_for (passes_of rfl) rfl (pim_rng1 rfl TX.b_range (pam_cons (pm_callD rfl D__law_draw (hr.mono (by decide)) hg (takes_of rfl rfl rfl rfl) rfl (pam_cons (pm_var (i := 0)) (pam_cons pm_int pam_nil))) pam_nil)) (pgm_name (i := 4) sc__law_parts.nd rfl (by first | exact Or.inl rfl | exact Or.inr rfl)) (pssm_cons (psm_setLcD (i := 5) rfl sc__law_parts.nd rfl rfl (sw_true rfl rfl rfl (by decide +kernel)) (pim_seq rfl (pm_var (i := 1))) (blkOk_by (own := [("_law_spot", 8)]) (N := ["_law_pool_here", "_law_spots_here", "_law_size", "_law_found", "_law_turn", "_law_inside", "_law_cut", "_law_least", "_law_spot", "_law_one"]) (sc := defScope s__law_parts) (by decide +kernel)) (fun _ _ _ _ _ => (pgw_name (i := 8) sc__law_parts.nd rfl (by first | exact Or.inl rfl | exact Or.inr rfl))) (fun _ _ _ _ _ => (ptsm_one (pt_cmpM op_lt ref_cmp (pm_var (i := 8)) (pm_var (i := 2)) (nomark _)))) (fun _ _ _ _ _ => (pm_var (i := 8))))
    (pssm_cons (psm_if (pt_cmpM (op_eqD hr.un64) ref_eq (pm_var (i := 5)) (pm_lst pam_nil) (nomark _)) (pssm_one (psm_ret (pm_callTy call_tuple_of ref_tuple rfl TX.b_tuple PyProof.Rows.boot_tuple (pam_cons (pm_var (i := 3)) pam_nil)))) pssm_nil)
    (pssm_cons (psm_set (i := 6) sc__law_parts.nd rfl (by first | exact Or.inl rfl | exact Or.inr rfl) (pm_ix ix_seq ref_ix (pm_var (i := 5)) (pm_callD rfl D__law_draw (hr.mono (by decide)) hg (takes_of rfl rfl rfl rfl) rfl (pam_cons (pm_var (i := 0)) (pam_cons (pm_callB call_len ref_len rfl TX.b_len PySem.boot_len (pam_cons (pm_var (i := 5)) pam_nil)) pam_nil))) fun _ _ => rfl))
    (pssm_cons (psm_if (pt_cmpM op_gt ref_cmp (pm_callD rfl D__law_draw (hr.mono (by decide)) hg (takes_of rfl rfl rfl rfl) rfl (pam_cons (pm_var (i := 0)) (pam_cons pm_int pam_nil))) pm_int (nomark _)) (pssm_cons (psm_setLcD (i := 7) rfl sc__law_parts.nd rfl rfl (sw_true rfl rfl rfl (by decide +kernel)) (pim_seq rfl (pm_var (i := 5))) (blkOk_by (own := [("_law_one", 9)]) (N := ["_law_pool_here", "_law_spots_here", "_law_size", "_law_found", "_law_turn", "_law_inside", "_law_cut", "_law_least", "_law_spot", "_law_one"]) (sc := defScope s__law_parts) (by decide +kernel)) (fun _ _ _ _ _ => (pgw_name (i := 9) sc__law_parts.nd rfl (by first | exact Or.inl rfl | exact Or.inr rfl))) (fun _ _ _ _ _ => (ptsm_one (ptm_truth rfl (pm_callD rfl D__law_is_period (hr.mono (by decide)) hg takes0 rfl (pam_cons (pm_var (i := 1)) (pam_cons (pm_var (i := 2)) (pam_cons (pm_var (i := 9)) pam_nil))))))) (fun _ _ _ _ _ => (pm_var (i := 9))))
    (pssm_one (psm_set (i := 6) sc__law_parts.nd rfl (by first | exact Or.inl rfl | exact Or.inr rfl) (pm_ifExp (pt_cmpM (op_neD hr.un64) ref_ne (pm_var (i := 7)) (pm_lst pam_nil) (nomark _)) (pm_ix ix_seq ref_ix (pm_var (i := 7)) pm_int fun _ _ => rfl) (pm_var (i := 6)))))) pssm_nil)
    (pssm_cons (psm_expr (pm_append rfl (pm_var (i := 3)) (pam_cons (pm_tup (pam_cons (pm_var (i := 6)) (pam_cons (pm_callD rfl D__law_pairs (hr.mono (by decide)) hg (takes_of rfl rfl rfl rfl) rfl (pam_cons (pm_var (i := 0)) (pam_cons (pm_var (i := 1)) (pam_cons (pm_var (i := 2)) (pam_cons (pm_var (i := 6)) pam_nil))))) pam_nil))) pam_nil)))
    (pssm_one (psm_set (i := 2) sc__law_parts.nd rfl (by first | exact Or.inl rfl | exact Or.inr rfl) (pm_var (i := 6))))))))))
    (pssm_one (psm_ret (pm_callTy call_tuple_of ref_tuple rfl TX.b_tuple PyProof.Rows.boot_tuple (pam_cons (pm_var (i := 3)) pam_nil))))))
theorem sc__law_bent_pairs : FnScope ["_law_pool_here", "_law_pairs_here", "_law_at", "_law_way", "_law_here", "_law_some"] ["_law_pool_here", "_law_pairs_here"] (defScope s__law_bent_pairs) := ⟨rfl, rfl, rfl, by decide +kernel, rfl, by decide +kernel, by decide +kernel⟩
theorem ok__law_bent_pairs (TX : Txt w T mg ad_JUDGES es_JUDGES n_JUDGES) {a : Addr} {fd : FuncData} (F : Fun T.K "_law_bent_pairs" "_law_bent_pairs" s__law_bent_pairs a fd) {a__law_draw : Addr} {fd__law_draw : FuncData} (D__law_draw : Dn P w mg base T 1 "_law_draw" a__law_draw fd__law_draw ["_law_pool_here", "_law_upto"] m__law_draw) : FnG P w mg base T 2 a fd ["_law_pool_here", "_law_pairs_here"] m__law_bent_pairs := by
  exact okG F sc__law_bent_pairs fun cdv A outer s H E hr hg =>
    (pssm_cons (psm_par (i := 2) (j := 3) rfl sc__law_bent_pairs.nd rfl rfl (by decide) rfl rfl (pm_callD rfl D__law_draw (hr.mono (by decide)) hg (takes_of rfl rfl rfl rfl) rfl (pam_cons (pm_var (i := 0)) (pam_cons (pm_op op_addA ref_add (pm_callB call_len ref_len rfl TX.b_len PySem.boot_len (pam_cons (pm_var (i := 1)) pam_nil)) pm_int) pam_nil))) (pm_callD rfl D__law_draw (hr.mono (by decide)) hg (takes_of rfl rfl rfl rfl) rfl (pam_cons (pm_var (i := 0)) (pam_cons pm_int pam_nil))) rfl)
    (pssm_cons (psm_set (i := 4) sc__law_bent_pairs.nd rfl (by first | exact Or.inl rfl | exact Or.inr rfl) (pm_ifExp (pt_cmpM op_lt ref_cmp (pm_var (i := 2)) (pm_callB call_len ref_len rfl TX.b_len PySem.boot_len (pam_cons (pm_var (i := 1)) pam_nil)) (nomark _)) (pm_ix ix_seq ref_ix (pm_var (i := 1)) (pm_var (i := 2)) fun _ _ => rfl) (pm_tup (pam_cons pm_int (pam_cons pm_int pam_nil)))))
    (pssm_cons (psm_set (i := 5) sc__law_bent_pairs.nd rfl (by first | exact Or.inl rfl | exact Or.inr rfl) (pm_lst (pam_cons (pm_op op_addA ref_add (pm_slice rfl (pm_var (i := 1)) pom_none (pom_some (pm_var (i := 2)))) (pm_slice rfl (pm_var (i := 1)) (pom_some (pm_op op_addA ref_add (pm_var (i := 2)) pm_int)) pom_none)) (pam_cons (pm_op op_addA ref_add (pm_op op_addA ref_add (pm_slice rfl (pm_var (i := 1)) pom_none (pom_some (pm_var (i := 2)))) (pm_tup (pam_cons (pm_var (i := 4)) pam_nil))) (pm_slice rfl (pm_var (i := 1)) (pom_some (pm_var (i := 2))) pom_none)) pam_nil))))
    (pssm_cons (psm_set (i := 5) sc__law_bent_pairs.nd rfl (by first | exact Or.inl rfl | exact Or.inr rfl) (pm_op op_addA ref_add (pm_var (i := 5)) (pm_lst (pam_cons (pm_op op_addA ref_add (pm_op op_addA ref_add (pm_slice rfl (pm_var (i := 1)) pom_none (pom_some (pm_var (i := 2)))) (pm_tup (pam_cons (pm_tup (pam_cons (pm_ix ix_seq ref_ix (pm_var (i := 4)) pm_int fun _ _ => rfl) (pam_cons (pm_op op_addA ref_add (pm_ix ix_seq ref_ix (pm_var (i := 4)) pm_int fun _ _ => rfl) pm_int) pam_nil))) pam_nil))) (pm_slice rfl (pm_var (i := 1)) (pom_some (pm_op op_addA ref_add (pm_var (i := 2)) pm_int)) pom_none)) pam_nil))))
    (pssm_cons (psm_set (i := 5) sc__law_bent_pairs.nd rfl (by first | exact Or.inl rfl | exact Or.inr rfl) (pm_op op_addA ref_add (pm_var (i := 5)) (pm_lst (pam_cons (pm_op op_addA ref_add (pm_op op_addA ref_add (pm_slice rfl (pm_var (i := 1)) pom_none (pom_some (pm_var (i := 2)))) (pm_tup (pam_cons (pm_tup (pam_cons (pm_op op_addA ref_add (pm_ix ix_seq ref_ix (pm_var (i := 4)) pm_int fun _ _ => rfl) pm_int) (pam_cons (pm_ix ix_seq ref_ix (pm_var (i := 4)) pm_int fun _ _ => rfl) pam_nil))) pam_nil))) (pm_slice rfl (pm_var (i := 1)) (pom_some (pm_op op_addA ref_add (pm_var (i := 2)) pm_int)) pom_none)) pam_nil))))
    (pssm_one (psm_ret (pm_ix ix_seq ref_ix (pm_op op_addA ref_add (pm_var (i := 5)) (pm_lst (pam_cons (pm_op op_addA ref_add (pm_op op_addA ref_add (pm_slice rfl (pm_var (i := 1)) pom_none (pom_some (pm_var (i := 2)))) (pm_tup (pam_cons (pm_tup (pam_cons (pm_ix ix_seq ref_ix (pm_var (i := 4)) pm_int fun _ _ => rfl) (pam_cons (pm_op op_sub ref_sub (pm_ix ix_seq ref_ix (pm_var (i := 4)) pm_int fun _ _ => rfl) pm_int) pam_nil))) pam_nil))) (pm_slice rfl (pm_var (i := 1)) (pom_some (pm_op op_addA ref_add (pm_var (i := 2)) pm_int)) pom_none)) pam_nil))) (pm_var (i := 3)) fun _ _ => rfl))))))))
theorem sc__law_bent : FnScope ["_law_pool_here", "_law_parts_here", "_law_at", "_law_way", "_law_cut", "_law_pairs_here", "_law_some"] ["_law_pool_here", "_law_parts_here"] (defScope s__law_bent) := ⟨rfl, rfl, rfl, by decide +kernel, rfl, by decide +kernel, by decide +kernel⟩
theorem ok__law_bent (TX : Txt w T mg ad_JUDGES es_JUDGES n_JUDGES) {a : Addr} {fd : FuncData} (F : Fun T.K "_law_bent" "_law_bent" s__law_bent a fd) {a__law_draw : Addr} {fd__law_draw : FuncData} (D__law_draw : Dn P w mg base T 1 "_law_draw" a__law_draw fd__law_draw ["_law_pool_here", "_law_upto"] m__law_draw) {a__law_bent_pairs : Addr} {fd__law_bent_pairs : FuncData} (D__law_bent_pairs : Dn P w mg base T 2 "_law_bent_pairs" a__law_bent_pairs fd__law_bent_pairs ["_law_pool_here", "_law_pairs_here"] m__law_bent_pairs) : FnG P w mg base T 3 a fd ["_law_pool_here", "_law_parts_here"] m__law_bent := by
  exact okG F sc__law_bent fun cdv A outer s H E hr hg =>
    (pssm_cons (psm_par (i := 2) (j := 3) rfl sc__law_bent.nd rfl rfl (by decide) rfl rfl (pm_callD rfl D__law_draw (hr.mono (by decide)) hg (takes_of rfl rfl rfl rfl) rfl (pam_cons (pm_var (i := 0)) (pam_cons (pm_op op_addA ref_add (pm_callB call_len ref_len rfl TX.b_len PySem.boot_len (pam_cons (pm_var (i := 1)) pam_nil)) pm_int) pam_nil))) (pm_callD rfl D__law_draw (hr.mono (by decide)) hg (takes_of rfl rfl rfl rfl) rfl (pam_cons (pm_var (i := 0)) (pam_cons pm_int pam_nil))) rfl)
    (pssm_cons (psm_asg (pm_ifExp (pt_cmpM op_lt ref_cmp (pm_var (i := 2)) (pm_callB call_len ref_len rfl TX.b_len PySem.boot_len (pam_cons (pm_var (i := 1)) pam_nil)) (nomark _)) (pm_ix ix_seq ref_ix (pm_var (i := 1)) (pm_var (i := 2)) fun _ _ => rfl) (pm_tup (pam_cons pm_int (pam_cons (pm_tup pam_nil) pam_nil)))) (pgm_tup rfl rfl (pgsm_cons (pgm_name (i := 4) sc__law_bent.nd rfl (by first | exact Or.inl rfl | exact Or.inr rfl)) (pgsm_cons (pgm_name (i := 5) sc__law_bent.nd rfl (by first | exact Or.inl rfl | exact Or.inr rfl)) pgsm_nil))))
    (pssm_cons (psm_set (i := 6) sc__law_bent.nd rfl (by first | exact Or.inl rfl | exact Or.inr rfl) (pm_lst (pam_cons (pm_var (i := 1)) (pam_cons (pm_op op_addA ref_add (pm_slice rfl (pm_var (i := 1)) pom_none (pom_some (pm_var (i := 2)))) (pm_slice rfl (pm_var (i := 1)) (pom_some (pm_op op_addA ref_add (pm_var (i := 2)) pm_int)) pom_none)) (pam_cons (pm_op op_addA ref_add (pm_op op_addA ref_add (pm_slice rfl (pm_var (i := 1)) pom_none (pom_some (pm_var (i := 2)))) (pm_tup (pam_cons (pm_tup (pam_cons (pm_var (i := 4)) (pam_cons (pm_var (i := 5)) pam_nil))) pam_nil))) (pm_slice rfl (pm_var (i := 1)) (pom_some (pm_var (i := 2))) pom_none)) (pam_cons (pm_back rfl (pm_var (i := 1))) pam_nil))))))
    (pssm_cons (psm_expr (pm_append rfl (pm_var (i := 6)) (pam_cons (pm_op op_addA ref_add (pm_op op_addA ref_add (pm_slice rfl (pm_var (i := 1)) pom_none (pom_some (pm_var (i := 2)))) (pm_tup (pam_cons (pm_tup (pam_cons (pm_var (i := 4)) (pam_cons (pm_callD rfl D__law_bent_pairs (hr.mono (by decide)) hg (takes_of rfl rfl rfl rfl) rfl (pam_cons (pm_var (i := 0)) (pam_cons (pm_var (i := 5)) pam_nil))) pam_nil))) pam_nil))) (pm_slice rfl (pm_var (i := 1)) (pom_some (pm_op op_addA ref_add (pm_var (i := 2)) pm_int)) pom_none)) pam_nil)))
    (pssm_cons (psm_set (i := 4) sc__law_bent.nd rfl (by first | exact Or.inl rfl | exact Or.inr rfl) (pm_op op_addA ref_add (pm_var (i := 4)) (pm_ix ix_seq ref_ix (pm_lst (pam_cons pm_int (pam_cons (pm_un un_neg ref_neg pm_int) pam_nil))) (pm_callD rfl D__law_draw (hr.mono (by decide)) hg (takes_of rfl rfl rfl rfl) rfl (pam_cons (pm_var (i := 0)) (pam_cons pm_int pam_nil))) fun _ _ => rfl)))
    (pssm_one (psm_ret (pm_ix ix_seq ref_ix (pm_op op_addA ref_add (pm_var (i := 6)) (pm_lst (pam_cons (pm_op op_addA ref_add (pm_op op_addA ref_add (pm_slice rfl (pm_var (i := 1)) pom_none (pom_some (pm_var (i := 2)))) (pm_tup (pam_cons (pm_tup (pam_cons (pm_var (i := 4)) (pam_cons (pm_var (i := 5)) pam_nil))) pam_nil))) (pm_slice rfl (pm_var (i := 1)) (pom_some (pm_op op_addA ref_add (pm_var (i := 2)) pm_int)) pom_none)) pam_nil))) (pm_var (i := 3)) fun _ _ => rfl))))))))
theorem sc__law_holds : FnScope ["_law_spots_here", "_law_size", "_law_parts_here", "_law_cut", "_law_pairs_here", "_law_wanted", "_law_spot", "_law_place", "_law_pair"] ["_law_spots_here", "_law_size", "_law_parts_here"] (defScope s__law_holds) := ⟨rfl, rfl, rfl, by decide +kernel, rfl, by decide +kernel, by decide +kernel⟩
theorem ok__law_holds (TX : Txt w T mg ad_JUDGES es_JUDGES n_JUDGES) {a : Addr} {fd : FuncData} (F : Fun T.K "_law_holds" "_law_holds" s__law_holds a fd) {a__law_left : Addr} {fd__law_left : FuncData} (D__law_left : Dn P w mg base T 1 "_law_left" a__law_left fd__law_left ["_law_spots_here", "_law_place"] m__law_left) : FnG P w mg base T 2 a fd ["_law_spots_here", "_law_size", "_law_parts_here"] m__law_holds := by
  exact okG F sc__law_holds fun cdv A outer s H E hr hg =>
    (pssm_cons (psm_for (passes_of rfl) rfl (pim_seq rfl (pm_var (i := 2))) (pgm_tup rfl rfl (pgsm_cons (pgm_name (i := 3) sc__law_holds.nd rfl (by first | exact Or.inl rfl | exact Or.inr rfl)) (pgsm_cons (pgm_name (i := 4) sc__law_holds.nd rfl (by first | exact Or.inl rfl | exact Or.inr rfl)) pgsm_nil))) (pssm_cons (psm_setLcD (i := 5) rfl sc__law_holds.nd rfl rfl (sw_true rfl rfl rfl (by decide +kernel)) (pim_seq rfl (pm_var (i := 0))) (blkOk_by (own := [("_law_spot", 6)]) (N := ["_law_spots_here", "_law_size", "_law_parts_here", "_law_cut", "_law_pairs_here", "_law_wanted", "_law_spot", "_law_place", "_law_pair"]) (sc := defScope s__law_holds) (by decide +kernel)) (fun _ _ _ _ _ => (pgw_name (i := 6) sc__law_holds.nd rfl (by first | exact Or.inl rfl | exact Or.inr rfl))) (fun _ _ _ _ _ => (ptsm_one (pt_cmpM op_lt ref_cmp (pm_var (i := 6)) (pm_var (i := 3)) (nomark _)))) (fun _ _ _ _ _ => (pm_var (i := 6))))
    (pssm_cons (psm_if (PW.pt (ptm_or (pt_cmpM op_notIn_seq ref_in (pm_var (i := 3)) (pm_var (i := 0)) (by with_unfolding_all rfl)) (ptm_or (pt_cmpM op_ge ref_cmp (pm_var (i := 3)) (pm_var (i := 1)) (nomark _)) (ptm_or1 (pt_cmpM (op_neD hr.un64) ref_ne (pm_lcD rfl sc__law_holds.nd (pim_seq rfl (pm_var (i := 4))) (blkOk_by (own := [("_law_pair", 8)]) (N := ["_law_spots_here", "_law_size", "_law_parts_here", "_law_cut", "_law_pairs_here", "_law_wanted", "_law_spot", "_law_place", "_law_pair"]) (sc := defScope s__law_holds) (by decide +kernel)) (fun _ _ _ _ _ => (pgw_name (i := 8) sc__law_holds.nd rfl (by first | exact Or.inl rfl | exact Or.inr rfl))) (fun _ _ _ _ _ => ptsm_nil) (fun _ _ _ _ _ => (pm_ix ix_seq ref_ix (pm_var (i := 8)) pm_int fun _ _ => rfl))) (pm_var (i := 5)) (nomark _)))))) (pssm_one (psm_ret pm_bl)) pssm_nil)
    (pssm_cons (psm_for (passes_of rfl) rfl (pim_seq rfl (pm_var (i := 4))) (pgm_tup rfl rfl (pgsm_cons (pgm_name (i := 6) sc__law_holds.nd rfl (by first | exact Or.inl rfl | exact Or.inr rfl)) (pgsm_cons (pgm_name (i := 7) sc__law_holds.nd rfl (by first | exact Or.inl rfl | exact Or.inr rfl)) pgsm_nil))) (pssm_one (psm_if (PW.pt (ptm_or (ptm_not (ptm_chain op_le op_lt ref_cmp ref_cmp pm_int (pm_var (i := 7)) (pm_op op_sub ref_sub (pm_var (i := 1)) (pm_var (i := 6))))) (ptm_or1 (pt_cmpM (op_eqD hr.un64) ref_eq (pm_callD rfl D__law_left (hr.mono (by decide)) hg (takes_of rfl rfl rfl rfl) rfl (pam_cons (pm_var (i := 0)) (pam_cons (pm_var (i := 7)) pam_nil))) (pm_callD rfl D__law_left (hr.mono (by decide)) hg (takes_of rfl rfl rfl rfl) rfl (pam_cons (pm_var (i := 0)) (pam_cons (pm_op op_addA ref_add (pm_var (i := 7)) (pm_var (i := 6))) pam_nil))) (nomark _))))) (pssm_one (psm_ret pm_bl)) pssm_nil)))
    (pssm_one (psm_set (i := 1) sc__law_holds.nd rfl (by first | exact Or.inl rfl | exact Or.inr rfl) (pm_var (i := 3))))))))
    (pssm_one (psm_ret pm_bl)))
theorem sc__law_right : FnScope ["_law_pool_here", "_law_size", "_law_spots_here", "_law_factor", "_law_large", "_law_turn", "_law_parts_here", "_law_some", "_law_holds_here", "_law_many", "_law_plea", "_law_spot"] ["_law_pool_here"] (defScope s__law_right) := ⟨rfl, rfl, rfl, by decide +kernel, rfl, by decide +kernel, by decide +kernel⟩
theorem ok__law_right (TX : Txt w T mg ad_JUDGES es_JUDGES n_JUDGES) {a : Addr} {fd : FuncData} (F : Fun T.K "_law_right" "_law_right" s__law_right a fd) {a__law_judged : Addr} {fd__law_judged : FuncData} (D__law_judged : Dn P w mg base T 5 "_law_judged" a__law_judged fd__law_judged ["_law_plea", "_law_paper", "_law_due"] m__law_judged) {a__law_draw : Addr} {fd__law_draw : FuncData} (D__law_draw : Dn P w mg base T 1 "_law_draw" a__law_draw fd__law_draw ["_law_pool_here", "_law_upto"] m__law_draw) {a__law_spots : Addr} {fd__law_spots : FuncData} (D__law_spots : Dn P w mg base T 2 "_law_spots" a__law_spots fd__law_spots ["_law_pool_here", "_law_size"] m__law_spots) {a__law_times : Addr} {fd__law_times : FuncData} (D__law_times : Dn P w mg base T 1 "_law_times" a__law_times fd__law_times ["_law_parts_here", "_law_factor"] m__law_times) {a__law_parts : Addr} {fd__law_parts : FuncData} (D__law_parts : Dn P w mg base T 3 "_law_parts" a__law_parts fd__law_parts ["_law_pool_here", "_law_spots_here", "_law_size"] m__law_parts) {a__law_bent : Addr} {fd__law_bent : FuncData} (D__law_bent : Dn P w mg base T 3 "_law_bent" a__law_bent fd__law_bent ["_law_pool_here", "_law_parts_here"] m__law_bent) {a__law_holds : Addr} {fd__law_holds : FuncData} (D__law_holds : Dn P w mg base T 2 "_law_holds" a__law_holds fd__law_holds ["_law_spots_here", "_law_size", "_law_parts_here"] m__law_holds) : FnG P w mg base T 6 a fd ["_law_pool_here"] m__law_right := by
  exact okG F sc__law_right fun cdv A outer s H E hr hg =>
    (pssm_cons (psm_set (i := 1) sc__law_right.nd rfl (by first | exact Or.inl rfl | exact Or.inr rfl) (pm_op op_addA ref_add pm_int (pm_callD rfl D__law_draw (hr.mono (by decide)) hg (takes_of rfl rfl rfl rfl) rfl (pam_cons (pm_var (i := 0)) (pam_cons pm_int pam_nil)))))
    (pssm_cons (psm_asg (pm_tup (pam_cons (pm_callD rfl D__law_spots (hr.mono (by decide)) hg (takes_of rfl rfl rfl rfl) rfl (pam_cons (pm_var (i := 0)) (pam_cons (pm_var (i := 1)) pam_nil))) (pam_cons (pm_ix ix_seq ref_ix (pm_lst (pam_cons pm_int (pam_cons pm_int (pam_cons pm_int (pam_cons (pm_op op_pow ref_pow pm_int pm_int) (pam_cons (pm_op op_pow ref_pow pm_int pm_int) pam_nil)))))) (pm_callD rfl D__law_draw (hr.mono (by decide)) hg (takes_of rfl rfl rfl rfl) rfl (pam_cons (pm_var (i := 0)) (pam_cons pm_int pam_nil))) fun _ _ => rfl) pam_nil))) (pgm_tup rfl rfl (pgsm_cons (pgm_name (i := 2) sc__law_right.nd rfl (by first | exact Or.inl rfl | exact Or.inr rfl)) (pgsm_cons (pgm_name (i := 3) sc__law_right.nd rfl (by first | exact Or.inl rfl | exact Or.inr rfl)) pgsm_nil))))
    (pssm_cons (psm_set (i := 4) sc__law_right.nd rfl (by first | exact Or.inl rfl | exact Or.inr rfl) (pm_callTy call_tuple_of ref_tuple rfl TX.b_tuple PyProof.Rows.boot_tuple (pam_cons (pm_lcD rfl sc__law_right.nd (pim_seq rfl (pm_var (i := 2))) (blkOk_by (own := [("_law_spot", 11)]) (N := ["_law_pool_here", "_law_size", "_law_spots_here", "_law_factor", "_law_large", "_law_turn", "_law_parts_here", "_law_some", "_law_holds_here", "_law_many", "_law_plea", "_law_spot"]) (sc := defScope s__law_right) (by decide +kernel)) (fun _ _ _ _ _ => (pgw_name (i := 11) sc__law_right.nd rfl (by first | exact Or.inl rfl | exact Or.inr rfl))) (fun _ _ _ _ _ => ptsm_nil) (fun _ _ _ _ _ => (pm_op op_mulA ref_mul (pm_var (i := 11)) (pm_var (i := 3))))) pam_nil)))
    (pssm_cons (psm_for (passes_of rfl) rfl (pim_rng1 rfl TX.b_range (pam_cons pm_int pam_nil)) (pgm_name (i := 5) sc__law_right.nd rfl (by first | exact Or.inl rfl | exact Or.inr rfl)) (pssm_cons (psm_set (i := 6) sc__law_right.nd rfl (by first | exact Or.inl rfl | exact Or.inr rfl) (pm_callD rfl D__law_times (hr.mono (by decide)) hg (takes_of rfl rfl rfl rfl) rfl (pam_cons (pm_callD rfl D__law_parts (hr.mono (by decide)) hg (takes_of rfl rfl rfl rfl) rfl (pam_cons (pm_var (i := 0)) (pam_cons (pm_var (i := 2)) (pam_cons (pm_var (i := 1)) pam_nil)))) (pam_cons (pm_var (i := 3)) pam_nil))))
    (pssm_one (psm_for (passes_of rfl) rfl (pim_seq rfl (pm_lst (pam_cons (pm_var (i := 6)) (pam_cons (pm_callD rfl D__law_bent (hr.mono (by decide)) hg (takes_of rfl rfl rfl rfl) rfl (pam_cons (pm_var (i := 0)) (pam_cons (pm_var (i := 6)) pam_nil))) pam_nil)))) (pgm_name (i := 7) sc__law_right.nd rfl (by first | exact Or.inl rfl | exact Or.inr rfl)) (pssm_cons (psm_set (i := 8) sc__law_right.nd rfl (by first | exact Or.inl rfl | exact Or.inr rfl) (pm_callD rfl D__law_holds (hr.mono (by decide)) hg (takes_of rfl rfl rfl rfl) rfl (pam_cons (pm_var (i := 4)) (pam_cons (pm_op op_mulA ref_mul (pm_var (i := 1)) (pm_var (i := 3))) (pam_cons (pm_var (i := 7)) pam_nil)))))
    (pssm_one (psm_for (passes_of rfl) rfl (pim_seq rfl (pm_lst (pam_cons (pm_callB call_len ref_len rfl TX.b_len PySem.boot_len (pam_cons (pm_var (i := 7)) pam_nil)) (pam_cons (pm_op op_addA ref_add (pm_callB call_len ref_len rfl TX.b_len PySem.boot_len (pam_cons (pm_var (i := 7)) pam_nil)) pm_int) (pam_cons (pm_callB (call_max2 rfl) ref_max2 rfl TX.b_max PyProof.Rows.boot_max (pam_cons pm_int (pam_cons (pm_op op_sub ref_sub (pm_callB call_len ref_len rfl TX.b_len PySem.boot_len (pam_cons (pm_var (i := 7)) pam_nil)) pm_int) pam_nil))) (pam_cons (pm_callD rfl D__law_draw (hr.mono (by decide)) hg (takes_of rfl rfl rfl rfl) rfl (pam_cons (pm_var (i := 0)) (pam_cons pm_int pam_nil))) pam_nil)))))) (pgm_name (i := 9) sc__law_right.nd rfl (by first | exact Or.inl rfl | exact Or.inr rfl)) (pssm_cons (psm_set (i := 10) sc__law_right.nd rfl (by first | exact Or.inl rfl | exact Or.inr rfl) (pm_tup (pam_cons pm_str (pam_cons (pm_op op_mulA ref_mul (pm_var (i := 1)) (pm_var (i := 3))) (pam_cons (pm_var (i := 4)) (pam_cons (pm_var (i := 9)) pam_nil))))))
    (pssm_one (psm_if (ptm_not (ptm_truth rfl (pm_callD rfl D__law_judged (hr.mono (by decide)) hg (takes_of rfl rfl rfl rfl) rfl (pam_cons (pm_var (i := 10)) (pam_cons (pm_var (i := 7)) (pam_cons (pm_andV rfl (pm_var (i := 8)) (pe_one (pm_cmp (op_eqD hr.un64) ref_eq (pm_var (i := 9)) (pm_callB call_len ref_len rfl TX.b_len PySem.boot_len (pam_cons (pm_var (i := 7)) pam_nil)) (nomark _)))) pam_nil)))))) (pssm_one (psm_ret pm_bl)) pssm_nil))))))))))
    (pssm_one (psm_ret (pm_callD rfl D__law_judged (hr.mono (by decide)) hg (takes_of rfl rfl rfl rfl) rfl (pam_cons (pm_tup (pam_cons pm_str (pam_cons (pm_op op_mulA ref_mul (pm_var (i := 1)) (pm_var (i := 3))) (pam_cons (pm_var (i := 4)) (pam_cons pm_int pam_nil))))) (pam_cons (pm_tup pam_nil) (pam_cons pm_bl pam_nil))))))))))
theorem sc__law_pool : FnScope ["_law_cell_here", "_law_digits"] ["_law_cell_here"] (defScope s__law_pool) := ⟨rfl, rfl, rfl, by decide +kernel, rfl, by decide +kernel, by decide +kernel⟩
theorem ok__law_pool (TX : Txt w T mg ad_JUDGES es_JUDGES n_JUDGES) {a : Addr} {fd : FuncData} (F : Fun T.K "_law_pool" "_law_pool" s__law_pool a fd)  : FnG P w mg base T 1 a fd ["_law_cell_here"] m__law_pool := by
  exact okG F sc__law_pool fun cdv A outer s H E hr hg =>
    (pssm_cons (psm_set (i := 1) sc__law_pool.nd rfl (by first | exact Or.inl rfl | exact Or.inr rfl) (pm_ifExp (PW.pt (ptm_or (pt_cmpM op_lt ref_cmp (pm_var (i := 0)) pm_int (nomark _)) (ptm_or1 (pt_cmpM op_ge ref_cmp (pm_var (i := 0)) (pm_op op_pow ref_pow pm_int pm_int) (nomark _))))) (pm_callB call_abs ref_abs rfl TX.b_abs PyProof.Rows.boot_abs (pam_cons (pm_var (i := 0)) pam_nil)) pm_int))
    (pssm_one (psm_ret (pm_lst (pam_cons (pm_op op_mod ref_mod (pm_var (i := 0)) pm_int) (pam_cons (pm_var (i := 1)) (pam_cons pm_int pam_nil)))))))
theorem sc__law_cell : FnScope ["_law_script", "_law_k", "_law_state", "_law_cell_here"] ["_law_script", "_law_k"] (defScope s__law_cell) := ⟨rfl, rfl, rfl, by decide +kernel, rfl, by decide +kernel, by decide +kernel⟩
theorem ok__law_cell (TX : Txt w T mg ad_JUDGES es_JUDGES n_JUDGES) {a : Addr} {fd : FuncData} (F : Fun T.K "_law_cell" "_law_cell" s__law_cell a fd)  : FnG P w mg base T 1 a fd ["_law_script", "_law_k"] m__law_cell := by
  exact okG F sc__law_cell fun cdv A outer s H E hr hg =>
    (pssm_cons (psm_if (pt_cmpM op_lt ref_cmp (pm_var (i := 1)) (pm_callB call_len ref_len rfl TX.b_len PySem.boot_len (pam_cons (pm_var (i := 0)) pam_nil)) (nomark _)) (pssm_one (psm_ret (pm_ix ix_seq ref_ix (pm_var (i := 0)) (pm_var (i := 1)) fun _ _ => rfl))) pssm_nil)
    (pssm_cons (psm_set (i := 2) sc__law_cell.nd rfl (by first | exact Or.inl rfl | exact Or.inr rfl) (pm_op op_mod ref_mod (pm_op op_mulA ref_mul pm_int (pm_op op_addA ref_add (pm_op op_addA ref_add (pm_op op_mulA ref_mul (pm_var (i := 1)) (pm_var (i := 1))) (pm_op op_mulA ref_mul pm_int (pm_var (i := 1)))) pm_int)) pm_int))
    (pssm_cons (psm_for (passes_of rfl) rfl (pim_seq rfl (pm_slice rfl (pm_var (i := 0)) pom_none (pom_some pm_int))) (pgm_name (i := 3) sc__law_cell.nd rfl (by first | exact Or.inl rfl | exact Or.inr rfl)) (pssm_one (psm_set (i := 2) sc__law_cell.nd rfl (by first | exact Or.inl rfl | exact Or.inr rfl) (pm_op op_mod ref_mod (pm_op op_addA ref_add (pm_op op_mulA ref_mul (pm_var (i := 2)) pm_int) (pm_var (i := 3))) pm_int))))
    (pssm_one (psm_ret (pm_var (i := 2)))))))
theorem sc_law : FnScope ["_law_script", "_law_k"] ["_law_script"] (defScope s_law) := ⟨rfl, rfl, rfl, by decide +kernel, rfl, by decide +kernel, by decide +kernel⟩
theorem ok_law (TX : Txt w T mg ad_JUDGES es_JUDGES n_JUDGES) {a : Addr} {fd : FuncData} (F : Fun T.K "law" "law" s_law a fd) {a__law_right : Addr} {fd__law_right : FuncData} (D__law_right : Dn P w mg base T 6 "_law_right" a__law_right fd__law_right ["_law_pool_here"] m__law_right) {a__law_pool : Addr} {fd__law_pool : FuncData} (D__law_pool : Dn P w mg base T 1 "_law_pool" a__law_pool fd__law_pool ["_law_cell_here"] m__law_pool) {a__law_cell : Addr} {fd__law_cell : FuncData} (D__law_cell : Dn P w mg base T 1 "_law_cell" a__law_cell fd__law_cell ["_law_script", "_law_k"] m__law_cell) : FnG P w mg base T 7 a fd ["_law_script"] m_law := by
  exact okG F sc_law fun cdv A outer s H E hr hg =>
    (pssm_one (psm_ret (pm_callB (cr_all rfl) ref_bls rfl TX.b_all PyProof.Rows.boot_all (pam_cons (pm_lcD rfl sc_law.nd (pim_rng1 rfl TX.b_range (pam_cons (pm_callB (call_max2 rfl) ref_max2 rfl TX.b_max PyProof.Rows.boot_max (pam_cons pm_int (pam_cons (pm_callB (call_min2 rfl) ref_min2 rfl TX.b_min PyProof.Rows.boot_min (pam_cons (pm_callB call_len ref_len rfl TX.b_len PySem.boot_len (pam_cons (pm_var (i := 0)) pam_nil)) (pam_cons pm_int pam_nil))) pam_nil))) pam_nil)) (blkOk_by (own := [("_law_k", 1)]) (N := ["_law_script", "_law_k"]) (sc := defScope s_law) (by decide +kernel)) (fun _ _ _ _ _ => (pgw_name (i := 1) sc_law.nd rfl (by first | exact Or.inl rfl | exact Or.inr rfl))) (fun _ _ _ _ _ => ptsm_nil) (fun _ _ _ _ _ => (pm_callD rfl D__law_right (hr.mono (by decide)) hg takes0 rfl (pam_cons (pm_callD rfl D__law_pool (hr.mono (by decide)) hg takes0 rfl (pam_cons (pm_callD rfl D__law_cell (hr.mono (by decide)) hg takes0 rfl (pam_cons (pm_var (i := 0)) (pam_cons (pm_var (i := 1)) pam_nil))) pam_nil)) pam_nil)))) pam_nil))))
end
/-! the row -/
theorem all_mk {l : PySem.W.OpenLaw} {w : World} {K : PySem.W.Frag} {h : Heap} {mg : Str → Option Value} {fa a_is_between a_is_cut_reel a_reel_rest a_breaks_hold a_accepts_at_least a_accepts a__law_judged a__law_draw a__law_rest a__law_spots a__law_times a__law_left a__law_pairs a__law_is_period a__law_parts a__law_bent_pairs a__law_bent a__law_holds a__law_right a__law_pool a__law_cell a_law : Addr} (X : K.In h) (G : h.Ns mainGlobals mg) (hfa : mg "law" = some (.ref fa))
    {od_is_between an_is_between : Option Addr} {sl_is_between : Array (Option Value)} {oc_is_between kV_is_between dc_is_between pm_is_between cd_is_between ct_is_between : Value}
    (x_is_between : PySem.W.nsIn K mainGlobals "is_between" = some (some (.ref a_is_between)))
    (l_is_between : K.lookup a_is_between = some ⟨oc_is_between, od_is_between, .func (PySem.W.fnOf "is_between" "is_between" (defArgs s_is_between) (defBody s_is_between) (defScope s_is_between) .none kV_is_between dc_is_between pm_is_between an_is_between cd_is_between ct_is_between), sl_is_between⟩)
    (c_is_between : PySem.W.codeIn K cd_is_between "is_between" = true) (k_is_between : PySem.W.keepIn K (.ref a_is_between) = true)
    {od_is_cut_reel an_is_cut_reel : Option Addr} {sl_is_cut_reel : Array (Option Value)} {oc_is_cut_reel kV_is_cut_reel dc_is_cut_reel pm_is_cut_reel cd_is_cut_reel ct_is_cut_reel : Value}
    (x_is_cut_reel : PySem.W.nsIn K mainGlobals "is_cut_reel" = some (some (.ref a_is_cut_reel)))
    (l_is_cut_reel : K.lookup a_is_cut_reel = some ⟨oc_is_cut_reel, od_is_cut_reel, .func (PySem.W.fnOf "is_cut_reel" "is_cut_reel" (defArgs s_is_cut_reel) (defBody s_is_cut_reel) (defScope s_is_cut_reel) .none kV_is_cut_reel dc_is_cut_reel pm_is_cut_reel an_is_cut_reel cd_is_cut_reel ct_is_cut_reel), sl_is_cut_reel⟩)
    (c_is_cut_reel : PySem.W.codeIn K cd_is_cut_reel "is_cut_reel" = true) (k_is_cut_reel : PySem.W.keepIn K (.ref a_is_cut_reel) = true)
    {od_reel_rest an_reel_rest : Option Addr} {sl_reel_rest : Array (Option Value)} {oc_reel_rest kV_reel_rest dc_reel_rest pm_reel_rest cd_reel_rest ct_reel_rest : Value}
    (x_reel_rest : PySem.W.nsIn K mainGlobals "reel_rest" = some (some (.ref a_reel_rest)))
    (l_reel_rest : K.lookup a_reel_rest = some ⟨oc_reel_rest, od_reel_rest, .func (PySem.W.fnOf "reel_rest" "reel_rest" (defArgs s_reel_rest) (defBody s_reel_rest) (defScope s_reel_rest) .none kV_reel_rest dc_reel_rest pm_reel_rest an_reel_rest cd_reel_rest ct_reel_rest), sl_reel_rest⟩)
    (c_reel_rest : PySem.W.codeIn K cd_reel_rest "reel_rest" = true) (k_reel_rest : PySem.W.keepIn K (.ref a_reel_rest) = true)
    {od_breaks_hold an_breaks_hold : Option Addr} {sl_breaks_hold : Array (Option Value)} {oc_breaks_hold kV_breaks_hold dc_breaks_hold pm_breaks_hold cd_breaks_hold ct_breaks_hold : Value}
    (x_breaks_hold : PySem.W.nsIn K mainGlobals "breaks_hold" = some (some (.ref a_breaks_hold)))
    (l_breaks_hold : K.lookup a_breaks_hold = some ⟨oc_breaks_hold, od_breaks_hold, .func (PySem.W.fnOf "breaks_hold" "breaks_hold" (defArgs s_breaks_hold) (defBody s_breaks_hold) (defScope s_breaks_hold) .none kV_breaks_hold dc_breaks_hold pm_breaks_hold an_breaks_hold cd_breaks_hold ct_breaks_hold), sl_breaks_hold⟩)
    (c_breaks_hold : PySem.W.codeIn K cd_breaks_hold "breaks_hold" = true) (k_breaks_hold : PySem.W.keepIn K (.ref a_breaks_hold) = true)
    {od_accepts_at_least an_accepts_at_least : Option Addr} {sl_accepts_at_least : Array (Option Value)} {oc_accepts_at_least kV_accepts_at_least dc_accepts_at_least pm_accepts_at_least cd_accepts_at_least ct_accepts_at_least : Value}
    (x_accepts_at_least : PySem.W.nsIn K mainGlobals "accepts_at_least" = some (some (.ref a_accepts_at_least)))
    (l_accepts_at_least : K.lookup a_accepts_at_least = some ⟨oc_accepts_at_least, od_accepts_at_least, .func (PySem.W.fnOf "accepts_at_least" "accepts_at_least" (defArgs s_accepts_at_least) (defBody s_accepts_at_least) (defScope s_accepts_at_least) .none kV_accepts_at_least dc_accepts_at_least pm_accepts_at_least an_accepts_at_least cd_accepts_at_least ct_accepts_at_least), sl_accepts_at_least⟩)
    (c_accepts_at_least : PySem.W.codeIn K cd_accepts_at_least "accepts_at_least" = true) (k_accepts_at_least : PySem.W.keepIn K (.ref a_accepts_at_least) = true)
    {od_accepts an_accepts : Option Addr} {sl_accepts : Array (Option Value)} {oc_accepts kV_accepts dc_accepts pm_accepts cd_accepts ct_accepts : Value}
    (x_accepts : PySem.W.nsIn K mainGlobals "accepts" = some (some (.ref a_accepts)))
    (l_accepts : K.lookup a_accepts = some ⟨oc_accepts, od_accepts, .func (PySem.W.fnOf "accepts" "accepts" (defArgs s_accepts) (defBody s_accepts) (defScope s_accepts) .none kV_accepts dc_accepts pm_accepts an_accepts cd_accepts ct_accepts), sl_accepts⟩)
    (c_accepts : PySem.W.codeIn K cd_accepts "accepts" = true) (k_accepts : PySem.W.keepIn K (.ref a_accepts) = true)
    {od__law_judged an__law_judged : Option Addr} {sl__law_judged : Array (Option Value)} {oc__law_judged kV__law_judged dc__law_judged pm__law_judged cd__law_judged ct__law_judged : Value}
    (x__law_judged : PySem.W.nsIn K mainGlobals "_law_judged" = some (some (.ref a__law_judged)))
    (l__law_judged : K.lookup a__law_judged = some ⟨oc__law_judged, od__law_judged, .func (PySem.W.fnOf "_law_judged" "_law_judged" (defArgs s__law_judged) (defBody s__law_judged) (defScope s__law_judged) .none kV__law_judged dc__law_judged pm__law_judged an__law_judged cd__law_judged ct__law_judged), sl__law_judged⟩)
    (c__law_judged : PySem.W.codeIn K cd__law_judged "_law_judged" = true) (k__law_judged : PySem.W.keepIn K (.ref a__law_judged) = true)
    {od__law_draw an__law_draw : Option Addr} {sl__law_draw : Array (Option Value)} {oc__law_draw kV__law_draw dc__law_draw pm__law_draw cd__law_draw ct__law_draw : Value}
    (x__law_draw : PySem.W.nsIn K mainGlobals "_law_draw" = some (some (.ref a__law_draw)))
    (l__law_draw : K.lookup a__law_draw = some ⟨oc__law_draw, od__law_draw, .func (PySem.W.fnOf "_law_draw" "_law_draw" (defArgs s__law_draw) (defBody s__law_draw) (defScope s__law_draw) .none kV__law_draw dc__law_draw pm__law_draw an__law_draw cd__law_draw ct__law_draw), sl__law_draw⟩)
    (c__law_draw : PySem.W.codeIn K cd__law_draw "_law_draw" = true) (k__law_draw : PySem.W.keepIn K (.ref a__law_draw) = true)
    {od__law_rest an__law_rest : Option Addr} {sl__law_rest : Array (Option Value)} {oc__law_rest kV__law_rest dc__law_rest pm__law_rest cd__law_rest ct__law_rest : Value}
    (x__law_rest : PySem.W.nsIn K mainGlobals "_law_rest" = some (some (.ref a__law_rest)))
    (l__law_rest : K.lookup a__law_rest = some ⟨oc__law_rest, od__law_rest, .func (PySem.W.fnOf "_law_rest" "_law_rest" (defArgs s__law_rest) (defBody s__law_rest) (defScope s__law_rest) .none kV__law_rest dc__law_rest pm__law_rest an__law_rest cd__law_rest ct__law_rest), sl__law_rest⟩)
    (c__law_rest : PySem.W.codeIn K cd__law_rest "_law_rest" = true) (k__law_rest : PySem.W.keepIn K (.ref a__law_rest) = true)
    {od__law_spots an__law_spots : Option Addr} {sl__law_spots : Array (Option Value)} {oc__law_spots kV__law_spots dc__law_spots pm__law_spots cd__law_spots ct__law_spots : Value}
    (x__law_spots : PySem.W.nsIn K mainGlobals "_law_spots" = some (some (.ref a__law_spots)))
    (l__law_spots : K.lookup a__law_spots = some ⟨oc__law_spots, od__law_spots, .func (PySem.W.fnOf "_law_spots" "_law_spots" (defArgs s__law_spots) (defBody s__law_spots) (defScope s__law_spots) .none kV__law_spots dc__law_spots pm__law_spots an__law_spots cd__law_spots ct__law_spots), sl__law_spots⟩)
    (c__law_spots : PySem.W.codeIn K cd__law_spots "_law_spots" = true) (k__law_spots : PySem.W.keepIn K (.ref a__law_spots) = true)
    {od__law_times an__law_times : Option Addr} {sl__law_times : Array (Option Value)} {oc__law_times kV__law_times dc__law_times pm__law_times cd__law_times ct__law_times : Value}
    (x__law_times : PySem.W.nsIn K mainGlobals "_law_times" = some (some (.ref a__law_times)))
    (l__law_times : K.lookup a__law_times = some ⟨oc__law_times, od__law_times, .func (PySem.W.fnOf "_law_times" "_law_times" (defArgs s__law_times) (defBody s__law_times) (defScope s__law_times) .none kV__law_times dc__law_times pm__law_times an__law_times cd__law_times ct__law_times), sl__law_times⟩)
    (c__law_times : PySem.W.codeIn K cd__law_times "_law_times" = true) (k__law_times : PySem.W.keepIn K (.ref a__law_times) = true)
    {od__law_left an__law_left : Option Addr} {sl__law_left : Array (Option Value)} {oc__law_left kV__law_left dc__law_left pm__law_left cd__law_left ct__law_left : Value}
    (x__law_left : PySem.W.nsIn K mainGlobals "_law_left" = some (some (.ref a__law_left)))
    (l__law_left : K.lookup a__law_left = some ⟨oc__law_left, od__law_left, .func (PySem.W.fnOf "_law_left" "_law_left" (defArgs s__law_left) (defBody s__law_left) (defScope s__law_left) .none kV__law_left dc__law_left pm__law_left an__law_left cd__law_left ct__law_left), sl__law_left⟩)
    (c__law_left : PySem.W.codeIn K cd__law_left "_law_left" = true) (k__law_left : PySem.W.keepIn K (.ref a__law_left) = true)
    {od__law_pairs an__law_pairs : Option Addr} {sl__law_pairs : Array (Option Value)} {oc__law_pairs kV__law_pairs dc__law_pairs pm__law_pairs cd__law_pairs ct__law_pairs : Value}
    (x__law_pairs : PySem.W.nsIn K mainGlobals "_law_pairs" = some (some (.ref a__law_pairs)))
    (l__law_pairs : K.lookup a__law_pairs = some ⟨oc__law_pairs, od__law_pairs, .func (PySem.W.fnOf "_law_pairs" "_law_pairs" (defArgs s__law_pairs) (defBody s__law_pairs) (defScope s__law_pairs) .none kV__law_pairs dc__law_pairs pm__law_pairs an__law_pairs cd__law_pairs ct__law_pairs), sl__law_pairs⟩)
    (c__law_pairs : PySem.W.codeIn K cd__law_pairs "_law_pairs" = true) (k__law_pairs : PySem.W.keepIn K (.ref a__law_pairs) = true)
    {od__law_is_period an__law_is_period : Option Addr} {sl__law_is_period : Array (Option Value)} {oc__law_is_period kV__law_is_period dc__law_is_period pm__law_is_period cd__law_is_period ct__law_is_period : Value}
    (x__law_is_period : PySem.W.nsIn K mainGlobals "_law_is_period" = some (some (.ref a__law_is_period)))
    (l__law_is_period : K.lookup a__law_is_period = some ⟨oc__law_is_period, od__law_is_period, .func (PySem.W.fnOf "_law_is_period" "_law_is_period" (defArgs s__law_is_period) (defBody s__law_is_period) (defScope s__law_is_period) .none kV__law_is_period dc__law_is_period pm__law_is_period an__law_is_period cd__law_is_period ct__law_is_period), sl__law_is_period⟩)
    (c__law_is_period : PySem.W.codeIn K cd__law_is_period "_law_is_period" = true) (k__law_is_period : PySem.W.keepIn K (.ref a__law_is_period) = true)
    {od__law_parts an__law_parts : Option Addr} {sl__law_parts : Array (Option Value)} {oc__law_parts kV__law_parts dc__law_parts pm__law_parts cd__law_parts ct__law_parts : Value}
    (x__law_parts : PySem.W.nsIn K mainGlobals "_law_parts" = some (some (.ref a__law_parts)))
    (l__law_parts : K.lookup a__law_parts = some ⟨oc__law_parts, od__law_parts, .func (PySem.W.fnOf "_law_parts" "_law_parts" (defArgs s__law_parts) (defBody s__law_parts) (defScope s__law_parts) .none kV__law_parts dc__law_parts pm__law_parts an__law_parts cd__law_parts ct__law_parts), sl__law_parts⟩)
    (c__law_parts : PySem.W.codeIn K cd__law_parts "_law_parts" = true) (k__law_parts : PySem.W.keepIn K (.ref a__law_parts) = true)
    {od__law_bent_pairs an__law_bent_pairs : Option Addr} {sl__law_bent_pairs : Array (Option Value)} {oc__law_bent_pairs kV__law_bent_pairs dc__law_bent_pairs pm__law_bent_pairs cd__law_bent_pairs ct__law_bent_pairs : Value}
    (x__law_bent_pairs : PySem.W.nsIn K mainGlobals "_law_bent_pairs" = some (some (.ref a__law_bent_pairs)))
    (l__law_bent_pairs : K.lookup a__law_bent_pairs = some ⟨oc__law_bent_pairs, od__law_bent_pairs, .func (PySem.W.fnOf "_law_bent_pairs" "_law_bent_pairs" (defArgs s__law_bent_pairs) (defBody s__law_bent_pairs) (defScope s__law_bent_pairs) .none kV__law_bent_pairs dc__law_bent_pairs pm__law_bent_pairs an__law_bent_pairs cd__law_bent_pairs ct__law_bent_pairs), sl__law_bent_pairs⟩)
    (c__law_bent_pairs : PySem.W.codeIn K cd__law_bent_pairs "_law_bent_pairs" = true) (k__law_bent_pairs : PySem.W.keepIn K (.ref a__law_bent_pairs) = true)
    {od__law_bent an__law_bent : Option Addr} {sl__law_bent : Array (Option Value)} {oc__law_bent kV__law_bent dc__law_bent pm__law_bent cd__law_bent ct__law_bent : Value}
    (x__law_bent : PySem.W.nsIn K mainGlobals "_law_bent" = some (some (.ref a__law_bent)))
    (l__law_bent : K.lookup a__law_bent = some ⟨oc__law_bent, od__law_bent, .func (PySem.W.fnOf "_law_bent" "_law_bent" (defArgs s__law_bent) (defBody s__law_bent) (defScope s__law_bent) .none kV__law_bent dc__law_bent pm__law_bent an__law_bent cd__law_bent ct__law_bent), sl__law_bent⟩)
    (c__law_bent : PySem.W.codeIn K cd__law_bent "_law_bent" = true) (k__law_bent : PySem.W.keepIn K (.ref a__law_bent) = true)
    {od__law_holds an__law_holds : Option Addr} {sl__law_holds : Array (Option Value)} {oc__law_holds kV__law_holds dc__law_holds pm__law_holds cd__law_holds ct__law_holds : Value}
    (x__law_holds : PySem.W.nsIn K mainGlobals "_law_holds" = some (some (.ref a__law_holds)))
    (l__law_holds : K.lookup a__law_holds = some ⟨oc__law_holds, od__law_holds, .func (PySem.W.fnOf "_law_holds" "_law_holds" (defArgs s__law_holds) (defBody s__law_holds) (defScope s__law_holds) .none kV__law_holds dc__law_holds pm__law_holds an__law_holds cd__law_holds ct__law_holds), sl__law_holds⟩)
    (c__law_holds : PySem.W.codeIn K cd__law_holds "_law_holds" = true) (k__law_holds : PySem.W.keepIn K (.ref a__law_holds) = true)
    {od__law_right an__law_right : Option Addr} {sl__law_right : Array (Option Value)} {oc__law_right kV__law_right dc__law_right pm__law_right cd__law_right ct__law_right : Value}
    (x__law_right : PySem.W.nsIn K mainGlobals "_law_right" = some (some (.ref a__law_right)))
    (l__law_right : K.lookup a__law_right = some ⟨oc__law_right, od__law_right, .func (PySem.W.fnOf "_law_right" "_law_right" (defArgs s__law_right) (defBody s__law_right) (defScope s__law_right) .none kV__law_right dc__law_right pm__law_right an__law_right cd__law_right ct__law_right), sl__law_right⟩)
    (c__law_right : PySem.W.codeIn K cd__law_right "_law_right" = true) (k__law_right : PySem.W.keepIn K (.ref a__law_right) = true)
    {od__law_pool an__law_pool : Option Addr} {sl__law_pool : Array (Option Value)} {oc__law_pool kV__law_pool dc__law_pool pm__law_pool cd__law_pool ct__law_pool : Value}
    (x__law_pool : PySem.W.nsIn K mainGlobals "_law_pool" = some (some (.ref a__law_pool)))
    (l__law_pool : K.lookup a__law_pool = some ⟨oc__law_pool, od__law_pool, .func (PySem.W.fnOf "_law_pool" "_law_pool" (defArgs s__law_pool) (defBody s__law_pool) (defScope s__law_pool) .none kV__law_pool dc__law_pool pm__law_pool an__law_pool cd__law_pool ct__law_pool), sl__law_pool⟩)
    (c__law_pool : PySem.W.codeIn K cd__law_pool "_law_pool" = true) (k__law_pool : PySem.W.keepIn K (.ref a__law_pool) = true)
    {od__law_cell an__law_cell : Option Addr} {sl__law_cell : Array (Option Value)} {oc__law_cell kV__law_cell dc__law_cell pm__law_cell cd__law_cell ct__law_cell : Value}
    (x__law_cell : PySem.W.nsIn K mainGlobals "_law_cell" = some (some (.ref a__law_cell)))
    (l__law_cell : K.lookup a__law_cell = some ⟨oc__law_cell, od__law_cell, .func (PySem.W.fnOf "_law_cell" "_law_cell" (defArgs s__law_cell) (defBody s__law_cell) (defScope s__law_cell) .none kV__law_cell dc__law_cell pm__law_cell an__law_cell cd__law_cell ct__law_cell), sl__law_cell⟩)
    (c__law_cell : PySem.W.codeIn K cd__law_cell "_law_cell" = true) (k__law_cell : PySem.W.keepIn K (.ref a__law_cell) = true)
    {od_law an_law : Option Addr} {sl_law : Array (Option Value)} {oc_law kV_law dc_law pm_law cd_law ct_law : Value}
    (x_law : PySem.W.nsIn K mainGlobals "law" = some (some (.ref a_law)))
    (l_law : K.lookup a_law = some ⟨oc_law, od_law, .func (PySem.W.fnOf "law" "law" (defArgs s_law) (defBody s_law) (defScope s_law) .none kV_law dc_law pm_law an_law cd_law ct_law), sl_law⟩)
    (c_law : PySem.W.codeIn K cd_law "law" = true) (k_law : PySem.W.keepIn K (.ref a_law) = true)
    (b_abs : PySem.W.nsIn K mainGlobals "abs" = some none)
    (b_all : PySem.W.nsIn K mainGlobals "all" = some none)
    (b_bool : PySem.W.nsIn K mainGlobals "bool" = some none)
    (b_divmod : PySem.W.nsIn K mainGlobals "divmod" = some none)
    (b_int : PySem.W.nsIn K mainGlobals "int" = some none)
    (b_isinstance : PySem.W.nsIn K mainGlobals "isinstance" = some none)
    (b_len : PySem.W.nsIn K mainGlobals "len" = some none)
    (b_max : PySem.W.nsIn K mainGlobals "max" = some none)
    (b_min : PySem.W.nsIn K mainGlobals "min" = some none)
    (b_range : PySem.W.nsIn K mainGlobals "range" = some none)
    (b_repr : PySem.W.nsIn K mainGlobals "repr" = some none)
    (b_sorted : PySem.W.nsIn K mainGlobals "sorted" = some none)
    (b_str : PySem.W.nsIn K mainGlobals "str" = some none)
    (b_tuple : PySem.W.nsIn K mainGlobals "tuple" = some none)
    (b_zip : PySem.W.nsIn K mainGlobals "zip" = some none)
    {t_LONGEST : Tok} (g_LONGEST : PySem.W.nsIn K mainGlobals "LONGEST" = some (some (.int 1000000000000000 t_LONGEST)))
    {t_MOST_CUTS : Tok} (g_MOST_CUTS : PySem.W.nsIn K mainGlobals "MOST_CUTS" = some (some (.int 200 t_MOST_CUTS)))
    {d_JUDGES : Addr} {es_JUDGES : Array DictEntry} {n_JUDGES : Nat}
    (m_JUDGES : PySem.W.nsIn K mainGlobals "JUDGES" = some (some (.ref d_JUDGES))) (at_JUDGES : K.lookup d_JUDGES = some ⟨.type "dict", none, .dict es_JUDGES n_JUDGES, #[]⟩) (lit_JUDGES : PySem.W.KeysLit w.params es_JUDGES.toList) (low_JUDGES : (d_JUDGES == sysModules) = false)
    (it_JUDGES_0 : PySem.W.nsIn K d_JUDGES "at least" = some (some (.ref a_accepts_at_least)))
    : ∃ (T : Tb) (fd : FuncData), T.K = K ∧ (∀ (s : Shared) (u : Value), BindsTo s fd ⟨[u], []⟩ [("_law_script", u)]) ∧ ∀ base : Heap, K.In base → base.Ns mainGlobals mg → FnG l.prog w mg base T 7 fa fd ["_law_script"] m_law := by
  have e := hfa.symm.trans (PySem.W.mg_of X G x_law)
  have e2 : a_law = fa := by cases e; rfl
  subst e2
  let T : Tb := ⟨K, fun n => if n = 0 then a_is_between else if n = 1 then a_is_cut_reel else if n = 2 then a_reel_rest else if n = 3 then a_breaks_hold else if n = 4 then a_accepts_at_least else if n = 5 then a_accepts else if n = 6 then a__law_judged else if n = 7 then a__law_draw else if n = 8 then a__law_rest else if n = 9 then a__law_spots else if n = 10 then a__law_times else if n = 11 then a__law_left else if n = 12 then a__law_pairs else if n = 13 then a__law_is_period else if n = 14 then a__law_parts else if n = 15 then a__law_bent_pairs else if n = 16 then a__law_bent else if n = 17 then a__law_holds else if n = 18 then a__law_right else if n = 19 then a__law_pool else if n = 20 then a__law_cell else if n = 21 then a_law else 0, fun _ => 0⟩
  have lk_JUDGES : KdLook T.K d_JUDGES look_JUDGES := fun z b e => by
    unfold look_JUDGES at e
    split at e
    · rename_i hz
      cases e
      rw [hz]
      exact ⟨_, it_JUDGES_0, rfl⟩
    cases e
  have im_JUDGES : KdItems T w d_JUDGES itm_JUDGES := fun z b e => by
    unfold itm_JUDGES at e
    split at e
    · rename_i hz
      cases e
      rw [hz]
      exact ⟨.ref a_accepts_at_least, ⟨_, _, _, at_JUDGES, lit_JUDGES, it_JUDGES_0, rfl⟩, fun _ _ => by unfold RepV; rfl⟩
    cases e
  have TX : Txt w T mg d_JUDGES es_JUDGES n_JUDGES := ⟨PySem.W.mg_none_of X G b_abs, PySem.W.mg_none_of X G b_all, PySem.W.mg_none_of X G b_bool, PySem.W.mg_none_of X G b_divmod, PySem.W.mg_none_of X G b_int, PySem.W.mg_none_of X G b_isinstance, PySem.W.mg_none_of X G b_len, PySem.W.mg_none_of X G b_max, PySem.W.mg_none_of X G b_min, PySem.W.mg_none_of X G b_range, PySem.W.mg_none_of X G b_repr, PySem.W.mg_none_of X G b_sorted, PySem.W.mg_none_of X G b_str, PySem.W.mg_none_of X G b_tuple, PySem.W.mg_none_of X G b_zip, ⟨_, PySem.W.mg_of X G g_LONGEST⟩, ⟨_, PySem.W.mg_of X G g_MOST_CUTS⟩, PySem.W.mg_of X G m_JUDGES, ⟨at_JUDGES, lit_JUDGES, low_JUDGES⟩, lk_JUDGES, im_JUDGES⟩
  have F_is_between : Fun T.K "is_between" "is_between" s_is_between a_is_between _ := fun_mk l_is_between c_is_between k_is_between
  have F_is_cut_reel : Fun T.K "is_cut_reel" "is_cut_reel" s_is_cut_reel a_is_cut_reel _ := fun_mk l_is_cut_reel c_is_cut_reel k_is_cut_reel
  have F_reel_rest : Fun T.K "reel_rest" "reel_rest" s_reel_rest a_reel_rest _ := fun_mk l_reel_rest c_reel_rest k_reel_rest
  have F_breaks_hold : Fun T.K "breaks_hold" "breaks_hold" s_breaks_hold a_breaks_hold _ := fun_mk l_breaks_hold c_breaks_hold k_breaks_hold
  have F_accepts_at_least : Fun T.K "accepts_at_least" "accepts_at_least" s_accepts_at_least a_accepts_at_least _ := fun_mk l_accepts_at_least c_accepts_at_least k_accepts_at_least
  have F_accepts : Fun T.K "accepts" "accepts" s_accepts a_accepts _ := fun_mk l_accepts c_accepts k_accepts
  have F__law_judged : Fun T.K "_law_judged" "_law_judged" s__law_judged a__law_judged _ := fun_mk l__law_judged c__law_judged k__law_judged
  have F__law_draw : Fun T.K "_law_draw" "_law_draw" s__law_draw a__law_draw _ := fun_mk l__law_draw c__law_draw k__law_draw
  have F__law_rest : Fun T.K "_law_rest" "_law_rest" s__law_rest a__law_rest _ := fun_mk l__law_rest c__law_rest k__law_rest
  have F__law_spots : Fun T.K "_law_spots" "_law_spots" s__law_spots a__law_spots _ := fun_mk l__law_spots c__law_spots k__law_spots
  have F__law_times : Fun T.K "_law_times" "_law_times" s__law_times a__law_times _ := fun_mk l__law_times c__law_times k__law_times
  have F__law_left : Fun T.K "_law_left" "_law_left" s__law_left a__law_left _ := fun_mk l__law_left c__law_left k__law_left
  have F__law_pairs : Fun T.K "_law_pairs" "_law_pairs" s__law_pairs a__law_pairs _ := fun_mk l__law_pairs c__law_pairs k__law_pairs
  have F__law_is_period : Fun T.K "_law_is_period" "_law_is_period" s__law_is_period a__law_is_period _ := fun_mk l__law_is_period c__law_is_period k__law_is_period
  have F__law_parts : Fun T.K "_law_parts" "_law_parts" s__law_parts a__law_parts _ := fun_mk l__law_parts c__law_parts k__law_parts
  have F__law_bent_pairs : Fun T.K "_law_bent_pairs" "_law_bent_pairs" s__law_bent_pairs a__law_bent_pairs _ := fun_mk l__law_bent_pairs c__law_bent_pairs k__law_bent_pairs
  have F__law_bent : Fun T.K "_law_bent" "_law_bent" s__law_bent a__law_bent _ := fun_mk l__law_bent c__law_bent k__law_bent
  have F__law_holds : Fun T.K "_law_holds" "_law_holds" s__law_holds a__law_holds _ := fun_mk l__law_holds c__law_holds k__law_holds
  have F__law_right : Fun T.K "_law_right" "_law_right" s__law_right a__law_right _ := fun_mk l__law_right c__law_right k__law_right
  have F__law_pool : Fun T.K "_law_pool" "_law_pool" s__law_pool a__law_pool _ := fun_mk l__law_pool c__law_pool k__law_pool
  have F__law_cell : Fun T.K "_law_cell" "_law_cell" s__law_cell a__law_cell _ := fun_mk l__law_cell c__law_cell k__law_cell
  have F_law : Fun T.K "law" "law" s_law a_law _ := fun_mk l_law c_law k_law
  have KW_accepts_0 := fun_kwb (ps := ["claim", "certificate"]) (ks := ["certificate", "claim"]) (n := 0) (m := 2) (idx := [1, 0]) F_accepts fun _ _ _ _ _ _ us ws h1 h2 => match us, ws, h1, h2 with | [], [_, _], _, _ => rfl
  have B_is_between := F_is_between.binds (ps := ["value", "least", "most"]) fun _ _ _ _ _ _ us hl => match us, hl with | [_, _, _], _ => rfl
  have B_is_cut_reel := F_is_cut_reel.binds (ps := ["length", "cuts"]) fun _ _ _ _ _ _ us hl => match us, hl with | [_, _], _ => rfl
  have B_reel_rest := F_reel_rest.binds (ps := ["cuts", "place"]) fun _ _ _ _ _ _ us hl => match us, hl with | [_, _], _ => rfl
  have B_breaks_hold := F_breaks_hold.binds (ps := ["cuts", "size", "bound", "value"]) fun _ _ _ _ _ _ us hl => match us, hl with | [_, _, _, _], _ => rfl
  have B_accepts_at_least := F_accepts_at_least.binds (ps := ["parts", "certificate"]) fun _ _ _ _ _ _ us hl => match us, hl with | [_, _], _ => rfl
  have B_accepts := F_accepts.binds (ps := ["claim", "certificate"]) fun _ _ _ _ _ _ us hl => match us, hl with | [_, _], _ => rfl
  have B__law_judged := F__law_judged.binds (ps := ["_law_plea", "_law_paper", "_law_due"]) fun _ _ _ _ _ _ us hl => match us, hl with | [_, _, _], _ => rfl
  have B__law_draw := F__law_draw.binds (ps := ["_law_pool_here", "_law_upto"]) fun _ _ _ _ _ _ us hl => match us, hl with | [_, _], _ => rfl
  have B__law_rest := F__law_rest.binds (ps := ["_law_marks", "_law_spot"]) fun _ _ _ _ _ _ us hl => match us, hl with | [_, _], _ => rfl
  have B__law_spots := F__law_spots.binds (ps := ["_law_pool_here", "_law_size"]) fun _ _ _ _ _ _ us hl => match us, hl with | [_, _], _ => rfl
  have B__law_times := F__law_times.binds (ps := ["_law_parts_here", "_law_factor"]) fun _ _ _ _ _ _ us hl => match us, hl with | [_, _], _ => rfl
  have B__law_left := F__law_left.binds (ps := ["_law_spots_here", "_law_place"]) fun _ _ _ _ _ _ us hl => match us, hl with | [_, _], _ => rfl
  have B__law_pairs := F__law_pairs.binds (ps := ["_law_pool_here", "_law_spots_here", "_law_size", "_law_bound"]) fun _ _ _ _ _ _ us hl => match us, hl with | [_, _, _, _], _ => rfl
  have B__law_is_period := F__law_is_period.binds (ps := ["_law_spots_here", "_law_size", "_law_cut"]) fun _ _ _ _ _ _ us hl => match us, hl with | [_, _, _], _ => rfl
  have B__law_parts := F__law_parts.binds (ps := ["_law_pool_here", "_law_spots_here", "_law_size"]) fun _ _ _ _ _ _ us hl => match us, hl with | [_, _, _], _ => rfl
  have B__law_bent_pairs := F__law_bent_pairs.binds (ps := ["_law_pool_here", "_law_pairs_here"]) fun _ _ _ _ _ _ us hl => match us, hl with | [_, _], _ => rfl
  have B__law_bent := F__law_bent.binds (ps := ["_law_pool_here", "_law_parts_here"]) fun _ _ _ _ _ _ us hl => match us, hl with | [_, _], _ => rfl
  have B__law_holds := F__law_holds.binds (ps := ["_law_spots_here", "_law_size", "_law_parts_here"]) fun _ _ _ _ _ _ us hl => match us, hl with | [_, _, _], _ => rfl
  have B__law_right := F__law_right.binds (ps := ["_law_pool_here"]) fun _ _ _ _ _ _ us hl => match us, hl with | [_], _ => rfl
  have B__law_pool := F__law_pool.binds (ps := ["_law_cell_here"]) fun _ _ _ _ _ _ us hl => match us, hl with | [_], _ => rfl
  have B__law_cell := F__law_cell.binds (ps := ["_law_script", "_law_k"]) fun _ _ _ _ _ _ us hl => match us, hl with | [_, _], _ => rfl
  refine ⟨T, PySem.W.fnOf "law" "law" (defArgs s_law) (defBody s_law) (defScope s_law) .none kV_law dc_law pm_law an_law cd_law ct_law, rfl, fun s u => .of_eq rfl, fun base _ _ => ?_⟩
  have D_is_between : Dn l.prog w mg base T 1 "is_between" a_is_between _ ["value", "least", "most"] m_is_between := ⟨ok_is_between TX F_is_between , PySem.W.mg_of X G x_is_between, k_is_between, B_is_between⟩
  have D_is_cut_reel : Dn l.prog w mg base T 2 "is_cut_reel" a_is_cut_reel _ ["length", "cuts"] m_is_cut_reel := ⟨ok_is_cut_reel TX F_is_cut_reel D_is_between, PySem.W.mg_of X G x_is_cut_reel, k_is_cut_reel, B_is_cut_reel⟩
  have D_reel_rest : Dn l.prog w mg base T 1 "reel_rest" a_reel_rest _ ["cuts", "place"] m_reel_rest := ⟨ok_reel_rest TX F_reel_rest , PySem.W.mg_of X G x_reel_rest, k_reel_rest, B_reel_rest⟩
  have D_breaks_hold : Dn l.prog w mg base T 2 "breaks_hold" a_breaks_hold _ ["cuts", "size", "bound", "value"] m_breaks_hold := ⟨ok_breaks_hold TX F_breaks_hold D_is_between D_reel_rest, PySem.W.mg_of X G x_breaks_hold, k_breaks_hold, B_breaks_hold⟩
  have D_accepts_at_least : Dn l.prog w mg base T 3 "accepts_at_least" a_accepts_at_least _ ["parts", "certificate"] m_accepts_at_least := ⟨ok_accepts_at_least TX F_accepts_at_least D_is_between D_is_cut_reel D_breaks_hold, PySem.W.mg_of X G x_accepts_at_least, k_accepts_at_least, B_accepts_at_least⟩
  have CAL_accepts : Cals l.prog w mg base T 3 cal_accepts := fun g n fm e => by
    unfold cal_accepts at e
    split at e
    · rename_i hz
      cases e
      subst hz
      exact ⟨_, _, rfl, D_accepts_at_least.F.mono (by decide), D_accepts_at_least.k, D_accepts_at_least.b⟩
    cases e
  have D_accepts : Dn l.prog w mg base T 4 "accepts" a_accepts _ ["claim", "certificate"] m_accepts := ⟨ok_accepts TX F_accepts CAL_accepts, PySem.W.mg_of X G x_accepts, k_accepts, B_accepts⟩
  have D__law_judged : Dn l.prog w mg base T 5 "_law_judged" a__law_judged _ ["_law_plea", "_law_paper", "_law_due"] m__law_judged := ⟨ok__law_judged TX F__law_judged D_accepts KW_accepts_0, PySem.W.mg_of X G x__law_judged, k__law_judged, B__law_judged⟩
  have D__law_draw : Dn l.prog w mg base T 1 "_law_draw" a__law_draw _ ["_law_pool_here", "_law_upto"] m__law_draw := ⟨ok__law_draw TX F__law_draw , PySem.W.mg_of X G x__law_draw, k__law_draw, B__law_draw⟩
  have D__law_rest : Dn l.prog w mg base T 1 "_law_rest" a__law_rest _ ["_law_marks", "_law_spot"] m__law_rest := ⟨ok__law_rest TX F__law_rest , PySem.W.mg_of X G x__law_rest, k__law_rest, B__law_rest⟩
  have D__law_spots : Dn l.prog w mg base T 2 "_law_spots" a__law_spots _ ["_law_pool_here", "_law_size"] m__law_spots := ⟨ok__law_spots TX F__law_spots D__law_draw D__law_rest, PySem.W.mg_of X G x__law_spots, k__law_spots, B__law_spots⟩
  have D__law_times : Dn l.prog w mg base T 1 "_law_times" a__law_times _ ["_law_parts_here", "_law_factor"] m__law_times := ⟨ok__law_times TX F__law_times , PySem.W.mg_of X G x__law_times, k__law_times, B__law_times⟩
  have D__law_left : Dn l.prog w mg base T 1 "_law_left" a__law_left _ ["_law_spots_here", "_law_place"] m__law_left := ⟨ok__law_left TX F__law_left , PySem.W.mg_of X G x__law_left, k__law_left, B__law_left⟩
  have D__law_pairs : Dn l.prog w mg base T 2 "_law_pairs" a__law_pairs _ ["_law_pool_here", "_law_spots_here", "_law_size", "_law_bound"] m__law_pairs := ⟨ok__law_pairs TX F__law_pairs D__law_draw D__law_left, PySem.W.mg_of X G x__law_pairs, k__law_pairs, B__law_pairs⟩
  have D__law_is_period : Dn l.prog w mg base T 2 "_law_is_period" a__law_is_period _ ["_law_spots_here", "_law_size", "_law_cut"] m__law_is_period := ⟨ok__law_is_period TX F__law_is_period D__law_left, PySem.W.mg_of X G x__law_is_period, k__law_is_period, B__law_is_period⟩
  have D__law_parts : Dn l.prog w mg base T 3 "_law_parts" a__law_parts _ ["_law_pool_here", "_law_spots_here", "_law_size"] m__law_parts := ⟨ok__law_parts TX F__law_parts D__law_draw D__law_pairs D__law_is_period, PySem.W.mg_of X G x__law_parts, k__law_parts, B__law_parts⟩
  have D__law_bent_pairs : Dn l.prog w mg base T 2 "_law_bent_pairs" a__law_bent_pairs _ ["_law_pool_here", "_law_pairs_here"] m__law_bent_pairs := ⟨ok__law_bent_pairs TX F__law_bent_pairs D__law_draw, PySem.W.mg_of X G x__law_bent_pairs, k__law_bent_pairs, B__law_bent_pairs⟩
  have D__law_bent : Dn l.prog w mg base T 3 "_law_bent" a__law_bent _ ["_law_pool_here", "_law_parts_here"] m__law_bent := ⟨ok__law_bent TX F__law_bent D__law_draw D__law_bent_pairs, PySem.W.mg_of X G x__law_bent, k__law_bent, B__law_bent⟩
  have D__law_holds : Dn l.prog w mg base T 2 "_law_holds" a__law_holds _ ["_law_spots_here", "_law_size", "_law_parts_here"] m__law_holds := ⟨ok__law_holds TX F__law_holds D__law_left, PySem.W.mg_of X G x__law_holds, k__law_holds, B__law_holds⟩
  have D__law_right : Dn l.prog w mg base T 6 "_law_right" a__law_right _ ["_law_pool_here"] m__law_right := ⟨ok__law_right TX F__law_right D__law_judged D__law_draw D__law_spots D__law_times D__law_parts D__law_bent D__law_holds, PySem.W.mg_of X G x__law_right, k__law_right, B__law_right⟩
  have D__law_pool : Dn l.prog w mg base T 1 "_law_pool" a__law_pool _ ["_law_cell_here"] m__law_pool := ⟨ok__law_pool TX F__law_pool , PySem.W.mg_of X G x__law_pool, k__law_pool, B__law_pool⟩
  have D__law_cell : Dn l.prog w mg base T 1 "_law_cell" a__law_cell _ ["_law_script", "_law_k"] m__law_cell := ⟨ok__law_cell TX F__law_cell , PySem.W.mg_of X G x__law_cell, k__law_cell, B__law_cell⟩
  exact ok_law (P := l.prog) (base := base) TX F_law D__law_right D__law_pool D__law_cell
end K74

namespace K74
open Cutp
open PySem (Str)
/-! ### the pool -/
/-- at p: a pool, at most n draws made -/
def Pool (p : Nat) (n : Int) (h : Hm) : Prop := ∃ a b c, h[p]? = some (.lst [.int a, .int b, .int c]) ∧ (0 ≤ a ∧ a < 2147483237) ∧ 0 ≤ c ∧ c ≤ n
theorem Pool.le {p : Nat} {n m : Int} {h : Hm} (P : Pool p n h) (k : n ≤ m) : Pool p m h := by
  obtain ⟨a, b, c, h1, h2, h3, h4⟩ := P
  exact ⟨a, b, c, h1, h2, h3, by omega⟩
theorem Pool.gr {p : Nat} {n : Int} {h h' : Hm} (P : Pool p n h) (g : Gr h h') : Pool p n h' := by
  obtain ⟨a, b, c, h1, h2⟩ := P
  exact ⟨a, b, c, g.at h1, h2⟩
theorem Pool.lt {p : Nat} {n : Int} {h : Hm} (P : Pool p n h) : p < h.length := by
  obtain ⟨a, b, c, h1, h2⟩ := P
  exact (List.getElem?_eq_some_iff.mp h1).1
theorem ixN3 : L2.ixN 3 0 = some 0 ∧ L2.ixN 3 1 = some 1 ∧ L2.ixN 3 2 = some 2 := by decide
theorem draw_ok {p : Nat} {n u : Int} {h : Hm} (P : Pool p n h) (hn : n < 1000000000) (h0 : 0 < u) (h1 : u < 1000000000) :
    Ok (m__law_draw [.ref p, .int u] h) fun v h' => ∃ d, v = .int d ∧ (0 ≤ d ∧ d < u) ∧ Pool p (n + 1) h' ∧ Kh p h h' := by
  obtain ⟨a, b, c, hp, ha, hc, hcn⟩ := P
  have e1 : ∀ l, ∀ g : Hm, g[p]? = some (.lst l) → ∀ l2, (g.set p (.lst l2))[p]? = some (.lst l2) := fun l g hg l2 => set_at hg
  unfold m__law_draw b__law_draw
  simp only [ok_ok, ok_bind, ok_ite, ok_mVar, ok_mC, ok_mOp, ok_mUn, ok_mNil, ok_mCons, ok_mTup, ok_mLst, ok_mCB, ok_mTest, ok_mAnd, ok_mOr, ok_mNot, ok_mIf, ok_mTru, ok_truM_bl, ok_mAndV, ok_mOrV, ok_mNotV, ok_mChain, ok_mNoPart, ok_mPart, ok_mSlice, ok_mBack, ok_mCall, ok_mCallK, ok_mMeth, ok_mIter, ok_mRng1, ok_mRng2, ok_mZip, ok_rng1, ok_rng2, ok_gmName, ok_gmNil, ok_gmCons, ok_gmTup, ok_gmSub, sn_nx, sn_rt, sn_ite, sn_sSeq, sn_sNext, sn_sBreak, sn_sCont, sn_sRetN, sn_sExpr, sn_sRet, sn_sIf, sn_sAsg, sn_sPar, sn_sAug, ok_runD, sn_sFor, ok_mComp, ok_mYes, ok_add, ok_addT, ok_sub, ok_mul, ok_div, ok_mod, ok_pow, ok_lt, ok_le, ok_gt, ok_ge, ok_neg, ok_eqI, ok_neI, ok_isN, ok_notN, ok_ixT, ok_ixF, ok_slT, ok_slF, ok_backT, ok_lenT, ok_lenF, ok_abs, ok_max2, ok_min2, ok_intB, ok_divmod, ok_itT, ok_itF, ok_isiII, ok_isiIB, ok_isiIT, ok_isiTT, ok_isiTI, ok_isiSS, getAt0, getAt1, getAt2, wipeM, List.map_cons, List.map_nil, List.cons_append, List.nil_append, List.append_nil, List.length_cons, List.length_nil, List.length_map, Nat.reduceAdd, Nat.reduceSub, List.replicate_zero, List.replicate_succ, List.getElem?_cons_zero, List.getElem?_cons_succ, List.set_cons_zero, List.set_cons_succ, Option.some.injEq, exists_eq_left', MV.bl.injEq, MV.int.injEq, true_and, and_true, Int.reduceLT, Int.reduceLE, Nat.reduceLT, Nat.reduceLeDiff, decide_true, decide_false, Bool.not_true, Bool.not_false, Bool.false_eq_true, if_true, if_false, reduceIte, ok_ixL hp, ok_setL hp, ixN3]
  have hp2 := e1 _ _ hp [MV.int a, MV.int b, MV.int (c + 1)]
  simp only [ok_ok, ok_bind, ok_ite, ok_mVar, ok_mC, ok_mOp, ok_mUn, ok_mNil, ok_mCons, ok_mTup, ok_mLst, ok_mCB, ok_mTest, ok_mAnd, ok_mOr, ok_mNot, ok_mIf, ok_mTru, ok_truM_bl, ok_mAndV, ok_mOrV, ok_mNotV, ok_mChain, ok_mNoPart, ok_mPart, ok_mSlice, ok_mBack, ok_mCall, ok_mCallK, ok_mMeth, ok_mIter, ok_mRng1, ok_mRng2, ok_mZip, ok_rng1, ok_rng2, ok_gmName, ok_gmNil, ok_gmCons, ok_gmTup, ok_gmSub, sn_nx, sn_rt, sn_ite, sn_sSeq, sn_sNext, sn_sBreak, sn_sCont, sn_sRetN, sn_sExpr, sn_sRet, sn_sIf, sn_sAsg, sn_sPar, sn_sAug, ok_runD, sn_sFor, ok_mComp, ok_mYes, ok_add, ok_addT, ok_sub, ok_mul, ok_div, ok_mod, ok_pow, ok_lt, ok_le, ok_gt, ok_ge, ok_neg, ok_eqI, ok_neI, ok_isN, ok_notN, ok_ixT, ok_ixF, ok_slT, ok_slF, ok_backT, ok_lenT, ok_lenF, ok_abs, ok_max2, ok_min2, ok_intB, ok_divmod, ok_itT, ok_itF, ok_isiII, ok_isiIB, ok_isiIT, ok_isiTT, ok_isiTI, ok_isiSS, getAt0, getAt1, getAt2, wipeM, List.map_cons, List.map_nil, List.cons_append, List.nil_append, List.append_nil, List.length_cons, List.length_nil, List.length_map, Nat.reduceAdd, Nat.reduceSub, List.replicate_zero, List.replicate_succ, List.getElem?_cons_zero, List.getElem?_cons_succ, List.set_cons_zero, List.set_cons_succ, Option.some.injEq, exists_eq_left', MV.bl.injEq, MV.int.injEq, true_and, and_true, Int.reduceLT, Int.reduceLE, Nat.reduceLT, Nat.reduceLeDiff, decide_true, decide_false, Bool.not_true, Bool.not_false, Bool.false_eq_true, if_true, if_false, reduceIte, ok_ixL hp2, ok_setL hp2, ixN3]
  have m0 : 0 ≤ a % 42017 ∧ a % 42017 < 42017 := ⟨Int.emod_nonneg _ (by decide), Int.emod_lt_of_pos _ (by decide)⟩
  refine ⟨mul_ok (by omega) (by omega), mul_ok (by omega) (by omega), ?_⟩
  generalize hq : (a * (a % 42017 + 29017) + 70039 * (c + 1) + 13) % 2147483237 = q
  have hq' : 0 ≤ q ∧ q < 2147483237 := by rw [← hq]; exact ⟨Int.emod_nonneg _ (by decide), Int.emod_lt_of_pos _ (by decide)⟩
  have hp3 := e1 _ _ hp2 [MV.int q, MV.int b, MV.int (c + 1)]
  simp only [ok_ok, ok_bind, ok_ite, ok_mVar, ok_mC, ok_mOp, ok_mUn, ok_mNil, ok_mCons, ok_mTup, ok_mLst, ok_mCB, ok_mTest, ok_mAnd, ok_mOr, ok_mNot, ok_mIf, ok_mTru, ok_truM_bl, ok_mAndV, ok_mOrV, ok_mNotV, ok_mChain, ok_mNoPart, ok_mPart, ok_mSlice, ok_mBack, ok_mCall, ok_mCallK, ok_mMeth, ok_mIter, ok_mRng1, ok_mRng2, ok_mZip, ok_rng1, ok_rng2, ok_gmName, ok_gmNil, ok_gmCons, ok_gmTup, ok_gmSub, sn_nx, sn_rt, sn_ite, sn_sSeq, sn_sNext, sn_sBreak, sn_sCont, sn_sRetN, sn_sExpr, sn_sRet, sn_sIf, sn_sAsg, sn_sPar, sn_sAug, ok_runD, sn_sFor, ok_mComp, ok_mYes, ok_add, ok_addT, ok_sub, ok_mul, ok_div, ok_mod, ok_pow, ok_lt, ok_le, ok_gt, ok_ge, ok_neg, ok_eqI, ok_neI, ok_isN, ok_notN, ok_ixT, ok_ixF, ok_slT, ok_slF, ok_backT, ok_lenT, ok_lenF, ok_abs, ok_max2, ok_min2, ok_intB, ok_divmod, ok_itT, ok_itF, ok_isiII, ok_isiIB, ok_isiIT, ok_isiTT, ok_isiTI, ok_isiSS, getAt0, getAt1, getAt2, wipeM, List.map_cons, List.map_nil, List.cons_append, List.nil_append, List.append_nil, List.length_cons, List.length_nil, List.length_map, Nat.reduceAdd, Nat.reduceSub, List.replicate_zero, List.replicate_succ, List.getElem?_cons_zero, List.getElem?_cons_succ, List.set_cons_zero, List.set_cons_succ, Option.some.injEq, exists_eq_left', MV.bl.injEq, MV.int.injEq, true_and, and_true, Int.reduceLT, Int.reduceLE, Nat.reduceLT, Nat.reduceLeDiff, decide_true, decide_false, Bool.not_true, Bool.not_false, Bool.false_eq_true, if_true, if_false, reduceIte, ok_ixL hp3, ok_setL hp3, ixN3]
  have K3 : Kh p h ((h.set p (.lst [.int a, .int b, .int (c + 1)])).set p (.lst [.int q, .int b, .int (c + 1)])) := Kh.set.trans Kh.set
  by_cases hb : 0 < b
  · simp only [hb, decide_true, if_true]
    have hp4 := e1 _ _ hp3 [MV.int q, MV.int (b / u), MV.int (c + 1)]
    refine ⟨div_ok h0 (by omega), ⟨Int.emod_nonneg _ (by omega), Int.emod_lt_of_pos _ h0⟩, ⟨q, b / u, c + 1, hp4, hq', by omega, by omega⟩, K3.trans Kh.set⟩
  · simp only [hb, decide_false, Bool.false_eq_true, if_false]
    exact ⟨by decide, h0, ⟨Int.emod_nonneg _ (by omega), Int.emod_lt_of_pos _ h0⟩, ⟨q, b, c + 1, hp3, hq', by omega, by omega⟩, K3⟩
/-! ### small ones -/
theorem between_ok {a b c : Int} {h : Hm} {Q : MV → Hm → Prop} : Ok (m_is_between [.int a, .int b, .int c] h) Q ↔ Q (.bl (decide (b ≤ a ∧ a ≤ c))) h := by
  unfold m_is_between b_is_between
  simp only [ok_ok, ok_bind, ok_ite, ok_mVar, ok_mC, ok_mOp, ok_mUn, ok_mNil, ok_mCons, ok_mTup, ok_mLst, ok_mCB, ok_mTest, ok_mAnd, ok_mOr, ok_mNot, ok_mIf, ok_mTru, ok_truM_bl, ok_mAndV, ok_mOrV, ok_mNotV, ok_mChain, ok_mNoPart, ok_mPart, ok_mSlice, ok_mBack, ok_mCall, ok_mCallK, ok_mMeth, ok_mIter, ok_mRng1, ok_mRng2, ok_mZip, ok_rng1, ok_rng2, ok_gmName, ok_gmNil, ok_gmCons, ok_gmTup, ok_gmSub, sn_nx, sn_rt, sn_ite, sn_sSeq, sn_sNext, sn_sBreak, sn_sCont, sn_sRetN, sn_sExpr, sn_sRet, sn_sIf, sn_sAsg, sn_sPar, sn_sAug, ok_runD, sn_sFor, ok_mComp, ok_mYes, ok_add, ok_addT, ok_sub, ok_mul, ok_div, ok_mod, ok_pow, ok_lt, ok_le, ok_gt, ok_ge, ok_neg, ok_eqI, ok_neI, ok_isN, ok_notN, ok_ixT, ok_ixF, ok_slT, ok_slF, ok_backT, ok_lenT, ok_lenF, ok_abs, ok_max2, ok_min2, ok_intB, ok_divmod, ok_itT, ok_itF, ok_isiII, ok_isiIB, ok_isiIT, ok_isiTT, ok_isiTI, ok_isiSS, getAt0, getAt1, getAt2, wipeM, List.map_cons, List.map_nil, List.cons_append, List.nil_append, List.append_nil, List.length_cons, List.length_nil, List.length_map, Nat.reduceAdd, Nat.reduceSub, List.replicate_zero, List.replicate_succ, List.getElem?_cons_zero, List.getElem?_cons_succ, List.set_cons_zero, List.set_cons_succ, Option.some.injEq, exists_eq_left', MV.bl.injEq, MV.int.injEq, true_and, and_true, Int.reduceLT, Int.reduceLE, Nat.reduceLT, Nat.reduceLeDiff, decide_true, decide_false, Bool.not_true, Bool.not_false, Bool.false_eq_true, if_true, if_false, reduceIte]
  by_cases h1 : b ≤ a <;> simp [h1]
/-- a truth that tells whether P -/
def IsB (P : Prop) (v : MV) : Prop := ∃ b, v = .bl b ∧ (b = true ↔ P)
theorem IsB.t {P : Prop} (h : P) : IsB P (.bl true) := ⟨true, rfl, ⟨fun _ => h, fun _ => rfl⟩⟩
theorem IsB.f {P : Prop} (h : ¬ P) : IsB P (.bl false) := ⟨false, rfl, ⟨fun k => (nomatch k), fun k => (h k).elim⟩⟩
/-- the remainder by positive marks: a number, the heap as it was -/
theorem rest_ok {a : Nat} {ms : List Int} {x : Int} {h : Hm} (ha : h[a]? = some (.lst (ms.map .int))) (hm : ∀ m ∈ ms, 0 < m) (hl : ms.length ≤ 1000) : Ok (m__law_rest [.ref a, .int x] h) fun v h' => ∃ r, v = .int r ∧ h' = h := by
  unfold m__law_rest b__law_rest
  simp only [ok_ok, ok_bind, ok_ite, ok_mVar, ok_mC, ok_mOp, ok_mUn, ok_mNil, ok_mCons, ok_mTup, ok_mLst, ok_mCB, ok_mTest, ok_mAnd, ok_mOr, ok_mNot, ok_mIf, ok_mTru, ok_truM_bl, ok_mAndV, ok_mOrV, ok_mNotV, ok_mChain, ok_mNoPart, ok_mPart, ok_mSlice, ok_mBack, ok_mCall, ok_mCallK, ok_mMeth, ok_mIter, ok_mRng1, ok_mRng2, ok_mZip, ok_rng1, ok_rng2, ok_gmName, ok_gmNil, ok_gmCons, ok_gmTup, ok_gmSub, sn_nx, sn_rt, sn_ite, sn_sSeq, sn_sNext, sn_sBreak, sn_sCont, sn_sRetN, sn_sExpr, sn_sRet, sn_sIf, sn_sAsg, sn_sPar, sn_sAug, ok_runD, sn_sFor, ok_mComp, ok_mYes, ok_add, ok_addT, ok_sub, ok_mul, ok_div, ok_mod, ok_pow, ok_lt, ok_le, ok_gt, ok_ge, ok_neg, ok_eqI, ok_neI, ok_isN, ok_notN, ok_ixT, ok_ixF, ok_slT, ok_slF, ok_backT, ok_lenT, ok_lenF, ok_abs, ok_max2, ok_min2, ok_intB, ok_divmod, ok_itT, ok_itF, ok_isiII, ok_isiIB, ok_isiIT, ok_isiTT, ok_isiTI, ok_isiSS, getAt0, getAt1, getAt2, wipeM, List.map_cons, List.map_nil, List.cons_append, List.nil_append, List.append_nil, List.length_cons, List.length_nil, List.length_map, Nat.reduceAdd, Nat.reduceSub, List.replicate_zero, List.replicate_succ, List.getElem?_cons_zero, List.getElem?_cons_succ, List.set_cons_zero, List.set_cons_succ, Option.some.injEq, exists_eq_left', MV.bl.injEq, MV.int.injEq, true_and, and_true, Int.reduceLT, Int.reduceLE, Nat.reduceLT, Nat.reduceLeDiff, decide_true, decide_false, Bool.not_true, Bool.not_false, Bool.false_eq_true, if_true, if_false, reduceIte, ok_itL ha]
  refine for_ok (ms.map .int) (fun i ρ h' => h' = h ∧ ∃ (x : Int) (y : Option MV), ρ = [some (.ref a), some (.int x), y]) (by rw [List.length_map]; exact Nat.le_trans hl (by decide)) ⟨rfl, x, none, rfl⟩ (fun i ρ h' q => by rw [q.1]; exact itLst_at ha) (fun i v hv ρ h' q => ?_) (fun ρ h' q => ?_)
  · obtain ⟨rfl, x, y, rfl⟩ := q
    rw [List.getElem?_map] at hv
    cases hz : ms[i]? with
    | none => rw [hz] at hv; cases hv
    | some m =>
      rw [hz] at hv
      cases hv
      simp only [ok_ok, ok_bind, ok_ite, ok_mVar, ok_mC, ok_mOp, ok_mUn, ok_mNil, ok_mCons, ok_mTup, ok_mLst, ok_mCB, ok_mTest, ok_mAnd, ok_mOr, ok_mNot, ok_mIf, ok_mTru, ok_truM_bl, ok_mAndV, ok_mOrV, ok_mNotV, ok_mChain, ok_mNoPart, ok_mPart, ok_mSlice, ok_mBack, ok_mCall, ok_mCallK, ok_mMeth, ok_mIter, ok_mRng1, ok_mRng2, ok_mZip, ok_rng1, ok_rng2, ok_gmName, ok_gmNil, ok_gmCons, ok_gmTup, ok_gmSub, sn_nx, sn_rt, sn_ite, sn_sSeq, sn_sNext, sn_sBreak, sn_sCont, sn_sRetN, sn_sExpr, sn_sRet, sn_sIf, sn_sAsg, sn_sPar, sn_sAug, ok_runD, sn_sFor, ok_mComp, ok_mYes, ok_add, ok_addT, ok_sub, ok_mul, ok_div, ok_mod, ok_pow, ok_lt, ok_le, ok_gt, ok_ge, ok_neg, ok_eqI, ok_neI, ok_isN, ok_notN, ok_ixT, ok_ixF, ok_slT, ok_slF, ok_backT, ok_lenT, ok_lenF, ok_abs, ok_max2, ok_min2, ok_intB, ok_divmod, ok_itT, ok_itF, ok_isiII, ok_isiIB, ok_isiIT, ok_isiTT, ok_isiTI, ok_isiSS, getAt0, getAt1, getAt2, wipeM, List.map_cons, List.map_nil, List.cons_append, List.nil_append, List.append_nil, List.length_cons, List.length_nil, List.length_map, Nat.reduceAdd, Nat.reduceSub, List.replicate_zero, List.replicate_succ, List.getElem?_cons_zero, List.getElem?_cons_succ, List.set_cons_zero, List.set_cons_succ, Option.some.injEq, exists_eq_left', MV.bl.injEq, MV.int.injEq, true_and, and_true, Int.reduceLT, Int.reduceLE, Nat.reduceLT, Nat.reduceLeDiff, decide_true, decide_false, Bool.not_true, Bool.not_false, Bool.false_eq_true, if_true, if_false, reduceIte]
      exact ⟨hm m (List.mem_of_getElem? hz), _, _, rfl⟩
  · obtain ⟨rfl, x, y, rfl⟩ := q
    simp only [ok_ok, ok_bind, ok_ite, ok_mVar, ok_mC, ok_mOp, ok_mUn, ok_mNil, ok_mCons, ok_mTup, ok_mLst, ok_mCB, ok_mTest, ok_mAnd, ok_mOr, ok_mNot, ok_mIf, ok_mTru, ok_truM_bl, ok_mAndV, ok_mOrV, ok_mNotV, ok_mChain, ok_mNoPart, ok_mPart, ok_mSlice, ok_mBack, ok_mCall, ok_mCallK, ok_mMeth, ok_mIter, ok_mRng1, ok_mRng2, ok_mZip, ok_rng1, ok_rng2, ok_gmName, ok_gmNil, ok_gmCons, ok_gmTup, ok_gmSub, sn_nx, sn_rt, sn_ite, sn_sSeq, sn_sNext, sn_sBreak, sn_sCont, sn_sRetN, sn_sExpr, sn_sRet, sn_sIf, sn_sAsg, sn_sPar, sn_sAug, ok_runD, sn_sFor, ok_mComp, ok_mYes, ok_add, ok_addT, ok_sub, ok_mul, ok_div, ok_mod, ok_pow, ok_lt, ok_le, ok_gt, ok_ge, ok_neg, ok_eqI, ok_neI, ok_isN, ok_notN, ok_ixT, ok_ixF, ok_slT, ok_slF, ok_backT, ok_lenT, ok_lenF, ok_abs, ok_max2, ok_min2, ok_intB, ok_divmod, ok_itT, ok_itF, ok_isiII, ok_isiIB, ok_isiIT, ok_isiTT, ok_isiTI, ok_isiSS, getAt0, getAt1, getAt2, wipeM, List.map_cons, List.map_nil, List.cons_append, List.nil_append, List.append_nil, List.length_cons, List.length_nil, List.length_map, Nat.reduceAdd, Nat.reduceSub, List.replicate_zero, List.replicate_succ, List.getElem?_cons_zero, List.getElem?_cons_succ, List.set_cons_zero, List.set_cons_succ, Option.some.injEq, exists_eq_left', MV.bl.injEq, MV.int.injEq, true_and, and_true, Int.reduceLT, Int.reduceLE, Nat.reduceLT, Nat.reduceLeDiff, decide_true, decide_false, Bool.not_true, Bool.not_false, Bool.false_eq_true, if_true, if_false, reduceIte]
    exact ⟨x, rfl⟩
/-- the remainder of a reel -/
def left (cs : List Int) (p : Int) : Int := p - topOf 0 (cs.filter fun c => decide (c ≤ p))
theorem filter_ints (cs : List Int) (p : Int → Bool) (q : MV → Bool) (e : ∀ c, q (.int c) = p c) : (cs.map MV.int).filter q = (cs.filter p).map .int := by
  rw [List.filter_map]
  congr 1
  exact List.filter_congr fun c _ => e c
theorem left_ok {cs : List Int} {x : Int} {h : Hm} (hl : cs.length ≤ 1000) : Ok (m__law_left [.tup (cs.map .int), .int x] h) fun v h' => v = .int (left cs x) ∧ Gr h h' := by
  unfold m__law_left b__law_left
  simp only [ok_ok, ok_bind, ok_ite, ok_mVar, ok_mC, ok_mOp, ok_mUn, ok_mNil, ok_mCons, ok_mTup, ok_mLst, ok_mCB, ok_mTest, ok_mAnd, ok_mOr, ok_mNot, ok_mIf, ok_mTru, ok_truM_bl, ok_mAndV, ok_mOrV, ok_mNotV, ok_mChain, ok_mNoPart, ok_mPart, ok_mSlice, ok_mBack, ok_mCall, ok_mCallK, ok_mMeth, ok_mIter, ok_mRng1, ok_mRng2, ok_mZip, ok_rng1, ok_rng2, ok_gmName, ok_gmNil, ok_gmCons, ok_gmTup, ok_gmSub, sn_nx, sn_rt, sn_ite, sn_sSeq, sn_sNext, sn_sBreak, sn_sCont, sn_sRetN, sn_sExpr, sn_sRet, sn_sIf, sn_sAsg, sn_sPar, sn_sAug, ok_runD, sn_sFor, ok_mComp, ok_mYes, ok_add, ok_addT, ok_sub, ok_mul, ok_div, ok_mod, ok_pow, ok_lt, ok_le, ok_gt, ok_ge, ok_neg, ok_eqI, ok_neI, ok_isN, ok_notN, ok_ixT, ok_ixF, ok_slT, ok_slF, ok_backT, ok_lenT, ok_lenF, ok_abs, ok_max2, ok_min2, ok_intB, ok_divmod, ok_itT, ok_itF, ok_isiII, ok_isiIB, ok_isiIT, ok_isiTT, ok_isiTI, ok_isiSS, getAt0, getAt1, getAt2, wipeM, List.map_cons, List.map_nil, List.cons_append, List.nil_append, List.append_nil, List.length_cons, List.length_nil, List.length_map, Nat.reduceAdd, Nat.reduceSub, List.replicate_zero, List.replicate_succ, List.getElem?_cons_zero, List.getElem?_cons_succ, List.set_cons_zero, List.set_cons_succ, Option.some.injEq, exists_eq_left', MV.bl.injEq, MV.int.injEq, true_and, and_true, Int.reduceLT, Int.reduceLE, Nat.reduceLT, Nat.reduceLeDiff, decide_true, decide_false, Bool.not_true, Bool.not_false, Bool.false_eq_true, if_true, if_false, reduceIte]
  refine comp_pure (cs.map .int) (fun v => match v with | .int c => decide (c ≤ x) | _ => false) id (by rw [List.length_map]; omega) (fun i => rfl) (fun v hv => ?_) ?_
  · obtain ⟨c, _, rfl⟩ := List.mem_map.mp hv
    simp only [ok_ok, ok_bind, ok_ite, ok_mVar, ok_mC, ok_mOp, ok_mUn, ok_mNil, ok_mCons, ok_mTup, ok_mLst, ok_mCB, ok_mTest, ok_mAnd, ok_mOr, ok_mNot, ok_mIf, ok_mTru, ok_truM_bl, ok_mAndV, ok_mOrV, ok_mNotV, ok_mChain, ok_mNoPart, ok_mPart, ok_mSlice, ok_mBack, ok_mCall, ok_mCallK, ok_mMeth, ok_mIter, ok_mRng1, ok_mRng2, ok_mZip, ok_rng1, ok_rng2, ok_gmName, ok_gmNil, ok_gmCons, ok_gmTup, ok_gmSub, sn_nx, sn_rt, sn_ite, sn_sSeq, sn_sNext, sn_sBreak, sn_sCont, sn_sRetN, sn_sExpr, sn_sRet, sn_sIf, sn_sAsg, sn_sPar, sn_sAug, ok_runD, sn_sFor, ok_mComp, ok_mYes, ok_add, ok_addT, ok_sub, ok_mul, ok_div, ok_mod, ok_pow, ok_lt, ok_le, ok_gt, ok_ge, ok_neg, ok_eqI, ok_neI, ok_isN, ok_notN, ok_ixT, ok_ixF, ok_slT, ok_slF, ok_backT, ok_lenT, ok_lenF, ok_abs, ok_max2, ok_min2, ok_intB, ok_divmod, ok_itT, ok_itF, ok_isiII, ok_isiIB, ok_isiIT, ok_isiTT, ok_isiTI, ok_isiSS, getAt0, getAt1, getAt2, wipeM, List.map_cons, List.map_nil, List.cons_append, List.nil_append, List.append_nil, List.length_cons, List.length_nil, List.length_map, Nat.reduceAdd, Nat.reduceSub, List.replicate_zero, List.replicate_succ, List.getElem?_cons_zero, List.getElem?_cons_succ, List.set_cons_zero, List.set_cons_succ, Option.some.injEq, exists_eq_left', MV.bl.injEq, MV.int.injEq, true_and, and_true, Int.reduceLT, Int.reduceLE, Nat.reduceLT, Nat.reduceLeDiff, decide_true, decide_false, Bool.not_true, Bool.not_false, Bool.false_eq_true, if_true, if_false, reduceIte]
    exact fun _ => rfl
  · rw [filter_ints cs (fun c => decide (c ≤ x)) _ fun _ => rfl, List.map_id]
    have h1 : (h ++ [MO.lst [.int 0]] ++ [MO.lst ((cs.filter fun c => decide (c ≤ x)).map .int)])[h.length]? = some (.lst (([0] : List Int).map .int)) := (Gr.one _ _).at new_at
    have h2 : (h ++ [MO.lst [.int 0]] ++ [MO.lst ((cs.filter fun c => decide (c ≤ x)).map .int)])[(h ++ [MO.lst [MV.int 0]]).length]? = some (.lst ((cs.filter fun c => decide (c ≤ x)).map .int)) := new_at
    rw [ok_addL h1 h2]
    refine ⟨?_, ?_⟩
    · have := List.length_filter_le (fun c => decide (c ≤ x)) cs
      rw [List.length_map, List.length_map]
      simp only [List.length_cons, List.length_nil]
      omega
    · rw [← List.map_append]
      unfold maxLM
      rw [ok_ints new_at]
      simp only [ok_ok, ok_bind, ok_ite, ok_mVar, ok_mC, ok_mOp, ok_mUn, ok_mNil, ok_mCons, ok_mTup, ok_mLst, ok_mCB, ok_mTest, ok_mAnd, ok_mOr, ok_mNot, ok_mIf, ok_mTru, ok_truM_bl, ok_mAndV, ok_mOrV, ok_mNotV, ok_mChain, ok_mNoPart, ok_mPart, ok_mSlice, ok_mBack, ok_mCall, ok_mCallK, ok_mMeth, ok_mIter, ok_mRng1, ok_mRng2, ok_mZip, ok_rng1, ok_rng2, ok_gmName, ok_gmNil, ok_gmCons, ok_gmTup, ok_gmSub, sn_nx, sn_rt, sn_ite, sn_sSeq, sn_sNext, sn_sBreak, sn_sCont, sn_sRetN, sn_sExpr, sn_sRet, sn_sIf, sn_sAsg, sn_sPar, sn_sAug, ok_runD, sn_sFor, ok_mComp, ok_mYes, ok_add, ok_addT, ok_sub, ok_mul, ok_div, ok_mod, ok_pow, ok_lt, ok_le, ok_gt, ok_ge, ok_neg, ok_eqI, ok_neI, ok_isN, ok_notN, ok_ixT, ok_ixF, ok_slT, ok_slF, ok_backT, ok_lenT, ok_lenF, ok_abs, ok_max2, ok_min2, ok_intB, ok_divmod, ok_itT, ok_itF, ok_isiII, ok_isiIB, ok_isiIT, ok_isiTT, ok_isiTI, ok_isiSS, getAt0, getAt1, getAt2, wipeM, List.map_cons, List.map_nil, List.cons_append, List.nil_append, List.append_nil, List.length_cons, List.length_nil, List.length_map, Nat.reduceAdd, Nat.reduceSub, List.replicate_zero, List.replicate_succ, List.getElem?_cons_zero, List.getElem?_cons_succ, List.set_cons_zero, List.set_cons_succ, Option.some.injEq, exists_eq_left', MV.bl.injEq, MV.int.injEq, true_and, and_true, Int.reduceLT, Int.reduceLE, Nat.reduceLT, Nat.reduceLeDiff, decide_true, decide_false, Bool.not_true, Bool.not_false, Bool.false_eq_true, if_true, if_false, reduceIte]
      exact ⟨rfl, ((Gr.one _ _).trans (Gr.one _ _)).trans (Gr.one _ _)⟩
/-- cuts in order -/
structure Cuts (cs : List Int) : Prop where
  lt : cs.Pairwise (· < ·)
  pos : ∀ c ∈ cs, 1 ≤ c
  len : cs.length ≤ 1000
theorem pw_get {cs : List Int} (h : cs.Pairwise (· < ·)) {i j : Nat} {x y : Int} (hi : cs[i]? = some x) (hj : cs[j]? = some y) (k : i < j) : x < y := by
  obtain ⟨h1, e1⟩ := List.getElem?_eq_some_iff.mp hi
  obtain ⟨h2, e2⟩ := List.getElem?_eq_some_iff.mp hj
  rw [← e1, ← e2]
  exact List.pairwise_iff_getElem.mp h i j h1 h2 k
theorem left_none {cs : List Int} {p : Int} (h : ∀ c ∈ cs, p < c) : left cs p = p := by
  unfold left
  have e : cs.filter (fun c => decide (c ≤ p)) = [] := by
    rw [List.filter_eq_nil_iff]
    intro c hc
    have := h c hc
    simp only [decide_eq_true_eq]
    omega
  rw [e]
  show p - 0 = p
  omega
theorem left_at {cs : List Int} (C : Cuts cs) {p x : Int} {k : Nat} (hx : cs[k]? = some x) (hp : x ≤ p) (hi : ∀ i c, cs[i]? = some c → k < i → p < c) : left cs p = p - x := by
  unfold left
  obtain ⟨h1, h2, h3⟩ := topOf_ge (cs.filter fun c => decide (c ≤ p)) 0
  have mx : x ∈ cs.filter (fun c => decide (c ≤ p)) := by
    rw [List.mem_filter]
    exact ⟨List.mem_of_getElem? hx, by simpa using hp⟩
  have px := C.pos x (List.mem_of_getElem? hx)
  have a1 := h2 x mx
  have a2 : topOf 0 (cs.filter fun c => decide (c ≤ p)) ≤ x := by
    rcases h3 with h3 | h3
    · omega
    · rw [List.mem_filter] at h3
      obtain ⟨m1, m2⟩ := h3
      simp only [decide_eq_true_eq] at m2
      obtain ⟨i, hi'⟩ := List.getElem?_of_mem m1
      by_cases c1 : i = k
      · subst c1
        rw [hx] at hi'
        have := Option.some.inj hi'
        omega
      · by_cases c2 : i < k
        · have := pw_get C.lt hi' hx c2
          omega
        · have := hi i _ hi' (by omega)
          omega
  omega
theorem getAt_get {α : Type} {xs : List α} {i : Int} {k : Nat} {x : α} (e : i = (k : Int)) (h : xs[k]? = some x) : getAt xs i = some x := by
  rw [getAt_at (by omega), show i.toNat = k by omega]
  exact h
/-- the search ends at the remainder -/
theorem reel_ok {cs : List Int} (C : Cuts cs) {x : Int} {h : Hm} {Q : MV → Hm → Prop} (q : Q (.int (left cs x)) h) : Ok (m_reel_rest [.tup (cs.map .int), .int x] h) Q := by
  unfold m_reel_rest b_reel_rest
  simp only [ok_ok, ok_bind, ok_ite, ok_mVar, ok_mC, ok_mOp, ok_mUn, ok_mNil, ok_mCons, ok_mTup, ok_mLst, ok_mCB, ok_mTest, ok_mAnd, ok_mOr, ok_mNot, ok_mIf, ok_mTru, ok_truM_bl, ok_mAndV, ok_mOrV, ok_mNotV, ok_mChain, ok_mNoPart, ok_mPart, ok_mSlice, ok_mBack, ok_mCall, ok_mCallK, ok_mMeth, ok_mIter, ok_mRng1, ok_mRng2, ok_mZip, ok_rng1, ok_rng2, ok_gmName, ok_gmNil, ok_gmCons, ok_gmTup, ok_gmSub, sn_nx, sn_rt, sn_ite, sn_sSeq, sn_sNext, sn_sBreak, sn_sCont, sn_sRetN, sn_sExpr, sn_sRet, sn_sIf, sn_sAsg, sn_sPar, sn_sAug, ok_runD, sn_sFor, ok_mComp, ok_mYes, ok_add, ok_addT, ok_sub, ok_mul, ok_div, ok_mod, ok_pow, ok_lt, ok_le, ok_gt, ok_ge, ok_neg, ok_eqI, ok_neI, ok_isN, ok_notN, ok_ixT, ok_ixF, ok_slT, ok_slF, ok_backT, ok_lenT, ok_lenF, ok_abs, ok_max2, ok_min2, ok_intB, ok_divmod, ok_itT, ok_itF, ok_isiII, ok_isiIB, ok_isiIT, ok_isiTT, ok_isiTI, ok_isiSS, getAt0, getAt1, getAt2, wipeM, List.map_cons, List.map_nil, List.cons_append, List.nil_append, List.append_nil, List.length_cons, List.length_nil, List.length_map, Nat.reduceAdd, Nat.reduceSub, List.replicate_zero, List.replicate_succ, List.getElem?_cons_zero, List.getElem?_cons_succ, List.set_cons_zero, List.set_cons_succ, Option.some.injEq, exists_eq_left', MV.bl.injEq, MV.int.injEq, true_and, and_true, Int.reduceLT, Int.reduceLE, Nat.reduceLT, Nat.reduceLeDiff, decide_true, decide_false, Bool.not_true, Bool.not_false, Bool.false_eq_true, if_true, if_false, reduceIte]
  refine while_ok cs.length (fun k ρ h' => h' = h ∧ ∃ (lo hi : Nat) (y : Option MV), ρ = [some (.tup (cs.map .int)), some (.int x), some (.int lo), some (.int hi), y] ∧ k = hi - lo ∧ lo ≤ hi ∧ hi ≤ cs.length ∧
    (∀ i c, cs[i]? = some c → i < lo → c ≤ x) ∧ ∀ i c, cs[i]? = some c → hi ≤ i → x < c) (Nat.le_trans C.len (by decide)) ⟨rfl, 0, cs.length, none, rfl, rfl, Nat.zero_le _, Nat.le_refl _, fun _ _ _ z => absurd z (Nat.not_lt_zero _), fun i c e z => ?_⟩ (fun k ρ h' I => ?_)
  · have := (List.getElem?_eq_some_iff.mp e).1
    omega
  obtain ⟨rfl, lo, hi, y, rfl, hk, h1, h2, h3, h4⟩ := I
  simp only [ok_ok, ok_bind, ok_ite, ok_mVar, ok_mC, ok_mOp, ok_mUn, ok_mNil, ok_mCons, ok_mTup, ok_mLst, ok_mCB, ok_mTest, ok_mAnd, ok_mOr, ok_mNot, ok_mIf, ok_mTru, ok_truM_bl, ok_mAndV, ok_mOrV, ok_mNotV, ok_mChain, ok_mNoPart, ok_mPart, ok_mSlice, ok_mBack, ok_mCall, ok_mCallK, ok_mMeth, ok_mIter, ok_mRng1, ok_mRng2, ok_mZip, ok_rng1, ok_rng2, ok_gmName, ok_gmNil, ok_gmCons, ok_gmTup, ok_gmSub, sn_nx, sn_rt, sn_ite, sn_sSeq, sn_sNext, sn_sBreak, sn_sCont, sn_sRetN, sn_sExpr, sn_sRet, sn_sIf, sn_sAsg, sn_sPar, sn_sAug, ok_runD, sn_sFor, ok_mComp, ok_mYes, ok_add, ok_addT, ok_sub, ok_mul, ok_div, ok_mod, ok_pow, ok_lt, ok_le, ok_gt, ok_ge, ok_neg, ok_eqI, ok_neI, ok_isN, ok_notN, ok_ixT, ok_ixF, ok_slT, ok_slF, ok_backT, ok_lenT, ok_lenF, ok_abs, ok_max2, ok_min2, ok_intB, ok_divmod, ok_itT, ok_itF, ok_isiII, ok_isiIB, ok_isiIT, ok_isiTT, ok_isiTI, ok_isiSS, getAt0, getAt1, getAt2, wipeM, List.map_cons, List.map_nil, List.cons_append, List.nil_append, List.append_nil, List.length_cons, List.length_nil, List.length_map, Nat.reduceAdd, Nat.reduceSub, List.replicate_zero, List.replicate_succ, List.getElem?_cons_zero, List.getElem?_cons_succ, List.set_cons_zero, List.set_cons_succ, Option.some.injEq, exists_eq_left', MV.bl.injEq, MV.int.injEq, true_and, and_true, Int.reduceLT, Int.reduceLE, Nat.reduceLT, Nat.reduceLeDiff, decide_true, decide_false, Bool.not_true, Bool.not_false, Bool.false_eq_true, if_true, if_false, reduceIte]
  by_cases c : (lo : Int) < hi
  · simp only [c, decide_true, if_true]
    have e2 : ((lo : Int) + hi) / 2 = (((lo + hi) / 2 : Nat) : Int) := by omega
    rw [e2]
    generalize hm : (lo + hi) / 2 = m
    have hml : m < cs.length := by omega
    have hmg : cs[m]? = some cs[m] := by simp [hml]
    have hmg' : (cs.map MV.int)[m]? = some (.int cs[m]) := by rw [List.getElem?_map, hmg]; rfl
    simp only [ok_ok, ok_bind, ok_ite, ok_mVar, ok_mC, ok_mOp, ok_mUn, ok_mNil, ok_mCons, ok_mTup, ok_mLst, ok_mCB, ok_mTest, ok_mAnd, ok_mOr, ok_mNot, ok_mIf, ok_mTru, ok_truM_bl, ok_mAndV, ok_mOrV, ok_mNotV, ok_mChain, ok_mNoPart, ok_mPart, ok_mSlice, ok_mBack, ok_mCall, ok_mCallK, ok_mMeth, ok_mIter, ok_mRng1, ok_mRng2, ok_mZip, ok_rng1, ok_rng2, ok_gmName, ok_gmNil, ok_gmCons, ok_gmTup, ok_gmSub, sn_nx, sn_rt, sn_ite, sn_sSeq, sn_sNext, sn_sBreak, sn_sCont, sn_sRetN, sn_sExpr, sn_sRet, sn_sIf, sn_sAsg, sn_sPar, sn_sAug, ok_runD, sn_sFor, ok_mComp, ok_mYes, ok_add, ok_addT, ok_sub, ok_mul, ok_div, ok_mod, ok_pow, ok_lt, ok_le, ok_gt, ok_ge, ok_neg, ok_eqI, ok_neI, ok_isN, ok_notN, ok_ixT, ok_ixF, ok_slT, ok_slF, ok_backT, ok_lenT, ok_lenF, ok_abs, ok_max2, ok_min2, ok_intB, ok_divmod, ok_itT, ok_itF, ok_isiII, ok_isiIB, ok_isiIT, ok_isiTT, ok_isiTI, ok_isiSS, getAt0, getAt1, getAt2, wipeM, List.map_cons, List.map_nil, List.cons_append, List.nil_append, List.append_nil, List.length_cons, List.length_nil, List.length_map, Nat.reduceAdd, Nat.reduceSub, List.replicate_zero, List.replicate_succ, List.getElem?_cons_zero, List.getElem?_cons_succ, List.set_cons_zero, List.set_cons_succ, Option.some.injEq, exists_eq_left', MV.bl.injEq, MV.int.injEq, true_and, and_true, Int.reduceLT, Int.reduceLE, Nat.reduceLT, Nat.reduceLeDiff, decide_true, decide_false, Bool.not_true, Bool.not_false, Bool.false_eq_true, if_true, if_false, reduceIte, getAt_get rfl hmg']
    refine ⟨by omega, by decide, ?_⟩
    by_cases d : cs[m] ≤ x
    · simp only [d, decide_true, if_true]
      refine ⟨hi - (m + 1), by omega, m + 1, hi, _, rfl, rfl, by omega, h2, fun i c e z => ?_, h4⟩
      by_cases z2 : i = m
      · subst z2
        rw [hmg] at e
        have := Option.some.inj e
        omega
      · have := pw_get C.lt e hmg (by omega)
        omega
    · simp only [d, decide_false, Bool.false_eq_true, if_false]
      refine ⟨m - lo, by omega, lo, m, _, rfl, rfl, by omega, by omega, h3, fun i c e z => ?_⟩
      by_cases z2 : i = m
      · subst z2
        rw [hmg] at e
        have := Option.some.inj e
        omega
      · have := pw_get C.lt hmg e (by omega)
        omega
  · have c' : lo = hi := by omega
    subst c'
    simp only [c, decide_false, Bool.false_eq_true, if_false]
    by_cases z : lo = 0
    · subst z
      simp only [Int.natCast_zero, decide_true, if_true]
      rw [left_none fun c hc => by
        obtain ⟨i, hi⟩ := List.getElem?_of_mem hc
        exact h4 i c hi (Nat.zero_le _)] at q
      exact q
    · have z' : ¬ (lo : Int) = 0 := by omega
      simp only [z', decide_false, Bool.false_eq_true, if_false]
      have hml : lo - 1 < cs.length := by omega
      have hmg : cs[lo - 1]? = some cs[lo - 1] := by simp [hml]
      have hmg' : (cs.map MV.int)[lo - 1]? = some (.int cs[lo - 1]) := by rw [List.getElem?_map, hmg]; rfl
      simp only [ok_ok, ok_bind, ok_ite, ok_mVar, ok_mC, ok_mOp, ok_mUn, ok_mNil, ok_mCons, ok_mTup, ok_mLst, ok_mCB, ok_mTest, ok_mAnd, ok_mOr, ok_mNot, ok_mIf, ok_mTru, ok_truM_bl, ok_mAndV, ok_mOrV, ok_mNotV, ok_mChain, ok_mNoPart, ok_mPart, ok_mSlice, ok_mBack, ok_mCall, ok_mCallK, ok_mMeth, ok_mIter, ok_mRng1, ok_mRng2, ok_mZip, ok_rng1, ok_rng2, ok_gmName, ok_gmNil, ok_gmCons, ok_gmTup, ok_gmSub, sn_nx, sn_rt, sn_ite, sn_sSeq, sn_sNext, sn_sBreak, sn_sCont, sn_sRetN, sn_sExpr, sn_sRet, sn_sIf, sn_sAsg, sn_sPar, sn_sAug, ok_runD, sn_sFor, ok_mComp, ok_mYes, ok_add, ok_addT, ok_sub, ok_mul, ok_div, ok_mod, ok_pow, ok_lt, ok_le, ok_gt, ok_ge, ok_neg, ok_eqI, ok_neI, ok_isN, ok_notN, ok_ixT, ok_ixF, ok_slT, ok_slF, ok_backT, ok_lenT, ok_lenF, ok_abs, ok_max2, ok_min2, ok_intB, ok_divmod, ok_itT, ok_itF, ok_isiII, ok_isiIB, ok_isiIT, ok_isiTT, ok_isiTI, ok_isiSS, getAt0, getAt1, getAt2, wipeM, List.map_cons, List.map_nil, List.cons_append, List.nil_append, List.append_nil, List.length_cons, List.length_nil, List.length_map, Nat.reduceAdd, Nat.reduceSub, List.replicate_zero, List.replicate_succ, List.getElem?_cons_zero, List.getElem?_cons_succ, List.set_cons_zero, List.set_cons_succ, Option.some.injEq, exists_eq_left', MV.bl.injEq, MV.int.injEq, true_and, and_true, Int.reduceLT, Int.reduceLE, Nat.reduceLT, Nat.reduceLeDiff, decide_true, decide_false, Bool.not_true, Bool.not_false, Bool.false_eq_true, if_true, if_false, reduceIte, getAt_get (show (lo : Int) - 1 = ((lo - 1 : Nat) : Int) by omega) hmg']
      rw [left_at C hmg (h3 _ _ hmg (by omega)) fun i c e k => h4 i c e (by omega)] at q
      exact q
end K74

namespace K74
open Cutp
open PySem (Str)
theorem map_int_get {cs : List Int} {i : Nat} {v : MV} (h : (cs.map MV.int)[i]? = some v) : ∃ c, cs[i]? = some c ∧ v = .int c := by
  rw [List.getElem?_map] at h
  cases e : cs[i]? with
  | none => rw [e] at h; cases h
  | some c => rw [e] at h; exact ⟨c, rfl, (Option.some.inj h).symm⟩
theorem cut_reel_ok {cs : List Int} (C : Cuts cs) {L : Int} {h : Hm} {Q : MV → Hm → Prop} (hL : 1 ≤ L ∧ L ≤ 1000000000000000) (hc : ∀ c ∈ cs, c ≤ L - 1) (hl : cs.length ≤ 200) (q : Q (.bl true) h) : Ok (m_is_cut_reel [.int L, .tup (cs.map .int)] h) Q := by
  unfold m_is_cut_reel b_is_cut_reel
  simp only [ok_ok, ok_bind, ok_ite, ok_mVar, ok_mC, ok_mOp, ok_mUn, ok_mNil, ok_mCons, ok_mTup, ok_mLst, ok_mCB, ok_mTest, ok_mAnd, ok_mOr, ok_mNot, ok_mIf, ok_mTru, ok_truM_bl, ok_mAndV, ok_mOrV, ok_mNotV, ok_mChain, ok_mNoPart, ok_mPart, ok_mSlice, ok_mBack, ok_mCall, ok_mCallK, ok_mMeth, ok_mIter, ok_mRng1, ok_mRng2, ok_mZip, ok_rng1, ok_rng2, ok_gmName, ok_gmNil, ok_gmCons, ok_gmTup, ok_gmSub, sn_nx, sn_rt, sn_ite, sn_sSeq, sn_sNext, sn_sBreak, sn_sCont, sn_sRetN, sn_sExpr, sn_sRet, sn_sIf, sn_sAsg, sn_sPar, sn_sAug, ok_runD, sn_sFor, ok_mComp, ok_mYes, ok_add, ok_addT, ok_sub, ok_mul, ok_div, ok_mod, ok_pow, ok_lt, ok_le, ok_gt, ok_ge, ok_neg, ok_eqI, ok_neI, ok_isN, ok_notN, ok_ixT, ok_ixF, ok_slT, ok_slF, ok_backT, ok_lenT, ok_lenF, ok_abs, ok_max2, ok_min2, ok_intB, ok_divmod, ok_itT, ok_itF, ok_isiII, ok_isiIB, ok_isiIT, ok_isiTT, ok_isiTI, ok_isiSS, getAt0, getAt1, getAt2, wipeM, List.map_cons, List.map_nil, List.cons_append, List.nil_append, List.append_nil, List.length_cons, List.length_nil, List.length_map, Nat.reduceAdd, Nat.reduceSub, List.replicate_zero, List.replicate_succ, List.getElem?_cons_zero, List.getElem?_cons_succ, List.set_cons_zero, List.set_cons_succ, Option.some.injEq, exists_eq_left', MV.bl.injEq, MV.int.injEq, true_and, and_true, Int.reduceLT, Int.reduceLE, Nat.reduceLT, Nat.reduceLeDiff, decide_true, decide_false, Bool.not_true, Bool.not_false, Bool.false_eq_true, if_true, if_false, reduceIte, between_ok]
  rw [decide_eq_true hL, decide_eq_false (show ¬ (200 : Int) < (cs.length : Int) by omega)]
  simp only [ok_ok, ok_bind, ok_ite, ok_mVar, ok_mC, ok_mOp, ok_mUn, ok_mNil, ok_mCons, ok_mTup, ok_mLst, ok_mCB, ok_mTest, ok_mAnd, ok_mOr, ok_mNot, ok_mIf, ok_mTru, ok_truM_bl, ok_mAndV, ok_mOrV, ok_mNotV, ok_mChain, ok_mNoPart, ok_mPart, ok_mSlice, ok_mBack, ok_mCall, ok_mCallK, ok_mMeth, ok_mIter, ok_mRng1, ok_mRng2, ok_mZip, ok_rng1, ok_rng2, ok_gmName, ok_gmNil, ok_gmCons, ok_gmTup, ok_gmSub, sn_nx, sn_rt, sn_ite, sn_sSeq, sn_sNext, sn_sBreak, sn_sCont, sn_sRetN, sn_sExpr, sn_sRet, sn_sIf, sn_sAsg, sn_sPar, sn_sAug, ok_runD, sn_sFor, ok_mComp, ok_mYes, ok_add, ok_addT, ok_sub, ok_mul, ok_div, ok_mod, ok_pow, ok_lt, ok_le, ok_gt, ok_ge, ok_neg, ok_eqI, ok_neI, ok_isN, ok_notN, ok_ixT, ok_ixF, ok_slT, ok_slF, ok_backT, ok_lenT, ok_lenF, ok_abs, ok_max2, ok_min2, ok_intB, ok_divmod, ok_itT, ok_itF, ok_isiII, ok_isiIB, ok_isiIT, ok_isiTT, ok_isiTI, ok_isiSS, getAt0, getAt1, getAt2, wipeM, List.map_cons, List.map_nil, List.cons_append, List.nil_append, List.append_nil, List.length_cons, List.length_nil, List.length_map, Nat.reduceAdd, Nat.reduceSub, List.replicate_zero, List.replicate_succ, List.getElem?_cons_zero, List.getElem?_cons_succ, List.set_cons_zero, List.set_cons_succ, Option.some.injEq, exists_eq_left', MV.bl.injEq, MV.int.injEq, true_and, and_true, Int.reduceLT, Int.reduceLE, Nat.reduceLT, Nat.reduceLeDiff, decide_true, decide_false, Bool.not_true, Bool.not_false, Bool.false_eq_true, if_true, if_false, reduceIte]
  refine for_ok (cs.map .int) (fun i ρ h' => h' = h ∧ ∃ (le : Int) (y : Option MV), ρ = [some (.int L), some (.tup (cs.map .int)), some (.int le), y] ∧ ∀ c, cs[i]? = some c → le ≤ c) (by rw [List.length_map]; exact Nat.le_trans hl (by decide)) ⟨rfl, 1, none, rfl, fun c e => C.pos c (List.mem_of_getElem? e)⟩ (fun i ρ h' q => rfl) (fun i v hv ρ h' I => ?_) (fun ρ h' I => ?_)
  · obtain ⟨rfl, le, y, rfl, hle⟩ := I
    obtain ⟨c, hc', rfl⟩ := map_int_get hv
    simp only [ok_ok, ok_bind, ok_ite, ok_mVar, ok_mC, ok_mOp, ok_mUn, ok_mNil, ok_mCons, ok_mTup, ok_mLst, ok_mCB, ok_mTest, ok_mAnd, ok_mOr, ok_mNot, ok_mIf, ok_mTru, ok_truM_bl, ok_mAndV, ok_mOrV, ok_mNotV, ok_mChain, ok_mNoPart, ok_mPart, ok_mSlice, ok_mBack, ok_mCall, ok_mCallK, ok_mMeth, ok_mIter, ok_mRng1, ok_mRng2, ok_mZip, ok_rng1, ok_rng2, ok_gmName, ok_gmNil, ok_gmCons, ok_gmTup, ok_gmSub, sn_nx, sn_rt, sn_ite, sn_sSeq, sn_sNext, sn_sBreak, sn_sCont, sn_sRetN, sn_sExpr, sn_sRet, sn_sIf, sn_sAsg, sn_sPar, sn_sAug, ok_runD, sn_sFor, ok_mComp, ok_mYes, ok_add, ok_addT, ok_sub, ok_mul, ok_div, ok_mod, ok_pow, ok_lt, ok_le, ok_gt, ok_ge, ok_neg, ok_eqI, ok_neI, ok_isN, ok_notN, ok_ixT, ok_ixF, ok_slT, ok_slF, ok_backT, ok_lenT, ok_lenF, ok_abs, ok_max2, ok_min2, ok_intB, ok_divmod, ok_itT, ok_itF, ok_isiII, ok_isiIB, ok_isiIT, ok_isiTT, ok_isiTI, ok_isiSS, getAt0, getAt1, getAt2, wipeM, List.map_cons, List.map_nil, List.cons_append, List.nil_append, List.append_nil, List.length_cons, List.length_nil, List.length_map, Nat.reduceAdd, Nat.reduceSub, List.replicate_zero, List.replicate_succ, List.getElem?_cons_zero, List.getElem?_cons_succ, List.set_cons_zero, List.set_cons_succ, Option.some.injEq, exists_eq_left', MV.bl.injEq, MV.int.injEq, true_and, and_true, Int.reduceLT, Int.reduceLE, Nat.reduceLT, Nat.reduceLeDiff, decide_true, decide_false, Bool.not_true, Bool.not_false, Bool.false_eq_true, if_true, if_false, reduceIte, between_ok]
    rw [decide_eq_true (show le ≤ c ∧ c ≤ L - 1 from ⟨hle c hc', hc c (List.mem_of_getElem? hc')⟩)]
    simp only [ok_ok, ok_bind, ok_ite, ok_mVar, ok_mC, ok_mOp, ok_mUn, ok_mNil, ok_mCons, ok_mTup, ok_mLst, ok_mCB, ok_mTest, ok_mAnd, ok_mOr, ok_mNot, ok_mIf, ok_mTru, ok_truM_bl, ok_mAndV, ok_mOrV, ok_mNotV, ok_mChain, ok_mNoPart, ok_mPart, ok_mSlice, ok_mBack, ok_mCall, ok_mCallK, ok_mMeth, ok_mIter, ok_mRng1, ok_mRng2, ok_mZip, ok_rng1, ok_rng2, ok_gmName, ok_gmNil, ok_gmCons, ok_gmTup, ok_gmSub, sn_nx, sn_rt, sn_ite, sn_sSeq, sn_sNext, sn_sBreak, sn_sCont, sn_sRetN, sn_sExpr, sn_sRet, sn_sIf, sn_sAsg, sn_sPar, sn_sAug, ok_runD, sn_sFor, ok_mComp, ok_mYes, ok_add, ok_addT, ok_sub, ok_mul, ok_div, ok_mod, ok_pow, ok_lt, ok_le, ok_gt, ok_ge, ok_neg, ok_eqI, ok_neI, ok_isN, ok_notN, ok_ixT, ok_ixF, ok_slT, ok_slF, ok_backT, ok_lenT, ok_lenF, ok_abs, ok_max2, ok_min2, ok_intB, ok_divmod, ok_itT, ok_itF, ok_isiII, ok_isiIB, ok_isiIT, ok_isiTT, ok_isiTI, ok_isiSS, getAt0, getAt1, getAt2, wipeM, List.map_cons, List.map_nil, List.cons_append, List.nil_append, List.append_nil, List.length_cons, List.length_nil, List.length_map, Nat.reduceAdd, Nat.reduceSub, List.replicate_zero, List.replicate_succ, List.getElem?_cons_zero, List.getElem?_cons_succ, List.set_cons_zero, List.set_cons_succ, Option.some.injEq, exists_eq_left', MV.bl.injEq, MV.int.injEq, true_and, and_true, Int.reduceLT, Int.reduceLE, Nat.reduceLT, Nat.reduceLeDiff, decide_true, decide_false, Bool.not_true, Bool.not_false, Bool.false_eq_true, if_true, if_false, reduceIte]
    refine ⟨_, _, rfl, fun c2 e => ?_⟩
    have := pw_get C.lt hc' e (Nat.lt_succ_self _)
    omega
  · obtain ⟨rfl, le, y, rfl, hle⟩ := I
    exact q
/-- a pair -/
def pr (x : Int × Int) : MV := .tup [.int x.1, .int x.2]
theorem map_pr_get {ps : List (Int × Int)} {i : Nat} {v : MV} (h : (ps.map pr)[i]? = some v) : ∃ a b, ps[i]? = some (a, b) ∧ v = .tup [.int a, .int b] := by
  rw [List.getElem?_map] at h
  cases e : ps[i]? with
  | none => rw [e] at h; cases h
  | some c => rw [e] at h; exact ⟨c.1, c.2, rfl, (Option.some.inj h).symm⟩
/-- the cuts below -/
def want (cs : List Int) (b : Int) : List Int := cs.filter fun c => decide (c < b)
/-- a pair is right for a cut -/
def Gd (cs : List Int) (size c : Int) (x : Int × Int) : Prop := x.1 = c ∧ (0 ≤ x.2 ∧ x.2 ≤ size - c - 1) ∧ left cs x.2 ≠ left cs (x.2 + c)
def Bh (cs : List Int) (size bnd : Int) (ps : List (Int × Int)) : Prop := ps.length = (want cs bnd).length ∧ ∀ (i : Nat) (c : Int) (x : Int × Int), (want cs bnd)[i]? = some c → ps[i]? = some x → Gd cs size c x
theorem itZip_at {a : Nat} {xs ys : List MV} {h : Hm} (ha : h[a]? = some (.lst xs)) (e : xs.length = ys.length) (i : Nat) (hi : i ≤ xs.length) : itZip (.ref a) (.tup ys) i h = some ((xs.zip ys).map fun z => MV.tup [z.1, z.2])[i]? := by
  unfold itZip seqOf lstOf
  simp only [ha]
  rw [List.getElem?_map]
  by_cases c : i < xs.length
  · have h1 : xs[i]? = some xs[i] := by simp [c]
    have h2 : ys[i]? = some (ys[i]'(by omega)) := by simp [show i < ys.length by omega]
    rw [h1, h2, (List.getElem?_zip_eq_some (z := (xs[i], ys[i]'(by omega)))).mpr ⟨h1, h2⟩]
    rfl
  · have h1 : xs[i]? = none := List.getElem?_eq_none (by omega)
    have h2 : (xs.zip ys)[i]? = none := List.getElem?_eq_none (by rw [List.length_zip]; omega)
    rw [h1, h2]
    simp only
    rw [if_pos (by omega)]
    rfl
theorem breaks_ok {cs : List Int} (C : Cuts cs) {size bnd : Int} {ps : List (Int × Int)} {h : Hm} (hp : ps.length ≤ 1000) : Ok (m_breaks_hold [.tup (cs.map .int), .int size, .int bnd, .tup (ps.map pr)] h) fun v h' => Gr h h' ∧ IsB (Bh cs size bnd ps) v := by
  unfold m_breaks_hold b_breaks_hold
  simp only [ok_ok, ok_bind, ok_ite, ok_mVar, ok_mC, ok_mOp, ok_mUn, ok_mNil, ok_mCons, ok_mTup, ok_mLst, ok_mCB, ok_mTest, ok_mAnd, ok_mOr, ok_mNot, ok_mIf, ok_mTru, ok_truM_bl, ok_mAndV, ok_mOrV, ok_mNotV, ok_mChain, ok_mNoPart, ok_mPart, ok_mSlice, ok_mBack, ok_mCall, ok_mCallK, ok_mMeth, ok_mIter, ok_mRng1, ok_mRng2, ok_mZip, ok_rng1, ok_rng2, ok_gmName, ok_gmNil, ok_gmCons, ok_gmTup, ok_gmSub, sn_nx, sn_rt, sn_ite, sn_sSeq, sn_sNext, sn_sBreak, sn_sCont, sn_sRetN, sn_sExpr, sn_sRet, sn_sIf, sn_sAsg, sn_sPar, sn_sAug, ok_runD, sn_sFor, ok_mComp, ok_mYes, ok_add, ok_addT, ok_sub, ok_mul, ok_div, ok_mod, ok_pow, ok_lt, ok_le, ok_gt, ok_ge, ok_neg, ok_eqI, ok_neI, ok_isN, ok_notN, ok_ixT, ok_ixF, ok_slT, ok_slF, ok_backT, ok_lenT, ok_lenF, ok_abs, ok_max2, ok_min2, ok_intB, ok_divmod, ok_itT, ok_itF, ok_isiII, ok_isiIB, ok_isiIT, ok_isiTT, ok_isiTI, ok_isiSS, getAt0, getAt1, getAt2, wipeM, List.map_cons, List.map_nil, List.cons_append, List.nil_append, List.append_nil, List.length_cons, List.length_nil, List.length_map, Nat.reduceAdd, Nat.reduceSub, List.replicate_zero, List.replicate_succ, List.getElem?_cons_zero, List.getElem?_cons_succ, List.set_cons_zero, List.set_cons_succ, Option.some.injEq, exists_eq_left', MV.bl.injEq, MV.int.injEq, true_and, and_true, Int.reduceLT, Int.reduceLE, Nat.reduceLT, Nat.reduceLeDiff, decide_true, decide_false, Bool.not_true, Bool.not_false, Bool.false_eq_true, if_true, if_false, reduceIte]
  refine comp_pure (cs.map .int) (fun v => match v with | .int c => decide (c < bnd) | _ => false) id (by rw [List.length_map]; have := C.len; omega) (fun i => rfl) (fun v hv => ?_) ?_
  · obtain ⟨c, _, rfl⟩ := List.mem_map.mp hv
    simp only [ok_ok, ok_bind, ok_ite, ok_mVar, ok_mC, ok_mOp, ok_mUn, ok_mNil, ok_mCons, ok_mTup, ok_mLst, ok_mCB, ok_mTest, ok_mAnd, ok_mOr, ok_mNot, ok_mIf, ok_mTru, ok_truM_bl, ok_mAndV, ok_mOrV, ok_mNotV, ok_mChain, ok_mNoPart, ok_mPart, ok_mSlice, ok_mBack, ok_mCall, ok_mCallK, ok_mMeth, ok_mIter, ok_mRng1, ok_mRng2, ok_mZip, ok_rng1, ok_rng2, ok_gmName, ok_gmNil, ok_gmCons, ok_gmTup, ok_gmSub, sn_nx, sn_rt, sn_ite, sn_sSeq, sn_sNext, sn_sBreak, sn_sCont, sn_sRetN, sn_sExpr, sn_sRet, sn_sIf, sn_sAsg, sn_sPar, sn_sAug, ok_runD, sn_sFor, ok_mComp, ok_mYes, ok_add, ok_addT, ok_sub, ok_mul, ok_div, ok_mod, ok_pow, ok_lt, ok_le, ok_gt, ok_ge, ok_neg, ok_eqI, ok_neI, ok_isN, ok_notN, ok_ixT, ok_ixF, ok_slT, ok_slF, ok_backT, ok_lenT, ok_lenF, ok_abs, ok_max2, ok_min2, ok_intB, ok_divmod, ok_itT, ok_itF, ok_isiII, ok_isiIB, ok_isiIT, ok_isiTT, ok_isiTI, ok_isiSS, getAt0, getAt1, getAt2, wipeM, List.map_cons, List.map_nil, List.cons_append, List.nil_append, List.append_nil, List.length_cons, List.length_nil, List.length_map, Nat.reduceAdd, Nat.reduceSub, List.replicate_zero, List.replicate_succ, List.getElem?_cons_zero, List.getElem?_cons_succ, List.set_cons_zero, List.set_cons_succ, Option.some.injEq, exists_eq_left', MV.bl.injEq, MV.int.injEq, true_and, and_true, Int.reduceLT, Int.reduceLE, Nat.reduceLT, Nat.reduceLeDiff, decide_true, decide_false, Bool.not_true, Bool.not_false, Bool.false_eq_true, if_true, if_false, reduceIte]
    exact fun _ => rfl
  rw [filter_ints cs (fun c => decide (c < bnd)) _ fun _ => rfl, List.map_id]
  show Ok (lenM [.ref h.length] (h ++ [MO.lst ((want cs bnd).map .int)])) _
  have hw : (h ++ [MO.lst ((want cs bnd).map MV.int)])[h.length]? = some (.lst ((want cs bnd).map .int)) := new_at
  generalize hh : h ++ [MO.lst ((want cs bnd).map MV.int)] = hW at *
  have G0 : Gr h hW := by rw [← hh]; exact Gr.one _ _
  rw [ok_lenL hw]
  simp only [ok_ok, ok_bind, ok_ite, ok_mVar, ok_mC, ok_mOp, ok_mUn, ok_mNil, ok_mCons, ok_mTup, ok_mLst, ok_mCB, ok_mTest, ok_mAnd, ok_mOr, ok_mNot, ok_mIf, ok_mTru, ok_truM_bl, ok_mAndV, ok_mOrV, ok_mNotV, ok_mChain, ok_mNoPart, ok_mPart, ok_mSlice, ok_mBack, ok_mCall, ok_mCallK, ok_mMeth, ok_mIter, ok_mRng1, ok_mRng2, ok_mZip, ok_rng1, ok_rng2, ok_gmName, ok_gmNil, ok_gmCons, ok_gmTup, ok_gmSub, sn_nx, sn_rt, sn_ite, sn_sSeq, sn_sNext, sn_sBreak, sn_sCont, sn_sRetN, sn_sExpr, sn_sRet, sn_sIf, sn_sAsg, sn_sPar, sn_sAug, ok_runD, sn_sFor, ok_mComp, ok_mYes, ok_add, ok_addT, ok_sub, ok_mul, ok_div, ok_mod, ok_pow, ok_lt, ok_le, ok_gt, ok_ge, ok_neg, ok_eqI, ok_neI, ok_isN, ok_notN, ok_ixT, ok_ixF, ok_slT, ok_slF, ok_backT, ok_lenT, ok_lenF, ok_abs, ok_max2, ok_min2, ok_intB, ok_divmod, ok_itT, ok_itF, ok_isiII, ok_isiIB, ok_isiIT, ok_isiTT, ok_isiTI, ok_isiSS, getAt0, getAt1, getAt2, wipeM, List.map_cons, List.map_nil, List.cons_append, List.nil_append, List.append_nil, List.length_cons, List.length_nil, List.length_map, Nat.reduceAdd, Nat.reduceSub, List.replicate_zero, List.replicate_succ, List.getElem?_cons_zero, List.getElem?_cons_succ, List.set_cons_zero, List.set_cons_succ, Option.some.injEq, exists_eq_left', MV.bl.injEq, MV.int.injEq, true_and, and_true, Int.reduceLT, Int.reduceLE, Nat.reduceLT, Nat.reduceLeDiff, decide_true, decide_false, Bool.not_true, Bool.not_false, Bool.false_eq_true, if_true, if_false, reduceIte]
  by_cases e : (ps.length : Int) = ((want cs bnd).length : Int)
  · have e' : ps.length = (want cs bnd).length := by omega
    rw [decide_eq_true e]
    simp only [ok_ok, ok_bind, ok_ite, ok_mVar, ok_mC, ok_mOp, ok_mUn, ok_mNil, ok_mCons, ok_mTup, ok_mLst, ok_mCB, ok_mTest, ok_mAnd, ok_mOr, ok_mNot, ok_mIf, ok_mTru, ok_truM_bl, ok_mAndV, ok_mOrV, ok_mNotV, ok_mChain, ok_mNoPart, ok_mPart, ok_mSlice, ok_mBack, ok_mCall, ok_mCallK, ok_mMeth, ok_mIter, ok_mRng1, ok_mRng2, ok_mZip, ok_rng1, ok_rng2, ok_gmName, ok_gmNil, ok_gmCons, ok_gmTup, ok_gmSub, sn_nx, sn_rt, sn_ite, sn_sSeq, sn_sNext, sn_sBreak, sn_sCont, sn_sRetN, sn_sExpr, sn_sRet, sn_sIf, sn_sAsg, sn_sPar, sn_sAug, ok_runD, sn_sFor, ok_mComp, ok_mYes, ok_add, ok_addT, ok_sub, ok_mul, ok_div, ok_mod, ok_pow, ok_lt, ok_le, ok_gt, ok_ge, ok_neg, ok_eqI, ok_neI, ok_isN, ok_notN, ok_ixT, ok_ixF, ok_slT, ok_slF, ok_backT, ok_lenT, ok_lenF, ok_abs, ok_max2, ok_min2, ok_intB, ok_divmod, ok_itT, ok_itF, ok_isiII, ok_isiIB, ok_isiIT, ok_isiTT, ok_isiTI, ok_isiSS, getAt0, getAt1, getAt2, wipeM, List.map_cons, List.map_nil, List.cons_append, List.nil_append, List.append_nil, List.length_cons, List.length_nil, List.length_map, Nat.reduceAdd, Nat.reduceSub, List.replicate_zero, List.replicate_succ, List.getElem?_cons_zero, List.getElem?_cons_succ, List.set_cons_zero, List.set_cons_succ, Option.some.injEq, exists_eq_left', MV.bl.injEq, MV.int.injEq, true_and, and_true, Int.reduceLT, Int.reduceLE, Nat.reduceLT, Nat.reduceLeDiff, decide_true, decide_false, Bool.not_true, Bool.not_false, Bool.false_eq_true, if_true, if_false, reduceIte]
    have zi : zipM [.ref h.length, .tup (ps.map pr)] hW = .ok (itZip (.ref h.length) (.tup (ps.map pr))) hW := by
      unfold zipM seqOf lstOf
      simp only [hw]
    rw [zi, ok_ok]
    have ll : ((want cs bnd).map MV.int).length = (ps.map pr).length := by simp [e']
    refine for_ok ((((want cs bnd).map MV.int).zip (ps.map pr)).map fun z => MV.tup [z.1, z.2]) (fun i ρ h' => h' = hW ∧ i ≤ (want cs bnd).length ∧ (∃ (y z : Option MV), ρ = [some (.tup (cs.map .int)), some (.int size), some (.int bnd), some (.tup (ps.map pr)), some (.ref h.length), y, z]) ∧
      ∀ j c x, j < i → (want cs bnd)[j]? = some c → ps[j]? = some x → Gd cs size c x) (by rw [List.length_map, List.length_zip, List.length_map, List.length_map, e', Nat.min_self]; exact Nat.le_trans (show (want cs bnd).length ≤ 1000 by omega) (by decide)) ⟨rfl, Nat.zero_le _, ⟨none, none, rfl⟩, fun j c x k => absurd k (Nat.not_lt_zero _)⟩ (fun i ρ h' q => by
        rw [q.1]
        exact itZip_at hw ll i (by simpa using q.2.1)) (fun i v hv ρ h' I => ?_) (fun ρ h' I => ?_)
    · obtain ⟨rfl, hi, ⟨y, z, rfl⟩, hG⟩ := I
      rw [List.getElem?_map] at hv
      cases hz : (((want cs bnd).map MV.int).zip (ps.map pr))[i]? with
      | none => rw [hz] at hv; cases hv
      | some zz =>
        rw [hz] at hv
        cases hv
        obtain ⟨z1, z2⟩ := List.getElem?_zip_eq_some.mp hz
        obtain ⟨c, hc, ec⟩ := map_int_get z1
        obtain ⟨a, b, hx, ex⟩ := map_pr_get z2
        dsimp only
        rw [ec, ex]
        have hil := (List.getElem?_eq_some_iff.mp hc).1
        simp only [ok_ok, ok_bind, ok_ite, ok_mVar, ok_mC, ok_mOp, ok_mUn, ok_mNil, ok_mCons, ok_mTup, ok_mLst, ok_mCB, ok_mTest, ok_mAnd, ok_mOr, ok_mNot, ok_mIf, ok_mTru, ok_truM_bl, ok_mAndV, ok_mOrV, ok_mNotV, ok_mChain, ok_mNoPart, ok_mPart, ok_mSlice, ok_mBack, ok_mCall, ok_mCallK, ok_mMeth, ok_mIter, ok_mRng1, ok_mRng2, ok_mZip, ok_rng1, ok_rng2, ok_gmName, ok_gmNil, ok_gmCons, ok_gmTup, ok_gmSub, sn_nx, sn_rt, sn_ite, sn_sSeq, sn_sNext, sn_sBreak, sn_sCont, sn_sRetN, sn_sExpr, sn_sRet, sn_sIf, sn_sAsg, sn_sPar, sn_sAug, ok_runD, sn_sFor, ok_mComp, ok_mYes, ok_add, ok_addT, ok_sub, ok_mul, ok_div, ok_mod, ok_pow, ok_lt, ok_le, ok_gt, ok_ge, ok_neg, ok_eqI, ok_neI, ok_isN, ok_notN, ok_ixT, ok_ixF, ok_slT, ok_slF, ok_backT, ok_lenT, ok_lenF, ok_abs, ok_max2, ok_min2, ok_intB, ok_divmod, ok_itT, ok_itF, ok_isiII, ok_isiIB, ok_isiIT, ok_isiTT, ok_isiTI, ok_isiSS, getAt0, getAt1, getAt2, wipeM, List.map_cons, List.map_nil, List.cons_append, List.nil_append, List.append_nil, List.length_cons, List.length_nil, List.length_map, Nat.reduceAdd, Nat.reduceSub, List.replicate_zero, List.replicate_succ, List.getElem?_cons_zero, List.getElem?_cons_succ, List.set_cons_zero, List.set_cons_succ, Option.some.injEq, exists_eq_left', MV.bl.injEq, MV.int.injEq, true_and, and_true, Int.reduceLT, Int.reduceLE, Nat.reduceLT, Nat.reduceLeDiff, decide_true, decide_false, Bool.not_true, Bool.not_false, Bool.false_eq_true, if_true, if_false, reduceIte, between_ok]
        have done : ¬ Gd cs size c (a, b) → IsB (Bh cs size bnd ps) (.bl false) := fun n => .f fun k => n (k.2 i c (a, b) hc hx)
        by_cases g1 : a = c
        · rw [decide_eq_true (show c ≤ a ∧ a ≤ c by omega)]
          simp only [ok_ok, ok_bind, ok_ite, ok_mVar, ok_mC, ok_mOp, ok_mUn, ok_mNil, ok_mCons, ok_mTup, ok_mLst, ok_mCB, ok_mTest, ok_mAnd, ok_mOr, ok_mNot, ok_mIf, ok_mTru, ok_truM_bl, ok_mAndV, ok_mOrV, ok_mNotV, ok_mChain, ok_mNoPart, ok_mPart, ok_mSlice, ok_mBack, ok_mCall, ok_mCallK, ok_mMeth, ok_mIter, ok_mRng1, ok_mRng2, ok_mZip, ok_rng1, ok_rng2, ok_gmName, ok_gmNil, ok_gmCons, ok_gmTup, ok_gmSub, sn_nx, sn_rt, sn_ite, sn_sSeq, sn_sNext, sn_sBreak, sn_sCont, sn_sRetN, sn_sExpr, sn_sRet, sn_sIf, sn_sAsg, sn_sPar, sn_sAug, ok_runD, sn_sFor, ok_mComp, ok_mYes, ok_add, ok_addT, ok_sub, ok_mul, ok_div, ok_mod, ok_pow, ok_lt, ok_le, ok_gt, ok_ge, ok_neg, ok_eqI, ok_neI, ok_isN, ok_notN, ok_ixT, ok_ixF, ok_slT, ok_slF, ok_backT, ok_lenT, ok_lenF, ok_abs, ok_max2, ok_min2, ok_intB, ok_divmod, ok_itT, ok_itF, ok_isiII, ok_isiIB, ok_isiIT, ok_isiTT, ok_isiTI, ok_isiSS, getAt0, getAt1, getAt2, wipeM, List.map_cons, List.map_nil, List.cons_append, List.nil_append, List.append_nil, List.length_cons, List.length_nil, List.length_map, Nat.reduceAdd, Nat.reduceSub, List.replicate_zero, List.replicate_succ, List.getElem?_cons_zero, List.getElem?_cons_succ, List.set_cons_zero, List.set_cons_succ, Option.some.injEq, exists_eq_left', MV.bl.injEq, MV.int.injEq, true_and, and_true, Int.reduceLT, Int.reduceLE, Nat.reduceLT, Nat.reduceLeDiff, decide_true, decide_false, Bool.not_true, Bool.not_false, Bool.false_eq_true, if_true, if_false, reduceIte, between_ok]
          by_cases g2 : 0 ≤ b ∧ b ≤ size - c - 1
          · rw [decide_eq_true g2]
            simp only [ok_ok, ok_bind, ok_ite, ok_mVar, ok_mC, ok_mOp, ok_mUn, ok_mNil, ok_mCons, ok_mTup, ok_mLst, ok_mCB, ok_mTest, ok_mAnd, ok_mOr, ok_mNot, ok_mIf, ok_mTru, ok_truM_bl, ok_mAndV, ok_mOrV, ok_mNotV, ok_mChain, ok_mNoPart, ok_mPart, ok_mSlice, ok_mBack, ok_mCall, ok_mCallK, ok_mMeth, ok_mIter, ok_mRng1, ok_mRng2, ok_mZip, ok_rng1, ok_rng2, ok_gmName, ok_gmNil, ok_gmCons, ok_gmTup, ok_gmSub, sn_nx, sn_rt, sn_ite, sn_sSeq, sn_sNext, sn_sBreak, sn_sCont, sn_sRetN, sn_sExpr, sn_sRet, sn_sIf, sn_sAsg, sn_sPar, sn_sAug, ok_runD, sn_sFor, ok_mComp, ok_mYes, ok_add, ok_addT, ok_sub, ok_mul, ok_div, ok_mod, ok_pow, ok_lt, ok_le, ok_gt, ok_ge, ok_neg, ok_eqI, ok_neI, ok_isN, ok_notN, ok_ixT, ok_ixF, ok_slT, ok_slF, ok_backT, ok_lenT, ok_lenF, ok_abs, ok_max2, ok_min2, ok_intB, ok_divmod, ok_itT, ok_itF, ok_isiII, ok_isiIB, ok_isiIT, ok_isiTT, ok_isiTI, ok_isiSS, getAt0, getAt1, getAt2, wipeM, List.map_cons, List.map_nil, List.cons_append, List.nil_append, List.append_nil, List.length_cons, List.length_nil, List.length_map, Nat.reduceAdd, Nat.reduceSub, List.replicate_zero, List.replicate_succ, List.getElem?_cons_zero, List.getElem?_cons_succ, List.set_cons_zero, List.set_cons_succ, Option.some.injEq, exists_eq_left', MV.bl.injEq, MV.int.injEq, true_and, and_true, Int.reduceLT, Int.reduceLE, Nat.reduceLT, Nat.reduceLeDiff, decide_true, decide_false, Bool.not_true, Bool.not_false, Bool.false_eq_true, if_true, if_false, reduceIte]
            refine reel_ok C (reel_ok C ?_)
            simp only [ok_ok, ok_bind, ok_ite, ok_mVar, ok_mC, ok_mOp, ok_mUn, ok_mNil, ok_mCons, ok_mTup, ok_mLst, ok_mCB, ok_mTest, ok_mAnd, ok_mOr, ok_mNot, ok_mIf, ok_mTru, ok_truM_bl, ok_mAndV, ok_mOrV, ok_mNotV, ok_mChain, ok_mNoPart, ok_mPart, ok_mSlice, ok_mBack, ok_mCall, ok_mCallK, ok_mMeth, ok_mIter, ok_mRng1, ok_mRng2, ok_mZip, ok_rng1, ok_rng2, ok_gmName, ok_gmNil, ok_gmCons, ok_gmTup, ok_gmSub, sn_nx, sn_rt, sn_ite, sn_sSeq, sn_sNext, sn_sBreak, sn_sCont, sn_sRetN, sn_sExpr, sn_sRet, sn_sIf, sn_sAsg, sn_sPar, sn_sAug, ok_runD, sn_sFor, ok_mComp, ok_mYes, ok_add, ok_addT, ok_sub, ok_mul, ok_div, ok_mod, ok_pow, ok_lt, ok_le, ok_gt, ok_ge, ok_neg, ok_eqI, ok_neI, ok_isN, ok_notN, ok_ixT, ok_ixF, ok_slT, ok_slF, ok_backT, ok_lenT, ok_lenF, ok_abs, ok_max2, ok_min2, ok_intB, ok_divmod, ok_itT, ok_itF, ok_isiII, ok_isiIB, ok_isiIT, ok_isiTT, ok_isiTI, ok_isiSS, getAt0, getAt1, getAt2, wipeM, List.map_cons, List.map_nil, List.cons_append, List.nil_append, List.append_nil, List.length_cons, List.length_nil, List.length_map, Nat.reduceAdd, Nat.reduceSub, List.replicate_zero, List.replicate_succ, List.getElem?_cons_zero, List.getElem?_cons_succ, List.set_cons_zero, List.set_cons_succ, Option.some.injEq, exists_eq_left', MV.bl.injEq, MV.int.injEq, true_and, and_true, Int.reduceLT, Int.reduceLE, Nat.reduceLT, Nat.reduceLeDiff, decide_true, decide_false, Bool.not_true, Bool.not_false, Bool.false_eq_true, if_true, if_false, reduceIte]
            by_cases g3 : left cs b = left cs (b + c)
            · rw [decide_eq_true g3]
              simp only [ok_ok, ok_bind, ok_ite, ok_mVar, ok_mC, ok_mOp, ok_mUn, ok_mNil, ok_mCons, ok_mTup, ok_mLst, ok_mCB, ok_mTest, ok_mAnd, ok_mOr, ok_mNot, ok_mIf, ok_mTru, ok_truM_bl, ok_mAndV, ok_mOrV, ok_mNotV, ok_mChain, ok_mNoPart, ok_mPart, ok_mSlice, ok_mBack, ok_mCall, ok_mCallK, ok_mMeth, ok_mIter, ok_mRng1, ok_mRng2, ok_mZip, ok_rng1, ok_rng2, ok_gmName, ok_gmNil, ok_gmCons, ok_gmTup, ok_gmSub, sn_nx, sn_rt, sn_ite, sn_sSeq, sn_sNext, sn_sBreak, sn_sCont, sn_sRetN, sn_sExpr, sn_sRet, sn_sIf, sn_sAsg, sn_sPar, sn_sAug, ok_runD, sn_sFor, ok_mComp, ok_mYes, ok_add, ok_addT, ok_sub, ok_mul, ok_div, ok_mod, ok_pow, ok_lt, ok_le, ok_gt, ok_ge, ok_neg, ok_eqI, ok_neI, ok_isN, ok_notN, ok_ixT, ok_ixF, ok_slT, ok_slF, ok_backT, ok_lenT, ok_lenF, ok_abs, ok_max2, ok_min2, ok_intB, ok_divmod, ok_itT, ok_itF, ok_isiII, ok_isiIB, ok_isiIT, ok_isiTT, ok_isiTI, ok_isiSS, getAt0, getAt1, getAt2, wipeM, List.map_cons, List.map_nil, List.cons_append, List.nil_append, List.append_nil, List.length_cons, List.length_nil, List.length_map, Nat.reduceAdd, Nat.reduceSub, List.replicate_zero, List.replicate_succ, List.getElem?_cons_zero, List.getElem?_cons_succ, List.set_cons_zero, List.set_cons_succ, Option.some.injEq, exists_eq_left', MV.bl.injEq, MV.int.injEq, true_and, and_true, Int.reduceLT, Int.reduceLE, Nat.reduceLT, Nat.reduceLeDiff, decide_true, decide_false, Bool.not_true, Bool.not_false, Bool.false_eq_true, if_true, if_false, reduceIte]
              exact ⟨G0, done fun g => g.2.2 g3⟩
            · rw [decide_eq_false g3]
              simp only [ok_ok, ok_bind, ok_ite, ok_mVar, ok_mC, ok_mOp, ok_mUn, ok_mNil, ok_mCons, ok_mTup, ok_mLst, ok_mCB, ok_mTest, ok_mAnd, ok_mOr, ok_mNot, ok_mIf, ok_mTru, ok_truM_bl, ok_mAndV, ok_mOrV, ok_mNotV, ok_mChain, ok_mNoPart, ok_mPart, ok_mSlice, ok_mBack, ok_mCall, ok_mCallK, ok_mMeth, ok_mIter, ok_mRng1, ok_mRng2, ok_mZip, ok_rng1, ok_rng2, ok_gmName, ok_gmNil, ok_gmCons, ok_gmTup, ok_gmSub, sn_nx, sn_rt, sn_ite, sn_sSeq, sn_sNext, sn_sBreak, sn_sCont, sn_sRetN, sn_sExpr, sn_sRet, sn_sIf, sn_sAsg, sn_sPar, sn_sAug, ok_runD, sn_sFor, ok_mComp, ok_mYes, ok_add, ok_addT, ok_sub, ok_mul, ok_div, ok_mod, ok_pow, ok_lt, ok_le, ok_gt, ok_ge, ok_neg, ok_eqI, ok_neI, ok_isN, ok_notN, ok_ixT, ok_ixF, ok_slT, ok_slF, ok_backT, ok_lenT, ok_lenF, ok_abs, ok_max2, ok_min2, ok_intB, ok_divmod, ok_itT, ok_itF, ok_isiII, ok_isiIB, ok_isiIT, ok_isiTT, ok_isiTI, ok_isiSS, getAt0, getAt1, getAt2, wipeM, List.map_cons, List.map_nil, List.cons_append, List.nil_append, List.append_nil, List.length_cons, List.length_nil, List.length_map, Nat.reduceAdd, Nat.reduceSub, List.replicate_zero, List.replicate_succ, List.getElem?_cons_zero, List.getElem?_cons_succ, List.set_cons_zero, List.set_cons_succ, Option.some.injEq, exists_eq_left', MV.bl.injEq, MV.int.injEq, true_and, and_true, Int.reduceLT, Int.reduceLE, Nat.reduceLT, Nat.reduceLeDiff, decide_true, decide_false, Bool.not_true, Bool.not_false, Bool.false_eq_true, if_true, if_false, reduceIte]
              refine ⟨by omega, ⟨_, _, rfl⟩, fun j c2 x2 hj e1 e2 => ?_⟩
              by_cases hji : j = i
              · subst hji
                rw [hc] at e1; rw [hx] at e2
                cases e1; cases e2
                exact ⟨g1, g2, g3⟩
              · exact hG j c2 x2 (by omega) e1 e2
          · rw [decide_eq_false g2]
            simp only [ok_ok, ok_bind, ok_ite, ok_mVar, ok_mC, ok_mOp, ok_mUn, ok_mNil, ok_mCons, ok_mTup, ok_mLst, ok_mCB, ok_mTest, ok_mAnd, ok_mOr, ok_mNot, ok_mIf, ok_mTru, ok_truM_bl, ok_mAndV, ok_mOrV, ok_mNotV, ok_mChain, ok_mNoPart, ok_mPart, ok_mSlice, ok_mBack, ok_mCall, ok_mCallK, ok_mMeth, ok_mIter, ok_mRng1, ok_mRng2, ok_mZip, ok_rng1, ok_rng2, ok_gmName, ok_gmNil, ok_gmCons, ok_gmTup, ok_gmSub, sn_nx, sn_rt, sn_ite, sn_sSeq, sn_sNext, sn_sBreak, sn_sCont, sn_sRetN, sn_sExpr, sn_sRet, sn_sIf, sn_sAsg, sn_sPar, sn_sAug, ok_runD, sn_sFor, ok_mComp, ok_mYes, ok_add, ok_addT, ok_sub, ok_mul, ok_div, ok_mod, ok_pow, ok_lt, ok_le, ok_gt, ok_ge, ok_neg, ok_eqI, ok_neI, ok_isN, ok_notN, ok_ixT, ok_ixF, ok_slT, ok_slF, ok_backT, ok_lenT, ok_lenF, ok_abs, ok_max2, ok_min2, ok_intB, ok_divmod, ok_itT, ok_itF, ok_isiII, ok_isiIB, ok_isiIT, ok_isiTT, ok_isiTI, ok_isiSS, getAt0, getAt1, getAt2, wipeM, List.map_cons, List.map_nil, List.cons_append, List.nil_append, List.append_nil, List.length_cons, List.length_nil, List.length_map, Nat.reduceAdd, Nat.reduceSub, List.replicate_zero, List.replicate_succ, List.getElem?_cons_zero, List.getElem?_cons_succ, List.set_cons_zero, List.set_cons_succ, Option.some.injEq, exists_eq_left', MV.bl.injEq, MV.int.injEq, true_and, and_true, Int.reduceLT, Int.reduceLE, Nat.reduceLT, Nat.reduceLeDiff, decide_true, decide_false, Bool.not_true, Bool.not_false, Bool.false_eq_true, if_true, if_false, reduceIte]
            exact ⟨G0, done fun g => g2 g.2.1⟩
        · rw [decide_eq_false (show ¬ (c ≤ a ∧ a ≤ c) by omega)]
          simp only [ok_ok, ok_bind, ok_ite, ok_mVar, ok_mC, ok_mOp, ok_mUn, ok_mNil, ok_mCons, ok_mTup, ok_mLst, ok_mCB, ok_mTest, ok_mAnd, ok_mOr, ok_mNot, ok_mIf, ok_mTru, ok_truM_bl, ok_mAndV, ok_mOrV, ok_mNotV, ok_mChain, ok_mNoPart, ok_mPart, ok_mSlice, ok_mBack, ok_mCall, ok_mCallK, ok_mMeth, ok_mIter, ok_mRng1, ok_mRng2, ok_mZip, ok_rng1, ok_rng2, ok_gmName, ok_gmNil, ok_gmCons, ok_gmTup, ok_gmSub, sn_nx, sn_rt, sn_ite, sn_sSeq, sn_sNext, sn_sBreak, sn_sCont, sn_sRetN, sn_sExpr, sn_sRet, sn_sIf, sn_sAsg, sn_sPar, sn_sAug, ok_runD, sn_sFor, ok_mComp, ok_mYes, ok_add, ok_addT, ok_sub, ok_mul, ok_div, ok_mod, ok_pow, ok_lt, ok_le, ok_gt, ok_ge, ok_neg, ok_eqI, ok_neI, ok_isN, ok_notN, ok_ixT, ok_ixF, ok_slT, ok_slF, ok_backT, ok_lenT, ok_lenF, ok_abs, ok_max2, ok_min2, ok_intB, ok_divmod, ok_itT, ok_itF, ok_isiII, ok_isiIB, ok_isiIT, ok_isiTT, ok_isiTI, ok_isiSS, getAt0, getAt1, getAt2, wipeM, List.map_cons, List.map_nil, List.cons_append, List.nil_append, List.append_nil, List.length_cons, List.length_nil, List.length_map, Nat.reduceAdd, Nat.reduceSub, List.replicate_zero, List.replicate_succ, List.getElem?_cons_zero, List.getElem?_cons_succ, List.set_cons_zero, List.set_cons_succ, Option.some.injEq, exists_eq_left', MV.bl.injEq, MV.int.injEq, true_and, and_true, Int.reduceLT, Int.reduceLE, Nat.reduceLT, Nat.reduceLeDiff, decide_true, decide_false, Bool.not_true, Bool.not_false, Bool.false_eq_true, if_true, if_false, reduceIte]
          exact ⟨G0, done fun g => g1 g.1⟩
    · obtain ⟨rfl, hi, ⟨y, z, rfl⟩, hG⟩ := I
      refine ⟨G0, .t ⟨e', fun i c x e1 e2 => hG i c x ?_ e1 e2⟩⟩
      have := (List.getElem?_eq_some_iff.mp e1).1
      simp only [List.length_map, List.length_zip, e', Nat.min_self]
      exact this
  · rw [decide_eq_false e]
    simp only [ok_ok, ok_bind, ok_ite, ok_mVar, ok_mC, ok_mOp, ok_mUn, ok_mNil, ok_mCons, ok_mTup, ok_mLst, ok_mCB, ok_mTest, ok_mAnd, ok_mOr, ok_mNot, ok_mIf, ok_mTru, ok_truM_bl, ok_mAndV, ok_mOrV, ok_mNotV, ok_mChain, ok_mNoPart, ok_mPart, ok_mSlice, ok_mBack, ok_mCall, ok_mCallK, ok_mMeth, ok_mIter, ok_mRng1, ok_mRng2, ok_mZip, ok_rng1, ok_rng2, ok_gmName, ok_gmNil, ok_gmCons, ok_gmTup, ok_gmSub, sn_nx, sn_rt, sn_ite, sn_sSeq, sn_sNext, sn_sBreak, sn_sCont, sn_sRetN, sn_sExpr, sn_sRet, sn_sIf, sn_sAsg, sn_sPar, sn_sAug, ok_runD, sn_sFor, ok_mComp, ok_mYes, ok_add, ok_addT, ok_sub, ok_mul, ok_div, ok_mod, ok_pow, ok_lt, ok_le, ok_gt, ok_ge, ok_neg, ok_eqI, ok_neI, ok_isN, ok_notN, ok_ixT, ok_ixF, ok_slT, ok_slF, ok_backT, ok_lenT, ok_lenF, ok_abs, ok_max2, ok_min2, ok_intB, ok_divmod, ok_itT, ok_itF, ok_isiII, ok_isiIB, ok_isiIT, ok_isiTT, ok_isiTI, ok_isiSS, getAt0, getAt1, getAt2, wipeM, List.map_cons, List.map_nil, List.cons_append, List.nil_append, List.append_nil, List.length_cons, List.length_nil, List.length_map, Nat.reduceAdd, Nat.reduceSub, List.replicate_zero, List.replicate_succ, List.getElem?_cons_zero, List.getElem?_cons_succ, List.set_cons_zero, List.set_cons_succ, Option.some.injEq, exists_eq_left', MV.bl.injEq, MV.int.injEq, true_and, and_true, Int.reduceLT, Int.reduceLE, Nat.reduceLT, Nat.reduceLeDiff, decide_true, decide_false, Bool.not_true, Bool.not_false, Bool.false_eq_true, if_true, if_false, reduceIte]
    exact ⟨G0, .f fun k => e (by rw [k.1])⟩
end K74

namespace K74
open Cutp
open PySem (Str)
/-- a part of a certificate: a cut and its pairs -/
def pq (x : Int × List (Int × Int)) : MV := .tup [.int x.1, .tup (x.2.map pr)]
theorem map_pq_get {rs : List (Int × List (Int × Int))} {i : Nat} {v : MV} (h : (rs.map pq)[i]? = some v) : ∃ a b, rs[i]? = some (a, b) ∧ v = .tup [.int a, .tup (b.map pr)] := by
  rw [List.getElem?_map] at h
  cases e2 : rs[i]? with
  | none => rw [e2] at h; cases h
  | some c => rw [e2] at h; exact ⟨c.1, c.2, rfl, (Option.some.inj h).symm⟩
/-- what is accepted of the parts, the reel this long -/
def Ch (cs : List Int) : Int → List (Int × List (Int × Int)) → Prop
  | _, [] => True
  | size, x :: r => (1 ≤ x.1 ∧ x.1 ≤ size - 1) ∧ x.1 ∈ cs ∧ Bh cs size x.1 x.2 ∧ Ch cs x.1 r
theorem drop_at {α : Type} {xs : List α} {i : Nat} {x : α} (h : xs[i]? = some x) : xs.drop i = x :: xs.drop (i + 1) := by
  obtain ⟨h1, h2⟩ := List.getElem?_eq_some_iff.mp h
  rw [List.drop_eq_getElem_cons h1, h2]
theorem ok_inT {ds : List Int} {x : Int} {neg : Bool} {h : Hm} {R : MV → Hm → Prop} : Ok (inM neg (.int x) (.tup (ds.map .int)) h) R ↔ R (.bl (if neg = true then !decide (x ∈ ds) else decide (x ∈ ds))) h := by
  unfold inM seqOf
  simp only [flat_ints, any_ints]
  rw [if_pos ⟨rfl, trivial⟩]
  exact Iff.rfl
theorem at_least_ok {cs : List Int} (C : Cuts cs) {L m : Int} {rs : List (Int × List (Int × Int))} {h : Hm} (hL : 1 ≤ L ∧ L ≤ 1000000000000000) (hc : ∀ c ∈ cs, c ≤ L - 1) (hl : cs.length ≤ 200) (hr : rs.length ≤ 1000) (hp : ∀ x ∈ rs, x.2.length ≤ 1000) :
    Ok (m_accepts_at_least [.tup [.int L, .tup (cs.map .int), .int m], .tup (rs.map pq)] h) fun v h' => Gr h h' ∧ IsB ((0 ≤ m ∧ m ≤ 200) ∧ (rs.length : Int) = m ∧ Ch cs L rs) v := by
  unfold m_accepts_at_least b_accepts_at_least
  simp only [ok_ok, ok_bind, ok_ite, ok_mVar, ok_mC, ok_mOp, ok_mUn, ok_mNil, ok_mCons, ok_mTup, ok_mLst, ok_mCB, ok_mTest, ok_mAnd, ok_mOr, ok_mNot, ok_mIf, ok_mTru, ok_truM_bl, ok_mAndV, ok_mOrV, ok_mNotV, ok_mChain, ok_mNoPart, ok_mPart, ok_mSlice, ok_mBack, ok_mCall, ok_mCallK, ok_mMeth, ok_mIter, ok_mRng1, ok_mRng2, ok_mZip, ok_rng1, ok_rng2, ok_gmName, ok_gmNil, ok_gmCons, ok_gmTup, ok_gmSub, sn_nx, sn_rt, sn_ite, sn_sSeq, sn_sNext, sn_sBreak, sn_sCont, sn_sRetN, sn_sExpr, sn_sRet, sn_sIf, sn_sAsg, sn_sPar, sn_sAug, ok_runD, sn_sFor, ok_mComp, ok_mYes, ok_add, ok_addT, ok_sub, ok_mul, ok_div, ok_mod, ok_pow, ok_lt, ok_le, ok_gt, ok_ge, ok_neg, ok_eqI, ok_neI, ok_isN, ok_notN, ok_ixT, ok_ixF, ok_slT, ok_slF, ok_backT, ok_lenT, ok_lenF, ok_abs, ok_max2, ok_min2, ok_intB, ok_divmod, ok_itT, ok_itF, ok_isiII, ok_isiIB, ok_isiIT, ok_isiTT, ok_isiTI, ok_isiSS, getAt0, getAt1, getAt2, wipeM, List.map_cons, List.map_nil, List.cons_append, List.nil_append, List.append_nil, List.length_cons, List.length_nil, List.length_map, Nat.reduceAdd, Nat.reduceSub, List.replicate_zero, List.replicate_succ, List.getElem?_cons_zero, List.getElem?_cons_succ, List.set_cons_zero, List.set_cons_succ, Option.some.injEq, exists_eq_left', MV.bl.injEq, MV.int.injEq, true_and, and_true, Int.reduceLT, Int.reduceLE, Nat.reduceLT, Nat.reduceLeDiff, decide_true, decide_false, Bool.not_true, Bool.not_false, Bool.false_eq_true, if_true, if_false, reduceIte]
  refine cut_reel_ok C hL hc hl ?_
  simp only [ok_ok, ok_bind, ok_ite, ok_mVar, ok_mC, ok_mOp, ok_mUn, ok_mNil, ok_mCons, ok_mTup, ok_mLst, ok_mCB, ok_mTest, ok_mAnd, ok_mOr, ok_mNot, ok_mIf, ok_mTru, ok_truM_bl, ok_mAndV, ok_mOrV, ok_mNotV, ok_mChain, ok_mNoPart, ok_mPart, ok_mSlice, ok_mBack, ok_mCall, ok_mCallK, ok_mMeth, ok_mIter, ok_mRng1, ok_mRng2, ok_mZip, ok_rng1, ok_rng2, ok_gmName, ok_gmNil, ok_gmCons, ok_gmTup, ok_gmSub, sn_nx, sn_rt, sn_ite, sn_sSeq, sn_sNext, sn_sBreak, sn_sCont, sn_sRetN, sn_sExpr, sn_sRet, sn_sIf, sn_sAsg, sn_sPar, sn_sAug, ok_runD, sn_sFor, ok_mComp, ok_mYes, ok_add, ok_addT, ok_sub, ok_mul, ok_div, ok_mod, ok_pow, ok_lt, ok_le, ok_gt, ok_ge, ok_neg, ok_eqI, ok_neI, ok_isN, ok_notN, ok_ixT, ok_ixF, ok_slT, ok_slF, ok_backT, ok_lenT, ok_lenF, ok_abs, ok_max2, ok_min2, ok_intB, ok_divmod, ok_itT, ok_itF, ok_isiII, ok_isiIB, ok_isiIT, ok_isiTT, ok_isiTI, ok_isiSS, getAt0, getAt1, getAt2, wipeM, List.map_cons, List.map_nil, List.cons_append, List.nil_append, List.append_nil, List.length_cons, List.length_nil, List.length_map, Nat.reduceAdd, Nat.reduceSub, List.replicate_zero, List.replicate_succ, List.getElem?_cons_zero, List.getElem?_cons_succ, List.set_cons_zero, List.set_cons_succ, Option.some.injEq, exists_eq_left', MV.bl.injEq, MV.int.injEq, true_and, and_true, Int.reduceLT, Int.reduceLE, Nat.reduceLT, Nat.reduceLeDiff, decide_true, decide_false, Bool.not_true, Bool.not_false, Bool.false_eq_true, if_true, if_false, reduceIte, between_ok]
  by_cases g1 : 0 ≤ m ∧ m ≤ 200
  · rw [decide_eq_true g1]
    (try simp only [ok_ok, ok_bind, ok_ite, ok_mVar, ok_mC, ok_mOp, ok_mUn, ok_mNil, ok_mCons, ok_mTup, ok_mLst, ok_mCB, ok_mTest, ok_mAnd, ok_mOr, ok_mNot, ok_mIf, ok_mTru, ok_truM_bl, ok_mAndV, ok_mOrV, ok_mNotV, ok_mChain, ok_mNoPart, ok_mPart, ok_mSlice, ok_mBack, ok_mCall, ok_mCallK, ok_mMeth, ok_mIter, ok_mRng1, ok_mRng2, ok_mZip, ok_rng1, ok_rng2, ok_gmName, ok_gmNil, ok_gmCons, ok_gmTup, ok_gmSub, sn_nx, sn_rt, sn_ite, sn_sSeq, sn_sNext, sn_sBreak, sn_sCont, sn_sRetN, sn_sExpr, sn_sRet, sn_sIf, sn_sAsg, sn_sPar, sn_sAug, ok_runD, sn_sFor, ok_mComp, ok_mYes, ok_add, ok_addT, ok_sub, ok_mul, ok_div, ok_mod, ok_pow, ok_lt, ok_le, ok_gt, ok_ge, ok_neg, ok_eqI, ok_neI, ok_isN, ok_notN, ok_ixT, ok_ixF, ok_slT, ok_slF, ok_backT, ok_lenT, ok_lenF, ok_abs, ok_max2, ok_min2, ok_intB, ok_divmod, ok_itT, ok_itF, ok_isiII, ok_isiIB, ok_isiIT, ok_isiTT, ok_isiTI, ok_isiSS, getAt0, getAt1, getAt2, wipeM, List.map_cons, List.map_nil, List.cons_append, List.nil_append, List.append_nil, List.length_cons, List.length_nil, List.length_map, Nat.reduceAdd, Nat.reduceSub, List.replicate_zero, List.replicate_succ, List.getElem?_cons_zero, List.getElem?_cons_succ, List.set_cons_zero, List.set_cons_succ, Option.some.injEq, exists_eq_left', MV.bl.injEq, MV.int.injEq, true_and, and_true, Int.reduceLT, Int.reduceLE, Nat.reduceLT, Nat.reduceLeDiff, decide_true, decide_false, Bool.not_true, Bool.not_false, Bool.false_eq_true, if_true, if_false, reduceIte])
    by_cases g2 : (rs.length : Int) = m
    · rw [decide_eq_true g2]
      (try simp only [ok_ok, ok_bind, ok_ite, ok_mVar, ok_mC, ok_mOp, ok_mUn, ok_mNil, ok_mCons, ok_mTup, ok_mLst, ok_mCB, ok_mTest, ok_mAnd, ok_mOr, ok_mNot, ok_mIf, ok_mTru, ok_truM_bl, ok_mAndV, ok_mOrV, ok_mNotV, ok_mChain, ok_mNoPart, ok_mPart, ok_mSlice, ok_mBack, ok_mCall, ok_mCallK, ok_mMeth, ok_mIter, ok_mRng1, ok_mRng2, ok_mZip, ok_rng1, ok_rng2, ok_gmName, ok_gmNil, ok_gmCons, ok_gmTup, ok_gmSub, sn_nx, sn_rt, sn_ite, sn_sSeq, sn_sNext, sn_sBreak, sn_sCont, sn_sRetN, sn_sExpr, sn_sRet, sn_sIf, sn_sAsg, sn_sPar, sn_sAug, ok_runD, sn_sFor, ok_mComp, ok_mYes, ok_add, ok_addT, ok_sub, ok_mul, ok_div, ok_mod, ok_pow, ok_lt, ok_le, ok_gt, ok_ge, ok_neg, ok_eqI, ok_neI, ok_isN, ok_notN, ok_ixT, ok_ixF, ok_slT, ok_slF, ok_backT, ok_lenT, ok_lenF, ok_abs, ok_max2, ok_min2, ok_intB, ok_divmod, ok_itT, ok_itF, ok_isiII, ok_isiIB, ok_isiIT, ok_isiTT, ok_isiTI, ok_isiSS, getAt0, getAt1, getAt2, wipeM, List.map_cons, List.map_nil, List.cons_append, List.nil_append, List.append_nil, List.length_cons, List.length_nil, List.length_map, Nat.reduceAdd, Nat.reduceSub, List.replicate_zero, List.replicate_succ, List.getElem?_cons_zero, List.getElem?_cons_succ, List.set_cons_zero, List.set_cons_succ, Option.some.injEq, exists_eq_left', MV.bl.injEq, MV.int.injEq, true_and, and_true, Int.reduceLT, Int.reduceLE, Nat.reduceLT, Nat.reduceLeDiff, decide_true, decide_false, Bool.not_true, Bool.not_false, Bool.false_eq_true, if_true, if_false, reduceIte])
      refine for_ok (rs.map pq) (fun i ρ h' => Gr h h' ∧ ∃ (sz : Int) (y : Option MV), ρ = [some (.tup [.int L, .tup (cs.map .int), .int m]), some (.tup (rs.map pq)), some (.int sz), some (.tup (cs.map .int)), y] ∧ (Ch cs L rs ↔ Ch cs sz (rs.drop i)))
        (by rw [List.length_map]; exact Nat.le_trans hr (by decide)) ⟨Gr.refl _, L, none, rfl, Iff.rfl⟩ (fun i ρ h' q => rfl) (fun i v hv ρ h' I => ?_) (fun ρ h' I => ?_)
      · obtain ⟨G, sz, y, rfl, hi⟩ := I
        obtain ⟨c, ps, hx, rfl⟩ := map_pq_get hv
        rw [drop_at hx] at hi
        have hps := hp _ (List.mem_of_getElem? hx)
        simp only [ok_ok, ok_bind, ok_ite, ok_mVar, ok_mC, ok_mOp, ok_mUn, ok_mNil, ok_mCons, ok_mTup, ok_mLst, ok_mCB, ok_mTest, ok_mAnd, ok_mOr, ok_mNot, ok_mIf, ok_mTru, ok_truM_bl, ok_mAndV, ok_mOrV, ok_mNotV, ok_mChain, ok_mNoPart, ok_mPart, ok_mSlice, ok_mBack, ok_mCall, ok_mCallK, ok_mMeth, ok_mIter, ok_mRng1, ok_mRng2, ok_mZip, ok_rng1, ok_rng2, ok_gmName, ok_gmNil, ok_gmCons, ok_gmTup, ok_gmSub, sn_nx, sn_rt, sn_ite, sn_sSeq, sn_sNext, sn_sBreak, sn_sCont, sn_sRetN, sn_sExpr, sn_sRet, sn_sIf, sn_sAsg, sn_sPar, sn_sAug, ok_runD, sn_sFor, ok_mComp, ok_mYes, ok_add, ok_addT, ok_sub, ok_mul, ok_div, ok_mod, ok_pow, ok_lt, ok_le, ok_gt, ok_ge, ok_neg, ok_eqI, ok_neI, ok_isN, ok_notN, ok_ixT, ok_ixF, ok_slT, ok_slF, ok_backT, ok_lenT, ok_lenF, ok_abs, ok_max2, ok_min2, ok_intB, ok_divmod, ok_itT, ok_itF, ok_isiII, ok_isiIB, ok_isiIT, ok_isiTT, ok_isiTI, ok_isiSS, getAt0, getAt1, getAt2, wipeM, List.map_cons, List.map_nil, List.cons_append, List.nil_append, List.append_nil, List.length_cons, List.length_nil, List.length_map, Nat.reduceAdd, Nat.reduceSub, List.replicate_zero, List.replicate_succ, List.getElem?_cons_zero, List.getElem?_cons_succ, List.set_cons_zero, List.set_cons_succ, Option.some.injEq, exists_eq_left', MV.bl.injEq, MV.int.injEq, true_and, and_true, Int.reduceLT, Int.reduceLE, Nat.reduceLT, Nat.reduceLeDiff, decide_true, decide_false, Bool.not_true, Bool.not_false, Bool.false_eq_true, if_true, if_false, reduceIte, between_ok]
        by_cases g3 : 1 ≤ c ∧ c ≤ sz - 1
        · rw [decide_eq_true g3]
          (try simp only [ok_ok, ok_bind, ok_ite, ok_mVar, ok_mC, ok_mOp, ok_mUn, ok_mNil, ok_mCons, ok_mTup, ok_mLst, ok_mCB, ok_mTest, ok_mAnd, ok_mOr, ok_mNot, ok_mIf, ok_mTru, ok_truM_bl, ok_mAndV, ok_mOrV, ok_mNotV, ok_mChain, ok_mNoPart, ok_mPart, ok_mSlice, ok_mBack, ok_mCall, ok_mCallK, ok_mMeth, ok_mIter, ok_mRng1, ok_mRng2, ok_mZip, ok_rng1, ok_rng2, ok_gmName, ok_gmNil, ok_gmCons, ok_gmTup, ok_gmSub, sn_nx, sn_rt, sn_ite, sn_sSeq, sn_sNext, sn_sBreak, sn_sCont, sn_sRetN, sn_sExpr, sn_sRet, sn_sIf, sn_sAsg, sn_sPar, sn_sAug, ok_runD, sn_sFor, ok_mComp, ok_mYes, ok_add, ok_addT, ok_sub, ok_mul, ok_div, ok_mod, ok_pow, ok_lt, ok_le, ok_gt, ok_ge, ok_neg, ok_eqI, ok_neI, ok_isN, ok_notN, ok_ixT, ok_ixF, ok_slT, ok_slF, ok_backT, ok_lenT, ok_lenF, ok_abs, ok_max2, ok_min2, ok_intB, ok_divmod, ok_itT, ok_itF, ok_isiII, ok_isiIB, ok_isiIT, ok_isiTT, ok_isiTI, ok_isiSS, getAt0, getAt1, getAt2, wipeM, List.map_cons, List.map_nil, List.cons_append, List.nil_append, List.append_nil, List.length_cons, List.length_nil, List.length_map, Nat.reduceAdd, Nat.reduceSub, List.replicate_zero, List.replicate_succ, List.getElem?_cons_zero, List.getElem?_cons_succ, List.set_cons_zero, List.set_cons_succ, Option.some.injEq, exists_eq_left', MV.bl.injEq, MV.int.injEq, true_and, and_true, Int.reduceLT, Int.reduceLE, Nat.reduceLT, Nat.reduceLeDiff, decide_true, decide_false, Bool.not_true, Bool.not_false, Bool.false_eq_true, if_true, if_false, reduceIte])
          rw [ok_inT]
          by_cases g4 : c ∈ cs
          · rw [decide_eq_true g4]
            (try simp only [ok_ok, ok_bind, ok_ite, ok_mVar, ok_mC, ok_mOp, ok_mUn, ok_mNil, ok_mCons, ok_mTup, ok_mLst, ok_mCB, ok_mTest, ok_mAnd, ok_mOr, ok_mNot, ok_mIf, ok_mTru, ok_truM_bl, ok_mAndV, ok_mOrV, ok_mNotV, ok_mChain, ok_mNoPart, ok_mPart, ok_mSlice, ok_mBack, ok_mCall, ok_mCallK, ok_mMeth, ok_mIter, ok_mRng1, ok_mRng2, ok_mZip, ok_rng1, ok_rng2, ok_gmName, ok_gmNil, ok_gmCons, ok_gmTup, ok_gmSub, sn_nx, sn_rt, sn_ite, sn_sSeq, sn_sNext, sn_sBreak, sn_sCont, sn_sRetN, sn_sExpr, sn_sRet, sn_sIf, sn_sAsg, sn_sPar, sn_sAug, ok_runD, sn_sFor, ok_mComp, ok_mYes, ok_add, ok_addT, ok_sub, ok_mul, ok_div, ok_mod, ok_pow, ok_lt, ok_le, ok_gt, ok_ge, ok_neg, ok_eqI, ok_neI, ok_isN, ok_notN, ok_ixT, ok_ixF, ok_slT, ok_slF, ok_backT, ok_lenT, ok_lenF, ok_abs, ok_max2, ok_min2, ok_intB, ok_divmod, ok_itT, ok_itF, ok_isiII, ok_isiIB, ok_isiIT, ok_isiTT, ok_isiTI, ok_isiSS, getAt0, getAt1, getAt2, wipeM, List.map_cons, List.map_nil, List.cons_append, List.nil_append, List.append_nil, List.length_cons, List.length_nil, List.length_map, Nat.reduceAdd, Nat.reduceSub, List.replicate_zero, List.replicate_succ, List.getElem?_cons_zero, List.getElem?_cons_succ, List.set_cons_zero, List.set_cons_succ, Option.some.injEq, exists_eq_left', MV.bl.injEq, MV.int.injEq, true_and, and_true, Int.reduceLT, Int.reduceLE, Nat.reduceLT, Nat.reduceLeDiff, decide_true, decide_false, Bool.not_true, Bool.not_false, Bool.false_eq_true, if_true, if_false, reduceIte])
            refine (breaks_ok C hps).mono fun v h2 ⟨G2, b, e, hb⟩ => ?_
            subst e
            cases b with
            | true =>
              (try simp only [ok_ok, ok_bind, ok_ite, ok_mVar, ok_mC, ok_mOp, ok_mUn, ok_mNil, ok_mCons, ok_mTup, ok_mLst, ok_mCB, ok_mTest, ok_mAnd, ok_mOr, ok_mNot, ok_mIf, ok_mTru, ok_truM_bl, ok_mAndV, ok_mOrV, ok_mNotV, ok_mChain, ok_mNoPart, ok_mPart, ok_mSlice, ok_mBack, ok_mCall, ok_mCallK, ok_mMeth, ok_mIter, ok_mRng1, ok_mRng2, ok_mZip, ok_rng1, ok_rng2, ok_gmName, ok_gmNil, ok_gmCons, ok_gmTup, ok_gmSub, sn_nx, sn_rt, sn_ite, sn_sSeq, sn_sNext, sn_sBreak, sn_sCont, sn_sRetN, sn_sExpr, sn_sRet, sn_sIf, sn_sAsg, sn_sPar, sn_sAug, ok_runD, sn_sFor, ok_mComp, ok_mYes, ok_add, ok_addT, ok_sub, ok_mul, ok_div, ok_mod, ok_pow, ok_lt, ok_le, ok_gt, ok_ge, ok_neg, ok_eqI, ok_neI, ok_isN, ok_notN, ok_ixT, ok_ixF, ok_slT, ok_slF, ok_backT, ok_lenT, ok_lenF, ok_abs, ok_max2, ok_min2, ok_intB, ok_divmod, ok_itT, ok_itF, ok_isiII, ok_isiIB, ok_isiIT, ok_isiTT, ok_isiTI, ok_isiSS, getAt0, getAt1, getAt2, wipeM, List.map_cons, List.map_nil, List.cons_append, List.nil_append, List.append_nil, List.length_cons, List.length_nil, List.length_map, Nat.reduceAdd, Nat.reduceSub, List.replicate_zero, List.replicate_succ, List.getElem?_cons_zero, List.getElem?_cons_succ, List.set_cons_zero, List.set_cons_succ, Option.some.injEq, exists_eq_left', MV.bl.injEq, MV.int.injEq, true_and, and_true, Int.reduceLT, Int.reduceLE, Nat.reduceLT, Nat.reduceLeDiff, decide_true, decide_false, Bool.not_true, Bool.not_false, Bool.false_eq_true, if_true, if_false, reduceIte])
              refine ⟨G.trans G2, _, _, rfl, ?_⟩
              rw [hi]
              exact ⟨fun k => k.2.2.2, fun k => ⟨g3, g4, hb.mp rfl, k⟩⟩
            | false =>
              (try simp only [ok_ok, ok_bind, ok_ite, ok_mVar, ok_mC, ok_mOp, ok_mUn, ok_mNil, ok_mCons, ok_mTup, ok_mLst, ok_mCB, ok_mTest, ok_mAnd, ok_mOr, ok_mNot, ok_mIf, ok_mTru, ok_truM_bl, ok_mAndV, ok_mOrV, ok_mNotV, ok_mChain, ok_mNoPart, ok_mPart, ok_mSlice, ok_mBack, ok_mCall, ok_mCallK, ok_mMeth, ok_mIter, ok_mRng1, ok_mRng2, ok_mZip, ok_rng1, ok_rng2, ok_gmName, ok_gmNil, ok_gmCons, ok_gmTup, ok_gmSub, sn_nx, sn_rt, sn_ite, sn_sSeq, sn_sNext, sn_sBreak, sn_sCont, sn_sRetN, sn_sExpr, sn_sRet, sn_sIf, sn_sAsg, sn_sPar, sn_sAug, ok_runD, sn_sFor, ok_mComp, ok_mYes, ok_add, ok_addT, ok_sub, ok_mul, ok_div, ok_mod, ok_pow, ok_lt, ok_le, ok_gt, ok_ge, ok_neg, ok_eqI, ok_neI, ok_isN, ok_notN, ok_ixT, ok_ixF, ok_slT, ok_slF, ok_backT, ok_lenT, ok_lenF, ok_abs, ok_max2, ok_min2, ok_intB, ok_divmod, ok_itT, ok_itF, ok_isiII, ok_isiIB, ok_isiIT, ok_isiTT, ok_isiTI, ok_isiSS, getAt0, getAt1, getAt2, wipeM, List.map_cons, List.map_nil, List.cons_append, List.nil_append, List.append_nil, List.length_cons, List.length_nil, List.length_map, Nat.reduceAdd, Nat.reduceSub, List.replicate_zero, List.replicate_succ, List.getElem?_cons_zero, List.getElem?_cons_succ, List.set_cons_zero, List.set_cons_succ, Option.some.injEq, exists_eq_left', MV.bl.injEq, MV.int.injEq, true_and, and_true, Int.reduceLT, Int.reduceLE, Nat.reduceLT, Nat.reduceLeDiff, decide_true, decide_false, Bool.not_true, Bool.not_false, Bool.false_eq_true, if_true, if_false, reduceIte])
              exact ⟨G.trans G2, .f fun k => by
                have q := hi.mp k.2.2
                exact absurd (hb.mpr q.2.2.1) (by decide)⟩
          · rw [decide_eq_false g4]
            (try simp only [ok_ok, ok_bind, ok_ite, ok_mVar, ok_mC, ok_mOp, ok_mUn, ok_mNil, ok_mCons, ok_mTup, ok_mLst, ok_mCB, ok_mTest, ok_mAnd, ok_mOr, ok_mNot, ok_mIf, ok_mTru, ok_truM_bl, ok_mAndV, ok_mOrV, ok_mNotV, ok_mChain, ok_mNoPart, ok_mPart, ok_mSlice, ok_mBack, ok_mCall, ok_mCallK, ok_mMeth, ok_mIter, ok_mRng1, ok_mRng2, ok_mZip, ok_rng1, ok_rng2, ok_gmName, ok_gmNil, ok_gmCons, ok_gmTup, ok_gmSub, sn_nx, sn_rt, sn_ite, sn_sSeq, sn_sNext, sn_sBreak, sn_sCont, sn_sRetN, sn_sExpr, sn_sRet, sn_sIf, sn_sAsg, sn_sPar, sn_sAug, ok_runD, sn_sFor, ok_mComp, ok_mYes, ok_add, ok_addT, ok_sub, ok_mul, ok_div, ok_mod, ok_pow, ok_lt, ok_le, ok_gt, ok_ge, ok_neg, ok_eqI, ok_neI, ok_isN, ok_notN, ok_ixT, ok_ixF, ok_slT, ok_slF, ok_backT, ok_lenT, ok_lenF, ok_abs, ok_max2, ok_min2, ok_intB, ok_divmod, ok_itT, ok_itF, ok_isiII, ok_isiIB, ok_isiIT, ok_isiTT, ok_isiTI, ok_isiSS, getAt0, getAt1, getAt2, wipeM, List.map_cons, List.map_nil, List.cons_append, List.nil_append, List.append_nil, List.length_cons, List.length_nil, List.length_map, Nat.reduceAdd, Nat.reduceSub, List.replicate_zero, List.replicate_succ, List.getElem?_cons_zero, List.getElem?_cons_succ, List.set_cons_zero, List.set_cons_succ, Option.some.injEq, exists_eq_left', MV.bl.injEq, MV.int.injEq, true_and, and_true, Int.reduceLT, Int.reduceLE, Nat.reduceLT, Nat.reduceLeDiff, decide_true, decide_false, Bool.not_true, Bool.not_false, Bool.false_eq_true, if_true, if_false, reduceIte])
            exact ⟨G, .f fun k => g4 (hi.mp k.2.2).2.1⟩
        · rw [decide_eq_false g3]
          (try simp only [ok_ok, ok_bind, ok_ite, ok_mVar, ok_mC, ok_mOp, ok_mUn, ok_mNil, ok_mCons, ok_mTup, ok_mLst, ok_mCB, ok_mTest, ok_mAnd, ok_mOr, ok_mNot, ok_mIf, ok_mTru, ok_truM_bl, ok_mAndV, ok_mOrV, ok_mNotV, ok_mChain, ok_mNoPart, ok_mPart, ok_mSlice, ok_mBack, ok_mCall, ok_mCallK, ok_mMeth, ok_mIter, ok_mRng1, ok_mRng2, ok_mZip, ok_rng1, ok_rng2, ok_gmName, ok_gmNil, ok_gmCons, ok_gmTup, ok_gmSub, sn_nx, sn_rt, sn_ite, sn_sSeq, sn_sNext, sn_sBreak, sn_sCont, sn_sRetN, sn_sExpr, sn_sRet, sn_sIf, sn_sAsg, sn_sPar, sn_sAug, ok_runD, sn_sFor, ok_mComp, ok_mYes, ok_add, ok_addT, ok_sub, ok_mul, ok_div, ok_mod, ok_pow, ok_lt, ok_le, ok_gt, ok_ge, ok_neg, ok_eqI, ok_neI, ok_isN, ok_notN, ok_ixT, ok_ixF, ok_slT, ok_slF, ok_backT, ok_lenT, ok_lenF, ok_abs, ok_max2, ok_min2, ok_intB, ok_divmod, ok_itT, ok_itF, ok_isiII, ok_isiIB, ok_isiIT, ok_isiTT, ok_isiTI, ok_isiSS, getAt0, getAt1, getAt2, wipeM, List.map_cons, List.map_nil, List.cons_append, List.nil_append, List.append_nil, List.length_cons, List.length_nil, List.length_map, Nat.reduceAdd, Nat.reduceSub, List.replicate_zero, List.replicate_succ, List.getElem?_cons_zero, List.getElem?_cons_succ, List.set_cons_zero, List.set_cons_succ, Option.some.injEq, exists_eq_left', MV.bl.injEq, MV.int.injEq, true_and, and_true, Int.reduceLT, Int.reduceLE, Nat.reduceLT, Nat.reduceLeDiff, decide_true, decide_false, Bool.not_true, Bool.not_false, Bool.false_eq_true, if_true, if_false, reduceIte])
          exact ⟨G, .f fun k => g3 (hi.mp k.2.2).1⟩
      · obtain ⟨G, sz, y, rfl, hi⟩ := I
        (try simp only [ok_ok, ok_bind, ok_ite, ok_mVar, ok_mC, ok_mOp, ok_mUn, ok_mNil, ok_mCons, ok_mTup, ok_mLst, ok_mCB, ok_mTest, ok_mAnd, ok_mOr, ok_mNot, ok_mIf, ok_mTru, ok_truM_bl, ok_mAndV, ok_mOrV, ok_mNotV, ok_mChain, ok_mNoPart, ok_mPart, ok_mSlice, ok_mBack, ok_mCall, ok_mCallK, ok_mMeth, ok_mIter, ok_mRng1, ok_mRng2, ok_mZip, ok_rng1, ok_rng2, ok_gmName, ok_gmNil, ok_gmCons, ok_gmTup, ok_gmSub, sn_nx, sn_rt, sn_ite, sn_sSeq, sn_sNext, sn_sBreak, sn_sCont, sn_sRetN, sn_sExpr, sn_sRet, sn_sIf, sn_sAsg, sn_sPar, sn_sAug, ok_runD, sn_sFor, ok_mComp, ok_mYes, ok_add, ok_addT, ok_sub, ok_mul, ok_div, ok_mod, ok_pow, ok_lt, ok_le, ok_gt, ok_ge, ok_neg, ok_eqI, ok_neI, ok_isN, ok_notN, ok_ixT, ok_ixF, ok_slT, ok_slF, ok_backT, ok_lenT, ok_lenF, ok_abs, ok_max2, ok_min2, ok_intB, ok_divmod, ok_itT, ok_itF, ok_isiII, ok_isiIB, ok_isiIT, ok_isiTT, ok_isiTI, ok_isiSS, getAt0, getAt1, getAt2, wipeM, List.map_cons, List.map_nil, List.cons_append, List.nil_append, List.append_nil, List.length_cons, List.length_nil, List.length_map, Nat.reduceAdd, Nat.reduceSub, List.replicate_zero, List.replicate_succ, List.getElem?_cons_zero, List.getElem?_cons_succ, List.set_cons_zero, List.set_cons_succ, Option.some.injEq, exists_eq_left', MV.bl.injEq, MV.int.injEq, true_and, and_true, Int.reduceLT, Int.reduceLE, Nat.reduceLT, Nat.reduceLeDiff, decide_true, decide_false, Bool.not_true, Bool.not_false, Bool.false_eq_true, if_true, if_false, reduceIte])
        refine ⟨G, .t ⟨g1, g2, hi.mpr ?_⟩⟩
        rw [List.length_map, List.drop_length]
        trivial
    · rw [decide_eq_false g2]
      (try simp only [ok_ok, ok_bind, ok_ite, ok_mVar, ok_mC, ok_mOp, ok_mUn, ok_mNil, ok_mCons, ok_mTup, ok_mLst, ok_mCB, ok_mTest, ok_mAnd, ok_mOr, ok_mNot, ok_mIf, ok_mTru, ok_truM_bl, ok_mAndV, ok_mOrV, ok_mNotV, ok_mChain, ok_mNoPart, ok_mPart, ok_mSlice, ok_mBack, ok_mCall, ok_mCallK, ok_mMeth, ok_mIter, ok_mRng1, ok_mRng2, ok_mZip, ok_rng1, ok_rng2, ok_gmName, ok_gmNil, ok_gmCons, ok_gmTup, ok_gmSub, sn_nx, sn_rt, sn_ite, sn_sSeq, sn_sNext, sn_sBreak, sn_sCont, sn_sRetN, sn_sExpr, sn_sRet, sn_sIf, sn_sAsg, sn_sPar, sn_sAug, ok_runD, sn_sFor, ok_mComp, ok_mYes, ok_add, ok_addT, ok_sub, ok_mul, ok_div, ok_mod, ok_pow, ok_lt, ok_le, ok_gt, ok_ge, ok_neg, ok_eqI, ok_neI, ok_isN, ok_notN, ok_ixT, ok_ixF, ok_slT, ok_slF, ok_backT, ok_lenT, ok_lenF, ok_abs, ok_max2, ok_min2, ok_intB, ok_divmod, ok_itT, ok_itF, ok_isiII, ok_isiIB, ok_isiIT, ok_isiTT, ok_isiTI, ok_isiSS, getAt0, getAt1, getAt2, wipeM, List.map_cons, List.map_nil, List.cons_append, List.nil_append, List.append_nil, List.length_cons, List.length_nil, List.length_map, Nat.reduceAdd, Nat.reduceSub, List.replicate_zero, List.replicate_succ, List.getElem?_cons_zero, List.getElem?_cons_succ, List.set_cons_zero, List.set_cons_succ, Option.some.injEq, exists_eq_left', MV.bl.injEq, MV.int.injEq, true_and, and_true, Int.reduceLT, Int.reduceLE, Nat.reduceLT, Nat.reduceLeDiff, decide_true, decide_false, Bool.not_true, Bool.not_false, Bool.false_eq_true, if_true, if_false, reduceIte])
      exact ⟨Gr.refl _, .f fun k => g2 k.2.1⟩
  · rw [decide_eq_false g1]
    (try simp only [ok_ok, ok_bind, ok_ite, ok_mVar, ok_mC, ok_mOp, ok_mUn, ok_mNil, ok_mCons, ok_mTup, ok_mLst, ok_mCB, ok_mTest, ok_mAnd, ok_mOr, ok_mNot, ok_mIf, ok_mTru, ok_truM_bl, ok_mAndV, ok_mOrV, ok_mNotV, ok_mChain, ok_mNoPart, ok_mPart, ok_mSlice, ok_mBack, ok_mCall, ok_mCallK, ok_mMeth, ok_mIter, ok_mRng1, ok_mRng2, ok_mZip, ok_rng1, ok_rng2, ok_gmName, ok_gmNil, ok_gmCons, ok_gmTup, ok_gmSub, sn_nx, sn_rt, sn_ite, sn_sSeq, sn_sNext, sn_sBreak, sn_sCont, sn_sRetN, sn_sExpr, sn_sRet, sn_sIf, sn_sAsg, sn_sPar, sn_sAug, ok_runD, sn_sFor, ok_mComp, ok_mYes, ok_add, ok_addT, ok_sub, ok_mul, ok_div, ok_mod, ok_pow, ok_lt, ok_le, ok_gt, ok_ge, ok_neg, ok_eqI, ok_neI, ok_isN, ok_notN, ok_ixT, ok_ixF, ok_slT, ok_slF, ok_backT, ok_lenT, ok_lenF, ok_abs, ok_max2, ok_min2, ok_intB, ok_divmod, ok_itT, ok_itF, ok_isiII, ok_isiIB, ok_isiIT, ok_isiTT, ok_isiTI, ok_isiSS, getAt0, getAt1, getAt2, wipeM, List.map_cons, List.map_nil, List.cons_append, List.nil_append, List.append_nil, List.length_cons, List.length_nil, List.length_map, Nat.reduceAdd, Nat.reduceSub, List.replicate_zero, List.replicate_succ, List.getElem?_cons_zero, List.getElem?_cons_succ, List.set_cons_zero, List.set_cons_succ, Option.some.injEq, exists_eq_left', MV.bl.injEq, MV.int.injEq, true_and, and_true, Int.reduceLT, Int.reduceLE, Nat.reduceLT, Nat.reduceLeDiff, decide_true, decide_false, Bool.not_true, Bool.not_false, Bool.false_eq_true, if_true, if_false, reduceIte])
    exact ⟨Gr.refl _, .f fun k => g1 k.1⟩
end K74

namespace K74
open Cutp
open PySem (Str)
theorem ok_mCallV {cal : Nat → Option (Nat × (List MV → M MV))} {i g n : Nat} {fm : List MV → M MV} {r : En → M (List MV)} {ρ : En} {h : Hm} {Q : MV → Hm → Prop} (hρ : ρ[i]? = some (some (.gl g))) (hc : cal g = some (n, fm)) :
    Ok (mCallV cal i r ρ h) Q ↔ Ok (r ρ h) fun xs h1 => xs.length = n ∧ Ok (fm xs h1) Q := by
  unfold mCallV
  simp only [hρ, hc, ok_bind, ok_ite, ok_stuck]
  refine Iff.of_eq (congrArg _ (funext fun xs => funext fun h1 => ?_))
  by_cases c : xs.length = n <;> simp [c]
theorem cut1 {a b c d : MV} : cutM [a, b, c, d] (some 1) none = [b, c, d] := rfl
theorem look_ok {h : Hm} {R : MV → Hm → Prop} : Ok (kdM true look_JUDGES (.str "at least") h) R ↔ R (.bl false) h := by
  have e : look_JUDGES "at least" = some true := if_pos rfl
  unfold kdM
  simp only [e, ok_ok]
  exact Iff.rfl
theorem item_ok {h : Hm} {R : MV → Hm → Prop} : Ok (kdItM itm_JUDGES (.str "at least") h) R ↔ R (.gl 4) h := by
  have e : itm_JUDGES "at least" = some (.gl 4) := if_pos rfl
  unfold kdItM
  simp only [e, ok_ok]
/-- what is accepted -/
def Al (L : Int) (cs : List Int) (m : Int) (rs : List (Int × List (Int × Int))) : Prop := (0 ≤ m ∧ m ≤ 200) ∧ (rs.length : Int) = m ∧ Ch cs L rs
theorem accepts_ok {cs : List Int} (C : Cuts cs) {L m : Int} {rs : List (Int × List (Int × Int))} {h : Hm} (hL : 1 ≤ L ∧ L ≤ 1000000000000000) (hc : ∀ c ∈ cs, c ≤ L - 1) (hl : cs.length ≤ 200) (hr : rs.length ≤ 1000) (hp : ∀ x ∈ rs, x.2.length ≤ 1000) :
    Ok (m_accepts [.tup [.str "at least", .int L, .tup (cs.map .int), .int m], .tup (rs.map pq)] h) fun v h' => Gr h h' ∧ IsB (Al L cs m rs) v := by
  unfold m_accepts b_accepts
  simp only [ok_ok, ok_bind, ok_ite, ok_mVar, ok_mC, ok_mOp, ok_mUn, ok_mNil, ok_mCons, ok_mTup, ok_mLst, ok_mCB, ok_mTest, ok_mAnd, ok_mOr, ok_mNot, ok_mIf, ok_mTru, ok_truM_bl, ok_mAndV, ok_mOrV, ok_mNotV, ok_mChain, ok_mNoPart, ok_mPart, ok_mSlice, ok_mBack, ok_mCall, ok_mCallK, ok_mMeth, ok_mIter, ok_mRng1, ok_mRng2, ok_mZip, ok_rng1, ok_rng2, ok_gmName, ok_gmNil, ok_gmCons, ok_gmTup, ok_gmSub, sn_nx, sn_rt, sn_ite, sn_sSeq, sn_sNext, sn_sBreak, sn_sCont, sn_sRetN, sn_sExpr, sn_sRet, sn_sIf, sn_sAsg, sn_sPar, sn_sAug, ok_runD, sn_sFor, ok_mComp, ok_mYes, ok_add, ok_addT, ok_sub, ok_mul, ok_div, ok_mod, ok_pow, ok_lt, ok_le, ok_gt, ok_ge, ok_neg, ok_eqI, ok_neI, ok_isN, ok_notN, ok_ixT, ok_ixF, ok_slT, ok_slF, ok_backT, ok_lenT, ok_lenF, ok_abs, ok_max2, ok_min2, ok_intB, ok_divmod, ok_itT, ok_itF, ok_isiII, ok_isiIB, ok_isiIT, ok_isiTT, ok_isiTI, ok_isiSS, getAt0, getAt1, getAt2, wipeM, List.map_cons, List.map_nil, List.cons_append, List.nil_append, List.append_nil, List.length_cons, List.length_nil, List.length_map, Nat.reduceAdd, Nat.reduceSub, List.replicate_zero, List.replicate_succ, List.getElem?_cons_zero, List.getElem?_cons_succ, List.set_cons_zero, List.set_cons_succ, Option.some.injEq, exists_eq_left', MV.bl.injEq, MV.int.injEq, true_and, and_true, Int.reduceLT, Int.reduceLE, Nat.reduceLT, Nat.reduceLeDiff, decide_true, decide_false, Bool.not_true, Bool.not_false, Bool.false_eq_true, if_true, if_false, reduceIte, look_ok, item_ok]
  have e4 : decide (((4 : Nat) : Int) = 0) = false := by decide
  (try simp only [ok_ok, ok_bind, ok_ite, ok_mVar, ok_mC, ok_mOp, ok_mUn, ok_mNil, ok_mCons, ok_mTup, ok_mLst, ok_mCB, ok_mTest, ok_mAnd, ok_mOr, ok_mNot, ok_mIf, ok_mTru, ok_truM_bl, ok_mAndV, ok_mOrV, ok_mNotV, ok_mChain, ok_mNoPart, ok_mPart, ok_mSlice, ok_mBack, ok_mCall, ok_mCallK, ok_mMeth, ok_mIter, ok_mRng1, ok_mRng2, ok_mZip, ok_rng1, ok_rng2, ok_gmName, ok_gmNil, ok_gmCons, ok_gmTup, ok_gmSub, sn_nx, sn_rt, sn_ite, sn_sSeq, sn_sNext, sn_sBreak, sn_sCont, sn_sRetN, sn_sExpr, sn_sRet, sn_sIf, sn_sAsg, sn_sPar, sn_sAug, ok_runD, sn_sFor, ok_mComp, ok_mYes, ok_add, ok_addT, ok_sub, ok_mul, ok_div, ok_mod, ok_pow, ok_lt, ok_le, ok_gt, ok_ge, ok_neg, ok_eqI, ok_neI, ok_isN, ok_notN, ok_ixT, ok_ixF, ok_slT, ok_slF, ok_backT, ok_lenT, ok_lenF, ok_abs, ok_max2, ok_min2, ok_intB, ok_divmod, ok_itT, ok_itF, ok_isiII, ok_isiIB, ok_isiIT, ok_isiTT, ok_isiTI, ok_isiSS, getAt0, getAt1, getAt2, wipeM, List.map_cons, List.map_nil, List.cons_append, List.nil_append, List.append_nil, List.length_cons, List.length_nil, List.length_map, Nat.reduceAdd, Nat.reduceSub, List.replicate_zero, List.replicate_succ, List.getElem?_cons_zero, List.getElem?_cons_succ, List.set_cons_zero, List.set_cons_succ, Option.some.injEq, exists_eq_left', MV.bl.injEq, MV.int.injEq, true_and, and_true, Int.reduceLT, Int.reduceLE, Nat.reduceLT, Nat.reduceLeDiff, decide_true, decide_false, Bool.not_true, Bool.not_false, Bool.false_eq_true, if_true, if_false, reduceIte, e4])
  rw [ok_mCallV (g := 4) (n := 2) (fm := m_accepts_at_least) rfl rfl]
  simp only [ok_ok, ok_bind, ok_ite, ok_mVar, ok_mC, ok_mOp, ok_mUn, ok_mNil, ok_mCons, ok_mTup, ok_mLst, ok_mCB, ok_mTest, ok_mAnd, ok_mOr, ok_mNot, ok_mIf, ok_mTru, ok_truM_bl, ok_mAndV, ok_mOrV, ok_mNotV, ok_mChain, ok_mNoPart, ok_mPart, ok_mSlice, ok_mBack, ok_mCall, ok_mCallK, ok_mMeth, ok_mIter, ok_mRng1, ok_mRng2, ok_mZip, ok_rng1, ok_rng2, ok_gmName, ok_gmNil, ok_gmCons, ok_gmTup, ok_gmSub, sn_nx, sn_rt, sn_ite, sn_sSeq, sn_sNext, sn_sBreak, sn_sCont, sn_sRetN, sn_sExpr, sn_sRet, sn_sIf, sn_sAsg, sn_sPar, sn_sAug, ok_runD, sn_sFor, ok_mComp, ok_mYes, ok_add, ok_addT, ok_sub, ok_mul, ok_div, ok_mod, ok_pow, ok_lt, ok_le, ok_gt, ok_ge, ok_neg, ok_eqI, ok_neI, ok_isN, ok_notN, ok_ixT, ok_ixF, ok_slT, ok_slF, ok_backT, ok_lenT, ok_lenF, ok_abs, ok_max2, ok_min2, ok_intB, ok_divmod, ok_itT, ok_itF, ok_isiII, ok_isiIB, ok_isiIT, ok_isiTT, ok_isiTI, ok_isiSS, getAt0, getAt1, getAt2, wipeM, List.map_cons, List.map_nil, List.cons_append, List.nil_append, List.append_nil, List.length_cons, List.length_nil, List.length_map, Nat.reduceAdd, Nat.reduceSub, List.replicate_zero, List.replicate_succ, List.getElem?_cons_zero, List.getElem?_cons_succ, List.set_cons_zero, List.set_cons_succ, Option.some.injEq, exists_eq_left', MV.bl.injEq, MV.int.injEq, true_and, and_true, Int.reduceLT, Int.reduceLE, Nat.reduceLT, Nat.reduceLeDiff, decide_true, decide_false, Bool.not_true, Bool.not_false, Bool.false_eq_true, if_true, if_false, reduceIte, cut1]
  exact at_least_ok C hL hc hl hr hp
/-- the judgement is what is due -/
theorem judged_ok {plea paper : MV} {P : Prop} {due : MV} {h : Hm} (A : ∀ h1, Gr h h1 → Ok (m_accepts [plea, paper] h1) fun v h' => Gr h1 h' ∧ IsB P v) (D : IsB P due) : Ok (m__law_judged [plea, paper, due] h) fun v h' => v = .bl true ∧ Gr h h' := by
  unfold m__law_judged b__law_judged
  simp only [ok_ok, ok_bind, ok_ite, ok_mVar, ok_mC, ok_mOp, ok_mUn, ok_mNil, ok_mCons, ok_mTup, ok_mLst, ok_mCB, ok_mTest, ok_mAnd, ok_mOr, ok_mNot, ok_mIf, ok_mTru, ok_truM_bl, ok_mAndV, ok_mOrV, ok_mNotV, ok_mChain, ok_mNoPart, ok_mPart, ok_mSlice, ok_mBack, ok_mCall, ok_mCallK, ok_mMeth, ok_mIter, ok_mRng1, ok_mRng2, ok_mZip, ok_rng1, ok_rng2, ok_gmName, ok_gmNil, ok_gmCons, ok_gmTup, ok_gmSub, sn_nx, sn_rt, sn_ite, sn_sSeq, sn_sNext, sn_sBreak, sn_sCont, sn_sRetN, sn_sExpr, sn_sRet, sn_sIf, sn_sAsg, sn_sPar, sn_sAug, ok_runD, sn_sFor, ok_mComp, ok_mYes, ok_add, ok_addT, ok_sub, ok_mul, ok_div, ok_mod, ok_pow, ok_lt, ok_le, ok_gt, ok_ge, ok_neg, ok_eqI, ok_neI, ok_isN, ok_notN, ok_ixT, ok_ixF, ok_slT, ok_slF, ok_backT, ok_lenT, ok_lenF, ok_abs, ok_max2, ok_min2, ok_intB, ok_divmod, ok_itT, ok_itF, ok_isiII, ok_isiIB, ok_isiIT, ok_isiTT, ok_isiTI, ok_isiSS, getAt0, getAt1, getAt2, wipeM, List.map_cons, List.map_nil, List.cons_append, List.nil_append, List.append_nil, List.length_cons, List.length_nil, List.length_map, Nat.reduceAdd, Nat.reduceSub, List.replicate_zero, List.replicate_succ, List.getElem?_cons_zero, List.getElem?_cons_succ, List.set_cons_zero, List.set_cons_succ, Option.some.injEq, exists_eq_left', MV.bl.injEq, MV.int.injEq, true_and, and_true, Int.reduceLT, Int.reduceLE, Nat.reduceLT, Nat.reduceLeDiff, decide_true, decide_false, Bool.not_true, Bool.not_false, Bool.false_eq_true, if_true, if_false, reduceIte]
  obtain ⟨d, rfl, hd⟩ := D
  refine (A h (Gr.refl h)).mono fun v h1 ⟨g1, b1, e1, k1⟩ => ?_
  subst e1
  (try simp only [ok_ok, ok_bind, ok_ite, ok_mVar, ok_mC, ok_mOp, ok_mUn, ok_mNil, ok_mCons, ok_mTup, ok_mLst, ok_mCB, ok_mTest, ok_mAnd, ok_mOr, ok_mNot, ok_mIf, ok_mTru, ok_truM_bl, ok_mAndV, ok_mOrV, ok_mNotV, ok_mChain, ok_mNoPart, ok_mPart, ok_mSlice, ok_mBack, ok_mCall, ok_mCallK, ok_mMeth, ok_mIter, ok_mRng1, ok_mRng2, ok_mZip, ok_rng1, ok_rng2, ok_gmName, ok_gmNil, ok_gmCons, ok_gmTup, ok_gmSub, sn_nx, sn_rt, sn_ite, sn_sSeq, sn_sNext, sn_sBreak, sn_sCont, sn_sRetN, sn_sExpr, sn_sRet, sn_sIf, sn_sAsg, sn_sPar, sn_sAug, ok_runD, sn_sFor, ok_mComp, ok_mYes, ok_add, ok_addT, ok_sub, ok_mul, ok_div, ok_mod, ok_pow, ok_lt, ok_le, ok_gt, ok_ge, ok_neg, ok_eqI, ok_neI, ok_isN, ok_notN, ok_ixT, ok_ixF, ok_slT, ok_slF, ok_backT, ok_lenT, ok_lenF, ok_abs, ok_max2, ok_min2, ok_intB, ok_divmod, ok_itT, ok_itF, ok_isiII, ok_isiIB, ok_isiIT, ok_isiTT, ok_isiTI, ok_isiSS, getAt0, getAt1, getAt2, wipeM, List.map_cons, List.map_nil, List.cons_append, List.nil_append, List.append_nil, List.length_cons, List.length_nil, List.length_map, Nat.reduceAdd, Nat.reduceSub, List.replicate_zero, List.replicate_succ, List.getElem?_cons_zero, List.getElem?_cons_succ, List.set_cons_zero, List.set_cons_succ, Option.some.injEq, exists_eq_left', MV.bl.injEq, MV.int.injEq, true_and, and_true, Int.reduceLT, Int.reduceLE, Nat.reduceLT, Nat.reduceLeDiff, decide_true, decide_false, Bool.not_true, Bool.not_false, Bool.false_eq_true, if_true, if_false, reduceIte])
  have pk : pick [1, 0] [paper, plea] = [plea, paper] := rfl
  rw [pk]
  (try simp only [ok_ok, ok_bind, ok_ite, ok_mVar, ok_mC, ok_mOp, ok_mUn, ok_mNil, ok_mCons, ok_mTup, ok_mLst, ok_mCB, ok_mTest, ok_mAnd, ok_mOr, ok_mNot, ok_mIf, ok_mTru, ok_truM_bl, ok_mAndV, ok_mOrV, ok_mNotV, ok_mChain, ok_mNoPart, ok_mPart, ok_mSlice, ok_mBack, ok_mCall, ok_mCallK, ok_mMeth, ok_mIter, ok_mRng1, ok_mRng2, ok_mZip, ok_rng1, ok_rng2, ok_gmName, ok_gmNil, ok_gmCons, ok_gmTup, ok_gmSub, sn_nx, sn_rt, sn_ite, sn_sSeq, sn_sNext, sn_sBreak, sn_sCont, sn_sRetN, sn_sExpr, sn_sRet, sn_sIf, sn_sAsg, sn_sPar, sn_sAug, ok_runD, sn_sFor, ok_mComp, ok_mYes, ok_add, ok_addT, ok_sub, ok_mul, ok_div, ok_mod, ok_pow, ok_lt, ok_le, ok_gt, ok_ge, ok_neg, ok_eqI, ok_neI, ok_isN, ok_notN, ok_ixT, ok_ixF, ok_slT, ok_slF, ok_backT, ok_lenT, ok_lenF, ok_abs, ok_max2, ok_min2, ok_intB, ok_divmod, ok_itT, ok_itF, ok_isiII, ok_isiIB, ok_isiIT, ok_isiTT, ok_isiTI, ok_isiSS, getAt0, getAt1, getAt2, wipeM, List.map_cons, List.map_nil, List.cons_append, List.nil_append, List.append_nil, List.length_cons, List.length_nil, List.length_map, Nat.reduceAdd, Nat.reduceSub, List.replicate_zero, List.replicate_succ, List.getElem?_cons_zero, List.getElem?_cons_succ, List.set_cons_zero, List.set_cons_succ, Option.some.injEq, exists_eq_left', MV.bl.injEq, MV.int.injEq, true_and, and_true, Int.reduceLT, Int.reduceLE, Nat.reduceLT, Nat.reduceLeDiff, decide_true, decide_false, Bool.not_true, Bool.not_false, Bool.false_eq_true, if_true, if_false, reduceIte])
  refine (A h1 g1).mono fun v h2 ⟨g2, b2, e2, k2⟩ => ?_
  subst e2
  have eb : b1 = d := by
    cases b1 <;> cases d <;> simp_all
  have eb2 : b2 = d := by
    cases b2 <;> cases d <;> simp_all
  subst eb eb2
  rw [ok_repr2 new_at]
  (try simp only [ok_ok, ok_bind, ok_ite, ok_mVar, ok_mC, ok_mOp, ok_mUn, ok_mNil, ok_mCons, ok_mTup, ok_mLst, ok_mCB, ok_mTest, ok_mAnd, ok_mOr, ok_mNot, ok_mIf, ok_mTru, ok_truM_bl, ok_mAndV, ok_mOrV, ok_mNotV, ok_mChain, ok_mNoPart, ok_mPart, ok_mSlice, ok_mBack, ok_mCall, ok_mCallK, ok_mMeth, ok_mIter, ok_mRng1, ok_mRng2, ok_mZip, ok_rng1, ok_rng2, ok_gmName, ok_gmNil, ok_gmCons, ok_gmTup, ok_gmSub, sn_nx, sn_rt, sn_ite, sn_sSeq, sn_sNext, sn_sBreak, sn_sCont, sn_sRetN, sn_sExpr, sn_sRet, sn_sIf, sn_sAsg, sn_sPar, sn_sAug, ok_runD, sn_sFor, ok_mComp, ok_mYes, ok_add, ok_addT, ok_sub, ok_mul, ok_div, ok_mod, ok_pow, ok_lt, ok_le, ok_gt, ok_ge, ok_neg, ok_eqI, ok_neI, ok_isN, ok_notN, ok_ixT, ok_ixF, ok_slT, ok_slF, ok_backT, ok_lenT, ok_lenF, ok_abs, ok_max2, ok_min2, ok_intB, ok_divmod, ok_itT, ok_itF, ok_isiII, ok_isiIB, ok_isiIT, ok_isiTT, ok_isiTI, ok_isiSS, getAt0, getAt1, getAt2, wipeM, List.map_cons, List.map_nil, List.cons_append, List.nil_append, List.append_nil, List.length_cons, List.length_nil, List.length_map, Nat.reduceAdd, Nat.reduceSub, List.replicate_zero, List.replicate_succ, List.getElem?_cons_zero, List.getElem?_cons_succ, List.set_cons_zero, List.set_cons_succ, Option.some.injEq, exists_eq_left', MV.bl.injEq, MV.int.injEq, true_and, and_true, Int.reduceLT, Int.reduceLE, Nat.reduceLT, Nat.reduceLeDiff, decide_true, decide_false, Bool.not_true, Bool.not_false, Bool.false_eq_true, if_true, if_false, reduceIte])
  rw [ok_repr2 new_at, ok_eqR]
  refine ⟨by simp, ?_⟩
  exact ((g1.trans g2).trans (Gr.one _ _)).trans (Gr.one _ _)
end K74

namespace K74
open Cutp
open PySem (Str)
/-- the places of a row of pairs, the reel this long -/
def Pl (cs : List Int) (size : Int) (ps : List (Int × Int)) : Prop := ∀ (i : Nat) (x : Int × Int), ps[i]? = some x → (0 ≤ x.2 ∧ x.2 < size - x.1) ∧ left cs x.2 ≠ left cs (x.2 + x.1)
/-- what the law itself finds -/
def Hc (cs : List Int) : Int → List (Int × List (Int × Int)) → Prop
  | _, [] => True
  | size, x :: r => x.1 ∈ cs ∧ x.1 < size ∧ x.2.map (·.1) = want cs x.1 ∧ Pl cs size x.2 ∧ Hc cs x.1 r
theorem holds_ok {cs : List Int} (hc : cs.length ≤ 1000) {L : Int} {rs : List (Int × List (Int × Int))} {h : Hm} (hr : rs.length ≤ 1000) (hp : ∀ x ∈ rs, x.2.length ≤ 1000) : Ok (m__law_holds [.tup (cs.map .int), .int L, .tup (rs.map pq)] h) fun v h' => Gr h h' ∧ IsB (Hc cs L rs) v := by
  unfold m__law_holds b__law_holds
  simp only [ok_ok, ok_bind, ok_ite, ok_mVar, ok_mC, ok_mOp, ok_mUn, ok_mNil, ok_mCons, ok_mTup, ok_mLst, ok_mCB, ok_mTest, ok_mAnd, ok_mOr, ok_mNot, ok_mIf, ok_mTru, ok_truM_bl, ok_mAndV, ok_mOrV, ok_mNotV, ok_mChain, ok_mNoPart, ok_mPart, ok_mSlice, ok_mBack, ok_mCall, ok_mCallK, ok_mMeth, ok_mIter, ok_mRng1, ok_mRng2, ok_mZip, ok_rng1, ok_rng2, ok_gmName, ok_gmNil, ok_gmCons, ok_gmTup, ok_gmSub, sn_nx, sn_rt, sn_ite, sn_sSeq, sn_sNext, sn_sBreak, sn_sCont, sn_sRetN, sn_sExpr, sn_sRet, sn_sIf, sn_sAsg, sn_sPar, sn_sAug, ok_runD, sn_sFor, ok_mComp, ok_mYes, ok_add, ok_addT, ok_sub, ok_mul, ok_div, ok_mod, ok_pow, ok_lt, ok_le, ok_gt, ok_ge, ok_neg, ok_eqI, ok_neI, ok_isN, ok_notN, ok_ixT, ok_ixF, ok_slT, ok_slF, ok_backT, ok_lenT, ok_lenF, ok_abs, ok_max2, ok_min2, ok_intB, ok_divmod, ok_itT, ok_itF, ok_isiII, ok_isiIB, ok_isiIT, ok_isiTT, ok_isiTI, ok_isiSS, getAt0, getAt1, getAt2, wipeM, List.map_cons, List.map_nil, List.cons_append, List.nil_append, List.append_nil, List.length_cons, List.length_nil, List.length_map, Nat.reduceAdd, Nat.reduceSub, List.replicate_zero, List.replicate_succ, List.getElem?_cons_zero, List.getElem?_cons_succ, List.set_cons_zero, List.set_cons_succ, Option.some.injEq, exists_eq_left', MV.bl.injEq, MV.int.injEq, true_and, and_true, Int.reduceLT, Int.reduceLE, Nat.reduceLT, Nat.reduceLeDiff, decide_true, decide_false, Bool.not_true, Bool.not_false, Bool.false_eq_true, if_true, if_false, reduceIte]
  refine for_ok (rs.map pq) (fun i ρ h' => Gr h h' ∧ ∃ (sz : Int) (y3 y4 y5 y6 y7 y8 : Option MV), ρ = [some (.tup (cs.map .int)), some (.int sz), some (.tup (rs.map pq)), y3, y4, y5, y6, y7, y8] ∧ (Hc cs L rs ↔ Hc cs sz (rs.drop i)))
    (by rw [List.length_map]; exact Nat.le_trans hr (by decide)) ⟨Gr.refl _, L, _, _, _, _, _, _, rfl, Iff.rfl⟩ (fun i ρ h' q => rfl) (fun i v hv ρ h' I => ?_) (fun ρ h' I => ?_)
  · obtain ⟨G, sz, y3, y4, y5, y6, y7, y8, rfl, hi⟩ := I
    obtain ⟨c, ps, hx, rfl⟩ := map_pq_get hv
    rw [drop_at hx] at hi
    have hps : ps.length ≤ 1000 := hp _ (List.mem_of_getElem? hx)
    simp only [ok_ok, ok_bind, ok_ite, ok_mVar, ok_mC, ok_mOp, ok_mUn, ok_mNil, ok_mCons, ok_mTup, ok_mLst, ok_mCB, ok_mTest, ok_mAnd, ok_mOr, ok_mNot, ok_mIf, ok_mTru, ok_truM_bl, ok_mAndV, ok_mOrV, ok_mNotV, ok_mChain, ok_mNoPart, ok_mPart, ok_mSlice, ok_mBack, ok_mCall, ok_mCallK, ok_mMeth, ok_mIter, ok_mRng1, ok_mRng2, ok_mZip, ok_rng1, ok_rng2, ok_gmName, ok_gmNil, ok_gmCons, ok_gmTup, ok_gmSub, sn_nx, sn_rt, sn_ite, sn_sSeq, sn_sNext, sn_sBreak, sn_sCont, sn_sRetN, sn_sExpr, sn_sRet, sn_sIf, sn_sAsg, sn_sPar, sn_sAug, ok_runD, sn_sFor, ok_mComp, ok_mYes, ok_add, ok_addT, ok_sub, ok_mul, ok_div, ok_mod, ok_pow, ok_lt, ok_le, ok_gt, ok_ge, ok_neg, ok_eqI, ok_neI, ok_isN, ok_notN, ok_ixT, ok_ixF, ok_slT, ok_slF, ok_backT, ok_lenT, ok_lenF, ok_abs, ok_max2, ok_min2, ok_intB, ok_divmod, ok_itT, ok_itF, ok_isiII, ok_isiIB, ok_isiIT, ok_isiTT, ok_isiTI, ok_isiSS, getAt0, getAt1, getAt2, wipeM, List.map_cons, List.map_nil, List.cons_append, List.nil_append, List.append_nil, List.length_cons, List.length_nil, List.length_map, Nat.reduceAdd, Nat.reduceSub, List.replicate_zero, List.replicate_succ, List.getElem?_cons_zero, List.getElem?_cons_succ, List.set_cons_zero, List.set_cons_succ, Option.some.injEq, exists_eq_left', MV.bl.injEq, MV.int.injEq, true_and, and_true, Int.reduceLT, Int.reduceLE, Nat.reduceLT, Nat.reduceLeDiff, decide_true, decide_false, Bool.not_true, Bool.not_false, Bool.false_eq_true, if_true, if_false, reduceIte]
    refine comp_pure (cs.map .int) (fun v => match v with | .int z => decide (z < c) | _ => false) id (by rw [List.length_map]; omega) (fun i => rfl) (fun v hv => ?_) ?_
    · obtain ⟨z, _, rfl⟩ := List.mem_map.mp hv
      simp only [ok_ok, ok_bind, ok_ite, ok_mVar, ok_mC, ok_mOp, ok_mUn, ok_mNil, ok_mCons, ok_mTup, ok_mLst, ok_mCB, ok_mTest, ok_mAnd, ok_mOr, ok_mNot, ok_mIf, ok_mTru, ok_truM_bl, ok_mAndV, ok_mOrV, ok_mNotV, ok_mChain, ok_mNoPart, ok_mPart, ok_mSlice, ok_mBack, ok_mCall, ok_mCallK, ok_mMeth, ok_mIter, ok_mRng1, ok_mRng2, ok_mZip, ok_rng1, ok_rng2, ok_gmName, ok_gmNil, ok_gmCons, ok_gmTup, ok_gmSub, sn_nx, sn_rt, sn_ite, sn_sSeq, sn_sNext, sn_sBreak, sn_sCont, sn_sRetN, sn_sExpr, sn_sRet, sn_sIf, sn_sAsg, sn_sPar, sn_sAug, ok_runD, sn_sFor, ok_mComp, ok_mYes, ok_add, ok_addT, ok_sub, ok_mul, ok_div, ok_mod, ok_pow, ok_lt, ok_le, ok_gt, ok_ge, ok_neg, ok_eqI, ok_neI, ok_isN, ok_notN, ok_ixT, ok_ixF, ok_slT, ok_slF, ok_backT, ok_lenT, ok_lenF, ok_abs, ok_max2, ok_min2, ok_intB, ok_divmod, ok_itT, ok_itF, ok_isiII, ok_isiIB, ok_isiIT, ok_isiTT, ok_isiTI, ok_isiSS, getAt0, getAt1, getAt2, wipeM, List.map_cons, List.map_nil, List.cons_append, List.nil_append, List.append_nil, List.length_cons, List.length_nil, List.length_map, Nat.reduceAdd, Nat.reduceSub, List.replicate_zero, List.replicate_succ, List.getElem?_cons_zero, List.getElem?_cons_succ, List.set_cons_zero, List.set_cons_succ, Option.some.injEq, exists_eq_left', MV.bl.injEq, MV.int.injEq, true_and, and_true, Int.reduceLT, Int.reduceLE, Nat.reduceLT, Nat.reduceLeDiff, decide_true, decide_false, Bool.not_true, Bool.not_false, Bool.false_eq_true, if_true, if_false, reduceIte]
      exact fun _ => rfl
    rw [filter_ints cs (fun z => decide (z < c)) _ fun _ => rfl, List.map_id]
    have hw : (h' ++ [MO.lst ((want cs c).map MV.int)])[h'.length]? = some (.lst ((want cs c).map .int)) := new_at
    show Ok (inM true (.int c) (.tup (cs.map .int)) (h' ++ [MO.lst ((want cs c).map MV.int)])) _
    have G1 := G.trans (Gr.one h' (MO.lst ((want cs c).map MV.int)))
    generalize h' ++ [MO.lst ((want cs c).map MV.int)] = hW at *
    generalize h'.length = A at *
    rw [ok_inT]
    by_cases g1 : c ∈ cs
    · rw [decide_eq_true g1]
      (try simp only [ok_ok, ok_bind, ok_ite, ok_mVar, ok_mC, ok_mOp, ok_mUn, ok_mNil, ok_mCons, ok_mTup, ok_mLst, ok_mCB, ok_mTest, ok_mAnd, ok_mOr, ok_mNot, ok_mIf, ok_mTru, ok_truM_bl, ok_mAndV, ok_mOrV, ok_mNotV, ok_mChain, ok_mNoPart, ok_mPart, ok_mSlice, ok_mBack, ok_mCall, ok_mCallK, ok_mMeth, ok_mIter, ok_mRng1, ok_mRng2, ok_mZip, ok_rng1, ok_rng2, ok_gmName, ok_gmNil, ok_gmCons, ok_gmTup, ok_gmSub, sn_nx, sn_rt, sn_ite, sn_sSeq, sn_sNext, sn_sBreak, sn_sCont, sn_sRetN, sn_sExpr, sn_sRet, sn_sIf, sn_sAsg, sn_sPar, sn_sAug, ok_runD, sn_sFor, ok_mComp, ok_mYes, ok_add, ok_addT, ok_sub, ok_mul, ok_div, ok_mod, ok_pow, ok_lt, ok_le, ok_gt, ok_ge, ok_neg, ok_eqI, ok_neI, ok_isN, ok_notN, ok_ixT, ok_ixF, ok_slT, ok_slF, ok_backT, ok_lenT, ok_lenF, ok_abs, ok_max2, ok_min2, ok_intB, ok_divmod, ok_itT, ok_itF, ok_isiII, ok_isiIB, ok_isiIT, ok_isiTT, ok_isiTI, ok_isiSS, getAt0, getAt1, getAt2, wipeM, List.map_cons, List.map_nil, List.cons_append, List.nil_append, List.append_nil, List.length_cons, List.length_nil, List.length_map, Nat.reduceAdd, Nat.reduceSub, List.replicate_zero, List.replicate_succ, List.getElem?_cons_zero, List.getElem?_cons_succ, List.set_cons_zero, List.set_cons_succ, Option.some.injEq, exists_eq_left', MV.bl.injEq, MV.int.injEq, true_and, and_true, Int.reduceLT, Int.reduceLE, Nat.reduceLT, Nat.reduceLeDiff, decide_true, decide_false, Bool.not_true, Bool.not_false, Bool.false_eq_true, if_true, if_false, reduceIte])
      by_cases g2 : sz ≤ c
      · rw [decide_eq_true g2]
        (try simp only [ok_ok, ok_bind, ok_ite, ok_mVar, ok_mC, ok_mOp, ok_mUn, ok_mNil, ok_mCons, ok_mTup, ok_mLst, ok_mCB, ok_mTest, ok_mAnd, ok_mOr, ok_mNot, ok_mIf, ok_mTru, ok_truM_bl, ok_mAndV, ok_mOrV, ok_mNotV, ok_mChain, ok_mNoPart, ok_mPart, ok_mSlice, ok_mBack, ok_mCall, ok_mCallK, ok_mMeth, ok_mIter, ok_mRng1, ok_mRng2, ok_mZip, ok_rng1, ok_rng2, ok_gmName, ok_gmNil, ok_gmCons, ok_gmTup, ok_gmSub, sn_nx, sn_rt, sn_ite, sn_sSeq, sn_sNext, sn_sBreak, sn_sCont, sn_sRetN, sn_sExpr, sn_sRet, sn_sIf, sn_sAsg, sn_sPar, sn_sAug, ok_runD, sn_sFor, ok_mComp, ok_mYes, ok_add, ok_addT, ok_sub, ok_mul, ok_div, ok_mod, ok_pow, ok_lt, ok_le, ok_gt, ok_ge, ok_neg, ok_eqI, ok_neI, ok_isN, ok_notN, ok_ixT, ok_ixF, ok_slT, ok_slF, ok_backT, ok_lenT, ok_lenF, ok_abs, ok_max2, ok_min2, ok_intB, ok_divmod, ok_itT, ok_itF, ok_isiII, ok_isiIB, ok_isiIT, ok_isiTT, ok_isiTI, ok_isiSS, getAt0, getAt1, getAt2, wipeM, List.map_cons, List.map_nil, List.cons_append, List.nil_append, List.append_nil, List.length_cons, List.length_nil, List.length_map, Nat.reduceAdd, Nat.reduceSub, List.replicate_zero, List.replicate_succ, List.getElem?_cons_zero, List.getElem?_cons_succ, List.set_cons_zero, List.set_cons_succ, Option.some.injEq, exists_eq_left', MV.bl.injEq, MV.int.injEq, true_and, and_true, Int.reduceLT, Int.reduceLE, Nat.reduceLT, Nat.reduceLeDiff, decide_true, decide_false, Bool.not_true, Bool.not_false, Bool.false_eq_true, if_true, if_false, reduceIte])
        exact ⟨G1, .f fun k => by have q := (hi.mp k).2.1; dsimp only at q; omega⟩
      · rw [decide_eq_false g2]
        (try simp only [ok_ok, ok_bind, ok_ite, ok_mVar, ok_mC, ok_mOp, ok_mUn, ok_mNil, ok_mCons, ok_mTup, ok_mLst, ok_mCB, ok_mTest, ok_mAnd, ok_mOr, ok_mNot, ok_mIf, ok_mTru, ok_truM_bl, ok_mAndV, ok_mOrV, ok_mNotV, ok_mChain, ok_mNoPart, ok_mPart, ok_mSlice, ok_mBack, ok_mCall, ok_mCallK, ok_mMeth, ok_mIter, ok_mRng1, ok_mRng2, ok_mZip, ok_rng1, ok_rng2, ok_gmName, ok_gmNil, ok_gmCons, ok_gmTup, ok_gmSub, sn_nx, sn_rt, sn_ite, sn_sSeq, sn_sNext, sn_sBreak, sn_sCont, sn_sRetN, sn_sExpr, sn_sRet, sn_sIf, sn_sAsg, sn_sPar, sn_sAug, ok_runD, sn_sFor, ok_mComp, ok_mYes, ok_add, ok_addT, ok_sub, ok_mul, ok_div, ok_mod, ok_pow, ok_lt, ok_le, ok_gt, ok_ge, ok_neg, ok_eqI, ok_neI, ok_isN, ok_notN, ok_ixT, ok_ixF, ok_slT, ok_slF, ok_backT, ok_lenT, ok_lenF, ok_abs, ok_max2, ok_min2, ok_intB, ok_divmod, ok_itT, ok_itF, ok_isiII, ok_isiIB, ok_isiIT, ok_isiTT, ok_isiTI, ok_isiSS, getAt0, getAt1, getAt2, wipeM, List.map_cons, List.map_nil, List.cons_append, List.nil_append, List.append_nil, List.length_cons, List.length_nil, List.length_map, Nat.reduceAdd, Nat.reduceSub, List.replicate_zero, List.replicate_succ, List.getElem?_cons_zero, List.getElem?_cons_succ, List.set_cons_zero, List.set_cons_succ, Option.some.injEq, exists_eq_left', MV.bl.injEq, MV.int.injEq, true_and, and_true, Int.reduceLT, Int.reduceLE, Nat.reduceLT, Nat.reduceLeDiff, decide_true, decide_false, Bool.not_true, Bool.not_false, Bool.false_eq_true, if_true, if_false, reduceIte])
        refine comp_pure (ps.map pr) (fun _ => true) (fun v => match v with | .tup (x :: _) => x | _ => .non) (by rw [List.length_map]; omega) (fun i => rfl) (fun v hv => ?_) ?_
        · obtain ⟨x, _, rfl⟩ := List.mem_map.mp hv
          unfold pr
          simp only [ok_ok, ok_bind, ok_ite, ok_mVar, ok_mC, ok_mOp, ok_mUn, ok_mNil, ok_mCons, ok_mTup, ok_mLst, ok_mCB, ok_mTest, ok_mAnd, ok_mOr, ok_mNot, ok_mIf, ok_mTru, ok_truM_bl, ok_mAndV, ok_mOrV, ok_mNotV, ok_mChain, ok_mNoPart, ok_mPart, ok_mSlice, ok_mBack, ok_mCall, ok_mCallK, ok_mMeth, ok_mIter, ok_mRng1, ok_mRng2, ok_mZip, ok_rng1, ok_rng2, ok_gmName, ok_gmNil, ok_gmCons, ok_gmTup, ok_gmSub, sn_nx, sn_rt, sn_ite, sn_sSeq, sn_sNext, sn_sBreak, sn_sCont, sn_sRetN, sn_sExpr, sn_sRet, sn_sIf, sn_sAsg, sn_sPar, sn_sAug, ok_runD, sn_sFor, ok_mComp, ok_mYes, ok_add, ok_addT, ok_sub, ok_mul, ok_div, ok_mod, ok_pow, ok_lt, ok_le, ok_gt, ok_ge, ok_neg, ok_eqI, ok_neI, ok_isN, ok_notN, ok_ixT, ok_ixF, ok_slT, ok_slF, ok_backT, ok_lenT, ok_lenF, ok_abs, ok_max2, ok_min2, ok_intB, ok_divmod, ok_itT, ok_itF, ok_isiII, ok_isiIB, ok_isiIT, ok_isiTT, ok_isiTI, ok_isiSS, getAt0, getAt1, getAt2, wipeM, List.map_cons, List.map_nil, List.cons_append, List.nil_append, List.append_nil, List.length_cons, List.length_nil, List.length_map, Nat.reduceAdd, Nat.reduceSub, List.replicate_zero, List.replicate_succ, List.getElem?_cons_zero, List.getElem?_cons_succ, List.set_cons_zero, List.set_cons_succ, Option.some.injEq, exists_eq_left', MV.bl.injEq, MV.int.injEq, true_and, and_true, Int.reduceLT, Int.reduceLE, Nat.reduceLT, Nat.reduceLeDiff, decide_true, decide_false, Bool.not_true, Bool.not_false, Bool.false_eq_true, if_true, if_false, reduceIte]
          exact fun _ => trivial
        have ef : (((ps.map pr).filter fun _ => true).map fun v => match v with | .tup (x :: _) => x | _ => .non) = (ps.map (·.1)).map MV.int := by
          rw [List.filter_eq_self.mpr (by intros; rfl), List.map_map, List.map_map]
          rfl
        rw [ef, ok_neL new_at ((Gr.one _ _).at hw)]
        have G2 := G1.trans (Gr.one hW (MO.lst ((ps.map (·.1)).map MV.int)))
        generalize hW ++ [MO.lst ((ps.map (·.1)).map MV.int)] = hX at *
        by_cases g3 : ps.map (·.1) = want cs c
        · rw [decide_eq_true g3]
          (try simp only [ok_ok, ok_bind, ok_ite, ok_mVar, ok_mC, ok_mOp, ok_mUn, ok_mNil, ok_mCons, ok_mTup, ok_mLst, ok_mCB, ok_mTest, ok_mAnd, ok_mOr, ok_mNot, ok_mIf, ok_mTru, ok_truM_bl, ok_mAndV, ok_mOrV, ok_mNotV, ok_mChain, ok_mNoPart, ok_mPart, ok_mSlice, ok_mBack, ok_mCall, ok_mCallK, ok_mMeth, ok_mIter, ok_mRng1, ok_mRng2, ok_mZip, ok_rng1, ok_rng2, ok_gmName, ok_gmNil, ok_gmCons, ok_gmTup, ok_gmSub, sn_nx, sn_rt, sn_ite, sn_sSeq, sn_sNext, sn_sBreak, sn_sCont, sn_sRetN, sn_sExpr, sn_sRet, sn_sIf, sn_sAsg, sn_sPar, sn_sAug, ok_runD, sn_sFor, ok_mComp, ok_mYes, ok_add, ok_addT, ok_sub, ok_mul, ok_div, ok_mod, ok_pow, ok_lt, ok_le, ok_gt, ok_ge, ok_neg, ok_eqI, ok_neI, ok_isN, ok_notN, ok_ixT, ok_ixF, ok_slT, ok_slF, ok_backT, ok_lenT, ok_lenF, ok_abs, ok_max2, ok_min2, ok_intB, ok_divmod, ok_itT, ok_itF, ok_isiII, ok_isiIB, ok_isiIT, ok_isiTT, ok_isiTI, ok_isiSS, getAt0, getAt1, getAt2, wipeM, List.map_cons, List.map_nil, List.cons_append, List.nil_append, List.append_nil, List.length_cons, List.length_nil, List.length_map, Nat.reduceAdd, Nat.reduceSub, List.replicate_zero, List.replicate_succ, List.getElem?_cons_zero, List.getElem?_cons_succ, List.set_cons_zero, List.set_cons_succ, Option.some.injEq, exists_eq_left', MV.bl.injEq, MV.int.injEq, true_and, and_true, Int.reduceLT, Int.reduceLE, Nat.reduceLT, Nat.reduceLeDiff, decide_true, decide_false, Bool.not_true, Bool.not_false, Bool.false_eq_true, if_true, if_false, reduceIte])
          refine for_ok (ps.map pr) (fun j ρ h2 => Gr h h2 ∧ (∃ y6 y7 y8 : Option MV, ρ = [some (.tup (cs.map .int)), some (.int sz), some (.tup (rs.map pq)), some (.int c), some (.tup (ps.map pr)), some (.ref A), y6, y7, y8]) ∧
            ∀ (k : Nat) (x : Int × Int), k < j → ps[k]? = some x → (0 ≤ x.2 ∧ x.2 < sz - x.1) ∧ left cs x.2 ≠ left cs (x.2 + x.1)) (by rw [List.length_map]; exact Nat.le_trans hps (by decide)) ⟨G2, ⟨_, _, _, rfl⟩, fun k x z => absurd z (Nat.not_lt_zero _)⟩ (fun j ρ h2 q => rfl) (fun j v hv ρ h2 J => ?_) (fun ρ h2 J => ?_)
          · obtain ⟨G3, ⟨y6, y7, y8, rfl⟩, hG⟩ := J
            obtain ⟨a, b, hy, rfl⟩ := map_pr_get hv
            simp only [ok_ok, ok_bind, ok_ite, ok_mVar, ok_mC, ok_mOp, ok_mUn, ok_mNil, ok_mCons, ok_mTup, ok_mLst, ok_mCB, ok_mTest, ok_mAnd, ok_mOr, ok_mNot, ok_mIf, ok_mTru, ok_truM_bl, ok_mAndV, ok_mOrV, ok_mNotV, ok_mChain, ok_mNoPart, ok_mPart, ok_mSlice, ok_mBack, ok_mCall, ok_mCallK, ok_mMeth, ok_mIter, ok_mRng1, ok_mRng2, ok_mZip, ok_rng1, ok_rng2, ok_gmName, ok_gmNil, ok_gmCons, ok_gmTup, ok_gmSub, sn_nx, sn_rt, sn_ite, sn_sSeq, sn_sNext, sn_sBreak, sn_sCont, sn_sRetN, sn_sExpr, sn_sRet, sn_sIf, sn_sAsg, sn_sPar, sn_sAug, ok_runD, sn_sFor, ok_mComp, ok_mYes, ok_add, ok_addT, ok_sub, ok_mul, ok_div, ok_mod, ok_pow, ok_lt, ok_le, ok_gt, ok_ge, ok_neg, ok_eqI, ok_neI, ok_isN, ok_notN, ok_ixT, ok_ixF, ok_slT, ok_slF, ok_backT, ok_lenT, ok_lenF, ok_abs, ok_max2, ok_min2, ok_intB, ok_divmod, ok_itT, ok_itF, ok_isiII, ok_isiIB, ok_isiIT, ok_isiTT, ok_isiTI, ok_isiSS, getAt0, getAt1, getAt2, wipeM, List.map_cons, List.map_nil, List.cons_append, List.nil_append, List.append_nil, List.length_cons, List.length_nil, List.length_map, Nat.reduceAdd, Nat.reduceSub, List.replicate_zero, List.replicate_succ, List.getElem?_cons_zero, List.getElem?_cons_succ, List.set_cons_zero, List.set_cons_succ, Option.some.injEq, exists_eq_left', MV.bl.injEq, MV.int.injEq, true_and, and_true, Int.reduceLT, Int.reduceLE, Nat.reduceLT, Nat.reduceLeDiff, decide_true, decide_false, Bool.not_true, Bool.not_false, Bool.false_eq_true, if_true, if_false, reduceIte]
            have done : ¬ ((0 ≤ b ∧ b < sz - a) ∧ left cs b ≠ left cs (b + a)) → IsB (Hc cs L rs) (.bl false) := fun n => .f fun k => n ((hi.mp k).2.2.2.1 j (a, b) hy)
            by_cases g4 : 0 ≤ b
            · rw [decide_eq_true g4]
              (try simp only [ok_ok, ok_bind, ok_ite, ok_mVar, ok_mC, ok_mOp, ok_mUn, ok_mNil, ok_mCons, ok_mTup, ok_mLst, ok_mCB, ok_mTest, ok_mAnd, ok_mOr, ok_mNot, ok_mIf, ok_mTru, ok_truM_bl, ok_mAndV, ok_mOrV, ok_mNotV, ok_mChain, ok_mNoPart, ok_mPart, ok_mSlice, ok_mBack, ok_mCall, ok_mCallK, ok_mMeth, ok_mIter, ok_mRng1, ok_mRng2, ok_mZip, ok_rng1, ok_rng2, ok_gmName, ok_gmNil, ok_gmCons, ok_gmTup, ok_gmSub, sn_nx, sn_rt, sn_ite, sn_sSeq, sn_sNext, sn_sBreak, sn_sCont, sn_sRetN, sn_sExpr, sn_sRet, sn_sIf, sn_sAsg, sn_sPar, sn_sAug, ok_runD, sn_sFor, ok_mComp, ok_mYes, ok_add, ok_addT, ok_sub, ok_mul, ok_div, ok_mod, ok_pow, ok_lt, ok_le, ok_gt, ok_ge, ok_neg, ok_eqI, ok_neI, ok_isN, ok_notN, ok_ixT, ok_ixF, ok_slT, ok_slF, ok_backT, ok_lenT, ok_lenF, ok_abs, ok_max2, ok_min2, ok_intB, ok_divmod, ok_itT, ok_itF, ok_isiII, ok_isiIB, ok_isiIT, ok_isiTT, ok_isiTI, ok_isiSS, getAt0, getAt1, getAt2, wipeM, List.map_cons, List.map_nil, List.cons_append, List.nil_append, List.append_nil, List.length_cons, List.length_nil, List.length_map, Nat.reduceAdd, Nat.reduceSub, List.replicate_zero, List.replicate_succ, List.getElem?_cons_zero, List.getElem?_cons_succ, List.set_cons_zero, List.set_cons_succ, Option.some.injEq, exists_eq_left', MV.bl.injEq, MV.int.injEq, true_and, and_true, Int.reduceLT, Int.reduceLE, Nat.reduceLT, Nat.reduceLeDiff, decide_true, decide_false, Bool.not_true, Bool.not_false, Bool.false_eq_true, if_true, if_false, reduceIte])
              by_cases g5 : b < sz - a
              · rw [decide_eq_true g5]
                (try simp only [ok_ok, ok_bind, ok_ite, ok_mVar, ok_mC, ok_mOp, ok_mUn, ok_mNil, ok_mCons, ok_mTup, ok_mLst, ok_mCB, ok_mTest, ok_mAnd, ok_mOr, ok_mNot, ok_mIf, ok_mTru, ok_truM_bl, ok_mAndV, ok_mOrV, ok_mNotV, ok_mChain, ok_mNoPart, ok_mPart, ok_mSlice, ok_mBack, ok_mCall, ok_mCallK, ok_mMeth, ok_mIter, ok_mRng1, ok_mRng2, ok_mZip, ok_rng1, ok_rng2, ok_gmName, ok_gmNil, ok_gmCons, ok_gmTup, ok_gmSub, sn_nx, sn_rt, sn_ite, sn_sSeq, sn_sNext, sn_sBreak, sn_sCont, sn_sRetN, sn_sExpr, sn_sRet, sn_sIf, sn_sAsg, sn_sPar, sn_sAug, ok_runD, sn_sFor, ok_mComp, ok_mYes, ok_add, ok_addT, ok_sub, ok_mul, ok_div, ok_mod, ok_pow, ok_lt, ok_le, ok_gt, ok_ge, ok_neg, ok_eqI, ok_neI, ok_isN, ok_notN, ok_ixT, ok_ixF, ok_slT, ok_slF, ok_backT, ok_lenT, ok_lenF, ok_abs, ok_max2, ok_min2, ok_intB, ok_divmod, ok_itT, ok_itF, ok_isiII, ok_isiIB, ok_isiIT, ok_isiTT, ok_isiTI, ok_isiSS, getAt0, getAt1, getAt2, wipeM, List.map_cons, List.map_nil, List.cons_append, List.nil_append, List.append_nil, List.length_cons, List.length_nil, List.length_map, Nat.reduceAdd, Nat.reduceSub, List.replicate_zero, List.replicate_succ, List.getElem?_cons_zero, List.getElem?_cons_succ, List.set_cons_zero, List.set_cons_succ, Option.some.injEq, exists_eq_left', MV.bl.injEq, MV.int.injEq, true_and, and_true, Int.reduceLT, Int.reduceLE, Nat.reduceLT, Nat.reduceLeDiff, decide_true, decide_false, Bool.not_true, Bool.not_false, Bool.false_eq_true, if_true, if_false, reduceIte])
                refine (left_ok hc).mono fun v h3 ⟨e3, g3'⟩ => ?_
                subst e3
                refine (left_ok hc).mono fun v h4 ⟨e4, g4'⟩ => ?_
                subst e4
                (try simp only [ok_ok, ok_bind, ok_ite, ok_mVar, ok_mC, ok_mOp, ok_mUn, ok_mNil, ok_mCons, ok_mTup, ok_mLst, ok_mCB, ok_mTest, ok_mAnd, ok_mOr, ok_mNot, ok_mIf, ok_mTru, ok_truM_bl, ok_mAndV, ok_mOrV, ok_mNotV, ok_mChain, ok_mNoPart, ok_mPart, ok_mSlice, ok_mBack, ok_mCall, ok_mCallK, ok_mMeth, ok_mIter, ok_mRng1, ok_mRng2, ok_mZip, ok_rng1, ok_rng2, ok_gmName, ok_gmNil, ok_gmCons, ok_gmTup, ok_gmSub, sn_nx, sn_rt, sn_ite, sn_sSeq, sn_sNext, sn_sBreak, sn_sCont, sn_sRetN, sn_sExpr, sn_sRet, sn_sIf, sn_sAsg, sn_sPar, sn_sAug, ok_runD, sn_sFor, ok_mComp, ok_mYes, ok_add, ok_addT, ok_sub, ok_mul, ok_div, ok_mod, ok_pow, ok_lt, ok_le, ok_gt, ok_ge, ok_neg, ok_eqI, ok_neI, ok_isN, ok_notN, ok_ixT, ok_ixF, ok_slT, ok_slF, ok_backT, ok_lenT, ok_lenF, ok_abs, ok_max2, ok_min2, ok_intB, ok_divmod, ok_itT, ok_itF, ok_isiII, ok_isiIB, ok_isiIT, ok_isiTT, ok_isiTI, ok_isiSS, getAt0, getAt1, getAt2, wipeM, List.map_cons, List.map_nil, List.cons_append, List.nil_append, List.append_nil, List.length_cons, List.length_nil, List.length_map, Nat.reduceAdd, Nat.reduceSub, List.replicate_zero, List.replicate_succ, List.getElem?_cons_zero, List.getElem?_cons_succ, List.set_cons_zero, List.set_cons_succ, Option.some.injEq, exists_eq_left', MV.bl.injEq, MV.int.injEq, true_and, and_true, Int.reduceLT, Int.reduceLE, Nat.reduceLT, Nat.reduceLeDiff, decide_true, decide_false, Bool.not_true, Bool.not_false, Bool.false_eq_true, if_true, if_false, reduceIte])
                by_cases g6 : left cs b = left cs (b + a)
                · rw [decide_eq_true g6]
                  (try simp only [ok_ok, ok_bind, ok_ite, ok_mVar, ok_mC, ok_mOp, ok_mUn, ok_mNil, ok_mCons, ok_mTup, ok_mLst, ok_mCB, ok_mTest, ok_mAnd, ok_mOr, ok_mNot, ok_mIf, ok_mTru, ok_truM_bl, ok_mAndV, ok_mOrV, ok_mNotV, ok_mChain, ok_mNoPart, ok_mPart, ok_mSlice, ok_mBack, ok_mCall, ok_mCallK, ok_mMeth, ok_mIter, ok_mRng1, ok_mRng2, ok_mZip, ok_rng1, ok_rng2, ok_gmName, ok_gmNil, ok_gmCons, ok_gmTup, ok_gmSub, sn_nx, sn_rt, sn_ite, sn_sSeq, sn_sNext, sn_sBreak, sn_sCont, sn_sRetN, sn_sExpr, sn_sRet, sn_sIf, sn_sAsg, sn_sPar, sn_sAug, ok_runD, sn_sFor, ok_mComp, ok_mYes, ok_add, ok_addT, ok_sub, ok_mul, ok_div, ok_mod, ok_pow, ok_lt, ok_le, ok_gt, ok_ge, ok_neg, ok_eqI, ok_neI, ok_isN, ok_notN, ok_ixT, ok_ixF, ok_slT, ok_slF, ok_backT, ok_lenT, ok_lenF, ok_abs, ok_max2, ok_min2, ok_intB, ok_divmod, ok_itT, ok_itF, ok_isiII, ok_isiIB, ok_isiIT, ok_isiTT, ok_isiTI, ok_isiSS, getAt0, getAt1, getAt2, wipeM, List.map_cons, List.map_nil, List.cons_append, List.nil_append, List.append_nil, List.length_cons, List.length_nil, List.length_map, Nat.reduceAdd, Nat.reduceSub, List.replicate_zero, List.replicate_succ, List.getElem?_cons_zero, List.getElem?_cons_succ, List.set_cons_zero, List.set_cons_succ, Option.some.injEq, exists_eq_left', MV.bl.injEq, MV.int.injEq, true_and, and_true, Int.reduceLT, Int.reduceLE, Nat.reduceLT, Nat.reduceLeDiff, decide_true, decide_false, Bool.not_true, Bool.not_false, Bool.false_eq_true, if_true, if_false, reduceIte])
                  exact ⟨(G3.trans g3').trans g4', done fun k => k.2 g6⟩
                · rw [decide_eq_false g6]
                  (try simp only [ok_ok, ok_bind, ok_ite, ok_mVar, ok_mC, ok_mOp, ok_mUn, ok_mNil, ok_mCons, ok_mTup, ok_mLst, ok_mCB, ok_mTest, ok_mAnd, ok_mOr, ok_mNot, ok_mIf, ok_mTru, ok_truM_bl, ok_mAndV, ok_mOrV, ok_mNotV, ok_mChain, ok_mNoPart, ok_mPart, ok_mSlice, ok_mBack, ok_mCall, ok_mCallK, ok_mMeth, ok_mIter, ok_mRng1, ok_mRng2, ok_mZip, ok_rng1, ok_rng2, ok_gmName, ok_gmNil, ok_gmCons, ok_gmTup, ok_gmSub, sn_nx, sn_rt, sn_ite, sn_sSeq, sn_sNext, sn_sBreak, sn_sCont, sn_sRetN, sn_sExpr, sn_sRet, sn_sIf, sn_sAsg, sn_sPar, sn_sAug, ok_runD, sn_sFor, ok_mComp, ok_mYes, ok_add, ok_addT, ok_sub, ok_mul, ok_div, ok_mod, ok_pow, ok_lt, ok_le, ok_gt, ok_ge, ok_neg, ok_eqI, ok_neI, ok_isN, ok_notN, ok_ixT, ok_ixF, ok_slT, ok_slF, ok_backT, ok_lenT, ok_lenF, ok_abs, ok_max2, ok_min2, ok_intB, ok_divmod, ok_itT, ok_itF, ok_isiII, ok_isiIB, ok_isiIT, ok_isiTT, ok_isiTI, ok_isiSS, getAt0, getAt1, getAt2, wipeM, List.map_cons, List.map_nil, List.cons_append, List.nil_append, List.append_nil, List.length_cons, List.length_nil, List.length_map, Nat.reduceAdd, Nat.reduceSub, List.replicate_zero, List.replicate_succ, List.getElem?_cons_zero, List.getElem?_cons_succ, List.set_cons_zero, List.set_cons_succ, Option.some.injEq, exists_eq_left', MV.bl.injEq, MV.int.injEq, true_and, and_true, Int.reduceLT, Int.reduceLE, Nat.reduceLT, Nat.reduceLeDiff, decide_true, decide_false, Bool.not_true, Bool.not_false, Bool.false_eq_true, if_true, if_false, reduceIte])
                  refine ⟨(G3.trans g3').trans g4', ⟨_, _, _, rfl⟩, fun k x hk e1 => ?_⟩
                  by_cases hkj : k = j
                  · subst hkj
                    rw [hy] at e1
                    cases e1
                    exact ⟨⟨g4, g5⟩, g6⟩
                  · exact hG k x (by omega) e1
              · rw [decide_eq_false g5]
                (try simp only [ok_ok, ok_bind, ok_ite, ok_mVar, ok_mC, ok_mOp, ok_mUn, ok_mNil, ok_mCons, ok_mTup, ok_mLst, ok_mCB, ok_mTest, ok_mAnd, ok_mOr, ok_mNot, ok_mIf, ok_mTru, ok_truM_bl, ok_mAndV, ok_mOrV, ok_mNotV, ok_mChain, ok_mNoPart, ok_mPart, ok_mSlice, ok_mBack, ok_mCall, ok_mCallK, ok_mMeth, ok_mIter, ok_mRng1, ok_mRng2, ok_mZip, ok_rng1, ok_rng2, ok_gmName, ok_gmNil, ok_gmCons, ok_gmTup, ok_gmSub, sn_nx, sn_rt, sn_ite, sn_sSeq, sn_sNext, sn_sBreak, sn_sCont, sn_sRetN, sn_sExpr, sn_sRet, sn_sIf, sn_sAsg, sn_sPar, sn_sAug, ok_runD, sn_sFor, ok_mComp, ok_mYes, ok_add, ok_addT, ok_sub, ok_mul, ok_div, ok_mod, ok_pow, ok_lt, ok_le, ok_gt, ok_ge, ok_neg, ok_eqI, ok_neI, ok_isN, ok_notN, ok_ixT, ok_ixF, ok_slT, ok_slF, ok_backT, ok_lenT, ok_lenF, ok_abs, ok_max2, ok_min2, ok_intB, ok_divmod, ok_itT, ok_itF, ok_isiII, ok_isiIB, ok_isiIT, ok_isiTT, ok_isiTI, ok_isiSS, getAt0, getAt1, getAt2, wipeM, List.map_cons, List.map_nil, List.cons_append, List.nil_append, List.append_nil, List.length_cons, List.length_nil, List.length_map, Nat.reduceAdd, Nat.reduceSub, List.replicate_zero, List.replicate_succ, List.getElem?_cons_zero, List.getElem?_cons_succ, List.set_cons_zero, List.set_cons_succ, Option.some.injEq, exists_eq_left', MV.bl.injEq, MV.int.injEq, true_and, and_true, Int.reduceLT, Int.reduceLE, Nat.reduceLT, Nat.reduceLeDiff, decide_true, decide_false, Bool.not_true, Bool.not_false, Bool.false_eq_true, if_true, if_false, reduceIte])
                exact ⟨G3, done fun k => g5 k.1.2⟩
            · rw [decide_eq_false g4]
              (try simp only [ok_ok, ok_bind, ok_ite, ok_mVar, ok_mC, ok_mOp, ok_mUn, ok_mNil, ok_mCons, ok_mTup, ok_mLst, ok_mCB, ok_mTest, ok_mAnd, ok_mOr, ok_mNot, ok_mIf, ok_mTru, ok_truM_bl, ok_mAndV, ok_mOrV, ok_mNotV, ok_mChain, ok_mNoPart, ok_mPart, ok_mSlice, ok_mBack, ok_mCall, ok_mCallK, ok_mMeth, ok_mIter, ok_mRng1, ok_mRng2, ok_mZip, ok_rng1, ok_rng2, ok_gmName, ok_gmNil, ok_gmCons, ok_gmTup, ok_gmSub, sn_nx, sn_rt, sn_ite, sn_sSeq, sn_sNext, sn_sBreak, sn_sCont, sn_sRetN, sn_sExpr, sn_sRet, sn_sIf, sn_sAsg, sn_sPar, sn_sAug, ok_runD, sn_sFor, ok_mComp, ok_mYes, ok_add, ok_addT, ok_sub, ok_mul, ok_div, ok_mod, ok_pow, ok_lt, ok_le, ok_gt, ok_ge, ok_neg, ok_eqI, ok_neI, ok_isN, ok_notN, ok_ixT, ok_ixF, ok_slT, ok_slF, ok_backT, ok_lenT, ok_lenF, ok_abs, ok_max2, ok_min2, ok_intB, ok_divmod, ok_itT, ok_itF, ok_isiII, ok_isiIB, ok_isiIT, ok_isiTT, ok_isiTI, ok_isiSS, getAt0, getAt1, getAt2, wipeM, List.map_cons, List.map_nil, List.cons_append, List.nil_append, List.append_nil, List.length_cons, List.length_nil, List.length_map, Nat.reduceAdd, Nat.reduceSub, List.replicate_zero, List.replicate_succ, List.getElem?_cons_zero, List.getElem?_cons_succ, List.set_cons_zero, List.set_cons_succ, Option.some.injEq, exists_eq_left', MV.bl.injEq, MV.int.injEq, true_and, and_true, Int.reduceLT, Int.reduceLE, Nat.reduceLT, Nat.reduceLeDiff, decide_true, decide_false, Bool.not_true, Bool.not_false, Bool.false_eq_true, if_true, if_false, reduceIte])
              exact ⟨G3, done fun k => g4 k.1.1⟩
          · obtain ⟨G3, ⟨y6, y7, y8, rfl⟩, hG⟩ := J
            (try simp only [ok_ok, ok_bind, ok_ite, ok_mVar, ok_mC, ok_mOp, ok_mUn, ok_mNil, ok_mCons, ok_mTup, ok_mLst, ok_mCB, ok_mTest, ok_mAnd, ok_mOr, ok_mNot, ok_mIf, ok_mTru, ok_truM_bl, ok_mAndV, ok_mOrV, ok_mNotV, ok_mChain, ok_mNoPart, ok_mPart, ok_mSlice, ok_mBack, ok_mCall, ok_mCallK, ok_mMeth, ok_mIter, ok_mRng1, ok_mRng2, ok_mZip, ok_rng1, ok_rng2, ok_gmName, ok_gmNil, ok_gmCons, ok_gmTup, ok_gmSub, sn_nx, sn_rt, sn_ite, sn_sSeq, sn_sNext, sn_sBreak, sn_sCont, sn_sRetN, sn_sExpr, sn_sRet, sn_sIf, sn_sAsg, sn_sPar, sn_sAug, ok_runD, sn_sFor, ok_mComp, ok_mYes, ok_add, ok_addT, ok_sub, ok_mul, ok_div, ok_mod, ok_pow, ok_lt, ok_le, ok_gt, ok_ge, ok_neg, ok_eqI, ok_neI, ok_isN, ok_notN, ok_ixT, ok_ixF, ok_slT, ok_slF, ok_backT, ok_lenT, ok_lenF, ok_abs, ok_max2, ok_min2, ok_intB, ok_divmod, ok_itT, ok_itF, ok_isiII, ok_isiIB, ok_isiIT, ok_isiTT, ok_isiTI, ok_isiSS, getAt0, getAt1, getAt2, wipeM, List.map_cons, List.map_nil, List.cons_append, List.nil_append, List.append_nil, List.length_cons, List.length_nil, List.length_map, Nat.reduceAdd, Nat.reduceSub, List.replicate_zero, List.replicate_succ, List.getElem?_cons_zero, List.getElem?_cons_succ, List.set_cons_zero, List.set_cons_succ, Option.some.injEq, exists_eq_left', MV.bl.injEq, MV.int.injEq, true_and, and_true, Int.reduceLT, Int.reduceLE, Nat.reduceLT, Nat.reduceLeDiff, decide_true, decide_false, Bool.not_true, Bool.not_false, Bool.false_eq_true, if_true, if_false, reduceIte])
            refine ⟨G3, c, _, _, _, _, _, _, rfl, ?_⟩
            rw [hi]
            refine ⟨fun k => k.2.2.2.2, fun k => ⟨g1, by dsimp only; omega, g3, fun n x e1 => hG n x ?_ e1, k⟩⟩
            have := (List.getElem?_eq_some_iff.mp e1).1
            rw [List.length_map]
            exact this
        · rw [decide_eq_false g3]
          (try simp only [ok_ok, ok_bind, ok_ite, ok_mVar, ok_mC, ok_mOp, ok_mUn, ok_mNil, ok_mCons, ok_mTup, ok_mLst, ok_mCB, ok_mTest, ok_mAnd, ok_mOr, ok_mNot, ok_mIf, ok_mTru, ok_truM_bl, ok_mAndV, ok_mOrV, ok_mNotV, ok_mChain, ok_mNoPart, ok_mPart, ok_mSlice, ok_mBack, ok_mCall, ok_mCallK, ok_mMeth, ok_mIter, ok_mRng1, ok_mRng2, ok_mZip, ok_rng1, ok_rng2, ok_gmName, ok_gmNil, ok_gmCons, ok_gmTup, ok_gmSub, sn_nx, sn_rt, sn_ite, sn_sSeq, sn_sNext, sn_sBreak, sn_sCont, sn_sRetN, sn_sExpr, sn_sRet, sn_sIf, sn_sAsg, sn_sPar, sn_sAug, ok_runD, sn_sFor, ok_mComp, ok_mYes, ok_add, ok_addT, ok_sub, ok_mul, ok_div, ok_mod, ok_pow, ok_lt, ok_le, ok_gt, ok_ge, ok_neg, ok_eqI, ok_neI, ok_isN, ok_notN, ok_ixT, ok_ixF, ok_slT, ok_slF, ok_backT, ok_lenT, ok_lenF, ok_abs, ok_max2, ok_min2, ok_intB, ok_divmod, ok_itT, ok_itF, ok_isiII, ok_isiIB, ok_isiIT, ok_isiTT, ok_isiTI, ok_isiSS, getAt0, getAt1, getAt2, wipeM, List.map_cons, List.map_nil, List.cons_append, List.nil_append, List.append_nil, List.length_cons, List.length_nil, List.length_map, Nat.reduceAdd, Nat.reduceSub, List.replicate_zero, List.replicate_succ, List.getElem?_cons_zero, List.getElem?_cons_succ, List.set_cons_zero, List.set_cons_succ, Option.some.injEq, exists_eq_left', MV.bl.injEq, MV.int.injEq, true_and, and_true, Int.reduceLT, Int.reduceLE, Nat.reduceLT, Nat.reduceLeDiff, decide_true, decide_false, Bool.not_true, Bool.not_false, Bool.false_eq_true, if_true, if_false, reduceIte])
          exact ⟨G2, .f fun k => g3 (hi.mp k).2.2.1⟩
    · rw [decide_eq_false g1]
      (try simp only [ok_ok, ok_bind, ok_ite, ok_mVar, ok_mC, ok_mOp, ok_mUn, ok_mNil, ok_mCons, ok_mTup, ok_mLst, ok_mCB, ok_mTest, ok_mAnd, ok_mOr, ok_mNot, ok_mIf, ok_mTru, ok_truM_bl, ok_mAndV, ok_mOrV, ok_mNotV, ok_mChain, ok_mNoPart, ok_mPart, ok_mSlice, ok_mBack, ok_mCall, ok_mCallK, ok_mMeth, ok_mIter, ok_mRng1, ok_mRng2, ok_mZip, ok_rng1, ok_rng2, ok_gmName, ok_gmNil, ok_gmCons, ok_gmTup, ok_gmSub, sn_nx, sn_rt, sn_ite, sn_sSeq, sn_sNext, sn_sBreak, sn_sCont, sn_sRetN, sn_sExpr, sn_sRet, sn_sIf, sn_sAsg, sn_sPar, sn_sAug, ok_runD, sn_sFor, ok_mComp, ok_mYes, ok_add, ok_addT, ok_sub, ok_mul, ok_div, ok_mod, ok_pow, ok_lt, ok_le, ok_gt, ok_ge, ok_neg, ok_eqI, ok_neI, ok_isN, ok_notN, ok_ixT, ok_ixF, ok_slT, ok_slF, ok_backT, ok_lenT, ok_lenF, ok_abs, ok_max2, ok_min2, ok_intB, ok_divmod, ok_itT, ok_itF, ok_isiII, ok_isiIB, ok_isiIT, ok_isiTT, ok_isiTI, ok_isiSS, getAt0, getAt1, getAt2, wipeM, List.map_cons, List.map_nil, List.cons_append, List.nil_append, List.append_nil, List.length_cons, List.length_nil, List.length_map, Nat.reduceAdd, Nat.reduceSub, List.replicate_zero, List.replicate_succ, List.getElem?_cons_zero, List.getElem?_cons_succ, List.set_cons_zero, List.set_cons_succ, Option.some.injEq, exists_eq_left', MV.bl.injEq, MV.int.injEq, true_and, and_true, Int.reduceLT, Int.reduceLE, Nat.reduceLT, Nat.reduceLeDiff, decide_true, decide_false, Bool.not_true, Bool.not_false, Bool.false_eq_true, if_true, if_false, reduceIte])
      exact ⟨G1, .f fun k => g1 (hi.mp k).1⟩
  · obtain ⟨G, sz, y3, y4, y5, y6, y7, y8, rfl, hi⟩ := I
    (try simp only [ok_ok, ok_bind, ok_ite, ok_mVar, ok_mC, ok_mOp, ok_mUn, ok_mNil, ok_mCons, ok_mTup, ok_mLst, ok_mCB, ok_mTest, ok_mAnd, ok_mOr, ok_mNot, ok_mIf, ok_mTru, ok_truM_bl, ok_mAndV, ok_mOrV, ok_mNotV, ok_mChain, ok_mNoPart, ok_mPart, ok_mSlice, ok_mBack, ok_mCall, ok_mCallK, ok_mMeth, ok_mIter, ok_mRng1, ok_mRng2, ok_mZip, ok_rng1, ok_rng2, ok_gmName, ok_gmNil, ok_gmCons, ok_gmTup, ok_gmSub, sn_nx, sn_rt, sn_ite, sn_sSeq, sn_sNext, sn_sBreak, sn_sCont, sn_sRetN, sn_sExpr, sn_sRet, sn_sIf, sn_sAsg, sn_sPar, sn_sAug, ok_runD, sn_sFor, ok_mComp, ok_mYes, ok_add, ok_addT, ok_sub, ok_mul, ok_div, ok_mod, ok_pow, ok_lt, ok_le, ok_gt, ok_ge, ok_neg, ok_eqI, ok_neI, ok_isN, ok_notN, ok_ixT, ok_ixF, ok_slT, ok_slF, ok_backT, ok_lenT, ok_lenF, ok_abs, ok_max2, ok_min2, ok_intB, ok_divmod, ok_itT, ok_itF, ok_isiII, ok_isiIB, ok_isiIT, ok_isiTT, ok_isiTI, ok_isiSS, getAt0, getAt1, getAt2, wipeM, List.map_cons, List.map_nil, List.cons_append, List.nil_append, List.append_nil, List.length_cons, List.length_nil, List.length_map, Nat.reduceAdd, Nat.reduceSub, List.replicate_zero, List.replicate_succ, List.getElem?_cons_zero, List.getElem?_cons_succ, List.set_cons_zero, List.set_cons_succ, Option.some.injEq, exists_eq_left', MV.bl.injEq, MV.int.injEq, true_and, and_true, Int.reduceLT, Int.reduceLE, Nat.reduceLT, Nat.reduceLeDiff, decide_true, decide_false, Bool.not_true, Bool.not_false, Bool.false_eq_true, if_true, if_false, reduceIte])
    refine ⟨G, .t (hi.mpr ?_)⟩
    rw [List.length_map, List.drop_length]
    trivial
theorem same_row {cs : List Int} {size c : Int} {ps : List (Int × Int)} : (ps.map (·.1) = want cs c ∧ Pl cs size ps) ↔ Bh cs size c ps := by
  unfold Pl Bh
  constructor
  · rintro ⟨h4, h5⟩
    refine ⟨by rw [← h4, List.length_map], fun i z x e1 e2 => ?_⟩
    have q := h5 i x e2
    have ec : x.1 = z := by
      rw [← h4, List.getElem?_map, e2] at e1
      exact Option.some.inj e1
    refine ⟨ec, ⟨q.1.1, by have := q.1.2; omega⟩, by rw [← ec]; exact q.2⟩
  · rintro ⟨h4, h5⟩
    have key : ∀ (i : Nat) (x : Int × Int), ps[i]? = some x → (want cs c)[i]? = some x.1 ∧ Gd cs size x.1 x := fun i x hx => by
      have hl := (List.getElem?_eq_some_iff.mp hx).1
      have hc : (want cs c)[i]? = some (want cs c)[i] := by simp [show i < (want cs c).length by omega]
      have g := h5 i _ x hc hx
      rw [hc]
      exact ⟨by rw [g.1], by rw [g.1]; exact g⟩
    refine ⟨?_, fun i x hx => ?_⟩
    · apply List.ext_getElem?
      intro i
      rw [List.getElem?_map]
      cases hx : ps[i]? with
      | none =>
        have := List.getElem?_eq_none_iff.mp hx
        exact (List.getElem?_eq_none (by omega)).symm
      | some x => exact (key i x hx).1.symm
    · obtain ⟨_, g⟩ := key i x hx
      exact ⟨⟨g.2.1.1, by have := g.2.1.2; omega⟩, g.2.2⟩
theorem same_all {cs : List Int} (C : Cuts cs) : ∀ (rs : List (Int × List (Int × Int))) (size : Int), Hc cs size rs ↔ Ch cs size rs
  | [], _ => Iff.rfl
  | x :: r, size => by
    show (x.1 ∈ cs ∧ x.1 < size ∧ x.2.map (·.1) = want cs x.1 ∧ Pl cs size x.2 ∧ Hc cs x.1 r) ↔ ((1 ≤ x.1 ∧ x.1 ≤ size - 1) ∧ x.1 ∈ cs ∧ Bh cs size x.1 x.2 ∧ Ch cs x.1 r)
    rw [same_all C r x.1, ← same_row]
    constructor
    · rintro ⟨h1, h2, h3, h4, h5⟩
      exact ⟨⟨C.pos _ h1, by omega⟩, h1, ⟨h3, h4⟩, h5⟩
    · rintro ⟨⟨h1, h2⟩, h3, ⟨h4, h5⟩, h6⟩
      exact ⟨h3, by omega, h4, h5, h6⟩
end K74

namespace K74
open Cutp
open PySem (Str)
/-- cuts of a reel of this size -/
structure Reel (cs : List Int) (size : Int) : Prop where
  C : Cuts cs
  top : ∀ c ∈ cs, c ≤ size - 1
  few : cs.length ≤ 16
theorem rng_get {lo : Int} {n i : Nat} {v : MV} (h : ((rngL lo n).map MV.int)[i]? = some v) : ∃ c, (rngL lo n)[i]? = some c ∧ v = .int c ∧ lo ≤ c ∧ c < lo + n := by
  obtain ⟨c, h1, h2⟩ := map_int_get h
  have := rngL_mem.mp (List.mem_of_getElem? h1)
  exact ⟨c, h1, h2, this.1, this.2⟩
theorem reel_sub {ds : List Int} {size : Int} (h0 : size ≤ 16) (s : ds.Sublist (rngL 1 (size - 1).toNat)) : Reel ds size := by
  have mem : ∀ c ∈ ds, 1 ≤ c ∧ c ≤ size - 1 := fun c hc => by
    have := rngL_mem.mp (s.subset hc)
    omega
  have l := s.length_le
  rw [rngL_len] at l
  exact ⟨⟨rngL_lt.sublist s, fun c hc => (mem c hc).1, by omega⟩, fun c hc => (mem c hc).2, by omega⟩
theorem take_sub {α : Type} {ds xs : List α} {i : Nat} {x : α} (s : ds.Sublist (xs.take i)) (h : xs[i]? = some x) : ds.Sublist (xs.take (i + 1)) ∧ (ds ++ [x]).Sublist (xs.take (i + 1)) := by
  have e : xs.take (i + 1) = xs.take i ++ [x] := by rw [List.take_succ, h]; rfl
  rw [e]
  exact ⟨s.trans (List.sublist_append_left _ _), s.append (List.Sublist.refl _)⟩
theorem spots_ok {p : Nat} {n size : Int} {h : Hm} (P : Pool p n h) (hn : n < 100000000) (h1 : 1 ≤ size) (h2 : size ≤ 16) :
    Ok (m__law_spots [.ref p, .int size] h) fun v h' => ∃ cs : List Int, v = .tup (cs.map .int) ∧ Reel cs size ∧ Pool p (n + 30) h' ∧ Kh p h h' := by
  unfold m__law_spots b__law_spots
  simp only [ok_ok, ok_bind, ok_ite, ok_mVar, ok_mC, ok_mOp, ok_mUn, ok_mNil, ok_mCons, ok_mTup, ok_mLst, ok_mCB, ok_mTest, ok_mAnd, ok_mOr, ok_mNot, ok_mIf, ok_mTru, ok_truM_bl, ok_mAndV, ok_mOrV, ok_mNotV, ok_mChain, ok_mNoPart, ok_mPart, ok_mSlice, ok_mBack, ok_mCall, ok_mCallK, ok_mMeth, ok_mIter, ok_mRng1, ok_mRng2, ok_mZip, ok_rng1, ok_rng2, ok_gmName, ok_gmNil, ok_gmCons, ok_gmTup, ok_gmSub, sn_nx, sn_rt, sn_ite, sn_sSeq, sn_sNext, sn_sBreak, sn_sCont, sn_sRetN, sn_sExpr, sn_sRet, sn_sIf, sn_sAsg, sn_sPar, sn_sAug, ok_runD, sn_sFor, ok_mComp, ok_mYes, ok_add, ok_addT, ok_sub, ok_mul, ok_div, ok_mod, ok_pow, ok_lt, ok_le, ok_gt, ok_ge, ok_neg, ok_eqI, ok_neI, ok_isN, ok_notN, ok_ixT, ok_ixF, ok_slT, ok_slF, ok_backT, ok_lenT, ok_lenF, ok_abs, ok_max2, ok_min2, ok_intB, ok_divmod, ok_itT, ok_itF, ok_isiII, ok_isiIB, ok_isiIT, ok_isiTT, ok_isiTI, ok_isiSS, getAt0, getAt1, getAt2, wipeM, List.map_cons, List.map_nil, List.cons_append, List.nil_append, List.append_nil, List.length_cons, List.length_nil, List.length_map, Nat.reduceAdd, Nat.reduceSub, List.replicate_zero, List.replicate_succ, List.getElem?_cons_zero, List.getElem?_cons_succ, List.set_cons_zero, List.set_cons_succ, Option.some.injEq, exists_eq_left', MV.bl.injEq, MV.int.injEq, true_and, and_true, Int.reduceLT, Int.reduceLE, Nat.reduceLT, Nat.reduceLeDiff, decide_true, decide_false, Bool.not_true, Bool.not_false, Bool.false_eq_true, if_true, if_false, reduceIte]
  by_cases g1 : size = 1
  · rw [decide_eq_true g1]
    (try simp only [ok_ok, ok_bind, ok_ite, ok_mVar, ok_mC, ok_mOp, ok_mUn, ok_mNil, ok_mCons, ok_mTup, ok_mLst, ok_mCB, ok_mTest, ok_mAnd, ok_mOr, ok_mNot, ok_mIf, ok_mTru, ok_truM_bl, ok_mAndV, ok_mOrV, ok_mNotV, ok_mChain, ok_mNoPart, ok_mPart, ok_mSlice, ok_mBack, ok_mCall, ok_mCallK, ok_mMeth, ok_mIter, ok_mRng1, ok_mRng2, ok_mZip, ok_rng1, ok_rng2, ok_gmName, ok_gmNil, ok_gmCons, ok_gmTup, ok_gmSub, sn_nx, sn_rt, sn_ite, sn_sSeq, sn_sNext, sn_sBreak, sn_sCont, sn_sRetN, sn_sExpr, sn_sRet, sn_sIf, sn_sAsg, sn_sPar, sn_sAug, ok_runD, sn_sFor, ok_mComp, ok_mYes, ok_add, ok_addT, ok_sub, ok_mul, ok_div, ok_mod, ok_pow, ok_lt, ok_le, ok_gt, ok_ge, ok_neg, ok_eqI, ok_neI, ok_isN, ok_notN, ok_ixT, ok_ixF, ok_slT, ok_slF, ok_backT, ok_lenT, ok_lenF, ok_abs, ok_max2, ok_min2, ok_intB, ok_divmod, ok_itT, ok_itF, ok_isiII, ok_isiIB, ok_isiIT, ok_isiTT, ok_isiTI, ok_isiSS, getAt0, getAt1, getAt2, wipeM, List.map_cons, List.map_nil, List.cons_append, List.nil_append, List.append_nil, List.length_cons, List.length_nil, List.length_map, Nat.reduceAdd, Nat.reduceSub, List.replicate_zero, List.replicate_succ, List.getElem?_cons_zero, List.getElem?_cons_succ, List.set_cons_zero, List.set_cons_succ, Option.some.injEq, exists_eq_left', MV.bl.injEq, MV.int.injEq, true_and, and_true, Int.reduceLT, Int.reduceLE, Nat.reduceLT, Nat.reduceLeDiff, decide_true, decide_false, Bool.not_true, Bool.not_false, Bool.false_eq_true, if_true, if_false, reduceIte])
    refine ⟨[], rfl, ⟨⟨List.Pairwise.nil, fun c hc => (nomatch hc), by decide⟩, fun c hc => (nomatch hc), by decide⟩, P.le (by omega), Kh.refl _ _⟩
  rw [decide_eq_false g1]
  (try simp only [ok_ok, ok_bind, ok_ite, ok_mVar, ok_mC, ok_mOp, ok_mUn, ok_mNil, ok_mCons, ok_mTup, ok_mLst, ok_mCB, ok_mTest, ok_mAnd, ok_mOr, ok_mNot, ok_mIf, ok_mTru, ok_truM_bl, ok_mAndV, ok_mOrV, ok_mNotV, ok_mChain, ok_mNoPart, ok_mPart, ok_mSlice, ok_mBack, ok_mCall, ok_mCallK, ok_mMeth, ok_mIter, ok_mRng1, ok_mRng2, ok_mZip, ok_rng1, ok_rng2, ok_gmName, ok_gmNil, ok_gmCons, ok_gmTup, ok_gmSub, sn_nx, sn_rt, sn_ite, sn_sSeq, sn_sNext, sn_sBreak, sn_sCont, sn_sRetN, sn_sExpr, sn_sRet, sn_sIf, sn_sAsg, sn_sPar, sn_sAug, ok_runD, sn_sFor, ok_mComp, ok_mYes, ok_add, ok_addT, ok_sub, ok_mul, ok_div, ok_mod, ok_pow, ok_lt, ok_le, ok_gt, ok_ge, ok_neg, ok_eqI, ok_neI, ok_isN, ok_notN, ok_ixT, ok_ixF, ok_slT, ok_slF, ok_backT, ok_lenT, ok_lenF, ok_abs, ok_max2, ok_min2, ok_intB, ok_divmod, ok_itT, ok_itF, ok_isiII, ok_isiIB, ok_isiIT, ok_isiTT, ok_isiTI, ok_isiSS, getAt0, getAt1, getAt2, wipeM, List.map_cons, List.map_nil, List.cons_append, List.nil_append, List.append_nil, List.length_cons, List.length_nil, List.length_map, Nat.reduceAdd, Nat.reduceSub, List.replicate_zero, List.replicate_succ, List.getElem?_cons_zero, List.getElem?_cons_succ, List.set_cons_zero, List.set_cons_succ, Option.some.injEq, exists_eq_left', MV.bl.injEq, MV.int.injEq, true_and, and_true, Int.reduceLT, Int.reduceLE, Nat.reduceLT, Nat.reduceLeDiff, decide_true, decide_false, Bool.not_true, Bool.not_false, Bool.false_eq_true, if_true, if_false, reduceIte])
  refine (draw_ok P (by omega) (by decide) (by decide)).mono fun v ha ⟨d, e, hd, P1, K1⟩ => ?_
  subst e
  (try simp only [ok_ok, ok_bind, ok_ite, ok_mVar, ok_mC, ok_mOp, ok_mUn, ok_mNil, ok_mCons, ok_mTup, ok_mLst, ok_mCB, ok_mTest, ok_mAnd, ok_mOr, ok_mNot, ok_mIf, ok_mTru, ok_truM_bl, ok_mAndV, ok_mOrV, ok_mNotV, ok_mChain, ok_mNoPart, ok_mPart, ok_mSlice, ok_mBack, ok_mCall, ok_mCallK, ok_mMeth, ok_mIter, ok_mRng1, ok_mRng2, ok_mZip, ok_rng1, ok_rng2, ok_gmName, ok_gmNil, ok_gmCons, ok_gmTup, ok_gmSub, sn_nx, sn_rt, sn_ite, sn_sSeq, sn_sNext, sn_sBreak, sn_sCont, sn_sRetN, sn_sExpr, sn_sRet, sn_sIf, sn_sAsg, sn_sPar, sn_sAug, ok_runD, sn_sFor, ok_mComp, ok_mYes, ok_add, ok_addT, ok_sub, ok_mul, ok_div, ok_mod, ok_pow, ok_lt, ok_le, ok_gt, ok_ge, ok_neg, ok_eqI, ok_neI, ok_isN, ok_notN, ok_ixT, ok_ixF, ok_slT, ok_slF, ok_backT, ok_lenT, ok_lenF, ok_abs, ok_max2, ok_min2, ok_intB, ok_divmod, ok_itT, ok_itF, ok_isiII, ok_isiIB, ok_isiIT, ok_isiTT, ok_isiTI, ok_isiSS, getAt0, getAt1, getAt2, wipeM, List.map_cons, List.map_nil, List.cons_append, List.nil_append, List.append_nil, List.length_cons, List.length_nil, List.length_map, Nat.reduceAdd, Nat.reduceSub, List.replicate_zero, List.replicate_succ, List.getElem?_cons_zero, List.getElem?_cons_succ, List.set_cons_zero, List.set_cons_succ, Option.some.injEq, exists_eq_left', MV.bl.injEq, MV.int.injEq, true_and, and_true, Int.reduceLT, Int.reduceLE, Nat.reduceLT, Nat.reduceLeDiff, decide_true, decide_false, Bool.not_true, Bool.not_false, Bool.false_eq_true, if_true, if_false, reduceIte])
  by_cases g2 : d = 0
  · rw [decide_eq_true g2]
    (try simp only [ok_ok, ok_bind, ok_ite, ok_mVar, ok_mC, ok_mOp, ok_mUn, ok_mNil, ok_mCons, ok_mTup, ok_mLst, ok_mCB, ok_mTest, ok_mAnd, ok_mOr, ok_mNot, ok_mIf, ok_mTru, ok_truM_bl, ok_mAndV, ok_mOrV, ok_mNotV, ok_mChain, ok_mNoPart, ok_mPart, ok_mSlice, ok_mBack, ok_mCall, ok_mCallK, ok_mMeth, ok_mIter, ok_mRng1, ok_mRng2, ok_mZip, ok_rng1, ok_rng2, ok_gmName, ok_gmNil, ok_gmCons, ok_gmTup, ok_gmSub, sn_nx, sn_rt, sn_ite, sn_sSeq, sn_sNext, sn_sBreak, sn_sCont, sn_sRetN, sn_sExpr, sn_sRet, sn_sIf, sn_sAsg, sn_sPar, sn_sAug, ok_runD, sn_sFor, ok_mComp, ok_mYes, ok_add, ok_addT, ok_sub, ok_mul, ok_div, ok_mod, ok_pow, ok_lt, ok_le, ok_gt, ok_ge, ok_neg, ok_eqI, ok_neI, ok_isN, ok_notN, ok_ixT, ok_ixF, ok_slT, ok_slF, ok_backT, ok_lenT, ok_lenF, ok_abs, ok_max2, ok_min2, ok_intB, ok_divmod, ok_itT, ok_itF, ok_isiII, ok_isiIB, ok_isiIT, ok_isiTT, ok_isiTI, ok_isiSS, getAt0, getAt1, getAt2, wipeM, List.map_cons, List.map_nil, List.cons_append, List.nil_append, List.append_nil, List.length_cons, List.length_nil, List.length_map, Nat.reduceAdd, Nat.reduceSub, List.replicate_zero, List.replicate_succ, List.getElem?_cons_zero, List.getElem?_cons_succ, List.set_cons_zero, List.set_cons_succ, Option.some.injEq, exists_eq_left', MV.bl.injEq, MV.int.injEq, true_and, and_true, Int.reduceLT, Int.reduceLE, Nat.reduceLT, Nat.reduceLeDiff, decide_true, decide_false, Bool.not_true, Bool.not_false, Bool.false_eq_true, if_true, if_false, reduceIte])
    refine ⟨by omega, ?_⟩
    refine comp_ok ((rngL 1 (size - 1).toNat).map .int) (fun i acc h' => ∃ ds : List Int, acc = ds.map .int ∧ ds.Sublist ((rngL 1 (size - 1).toNat).take i) ∧ Pool p (n + 1 + i) h' ∧ Kh p h h' ∧ i ≤ 16) (by rw [List.length_map, rngL_len]; exact Nat.le_trans (show (size - 1).toNat ≤ 16 by omega) (by decide)) ⟨[], rfl, List.nil_sublist _, P1.le (by omega), K1, by decide⟩ (fun i acc h' q => itRng_at) (fun i v hv acc h' I => ?_) (fun acc h' I => ?_)
    · obtain ⟨c, hc, rfl, b1, b2⟩ := rng_get hv
      obtain ⟨ds, rfl, hs, P2, K2, hi⟩ := I
      have hil : i < (size - 1).toNat := by
        have := (List.getElem?_eq_some_iff.mp hc).1
        rw [rngL_len] at this
        exact this
      simp only [ok_ok, ok_bind, ok_ite, ok_mVar, ok_mC, ok_mOp, ok_mUn, ok_mNil, ok_mCons, ok_mTup, ok_mLst, ok_mCB, ok_mTest, ok_mAnd, ok_mOr, ok_mNot, ok_mIf, ok_mTru, ok_truM_bl, ok_mAndV, ok_mOrV, ok_mNotV, ok_mChain, ok_mNoPart, ok_mPart, ok_mSlice, ok_mBack, ok_mCall, ok_mCallK, ok_mMeth, ok_mIter, ok_mRng1, ok_mRng2, ok_mZip, ok_rng1, ok_rng2, ok_gmName, ok_gmNil, ok_gmCons, ok_gmTup, ok_gmSub, sn_nx, sn_rt, sn_ite, sn_sSeq, sn_sNext, sn_sBreak, sn_sCont, sn_sRetN, sn_sExpr, sn_sRet, sn_sIf, sn_sAsg, sn_sPar, sn_sAug, ok_runD, sn_sFor, ok_mComp, ok_mYes, ok_add, ok_addT, ok_sub, ok_mul, ok_div, ok_mod, ok_pow, ok_lt, ok_le, ok_gt, ok_ge, ok_neg, ok_eqI, ok_neI, ok_isN, ok_notN, ok_ixT, ok_ixF, ok_slT, ok_slF, ok_backT, ok_lenT, ok_lenF, ok_abs, ok_max2, ok_min2, ok_intB, ok_divmod, ok_itT, ok_itF, ok_isiII, ok_isiIB, ok_isiIT, ok_isiTT, ok_isiTI, ok_isiSS, getAt0, getAt1, getAt2, wipeM, List.map_cons, List.map_nil, List.cons_append, List.nil_append, List.append_nil, List.length_cons, List.length_nil, List.length_map, Nat.reduceAdd, Nat.reduceSub, List.replicate_zero, List.replicate_succ, List.getElem?_cons_zero, List.getElem?_cons_succ, List.set_cons_zero, List.set_cons_succ, Option.some.injEq, exists_eq_left', MV.bl.injEq, MV.int.injEq, true_and, and_true, Int.reduceLT, Int.reduceLE, Nat.reduceLT, Nat.reduceLeDiff, decide_true, decide_false, Bool.not_true, Bool.not_false, Bool.false_eq_true, if_true, if_false, reduceIte]
      refine (draw_ok P2 (by omega) (by decide) (by decide)).mono fun v hb ⟨d, e, hd, P3, K3⟩ => ?_
      subst e
      (try simp only [ok_ok, ok_bind, ok_ite, ok_mVar, ok_mC, ok_mOp, ok_mUn, ok_mNil, ok_mCons, ok_mTup, ok_mLst, ok_mCB, ok_mTest, ok_mAnd, ok_mOr, ok_mNot, ok_mIf, ok_mTru, ok_truM_bl, ok_mAndV, ok_mOrV, ok_mNotV, ok_mChain, ok_mNoPart, ok_mPart, ok_mSlice, ok_mBack, ok_mCall, ok_mCallK, ok_mMeth, ok_mIter, ok_mRng1, ok_mRng2, ok_mZip, ok_rng1, ok_rng2, ok_gmName, ok_gmNil, ok_gmCons, ok_gmTup, ok_gmSub, sn_nx, sn_rt, sn_ite, sn_sSeq, sn_sNext, sn_sBreak, sn_sCont, sn_sRetN, sn_sExpr, sn_sRet, sn_sIf, sn_sAsg, sn_sPar, sn_sAug, ok_runD, sn_sFor, ok_mComp, ok_mYes, ok_add, ok_addT, ok_sub, ok_mul, ok_div, ok_mod, ok_pow, ok_lt, ok_le, ok_gt, ok_ge, ok_neg, ok_eqI, ok_neI, ok_isN, ok_notN, ok_ixT, ok_ixF, ok_slT, ok_slF, ok_backT, ok_lenT, ok_lenF, ok_abs, ok_max2, ok_min2, ok_intB, ok_divmod, ok_itT, ok_itF, ok_isiII, ok_isiIB, ok_isiIT, ok_isiTT, ok_isiTI, ok_isiSS, getAt0, getAt1, getAt2, wipeM, List.map_cons, List.map_nil, List.cons_append, List.nil_append, List.append_nil, List.length_cons, List.length_nil, List.length_map, Nat.reduceAdd, Nat.reduceSub, List.replicate_zero, List.replicate_succ, List.getElem?_cons_zero, List.getElem?_cons_succ, List.set_cons_zero, List.set_cons_succ, Option.some.injEq, exists_eq_left', MV.bl.injEq, MV.int.injEq, true_and, and_true, Int.reduceLT, Int.reduceLE, Nat.reduceLT, Nat.reduceLeDiff, decide_true, decide_false, Bool.not_true, Bool.not_false, Bool.false_eq_true, if_true, if_false, reduceIte])
      obtain ⟨s1, s2⟩ := take_sub hs hc
      have hl := hs.length_le
      rw [List.length_take] at hl
      by_cases g3 : d = 0
      · rw [decide_eq_true g3]
        (try simp only [ok_ok, ok_bind, ok_ite, ok_mVar, ok_mC, ok_mOp, ok_mUn, ok_mNil, ok_mCons, ok_mTup, ok_mLst, ok_mCB, ok_mTest, ok_mAnd, ok_mOr, ok_mNot, ok_mIf, ok_mTru, ok_truM_bl, ok_mAndV, ok_mOrV, ok_mNotV, ok_mChain, ok_mNoPart, ok_mPart, ok_mSlice, ok_mBack, ok_mCall, ok_mCallK, ok_mMeth, ok_mIter, ok_mRng1, ok_mRng2, ok_mZip, ok_rng1, ok_rng2, ok_gmName, ok_gmNil, ok_gmCons, ok_gmTup, ok_gmSub, sn_nx, sn_rt, sn_ite, sn_sSeq, sn_sNext, sn_sBreak, sn_sCont, sn_sRetN, sn_sExpr, sn_sRet, sn_sIf, sn_sAsg, sn_sPar, sn_sAug, ok_runD, sn_sFor, ok_mComp, ok_mYes, ok_add, ok_addT, ok_sub, ok_mul, ok_div, ok_mod, ok_pow, ok_lt, ok_le, ok_gt, ok_ge, ok_neg, ok_eqI, ok_neI, ok_isN, ok_notN, ok_ixT, ok_ixF, ok_slT, ok_slF, ok_backT, ok_lenT, ok_lenF, ok_abs, ok_max2, ok_min2, ok_intB, ok_divmod, ok_itT, ok_itF, ok_isiII, ok_isiIB, ok_isiIT, ok_isiTT, ok_isiTI, ok_isiSS, getAt0, getAt1, getAt2, wipeM, List.map_cons, List.map_nil, List.cons_append, List.nil_append, List.append_nil, List.length_cons, List.length_nil, List.length_map, Nat.reduceAdd, Nat.reduceSub, List.replicate_zero, List.replicate_succ, List.getElem?_cons_zero, List.getElem?_cons_succ, List.set_cons_zero, List.set_cons_succ, Option.some.injEq, exists_eq_left', MV.bl.injEq, MV.int.injEq, true_and, and_true, Int.reduceLT, Int.reduceLE, Nat.reduceLT, Nat.reduceLeDiff, decide_true, decide_false, Bool.not_true, Bool.not_false, Bool.false_eq_true, if_true, if_false, reduceIte])
        refine ⟨by omega, ds ++ [c], by simp, s2, P3.le (by omega), K2.trans K3, by omega⟩
      · rw [decide_eq_false g3]
        (try simp only [ok_ok, ok_bind, ok_ite, ok_mVar, ok_mC, ok_mOp, ok_mUn, ok_mNil, ok_mCons, ok_mTup, ok_mLst, ok_mCB, ok_mTest, ok_mAnd, ok_mOr, ok_mNot, ok_mIf, ok_mTru, ok_truM_bl, ok_mAndV, ok_mOrV, ok_mNotV, ok_mChain, ok_mNoPart, ok_mPart, ok_mSlice, ok_mBack, ok_mCall, ok_mCallK, ok_mMeth, ok_mIter, ok_mRng1, ok_mRng2, ok_mZip, ok_rng1, ok_rng2, ok_gmName, ok_gmNil, ok_gmCons, ok_gmTup, ok_gmSub, sn_nx, sn_rt, sn_ite, sn_sSeq, sn_sNext, sn_sBreak, sn_sCont, sn_sRetN, sn_sExpr, sn_sRet, sn_sIf, sn_sAsg, sn_sPar, sn_sAug, ok_runD, sn_sFor, ok_mComp, ok_mYes, ok_add, ok_addT, ok_sub, ok_mul, ok_div, ok_mod, ok_pow, ok_lt, ok_le, ok_gt, ok_ge, ok_neg, ok_eqI, ok_neI, ok_isN, ok_notN, ok_ixT, ok_ixF, ok_slT, ok_slF, ok_backT, ok_lenT, ok_lenF, ok_abs, ok_max2, ok_min2, ok_intB, ok_divmod, ok_itT, ok_itF, ok_isiII, ok_isiIB, ok_isiIT, ok_isiTT, ok_isiTI, ok_isiSS, getAt0, getAt1, getAt2, wipeM, List.map_cons, List.map_nil, List.cons_append, List.nil_append, List.append_nil, List.length_cons, List.length_nil, List.length_map, Nat.reduceAdd, Nat.reduceSub, List.replicate_zero, List.replicate_succ, List.getElem?_cons_zero, List.getElem?_cons_succ, List.set_cons_zero, List.set_cons_succ, Option.some.injEq, exists_eq_left', MV.bl.injEq, MV.int.injEq, true_and, and_true, Int.reduceLT, Int.reduceLE, Nat.reduceLT, Nat.reduceLeDiff, decide_true, decide_false, Bool.not_true, Bool.not_false, Bool.false_eq_true, if_true, if_false, reduceIte])
        exact ⟨ds, rfl, s1, P3.le (by omega), K2.trans K3, by omega⟩
    · obtain ⟨ds, rfl, hs, P2, K2, hi⟩ := I
      rw [ok_tupleL new_at]
      refine ⟨ds, rfl, reel_sub h2 (by rw [List.length_map, List.take_length] at hs; exact hs), (P2.gr (Gr.one _ _)).le (by rw [List.length_map, rngL_len]; omega), K2.trans ((Gr.one _ _).kh p)⟩
  rw [decide_eq_false g2]
  (try simp only [ok_ok, ok_bind, ok_ite, ok_mVar, ok_mC, ok_mOp, ok_mUn, ok_mNil, ok_mCons, ok_mTup, ok_mLst, ok_mCB, ok_mTest, ok_mAnd, ok_mOr, ok_mNot, ok_mIf, ok_mTru, ok_truM_bl, ok_mAndV, ok_mOrV, ok_mNotV, ok_mChain, ok_mNoPart, ok_mPart, ok_mSlice, ok_mBack, ok_mCall, ok_mCallK, ok_mMeth, ok_mIter, ok_mRng1, ok_mRng2, ok_mZip, ok_rng1, ok_rng2, ok_gmName, ok_gmNil, ok_gmCons, ok_gmTup, ok_gmSub, sn_nx, sn_rt, sn_ite, sn_sSeq, sn_sNext, sn_sBreak, sn_sCont, sn_sRetN, sn_sExpr, sn_sRet, sn_sIf, sn_sAsg, sn_sPar, sn_sAug, ok_runD, sn_sFor, ok_mComp, ok_mYes, ok_add, ok_addT, ok_sub, ok_mul, ok_div, ok_mod, ok_pow, ok_lt, ok_le, ok_gt, ok_ge, ok_neg, ok_eqI, ok_neI, ok_isN, ok_notN, ok_ixT, ok_ixF, ok_slT, ok_slF, ok_backT, ok_lenT, ok_lenF, ok_abs, ok_max2, ok_min2, ok_intB, ok_divmod, ok_itT, ok_itF, ok_isiII, ok_isiIB, ok_isiIT, ok_isiTT, ok_isiTI, ok_isiSS, getAt0, getAt1, getAt2, wipeM, List.map_cons, List.map_nil, List.cons_append, List.nil_append, List.append_nil, List.length_cons, List.length_nil, List.length_map, Nat.reduceAdd, Nat.reduceSub, List.replicate_zero, List.replicate_succ, List.getElem?_cons_zero, List.getElem?_cons_succ, List.set_cons_zero, List.set_cons_succ, Option.some.injEq, exists_eq_left', MV.bl.injEq, MV.int.injEq, true_and, and_true, Int.reduceLT, Int.reduceLE, Nat.reduceLT, Nat.reduceLeDiff, decide_true, decide_false, Bool.not_true, Bool.not_false, Bool.false_eq_true, if_true, if_false, reduceIte])
  refine (draw_ok P1 (by omega) (by decide) (by decide)).mono fun v hb ⟨d3, e, hd3, P2, K2⟩ => ?_
  subst e
  (try simp only [ok_ok, ok_bind, ok_ite, ok_mVar, ok_mC, ok_mOp, ok_mUn, ok_mNil, ok_mCons, ok_mTup, ok_mLst, ok_mCB, ok_mTest, ok_mAnd, ok_mOr, ok_mNot, ok_mIf, ok_mTru, ok_truM_bl, ok_mAndV, ok_mOrV, ok_mNotV, ok_mChain, ok_mNoPart, ok_mPart, ok_mSlice, ok_mBack, ok_mCall, ok_mCallK, ok_mMeth, ok_mIter, ok_mRng1, ok_mRng2, ok_mZip, ok_rng1, ok_rng2, ok_gmName, ok_gmNil, ok_gmCons, ok_gmTup, ok_gmSub, sn_nx, sn_rt, sn_ite, sn_sSeq, sn_sNext, sn_sBreak, sn_sCont, sn_sRetN, sn_sExpr, sn_sRet, sn_sIf, sn_sAsg, sn_sPar, sn_sAug, ok_runD, sn_sFor, ok_mComp, ok_mYes, ok_add, ok_addT, ok_sub, ok_mul, ok_div, ok_mod, ok_pow, ok_lt, ok_le, ok_gt, ok_ge, ok_neg, ok_eqI, ok_neI, ok_isN, ok_notN, ok_ixT, ok_ixF, ok_slT, ok_slF, ok_backT, ok_lenT, ok_lenF, ok_abs, ok_max2, ok_min2, ok_intB, ok_divmod, ok_itT, ok_itF, ok_isiII, ok_isiIB, ok_isiIT, ok_isiTT, ok_isiTI, ok_isiSS, getAt0, getAt1, getAt2, wipeM, List.map_cons, List.map_nil, List.cons_append, List.nil_append, List.append_nil, List.length_cons, List.length_nil, List.length_map, Nat.reduceAdd, Nat.reduceSub, List.replicate_zero, List.replicate_succ, List.getElem?_cons_zero, List.getElem?_cons_succ, List.set_cons_zero, List.set_cons_succ, Option.some.injEq, exists_eq_left', MV.bl.injEq, MV.int.injEq, true_and, and_true, Int.reduceLT, Int.reduceLE, Nat.reduceLT, Nat.reduceLeDiff, decide_true, decide_false, Bool.not_true, Bool.not_false, Bool.false_eq_true, if_true, if_false, reduceIte])
  refine ⟨by omega, ?_⟩
  refine comp_ok ((rngL 0 (1 + d3).toNat).map .int) (fun i acc h' => ∃ ms : List Int, acc = ms.map .int ∧ (∀ m ∈ ms, 0 < m) ∧ ms.length = i ∧ Pool p (n + 2 + i) h' ∧ Kh p h h' ∧ i ≤ 16) (by rw [List.length_map, rngL_len]; exact Nat.le_trans (show (1 + d3).toNat ≤ 16 by omega) (by decide)) ⟨[], rfl, (fun m hm => nomatch hm), rfl, P2.le (by omega), K1.trans K2, by decide⟩ (fun i acc h' q => itRng_at) (fun i v hv acc h' I => ?_) (fun ms0 hc0 I => ?_)
  · obtain ⟨c, hc, rfl, b1, b2⟩ := rng_get hv
    obtain ⟨ms, rfl, hm, hl, P3, K3, hi⟩ := I
    have hil : i < (1 + d3).toNat := by
      have := (List.getElem?_eq_some_iff.mp hc).1
      rw [rngL_len] at this
      exact this
    simp only [ok_ok, ok_bind, ok_ite, ok_mVar, ok_mC, ok_mOp, ok_mUn, ok_mNil, ok_mCons, ok_mTup, ok_mLst, ok_mCB, ok_mTest, ok_mAnd, ok_mOr, ok_mNot, ok_mIf, ok_mTru, ok_truM_bl, ok_mAndV, ok_mOrV, ok_mNotV, ok_mChain, ok_mNoPart, ok_mPart, ok_mSlice, ok_mBack, ok_mCall, ok_mCallK, ok_mMeth, ok_mIter, ok_mRng1, ok_mRng2, ok_mZip, ok_rng1, ok_rng2, ok_gmName, ok_gmNil, ok_gmCons, ok_gmTup, ok_gmSub, sn_nx, sn_rt, sn_ite, sn_sSeq, sn_sNext, sn_sBreak, sn_sCont, sn_sRetN, sn_sExpr, sn_sRet, sn_sIf, sn_sAsg, sn_sPar, sn_sAug, ok_runD, sn_sFor, ok_mComp, ok_mYes, ok_add, ok_addT, ok_sub, ok_mul, ok_div, ok_mod, ok_pow, ok_lt, ok_le, ok_gt, ok_ge, ok_neg, ok_eqI, ok_neI, ok_isN, ok_notN, ok_ixT, ok_ixF, ok_slT, ok_slF, ok_backT, ok_lenT, ok_lenF, ok_abs, ok_max2, ok_min2, ok_intB, ok_divmod, ok_itT, ok_itF, ok_isiII, ok_isiIB, ok_isiIT, ok_isiTT, ok_isiTI, ok_isiSS, getAt0, getAt1, getAt2, wipeM, List.map_cons, List.map_nil, List.cons_append, List.nil_append, List.append_nil, List.length_cons, List.length_nil, List.length_map, Nat.reduceAdd, Nat.reduceSub, List.replicate_zero, List.replicate_succ, List.getElem?_cons_zero, List.getElem?_cons_succ, List.set_cons_zero, List.set_cons_succ, Option.some.injEq, exists_eq_left', MV.bl.injEq, MV.int.injEq, true_and, and_true, Int.reduceLT, Int.reduceLE, Nat.reduceLT, Nat.reduceLeDiff, decide_true, decide_false, Bool.not_true, Bool.not_false, Bool.false_eq_true, if_true, if_false, reduceIte]
    refine (draw_ok P3 (by omega) (by decide) (by decide)).mono fun v hb ⟨d, e, hd, P4, K4⟩ => ?_
    subst e
    (try simp only [ok_ok, ok_bind, ok_ite, ok_mVar, ok_mC, ok_mOp, ok_mUn, ok_mNil, ok_mCons, ok_mTup, ok_mLst, ok_mCB, ok_mTest, ok_mAnd, ok_mOr, ok_mNot, ok_mIf, ok_mTru, ok_truM_bl, ok_mAndV, ok_mOrV, ok_mNotV, ok_mChain, ok_mNoPart, ok_mPart, ok_mSlice, ok_mBack, ok_mCall, ok_mCallK, ok_mMeth, ok_mIter, ok_mRng1, ok_mRng2, ok_mZip, ok_rng1, ok_rng2, ok_gmName, ok_gmNil, ok_gmCons, ok_gmTup, ok_gmSub, sn_nx, sn_rt, sn_ite, sn_sSeq, sn_sNext, sn_sBreak, sn_sCont, sn_sRetN, sn_sExpr, sn_sRet, sn_sIf, sn_sAsg, sn_sPar, sn_sAug, ok_runD, sn_sFor, ok_mComp, ok_mYes, ok_add, ok_addT, ok_sub, ok_mul, ok_div, ok_mod, ok_pow, ok_lt, ok_le, ok_gt, ok_ge, ok_neg, ok_eqI, ok_neI, ok_isN, ok_notN, ok_ixT, ok_ixF, ok_slT, ok_slF, ok_backT, ok_lenT, ok_lenF, ok_abs, ok_max2, ok_min2, ok_intB, ok_divmod, ok_itT, ok_itF, ok_isiII, ok_isiIB, ok_isiIT, ok_isiTT, ok_isiTI, ok_isiSS, getAt0, getAt1, getAt2, wipeM, List.map_cons, List.map_nil, List.cons_append, List.nil_append, List.append_nil, List.length_cons, List.length_nil, List.length_map, Nat.reduceAdd, Nat.reduceSub, List.replicate_zero, List.replicate_succ, List.getElem?_cons_zero, List.getElem?_cons_succ, List.set_cons_zero, List.set_cons_succ, Option.some.injEq, exists_eq_left', MV.bl.injEq, MV.int.injEq, true_and, and_true, Int.reduceLT, Int.reduceLE, Nat.reduceLT, Nat.reduceLeDiff, decide_true, decide_false, Bool.not_true, Bool.not_false, Bool.false_eq_true, if_true, if_false, reduceIte])
    refine ⟨by omega, ms ++ [1 + d], by simp, fun m hm' => ?_, by simp [hl], P4.le (by omega), K3.trans K4, by omega⟩
    rcases List.mem_append.mp hm' with z | z
    · exact hm m z
    · rw [List.mem_singleton] at z
      omega
  obtain ⟨ms, rfl, hm, hl, P3, K3, hi⟩ := I
  rw [List.length_map, rngL_len] at *
  have hmL : (hc0 ++ [MO.lst (ms.map .int)])[hc0.length]? = some (.lst (ms.map .int)) := new_at
  have P4 := P3.gr (Gr.one hc0 (MO.lst (ms.map .int)))
  have K4 := K3.trans ((Gr.one hc0 (MO.lst (ms.map .int))).kh p)
  generalize hc0 ++ [MO.lst (ms.map .int)] = hM at *
  (try simp only [ok_ok, ok_bind, ok_ite, ok_mVar, ok_mC, ok_mOp, ok_mUn, ok_mNil, ok_mCons, ok_mTup, ok_mLst, ok_mCB, ok_mTest, ok_mAnd, ok_mOr, ok_mNot, ok_mIf, ok_mTru, ok_truM_bl, ok_mAndV, ok_mOrV, ok_mNotV, ok_mChain, ok_mNoPart, ok_mPart, ok_mSlice, ok_mBack, ok_mCall, ok_mCallK, ok_mMeth, ok_mIter, ok_mRng1, ok_mRng2, ok_mZip, ok_rng1, ok_rng2, ok_gmName, ok_gmNil, ok_gmCons, ok_gmTup, ok_gmSub, sn_nx, sn_rt, sn_ite, sn_sSeq, sn_sNext, sn_sBreak, sn_sCont, sn_sRetN, sn_sExpr, sn_sRet, sn_sIf, sn_sAsg, sn_sPar, sn_sAug, ok_runD, sn_sFor, ok_mComp, ok_mYes, ok_add, ok_addT, ok_sub, ok_mul, ok_div, ok_mod, ok_pow, ok_lt, ok_le, ok_gt, ok_ge, ok_neg, ok_eqI, ok_neI, ok_isN, ok_notN, ok_ixT, ok_ixF, ok_slT, ok_slF, ok_backT, ok_lenT, ok_lenF, ok_abs, ok_max2, ok_min2, ok_intB, ok_divmod, ok_itT, ok_itF, ok_isiII, ok_isiIB, ok_isiIT, ok_isiTT, ok_isiTI, ok_isiSS, getAt0, getAt1, getAt2, wipeM, List.map_cons, List.map_nil, List.cons_append, List.nil_append, List.append_nil, List.length_cons, List.length_nil, List.length_map, Nat.reduceAdd, Nat.reduceSub, List.replicate_zero, List.replicate_succ, List.getElem?_cons_zero, List.getElem?_cons_succ, List.set_cons_zero, List.set_cons_succ, Option.some.injEq, exists_eq_left', MV.bl.injEq, MV.int.injEq, true_and, and_true, Int.reduceLT, Int.reduceLE, Nat.reduceLT, Nat.reduceLeDiff, decide_true, decide_false, Bool.not_true, Bool.not_false, Bool.false_eq_true, if_true, if_false, reduceIte])
  refine ⟨by omega, ?_⟩
  refine comp_ok ((rngL 1 (size - 1).toNat).map .int) (fun i acc h' => h' = hM ∧ ∃ ds : List Int, acc = ds.map .int ∧ ds.Sublist ((rngL 1 (size - 1).toNat).take i)) (by rw [List.length_map, rngL_len]; exact Nat.le_trans (show (size - 1).toNat ≤ 16 by omega) (by decide)) ⟨rfl, [], rfl, List.nil_sublist _⟩ (fun i acc h' q => itRng_at) (fun i v hv acc h' I => ?_) (fun ds0 hd0 I => ?_)
  · obtain ⟨c, hc, rfl, b1, b2⟩ := rng_get hv
    obtain ⟨rfl, ds, rfl, hs⟩ := I
    simp only [ok_ok, ok_bind, ok_ite, ok_mVar, ok_mC, ok_mOp, ok_mUn, ok_mNil, ok_mCons, ok_mTup, ok_mLst, ok_mCB, ok_mTest, ok_mAnd, ok_mOr, ok_mNot, ok_mIf, ok_mTru, ok_truM_bl, ok_mAndV, ok_mOrV, ok_mNotV, ok_mChain, ok_mNoPart, ok_mPart, ok_mSlice, ok_mBack, ok_mCall, ok_mCallK, ok_mMeth, ok_mIter, ok_mRng1, ok_mRng2, ok_mZip, ok_rng1, ok_rng2, ok_gmName, ok_gmNil, ok_gmCons, ok_gmTup, ok_gmSub, sn_nx, sn_rt, sn_ite, sn_sSeq, sn_sNext, sn_sBreak, sn_sCont, sn_sRetN, sn_sExpr, sn_sRet, sn_sIf, sn_sAsg, sn_sPar, sn_sAug, ok_runD, sn_sFor, ok_mComp, ok_mYes, ok_add, ok_addT, ok_sub, ok_mul, ok_div, ok_mod, ok_pow, ok_lt, ok_le, ok_gt, ok_ge, ok_neg, ok_eqI, ok_neI, ok_isN, ok_notN, ok_ixT, ok_ixF, ok_slT, ok_slF, ok_backT, ok_lenT, ok_lenF, ok_abs, ok_max2, ok_min2, ok_intB, ok_divmod, ok_itT, ok_itF, ok_isiII, ok_isiIB, ok_isiIT, ok_isiTT, ok_isiTI, ok_isiSS, getAt0, getAt1, getAt2, wipeM, List.map_cons, List.map_nil, List.cons_append, List.nil_append, List.append_nil, List.length_cons, List.length_nil, List.length_map, Nat.reduceAdd, Nat.reduceSub, List.replicate_zero, List.replicate_succ, List.getElem?_cons_zero, List.getElem?_cons_succ, List.set_cons_zero, List.set_cons_succ, Option.some.injEq, exists_eq_left', MV.bl.injEq, MV.int.injEq, true_and, and_true, Int.reduceLT, Int.reduceLE, Nat.reduceLT, Nat.reduceLeDiff, decide_true, decide_false, Bool.not_true, Bool.not_false, Bool.false_eq_true, if_true, if_false, reduceIte]
    refine (rest_ok hmL hm (by omega)).mono fun v hb ⟨r, e, eh⟩ => ?_
    subst e eh
    (try simp only [ok_ok, ok_bind, ok_ite, ok_mVar, ok_mC, ok_mOp, ok_mUn, ok_mNil, ok_mCons, ok_mTup, ok_mLst, ok_mCB, ok_mTest, ok_mAnd, ok_mOr, ok_mNot, ok_mIf, ok_mTru, ok_truM_bl, ok_mAndV, ok_mOrV, ok_mNotV, ok_mChain, ok_mNoPart, ok_mPart, ok_mSlice, ok_mBack, ok_mCall, ok_mCallK, ok_mMeth, ok_mIter, ok_mRng1, ok_mRng2, ok_mZip, ok_rng1, ok_rng2, ok_gmName, ok_gmNil, ok_gmCons, ok_gmTup, ok_gmSub, sn_nx, sn_rt, sn_ite, sn_sSeq, sn_sNext, sn_sBreak, sn_sCont, sn_sRetN, sn_sExpr, sn_sRet, sn_sIf, sn_sAsg, sn_sPar, sn_sAug, ok_runD, sn_sFor, ok_mComp, ok_mYes, ok_add, ok_addT, ok_sub, ok_mul, ok_div, ok_mod, ok_pow, ok_lt, ok_le, ok_gt, ok_ge, ok_neg, ok_eqI, ok_neI, ok_isN, ok_notN, ok_ixT, ok_ixF, ok_slT, ok_slF, ok_backT, ok_lenT, ok_lenF, ok_abs, ok_max2, ok_min2, ok_intB, ok_divmod, ok_itT, ok_itF, ok_isiII, ok_isiIB, ok_isiIT, ok_isiTT, ok_isiTI, ok_isiSS, getAt0, getAt1, getAt2, wipeM, List.map_cons, List.map_nil, List.cons_append, List.nil_append, List.append_nil, List.length_cons, List.length_nil, List.length_map, Nat.reduceAdd, Nat.reduceSub, List.replicate_zero, List.replicate_succ, List.getElem?_cons_zero, List.getElem?_cons_succ, List.set_cons_zero, List.set_cons_succ, Option.some.injEq, exists_eq_left', MV.bl.injEq, MV.int.injEq, true_and, and_true, Int.reduceLT, Int.reduceLE, Nat.reduceLT, Nat.reduceLeDiff, decide_true, decide_false, Bool.not_true, Bool.not_false, Bool.false_eq_true, if_true, if_false, reduceIte])
    obtain ⟨s1, s2⟩ := take_sub hs hc
    have hl := hs.length_le
    rw [List.length_take, rngL_len] at hl
    by_cases g3 : r = 0
    · rw [decide_eq_true g3]
      (try simp only [ok_ok, ok_bind, ok_ite, ok_mVar, ok_mC, ok_mOp, ok_mUn, ok_mNil, ok_mCons, ok_mTup, ok_mLst, ok_mCB, ok_mTest, ok_mAnd, ok_mOr, ok_mNot, ok_mIf, ok_mTru, ok_truM_bl, ok_mAndV, ok_mOrV, ok_mNotV, ok_mChain, ok_mNoPart, ok_mPart, ok_mSlice, ok_mBack, ok_mCall, ok_mCallK, ok_mMeth, ok_mIter, ok_mRng1, ok_mRng2, ok_mZip, ok_rng1, ok_rng2, ok_gmName, ok_gmNil, ok_gmCons, ok_gmTup, ok_gmSub, sn_nx, sn_rt, sn_ite, sn_sSeq, sn_sNext, sn_sBreak, sn_sCont, sn_sRetN, sn_sExpr, sn_sRet, sn_sIf, sn_sAsg, sn_sPar, sn_sAug, ok_runD, sn_sFor, ok_mComp, ok_mYes, ok_add, ok_addT, ok_sub, ok_mul, ok_div, ok_mod, ok_pow, ok_lt, ok_le, ok_gt, ok_ge, ok_neg, ok_eqI, ok_neI, ok_isN, ok_notN, ok_ixT, ok_ixF, ok_slT, ok_slF, ok_backT, ok_lenT, ok_lenF, ok_abs, ok_max2, ok_min2, ok_intB, ok_divmod, ok_itT, ok_itF, ok_isiII, ok_isiIB, ok_isiIT, ok_isiTT, ok_isiTI, ok_isiSS, getAt0, getAt1, getAt2, wipeM, List.map_cons, List.map_nil, List.cons_append, List.nil_append, List.append_nil, List.length_cons, List.length_nil, List.length_map, Nat.reduceAdd, Nat.reduceSub, List.replicate_zero, List.replicate_succ, List.getElem?_cons_zero, List.getElem?_cons_succ, List.set_cons_zero, List.set_cons_succ, Option.some.injEq, exists_eq_left', MV.bl.injEq, MV.int.injEq, true_and, and_true, Int.reduceLT, Int.reduceLE, Nat.reduceLT, Nat.reduceLeDiff, decide_true, decide_false, Bool.not_true, Bool.not_false, Bool.false_eq_true, if_true, if_false, reduceIte])
      exact ⟨by omega, ds ++ [c], by simp, s2⟩
    · rw [decide_eq_false g3]
      (try simp only [ok_ok, ok_bind, ok_ite, ok_mVar, ok_mC, ok_mOp, ok_mUn, ok_mNil, ok_mCons, ok_mTup, ok_mLst, ok_mCB, ok_mTest, ok_mAnd, ok_mOr, ok_mNot, ok_mIf, ok_mTru, ok_truM_bl, ok_mAndV, ok_mOrV, ok_mNotV, ok_mChain, ok_mNoPart, ok_mPart, ok_mSlice, ok_mBack, ok_mCall, ok_mCallK, ok_mMeth, ok_mIter, ok_mRng1, ok_mRng2, ok_mZip, ok_rng1, ok_rng2, ok_gmName, ok_gmNil, ok_gmCons, ok_gmTup, ok_gmSub, sn_nx, sn_rt, sn_ite, sn_sSeq, sn_sNext, sn_sBreak, sn_sCont, sn_sRetN, sn_sExpr, sn_sRet, sn_sIf, sn_sAsg, sn_sPar, sn_sAug, ok_runD, sn_sFor, ok_mComp, ok_mYes, ok_add, ok_addT, ok_sub, ok_mul, ok_div, ok_mod, ok_pow, ok_lt, ok_le, ok_gt, ok_ge, ok_neg, ok_eqI, ok_neI, ok_isN, ok_notN, ok_ixT, ok_ixF, ok_slT, ok_slF, ok_backT, ok_lenT, ok_lenF, ok_abs, ok_max2, ok_min2, ok_intB, ok_divmod, ok_itT, ok_itF, ok_isiII, ok_isiIB, ok_isiIT, ok_isiTT, ok_isiTI, ok_isiSS, getAt0, getAt1, getAt2, wipeM, List.map_cons, List.map_nil, List.cons_append, List.nil_append, List.append_nil, List.length_cons, List.length_nil, List.length_map, Nat.reduceAdd, Nat.reduceSub, List.replicate_zero, List.replicate_succ, List.getElem?_cons_zero, List.getElem?_cons_succ, List.set_cons_zero, List.set_cons_succ, Option.some.injEq, exists_eq_left', MV.bl.injEq, MV.int.injEq, true_and, and_true, Int.reduceLT, Int.reduceLE, Nat.reduceLT, Nat.reduceLeDiff, decide_true, decide_false, Bool.not_true, Bool.not_false, Bool.false_eq_true, if_true, if_false, reduceIte])
      exact ⟨ds, rfl, s1⟩
  obtain ⟨rfl, ds, rfl, hs⟩ := I
  rw [List.length_map, List.take_length] at hs
  have RL := reel_sub h2 hs
  have hdL : (hd0 ++ [MO.lst (ds.map .int)])[hd0.length]? = some (.lst (ds.map .int)) := new_at
  have P5 := P4.gr (Gr.one hd0 (MO.lst (ds.map .int)))
  have K5 := K4.trans ((Gr.one hd0 (MO.lst (ds.map .int))).kh p)
  have hlt : hd0.length ≠ p := Nat.ne_of_gt P4.lt
  generalize hD : hd0 ++ [MO.lst (ds.map .int)] = hD0 at *
  generalize hA : hd0.length = A at *
  (try simp only [ok_ok, ok_bind, ok_ite, ok_mVar, ok_mC, ok_mOp, ok_mUn, ok_mNil, ok_mCons, ok_mTup, ok_mLst, ok_mCB, ok_mTest, ok_mAnd, ok_mOr, ok_mNot, ok_mIf, ok_mTru, ok_truM_bl, ok_mAndV, ok_mOrV, ok_mNotV, ok_mChain, ok_mNoPart, ok_mPart, ok_mSlice, ok_mBack, ok_mCall, ok_mCallK, ok_mMeth, ok_mIter, ok_mRng1, ok_mRng2, ok_mZip, ok_rng1, ok_rng2, ok_gmName, ok_gmNil, ok_gmCons, ok_gmTup, ok_gmSub, sn_nx, sn_rt, sn_ite, sn_sSeq, sn_sNext, sn_sBreak, sn_sCont, sn_sRetN, sn_sExpr, sn_sRet, sn_sIf, sn_sAsg, sn_sPar, sn_sAug, ok_runD, sn_sFor, ok_mComp, ok_mYes, ok_add, ok_addT, ok_sub, ok_mul, ok_div, ok_mod, ok_pow, ok_lt, ok_le, ok_gt, ok_ge, ok_neg, ok_eqI, ok_neI, ok_isN, ok_notN, ok_ixT, ok_ixF, ok_slT, ok_slF, ok_backT, ok_lenT, ok_lenF, ok_abs, ok_max2, ok_min2, ok_intB, ok_divmod, ok_itT, ok_itF, ok_isiII, ok_isiIB, ok_isiIT, ok_isiTT, ok_isiTI, ok_isiSS, getAt0, getAt1, getAt2, wipeM, List.map_cons, List.map_nil, List.cons_append, List.nil_append, List.append_nil, List.length_cons, List.length_nil, List.length_map, Nat.reduceAdd, Nat.reduceSub, List.replicate_zero, List.replicate_succ, List.getElem?_cons_zero, List.getElem?_cons_succ, List.set_cons_zero, List.set_cons_succ, Option.some.injEq, exists_eq_left', MV.bl.injEq, MV.int.injEq, true_and, and_true, Int.reduceLT, Int.reduceLE, Nat.reduceLT, Nat.reduceLeDiff, decide_true, decide_false, Bool.not_true, Bool.not_false, Bool.false_eq_true, if_true, if_false, reduceIte])
  refine (draw_ok P5 (by omega) (by omega) (by omega)).mono fun v he ⟨x, e, hx, P6, K6⟩ => ?_
  subst e
  (try simp only [ok_ok, ok_bind, ok_ite, ok_mVar, ok_mC, ok_mOp, ok_mUn, ok_mNil, ok_mCons, ok_mTup, ok_mLst, ok_mCB, ok_mTest, ok_mAnd, ok_mOr, ok_mNot, ok_mIf, ok_mTru, ok_truM_bl, ok_mAndV, ok_mOrV, ok_mNotV, ok_mChain, ok_mNoPart, ok_mPart, ok_mSlice, ok_mBack, ok_mCall, ok_mCallK, ok_mMeth, ok_mIter, ok_mRng1, ok_mRng2, ok_mZip, ok_rng1, ok_rng2, ok_gmName, ok_gmNil, ok_gmCons, ok_gmTup, ok_gmSub, sn_nx, sn_rt, sn_ite, sn_sSeq, sn_sNext, sn_sBreak, sn_sCont, sn_sRetN, sn_sExpr, sn_sRet, sn_sIf, sn_sAsg, sn_sPar, sn_sAug, ok_runD, sn_sFor, ok_mComp, ok_mYes, ok_add, ok_addT, ok_sub, ok_mul, ok_div, ok_mod, ok_pow, ok_lt, ok_le, ok_gt, ok_ge, ok_neg, ok_eqI, ok_neI, ok_isN, ok_notN, ok_ixT, ok_ixF, ok_slT, ok_slF, ok_backT, ok_lenT, ok_lenF, ok_abs, ok_max2, ok_min2, ok_intB, ok_divmod, ok_itT, ok_itF, ok_isiII, ok_isiIB, ok_isiIT, ok_isiTT, ok_isiTI, ok_isiSS, getAt0, getAt1, getAt2, wipeM, List.map_cons, List.map_nil, List.cons_append, List.nil_append, List.append_nil, List.length_cons, List.length_nil, List.length_map, Nat.reduceAdd, Nat.reduceSub, List.replicate_zero, List.replicate_succ, List.getElem?_cons_zero, List.getElem?_cons_succ, List.set_cons_zero, List.set_cons_succ, Option.some.injEq, exists_eq_left', MV.bl.injEq, MV.int.injEq, true_and, and_true, Int.reduceLT, Int.reduceLE, Nat.reduceLT, Nat.reduceLeDiff, decide_true, decide_false, Bool.not_true, Bool.not_false, Bool.false_eq_true, if_true, if_false, reduceIte])
  refine (draw_ok P6 (by omega) (by decide) (by decide)).mono fun v hf ⟨y, e, hy, P7, K7⟩ => ?_
  subst e
  (try simp only [ok_ok, ok_bind, ok_ite, ok_mVar, ok_mC, ok_mOp, ok_mUn, ok_mNil, ok_mCons, ok_mTup, ok_mLst, ok_mCB, ok_mTest, ok_mAnd, ok_mOr, ok_mNot, ok_mIf, ok_mTru, ok_truM_bl, ok_mAndV, ok_mOrV, ok_mNotV, ok_mChain, ok_mNoPart, ok_mPart, ok_mSlice, ok_mBack, ok_mCall, ok_mCallK, ok_mMeth, ok_mIter, ok_mRng1, ok_mRng2, ok_mZip, ok_rng1, ok_rng2, ok_gmName, ok_gmNil, ok_gmCons, ok_gmTup, ok_gmSub, sn_nx, sn_rt, sn_ite, sn_sSeq, sn_sNext, sn_sBreak, sn_sCont, sn_sRetN, sn_sExpr, sn_sRet, sn_sIf, sn_sAsg, sn_sPar, sn_sAug, ok_runD, sn_sFor, ok_mComp, ok_mYes, ok_add, ok_addT, ok_sub, ok_mul, ok_div, ok_mod, ok_pow, ok_lt, ok_le, ok_gt, ok_ge, ok_neg, ok_eqI, ok_neI, ok_isN, ok_notN, ok_ixT, ok_ixF, ok_slT, ok_slF, ok_backT, ok_lenT, ok_lenF, ok_abs, ok_max2, ok_min2, ok_intB, ok_divmod, ok_itT, ok_itF, ok_isiII, ok_isiIB, ok_isiIT, ok_isiTT, ok_isiTI, ok_isiSS, getAt0, getAt1, getAt2, wipeM, List.map_cons, List.map_nil, List.cons_append, List.nil_append, List.append_nil, List.length_cons, List.length_nil, List.length_map, Nat.reduceAdd, Nat.reduceSub, List.replicate_zero, List.replicate_succ, List.getElem?_cons_zero, List.getElem?_cons_succ, List.set_cons_zero, List.set_cons_succ, Option.some.injEq, exists_eq_left', MV.bl.injEq, MV.int.injEq, true_and, and_true, Int.reduceLT, Int.reduceLE, Nat.reduceLT, Nat.reduceLeDiff, decide_true, decide_false, Bool.not_true, Bool.not_false, Bool.false_eq_true, if_true, if_false, reduceIte])
  have hd7 : hf[A]? = some (.lst (ds.map .int)) := K7.get (K6.get hdL hlt) hlt
  have K8 := (K5.trans K6).trans K7
  by_cases g4 : y = 0
  · rw [decide_eq_true g4]
    (try simp only [ok_ok, ok_bind, ok_ite, ok_mVar, ok_mC, ok_mOp, ok_mUn, ok_mNil, ok_mCons, ok_mTup, ok_mLst, ok_mCB, ok_mTest, ok_mAnd, ok_mOr, ok_mNot, ok_mIf, ok_mTru, ok_truM_bl, ok_mAndV, ok_mOrV, ok_mNotV, ok_mChain, ok_mNoPart, ok_mPart, ok_mSlice, ok_mBack, ok_mCall, ok_mCallK, ok_mMeth, ok_mIter, ok_mRng1, ok_mRng2, ok_mZip, ok_rng1, ok_rng2, ok_gmName, ok_gmNil, ok_gmCons, ok_gmTup, ok_gmSub, sn_nx, sn_rt, sn_ite, sn_sSeq, sn_sNext, sn_sBreak, sn_sCont, sn_sRetN, sn_sExpr, sn_sRet, sn_sIf, sn_sAsg, sn_sPar, sn_sAug, ok_runD, sn_sFor, ok_mComp, ok_mYes, ok_add, ok_addT, ok_sub, ok_mul, ok_div, ok_mod, ok_pow, ok_lt, ok_le, ok_gt, ok_ge, ok_neg, ok_eqI, ok_neI, ok_isN, ok_notN, ok_ixT, ok_ixF, ok_slT, ok_slF, ok_backT, ok_lenT, ok_lenF, ok_abs, ok_max2, ok_min2, ok_intB, ok_divmod, ok_itT, ok_itF, ok_isiII, ok_isiIB, ok_isiIT, ok_isiTT, ok_isiTI, ok_isiSS, getAt0, getAt1, getAt2, wipeM, List.map_cons, List.map_nil, List.cons_append, List.nil_append, List.append_nil, List.length_cons, List.length_nil, List.length_map, Nat.reduceAdd, Nat.reduceSub, List.replicate_zero, List.replicate_succ, List.getElem?_cons_zero, List.getElem?_cons_succ, List.set_cons_zero, List.set_cons_succ, Option.some.injEq, exists_eq_left', MV.bl.injEq, MV.int.injEq, true_and, and_true, Int.reduceLT, Int.reduceLE, Nat.reduceLT, Nat.reduceLeDiff, decide_true, decide_false, Bool.not_true, Bool.not_false, Bool.false_eq_true, if_true, if_false, reduceIte])
    rw [ok_itL hd7]
    (try simp only [ok_ok, ok_bind, ok_ite, ok_mVar, ok_mC, ok_mOp, ok_mUn, ok_mNil, ok_mCons, ok_mTup, ok_mLst, ok_mCB, ok_mTest, ok_mAnd, ok_mOr, ok_mNot, ok_mIf, ok_mTru, ok_truM_bl, ok_mAndV, ok_mOrV, ok_mNotV, ok_mChain, ok_mNoPart, ok_mPart, ok_mSlice, ok_mBack, ok_mCall, ok_mCallK, ok_mMeth, ok_mIter, ok_mRng1, ok_mRng2, ok_mZip, ok_rng1, ok_rng2, ok_gmName, ok_gmNil, ok_gmCons, ok_gmTup, ok_gmSub, sn_nx, sn_rt, sn_ite, sn_sSeq, sn_sNext, sn_sBreak, sn_sCont, sn_sRetN, sn_sExpr, sn_sRet, sn_sIf, sn_sAsg, sn_sPar, sn_sAug, ok_runD, sn_sFor, ok_mComp, ok_mYes, ok_add, ok_addT, ok_sub, ok_mul, ok_div, ok_mod, ok_pow, ok_lt, ok_le, ok_gt, ok_ge, ok_neg, ok_eqI, ok_neI, ok_isN, ok_notN, ok_ixT, ok_ixF, ok_slT, ok_slF, ok_backT, ok_lenT, ok_lenF, ok_abs, ok_max2, ok_min2, ok_intB, ok_divmod, ok_itT, ok_itF, ok_isiII, ok_isiIB, ok_isiIT, ok_isiTT, ok_isiTI, ok_isiSS, getAt0, getAt1, getAt2, wipeM, List.map_cons, List.map_nil, List.cons_append, List.nil_append, List.append_nil, List.length_cons, List.length_nil, List.length_map, Nat.reduceAdd, Nat.reduceSub, List.replicate_zero, List.replicate_succ, List.getElem?_cons_zero, List.getElem?_cons_succ, List.set_cons_zero, List.set_cons_succ, Option.some.injEq, exists_eq_left', MV.bl.injEq, MV.int.injEq, true_and, and_true, Int.reduceLT, Int.reduceLE, Nat.reduceLT, Nat.reduceLeDiff, decide_true, decide_false, Bool.not_true, Bool.not_false, Bool.false_eq_true, if_true, if_false, reduceIte])
    refine comp_pure (ds.map .int) (fun v => match v with | .int c => !decide (c = 1 + x) | _ => false) id (by rw [List.length_map]; have := RL.few; omega) (fun i => itLst_at hd7) (fun v hv => ?_) ?_
    · obtain ⟨c, _, rfl⟩ := List.mem_map.mp hv
      simp only [ok_ok, ok_bind, ok_ite, ok_mVar, ok_mC, ok_mOp, ok_mUn, ok_mNil, ok_mCons, ok_mTup, ok_mLst, ok_mCB, ok_mTest, ok_mAnd, ok_mOr, ok_mNot, ok_mIf, ok_mTru, ok_truM_bl, ok_mAndV, ok_mOrV, ok_mNotV, ok_mChain, ok_mNoPart, ok_mPart, ok_mSlice, ok_mBack, ok_mCall, ok_mCallK, ok_mMeth, ok_mIter, ok_mRng1, ok_mRng2, ok_mZip, ok_rng1, ok_rng2, ok_gmName, ok_gmNil, ok_gmCons, ok_gmTup, ok_gmSub, sn_nx, sn_rt, sn_ite, sn_sSeq, sn_sNext, sn_sBreak, sn_sCont, sn_sRetN, sn_sExpr, sn_sRet, sn_sIf, sn_sAsg, sn_sPar, sn_sAug, ok_runD, sn_sFor, ok_mComp, ok_mYes, ok_add, ok_addT, ok_sub, ok_mul, ok_div, ok_mod, ok_pow, ok_lt, ok_le, ok_gt, ok_ge, ok_neg, ok_eqI, ok_neI, ok_isN, ok_notN, ok_ixT, ok_ixF, ok_slT, ok_slF, ok_backT, ok_lenT, ok_lenF, ok_abs, ok_max2, ok_min2, ok_intB, ok_divmod, ok_itT, ok_itF, ok_isiII, ok_isiIB, ok_isiIT, ok_isiTT, ok_isiTI, ok_isiSS, getAt0, getAt1, getAt2, wipeM, List.map_cons, List.map_nil, List.cons_append, List.nil_append, List.append_nil, List.length_cons, List.length_nil, List.length_map, Nat.reduceAdd, Nat.reduceSub, List.replicate_zero, List.replicate_succ, List.getElem?_cons_zero, List.getElem?_cons_succ, List.set_cons_zero, List.set_cons_succ, Option.some.injEq, exists_eq_left', MV.bl.injEq, MV.int.injEq, true_and, and_true, Int.reduceLT, Int.reduceLE, Nat.reduceLT, Nat.reduceLeDiff, decide_true, decide_false, Bool.not_true, Bool.not_false, Bool.false_eq_true, if_true, if_false, reduceIte]
      exact fun _ => rfl
    rw [filter_ints ds (fun c => !decide (c = 1 + x)) _ fun _ => rfl, List.map_id]
    have hB : (hf ++ [MO.lst ((ds.filter fun c => !decide (c = 1 + x)).map .int)])[hf.length]? = some (.lst ((ds.filter fun c => !decide (c = 1 + x)).map .int)) := new_at
    have hd8 : (hf ++ [MO.lst ((ds.filter fun c => !decide (c = 1 + x)).map .int)])[A]? = some (.lst (ds.map .int)) := (Gr.one _ _).at hd7
    have G8 : Gr hf (hf ++ [MO.lst ((ds.filter fun c => !decide (c = 1 + x)).map .int)]) := Gr.one _ _
    generalize hf ++ [MO.lst ((ds.filter fun c => !decide (c = 1 + x)).map .int)] = hg at *
    have h9 : (hg ++ [MO.lst [.int (1 + x)]])[hg.length]? = some (.lst (([1 + x] : List Int).map .int)) := new_at
    have hd9 := (Gr.one hg (MO.lst [.int (1 + x)])).at hd8
    have hB9 := (Gr.one hg (MO.lst [.int (1 + x)])).at hB
    have G9 := G8.trans (Gr.one hg (MO.lst [.int (1 + x)]))
    rw [ok_inL hd9]
    (try simp only [ok_ok, ok_bind, ok_ite, ok_mVar, ok_mC, ok_mOp, ok_mUn, ok_mNil, ok_mCons, ok_mTup, ok_mLst, ok_mCB, ok_mTest, ok_mAnd, ok_mOr, ok_mNot, ok_mIf, ok_mTru, ok_truM_bl, ok_mAndV, ok_mOrV, ok_mNotV, ok_mChain, ok_mNoPart, ok_mPart, ok_mSlice, ok_mBack, ok_mCall, ok_mCallK, ok_mMeth, ok_mIter, ok_mRng1, ok_mRng2, ok_mZip, ok_rng1, ok_rng2, ok_gmName, ok_gmNil, ok_gmCons, ok_gmTup, ok_gmSub, sn_nx, sn_rt, sn_ite, sn_sSeq, sn_sNext, sn_sBreak, sn_sCont, sn_sRetN, sn_sExpr, sn_sRet, sn_sIf, sn_sAsg, sn_sPar, sn_sAug, ok_runD, sn_sFor, ok_mComp, ok_mYes, ok_add, ok_addT, ok_sub, ok_mul, ok_div, ok_mod, ok_pow, ok_lt, ok_le, ok_gt, ok_ge, ok_neg, ok_eqI, ok_neI, ok_isN, ok_notN, ok_ixT, ok_ixF, ok_slT, ok_slF, ok_backT, ok_lenT, ok_lenF, ok_abs, ok_max2, ok_min2, ok_intB, ok_divmod, ok_itT, ok_itF, ok_isiII, ok_isiIB, ok_isiIT, ok_isiTT, ok_isiTI, ok_isiSS, getAt0, getAt1, getAt2, wipeM, List.map_cons, List.map_nil, List.cons_append, List.nil_append, List.append_nil, List.length_cons, List.length_nil, List.length_map, Nat.reduceAdd, Nat.reduceSub, List.replicate_zero, List.replicate_succ, List.getElem?_cons_zero, List.getElem?_cons_succ, List.set_cons_zero, List.set_cons_succ, Option.some.injEq, exists_eq_left', MV.bl.injEq, MV.int.injEq, true_and, and_true, Int.reduceLT, Int.reduceLE, Nat.reduceLT, Nat.reduceLeDiff, decide_true, decide_false, Bool.not_true, Bool.not_false, Bool.false_eq_true, if_true, if_false, reduceIte])
    generalize hg ++ [MO.lst [.int (1 + x)]] = hj at *
    rw [ok_mulL h9]
    have er : ∀ b : Bool, (List.replicate (if b = true then (1 : Int) else 0).toNat (([1 + x] : List Int).map MV.int)).flatten = (if b = true then [1 + x] else ([] : List Int)).map .int := by
      intro b; cases b <;> rfl
    refine ⟨by by_cases z : (1 + x) ∈ ds <;> simp [z], ?_⟩
    rw [er]
    have hbl := (Gr.one hj (MO.lst ((if (!decide (1 + x ∈ ds)) = true then [1 + x] else ([] : List Int)).map MV.int))).at hB9
    rw [ok_addL hbl new_at]
    refine ⟨?_, ?_⟩
    · have l1 := List.length_filter_le (fun c => !decide (c = 1 + x)) ds
      have l2 : (if (!decide (1 + x ∈ ds)) = true then [1 + x] else ([] : List Int)).length ≤ 1 := by split <;> simp
      have := RL.few
      rw [List.length_map, List.length_map]
      omega
    rw [← List.map_append]
    (try simp only [ok_ok, ok_bind, ok_ite, ok_mVar, ok_mC, ok_mOp, ok_mUn, ok_mNil, ok_mCons, ok_mTup, ok_mLst, ok_mCB, ok_mTest, ok_mAnd, ok_mOr, ok_mNot, ok_mIf, ok_mTru, ok_truM_bl, ok_mAndV, ok_mOrV, ok_mNotV, ok_mChain, ok_mNoPart, ok_mPart, ok_mSlice, ok_mBack, ok_mCall, ok_mCallK, ok_mMeth, ok_mIter, ok_mRng1, ok_mRng2, ok_mZip, ok_rng1, ok_rng2, ok_gmName, ok_gmNil, ok_gmCons, ok_gmTup, ok_gmSub, sn_nx, sn_rt, sn_ite, sn_sSeq, sn_sNext, sn_sBreak, sn_sCont, sn_sRetN, sn_sExpr, sn_sRet, sn_sIf, sn_sAsg, sn_sPar, sn_sAug, ok_runD, sn_sFor, ok_mComp, ok_mYes, ok_add, ok_addT, ok_sub, ok_mul, ok_div, ok_mod, ok_pow, ok_lt, ok_le, ok_gt, ok_ge, ok_neg, ok_eqI, ok_neI, ok_isN, ok_notN, ok_ixT, ok_ixF, ok_slT, ok_slF, ok_backT, ok_lenT, ok_lenF, ok_abs, ok_max2, ok_min2, ok_intB, ok_divmod, ok_itT, ok_itF, ok_isiII, ok_isiIB, ok_isiIT, ok_isiTT, ok_isiTI, ok_isiSS, getAt0, getAt1, getAt2, wipeM, List.map_cons, List.map_nil, List.cons_append, List.nil_append, List.append_nil, List.length_cons, List.length_nil, List.length_map, Nat.reduceAdd, Nat.reduceSub, List.replicate_zero, List.replicate_succ, List.getElem?_cons_zero, List.getElem?_cons_succ, List.set_cons_zero, List.set_cons_succ, Option.some.injEq, exists_eq_left', MV.bl.injEq, MV.int.injEq, true_and, and_true, Int.reduceLT, Int.reduceLE, Nat.reduceLT, Nat.reduceLeDiff, decide_true, decide_false, Bool.not_true, Bool.not_false, Bool.false_eq_true, if_true, if_false, reduceIte])
    rw [ok_sorted new_at]
    (try simp only [ok_ok, ok_bind, ok_ite, ok_mVar, ok_mC, ok_mOp, ok_mUn, ok_mNil, ok_mCons, ok_mTup, ok_mLst, ok_mCB, ok_mTest, ok_mAnd, ok_mOr, ok_mNot, ok_mIf, ok_mTru, ok_truM_bl, ok_mAndV, ok_mOrV, ok_mNotV, ok_mChain, ok_mNoPart, ok_mPart, ok_mSlice, ok_mBack, ok_mCall, ok_mCallK, ok_mMeth, ok_mIter, ok_mRng1, ok_mRng2, ok_mZip, ok_rng1, ok_rng2, ok_gmName, ok_gmNil, ok_gmCons, ok_gmTup, ok_gmSub, sn_nx, sn_rt, sn_ite, sn_sSeq, sn_sNext, sn_sBreak, sn_sCont, sn_sRetN, sn_sExpr, sn_sRet, sn_sIf, sn_sAsg, sn_sPar, sn_sAug, ok_runD, sn_sFor, ok_mComp, ok_mYes, ok_add, ok_addT, ok_sub, ok_mul, ok_div, ok_mod, ok_pow, ok_lt, ok_le, ok_gt, ok_ge, ok_neg, ok_eqI, ok_neI, ok_isN, ok_notN, ok_ixT, ok_ixF, ok_slT, ok_slF, ok_backT, ok_lenT, ok_lenF, ok_abs, ok_max2, ok_min2, ok_intB, ok_divmod, ok_itT, ok_itF, ok_isiII, ok_isiIB, ok_isiIT, ok_isiTT, ok_isiTI, ok_isiSS, getAt0, getAt1, getAt2, wipeM, List.map_cons, List.map_nil, List.cons_append, List.nil_append, List.append_nil, List.length_cons, List.length_nil, List.length_map, Nat.reduceAdd, Nat.reduceSub, List.replicate_zero, List.replicate_succ, List.getElem?_cons_zero, List.getElem?_cons_succ, List.set_cons_zero, List.set_cons_succ, Option.some.injEq, exists_eq_left', MV.bl.injEq, MV.int.injEq, true_and, and_true, Int.reduceLT, Int.reduceLE, Nat.reduceLT, Nat.reduceLeDiff, decide_true, decide_false, Bool.not_true, Bool.not_false, Bool.false_eq_true, if_true, if_false, reduceIte])
    rw [ok_tupleL new_at]
    have hdn := RL.C.lt.imp (fun {a b : Int} h => Int.ne_of_lt h)
    have nd : ((ds.filter fun c => !decide (c = 1 + x)) ++ (if (!decide (1 + x ∈ ds)) = true then [1 + x] else ([] : List Int))).Nodup := by
      rw [List.nodup_append]
      refine ⟨List.Nodup.sublist List.filter_sublist hdn, by split <;> simp, fun a ha b hb => ?_⟩
      rw [List.mem_filter] at ha
      have hb' : b = 1 + x := by
        split at hb
        · simpa using hb
        · cases hb
      have := ha.2
      simp only [Bool.not_eq_true', decide_eq_false_iff_not] at this
      omega
    refine ⟨_, rfl, ⟨⟨sortI_lt nd, fun c hc => ?_, ?_⟩, fun c hc => ?_, ?_⟩, ?_, ?_⟩
    · rw [(sortI_perm _).mem_iff, List.mem_append, List.mem_filter] at hc
      rcases hc with ⟨hc, _⟩ | hc
      · exact RL.C.pos c hc
      · split at hc
        · rw [List.mem_singleton] at hc; omega
        · cases hc
    · rw [(sortI_perm _).length_eq, List.length_append]
      have l1 := List.length_filter_le (fun c => !decide (c = 1 + x)) ds
      have l2 : (if (!decide (1 + x ∈ ds)) = true then [1 + x] else ([] : List Int)).length ≤ 1 := by split <;> simp
      have := RL.few
      omega
    · rw [(sortI_perm _).mem_iff, List.mem_append, List.mem_filter] at hc
      rcases hc with ⟨hc, _⟩ | hc
      · exact RL.top c hc
      · split at hc
        · rw [List.mem_singleton] at hc; omega
        · cases hc
    · rw [(sortI_perm _).length_eq, List.length_append]
      have l1 := List.length_filter_le (fun c => !decide (c = 1 + x)) ds
      have l2 : (if (!decide (1 + x ∈ ds)) = true then [1 + x] else ([] : List Int)).length ≤ 1 := by split <;> simp
      have l3 := hs.length_le
      rw [rngL_len] at l3
      omega
    · exact (P7.gr (((G9.trans (Gr.one _ _)).trans (Gr.one _ _)).trans (Gr.one _ _))).le (by omega)
    · exact K8.trans ((((G9.trans (Gr.one _ _)).trans (Gr.one _ _)).trans (Gr.one _ _)).kh p)
  · rw [decide_eq_false g4]
    (try simp only [ok_ok, ok_bind, ok_ite, ok_mVar, ok_mC, ok_mOp, ok_mUn, ok_mNil, ok_mCons, ok_mTup, ok_mLst, ok_mCB, ok_mTest, ok_mAnd, ok_mOr, ok_mNot, ok_mIf, ok_mTru, ok_truM_bl, ok_mAndV, ok_mOrV, ok_mNotV, ok_mChain, ok_mNoPart, ok_mPart, ok_mSlice, ok_mBack, ok_mCall, ok_mCallK, ok_mMeth, ok_mIter, ok_mRng1, ok_mRng2, ok_mZip, ok_rng1, ok_rng2, ok_gmName, ok_gmNil, ok_gmCons, ok_gmTup, ok_gmSub, sn_nx, sn_rt, sn_ite, sn_sSeq, sn_sNext, sn_sBreak, sn_sCont, sn_sRetN, sn_sExpr, sn_sRet, sn_sIf, sn_sAsg, sn_sPar, sn_sAug, ok_runD, sn_sFor, ok_mComp, ok_mYes, ok_add, ok_addT, ok_sub, ok_mul, ok_div, ok_mod, ok_pow, ok_lt, ok_le, ok_gt, ok_ge, ok_neg, ok_eqI, ok_neI, ok_isN, ok_notN, ok_ixT, ok_ixF, ok_slT, ok_slF, ok_backT, ok_lenT, ok_lenF, ok_abs, ok_max2, ok_min2, ok_intB, ok_divmod, ok_itT, ok_itF, ok_isiII, ok_isiIB, ok_isiIT, ok_isiTT, ok_isiTI, ok_isiSS, getAt0, getAt1, getAt2, wipeM, List.map_cons, List.map_nil, List.cons_append, List.nil_append, List.append_nil, List.length_cons, List.length_nil, List.length_map, Nat.reduceAdd, Nat.reduceSub, List.replicate_zero, List.replicate_succ, List.getElem?_cons_zero, List.getElem?_cons_succ, List.set_cons_zero, List.set_cons_succ, Option.some.injEq, exists_eq_left', MV.bl.injEq, MV.int.injEq, true_and, and_true, Int.reduceLT, Int.reduceLE, Nat.reduceLT, Nat.reduceLeDiff, decide_true, decide_false, Bool.not_true, Bool.not_false, Bool.false_eq_true, if_true, if_false, reduceIte])
    rw [ok_sorted hd7]
    (try simp only [ok_ok, ok_bind, ok_ite, ok_mVar, ok_mC, ok_mOp, ok_mUn, ok_mNil, ok_mCons, ok_mTup, ok_mLst, ok_mCB, ok_mTest, ok_mAnd, ok_mOr, ok_mNot, ok_mIf, ok_mTru, ok_truM_bl, ok_mAndV, ok_mOrV, ok_mNotV, ok_mChain, ok_mNoPart, ok_mPart, ok_mSlice, ok_mBack, ok_mCall, ok_mCallK, ok_mMeth, ok_mIter, ok_mRng1, ok_mRng2, ok_mZip, ok_rng1, ok_rng2, ok_gmName, ok_gmNil, ok_gmCons, ok_gmTup, ok_gmSub, sn_nx, sn_rt, sn_ite, sn_sSeq, sn_sNext, sn_sBreak, sn_sCont, sn_sRetN, sn_sExpr, sn_sRet, sn_sIf, sn_sAsg, sn_sPar, sn_sAug, ok_runD, sn_sFor, ok_mComp, ok_mYes, ok_add, ok_addT, ok_sub, ok_mul, ok_div, ok_mod, ok_pow, ok_lt, ok_le, ok_gt, ok_ge, ok_neg, ok_eqI, ok_neI, ok_isN, ok_notN, ok_ixT, ok_ixF, ok_slT, ok_slF, ok_backT, ok_lenT, ok_lenF, ok_abs, ok_max2, ok_min2, ok_intB, ok_divmod, ok_itT, ok_itF, ok_isiII, ok_isiIB, ok_isiIT, ok_isiTT, ok_isiTI, ok_isiSS, getAt0, getAt1, getAt2, wipeM, List.map_cons, List.map_nil, List.cons_append, List.nil_append, List.append_nil, List.length_cons, List.length_nil, List.length_map, Nat.reduceAdd, Nat.reduceSub, List.replicate_zero, List.replicate_succ, List.getElem?_cons_zero, List.getElem?_cons_succ, List.set_cons_zero, List.set_cons_succ, Option.some.injEq, exists_eq_left', MV.bl.injEq, MV.int.injEq, true_and, and_true, Int.reduceLT, Int.reduceLE, Nat.reduceLT, Nat.reduceLeDiff, decide_true, decide_false, Bool.not_true, Bool.not_false, Bool.false_eq_true, if_true, if_false, reduceIte])
    rw [ok_tupleL new_at]
    have hdn := RL.C.lt.imp (fun {a b : Int} h => Int.ne_of_lt h)
    refine ⟨_, rfl, ⟨⟨sortI_lt hdn, fun c hc => RL.C.pos c ((sortI_perm _).mem_iff.mp hc), by rw [(sortI_perm _).length_eq]; exact RL.C.len⟩, fun c hc => RL.top c ((sortI_perm _).mem_iff.mp hc), by rw [(sortI_perm _).length_eq]; exact RL.few⟩, (P7.gr (Gr.one _ _)).le (by omega), K8.trans ((Gr.one _ _).kh p)⟩
end K74

namespace K74
open Cutp
open PySem (Str)
theorem pairs_ok {p : Nat} {n one bd size : Int} {cs : List Int} {h : Hm} (P : Pool p n h) (hn : n < 100000000) (RL : Reel cs size) (hs : size ≤ 16) (ho : one ≤ 16) (hb : bd ≤ one) :
    Ok (m__law_pairs [.ref p, .tup (cs.map .int), .int one, .int bd] h) fun v h' => ∃ ps : List (Int × Int), v = .tup (ps.map pr) ∧ ps.length ≤ 16 ∧ (∀ x ∈ ps, (0 ≤ x.1 ∧ x.1 ≤ 16) ∧ 0 ≤ x.2 ∧ x.2 ≤ 16) ∧ Pool p (n + 16) h' ∧ Kh p h h' := by
  unfold m__law_pairs b__law_pairs
  simp only [ok_ok, ok_bind, ok_ite, ok_mVar, ok_mC, ok_mOp, ok_mUn, ok_mNil, ok_mCons, ok_mTup, ok_mLst, ok_mCB, ok_mTest, ok_mAnd, ok_mOr, ok_mNot, ok_mIf, ok_mTru, ok_truM_bl, ok_mAndV, ok_mOrV, ok_mNotV, ok_mChain, ok_mNoPart, ok_mPart, ok_mSlice, ok_mBack, ok_mCall, ok_mCallK, ok_mMeth, ok_mIter, ok_mRng1, ok_mRng2, ok_mZip, ok_rng1, ok_rng2, ok_gmName, ok_gmNil, ok_gmCons, ok_gmTup, ok_gmSub, sn_nx, sn_rt, sn_ite, sn_sSeq, sn_sNext, sn_sBreak, sn_sCont, sn_sRetN, sn_sExpr, sn_sRet, sn_sIf, sn_sAsg, sn_sPar, sn_sAug, ok_runD, sn_sFor, ok_mComp, ok_mYes, ok_add, ok_addT, ok_sub, ok_mul, ok_div, ok_mod, ok_pow, ok_lt, ok_le, ok_gt, ok_ge, ok_neg, ok_eqI, ok_neI, ok_isN, ok_notN, ok_ixT, ok_ixF, ok_slT, ok_slF, ok_backT, ok_lenT, ok_lenF, ok_abs, ok_max2, ok_min2, ok_intB, ok_divmod, ok_itT, ok_itF, ok_isiII, ok_isiIB, ok_isiIT, ok_isiTT, ok_isiTI, ok_isiSS, getAt0, getAt1, getAt2, wipeM, List.map_cons, List.map_nil, List.cons_append, List.nil_append, List.append_nil, List.length_cons, List.length_nil, List.length_map, Nat.reduceAdd, Nat.reduceSub, List.replicate_zero, List.replicate_succ, List.getElem?_cons_zero, List.getElem?_cons_succ, List.set_cons_zero, List.set_cons_succ, Option.some.injEq, exists_eq_left', MV.bl.injEq, MV.int.injEq, true_and, and_true, Int.reduceLT, Int.reduceLE, Nat.reduceLT, Nat.reduceLeDiff, decide_true, decide_false, Bool.not_true, Bool.not_false, Bool.false_eq_true, if_true, if_false, reduceIte]
  have hA : h.length ≠ p := Nat.ne_of_gt P.lt
  refine for_ok (cs.map .int) (fun i ρ h' => ∃ (ps : List (Int × Int)) (y5 y6 y7 y8 : Option MV), ρ = [some (.ref p), some (.tup (cs.map .int)), some (.int one), some (.int bd), some (.ref h.length), y5, y6, y7, y8] ∧
    h'[h.length]? = some (.lst (ps.map pr)) ∧ ps.length ≤ i ∧ (∀ x ∈ ps, (0 ≤ x.1 ∧ x.1 ≤ 16) ∧ 0 ≤ x.2 ∧ x.2 ≤ 16) ∧ Pool p (n + i) h' ∧ Kh p h h') (by rw [List.length_map]; exact Nat.le_trans RL.few (by decide)) ⟨[], _, _, _, _, rfl, new_at, Nat.le_refl _, (fun x hx => (nomatch hx)), (P.gr (Gr.one _ _)).le (by omega), (Gr.one _ _).kh p⟩ (fun i ρ h' q => rfl) (fun i v hv ρ h' I => ?_) (fun ρ h' I => ?_)
  · obtain ⟨ps, y5, y6, y7, y8, rfl, hL, hl, hsm, P1, K1⟩ := I
    obtain ⟨c, hc, rfl⟩ := map_int_get hv
    have hil := (List.getElem?_eq_some_iff.mp hc).1
    have hif := RL.few
    have c1 := RL.C.pos c (List.mem_of_getElem? hc)
    have c2 := RL.top c (List.mem_of_getElem? hc)
    simp only [ok_ok, ok_bind, ok_ite, ok_mVar, ok_mC, ok_mOp, ok_mUn, ok_mNil, ok_mCons, ok_mTup, ok_mLst, ok_mCB, ok_mTest, ok_mAnd, ok_mOr, ok_mNot, ok_mIf, ok_mTru, ok_truM_bl, ok_mAndV, ok_mOrV, ok_mNotV, ok_mChain, ok_mNoPart, ok_mPart, ok_mSlice, ok_mBack, ok_mCall, ok_mCallK, ok_mMeth, ok_mIter, ok_mRng1, ok_mRng2, ok_mZip, ok_rng1, ok_rng2, ok_gmName, ok_gmNil, ok_gmCons, ok_gmTup, ok_gmSub, sn_nx, sn_rt, sn_ite, sn_sSeq, sn_sNext, sn_sBreak, sn_sCont, sn_sRetN, sn_sExpr, sn_sRet, sn_sIf, sn_sAsg, sn_sPar, sn_sAug, ok_runD, sn_sFor, ok_mComp, ok_mYes, ok_add, ok_addT, ok_sub, ok_mul, ok_div, ok_mod, ok_pow, ok_lt, ok_le, ok_gt, ok_ge, ok_neg, ok_eqI, ok_neI, ok_isN, ok_notN, ok_ixT, ok_ixF, ok_slT, ok_slF, ok_backT, ok_lenT, ok_lenF, ok_abs, ok_max2, ok_min2, ok_intB, ok_divmod, ok_itT, ok_itF, ok_isiII, ok_isiIB, ok_isiIT, ok_isiTT, ok_isiTI, ok_isiSS, getAt0, getAt1, getAt2, wipeM, List.map_cons, List.map_nil, List.cons_append, List.nil_append, List.append_nil, List.length_cons, List.length_nil, List.length_map, Nat.reduceAdd, Nat.reduceSub, List.replicate_zero, List.replicate_succ, List.getElem?_cons_zero, List.getElem?_cons_succ, List.set_cons_zero, List.set_cons_succ, Option.some.injEq, exists_eq_left', MV.bl.injEq, MV.int.injEq, true_and, and_true, Int.reduceLT, Int.reduceLE, Nat.reduceLT, Nat.reduceLeDiff, decide_true, decide_false, Bool.not_true, Bool.not_false, Bool.false_eq_true, if_true, if_false, reduceIte]
    by_cases g : c < bd
    · rw [decide_eq_true g]
      (try simp only [ok_ok, ok_bind, ok_ite, ok_mVar, ok_mC, ok_mOp, ok_mUn, ok_mNil, ok_mCons, ok_mTup, ok_mLst, ok_mCB, ok_mTest, ok_mAnd, ok_mOr, ok_mNot, ok_mIf, ok_mTru, ok_truM_bl, ok_mAndV, ok_mOrV, ok_mNotV, ok_mChain, ok_mNoPart, ok_mPart, ok_mSlice, ok_mBack, ok_mCall, ok_mCallK, ok_mMeth, ok_mIter, ok_mRng1, ok_mRng2, ok_mZip, ok_rng1, ok_rng2, ok_gmName, ok_gmNil, ok_gmCons, ok_gmTup, ok_gmSub, sn_nx, sn_rt, sn_ite, sn_sSeq, sn_sNext, sn_sBreak, sn_sCont, sn_sRetN, sn_sExpr, sn_sRet, sn_sIf, sn_sAsg, sn_sPar, sn_sAug, ok_runD, sn_sFor, ok_mComp, ok_mYes, ok_add, ok_addT, ok_sub, ok_mul, ok_div, ok_mod, ok_pow, ok_lt, ok_le, ok_gt, ok_ge, ok_neg, ok_eqI, ok_neI, ok_isN, ok_notN, ok_ixT, ok_ixF, ok_slT, ok_slF, ok_backT, ok_lenT, ok_lenF, ok_abs, ok_max2, ok_min2, ok_intB, ok_divmod, ok_itT, ok_itF, ok_isiII, ok_isiIB, ok_isiIT, ok_isiTT, ok_isiTI, ok_isiSS, getAt0, getAt1, getAt2, wipeM, List.map_cons, List.map_nil, List.cons_append, List.nil_append, List.append_nil, List.length_cons, List.length_nil, List.length_map, Nat.reduceAdd, Nat.reduceSub, List.replicate_zero, List.replicate_succ, List.getElem?_cons_zero, List.getElem?_cons_succ, List.set_cons_zero, List.set_cons_succ, Option.some.injEq, exists_eq_left', MV.bl.injEq, MV.int.injEq, true_and, and_true, Int.reduceLT, Int.reduceLE, Nat.reduceLT, Nat.reduceLeDiff, decide_true, decide_false, Bool.not_true, Bool.not_false, Bool.false_eq_true, if_true, if_false, reduceIte])
      refine ⟨by omega, ?_⟩
      refine comp_ok ((rngL 0 (one - c).toNat).map .int) (fun j acc h2 => Gr h' h2 ∧ ∃ ds : List Int, acc = ds.map .int ∧ ds.length ≤ j ∧ ∀ d ∈ ds, 0 ≤ d ∧ d < one - c) (by rw [List.length_map, rngL_len]; exact Nat.le_trans (show (one - c).toNat ≤ 16 by omega) (by decide)) ⟨Gr.refl _, [], rfl, Nat.le_refl _, fun d hd => nomatch hd⟩ (fun j acc h2 q => itRng_at) (fun j v hv acc h2 J => ?_) (fun acc h2 J => ?_)
      · obtain ⟨k, hk, rfl, b1, b2⟩ := rng_get hv
        obtain ⟨G2, ds, rfl, hdl, hds⟩ := J
        have hjl := (List.getElem?_eq_some_iff.mp hk).1
        rw [rngL_len] at hjl
        simp only [ok_ok, ok_bind, ok_ite, ok_mVar, ok_mC, ok_mOp, ok_mUn, ok_mNil, ok_mCons, ok_mTup, ok_mLst, ok_mCB, ok_mTest, ok_mAnd, ok_mOr, ok_mNot, ok_mIf, ok_mTru, ok_truM_bl, ok_mAndV, ok_mOrV, ok_mNotV, ok_mChain, ok_mNoPart, ok_mPart, ok_mSlice, ok_mBack, ok_mCall, ok_mCallK, ok_mMeth, ok_mIter, ok_mRng1, ok_mRng2, ok_mZip, ok_rng1, ok_rng2, ok_gmName, ok_gmNil, ok_gmCons, ok_gmTup, ok_gmSub, sn_nx, sn_rt, sn_ite, sn_sSeq, sn_sNext, sn_sBreak, sn_sCont, sn_sRetN, sn_sExpr, sn_sRet, sn_sIf, sn_sAsg, sn_sPar, sn_sAug, ok_runD, sn_sFor, ok_mComp, ok_mYes, ok_add, ok_addT, ok_sub, ok_mul, ok_div, ok_mod, ok_pow, ok_lt, ok_le, ok_gt, ok_ge, ok_neg, ok_eqI, ok_neI, ok_isN, ok_notN, ok_ixT, ok_ixF, ok_slT, ok_slF, ok_backT, ok_lenT, ok_lenF, ok_abs, ok_max2, ok_min2, ok_intB, ok_divmod, ok_itT, ok_itF, ok_isiII, ok_isiIB, ok_isiIT, ok_isiTT, ok_isiTI, ok_isiSS, getAt0, getAt1, getAt2, wipeM, List.map_cons, List.map_nil, List.cons_append, List.nil_append, List.append_nil, List.length_cons, List.length_nil, List.length_map, Nat.reduceAdd, Nat.reduceSub, List.replicate_zero, List.replicate_succ, List.getElem?_cons_zero, List.getElem?_cons_succ, List.set_cons_zero, List.set_cons_succ, Option.some.injEq, exists_eq_left', MV.bl.injEq, MV.int.injEq, true_and, and_true, Int.reduceLT, Int.reduceLE, Nat.reduceLT, Nat.reduceLeDiff, decide_true, decide_false, Bool.not_true, Bool.not_false, Bool.false_eq_true, if_true, if_false, reduceIte]
        refine (left_ok RL.C.len).mono fun v h3 ⟨e3, g3⟩ => ?_
        subst e3
        refine (left_ok RL.C.len).mono fun v h4 ⟨e4, g4⟩ => ?_
        subst e4
        (try simp only [ok_ok, ok_bind, ok_ite, ok_mVar, ok_mC, ok_mOp, ok_mUn, ok_mNil, ok_mCons, ok_mTup, ok_mLst, ok_mCB, ok_mTest, ok_mAnd, ok_mOr, ok_mNot, ok_mIf, ok_mTru, ok_truM_bl, ok_mAndV, ok_mOrV, ok_mNotV, ok_mChain, ok_mNoPart, ok_mPart, ok_mSlice, ok_mBack, ok_mCall, ok_mCallK, ok_mMeth, ok_mIter, ok_mRng1, ok_mRng2, ok_mZip, ok_rng1, ok_rng2, ok_gmName, ok_gmNil, ok_gmCons, ok_gmTup, ok_gmSub, sn_nx, sn_rt, sn_ite, sn_sSeq, sn_sNext, sn_sBreak, sn_sCont, sn_sRetN, sn_sExpr, sn_sRet, sn_sIf, sn_sAsg, sn_sPar, sn_sAug, ok_runD, sn_sFor, ok_mComp, ok_mYes, ok_add, ok_addT, ok_sub, ok_mul, ok_div, ok_mod, ok_pow, ok_lt, ok_le, ok_gt, ok_ge, ok_neg, ok_eqI, ok_neI, ok_isN, ok_notN, ok_ixT, ok_ixF, ok_slT, ok_slF, ok_backT, ok_lenT, ok_lenF, ok_abs, ok_max2, ok_min2, ok_intB, ok_divmod, ok_itT, ok_itF, ok_isiII, ok_isiIB, ok_isiIT, ok_isiTT, ok_isiTI, ok_isiSS, getAt0, getAt1, getAt2, wipeM, List.map_cons, List.map_nil, List.cons_append, List.nil_append, List.append_nil, List.length_cons, List.length_nil, List.length_map, Nat.reduceAdd, Nat.reduceSub, List.replicate_zero, List.replicate_succ, List.getElem?_cons_zero, List.getElem?_cons_succ, List.set_cons_zero, List.set_cons_succ, Option.some.injEq, exists_eq_left', MV.bl.injEq, MV.int.injEq, true_and, and_true, Int.reduceLT, Int.reduceLE, Nat.reduceLT, Nat.reduceLeDiff, decide_true, decide_false, Bool.not_true, Bool.not_false, Bool.false_eq_true, if_true, if_false, reduceIte])
        by_cases g5 : left cs k = left cs (k + c)
        · rw [decide_eq_true g5]
          (try simp only [ok_ok, ok_bind, ok_ite, ok_mVar, ok_mC, ok_mOp, ok_mUn, ok_mNil, ok_mCons, ok_mTup, ok_mLst, ok_mCB, ok_mTest, ok_mAnd, ok_mOr, ok_mNot, ok_mIf, ok_mTru, ok_truM_bl, ok_mAndV, ok_mOrV, ok_mNotV, ok_mChain, ok_mNoPart, ok_mPart, ok_mSlice, ok_mBack, ok_mCall, ok_mCallK, ok_mMeth, ok_mIter, ok_mRng1, ok_mRng2, ok_mZip, ok_rng1, ok_rng2, ok_gmName, ok_gmNil, ok_gmCons, ok_gmTup, ok_gmSub, sn_nx, sn_rt, sn_ite, sn_sSeq, sn_sNext, sn_sBreak, sn_sCont, sn_sRetN, sn_sExpr, sn_sRet, sn_sIf, sn_sAsg, sn_sPar, sn_sAug, ok_runD, sn_sFor, ok_mComp, ok_mYes, ok_add, ok_addT, ok_sub, ok_mul, ok_div, ok_mod, ok_pow, ok_lt, ok_le, ok_gt, ok_ge, ok_neg, ok_eqI, ok_neI, ok_isN, ok_notN, ok_ixT, ok_ixF, ok_slT, ok_slF, ok_backT, ok_lenT, ok_lenF, ok_abs, ok_max2, ok_min2, ok_intB, ok_divmod, ok_itT, ok_itF, ok_isiII, ok_isiIB, ok_isiIT, ok_isiTT, ok_isiTI, ok_isiSS, getAt0, getAt1, getAt2, wipeM, List.map_cons, List.map_nil, List.cons_append, List.nil_append, List.append_nil, List.length_cons, List.length_nil, List.length_map, Nat.reduceAdd, Nat.reduceSub, List.replicate_zero, List.replicate_succ, List.getElem?_cons_zero, List.getElem?_cons_succ, List.set_cons_zero, List.set_cons_succ, Option.some.injEq, exists_eq_left', MV.bl.injEq, MV.int.injEq, true_and, and_true, Int.reduceLT, Int.reduceLE, Nat.reduceLT, Nat.reduceLeDiff, decide_true, decide_false, Bool.not_true, Bool.not_false, Bool.false_eq_true, if_true, if_false, reduceIte])
          exact ⟨(G2.trans g3).trans g4, ds, rfl, by omega, hds⟩
        · rw [decide_eq_false g5]
          (try simp only [ok_ok, ok_bind, ok_ite, ok_mVar, ok_mC, ok_mOp, ok_mUn, ok_mNil, ok_mCons, ok_mTup, ok_mLst, ok_mCB, ok_mTest, ok_mAnd, ok_mOr, ok_mNot, ok_mIf, ok_mTru, ok_truM_bl, ok_mAndV, ok_mOrV, ok_mNotV, ok_mChain, ok_mNoPart, ok_mPart, ok_mSlice, ok_mBack, ok_mCall, ok_mCallK, ok_mMeth, ok_mIter, ok_mRng1, ok_mRng2, ok_mZip, ok_rng1, ok_rng2, ok_gmName, ok_gmNil, ok_gmCons, ok_gmTup, ok_gmSub, sn_nx, sn_rt, sn_ite, sn_sSeq, sn_sNext, sn_sBreak, sn_sCont, sn_sRetN, sn_sExpr, sn_sRet, sn_sIf, sn_sAsg, sn_sPar, sn_sAug, ok_runD, sn_sFor, ok_mComp, ok_mYes, ok_add, ok_addT, ok_sub, ok_mul, ok_div, ok_mod, ok_pow, ok_lt, ok_le, ok_gt, ok_ge, ok_neg, ok_eqI, ok_neI, ok_isN, ok_notN, ok_ixT, ok_ixF, ok_slT, ok_slF, ok_backT, ok_lenT, ok_lenF, ok_abs, ok_max2, ok_min2, ok_intB, ok_divmod, ok_itT, ok_itF, ok_isiII, ok_isiIB, ok_isiIT, ok_isiTT, ok_isiTI, ok_isiSS, getAt0, getAt1, getAt2, wipeM, List.map_cons, List.map_nil, List.cons_append, List.nil_append, List.append_nil, List.length_cons, List.length_nil, List.length_map, Nat.reduceAdd, Nat.reduceSub, List.replicate_zero, List.replicate_succ, List.getElem?_cons_zero, List.getElem?_cons_succ, List.set_cons_zero, List.set_cons_succ, Option.some.injEq, exists_eq_left', MV.bl.injEq, MV.int.injEq, true_and, and_true, Int.reduceLT, Int.reduceLE, Nat.reduceLT, Nat.reduceLeDiff, decide_true, decide_false, Bool.not_true, Bool.not_false, Bool.false_eq_true, if_true, if_false, reduceIte])
          refine ⟨by omega, (G2.trans g3).trans g4, ds ++ [k], by simp, by simp; omega, fun d hd => ?_⟩
          rcases List.mem_append.mp hd with z | z
          · exact hds d z
          · rw [List.mem_singleton] at z
            omega
      obtain ⟨G2, ds, rfl, hdl, hds⟩ := J
      rw [List.length_map, rngL_len] at hdl
      have hD : (h2 ++ [MO.lst (ds.map .int)])[h2.length]? = some (.lst (ds.map .int)) := new_at
      have G3 := G2.trans (Gr.one h2 (MO.lst (ds.map .int)))
      have P3 := P1.gr G3
      have K3 := K1.trans (G3.kh p)
      have hL3 := G3.at hL
      have hdp : h2.length ≠ p := Nat.ne_of_gt (P1.gr G2).lt
      have hdA : h2.length ≠ h.length := by
        have := (List.getElem?_eq_some_iff.mp (G2.at hL)).1
        omega
      generalize h2 ++ [MO.lst (ds.map .int)] = h3 at *
      generalize h2.length = D at *
      (try simp only [ok_ok, ok_bind, ok_ite, ok_mVar, ok_mC, ok_mOp, ok_mUn, ok_mNil, ok_mCons, ok_mTup, ok_mLst, ok_mCB, ok_mTest, ok_mAnd, ok_mOr, ok_mNot, ok_mIf, ok_mTru, ok_truM_bl, ok_mAndV, ok_mOrV, ok_mNotV, ok_mChain, ok_mNoPart, ok_mPart, ok_mSlice, ok_mBack, ok_mCall, ok_mCallK, ok_mMeth, ok_mIter, ok_mRng1, ok_mRng2, ok_mZip, ok_rng1, ok_rng2, ok_gmName, ok_gmNil, ok_gmCons, ok_gmTup, ok_gmSub, sn_nx, sn_rt, sn_ite, sn_sSeq, sn_sNext, sn_sBreak, sn_sCont, sn_sRetN, sn_sExpr, sn_sRet, sn_sIf, sn_sAsg, sn_sPar, sn_sAug, ok_runD, sn_sFor, ok_mComp, ok_mYes, ok_add, ok_addT, ok_sub, ok_mul, ok_div, ok_mod, ok_pow, ok_lt, ok_le, ok_gt, ok_ge, ok_neg, ok_eqI, ok_neI, ok_isN, ok_notN, ok_ixT, ok_ixF, ok_slT, ok_slF, ok_backT, ok_lenT, ok_lenF, ok_abs, ok_max2, ok_min2, ok_intB, ok_divmod, ok_itT, ok_itF, ok_isiII, ok_isiIB, ok_isiIT, ok_isiTT, ok_isiTI, ok_isiSS, getAt0, getAt1, getAt2, wipeM, List.map_cons, List.map_nil, List.cons_append, List.nil_append, List.append_nil, List.length_cons, List.length_nil, List.length_map, Nat.reduceAdd, Nat.reduceSub, List.replicate_zero, List.replicate_succ, List.getElem?_cons_zero, List.getElem?_cons_succ, List.set_cons_zero, List.set_cons_succ, Option.some.injEq, exists_eq_left', MV.bl.injEq, MV.int.injEq, true_and, and_true, Int.reduceLT, Int.reduceLE, Nat.reduceLT, Nat.reduceLeDiff, decide_true, decide_false, Bool.not_true, Bool.not_false, Bool.false_eq_true, if_true, if_false, reduceIte])
      have hD' := (Gr.one h3 (MO.lst [])).at hD
      have hL4 := (Gr.one h3 (MO.lst [])).at hL3
      have P4 := P3.gr (Gr.one h3 (MO.lst []))
      have K4 := K3.trans ((Gr.one h3 (MO.lst [])).kh p)
      have he : (h3 ++ [MO.lst []])[h3.length]? = some (.lst (([] : List Int).map .int)) := new_at
      rw [ok_neL hD' he]
      generalize h3 ++ [MO.lst []] = h4 at *
      -- what is left to do with a place
      have go : ∀ (k : Int) (h5 : Hm), 0 ≤ k → k < one - c → h5[h.length]? = some (.lst (ps.map pr)) → Pool p (n + i + 1) h5 → Kh p h h5 →
          (isLst (.ref h.length) h5 = true ∧ Ok (appendM (.ref h.length) [.tup [.int c, .int k]] h5) fun _ h' => ∃ (ps : List (Int × Int)), h'[h.length]? = some (.lst (ps.map pr)) ∧ ps.length ≤ i + 1 ∧ (∀ x ∈ ps, (0 ≤ x.1 ∧ x.1 ≤ 16) ∧ 0 ≤ x.2 ∧ x.2 ≤ 16) ∧ Pool p (n + ((i + 1 : Nat) : Int)) h' ∧ Kh p h h') := by
        intro k h5 k0 k1 L5 P5 K5
        refine ⟨isLst_at L5, ?_⟩
        rw [ok_append L5]
        refine ⟨by rw [List.length_map]; omega, ps ++ [(c, k)], ?_, by simp; omega, fun x hx => ?_, ?_, ?_⟩
        · rw [set_at L5]
          simp [pr]
        · rcases List.mem_append.mp hx with z | z
          · exact hsm x z
          · rw [List.mem_singleton] at z
            subst z
            exact ⟨⟨by show 0 ≤ c; omega, by show c ≤ 16; omega⟩, by show 0 ≤ k; omega, by show k ≤ 16; omega⟩
        · obtain ⟨a1, a2, a3, q1, q2⟩ := P5
          refine ⟨a1, a2, a3, ?_, q2.1, q2.2.1, by have := q2.2.2; omega⟩
          rw [List.getElem?_set_ne hA]
          exact q1
        · refine ⟨by simp; exact K5.len, fun j hj hp => ?_⟩
          rw [List.getElem?_set_ne (Nat.ne_of_gt hj)]
          exact K5.at_ j hj hp
      by_cases g6 : ds = []
      · rw [decide_eq_true g6]
        (try simp only [ok_ok, ok_bind, ok_ite, ok_mVar, ok_mC, ok_mOp, ok_mUn, ok_mNil, ok_mCons, ok_mTup, ok_mLst, ok_mCB, ok_mTest, ok_mAnd, ok_mOr, ok_mNot, ok_mIf, ok_mTru, ok_truM_bl, ok_mAndV, ok_mOrV, ok_mNotV, ok_mChain, ok_mNoPart, ok_mPart, ok_mSlice, ok_mBack, ok_mCall, ok_mCallK, ok_mMeth, ok_mIter, ok_mRng1, ok_mRng2, ok_mZip, ok_rng1, ok_rng2, ok_gmName, ok_gmNil, ok_gmCons, ok_gmTup, ok_gmSub, sn_nx, sn_rt, sn_ite, sn_sSeq, sn_sNext, sn_sBreak, sn_sCont, sn_sRetN, sn_sExpr, sn_sRet, sn_sIf, sn_sAsg, sn_sPar, sn_sAug, ok_runD, sn_sFor, ok_mComp, ok_mYes, ok_add, ok_addT, ok_sub, ok_mul, ok_div, ok_mod, ok_pow, ok_lt, ok_le, ok_gt, ok_ge, ok_neg, ok_eqI, ok_neI, ok_isN, ok_notN, ok_ixT, ok_ixF, ok_slT, ok_slF, ok_backT, ok_lenT, ok_lenF, ok_abs, ok_max2, ok_min2, ok_intB, ok_divmod, ok_itT, ok_itF, ok_isiII, ok_isiIB, ok_isiIT, ok_isiTT, ok_isiTI, ok_isiSS, getAt0, getAt1, getAt2, wipeM, List.map_cons, List.map_nil, List.cons_append, List.nil_append, List.append_nil, List.length_cons, List.length_nil, List.length_map, Nat.reduceAdd, Nat.reduceSub, List.replicate_zero, List.replicate_succ, List.getElem?_cons_zero, List.getElem?_cons_succ, List.set_cons_zero, List.set_cons_succ, Option.some.injEq, exists_eq_left', MV.bl.injEq, MV.int.injEq, true_and, and_true, Int.reduceLT, Int.reduceLE, Nat.reduceLT, Nat.reduceLeDiff, decide_true, decide_false, Bool.not_true, Bool.not_false, Bool.false_eq_true, if_true, if_false, reduceIte])
        refine (draw_ok P4 (by omega) (by omega) (by omega)).mono fun v h5 ⟨k, e, hk, P5, K5⟩ => ?_
        subst e
        (try simp only [ok_ok, ok_bind, ok_ite, ok_mVar, ok_mC, ok_mOp, ok_mUn, ok_mNil, ok_mCons, ok_mTup, ok_mLst, ok_mCB, ok_mTest, ok_mAnd, ok_mOr, ok_mNot, ok_mIf, ok_mTru, ok_truM_bl, ok_mAndV, ok_mOrV, ok_mNotV, ok_mChain, ok_mNoPart, ok_mPart, ok_mSlice, ok_mBack, ok_mCall, ok_mCallK, ok_mMeth, ok_mIter, ok_mRng1, ok_mRng2, ok_mZip, ok_rng1, ok_rng2, ok_gmName, ok_gmNil, ok_gmCons, ok_gmTup, ok_gmSub, sn_nx, sn_rt, sn_ite, sn_sSeq, sn_sNext, sn_sBreak, sn_sCont, sn_sRetN, sn_sExpr, sn_sRet, sn_sIf, sn_sAsg, sn_sPar, sn_sAug, ok_runD, sn_sFor, ok_mComp, ok_mYes, ok_add, ok_addT, ok_sub, ok_mul, ok_div, ok_mod, ok_pow, ok_lt, ok_le, ok_gt, ok_ge, ok_neg, ok_eqI, ok_neI, ok_isN, ok_notN, ok_ixT, ok_ixF, ok_slT, ok_slF, ok_backT, ok_lenT, ok_lenF, ok_abs, ok_max2, ok_min2, ok_intB, ok_divmod, ok_itT, ok_itF, ok_isiII, ok_isiIB, ok_isiIT, ok_isiTT, ok_isiTI, ok_isiSS, getAt0, getAt1, getAt2, wipeM, List.map_cons, List.map_nil, List.cons_append, List.nil_append, List.append_nil, List.length_cons, List.length_nil, List.length_map, Nat.reduceAdd, Nat.reduceSub, List.replicate_zero, List.replicate_succ, List.getElem?_cons_zero, List.getElem?_cons_succ, List.set_cons_zero, List.set_cons_succ, Option.some.injEq, exists_eq_left', MV.bl.injEq, MV.int.injEq, true_and, and_true, Int.reduceLT, Int.reduceLE, Nat.reduceLT, Nat.reduceLeDiff, decide_true, decide_false, Bool.not_true, Bool.not_false, Bool.false_eq_true, if_true, if_false, reduceIte])
        obtain ⟨q1, q4⟩ := go k h5 hk.1 hk.2 (K5.get hL4 hA) P5 (K4.trans K5)
        exact ⟨q1, q4.mono fun _ h6 ⟨ps, r1, r2, r0, r3, r4⟩ => ⟨ps, _, _, _, _, rfl, r1, r2, r0, r3, r4⟩⟩
      · rw [decide_eq_false g6]
        (try simp only [ok_ok, ok_bind, ok_ite, ok_mVar, ok_mC, ok_mOp, ok_mUn, ok_mNil, ok_mCons, ok_mTup, ok_mLst, ok_mCB, ok_mTest, ok_mAnd, ok_mOr, ok_mNot, ok_mIf, ok_mTru, ok_truM_bl, ok_mAndV, ok_mOrV, ok_mNotV, ok_mChain, ok_mNoPart, ok_mPart, ok_mSlice, ok_mBack, ok_mCall, ok_mCallK, ok_mMeth, ok_mIter, ok_mRng1, ok_mRng2, ok_mZip, ok_rng1, ok_rng2, ok_gmName, ok_gmNil, ok_gmCons, ok_gmTup, ok_gmSub, sn_nx, sn_rt, sn_ite, sn_sSeq, sn_sNext, sn_sBreak, sn_sCont, sn_sRetN, sn_sExpr, sn_sRet, sn_sIf, sn_sAsg, sn_sPar, sn_sAug, ok_runD, sn_sFor, ok_mComp, ok_mYes, ok_add, ok_addT, ok_sub, ok_mul, ok_div, ok_mod, ok_pow, ok_lt, ok_le, ok_gt, ok_ge, ok_neg, ok_eqI, ok_neI, ok_isN, ok_notN, ok_ixT, ok_ixF, ok_slT, ok_slF, ok_backT, ok_lenT, ok_lenF, ok_abs, ok_max2, ok_min2, ok_intB, ok_divmod, ok_itT, ok_itF, ok_isiII, ok_isiIB, ok_isiIT, ok_isiTT, ok_isiTI, ok_isiSS, getAt0, getAt1, getAt2, wipeM, List.map_cons, List.map_nil, List.cons_append, List.nil_append, List.append_nil, List.length_cons, List.length_nil, List.length_map, Nat.reduceAdd, Nat.reduceSub, List.replicate_zero, List.replicate_succ, List.getElem?_cons_zero, List.getElem?_cons_succ, List.set_cons_zero, List.set_cons_succ, Option.some.injEq, exists_eq_left', MV.bl.injEq, MV.int.injEq, true_and, and_true, Int.reduceLT, Int.reduceLE, Nat.reduceLT, Nat.reduceLeDiff, decide_true, decide_false, Bool.not_true, Bool.not_false, Bool.false_eq_true, if_true, if_false, reduceIte])
        refine (draw_ok P4 (by omega) (by decide) (by decide)).mono fun v h5 ⟨d, e, hd, P5, K5⟩ => ?_
        subst e
        have hD5 := K5.get hD' hdp
        rw [ok_lenL hD5]
        (try simp only [ok_ok, ok_bind, ok_ite, ok_mVar, ok_mC, ok_mOp, ok_mUn, ok_mNil, ok_mCons, ok_mTup, ok_mLst, ok_mCB, ok_mTest, ok_mAnd, ok_mOr, ok_mNot, ok_mIf, ok_mTru, ok_truM_bl, ok_mAndV, ok_mOrV, ok_mNotV, ok_mChain, ok_mNoPart, ok_mPart, ok_mSlice, ok_mBack, ok_mCall, ok_mCallK, ok_mMeth, ok_mIter, ok_mRng1, ok_mRng2, ok_mZip, ok_rng1, ok_rng2, ok_gmName, ok_gmNil, ok_gmCons, ok_gmTup, ok_gmSub, sn_nx, sn_rt, sn_ite, sn_sSeq, sn_sNext, sn_sBreak, sn_sCont, sn_sRetN, sn_sExpr, sn_sRet, sn_sIf, sn_sAsg, sn_sPar, sn_sAug, ok_runD, sn_sFor, ok_mComp, ok_mYes, ok_add, ok_addT, ok_sub, ok_mul, ok_div, ok_mod, ok_pow, ok_lt, ok_le, ok_gt, ok_ge, ok_neg, ok_eqI, ok_neI, ok_isN, ok_notN, ok_ixT, ok_ixF, ok_slT, ok_slF, ok_backT, ok_lenT, ok_lenF, ok_abs, ok_max2, ok_min2, ok_intB, ok_divmod, ok_itT, ok_itF, ok_isiII, ok_isiIB, ok_isiIT, ok_isiTT, ok_isiTI, ok_isiSS, getAt0, getAt1, getAt2, wipeM, List.map_cons, List.map_nil, List.cons_append, List.nil_append, List.append_nil, List.length_cons, List.length_nil, List.length_map, Nat.reduceAdd, Nat.reduceSub, List.replicate_zero, List.replicate_succ, List.getElem?_cons_zero, List.getElem?_cons_succ, List.set_cons_zero, List.set_cons_succ, Option.some.injEq, exists_eq_left', MV.bl.injEq, MV.int.injEq, true_and, and_true, Int.reduceLT, Int.reduceLE, Nat.reduceLT, Nat.reduceLeDiff, decide_true, decide_false, Bool.not_true, Bool.not_false, Bool.false_eq_true, if_true, if_false, reduceIte])
        have hdn : 0 < ds.length := List.length_pos_iff.mpr g6
        refine ⟨mul_ok (by omega) (by omega), ?_⟩
        rw [ok_ixL hD5]
        have hix : 0 ≤ d * ((ds.length : Int) - 1) ∧ (d * ((ds.length : Int) - 1)).toNat < ds.length := by
          have hd' : d = 0 ∨ d = 1 := by omega
          rcases hd' with rfl | rfl <;> omega
        have hg : getAt (ds.map MV.int) (d * ((ds.length : Int) - 1)) = some (.int (ds[(d * ((ds.length : Int) - 1)).toNat]'hix.2)) := by
          rw [getAt_at hix.1, List.getElem?_map, List.getElem?_eq_getElem hix.2]
          rfl
        refine ⟨_, hg, ?_⟩
        have hm := hds _ (List.getElem_mem hix.2)
        (try simp only [ok_ok, ok_bind, ok_ite, ok_mVar, ok_mC, ok_mOp, ok_mUn, ok_mNil, ok_mCons, ok_mTup, ok_mLst, ok_mCB, ok_mTest, ok_mAnd, ok_mOr, ok_mNot, ok_mIf, ok_mTru, ok_truM_bl, ok_mAndV, ok_mOrV, ok_mNotV, ok_mChain, ok_mNoPart, ok_mPart, ok_mSlice, ok_mBack, ok_mCall, ok_mCallK, ok_mMeth, ok_mIter, ok_mRng1, ok_mRng2, ok_mZip, ok_rng1, ok_rng2, ok_gmName, ok_gmNil, ok_gmCons, ok_gmTup, ok_gmSub, sn_nx, sn_rt, sn_ite, sn_sSeq, sn_sNext, sn_sBreak, sn_sCont, sn_sRetN, sn_sExpr, sn_sRet, sn_sIf, sn_sAsg, sn_sPar, sn_sAug, ok_runD, sn_sFor, ok_mComp, ok_mYes, ok_add, ok_addT, ok_sub, ok_mul, ok_div, ok_mod, ok_pow, ok_lt, ok_le, ok_gt, ok_ge, ok_neg, ok_eqI, ok_neI, ok_isN, ok_notN, ok_ixT, ok_ixF, ok_slT, ok_slF, ok_backT, ok_lenT, ok_lenF, ok_abs, ok_max2, ok_min2, ok_intB, ok_divmod, ok_itT, ok_itF, ok_isiII, ok_isiIB, ok_isiIT, ok_isiTT, ok_isiTI, ok_isiSS, getAt0, getAt1, getAt2, wipeM, List.map_cons, List.map_nil, List.cons_append, List.nil_append, List.append_nil, List.length_cons, List.length_nil, List.length_map, Nat.reduceAdd, Nat.reduceSub, List.replicate_zero, List.replicate_succ, List.getElem?_cons_zero, List.getElem?_cons_succ, List.set_cons_zero, List.set_cons_succ, Option.some.injEq, exists_eq_left', MV.bl.injEq, MV.int.injEq, true_and, and_true, Int.reduceLT, Int.reduceLE, Nat.reduceLT, Nat.reduceLeDiff, decide_true, decide_false, Bool.not_true, Bool.not_false, Bool.false_eq_true, if_true, if_false, reduceIte])
        obtain ⟨q1, q4⟩ := go _ h5 hm.1 hm.2 (K5.get hL4 hA) P5 (K4.trans K5)
        exact ⟨q1, q4.mono fun _ h6 ⟨ps, r1, r2, r0, r3, r4⟩ => ⟨ps, _, _, _, _, rfl, r1, r2, r0, r3, r4⟩⟩
    · rw [decide_eq_false g]
      (try simp only [ok_ok, ok_bind, ok_ite, ok_mVar, ok_mC, ok_mOp, ok_mUn, ok_mNil, ok_mCons, ok_mTup, ok_mLst, ok_mCB, ok_mTest, ok_mAnd, ok_mOr, ok_mNot, ok_mIf, ok_mTru, ok_truM_bl, ok_mAndV, ok_mOrV, ok_mNotV, ok_mChain, ok_mNoPart, ok_mPart, ok_mSlice, ok_mBack, ok_mCall, ok_mCallK, ok_mMeth, ok_mIter, ok_mRng1, ok_mRng2, ok_mZip, ok_rng1, ok_rng2, ok_gmName, ok_gmNil, ok_gmCons, ok_gmTup, ok_gmSub, sn_nx, sn_rt, sn_ite, sn_sSeq, sn_sNext, sn_sBreak, sn_sCont, sn_sRetN, sn_sExpr, sn_sRet, sn_sIf, sn_sAsg, sn_sPar, sn_sAug, ok_runD, sn_sFor, ok_mComp, ok_mYes, ok_add, ok_addT, ok_sub, ok_mul, ok_div, ok_mod, ok_pow, ok_lt, ok_le, ok_gt, ok_ge, ok_neg, ok_eqI, ok_neI, ok_isN, ok_notN, ok_ixT, ok_ixF, ok_slT, ok_slF, ok_backT, ok_lenT, ok_lenF, ok_abs, ok_max2, ok_min2, ok_intB, ok_divmod, ok_itT, ok_itF, ok_isiII, ok_isiIB, ok_isiIT, ok_isiTT, ok_isiTI, ok_isiSS, getAt0, getAt1, getAt2, wipeM, List.map_cons, List.map_nil, List.cons_append, List.nil_append, List.append_nil, List.length_cons, List.length_nil, List.length_map, Nat.reduceAdd, Nat.reduceSub, List.replicate_zero, List.replicate_succ, List.getElem?_cons_zero, List.getElem?_cons_succ, List.set_cons_zero, List.set_cons_succ, Option.some.injEq, exists_eq_left', MV.bl.injEq, MV.int.injEq, true_and, and_true, Int.reduceLT, Int.reduceLE, Nat.reduceLT, Nat.reduceLeDiff, decide_true, decide_false, Bool.not_true, Bool.not_false, Bool.false_eq_true, if_true, if_false, reduceIte])
      exact ⟨ps, _, _, _, _, rfl, hL, by omega, hsm, P1.le (by omega), K1⟩
  · obtain ⟨ps, y5, y6, y7, y8, rfl, hL, hl, hsm, P1, K1⟩ := I
    (try simp only [ok_ok, ok_bind, ok_ite, ok_mVar, ok_mC, ok_mOp, ok_mUn, ok_mNil, ok_mCons, ok_mTup, ok_mLst, ok_mCB, ok_mTest, ok_mAnd, ok_mOr, ok_mNot, ok_mIf, ok_mTru, ok_truM_bl, ok_mAndV, ok_mOrV, ok_mNotV, ok_mChain, ok_mNoPart, ok_mPart, ok_mSlice, ok_mBack, ok_mCall, ok_mCallK, ok_mMeth, ok_mIter, ok_mRng1, ok_mRng2, ok_mZip, ok_rng1, ok_rng2, ok_gmName, ok_gmNil, ok_gmCons, ok_gmTup, ok_gmSub, sn_nx, sn_rt, sn_ite, sn_sSeq, sn_sNext, sn_sBreak, sn_sCont, sn_sRetN, sn_sExpr, sn_sRet, sn_sIf, sn_sAsg, sn_sPar, sn_sAug, ok_runD, sn_sFor, ok_mComp, ok_mYes, ok_add, ok_addT, ok_sub, ok_mul, ok_div, ok_mod, ok_pow, ok_lt, ok_le, ok_gt, ok_ge, ok_neg, ok_eqI, ok_neI, ok_isN, ok_notN, ok_ixT, ok_ixF, ok_slT, ok_slF, ok_backT, ok_lenT, ok_lenF, ok_abs, ok_max2, ok_min2, ok_intB, ok_divmod, ok_itT, ok_itF, ok_isiII, ok_isiIB, ok_isiIT, ok_isiTT, ok_isiTI, ok_isiSS, getAt0, getAt1, getAt2, wipeM, List.map_cons, List.map_nil, List.cons_append, List.nil_append, List.append_nil, List.length_cons, List.length_nil, List.length_map, Nat.reduceAdd, Nat.reduceSub, List.replicate_zero, List.replicate_succ, List.getElem?_cons_zero, List.getElem?_cons_succ, List.set_cons_zero, List.set_cons_succ, Option.some.injEq, exists_eq_left', MV.bl.injEq, MV.int.injEq, true_and, and_true, Int.reduceLT, Int.reduceLE, Nat.reduceLT, Nat.reduceLeDiff, decide_true, decide_false, Bool.not_true, Bool.not_false, Bool.false_eq_true, if_true, if_false, reduceIte])
    rw [ok_tupleL hL]
    rw [List.length_map] at *
    have := RL.few
    exact ⟨ps, rfl, by omega, hsm, P1.le (by omega), K1⟩
end K74

namespace K74
open Cutp
open PySem (Str)
theorem period_ok {cs : List Int} (C : Cuts cs) {size cut : Int} {h : Hm} (hs : 0 ≤ size ∧ size ≤ 16) (hc : 0 ≤ cut ∧ cut ≤ 16) : Ok (m__law_is_period [.tup (cs.map .int), .int size, .int cut] h) fun v h' => Gr h h' ∧ ∃ b, v = .bl b := by
  unfold m__law_is_period b__law_is_period
  simp only [ok_ok, ok_bind, ok_ite, ok_mVar, ok_mC, ok_mOp, ok_mUn, ok_mNil, ok_mCons, ok_mTup, ok_mLst, ok_mCB, ok_mTest, ok_mAnd, ok_mOr, ok_mNot, ok_mIf, ok_mTru, ok_truM_bl, ok_mAndV, ok_mOrV, ok_mNotV, ok_mChain, ok_mNoPart, ok_mPart, ok_mSlice, ok_mBack, ok_mCall, ok_mCallK, ok_mMeth, ok_mIter, ok_mRng1, ok_mRng2, ok_mZip, ok_rng1, ok_rng2, ok_gmName, ok_gmNil, ok_gmCons, ok_gmTup, ok_gmSub, sn_nx, sn_rt, sn_ite, sn_sSeq, sn_sNext, sn_sBreak, sn_sCont, sn_sRetN, sn_sExpr, sn_sRet, sn_sIf, sn_sAsg, sn_sPar, sn_sAug, ok_runD, sn_sFor, ok_mComp, ok_mYes, ok_add, ok_addT, ok_sub, ok_mul, ok_div, ok_mod, ok_pow, ok_lt, ok_le, ok_gt, ok_ge, ok_neg, ok_eqI, ok_neI, ok_isN, ok_notN, ok_ixT, ok_ixF, ok_slT, ok_slF, ok_backT, ok_lenT, ok_lenF, ok_abs, ok_max2, ok_min2, ok_intB, ok_divmod, ok_itT, ok_itF, ok_isiII, ok_isiIB, ok_isiIT, ok_isiTT, ok_isiTI, ok_isiSS, getAt0, getAt1, getAt2, wipeM, List.map_cons, List.map_nil, List.cons_append, List.nil_append, List.append_nil, List.length_cons, List.length_nil, List.length_map, Nat.reduceAdd, Nat.reduceSub, List.replicate_zero, List.replicate_succ, List.getElem?_cons_zero, List.getElem?_cons_succ, List.set_cons_zero, List.set_cons_succ, Option.some.injEq, exists_eq_left', MV.bl.injEq, MV.int.injEq, true_and, and_true, Int.reduceLT, Int.reduceLE, Nat.reduceLT, Nat.reduceLeDiff, decide_true, decide_false, Bool.not_true, Bool.not_false, Bool.false_eq_true, if_true, if_false, reduceIte]
  refine ⟨by omega, ?_⟩
  refine comp_ok ((rngL 0 (size - cut).toNat).map .int) (fun i acc h' => Gr h h' ∧ ∃ bs : List Bool, acc = bs.map .bl ∧ bs.length ≤ i) (by rw [List.length_map, rngL_len]; exact Nat.le_trans (show (size - cut).toNat ≤ 16 by omega) (by decide)) ⟨Gr.refl _, [], rfl, Nat.le_refl _⟩ (fun i acc h' q => itRng_at) (fun i v hv acc h' I => ?_) (fun acc h' I => ?_)
  · obtain ⟨k, hk, rfl, b1, b2⟩ := rng_get hv
    have hil := (List.getElem?_eq_some_iff.mp hk).1
    rw [rngL_len] at hil
    obtain ⟨G, bs, rfl, hb⟩ := I
    simp only [ok_ok, ok_bind, ok_ite, ok_mVar, ok_mC, ok_mOp, ok_mUn, ok_mNil, ok_mCons, ok_mTup, ok_mLst, ok_mCB, ok_mTest, ok_mAnd, ok_mOr, ok_mNot, ok_mIf, ok_mTru, ok_truM_bl, ok_mAndV, ok_mOrV, ok_mNotV, ok_mChain, ok_mNoPart, ok_mPart, ok_mSlice, ok_mBack, ok_mCall, ok_mCallK, ok_mMeth, ok_mIter, ok_mRng1, ok_mRng2, ok_mZip, ok_rng1, ok_rng2, ok_gmName, ok_gmNil, ok_gmCons, ok_gmTup, ok_gmSub, sn_nx, sn_rt, sn_ite, sn_sSeq, sn_sNext, sn_sBreak, sn_sCont, sn_sRetN, sn_sExpr, sn_sRet, sn_sIf, sn_sAsg, sn_sPar, sn_sAug, ok_runD, sn_sFor, ok_mComp, ok_mYes, ok_add, ok_addT, ok_sub, ok_mul, ok_div, ok_mod, ok_pow, ok_lt, ok_le, ok_gt, ok_ge, ok_neg, ok_eqI, ok_neI, ok_isN, ok_notN, ok_ixT, ok_ixF, ok_slT, ok_slF, ok_backT, ok_lenT, ok_lenF, ok_abs, ok_max2, ok_min2, ok_intB, ok_divmod, ok_itT, ok_itF, ok_isiII, ok_isiIB, ok_isiIT, ok_isiTT, ok_isiTI, ok_isiSS, getAt0, getAt1, getAt2, wipeM, List.map_cons, List.map_nil, List.cons_append, List.nil_append, List.append_nil, List.length_cons, List.length_nil, List.length_map, Nat.reduceAdd, Nat.reduceSub, List.replicate_zero, List.replicate_succ, List.getElem?_cons_zero, List.getElem?_cons_succ, List.set_cons_zero, List.set_cons_succ, Option.some.injEq, exists_eq_left', MV.bl.injEq, MV.int.injEq, true_and, and_true, Int.reduceLT, Int.reduceLE, Nat.reduceLT, Nat.reduceLeDiff, decide_true, decide_false, Bool.not_true, Bool.not_false, Bool.false_eq_true, if_true, if_false, reduceIte]
    refine (left_ok C.len).mono fun v h3 ⟨e3, g3⟩ => ?_
    subst e3
    refine (left_ok C.len).mono fun v h4 ⟨e4, g4⟩ => ?_
    subst e4
    (try simp only [ok_ok, ok_bind, ok_ite, ok_mVar, ok_mC, ok_mOp, ok_mUn, ok_mNil, ok_mCons, ok_mTup, ok_mLst, ok_mCB, ok_mTest, ok_mAnd, ok_mOr, ok_mNot, ok_mIf, ok_mTru, ok_truM_bl, ok_mAndV, ok_mOrV, ok_mNotV, ok_mChain, ok_mNoPart, ok_mPart, ok_mSlice, ok_mBack, ok_mCall, ok_mCallK, ok_mMeth, ok_mIter, ok_mRng1, ok_mRng2, ok_mZip, ok_rng1, ok_rng2, ok_gmName, ok_gmNil, ok_gmCons, ok_gmTup, ok_gmSub, sn_nx, sn_rt, sn_ite, sn_sSeq, sn_sNext, sn_sBreak, sn_sCont, sn_sRetN, sn_sExpr, sn_sRet, sn_sIf, sn_sAsg, sn_sPar, sn_sAug, ok_runD, sn_sFor, ok_mComp, ok_mYes, ok_add, ok_addT, ok_sub, ok_mul, ok_div, ok_mod, ok_pow, ok_lt, ok_le, ok_gt, ok_ge, ok_neg, ok_eqI, ok_neI, ok_isN, ok_notN, ok_ixT, ok_ixF, ok_slT, ok_slF, ok_backT, ok_lenT, ok_lenF, ok_abs, ok_max2, ok_min2, ok_intB, ok_divmod, ok_itT, ok_itF, ok_isiII, ok_isiIB, ok_isiIT, ok_isiTT, ok_isiTI, ok_isiSS, getAt0, getAt1, getAt2, wipeM, List.map_cons, List.map_nil, List.cons_append, List.nil_append, List.append_nil, List.length_cons, List.length_nil, List.length_map, Nat.reduceAdd, Nat.reduceSub, List.replicate_zero, List.replicate_succ, List.getElem?_cons_zero, List.getElem?_cons_succ, List.set_cons_zero, List.set_cons_succ, Option.some.injEq, exists_eq_left', MV.bl.injEq, MV.int.injEq, true_and, and_true, Int.reduceLT, Int.reduceLE, Nat.reduceLT, Nat.reduceLeDiff, decide_true, decide_false, Bool.not_true, Bool.not_false, Bool.false_eq_true, if_true, if_false, reduceIte])
    exact ⟨by omega, (G.trans g3).trans g4, bs ++ [decide (left cs k = left cs (k + cut))], by simp, by simp; omega⟩
  · obtain ⟨G, bs, rfl, hb⟩ := I
    rw [ok_bls new_at]
    exact ⟨G.trans (Gr.one _ _), _, rfl⟩
end K74

namespace K74
open Cutp
open PySem (Str)
/-- small pairs, small parts -/
def Sp (ps : List (Int × Int)) : Prop := ps.length ≤ 16 ∧ ∀ x ∈ ps, (0 ≤ x.1 ∧ x.1 ≤ 16) ∧ 0 ≤ x.2 ∧ x.2 ≤ 16
def Sm (rs : List (Int × List (Int × Int))) : Prop := ∀ x ∈ rs, (0 ≤ x.1 ∧ x.1 ≤ 16) ∧ Sp x.2
theorem parts_ok {p : Nat} {n size : Int} {cs : List Int} {h : Hm} (P : Pool p n h) (hn : n < 90000000) (RL : Reel cs size) (hs : 1 ≤ size ∧ size ≤ 16) :
    Ok (m__law_parts [.ref p, .tup (cs.map .int), .int size] h) fun v h' => ∃ rs : List (Int × List (Int × Int)), v = .tup (rs.map pq) ∧ rs.length ≤ 6 ∧ Sm rs ∧ Pool p (n + 150) h' ∧ Kh p h h' := by
  unfold m__law_parts b__law_parts
  simp only [ok_ok, ok_bind, ok_ite, ok_mVar, ok_mC, ok_mOp, ok_mUn, ok_mNil, ok_mCons, ok_mTup, ok_mLst, ok_mCB, ok_mTest, ok_mAnd, ok_mOr, ok_mNot, ok_mIf, ok_mTru, ok_truM_bl, ok_mAndV, ok_mOrV, ok_mNotV, ok_mChain, ok_mNoPart, ok_mPart, ok_mSlice, ok_mBack, ok_mCall, ok_mCallK, ok_mMeth, ok_mIter, ok_mRng1, ok_mRng2, ok_mZip, ok_rng1, ok_rng2, ok_gmName, ok_gmNil, ok_gmCons, ok_gmTup, ok_gmSub, sn_nx, sn_rt, sn_ite, sn_sSeq, sn_sNext, sn_sBreak, sn_sCont, sn_sRetN, sn_sExpr, sn_sRet, sn_sIf, sn_sAsg, sn_sPar, sn_sAug, ok_runD, sn_sFor, ok_mComp, ok_mYes, ok_add, ok_addT, ok_sub, ok_mul, ok_div, ok_mod, ok_pow, ok_lt, ok_le, ok_gt, ok_ge, ok_neg, ok_eqI, ok_neI, ok_isN, ok_notN, ok_ixT, ok_ixF, ok_slT, ok_slF, ok_backT, ok_lenT, ok_lenF, ok_abs, ok_max2, ok_min2, ok_intB, ok_divmod, ok_itT, ok_itF, ok_isiII, ok_isiIB, ok_isiIT, ok_isiTT, ok_isiTI, ok_isiSS, getAt0, getAt1, getAt2, wipeM, List.map_cons, List.map_nil, List.cons_append, List.nil_append, List.append_nil, List.length_cons, List.length_nil, List.length_map, Nat.reduceAdd, Nat.reduceSub, List.replicate_zero, List.replicate_succ, List.getElem?_cons_zero, List.getElem?_cons_succ, List.set_cons_zero, List.set_cons_succ, Option.some.injEq, exists_eq_left', MV.bl.injEq, MV.int.injEq, true_and, and_true, Int.reduceLT, Int.reduceLE, Nat.reduceLT, Nat.reduceLeDiff, decide_true, decide_false, Bool.not_true, Bool.not_false, Bool.false_eq_true, if_true, if_false, reduceIte]
  have hA : h.length ≠ p := Nat.ne_of_gt P.lt
  have P0 := P.gr (Gr.one h (MO.lst []))
  have hL0 : (h ++ [MO.lst []])[h.length]? = some (.lst (([] : List (Int × List (Int × Int))).map pq)) := new_at
  have K0 := (Gr.one h (MO.lst [])).kh p
  refine (draw_ok P0 (by omega) (by decide) (by decide)).mono fun v h1 ⟨t, e, ht, P1, K1⟩ => ?_
  subst e
  (try simp only [ok_ok, ok_bind, ok_ite, ok_mVar, ok_mC, ok_mOp, ok_mUn, ok_mNil, ok_mCons, ok_mTup, ok_mLst, ok_mCB, ok_mTest, ok_mAnd, ok_mOr, ok_mNot, ok_mIf, ok_mTru, ok_truM_bl, ok_mAndV, ok_mOrV, ok_mNotV, ok_mChain, ok_mNoPart, ok_mPart, ok_mSlice, ok_mBack, ok_mCall, ok_mCallK, ok_mMeth, ok_mIter, ok_mRng1, ok_mRng2, ok_mZip, ok_rng1, ok_rng2, ok_gmName, ok_gmNil, ok_gmCons, ok_gmTup, ok_gmSub, sn_nx, sn_rt, sn_ite, sn_sSeq, sn_sNext, sn_sBreak, sn_sCont, sn_sRetN, sn_sExpr, sn_sRet, sn_sIf, sn_sAsg, sn_sPar, sn_sAug, ok_runD, sn_sFor, ok_mComp, ok_mYes, ok_add, ok_addT, ok_sub, ok_mul, ok_div, ok_mod, ok_pow, ok_lt, ok_le, ok_gt, ok_ge, ok_neg, ok_eqI, ok_neI, ok_isN, ok_notN, ok_ixT, ok_ixF, ok_slT, ok_slF, ok_backT, ok_lenT, ok_lenF, ok_abs, ok_max2, ok_min2, ok_intB, ok_divmod, ok_itT, ok_itF, ok_isiII, ok_isiIB, ok_isiIT, ok_isiTT, ok_isiTI, ok_isiSS, getAt0, getAt1, getAt2, wipeM, List.map_cons, List.map_nil, List.cons_append, List.nil_append, List.append_nil, List.length_cons, List.length_nil, List.length_map, Nat.reduceAdd, Nat.reduceSub, List.replicate_zero, List.replicate_succ, List.getElem?_cons_zero, List.getElem?_cons_succ, List.set_cons_zero, List.set_cons_succ, Option.some.injEq, exists_eq_left', MV.bl.injEq, MV.int.injEq, true_and, and_true, Int.reduceLT, Int.reduceLE, Nat.reduceLT, Nat.reduceLeDiff, decide_true, decide_false, Bool.not_true, Bool.not_false, Bool.false_eq_true, if_true, if_false, reduceIte])
  refine ⟨by omega, ?_⟩
  refine for_ok ((rngL 0 t.toNat).map .int) (fun i ρ h' => i ≤ 6 ∧ ∃ (rs : List (Int × List (Int × Int))) (sz : Int) (y4 y5 y6 y7 y8 y9 : Option MV), ρ = [some (.ref p), some (.tup (cs.map .int)), some (.int sz), some (.ref h.length), y4, y5, y6, y7, y8, y9] ∧ (1 ≤ sz ∧ sz ≤ size) ∧
    h'[h.length]? = some (.lst (rs.map pq)) ∧ rs.length ≤ i ∧ Sm rs ∧ Pool p (n + 1 + 20 * i) h' ∧ Kh p h h') (by rw [List.length_map, rngL_len]; exact Nat.le_trans (show t.toNat ≤ 6 by omega) (by decide)) ⟨by decide, [], size, _, _, _, _, _, _, rfl, ⟨hs.1, Int.le_refl _⟩, K1.get hL0 hA, Nat.le_refl _, (fun x hx => (nomatch hx)), P1.le (by omega), K0.trans K1⟩ (fun i ρ h' q => itRng_at) (fun i v hv ρ h' I => ?_) (fun ρ h' I => ?_)
  · obtain ⟨tt, htt, rfl, b1, b2⟩ := rng_get hv
    have hil := (List.getElem?_eq_some_iff.mp htt).1
    rw [rngL_len] at hil
    obtain ⟨hi6, rs, sz, y4, y5, y6, y7, y8, y9, rfl, hsz, hL, hl, hsm, P2, K2⟩ := I
    simp only [ok_ok, ok_bind, ok_ite, ok_mVar, ok_mC, ok_mOp, ok_mUn, ok_mNil, ok_mCons, ok_mTup, ok_mLst, ok_mCB, ok_mTest, ok_mAnd, ok_mOr, ok_mNot, ok_mIf, ok_mTru, ok_truM_bl, ok_mAndV, ok_mOrV, ok_mNotV, ok_mChain, ok_mNoPart, ok_mPart, ok_mSlice, ok_mBack, ok_mCall, ok_mCallK, ok_mMeth, ok_mIter, ok_mRng1, ok_mRng2, ok_mZip, ok_rng1, ok_rng2, ok_gmName, ok_gmNil, ok_gmCons, ok_gmTup, ok_gmSub, sn_nx, sn_rt, sn_ite, sn_sSeq, sn_sNext, sn_sBreak, sn_sCont, sn_sRetN, sn_sExpr, sn_sRet, sn_sIf, sn_sAsg, sn_sPar, sn_sAug, ok_runD, sn_sFor, ok_mComp, ok_mYes, ok_add, ok_addT, ok_sub, ok_mul, ok_div, ok_mod, ok_pow, ok_lt, ok_le, ok_gt, ok_ge, ok_neg, ok_eqI, ok_neI, ok_isN, ok_notN, ok_ixT, ok_ixF, ok_slT, ok_slF, ok_backT, ok_lenT, ok_lenF, ok_abs, ok_max2, ok_min2, ok_intB, ok_divmod, ok_itT, ok_itF, ok_isiII, ok_isiIB, ok_isiIT, ok_isiTT, ok_isiTI, ok_isiSS, getAt0, getAt1, getAt2, wipeM, List.map_cons, List.map_nil, List.cons_append, List.nil_append, List.append_nil, List.length_cons, List.length_nil, List.length_map, Nat.reduceAdd, Nat.reduceSub, List.replicate_zero, List.replicate_succ, List.getElem?_cons_zero, List.getElem?_cons_succ, List.set_cons_zero, List.set_cons_succ, Option.some.injEq, exists_eq_left', MV.bl.injEq, MV.int.injEq, true_and, and_true, Int.reduceLT, Int.reduceLE, Nat.reduceLT, Nat.reduceLeDiff, decide_true, decide_false, Bool.not_true, Bool.not_false, Bool.false_eq_true, if_true, if_false, reduceIte]
    refine comp_pure (cs.map .int) (fun v => match v with | .int z => decide (z < sz) | _ => false) id (by rw [List.length_map]; have := RL.few; omega) (fun i => rfl) (fun v hv => ?_) ?_
    · obtain ⟨z, _, rfl⟩ := List.mem_map.mp hv
      simp only [ok_ok, ok_bind, ok_ite, ok_mVar, ok_mC, ok_mOp, ok_mUn, ok_mNil, ok_mCons, ok_mTup, ok_mLst, ok_mCB, ok_mTest, ok_mAnd, ok_mOr, ok_mNot, ok_mIf, ok_mTru, ok_truM_bl, ok_mAndV, ok_mOrV, ok_mNotV, ok_mChain, ok_mNoPart, ok_mPart, ok_mSlice, ok_mBack, ok_mCall, ok_mCallK, ok_mMeth, ok_mIter, ok_mRng1, ok_mRng2, ok_mZip, ok_rng1, ok_rng2, ok_gmName, ok_gmNil, ok_gmCons, ok_gmTup, ok_gmSub, sn_nx, sn_rt, sn_ite, sn_sSeq, sn_sNext, sn_sBreak, sn_sCont, sn_sRetN, sn_sExpr, sn_sRet, sn_sIf, sn_sAsg, sn_sPar, sn_sAug, ok_runD, sn_sFor, ok_mComp, ok_mYes, ok_add, ok_addT, ok_sub, ok_mul, ok_div, ok_mod, ok_pow, ok_lt, ok_le, ok_gt, ok_ge, ok_neg, ok_eqI, ok_neI, ok_isN, ok_notN, ok_ixT, ok_ixF, ok_slT, ok_slF, ok_backT, ok_lenT, ok_lenF, ok_abs, ok_max2, ok_min2, ok_intB, ok_divmod, ok_itT, ok_itF, ok_isiII, ok_isiIB, ok_isiIT, ok_isiTT, ok_isiTI, ok_isiSS, getAt0, getAt1, getAt2, wipeM, List.map_cons, List.map_nil, List.cons_append, List.nil_append, List.append_nil, List.length_cons, List.length_nil, List.length_map, Nat.reduceAdd, Nat.reduceSub, List.replicate_zero, List.replicate_succ, List.getElem?_cons_zero, List.getElem?_cons_succ, List.set_cons_zero, List.set_cons_succ, Option.some.injEq, exists_eq_left', MV.bl.injEq, MV.int.injEq, true_and, and_true, Int.reduceLT, Int.reduceLE, Nat.reduceLT, Nat.reduceLeDiff, decide_true, decide_false, Bool.not_true, Bool.not_false, Bool.false_eq_true, if_true, if_false, reduceIte]
      exact fun _ => rfl
    rw [filter_ints cs (fun z => decide (z < sz)) _ fun _ => rfl, List.map_id]
    have hw : (h' ++ [MO.lst ((want cs sz).map MV.int)])[h'.length]? = some (.lst ((want cs sz).map .int)) := new_at
    show Ok (eqM (.ref h'.length) (.ref (h' ++ [MO.lst ((want cs sz).map MV.int)]).length) ((h' ++ [MO.lst ((want cs sz).map MV.int)]) ++ [.lst (([] : List Int).map .int)])) _
    have G1 := Gr.one h' (MO.lst ((want cs sz).map MV.int))
    have hwp : h'.length ≠ p := Nat.ne_of_gt P2.lt
    generalize h' ++ [MO.lst ((want cs sz).map MV.int)] = hW at *
    rw [ok_eqL ((Gr.one _ _).at hw) new_at]
    have G2 := G1.trans (Gr.one hW (MO.lst (([] : List Int).map .int)))
    have hw2 := (Gr.one hW (MO.lst (([] : List Int).map .int))).at hw
    generalize hW ++ [MO.lst (([] : List Int).map .int)] = hX at *
    have P3 := P2.gr G2
    have K3 := K2.trans (G2.kh p)
    have hL3 := G2.at hL
    generalize h'.length = A at *
    have hin : ∀ c ∈ want cs sz, c ∈ cs ∧ c < sz := fun c hc => by
      unfold want at hc
      rw [List.mem_filter] at hc
      exact ⟨hc.1, by simpa using hc.2⟩
    have hfew : (want cs sz).length ≤ 16 := Nat.le_trans (List.length_filter_le _ _) RL.few
    by_cases g1 : want cs sz = []
    · rw [decide_eq_true g1]
      (try simp only [ok_ok, ok_bind, ok_ite, ok_mVar, ok_mC, ok_mOp, ok_mUn, ok_mNil, ok_mCons, ok_mTup, ok_mLst, ok_mCB, ok_mTest, ok_mAnd, ok_mOr, ok_mNot, ok_mIf, ok_mTru, ok_truM_bl, ok_mAndV, ok_mOrV, ok_mNotV, ok_mChain, ok_mNoPart, ok_mPart, ok_mSlice, ok_mBack, ok_mCall, ok_mCallK, ok_mMeth, ok_mIter, ok_mRng1, ok_mRng2, ok_mZip, ok_rng1, ok_rng2, ok_gmName, ok_gmNil, ok_gmCons, ok_gmTup, ok_gmSub, sn_nx, sn_rt, sn_ite, sn_sSeq, sn_sNext, sn_sBreak, sn_sCont, sn_sRetN, sn_sExpr, sn_sRet, sn_sIf, sn_sAsg, sn_sPar, sn_sAug, ok_runD, sn_sFor, ok_mComp, ok_mYes, ok_add, ok_addT, ok_sub, ok_mul, ok_div, ok_mod, ok_pow, ok_lt, ok_le, ok_gt, ok_ge, ok_neg, ok_eqI, ok_neI, ok_isN, ok_notN, ok_ixT, ok_ixF, ok_slT, ok_slF, ok_backT, ok_lenT, ok_lenF, ok_abs, ok_max2, ok_min2, ok_intB, ok_divmod, ok_itT, ok_itF, ok_isiII, ok_isiIB, ok_isiIT, ok_isiTT, ok_isiTI, ok_isiSS, getAt0, getAt1, getAt2, wipeM, List.map_cons, List.map_nil, List.cons_append, List.nil_append, List.append_nil, List.length_cons, List.length_nil, List.length_map, Nat.reduceAdd, Nat.reduceSub, List.replicate_zero, List.replicate_succ, List.getElem?_cons_zero, List.getElem?_cons_succ, List.set_cons_zero, List.set_cons_succ, Option.some.injEq, exists_eq_left', MV.bl.injEq, MV.int.injEq, true_and, and_true, Int.reduceLT, Int.reduceLE, Nat.reduceLT, Nat.reduceLeDiff, decide_true, decide_false, Bool.not_true, Bool.not_false, Bool.false_eq_true, if_true, if_false, reduceIte])
      rw [ok_tupleL hL3]
      exact ⟨rs, rfl, by omega, hsm, P3.le (by omega), K3⟩
    · rw [decide_eq_false g1]
      (try simp only [ok_ok, ok_bind, ok_ite, ok_mVar, ok_mC, ok_mOp, ok_mUn, ok_mNil, ok_mCons, ok_mTup, ok_mLst, ok_mCB, ok_mTest, ok_mAnd, ok_mOr, ok_mNot, ok_mIf, ok_mTru, ok_truM_bl, ok_mAndV, ok_mOrV, ok_mNotV, ok_mChain, ok_mNoPart, ok_mPart, ok_mSlice, ok_mBack, ok_mCall, ok_mCallK, ok_mMeth, ok_mIter, ok_mRng1, ok_mRng2, ok_mZip, ok_rng1, ok_rng2, ok_gmName, ok_gmNil, ok_gmCons, ok_gmTup, ok_gmSub, sn_nx, sn_rt, sn_ite, sn_sSeq, sn_sNext, sn_sBreak, sn_sCont, sn_sRetN, sn_sExpr, sn_sRet, sn_sIf, sn_sAsg, sn_sPar, sn_sAug, ok_runD, sn_sFor, ok_mComp, ok_mYes, ok_add, ok_addT, ok_sub, ok_mul, ok_div, ok_mod, ok_pow, ok_lt, ok_le, ok_gt, ok_ge, ok_neg, ok_eqI, ok_neI, ok_isN, ok_notN, ok_ixT, ok_ixF, ok_slT, ok_slF, ok_backT, ok_lenT, ok_lenF, ok_abs, ok_max2, ok_min2, ok_intB, ok_divmod, ok_itT, ok_itF, ok_isiII, ok_isiIB, ok_isiIT, ok_isiTT, ok_isiTI, ok_isiSS, getAt0, getAt1, getAt2, wipeM, List.map_cons, List.map_nil, List.cons_append, List.nil_append, List.append_nil, List.length_cons, List.length_nil, List.length_map, Nat.reduceAdd, Nat.reduceSub, List.replicate_zero, List.replicate_succ, List.getElem?_cons_zero, List.getElem?_cons_succ, List.set_cons_zero, List.set_cons_succ, Option.some.injEq, exists_eq_left', MV.bl.injEq, MV.int.injEq, true_and, and_true, Int.reduceLT, Int.reduceLE, Nat.reduceLT, Nat.reduceLeDiff, decide_true, decide_false, Bool.not_true, Bool.not_false, Bool.false_eq_true, if_true, if_false, reduceIte])
      rw [ok_lenL hw2]
      (try simp only [ok_ok, ok_bind, ok_ite, ok_mVar, ok_mC, ok_mOp, ok_mUn, ok_mNil, ok_mCons, ok_mTup, ok_mLst, ok_mCB, ok_mTest, ok_mAnd, ok_mOr, ok_mNot, ok_mIf, ok_mTru, ok_truM_bl, ok_mAndV, ok_mOrV, ok_mNotV, ok_mChain, ok_mNoPart, ok_mPart, ok_mSlice, ok_mBack, ok_mCall, ok_mCallK, ok_mMeth, ok_mIter, ok_mRng1, ok_mRng2, ok_mZip, ok_rng1, ok_rng2, ok_gmName, ok_gmNil, ok_gmCons, ok_gmTup, ok_gmSub, sn_nx, sn_rt, sn_ite, sn_sSeq, sn_sNext, sn_sBreak, sn_sCont, sn_sRetN, sn_sExpr, sn_sRet, sn_sIf, sn_sAsg, sn_sPar, sn_sAug, ok_runD, sn_sFor, ok_mComp, ok_mYes, ok_add, ok_addT, ok_sub, ok_mul, ok_div, ok_mod, ok_pow, ok_lt, ok_le, ok_gt, ok_ge, ok_neg, ok_eqI, ok_neI, ok_isN, ok_notN, ok_ixT, ok_ixF, ok_slT, ok_slF, ok_backT, ok_lenT, ok_lenF, ok_abs, ok_max2, ok_min2, ok_intB, ok_divmod, ok_itT, ok_itF, ok_isiII, ok_isiIB, ok_isiIT, ok_isiTT, ok_isiTI, ok_isiSS, getAt0, getAt1, getAt2, wipeM, List.map_cons, List.map_nil, List.cons_append, List.nil_append, List.append_nil, List.length_cons, List.length_nil, List.length_map, Nat.reduceAdd, Nat.reduceSub, List.replicate_zero, List.replicate_succ, List.getElem?_cons_zero, List.getElem?_cons_succ, List.set_cons_zero, List.set_cons_succ, Option.some.injEq, exists_eq_left', MV.bl.injEq, MV.int.injEq, true_and, and_true, Int.reduceLT, Int.reduceLE, Nat.reduceLT, Nat.reduceLeDiff, decide_true, decide_false, Bool.not_true, Bool.not_false, Bool.false_eq_true, if_true, if_false, reduceIte])
      have hpos : 0 < (want cs sz).length := List.length_pos_iff.mpr g1
      refine (draw_ok P3 (by omega) (by omega) (by omega)).mono fun v h4 ⟨d, e, hd, P4, K4⟩ => ?_
      subst e
      rw [ok_ixL (K4.get hw2 hwp)]
      have hdl : d.toNat < (want cs sz).length := by omega
      refine ⟨.int (want cs sz)[d.toNat], by rw [getAt_at hd.1, List.getElem?_map, List.getElem?_eq_getElem hdl]; rfl, ?_⟩
      have hxm := List.getElem_mem hdl
      generalize (want cs sz)[d.toNat] = x at *
      (try simp only [ok_ok, ok_bind, ok_ite, ok_mVar, ok_mC, ok_mOp, ok_mUn, ok_mNil, ok_mCons, ok_mTup, ok_mLst, ok_mCB, ok_mTest, ok_mAnd, ok_mOr, ok_mNot, ok_mIf, ok_mTru, ok_truM_bl, ok_mAndV, ok_mOrV, ok_mNotV, ok_mChain, ok_mNoPart, ok_mPart, ok_mSlice, ok_mBack, ok_mCall, ok_mCallK, ok_mMeth, ok_mIter, ok_mRng1, ok_mRng2, ok_mZip, ok_rng1, ok_rng2, ok_gmName, ok_gmNil, ok_gmCons, ok_gmTup, ok_gmSub, sn_nx, sn_rt, sn_ite, sn_sSeq, sn_sNext, sn_sBreak, sn_sCont, sn_sRetN, sn_sExpr, sn_sRet, sn_sIf, sn_sAsg, sn_sPar, sn_sAug, ok_runD, sn_sFor, ok_mComp, ok_mYes, ok_add, ok_addT, ok_sub, ok_mul, ok_div, ok_mod, ok_pow, ok_lt, ok_le, ok_gt, ok_ge, ok_neg, ok_eqI, ok_neI, ok_isN, ok_notN, ok_ixT, ok_ixF, ok_slT, ok_slF, ok_backT, ok_lenT, ok_lenF, ok_abs, ok_max2, ok_min2, ok_intB, ok_divmod, ok_itT, ok_itF, ok_isiII, ok_isiIB, ok_isiIT, ok_isiTT, ok_isiTI, ok_isiSS, getAt0, getAt1, getAt2, wipeM, List.map_cons, List.map_nil, List.cons_append, List.nil_append, List.append_nil, List.length_cons, List.length_nil, List.length_map, Nat.reduceAdd, Nat.reduceSub, List.replicate_zero, List.replicate_succ, List.getElem?_cons_zero, List.getElem?_cons_succ, List.set_cons_zero, List.set_cons_succ, Option.some.injEq, exists_eq_left', MV.bl.injEq, MV.int.injEq, true_and, and_true, Int.reduceLT, Int.reduceLE, Nat.reduceLT, Nat.reduceLeDiff, decide_true, decide_false, Bool.not_true, Bool.not_false, Bool.false_eq_true, if_true, if_false, reduceIte])
      refine (draw_ok P4 (by omega) (by decide) (by decide)).mono fun v h5 ⟨d3, e, hd3, P5, K5⟩ => ?_
      subst e
      have K6 := (K3.trans K4).trans K5
      have hL5 := K5.get (K4.get hL3 hA) hA
      have hw5 := K5.get (K4.get hw2 hwp) hwp
      (try simp only [ok_ok, ok_bind, ok_ite, ok_mVar, ok_mC, ok_mOp, ok_mUn, ok_mNil, ok_mCons, ok_mTup, ok_mLst, ok_mCB, ok_mTest, ok_mAnd, ok_mOr, ok_mNot, ok_mIf, ok_mTru, ok_truM_bl, ok_mAndV, ok_mOrV, ok_mNotV, ok_mChain, ok_mNoPart, ok_mPart, ok_mSlice, ok_mBack, ok_mCall, ok_mCallK, ok_mMeth, ok_mIter, ok_mRng1, ok_mRng2, ok_mZip, ok_rng1, ok_rng2, ok_gmName, ok_gmNil, ok_gmCons, ok_gmTup, ok_gmSub, sn_nx, sn_rt, sn_ite, sn_sSeq, sn_sNext, sn_sBreak, sn_sCont, sn_sRetN, sn_sExpr, sn_sRet, sn_sIf, sn_sAsg, sn_sPar, sn_sAug, ok_runD, sn_sFor, ok_mComp, ok_mYes, ok_add, ok_addT, ok_sub, ok_mul, ok_div, ok_mod, ok_pow, ok_lt, ok_le, ok_gt, ok_ge, ok_neg, ok_eqI, ok_neI, ok_isN, ok_notN, ok_ixT, ok_ixF, ok_slT, ok_slF, ok_backT, ok_lenT, ok_lenF, ok_abs, ok_max2, ok_min2, ok_intB, ok_divmod, ok_itT, ok_itF, ok_isiII, ok_isiIB, ok_isiIT, ok_isiTT, ok_isiTI, ok_isiSS, getAt0, getAt1, getAt2, wipeM, List.map_cons, List.map_nil, List.cons_append, List.nil_append, List.append_nil, List.length_cons, List.length_nil, List.length_map, Nat.reduceAdd, Nat.reduceSub, List.replicate_zero, List.replicate_succ, List.getElem?_cons_zero, List.getElem?_cons_succ, List.set_cons_zero, List.set_cons_succ, Option.some.injEq, exists_eq_left', MV.bl.injEq, MV.int.injEq, true_and, and_true, Int.reduceLT, Int.reduceLE, Nat.reduceLT, Nat.reduceLeDiff, decide_true, decide_false, Bool.not_true, Bool.not_false, Bool.false_eq_true, if_true, if_false, reduceIte])
      have hi5 : i ≤ 5 := by omega
      have go : ∀ (c : Int) (h6 : Hm) (z7 z8 z9 : Option MV), c ∈ want cs sz → h6[h.length]? = some (.lst (rs.map pq)) → Pool p (n + 1 + 20 * i + 1 + 1) h6 → Kh p h h6 →
          (isLst (.ref h.length) h6 = true ∧ Ok (m__law_pairs [.ref p, .tup (cs.map .int), .int sz, .int c] h6) fun x h1 => Ok (appendM (.ref h.length) [.tup [.int c, x]] h1) fun _ h1 => i ≤ 5 ∧
            ∃ (rs : List (Int × List (Int × Int))) (sz : Int) (y4 y5 y6 y7 y8 y9 : Option MV), [some (.ref p), some (.tup (cs.map .int)), some (.int c), some (.ref h.length), some (.int tt), some (.ref A), some (.int c), z7, z8, z9] = [some (.ref p), some (.tup (cs.map .int)), some (.int sz), some (.ref h.length), y4, y5, y6, y7, y8, y9] ∧ (1 ≤ sz ∧ sz ≤ size) ∧
              h1[h.length]? = some (.lst (rs.map pq)) ∧ rs.length ≤ i + 1 ∧ Sm rs ∧ Pool p (n + 1 + 20 * ((i + 1 : Nat) : Int)) h1 ∧ Kh p h h1) := by
        intro c h6 z7 z8 z9 hc L6 P6 K6
        obtain ⟨hc1, hc2⟩ := hin c hc
        have hc3 := RL.C.pos c hc1
        refine ⟨isLst_at L6, ?_⟩
        refine (pairs_ok P6 (by omega) RL hs.2 (by omega) (by omega)).mono fun v h7 ⟨ps, e, hps, hps2, P7, K7⟩ => ?_
        subst e
        have L7 := K7.get L6 hA
        rw [ok_append L7]
        refine ⟨by rw [List.length_map]; omega, hi5, rs ++ [(c, ps)], c, _, _, _, _, _, _, rfl, ⟨hc3, by omega⟩, ?_, by simp; omega, fun x hx => ?_, ?_, ?_⟩
        · rw [set_at L7]
          simp [pq]
        · rcases List.mem_append.mp hx with z | z
          · exact hsm x z
          · rw [List.mem_singleton] at z
            subst z
            exact ⟨⟨by show 0 ≤ c; omega, by show c ≤ 16; omega⟩, hps, hps2⟩
        · obtain ⟨a1, a2, a3, q1, q2⟩ := P7
          refine ⟨a1, a2, a3, ?_, q2.1, q2.2.1, by have := q2.2.2; omega⟩
          rw [List.getElem?_set_ne hA]
          exact q1
        · have K8 := K6.trans K7
          refine ⟨by simp; exact K8.len, fun j hj hp => ?_⟩
          rw [List.getElem?_set_ne (Nat.ne_of_gt hj)]
          exact K8.at_ j hj hp
      by_cases g2 : 0 < d3
      · rw [decide_eq_true g2]
        (try simp only [ok_ok, ok_bind, ok_ite, ok_mVar, ok_mC, ok_mOp, ok_mUn, ok_mNil, ok_mCons, ok_mTup, ok_mLst, ok_mCB, ok_mTest, ok_mAnd, ok_mOr, ok_mNot, ok_mIf, ok_mTru, ok_truM_bl, ok_mAndV, ok_mOrV, ok_mNotV, ok_mChain, ok_mNoPart, ok_mPart, ok_mSlice, ok_mBack, ok_mCall, ok_mCallK, ok_mMeth, ok_mIter, ok_mRng1, ok_mRng2, ok_mZip, ok_rng1, ok_rng2, ok_gmName, ok_gmNil, ok_gmCons, ok_gmTup, ok_gmSub, sn_nx, sn_rt, sn_ite, sn_sSeq, sn_sNext, sn_sBreak, sn_sCont, sn_sRetN, sn_sExpr, sn_sRet, sn_sIf, sn_sAsg, sn_sPar, sn_sAug, ok_runD, sn_sFor, ok_mComp, ok_mYes, ok_add, ok_addT, ok_sub, ok_mul, ok_div, ok_mod, ok_pow, ok_lt, ok_le, ok_gt, ok_ge, ok_neg, ok_eqI, ok_neI, ok_isN, ok_notN, ok_ixT, ok_ixF, ok_slT, ok_slF, ok_backT, ok_lenT, ok_lenF, ok_abs, ok_max2, ok_min2, ok_intB, ok_divmod, ok_itT, ok_itF, ok_isiII, ok_isiIB, ok_isiIT, ok_isiTT, ok_isiTI, ok_isiSS, getAt0, getAt1, getAt2, wipeM, List.map_cons, List.map_nil, List.cons_append, List.nil_append, List.append_nil, List.length_cons, List.length_nil, List.length_map, Nat.reduceAdd, Nat.reduceSub, List.replicate_zero, List.replicate_succ, List.getElem?_cons_zero, List.getElem?_cons_succ, List.set_cons_zero, List.set_cons_succ, Option.some.injEq, exists_eq_left', MV.bl.injEq, MV.int.injEq, true_and, and_true, Int.reduceLT, Int.reduceLE, Nat.reduceLT, Nat.reduceLeDiff, decide_true, decide_false, Bool.not_true, Bool.not_false, Bool.false_eq_true, if_true, if_false, reduceIte])
        rw [ok_itL hw5]
        (try simp only [ok_ok, ok_bind, ok_ite, ok_mVar, ok_mC, ok_mOp, ok_mUn, ok_mNil, ok_mCons, ok_mTup, ok_mLst, ok_mCB, ok_mTest, ok_mAnd, ok_mOr, ok_mNot, ok_mIf, ok_mTru, ok_truM_bl, ok_mAndV, ok_mOrV, ok_mNotV, ok_mChain, ok_mNoPart, ok_mPart, ok_mSlice, ok_mBack, ok_mCall, ok_mCallK, ok_mMeth, ok_mIter, ok_mRng1, ok_mRng2, ok_mZip, ok_rng1, ok_rng2, ok_gmName, ok_gmNil, ok_gmCons, ok_gmTup, ok_gmSub, sn_nx, sn_rt, sn_ite, sn_sSeq, sn_sNext, sn_sBreak, sn_sCont, sn_sRetN, sn_sExpr, sn_sRet, sn_sIf, sn_sAsg, sn_sPar, sn_sAug, ok_runD, sn_sFor, ok_mComp, ok_mYes, ok_add, ok_addT, ok_sub, ok_mul, ok_div, ok_mod, ok_pow, ok_lt, ok_le, ok_gt, ok_ge, ok_neg, ok_eqI, ok_neI, ok_isN, ok_notN, ok_ixT, ok_ixF, ok_slT, ok_slF, ok_backT, ok_lenT, ok_lenF, ok_abs, ok_max2, ok_min2, ok_intB, ok_divmod, ok_itT, ok_itF, ok_isiII, ok_isiIB, ok_isiIT, ok_isiTT, ok_isiTI, ok_isiSS, getAt0, getAt1, getAt2, wipeM, List.map_cons, List.map_nil, List.cons_append, List.nil_append, List.append_nil, List.length_cons, List.length_nil, List.length_map, Nat.reduceAdd, Nat.reduceSub, List.replicate_zero, List.replicate_succ, List.getElem?_cons_zero, List.getElem?_cons_succ, List.set_cons_zero, List.set_cons_succ, Option.some.injEq, exists_eq_left', MV.bl.injEq, MV.int.injEq, true_and, and_true, Int.reduceLT, Int.reduceLE, Nat.reduceLT, Nat.reduceLeDiff, decide_true, decide_false, Bool.not_true, Bool.not_false, Bool.false_eq_true, if_true, if_false, reduceIte])
        refine comp_ok ((want cs sz).map .int) (fun k acc h' => Gr h5 h' ∧ ∃ ds : List Int, acc = ds.map .int ∧ ds.length ≤ k ∧ ∀ z ∈ ds, z ∈ want cs sz) (by rw [List.length_map]; exact Nat.le_trans hfew (by decide)) ⟨Gr.refl _, [], rfl, Nat.le_refl _, fun z hz => (nomatch hz)⟩ (fun k acc h' q => itLst_at (q.1.at hw5)) (fun k v hv acc h' J => ?_) (fun acc h6 J => ?_)
        · obtain ⟨z, hz, rfl⟩ := map_int_get hv
          have hkl := (List.getElem?_eq_some_iff.mp hz).1
          have hzm := List.mem_of_getElem? hz
          obtain ⟨G6, ds, rfl, hdl, hds⟩ := J
          obtain ⟨hz1, hz2⟩ := hin z hzm
          have hz3 := RL.C.pos z hz1
          simp only [ok_ok, ok_bind, ok_ite, ok_mVar, ok_mC, ok_mOp, ok_mUn, ok_mNil, ok_mCons, ok_mTup, ok_mLst, ok_mCB, ok_mTest, ok_mAnd, ok_mOr, ok_mNot, ok_mIf, ok_mTru, ok_truM_bl, ok_mAndV, ok_mOrV, ok_mNotV, ok_mChain, ok_mNoPart, ok_mPart, ok_mSlice, ok_mBack, ok_mCall, ok_mCallK, ok_mMeth, ok_mIter, ok_mRng1, ok_mRng2, ok_mZip, ok_rng1, ok_rng2, ok_gmName, ok_gmNil, ok_gmCons, ok_gmTup, ok_gmSub, sn_nx, sn_rt, sn_ite, sn_sSeq, sn_sNext, sn_sBreak, sn_sCont, sn_sRetN, sn_sExpr, sn_sRet, sn_sIf, sn_sAsg, sn_sPar, sn_sAug, ok_runD, sn_sFor, ok_mComp, ok_mYes, ok_add, ok_addT, ok_sub, ok_mul, ok_div, ok_mod, ok_pow, ok_lt, ok_le, ok_gt, ok_ge, ok_neg, ok_eqI, ok_neI, ok_isN, ok_notN, ok_ixT, ok_ixF, ok_slT, ok_slF, ok_backT, ok_lenT, ok_lenF, ok_abs, ok_max2, ok_min2, ok_intB, ok_divmod, ok_itT, ok_itF, ok_isiII, ok_isiIB, ok_isiIT, ok_isiTT, ok_isiTI, ok_isiSS, getAt0, getAt1, getAt2, wipeM, List.map_cons, List.map_nil, List.cons_append, List.nil_append, List.append_nil, List.length_cons, List.length_nil, List.length_map, Nat.reduceAdd, Nat.reduceSub, List.replicate_zero, List.replicate_succ, List.getElem?_cons_zero, List.getElem?_cons_succ, List.set_cons_zero, List.set_cons_succ, Option.some.injEq, exists_eq_left', MV.bl.injEq, MV.int.injEq, true_and, and_true, Int.reduceLT, Int.reduceLE, Nat.reduceLT, Nat.reduceLeDiff, decide_true, decide_false, Bool.not_true, Bool.not_false, Bool.false_eq_true, if_true, if_false, reduceIte]
          refine (period_ok RL.C ⟨by omega, by omega⟩ ⟨by omega, by omega⟩).mono fun v h7 ⟨G7, b, e⟩ => ?_
          subst e
          (try simp only [ok_ok, ok_bind, ok_ite, ok_mVar, ok_mC, ok_mOp, ok_mUn, ok_mNil, ok_mCons, ok_mTup, ok_mLst, ok_mCB, ok_mTest, ok_mAnd, ok_mOr, ok_mNot, ok_mIf, ok_mTru, ok_truM_bl, ok_mAndV, ok_mOrV, ok_mNotV, ok_mChain, ok_mNoPart, ok_mPart, ok_mSlice, ok_mBack, ok_mCall, ok_mCallK, ok_mMeth, ok_mIter, ok_mRng1, ok_mRng2, ok_mZip, ok_rng1, ok_rng2, ok_gmName, ok_gmNil, ok_gmCons, ok_gmTup, ok_gmSub, sn_nx, sn_rt, sn_ite, sn_sSeq, sn_sNext, sn_sBreak, sn_sCont, sn_sRetN, sn_sExpr, sn_sRet, sn_sIf, sn_sAsg, sn_sPar, sn_sAug, ok_runD, sn_sFor, ok_mComp, ok_mYes, ok_add, ok_addT, ok_sub, ok_mul, ok_div, ok_mod, ok_pow, ok_lt, ok_le, ok_gt, ok_ge, ok_neg, ok_eqI, ok_neI, ok_isN, ok_notN, ok_ixT, ok_ixF, ok_slT, ok_slF, ok_backT, ok_lenT, ok_lenF, ok_abs, ok_max2, ok_min2, ok_intB, ok_divmod, ok_itT, ok_itF, ok_isiII, ok_isiIB, ok_isiIT, ok_isiTT, ok_isiTI, ok_isiSS, getAt0, getAt1, getAt2, wipeM, List.map_cons, List.map_nil, List.cons_append, List.nil_append, List.append_nil, List.length_cons, List.length_nil, List.length_map, Nat.reduceAdd, Nat.reduceSub, List.replicate_zero, List.replicate_succ, List.getElem?_cons_zero, List.getElem?_cons_succ, List.set_cons_zero, List.set_cons_succ, Option.some.injEq, exists_eq_left', MV.bl.injEq, MV.int.injEq, true_and, and_true, Int.reduceLT, Int.reduceLE, Nat.reduceLT, Nat.reduceLeDiff, decide_true, decide_false, Bool.not_true, Bool.not_false, Bool.false_eq_true, if_true, if_false, reduceIte])
          cases b with
          | true =>
            (try simp only [ok_ok, ok_bind, ok_ite, ok_mVar, ok_mC, ok_mOp, ok_mUn, ok_mNil, ok_mCons, ok_mTup, ok_mLst, ok_mCB, ok_mTest, ok_mAnd, ok_mOr, ok_mNot, ok_mIf, ok_mTru, ok_truM_bl, ok_mAndV, ok_mOrV, ok_mNotV, ok_mChain, ok_mNoPart, ok_mPart, ok_mSlice, ok_mBack, ok_mCall, ok_mCallK, ok_mMeth, ok_mIter, ok_mRng1, ok_mRng2, ok_mZip, ok_rng1, ok_rng2, ok_gmName, ok_gmNil, ok_gmCons, ok_gmTup, ok_gmSub, sn_nx, sn_rt, sn_ite, sn_sSeq, sn_sNext, sn_sBreak, sn_sCont, sn_sRetN, sn_sExpr, sn_sRet, sn_sIf, sn_sAsg, sn_sPar, sn_sAug, ok_runD, sn_sFor, ok_mComp, ok_mYes, ok_add, ok_addT, ok_sub, ok_mul, ok_div, ok_mod, ok_pow, ok_lt, ok_le, ok_gt, ok_ge, ok_neg, ok_eqI, ok_neI, ok_isN, ok_notN, ok_ixT, ok_ixF, ok_slT, ok_slF, ok_backT, ok_lenT, ok_lenF, ok_abs, ok_max2, ok_min2, ok_intB, ok_divmod, ok_itT, ok_itF, ok_isiII, ok_isiIB, ok_isiIT, ok_isiTT, ok_isiTI, ok_isiSS, getAt0, getAt1, getAt2, wipeM, List.map_cons, List.map_nil, List.cons_append, List.nil_append, List.append_nil, List.length_cons, List.length_nil, List.length_map, Nat.reduceAdd, Nat.reduceSub, List.replicate_zero, List.replicate_succ, List.getElem?_cons_zero, List.getElem?_cons_succ, List.set_cons_zero, List.set_cons_succ, Option.some.injEq, exists_eq_left', MV.bl.injEq, MV.int.injEq, true_and, and_true, Int.reduceLT, Int.reduceLE, Nat.reduceLT, Nat.reduceLeDiff, decide_true, decide_false, Bool.not_true, Bool.not_false, Bool.false_eq_true, if_true, if_false, reduceIte])
            refine ⟨by omega, G6.trans G7, ds ++ [z], by simp, by simp; omega, fun y hy => ?_⟩
            rcases List.mem_append.mp hy with q | q
            · exact hds y q
            · rw [List.mem_singleton] at q
              rw [q]; exact hzm
          | false =>
            (try simp only [ok_ok, ok_bind, ok_ite, ok_mVar, ok_mC, ok_mOp, ok_mUn, ok_mNil, ok_mCons, ok_mTup, ok_mLst, ok_mCB, ok_mTest, ok_mAnd, ok_mOr, ok_mNot, ok_mIf, ok_mTru, ok_truM_bl, ok_mAndV, ok_mOrV, ok_mNotV, ok_mChain, ok_mNoPart, ok_mPart, ok_mSlice, ok_mBack, ok_mCall, ok_mCallK, ok_mMeth, ok_mIter, ok_mRng1, ok_mRng2, ok_mZip, ok_rng1, ok_rng2, ok_gmName, ok_gmNil, ok_gmCons, ok_gmTup, ok_gmSub, sn_nx, sn_rt, sn_ite, sn_sSeq, sn_sNext, sn_sBreak, sn_sCont, sn_sRetN, sn_sExpr, sn_sRet, sn_sIf, sn_sAsg, sn_sPar, sn_sAug, ok_runD, sn_sFor, ok_mComp, ok_mYes, ok_add, ok_addT, ok_sub, ok_mul, ok_div, ok_mod, ok_pow, ok_lt, ok_le, ok_gt, ok_ge, ok_neg, ok_eqI, ok_neI, ok_isN, ok_notN, ok_ixT, ok_ixF, ok_slT, ok_slF, ok_backT, ok_lenT, ok_lenF, ok_abs, ok_max2, ok_min2, ok_intB, ok_divmod, ok_itT, ok_itF, ok_isiII, ok_isiIB, ok_isiIT, ok_isiTT, ok_isiTI, ok_isiSS, getAt0, getAt1, getAt2, wipeM, List.map_cons, List.map_nil, List.cons_append, List.nil_append, List.append_nil, List.length_cons, List.length_nil, List.length_map, Nat.reduceAdd, Nat.reduceSub, List.replicate_zero, List.replicate_succ, List.getElem?_cons_zero, List.getElem?_cons_succ, List.set_cons_zero, List.set_cons_succ, Option.some.injEq, exists_eq_left', MV.bl.injEq, MV.int.injEq, true_and, and_true, Int.reduceLT, Int.reduceLE, Nat.reduceLT, Nat.reduceLeDiff, decide_true, decide_false, Bool.not_true, Bool.not_false, Bool.false_eq_true, if_true, if_false, reduceIte])
            exact ⟨G6.trans G7, ds, rfl, by omega, hds⟩
        · obtain ⟨G6, ds, rfl, hdl, hds⟩ := J
          show Ok (neM (.ref h6.length) (.ref (h6 ++ [MO.lst (ds.map MV.int)]).length) ((h6 ++ [MO.lst (ds.map MV.int)]) ++ [.lst (([] : List Int).map .int)])) _
          have hD : (h6 ++ [MO.lst (ds.map MV.int)])[h6.length]? = some (.lst (ds.map .int)) := new_at
          rw [ok_neL ((Gr.one _ _).at hD) new_at]
          have hD2 := (Gr.one (h6 ++ [MO.lst (ds.map MV.int)]) (MO.lst (([] : List Int).map .int))).at hD
          have G7 := (G6.trans (Gr.one h6 (MO.lst (ds.map MV.int)))).trans (Gr.one (h6 ++ [MO.lst (ds.map MV.int)]) (MO.lst (([] : List Int).map .int)))
          generalize (h6 ++ [MO.lst (ds.map MV.int)]) ++ [MO.lst (([] : List Int).map .int)] = h7 at *
          by_cases g3 : ds = []
          · rw [decide_eq_true g3]
            (try simp only [ok_ok, ok_bind, ok_ite, ok_mVar, ok_mC, ok_mOp, ok_mUn, ok_mNil, ok_mCons, ok_mTup, ok_mLst, ok_mCB, ok_mTest, ok_mAnd, ok_mOr, ok_mNot, ok_mIf, ok_mTru, ok_truM_bl, ok_mAndV, ok_mOrV, ok_mNotV, ok_mChain, ok_mNoPart, ok_mPart, ok_mSlice, ok_mBack, ok_mCall, ok_mCallK, ok_mMeth, ok_mIter, ok_mRng1, ok_mRng2, ok_mZip, ok_rng1, ok_rng2, ok_gmName, ok_gmNil, ok_gmCons, ok_gmTup, ok_gmSub, sn_nx, sn_rt, sn_ite, sn_sSeq, sn_sNext, sn_sBreak, sn_sCont, sn_sRetN, sn_sExpr, sn_sRet, sn_sIf, sn_sAsg, sn_sPar, sn_sAug, ok_runD, sn_sFor, ok_mComp, ok_mYes, ok_add, ok_addT, ok_sub, ok_mul, ok_div, ok_mod, ok_pow, ok_lt, ok_le, ok_gt, ok_ge, ok_neg, ok_eqI, ok_neI, ok_isN, ok_notN, ok_ixT, ok_ixF, ok_slT, ok_slF, ok_backT, ok_lenT, ok_lenF, ok_abs, ok_max2, ok_min2, ok_intB, ok_divmod, ok_itT, ok_itF, ok_isiII, ok_isiIB, ok_isiIT, ok_isiTT, ok_isiTI, ok_isiSS, getAt0, getAt1, getAt2, wipeM, List.map_cons, List.map_nil, List.cons_append, List.nil_append, List.append_nil, List.length_cons, List.length_nil, List.length_map, Nat.reduceAdd, Nat.reduceSub, List.replicate_zero, List.replicate_succ, List.getElem?_cons_zero, List.getElem?_cons_succ, List.set_cons_zero, List.set_cons_succ, Option.some.injEq, exists_eq_left', MV.bl.injEq, MV.int.injEq, true_and, and_true, Int.reduceLT, Int.reduceLE, Nat.reduceLT, Nat.reduceLeDiff, decide_true, decide_false, Bool.not_true, Bool.not_false, Bool.false_eq_true, if_true, if_false, reduceIte])
            exact go x h7 _ _ _ hxm (G7.at hL5) (P5.gr G7) (K6.trans (G7.kh p))
          · rw [decide_eq_false g3]
            (try simp only [ok_ok, ok_bind, ok_ite, ok_mVar, ok_mC, ok_mOp, ok_mUn, ok_mNil, ok_mCons, ok_mTup, ok_mLst, ok_mCB, ok_mTest, ok_mAnd, ok_mOr, ok_mNot, ok_mIf, ok_mTru, ok_truM_bl, ok_mAndV, ok_mOrV, ok_mNotV, ok_mChain, ok_mNoPart, ok_mPart, ok_mSlice, ok_mBack, ok_mCall, ok_mCallK, ok_mMeth, ok_mIter, ok_mRng1, ok_mRng2, ok_mZip, ok_rng1, ok_rng2, ok_gmName, ok_gmNil, ok_gmCons, ok_gmTup, ok_gmSub, sn_nx, sn_rt, sn_ite, sn_sSeq, sn_sNext, sn_sBreak, sn_sCont, sn_sRetN, sn_sExpr, sn_sRet, sn_sIf, sn_sAsg, sn_sPar, sn_sAug, ok_runD, sn_sFor, ok_mComp, ok_mYes, ok_add, ok_addT, ok_sub, ok_mul, ok_div, ok_mod, ok_pow, ok_lt, ok_le, ok_gt, ok_ge, ok_neg, ok_eqI, ok_neI, ok_isN, ok_notN, ok_ixT, ok_ixF, ok_slT, ok_slF, ok_backT, ok_lenT, ok_lenF, ok_abs, ok_max2, ok_min2, ok_intB, ok_divmod, ok_itT, ok_itF, ok_isiII, ok_isiIB, ok_isiIT, ok_isiTT, ok_isiTI, ok_isiSS, getAt0, getAt1, getAt2, wipeM, List.map_cons, List.map_nil, List.cons_append, List.nil_append, List.append_nil, List.length_cons, List.length_nil, List.length_map, Nat.reduceAdd, Nat.reduceSub, List.replicate_zero, List.replicate_succ, List.getElem?_cons_zero, List.getElem?_cons_succ, List.set_cons_zero, List.set_cons_succ, Option.some.injEq, exists_eq_left', MV.bl.injEq, MV.int.injEq, true_and, and_true, Int.reduceLT, Int.reduceLE, Nat.reduceLT, Nat.reduceLeDiff, decide_true, decide_false, Bool.not_true, Bool.not_false, Bool.false_eq_true, if_true, if_false, reduceIte])
            rw [ok_ixL hD2]
            have hdp : 0 < ds.length := List.length_pos_iff.mpr g3
            refine ⟨.int ds[0], by rw [getAt_at (by decide), List.getElem?_map]; simp [hdp], ?_⟩
            exact go ds[0] h7 _ _ _ (hds _ (List.getElem_mem hdp)) (G7.at hL5) (P5.gr G7) (K6.trans (G7.kh p))
      · rw [decide_eq_false g2]
        (try simp only [ok_ok, ok_bind, ok_ite, ok_mVar, ok_mC, ok_mOp, ok_mUn, ok_mNil, ok_mCons, ok_mTup, ok_mLst, ok_mCB, ok_mTest, ok_mAnd, ok_mOr, ok_mNot, ok_mIf, ok_mTru, ok_truM_bl, ok_mAndV, ok_mOrV, ok_mNotV, ok_mChain, ok_mNoPart, ok_mPart, ok_mSlice, ok_mBack, ok_mCall, ok_mCallK, ok_mMeth, ok_mIter, ok_mRng1, ok_mRng2, ok_mZip, ok_rng1, ok_rng2, ok_gmName, ok_gmNil, ok_gmCons, ok_gmTup, ok_gmSub, sn_nx, sn_rt, sn_ite, sn_sSeq, sn_sNext, sn_sBreak, sn_sCont, sn_sRetN, sn_sExpr, sn_sRet, sn_sIf, sn_sAsg, sn_sPar, sn_sAug, ok_runD, sn_sFor, ok_mComp, ok_mYes, ok_add, ok_addT, ok_sub, ok_mul, ok_div, ok_mod, ok_pow, ok_lt, ok_le, ok_gt, ok_ge, ok_neg, ok_eqI, ok_neI, ok_isN, ok_notN, ok_ixT, ok_ixF, ok_slT, ok_slF, ok_backT, ok_lenT, ok_lenF, ok_abs, ok_max2, ok_min2, ok_intB, ok_divmod, ok_itT, ok_itF, ok_isiII, ok_isiIB, ok_isiIT, ok_isiTT, ok_isiTI, ok_isiSS, getAt0, getAt1, getAt2, wipeM, List.map_cons, List.map_nil, List.cons_append, List.nil_append, List.append_nil, List.length_cons, List.length_nil, List.length_map, Nat.reduceAdd, Nat.reduceSub, List.replicate_zero, List.replicate_succ, List.getElem?_cons_zero, List.getElem?_cons_succ, List.set_cons_zero, List.set_cons_succ, Option.some.injEq, exists_eq_left', MV.bl.injEq, MV.int.injEq, true_and, and_true, Int.reduceLT, Int.reduceLE, Nat.reduceLT, Nat.reduceLeDiff, decide_true, decide_false, Bool.not_true, Bool.not_false, Bool.false_eq_true, if_true, if_false, reduceIte])
        exact go x h5 _ _ _ hxm hL5 P5 K6
  · obtain ⟨hi6, rs, sz, y4, y5, y6, y7, y8, y9, rfl, hsz, hL, hl, hsm, P2, K2⟩ := I
    (try simp only [ok_ok, ok_bind, ok_ite, ok_mVar, ok_mC, ok_mOp, ok_mUn, ok_mNil, ok_mCons, ok_mTup, ok_mLst, ok_mCB, ok_mTest, ok_mAnd, ok_mOr, ok_mNot, ok_mIf, ok_mTru, ok_truM_bl, ok_mAndV, ok_mOrV, ok_mNotV, ok_mChain, ok_mNoPart, ok_mPart, ok_mSlice, ok_mBack, ok_mCall, ok_mCallK, ok_mMeth, ok_mIter, ok_mRng1, ok_mRng2, ok_mZip, ok_rng1, ok_rng2, ok_gmName, ok_gmNil, ok_gmCons, ok_gmTup, ok_gmSub, sn_nx, sn_rt, sn_ite, sn_sSeq, sn_sNext, sn_sBreak, sn_sCont, sn_sRetN, sn_sExpr, sn_sRet, sn_sIf, sn_sAsg, sn_sPar, sn_sAug, ok_runD, sn_sFor, ok_mComp, ok_mYes, ok_add, ok_addT, ok_sub, ok_mul, ok_div, ok_mod, ok_pow, ok_lt, ok_le, ok_gt, ok_ge, ok_neg, ok_eqI, ok_neI, ok_isN, ok_notN, ok_ixT, ok_ixF, ok_slT, ok_slF, ok_backT, ok_lenT, ok_lenF, ok_abs, ok_max2, ok_min2, ok_intB, ok_divmod, ok_itT, ok_itF, ok_isiII, ok_isiIB, ok_isiIT, ok_isiTT, ok_isiTI, ok_isiSS, getAt0, getAt1, getAt2, wipeM, List.map_cons, List.map_nil, List.cons_append, List.nil_append, List.append_nil, List.length_cons, List.length_nil, List.length_map, Nat.reduceAdd, Nat.reduceSub, List.replicate_zero, List.replicate_succ, List.getElem?_cons_zero, List.getElem?_cons_succ, List.set_cons_zero, List.set_cons_succ, Option.some.injEq, exists_eq_left', MV.bl.injEq, MV.int.injEq, true_and, and_true, Int.reduceLT, Int.reduceLE, Nat.reduceLT, Nat.reduceLeDiff, decide_true, decide_false, Bool.not_true, Bool.not_false, Bool.false_eq_true, if_true, if_false, reduceIte])
    rw [ok_tupleL hL]
    rw [List.length_map, rngL_len] at *
    exact ⟨rs, rfl, by omega, hsm, P2.le (by omega), K2⟩
end K74

namespace K74
open Cutp
open PySem (Str)
theorem Pool.kset {p a : Nat} {n : Int} {h : Hm} {o : MO} (P : Pool p n h) (ne : a ≠ p) : Pool p n (h.set a o) := by
  obtain ⟨x, y, z, q1, q2⟩ := P
  exact ⟨x, y, z, by rw [List.getElem?_set_ne ne]; exact q1, q2⟩
theorem kh_new {p : Nat} {h h' : Hm} {o : MO} (K : Kh p h h') : Kh p h (h'.set h.length o) :=
  ⟨by simp; exact K.len, fun j hj hp => by rw [List.getElem?_set_ne (Nat.ne_of_gt hj)]; exact K.at_ j hj hp⟩
theorem times_ok {p : Nat} {n f : Int} {rs : List (Int × List (Int × Int))} {h : Hm} (P : Pool p n h) (hr : rs.length ≤ 6) (hs : Sm rs) (hf : 1 ≤ f ∧ f ≤ 10000000000000) :
    Ok (m__law_times [.tup (rs.map pq), .int f] h) fun v h' => ∃ rs : List (Int × List (Int × Int)), v = .tup (rs.map pq) ∧ rs.length ≤ 6 ∧ (∀ x ∈ rs, x.2.length ≤ 16) ∧ Pool p n h' ∧ Kh p h h' := by
  unfold m__law_times b__law_times
  simp only [ok_ok, ok_bind, ok_ite, ok_mVar, ok_mC, ok_mOp, ok_mUn, ok_mNil, ok_mCons, ok_mTup, ok_mLst, ok_mCB, ok_mTest, ok_mAnd, ok_mOr, ok_mNot, ok_mIf, ok_mTru, ok_truM_bl, ok_mAndV, ok_mOrV, ok_mNotV, ok_mChain, ok_mNoPart, ok_mPart, ok_mSlice, ok_mBack, ok_mCall, ok_mCallK, ok_mMeth, ok_mIter, ok_mRng1, ok_mRng2, ok_mZip, ok_rng1, ok_rng2, ok_gmName, ok_gmNil, ok_gmCons, ok_gmTup, ok_gmSub, sn_nx, sn_rt, sn_ite, sn_sSeq, sn_sNext, sn_sBreak, sn_sCont, sn_sRetN, sn_sExpr, sn_sRet, sn_sIf, sn_sAsg, sn_sPar, sn_sAug, ok_runD, sn_sFor, ok_mComp, ok_mYes, ok_add, ok_addT, ok_sub, ok_mul, ok_div, ok_mod, ok_pow, ok_lt, ok_le, ok_gt, ok_ge, ok_neg, ok_eqI, ok_neI, ok_isN, ok_notN, ok_ixT, ok_ixF, ok_slT, ok_slF, ok_backT, ok_lenT, ok_lenF, ok_abs, ok_max2, ok_min2, ok_intB, ok_divmod, ok_itT, ok_itF, ok_isiII, ok_isiIB, ok_isiIT, ok_isiTT, ok_isiTI, ok_isiSS, getAt0, getAt1, getAt2, wipeM, List.map_cons, List.map_nil, List.cons_append, List.nil_append, List.append_nil, List.length_cons, List.length_nil, List.length_map, Nat.reduceAdd, Nat.reduceSub, List.replicate_zero, List.replicate_succ, List.getElem?_cons_zero, List.getElem?_cons_succ, List.set_cons_zero, List.set_cons_succ, Option.some.injEq, exists_eq_left', MV.bl.injEq, MV.int.injEq, true_and, and_true, Int.reduceLT, Int.reduceLE, Nat.reduceLT, Nat.reduceLeDiff, decide_true, decide_false, Bool.not_true, Bool.not_false, Bool.false_eq_true, if_true, if_false, reduceIte]
  have hA : h.length ≠ p := Nat.ne_of_gt P.lt
  refine for_ok (rs.map pq) (fun i ρ h' => ∃ (qs : List (Int × List (Int × Int))) (y3 y4 y5 y6 : Option MV), ρ = [some (.tup (rs.map pq)), some (.int f), some (.ref h.length), y3, y4, y5, y6] ∧
    h'[h.length]? = some (.lst (qs.map pq)) ∧ qs.length ≤ i ∧ (∀ x ∈ qs, x.2.length ≤ 16) ∧ Pool p n h' ∧ Kh p h h') (by rw [List.length_map]; exact Nat.le_trans hr (by decide)) ⟨[], _, _, _, _, rfl, new_at, Nat.le_refl _, (fun x hx => (nomatch hx)), P.gr (Gr.one _ _), (Gr.one _ _).kh p⟩ (fun i ρ h' q => rfl) (fun i v hv ρ h' I => ?_) (fun ρ h' I => ?_)
  · obtain ⟨c, ps, hx, rfl⟩ := map_pq_get hv
    have hil := (List.getElem?_eq_some_iff.mp hx).1
    obtain ⟨⟨c0, c1⟩, hpl, hps⟩ : (0 ≤ c ∧ c ≤ 16) ∧ Sp ps := hs _ (List.mem_of_getElem? hx)
    obtain ⟨qs, y3, y4, y5, y6, rfl, hL, hl, hq, P1, K1⟩ := I
    simp only [ok_ok, ok_bind, ok_ite, ok_mVar, ok_mC, ok_mOp, ok_mUn, ok_mNil, ok_mCons, ok_mTup, ok_mLst, ok_mCB, ok_mTest, ok_mAnd, ok_mOr, ok_mNot, ok_mIf, ok_mTru, ok_truM_bl, ok_mAndV, ok_mOrV, ok_mNotV, ok_mChain, ok_mNoPart, ok_mPart, ok_mSlice, ok_mBack, ok_mCall, ok_mCallK, ok_mMeth, ok_mIter, ok_mRng1, ok_mRng2, ok_mZip, ok_rng1, ok_rng2, ok_gmName, ok_gmNil, ok_gmCons, ok_gmTup, ok_gmSub, sn_nx, sn_rt, sn_ite, sn_sSeq, sn_sNext, sn_sBreak, sn_sCont, sn_sRetN, sn_sExpr, sn_sRet, sn_sIf, sn_sAsg, sn_sPar, sn_sAug, ok_runD, sn_sFor, ok_mComp, ok_mYes, ok_add, ok_addT, ok_sub, ok_mul, ok_div, ok_mod, ok_pow, ok_lt, ok_le, ok_gt, ok_ge, ok_neg, ok_eqI, ok_neI, ok_isN, ok_notN, ok_ixT, ok_ixF, ok_slT, ok_slF, ok_backT, ok_lenT, ok_lenF, ok_abs, ok_max2, ok_min2, ok_intB, ok_divmod, ok_itT, ok_itF, ok_isiII, ok_isiIB, ok_isiIT, ok_isiTT, ok_isiTI, ok_isiSS, getAt0, getAt1, getAt2, wipeM, List.map_cons, List.map_nil, List.cons_append, List.nil_append, List.append_nil, List.length_cons, List.length_nil, List.length_map, Nat.reduceAdd, Nat.reduceSub, List.replicate_zero, List.replicate_succ, List.getElem?_cons_zero, List.getElem?_cons_succ, List.set_cons_zero, List.set_cons_succ, Option.some.injEq, exists_eq_left', MV.bl.injEq, MV.int.injEq, true_and, and_true, Int.reduceLT, Int.reduceLE, Nat.reduceLT, Nat.reduceLeDiff, decide_true, decide_false, Bool.not_true, Bool.not_false, Bool.false_eq_true, if_true, if_false, reduceIte]
    refine ⟨isLst_at hL, mul_ok (by omega) (by omega), ?_⟩
    refine comp_pure (ps.map pr) (fun _ => true) (fun v => match v with | .tup [.int a, .int b] => .tup [.int (a * f), .int (b * f)] | v => v) (by rw [List.length_map]; omega) (fun i => rfl) (fun v hv => ?_) ?_
    · obtain ⟨x, hx2, rfl⟩ := List.mem_map.mp hv
      have hb := hps x hx2
      unfold pr
      simp only [ok_ok, ok_bind, ok_ite, ok_mVar, ok_mC, ok_mOp, ok_mUn, ok_mNil, ok_mCons, ok_mTup, ok_mLst, ok_mCB, ok_mTest, ok_mAnd, ok_mOr, ok_mNot, ok_mIf, ok_mTru, ok_truM_bl, ok_mAndV, ok_mOrV, ok_mNotV, ok_mChain, ok_mNoPart, ok_mPart, ok_mSlice, ok_mBack, ok_mCall, ok_mCallK, ok_mMeth, ok_mIter, ok_mRng1, ok_mRng2, ok_mZip, ok_rng1, ok_rng2, ok_gmName, ok_gmNil, ok_gmCons, ok_gmTup, ok_gmSub, sn_nx, sn_rt, sn_ite, sn_sSeq, sn_sNext, sn_sBreak, sn_sCont, sn_sRetN, sn_sExpr, sn_sRet, sn_sIf, sn_sAsg, sn_sPar, sn_sAug, ok_runD, sn_sFor, ok_mComp, ok_mYes, ok_add, ok_addT, ok_sub, ok_mul, ok_div, ok_mod, ok_pow, ok_lt, ok_le, ok_gt, ok_ge, ok_neg, ok_eqI, ok_neI, ok_isN, ok_notN, ok_ixT, ok_ixF, ok_slT, ok_slF, ok_backT, ok_lenT, ok_lenF, ok_abs, ok_max2, ok_min2, ok_intB, ok_divmod, ok_itT, ok_itF, ok_isiII, ok_isiIB, ok_isiIT, ok_isiTT, ok_isiTI, ok_isiSS, getAt0, getAt1, getAt2, wipeM, List.map_cons, List.map_nil, List.cons_append, List.nil_append, List.append_nil, List.length_cons, List.length_nil, List.length_map, Nat.reduceAdd, Nat.reduceSub, List.replicate_zero, List.replicate_succ, List.getElem?_cons_zero, List.getElem?_cons_succ, List.set_cons_zero, List.set_cons_succ, Option.some.injEq, exists_eq_left', MV.bl.injEq, MV.int.injEq, true_and, and_true, Int.reduceLT, Int.reduceLE, Nat.reduceLT, Nat.reduceLeDiff, decide_true, decide_false, Bool.not_true, Bool.not_false, Bool.false_eq_true, if_true, if_false, reduceIte]
      exact fun _ => ⟨mul_ok (by omega) (by omega), mul_ok (by omega) (by omega)⟩
    have ef : (((ps.map pr).filter fun _ => true).map fun v => match v with | .tup [.int a, .int b] => .tup [.int (a * f), .int (b * f)] | v => v) = (ps.map fun x => (x.1 * f, x.2 * f)).map pr := by
      rw [List.filter_eq_self.mpr (by intros; rfl), List.map_map, List.map_map]
      rfl
    rw [ef, ok_tupleL new_at]
    (try simp only [ok_ok, ok_bind, ok_ite, ok_mVar, ok_mC, ok_mOp, ok_mUn, ok_mNil, ok_mCons, ok_mTup, ok_mLst, ok_mCB, ok_mTest, ok_mAnd, ok_mOr, ok_mNot, ok_mIf, ok_mTru, ok_truM_bl, ok_mAndV, ok_mOrV, ok_mNotV, ok_mChain, ok_mNoPart, ok_mPart, ok_mSlice, ok_mBack, ok_mCall, ok_mCallK, ok_mMeth, ok_mIter, ok_mRng1, ok_mRng2, ok_mZip, ok_rng1, ok_rng2, ok_gmName, ok_gmNil, ok_gmCons, ok_gmTup, ok_gmSub, sn_nx, sn_rt, sn_ite, sn_sSeq, sn_sNext, sn_sBreak, sn_sCont, sn_sRetN, sn_sExpr, sn_sRet, sn_sIf, sn_sAsg, sn_sPar, sn_sAug, ok_runD, sn_sFor, ok_mComp, ok_mYes, ok_add, ok_addT, ok_sub, ok_mul, ok_div, ok_mod, ok_pow, ok_lt, ok_le, ok_gt, ok_ge, ok_neg, ok_eqI, ok_neI, ok_isN, ok_notN, ok_ixT, ok_ixF, ok_slT, ok_slF, ok_backT, ok_lenT, ok_lenF, ok_abs, ok_max2, ok_min2, ok_intB, ok_divmod, ok_itT, ok_itF, ok_isiII, ok_isiIB, ok_isiIT, ok_isiTT, ok_isiTI, ok_isiSS, getAt0, getAt1, getAt2, wipeM, List.map_cons, List.map_nil, List.cons_append, List.nil_append, List.append_nil, List.length_cons, List.length_nil, List.length_map, Nat.reduceAdd, Nat.reduceSub, List.replicate_zero, List.replicate_succ, List.getElem?_cons_zero, List.getElem?_cons_succ, List.set_cons_zero, List.set_cons_succ, Option.some.injEq, exists_eq_left', MV.bl.injEq, MV.int.injEq, true_and, and_true, Int.reduceLT, Int.reduceLE, Nat.reduceLT, Nat.reduceLeDiff, decide_true, decide_false, Bool.not_true, Bool.not_false, Bool.false_eq_true, if_true, if_false, reduceIte])
    have G1 := Gr.one h' (MO.lst ((ps.map fun x => (x.1 * f, x.2 * f)).map pr))
    rw [ok_append (G1.at hL)]
    refine ⟨by rw [List.length_map]; omega, qs ++ [(c * f, ps.map fun x => (x.1 * f, x.2 * f))], _, _, _, _, rfl, ?_, by simp; omega, fun x hx => ?_, (P1.gr G1).kset hA, kh_new (K1.trans (G1.kh p))⟩
    · rw [set_at (G1.at hL)]
      simp [pq]
    · rcases List.mem_append.mp hx with z | z
      · exact hq x z
      · rw [List.mem_singleton] at z
        subst z
        simpa using hpl
  · obtain ⟨qs, y3, y4, y5, y6, rfl, hL, hl, hq, P1, K1⟩ := I
    (try simp only [ok_ok, ok_bind, ok_ite, ok_mVar, ok_mC, ok_mOp, ok_mUn, ok_mNil, ok_mCons, ok_mTup, ok_mLst, ok_mCB, ok_mTest, ok_mAnd, ok_mOr, ok_mNot, ok_mIf, ok_mTru, ok_truM_bl, ok_mAndV, ok_mOrV, ok_mNotV, ok_mChain, ok_mNoPart, ok_mPart, ok_mSlice, ok_mBack, ok_mCall, ok_mCallK, ok_mMeth, ok_mIter, ok_mRng1, ok_mRng2, ok_mZip, ok_rng1, ok_rng2, ok_gmName, ok_gmNil, ok_gmCons, ok_gmTup, ok_gmSub, sn_nx, sn_rt, sn_ite, sn_sSeq, sn_sNext, sn_sBreak, sn_sCont, sn_sRetN, sn_sExpr, sn_sRet, sn_sIf, sn_sAsg, sn_sPar, sn_sAug, ok_runD, sn_sFor, ok_mComp, ok_mYes, ok_add, ok_addT, ok_sub, ok_mul, ok_div, ok_mod, ok_pow, ok_lt, ok_le, ok_gt, ok_ge, ok_neg, ok_eqI, ok_neI, ok_isN, ok_notN, ok_ixT, ok_ixF, ok_slT, ok_slF, ok_backT, ok_lenT, ok_lenF, ok_abs, ok_max2, ok_min2, ok_intB, ok_divmod, ok_itT, ok_itF, ok_isiII, ok_isiIB, ok_isiIT, ok_isiTT, ok_isiTI, ok_isiSS, getAt0, getAt1, getAt2, wipeM, List.map_cons, List.map_nil, List.cons_append, List.nil_append, List.append_nil, List.length_cons, List.length_nil, List.length_map, Nat.reduceAdd, Nat.reduceSub, List.replicate_zero, List.replicate_succ, List.getElem?_cons_zero, List.getElem?_cons_succ, List.set_cons_zero, List.set_cons_succ, Option.some.injEq, exists_eq_left', MV.bl.injEq, MV.int.injEq, true_and, and_true, Int.reduceLT, Int.reduceLE, Nat.reduceLT, Nat.reduceLeDiff, decide_true, decide_false, Bool.not_true, Bool.not_false, Bool.false_eq_true, if_true, if_false, reduceIte])
    rw [ok_tupleL hL]
    rw [List.length_map] at *
    exact ⟨qs, rfl, by omega, hq, P1, K1⟩
end K74

namespace K74
open Cutp
open PySem (Str)
theorem bent_pairs_ok {p : Nat} {n : Int} {ps : List (Int × Int)} {h : Hm} (P : Pool p n h) (hn : n < 100000000) (hl : ps.length ≤ 40) :
    Ok (m__law_bent_pairs [.ref p, .tup (ps.map pr)] h) fun v h' => ∃ qs : List (Int × Int), v = .tup (qs.map pr) ∧ qs.length ≤ 100 ∧ Pool p (n + 2) h' ∧ Kh p h h' := by
  unfold m__law_bent_pairs b__law_bent_pairs
  simp only [ok_ok, ok_bind, ok_ite, ok_mVar, ok_mC, ok_mOp, ok_mUn, ok_mNil, ok_mCons, ok_mTup, ok_mLst, ok_mCB, ok_mTest, ok_mAnd, ok_mOr, ok_mNot, ok_mIf, ok_mTru, ok_truM_bl, ok_mAndV, ok_mOrV, ok_mNotV, ok_mChain, ok_mNoPart, ok_mPart, ok_mSlice, ok_mBack, ok_mCall, ok_mCallK, ok_mMeth, ok_mIter, ok_mRng1, ok_mRng2, ok_mZip, ok_rng1, ok_rng2, ok_gmName, ok_gmNil, ok_gmCons, ok_gmTup, ok_gmSub, sn_nx, sn_rt, sn_ite, sn_sSeq, sn_sNext, sn_sBreak, sn_sCont, sn_sRetN, sn_sExpr, sn_sRet, sn_sIf, sn_sAsg, sn_sPar, sn_sAug, ok_runD, sn_sFor, ok_mComp, ok_mYes, ok_add, ok_addT, ok_sub, ok_mul, ok_div, ok_mod, ok_pow, ok_lt, ok_le, ok_gt, ok_ge, ok_neg, ok_eqI, ok_neI, ok_isN, ok_notN, ok_ixT, ok_ixF, ok_slT, ok_slF, ok_backT, ok_lenT, ok_lenF, ok_abs, ok_max2, ok_min2, ok_intB, ok_divmod, ok_itT, ok_itF, ok_isiII, ok_isiIB, ok_isiIT, ok_isiTT, ok_isiTI, ok_isiSS, getAt0, getAt1, getAt2, wipeM, List.map_cons, List.map_nil, List.cons_append, List.nil_append, List.append_nil, List.length_cons, List.length_nil, List.length_map, Nat.reduceAdd, Nat.reduceSub, List.replicate_zero, List.replicate_succ, List.getElem?_cons_zero, List.getElem?_cons_succ, List.set_cons_zero, List.set_cons_succ, Option.some.injEq, exists_eq_left', MV.bl.injEq, MV.int.injEq, true_and, and_true, Int.reduceLT, Int.reduceLE, Nat.reduceLT, Nat.reduceLeDiff, decide_true, decide_false, Bool.not_true, Bool.not_false, Bool.false_eq_true, if_true, if_false, reduceIte]
  refine (draw_ok P (by omega) (by omega) (by omega)).mono fun v h1 ⟨k, e, hk, P1, K1⟩ => ?_
  subst e
  refine (draw_ok P1 (by omega) (by decide) (by decide)).mono fun v h2 ⟨way, e, hway, P2, K2⟩ => ?_
  subst e
  (try simp only [ok_ok, ok_bind, ok_ite, ok_mVar, ok_mC, ok_mOp, ok_mUn, ok_mNil, ok_mCons, ok_mTup, ok_mLst, ok_mCB, ok_mTest, ok_mAnd, ok_mOr, ok_mNot, ok_mIf, ok_mTru, ok_truM_bl, ok_mAndV, ok_mOrV, ok_mNotV, ok_mChain, ok_mNoPart, ok_mPart, ok_mSlice, ok_mBack, ok_mCall, ok_mCallK, ok_mMeth, ok_mIter, ok_mRng1, ok_mRng2, ok_mZip, ok_rng1, ok_rng2, ok_gmName, ok_gmNil, ok_gmCons, ok_gmTup, ok_gmSub, sn_nx, sn_rt, sn_ite, sn_sSeq, sn_sNext, sn_sBreak, sn_sCont, sn_sRetN, sn_sExpr, sn_sRet, sn_sIf, sn_sAsg, sn_sPar, sn_sAug, ok_runD, sn_sFor, ok_mComp, ok_mYes, ok_add, ok_addT, ok_sub, ok_mul, ok_div, ok_mod, ok_pow, ok_lt, ok_le, ok_gt, ok_ge, ok_neg, ok_eqI, ok_neI, ok_isN, ok_notN, ok_ixT, ok_ixF, ok_slT, ok_slF, ok_backT, ok_lenT, ok_lenF, ok_abs, ok_max2, ok_min2, ok_intB, ok_divmod, ok_itT, ok_itF, ok_isiII, ok_isiIB, ok_isiIT, ok_isiTT, ok_isiTI, ok_isiSS, getAt0, getAt1, getAt2, wipeM, List.map_cons, List.map_nil, List.cons_append, List.nil_append, List.append_nil, List.length_cons, List.length_nil, List.length_map, Nat.reduceAdd, Nat.reduceSub, List.replicate_zero, List.replicate_succ, List.getElem?_cons_zero, List.getElem?_cons_succ, List.set_cons_zero, List.set_cons_succ, Option.some.injEq, exists_eq_left', MV.bl.injEq, MV.int.injEq, true_and, and_true, Int.reduceLT, Int.reduceLE, Nat.reduceLT, Nat.reduceLeDiff, decide_true, decide_false, Bool.not_true, Bool.not_false, Bool.false_eq_true, if_true, if_false, reduceIte])
  have K3 := K1.trans K2
  have last : ∀ (items : List MV) (hZ : Hm), items.length = 5 → (∀ v ∈ items, ∃ qs : List (Int × Int), v = .tup (qs.map pr) ∧ qs.length ≤ 100) → Gr h2 hZ →
      Ok (ixM (.ref hZ.length) (.int way) (hZ ++ [MO.lst items])) fun v h' => ∃ qs : List (Int × Int), v = .tup (qs.map pr) ∧ qs.length ≤ 100 ∧ Pool p (n + 2) h' ∧ Kh p h h' := by
    intro items hZ h7 hv G
    rw [ok_ixL new_at]
    have hlt : way.toNat < items.length := by omega
    refine ⟨items[way.toNat], by rw [getAt_at hway.1, List.getElem?_eq_getElem hlt], ?_⟩
    obtain ⟨qs, e, l⟩ := hv _ (List.getElem_mem hlt)
    have G2 := G.trans (Gr.one hZ (MO.lst items))
    exact ⟨qs, e, l, (P2.gr G2).le (by omega), K3.trans (G2.kh p)⟩
  have hk1 : 0 ≤ k + 1 := by omega
  simp only [cut_hi hk.1, cut_lo hk.1, cut_lo hk1, ← List.map_take, ← List.map_drop]
  have la : (ps.take k.toNat).length ≤ 40 := by rw [List.length_take]; omega
  have lb : (ps.drop (k + 1).toNat).length ≤ 40 := by rw [List.length_drop]; omega
  have ld : (ps.drop k.toNat).length ≤ 40 := by rw [List.length_drop]; omega
  generalize ps.take k.toNat = A at *
  generalize ps.drop (k + 1).toNat = B at *
  generalize ps.drop k.toNat = D at *
  have fin : ∀ a b : Int, ∀ v ∈ [MV.tup (A.map pr ++ B.map pr), MV.tup (A.map pr ++ [MV.tup [.int a, .int b]] ++ D.map pr)] ++ [MV.tup (A.map pr ++ [MV.tup [.int a, .int (b + 1)]] ++ B.map pr)] ++ [MV.tup (A.map pr ++ [MV.tup [.int (a + 1), .int b]] ++ B.map pr)] ++ [MV.tup (A.map pr ++ [MV.tup [.int a, .int (b - 1)]] ++ B.map pr)],
      ∃ qs : List (Int × Int), v = .tup (qs.map pr) ∧ qs.length ≤ 100 := by
    intro a b v hv
    simp only [List.mem_append, List.mem_cons, List.not_mem_nil, or_false] at hv
    rcases hv with (((rfl | rfl) | rfl) | rfl) | rfl
    · exact ⟨A ++ B, by simp, by simp; omega⟩
    · exact ⟨A ++ [(a, b)] ++ D, by simp [pr], by simp; omega⟩
    · exact ⟨A ++ [(a, b + 1)] ++ B, by simp [pr], by simp; omega⟩
    · exact ⟨A ++ [(a + 1, b)] ++ B, by simp [pr], by simp; omega⟩
    · exact ⟨A ++ [(a, b - 1)] ++ B, by simp [pr], by simp; omega⟩
  by_cases g : k < (ps.length : Int)
  · rw [decide_eq_true g]
    (try simp only [ok_ok, ok_bind, ok_ite, ok_mVar, ok_mC, ok_mOp, ok_mUn, ok_mNil, ok_mCons, ok_mTup, ok_mLst, ok_mCB, ok_mTest, ok_mAnd, ok_mOr, ok_mNot, ok_mIf, ok_mTru, ok_truM_bl, ok_mAndV, ok_mOrV, ok_mNotV, ok_mChain, ok_mNoPart, ok_mPart, ok_mSlice, ok_mBack, ok_mCall, ok_mCallK, ok_mMeth, ok_mIter, ok_mRng1, ok_mRng2, ok_mZip, ok_rng1, ok_rng2, ok_gmName, ok_gmNil, ok_gmCons, ok_gmTup, ok_gmSub, sn_nx, sn_rt, sn_ite, sn_sSeq, sn_sNext, sn_sBreak, sn_sCont, sn_sRetN, sn_sExpr, sn_sRet, sn_sIf, sn_sAsg, sn_sPar, sn_sAug, ok_runD, sn_sFor, ok_mComp, ok_mYes, ok_add, ok_addT, ok_sub, ok_mul, ok_div, ok_mod, ok_pow, ok_lt, ok_le, ok_gt, ok_ge, ok_neg, ok_eqI, ok_neI, ok_isN, ok_notN, ok_ixT, ok_ixF, ok_slT, ok_slF, ok_backT, ok_lenT, ok_lenF, ok_abs, ok_max2, ok_min2, ok_intB, ok_divmod, ok_itT, ok_itF, ok_isiII, ok_isiIB, ok_isiIT, ok_isiTT, ok_isiTI, ok_isiSS, getAt0, getAt1, getAt2, wipeM, List.map_cons, List.map_nil, List.cons_append, List.nil_append, List.append_nil, List.length_cons, List.length_nil, List.length_map, Nat.reduceAdd, Nat.reduceSub, List.replicate_zero, List.replicate_succ, List.getElem?_cons_zero, List.getElem?_cons_succ, List.set_cons_zero, List.set_cons_succ, Option.some.injEq, exists_eq_left', MV.bl.injEq, MV.int.injEq, true_and, and_true, Int.reduceLT, Int.reduceLE, Nat.reduceLT, Nat.reduceLeDiff, decide_true, decide_false, Bool.not_true, Bool.not_false, Bool.false_eq_true, if_true, if_false, reduceIte])
    have hkl : k.toNat < ps.length := by omega
    refine ⟨MV.tup [.int (ps[k.toNat]).1, .int (ps[k.toNat]).2], by rw [getAt_at hk.1, List.getElem?_map, List.getElem?_eq_getElem hkl]; rfl, ?_⟩
    generalize (ps[k.toNat]).1 = a
    generalize (ps[k.toNat]).2 = b
    (try simp only [ok_ok, ok_bind, ok_ite, ok_mVar, ok_mC, ok_mOp, ok_mUn, ok_mNil, ok_mCons, ok_mTup, ok_mLst, ok_mCB, ok_mTest, ok_mAnd, ok_mOr, ok_mNot, ok_mIf, ok_mTru, ok_truM_bl, ok_mAndV, ok_mOrV, ok_mNotV, ok_mChain, ok_mNoPart, ok_mPart, ok_mSlice, ok_mBack, ok_mCall, ok_mCallK, ok_mMeth, ok_mIter, ok_mRng1, ok_mRng2, ok_mZip, ok_rng1, ok_rng2, ok_gmName, ok_gmNil, ok_gmCons, ok_gmTup, ok_gmSub, sn_nx, sn_rt, sn_ite, sn_sSeq, sn_sNext, sn_sBreak, sn_sCont, sn_sRetN, sn_sExpr, sn_sRet, sn_sIf, sn_sAsg, sn_sPar, sn_sAug, ok_runD, sn_sFor, ok_mComp, ok_mYes, ok_add, ok_addT, ok_sub, ok_mul, ok_div, ok_mod, ok_pow, ok_lt, ok_le, ok_gt, ok_ge, ok_neg, ok_eqI, ok_neI, ok_isN, ok_notN, ok_ixT, ok_ixF, ok_slT, ok_slF, ok_backT, ok_lenT, ok_lenF, ok_abs, ok_max2, ok_min2, ok_intB, ok_divmod, ok_itT, ok_itF, ok_isiII, ok_isiIB, ok_isiIT, ok_isiTT, ok_isiTI, ok_isiSS, getAt0, getAt1, getAt2, wipeM, List.map_cons, List.map_nil, List.cons_append, List.nil_append, List.append_nil, List.length_cons, List.length_nil, List.length_map, Nat.reduceAdd, Nat.reduceSub, List.replicate_zero, List.replicate_succ, List.getElem?_cons_zero, List.getElem?_cons_succ, List.set_cons_zero, List.set_cons_succ, Option.some.injEq, exists_eq_left', MV.bl.injEq, MV.int.injEq, true_and, and_true, Int.reduceLT, Int.reduceLE, Nat.reduceLT, Nat.reduceLeDiff, decide_true, decide_false, Bool.not_true, Bool.not_false, Bool.false_eq_true, if_true, if_false, reduceIte])
    refine ⟨by omega, by omega, by simp; omega, by omega, by simp; omega, ?_⟩
    rw [ok_addL ((Gr.one _ _).at new_at) new_at]
    refine ⟨by simp, by omega, by simp; omega, ?_⟩
    rw [ok_addL ((Gr.one _ _).at new_at) new_at]
    refine ⟨by simp, by omega, by simp; omega, ?_⟩
    rw [ok_addL ((Gr.one _ _).at new_at) new_at]
    refine ⟨by simp, ?_⟩
    exact last _ _ (by simp) (fin a b) ((((((Gr.one _ _).trans (Gr.one _ _)).trans (Gr.one _ _)).trans (Gr.one _ _)).trans (Gr.one _ _)).trans (Gr.one _ _))
  · rw [decide_eq_false g]
    (try simp only [ok_ok, ok_bind, ok_ite, ok_mVar, ok_mC, ok_mOp, ok_mUn, ok_mNil, ok_mCons, ok_mTup, ok_mLst, ok_mCB, ok_mTest, ok_mAnd, ok_mOr, ok_mNot, ok_mIf, ok_mTru, ok_truM_bl, ok_mAndV, ok_mOrV, ok_mNotV, ok_mChain, ok_mNoPart, ok_mPart, ok_mSlice, ok_mBack, ok_mCall, ok_mCallK, ok_mMeth, ok_mIter, ok_mRng1, ok_mRng2, ok_mZip, ok_rng1, ok_rng2, ok_gmName, ok_gmNil, ok_gmCons, ok_gmTup, ok_gmSub, sn_nx, sn_rt, sn_ite, sn_sSeq, sn_sNext, sn_sBreak, sn_sCont, sn_sRetN, sn_sExpr, sn_sRet, sn_sIf, sn_sAsg, sn_sPar, sn_sAug, ok_runD, sn_sFor, ok_mComp, ok_mYes, ok_add, ok_addT, ok_sub, ok_mul, ok_div, ok_mod, ok_pow, ok_lt, ok_le, ok_gt, ok_ge, ok_neg, ok_eqI, ok_neI, ok_isN, ok_notN, ok_ixT, ok_ixF, ok_slT, ok_slF, ok_backT, ok_lenT, ok_lenF, ok_abs, ok_max2, ok_min2, ok_intB, ok_divmod, ok_itT, ok_itF, ok_isiII, ok_isiIB, ok_isiIT, ok_isiTT, ok_isiTI, ok_isiSS, getAt0, getAt1, getAt2, wipeM, List.map_cons, List.map_nil, List.cons_append, List.nil_append, List.append_nil, List.length_cons, List.length_nil, List.length_map, Nat.reduceAdd, Nat.reduceSub, List.replicate_zero, List.replicate_succ, List.getElem?_cons_zero, List.getElem?_cons_succ, List.set_cons_zero, List.set_cons_succ, Option.some.injEq, exists_eq_left', MV.bl.injEq, MV.int.injEq, true_and, and_true, Int.reduceLT, Int.reduceLE, Nat.reduceLT, Nat.reduceLeDiff, decide_true, decide_false, Bool.not_true, Bool.not_false, Bool.false_eq_true, if_true, if_false, reduceIte])
    refine ⟨by omega, by omega, by simp; omega, by omega, by simp; omega, ?_⟩
    rw [ok_addL ((Gr.one _ _).at new_at) new_at]
    refine ⟨by simp, by omega, by simp; omega, ?_⟩
    rw [ok_addL ((Gr.one _ _).at new_at) new_at]
    refine ⟨by simp, by omega, by simp; omega, ?_⟩
    rw [ok_addL ((Gr.one _ _).at new_at) new_at]
    refine ⟨by simp, ?_⟩
    exact last _ _ (by simp) (fin 1 0) ((((((Gr.one _ _).trans (Gr.one _ _)).trans (Gr.one _ _)).trans (Gr.one _ _)).trans (Gr.one _ _)).trans (Gr.one _ _))
end K74

namespace K74
open Cutp
open PySem (Str)
/-- parts with short rows -/
def Sh (rs : List (Int × List (Int × Int))) : Prop := ∀ x ∈ rs, x.2.length ≤ 100
theorem bent_ok {p : Nat} {n : Int} {rs : List (Int × List (Int × Int))} {h : Hm} (P : Pool p n h) (hn : n < 90000000) (hl : rs.length ≤ 6) (hs : ∀ x ∈ rs, x.2.length ≤ 16) :
    Ok (m__law_bent [.ref p, .tup (rs.map pq)] h) fun v h' => ∃ qs : List (Int × List (Int × Int)), v = .tup (qs.map pq) ∧ qs.length ≤ 40 ∧ Sh qs ∧ Pool p (n + 5) h' ∧ Kh p h h' := by
  unfold m__law_bent b__law_bent
  simp only [ok_ok, ok_bind, ok_ite, ok_mVar, ok_mC, ok_mOp, ok_mUn, ok_mNil, ok_mCons, ok_mTup, ok_mLst, ok_mCB, ok_mTest, ok_mAnd, ok_mOr, ok_mNot, ok_mIf, ok_mTru, ok_truM_bl, ok_mAndV, ok_mOrV, ok_mNotV, ok_mChain, ok_mNoPart, ok_mPart, ok_mSlice, ok_mBack, ok_mCall, ok_mCallK, ok_mMeth, ok_mIter, ok_mRng1, ok_mRng2, ok_mZip, ok_rng1, ok_rng2, ok_gmName, ok_gmNil, ok_gmCons, ok_gmTup, ok_gmSub, sn_nx, sn_rt, sn_ite, sn_sSeq, sn_sNext, sn_sBreak, sn_sCont, sn_sRetN, sn_sExpr, sn_sRet, sn_sIf, sn_sAsg, sn_sPar, sn_sAug, ok_runD, sn_sFor, ok_mComp, ok_mYes, ok_add, ok_addT, ok_sub, ok_mul, ok_div, ok_mod, ok_pow, ok_lt, ok_le, ok_gt, ok_ge, ok_neg, ok_eqI, ok_neI, ok_isN, ok_notN, ok_ixT, ok_ixF, ok_slT, ok_slF, ok_backT, ok_lenT, ok_lenF, ok_abs, ok_max2, ok_min2, ok_intB, ok_divmod, ok_itT, ok_itF, ok_isiII, ok_isiIB, ok_isiIT, ok_isiTT, ok_isiTI, ok_isiSS, getAt0, getAt1, getAt2, wipeM, List.map_cons, List.map_nil, List.cons_append, List.nil_append, List.append_nil, List.length_cons, List.length_nil, List.length_map, Nat.reduceAdd, Nat.reduceSub, List.replicate_zero, List.replicate_succ, List.getElem?_cons_zero, List.getElem?_cons_succ, List.set_cons_zero, List.set_cons_succ, Option.some.injEq, exists_eq_left', MV.bl.injEq, MV.int.injEq, true_and, and_true, Int.reduceLT, Int.reduceLE, Nat.reduceLT, Nat.reduceLeDiff, decide_true, decide_false, Bool.not_true, Bool.not_false, Bool.false_eq_true, if_true, if_false, reduceIte]
  refine (draw_ok P (by omega) (by omega) (by omega)).mono fun v h1 ⟨k, e, hk, P1, K1⟩ => ?_
  subst e
  refine (draw_ok P1 (by omega) (by decide) (by decide)).mono fun v h2 ⟨way, e, hway, P2, K2⟩ => ?_
  subst e
  (try simp only [ok_ok, ok_bind, ok_ite, ok_mVar, ok_mC, ok_mOp, ok_mUn, ok_mNil, ok_mCons, ok_mTup, ok_mLst, ok_mCB, ok_mTest, ok_mAnd, ok_mOr, ok_mNot, ok_mIf, ok_mTru, ok_truM_bl, ok_mAndV, ok_mOrV, ok_mNotV, ok_mChain, ok_mNoPart, ok_mPart, ok_mSlice, ok_mBack, ok_mCall, ok_mCallK, ok_mMeth, ok_mIter, ok_mRng1, ok_mRng2, ok_mZip, ok_rng1, ok_rng2, ok_gmName, ok_gmNil, ok_gmCons, ok_gmTup, ok_gmSub, sn_nx, sn_rt, sn_ite, sn_sSeq, sn_sNext, sn_sBreak, sn_sCont, sn_sRetN, sn_sExpr, sn_sRet, sn_sIf, sn_sAsg, sn_sPar, sn_sAug, ok_runD, sn_sFor, ok_mComp, ok_mYes, ok_add, ok_addT, ok_sub, ok_mul, ok_div, ok_mod, ok_pow, ok_lt, ok_le, ok_gt, ok_ge, ok_neg, ok_eqI, ok_neI, ok_isN, ok_notN, ok_ixT, ok_ixF, ok_slT, ok_slF, ok_backT, ok_lenT, ok_lenF, ok_abs, ok_max2, ok_min2, ok_intB, ok_divmod, ok_itT, ok_itF, ok_isiII, ok_isiIB, ok_isiIT, ok_isiTT, ok_isiTI, ok_isiSS, getAt0, getAt1, getAt2, wipeM, List.map_cons, List.map_nil, List.cons_append, List.nil_append, List.append_nil, List.length_cons, List.length_nil, List.length_map, Nat.reduceAdd, Nat.reduceSub, List.replicate_zero, List.replicate_succ, List.getElem?_cons_zero, List.getElem?_cons_succ, List.set_cons_zero, List.set_cons_succ, Option.some.injEq, exists_eq_left', MV.bl.injEq, MV.int.injEq, true_and, and_true, Int.reduceLT, Int.reduceLE, Nat.reduceLT, Nat.reduceLeDiff, decide_true, decide_false, Bool.not_true, Bool.not_false, Bool.false_eq_true, if_true, if_false, reduceIte])
  have K3 := K1.trans K2
  have hk1 : 0 ≤ k + 1 := by omega
  have hp2 : h2.length ≠ p := Nat.ne_of_gt P2.lt
  have la : (rs.take k.toNat).length ≤ 6 ∧ ∀ x ∈ rs.take k.toNat, x.2.length ≤ 16 := ⟨by rw [List.length_take]; omega, fun x hx => hs x (List.mem_of_mem_take hx)⟩
  have lb : (rs.drop (k + 1).toNat).length ≤ 6 ∧ ∀ x ∈ rs.drop (k + 1).toNat, x.2.length ≤ 16 := ⟨by rw [List.length_drop]; omega, fun x hx => hs x (List.mem_of_mem_drop hx)⟩
  have ld : (rs.drop k.toNat).length ≤ 6 ∧ ∀ x ∈ rs.drop k.toNat, x.2.length ≤ 16 := ⟨by rw [List.length_drop]; omega, fun x hx => hs x (List.mem_of_mem_drop hx)⟩
  generalize hA : rs.take k.toNat = A at *
  generalize hB : rs.drop (k + 1).toNat = B at *
  generalize hD : rs.drop k.toNat = D at *
  have fin : ∀ (c a : Int) (ps us : List (Int × Int)), ps.length ≤ 40 → us.length ≤ 100 → ∀ v ∈ [MV.tup (rs.map pq), MV.tup (A.map pq ++ B.map pq), MV.tup (A.map pq ++ [MV.tup [.int c, .tup (ps.map pr)]] ++ D.map pq), MV.tup (rs.map pq).reverse] ++ [MV.tup (A.map pq ++ [MV.tup [.int c, .tup (us.map pr)]] ++ B.map pq)] ++ [MV.tup (A.map pq ++ [MV.tup [.int a, .tup (ps.map pr)]] ++ B.map pq)],
      ∃ qs : List (Int × List (Int × Int)), v = .tup (qs.map pq) ∧ qs.length ≤ 40 ∧ Sh qs := by
    intro c a ps us hp hu v hv
    have sA : Sh A := fun x hx => Nat.le_trans (la.2 x hx) (by decide)
    have sB : Sh B := fun x hx => Nat.le_trans (lb.2 x hx) (by decide)
    have sD : Sh D := fun x hx => Nat.le_trans (ld.2 x hx) (by decide)
    have sR : Sh rs := fun x hx => Nat.le_trans (hs x hx) (by decide)
    have app : ∀ {X Y : List (Int × List (Int × Int))}, Sh X → Sh Y → Sh (X ++ Y) := fun a b x hx => (List.mem_append.mp hx).elim (a x) (b x)
    have one : ∀ {c : Int} {ps : List (Int × Int)}, ps.length ≤ 100 → Sh [(c, ps)] := fun h x hx => by rw [List.mem_singleton] at hx; subst hx; exact h
    simp only [List.mem_append, List.mem_cons, List.not_mem_nil, or_false] at hv
    rcases hv with ((rfl | rfl | rfl | rfl) | rfl) | rfl
    · exact ⟨rs, rfl, by omega, sR⟩
    · exact ⟨A ++ B, by simp, by simp; omega, app sA sB⟩
    · exact ⟨A ++ [(c, ps)] ++ D, by simp [pq], by simp; omega, app (app sA (one (by omega))) sD⟩
    · exact ⟨rs.reverse, by simp, by simp; omega, fun x hx => sR x (List.mem_reverse.mp hx)⟩
    · exact ⟨A ++ [(c, us)] ++ B, by simp [pq], by simp; omega, app (app sA (one hu)) sB⟩
    · exact ⟨A ++ [(a, ps)] ++ B, by simp [pq], by simp; omega, app (app sA (one (by omega))) sB⟩
  have set_new : ∀ (g : Hm) (o o' : MO), (g ++ [o]).set g.length o' = g ++ [o'] := fun g o o' => by simp
  -- the tail behind both branches
  have tail : ∀ (c : Int) (ps : List (Int × Int)), ps.length ≤ 40 →
      Ok (m__law_bent_pairs [MV.ref p, MV.tup (ps.map pr)] (h2 ++ [MO.lst [MV.tup (rs.map pq), MV.tup (A.map pq ++ B.map pq), MV.tup (A.map pq ++ [MV.tup [MV.int c, MV.tup (ps.map pr)]] ++ D.map pq), MV.tup (rs.map pq).reverse]])) fun x h1 =>
        (A.length ≤ 9999999 ∧ A.length + 1 + B.length ≤ 10000000 ∧
        Ok (appendM (MV.ref h2.length) [MV.tup (A.map pq ++ [MV.tup [MV.int c, x]] ++ B.map pq)] h1) fun _ h1 =>
          Ok (m__law_draw [MV.ref p, MV.int 2] (h1 ++ [MO.lst [MV.int 1, MV.int (-1)]])) fun y h2_1 =>
            Ok (ixM (MV.ref h1.length) y h2_1) fun y h2_2 =>
              Ok (addM (MV.int c) y h2_2) fun v h1 =>
                A.length ≤ 9999999 ∧ A.length + 1 + B.length ≤ 10000000 ∧
                Ok (addM (MV.ref h2.length) (MV.ref h1.length) (h1 ++ [MO.lst [MV.tup (A.map pq ++ [MV.tup [v, MV.tup (ps.map pr)]] ++ B.map pq)]])) fun x h1 =>
                  Ok (ixM x (MV.int way) h1) fun v h' => ∃ qs, v = MV.tup (qs.map pq) ∧ qs.length ≤ 40 ∧ Sh qs ∧ Pool p (n + 5) h' ∧ Kh p h h') := by
    intro c ps hp
    have G0 := Gr.one h2 (MO.lst [MV.tup (rs.map pq), MV.tup (A.map pq ++ B.map pq), MV.tup (A.map pq ++ [MV.tup [MV.int c, MV.tup (ps.map pr)]] ++ D.map pq), MV.tup (rs.map pq).reverse])
    have hL0 : (h2 ++ [MO.lst [MV.tup (rs.map pq), MV.tup (A.map pq ++ B.map pq), MV.tup (A.map pq ++ [MV.tup [MV.int c, MV.tup (ps.map pr)]] ++ D.map pq), MV.tup (rs.map pq).reverse]])[h2.length]? = some (.lst _) := new_at
    refine (bent_pairs_ok (P2.gr G0) (by omega) hp).mono fun v h3 ⟨us, e, hu, P3, K4⟩ => ?_
    subst e
    have hL3 := K4.get hL0 hp2
    refine ⟨by omega, by omega, ?_⟩
    rw [ok_append hL3]
    refine ⟨by simp, ?_⟩
    have hp3 := P3.lt
    have h23 : h2.length < h3.length := (List.getElem?_eq_some_iff.mp hL3).1
    have K5 : Kh p h (h3.set h2.length (MO.lst ([MV.tup (rs.map pq), MV.tup (A.map pq ++ B.map pq), MV.tup (A.map pq ++ [MV.tup [MV.int c, MV.tup (ps.map pr)]] ++ D.map pq), MV.tup (rs.map pq).reverse] ++ [MV.tup (A.map pq ++ [MV.tup [MV.int c, MV.tup (us.map pr)]] ++ B.map pq)]))) := by
      have Kx : Kh p h2 h3 := (G0.kh p).trans K4
      exact K3.trans (kh_new Kx)
    have hL4 := set_at (o := MO.lst ([MV.tup (rs.map pq), MV.tup (A.map pq ++ B.map pq), MV.tup (A.map pq ++ [MV.tup [MV.int c, MV.tup (ps.map pr)]] ++ D.map pq), MV.tup (rs.map pq).reverse] ++ [MV.tup (A.map pq ++ [MV.tup [MV.int c, MV.tup (us.map pr)]] ++ B.map pq)])) hL3
    have P4 := P3.kset (o := MO.lst ([MV.tup (rs.map pq), MV.tup (A.map pq ++ B.map pq), MV.tup (A.map pq ++ [MV.tup [MV.int c, MV.tup (ps.map pr)]] ++ D.map pq), MV.tup (rs.map pq).reverse] ++ [MV.tup (A.map pq ++ [MV.tup [MV.int c, MV.tup (us.map pr)]] ++ B.map pq)])) hp2
    have fn := fin c
    generalize h3.set h2.length _ = h4 at *
    have G4 := Gr.one h4 (MO.lst [MV.int 1, MV.int (-1)])
    have hN : (h4 ++ [MO.lst [MV.int 1, MV.int (-1)]])[h4.length]? = some (.lst [MV.int 1, MV.int (-1)]) := new_at
    have hp4 : h4.length ≠ p := Nat.ne_of_gt P4.lt
    refine (draw_ok (P4.gr G4) (by omega) (by decide) (by decide)).mono fun v h5 ⟨d, e, hd, P5, K6⟩ => ?_
    subst e
    rw [ok_ixL (K6.get hN hp4)]
    have hfx : ∃ f : Int, getAt ([MV.int 1, MV.int (-1)]) d = some (.int f) := by
      have : d = 0 ∨ d = 1 := by omega
      rcases this with rfl | rfl
      · exact ⟨_, getAt_at (by decide)⟩
      · exact ⟨_, getAt_at (by decide)⟩
    obtain ⟨f, hf⟩ := hfx
    refine ⟨.int f, hf, ?_⟩
    (try simp only [ok_ok, ok_bind, ok_ite, ok_mVar, ok_mC, ok_mOp, ok_mUn, ok_mNil, ok_mCons, ok_mTup, ok_mLst, ok_mCB, ok_mTest, ok_mAnd, ok_mOr, ok_mNot, ok_mIf, ok_mTru, ok_truM_bl, ok_mAndV, ok_mOrV, ok_mNotV, ok_mChain, ok_mNoPart, ok_mPart, ok_mSlice, ok_mBack, ok_mCall, ok_mCallK, ok_mMeth, ok_mIter, ok_mRng1, ok_mRng2, ok_mZip, ok_rng1, ok_rng2, ok_gmName, ok_gmNil, ok_gmCons, ok_gmTup, ok_gmSub, sn_nx, sn_rt, sn_ite, sn_sSeq, sn_sNext, sn_sBreak, sn_sCont, sn_sRetN, sn_sExpr, sn_sRet, sn_sIf, sn_sAsg, sn_sPar, sn_sAug, ok_runD, sn_sFor, ok_mComp, ok_mYes, ok_add, ok_addT, ok_sub, ok_mul, ok_div, ok_mod, ok_pow, ok_lt, ok_le, ok_gt, ok_ge, ok_neg, ok_eqI, ok_neI, ok_isN, ok_notN, ok_ixT, ok_ixF, ok_slT, ok_slF, ok_backT, ok_lenT, ok_lenF, ok_abs, ok_max2, ok_min2, ok_intB, ok_divmod, ok_itT, ok_itF, ok_isiII, ok_isiIB, ok_isiIT, ok_isiTT, ok_isiTI, ok_isiSS, getAt0, getAt1, getAt2, wipeM, List.map_cons, List.map_nil, List.cons_append, List.nil_append, List.append_nil, List.length_cons, List.length_nil, List.length_map, Nat.reduceAdd, Nat.reduceSub, List.replicate_zero, List.replicate_succ, List.getElem?_cons_zero, List.getElem?_cons_succ, List.set_cons_zero, List.set_cons_succ, Option.some.injEq, exists_eq_left', MV.bl.injEq, MV.int.injEq, true_and, and_true, Int.reduceLT, Int.reduceLE, Nat.reduceLT, Nat.reduceLeDiff, decide_true, decide_false, Bool.not_true, Bool.not_false, Bool.false_eq_true, if_true, if_false, reduceIte])
    refine ⟨by omega, by omega, ?_⟩
    have hL5 := K6.get (G4.at hL4) hp2
    rw [ok_addL ((Gr.one _ _).at hL5) new_at]
    refine ⟨by simp, ?_⟩
    rw [ok_ixL new_at]
    have fv := fn (c + f) ps us hp hu
    generalize hI : ([MV.tup (rs.map pq), MV.tup (A.map pq ++ B.map pq), MV.tup (A.map pq ++ [MV.tup [MV.int c, MV.tup (ps.map pr)]] ++ D.map pq), MV.tup (rs.map pq).reverse] ++ [MV.tup (A.map pq ++ [MV.tup [MV.int c, MV.tup (us.map pr)]] ++ B.map pq)] ++ [MV.tup (A.map pq ++ [MV.tup [MV.int (c + f), MV.tup (ps.map pr)]] ++ B.map pq)]) = items at *
    have h6 : items.length = 6 := by rw [← hI]; rfl
    have hlt : way.toNat < items.length := by omega
    refine ⟨items[way.toNat], by rw [getAt_at hway.1, List.getElem?_eq_getElem hlt], ?_⟩
    obtain ⟨qs, e, l1, l2⟩ := fv _ (List.getElem_mem hlt)
    refine ⟨qs, e, l1, l2, (P5.gr ((Gr.one _ _).trans (Gr.one _ _))).le (by omega), (K5.trans ((G4.kh p).trans K6)).trans (((Gr.one _ _).trans (Gr.one _ _)).kh p)⟩
  by_cases g : k < (rs.length : Int)
  · rw [decide_eq_true g]
    (try simp only [ok_ok, ok_bind, ok_ite, ok_mVar, ok_mC, ok_mOp, ok_mUn, ok_mNil, ok_mCons, ok_mTup, ok_mLst, ok_mCB, ok_mTest, ok_mAnd, ok_mOr, ok_mNot, ok_mIf, ok_mTru, ok_truM_bl, ok_mAndV, ok_mOrV, ok_mNotV, ok_mChain, ok_mNoPart, ok_mPart, ok_mSlice, ok_mBack, ok_mCall, ok_mCallK, ok_mMeth, ok_mIter, ok_mRng1, ok_mRng2, ok_mZip, ok_rng1, ok_rng2, ok_gmName, ok_gmNil, ok_gmCons, ok_gmTup, ok_gmSub, sn_nx, sn_rt, sn_ite, sn_sSeq, sn_sNext, sn_sBreak, sn_sCont, sn_sRetN, sn_sExpr, sn_sRet, sn_sIf, sn_sAsg, sn_sPar, sn_sAug, ok_runD, sn_sFor, ok_mComp, ok_mYes, ok_add, ok_addT, ok_sub, ok_mul, ok_div, ok_mod, ok_pow, ok_lt, ok_le, ok_gt, ok_ge, ok_neg, ok_eqI, ok_neI, ok_isN, ok_notN, ok_ixT, ok_ixF, ok_slT, ok_slF, ok_backT, ok_lenT, ok_lenF, ok_abs, ok_max2, ok_min2, ok_intB, ok_divmod, ok_itT, ok_itF, ok_isiII, ok_isiIB, ok_isiIT, ok_isiTT, ok_isiTI, ok_isiSS, getAt0, getAt1, getAt2, wipeM, List.map_cons, List.map_nil, List.cons_append, List.nil_append, List.append_nil, List.length_cons, List.length_nil, List.length_map, Nat.reduceAdd, Nat.reduceSub, List.replicate_zero, List.replicate_succ, List.getElem?_cons_zero, List.getElem?_cons_succ, List.set_cons_zero, List.set_cons_succ, Option.some.injEq, exists_eq_left', MV.bl.injEq, MV.int.injEq, true_and, and_true, Int.reduceLT, Int.reduceLE, Nat.reduceLT, Nat.reduceLeDiff, decide_true, decide_false, Bool.not_true, Bool.not_false, Bool.false_eq_true, if_true, if_false, reduceIte])
    have hkl : k.toNat < rs.length := by omega
    refine ⟨MV.tup [.int (rs[k.toNat]).1, .tup ((rs[k.toNat]).2.map pr)], by rw [getAt_at hk.1, List.getElem?_map, List.getElem?_eq_getElem hkl]; rfl, ?_⟩
    have hpl : (rs[k.toNat]).2.length ≤ 40 := Nat.le_trans (hs _ (List.getElem_mem hkl)) (by decide)
    generalize (rs[k.toNat]).1 = c
    generalize (rs[k.toNat]).2 = ps at *
    (try simp only [ok_ok, ok_bind, ok_ite, ok_mVar, ok_mC, ok_mOp, ok_mUn, ok_mNil, ok_mCons, ok_mTup, ok_mLst, ok_mCB, ok_mTest, ok_mAnd, ok_mOr, ok_mNot, ok_mIf, ok_mTru, ok_truM_bl, ok_mAndV, ok_mOrV, ok_mNotV, ok_mChain, ok_mNoPart, ok_mPart, ok_mSlice, ok_mBack, ok_mCall, ok_mCallK, ok_mMeth, ok_mIter, ok_mRng1, ok_mRng2, ok_mZip, ok_rng1, ok_rng2, ok_gmName, ok_gmNil, ok_gmCons, ok_gmTup, ok_gmSub, sn_nx, sn_rt, sn_ite, sn_sSeq, sn_sNext, sn_sBreak, sn_sCont, sn_sRetN, sn_sExpr, sn_sRet, sn_sIf, sn_sAsg, sn_sPar, sn_sAug, ok_runD, sn_sFor, ok_mComp, ok_mYes, ok_add, ok_addT, ok_sub, ok_mul, ok_div, ok_mod, ok_pow, ok_lt, ok_le, ok_gt, ok_ge, ok_neg, ok_eqI, ok_neI, ok_isN, ok_notN, ok_ixT, ok_ixF, ok_slT, ok_slF, ok_backT, ok_lenT, ok_lenF, ok_abs, ok_max2, ok_min2, ok_intB, ok_divmod, ok_itT, ok_itF, ok_isiII, ok_isiIB, ok_isiIT, ok_isiTT, ok_isiTI, ok_isiSS, getAt0, getAt1, getAt2, wipeM, List.map_cons, List.map_nil, List.cons_append, List.nil_append, List.append_nil, List.length_cons, List.length_nil, List.length_map, Nat.reduceAdd, Nat.reduceSub, List.replicate_zero, List.replicate_succ, List.getElem?_cons_zero, List.getElem?_cons_succ, List.set_cons_zero, List.set_cons_succ, Option.some.injEq, exists_eq_left', MV.bl.injEq, MV.int.injEq, true_and, and_true, Int.reduceLT, Int.reduceLE, Nat.reduceLT, Nat.reduceLeDiff, decide_true, decide_false, Bool.not_true, Bool.not_false, Bool.false_eq_true, if_true, if_false, reduceIte])
    simp only [cut_hi hk.1, cut_lo hk.1, cut_lo hk1, ← List.map_take, ← List.map_drop, hA, hB, hD]
    refine ⟨by simp; omega, by simp; omega, by simp; omega, isLst_at new_at, ?_⟩
    have z := tail c ps hpl
    simpa using z
  · rw [decide_eq_false g]
    (try simp only [ok_ok, ok_bind, ok_ite, ok_mVar, ok_mC, ok_mOp, ok_mUn, ok_mNil, ok_mCons, ok_mTup, ok_mLst, ok_mCB, ok_mTest, ok_mAnd, ok_mOr, ok_mNot, ok_mIf, ok_mTru, ok_truM_bl, ok_mAndV, ok_mOrV, ok_mNotV, ok_mChain, ok_mNoPart, ok_mPart, ok_mSlice, ok_mBack, ok_mCall, ok_mCallK, ok_mMeth, ok_mIter, ok_mRng1, ok_mRng2, ok_mZip, ok_rng1, ok_rng2, ok_gmName, ok_gmNil, ok_gmCons, ok_gmTup, ok_gmSub, sn_nx, sn_rt, sn_ite, sn_sSeq, sn_sNext, sn_sBreak, sn_sCont, sn_sRetN, sn_sExpr, sn_sRet, sn_sIf, sn_sAsg, sn_sPar, sn_sAug, ok_runD, sn_sFor, ok_mComp, ok_mYes, ok_add, ok_addT, ok_sub, ok_mul, ok_div, ok_mod, ok_pow, ok_lt, ok_le, ok_gt, ok_ge, ok_neg, ok_eqI, ok_neI, ok_isN, ok_notN, ok_ixT, ok_ixF, ok_slT, ok_slF, ok_backT, ok_lenT, ok_lenF, ok_abs, ok_max2, ok_min2, ok_intB, ok_divmod, ok_itT, ok_itF, ok_isiII, ok_isiIB, ok_isiIT, ok_isiTT, ok_isiTI, ok_isiSS, getAt0, getAt1, getAt2, wipeM, List.map_cons, List.map_nil, List.cons_append, List.nil_append, List.append_nil, List.length_cons, List.length_nil, List.length_map, Nat.reduceAdd, Nat.reduceSub, List.replicate_zero, List.replicate_succ, List.getElem?_cons_zero, List.getElem?_cons_succ, List.set_cons_zero, List.set_cons_succ, Option.some.injEq, exists_eq_left', MV.bl.injEq, MV.int.injEq, true_and, and_true, Int.reduceLT, Int.reduceLE, Nat.reduceLT, Nat.reduceLeDiff, decide_true, decide_false, Bool.not_true, Bool.not_false, Bool.false_eq_true, if_true, if_false, reduceIte])
    simp only [cut_hi hk.1, cut_lo hk.1, cut_lo hk1, ← List.map_take, ← List.map_drop, hA, hB, hD]
    refine ⟨by simp; omega, by simp; omega, by simp; omega, isLst_at new_at, ?_⟩
    have z := tail 1 [] (by decide)
    simpa using z
end K74

namespace K74
open Cutp
open PySem (Str)
theorem reel_scale {cs : List Int} {size f : Int} (RL : Reel cs size) (hf : 1 ≤ f) : Cuts (cs.map (· * f)) ∧ (∀ c ∈ cs.map (· * f), c ≤ size * f - 1) ∧ (cs.map (· * f)).length ≤ 200 := by
  refine ⟨⟨?_, fun c hc => ?_, ?_⟩, fun c hc => ?_, ?_⟩
  · rw [List.pairwise_map]
    exact RL.C.lt.imp fun {a b} h => Int.mul_lt_mul_of_pos_right h (by omega)
  · obtain ⟨x, hx, rfl⟩ := List.mem_map.mp hc
    have h1 := RL.C.pos x hx
    have : 1 * 1 ≤ x * f := Int.mul_le_mul h1 hf (by omega) (by omega)
    omega
  · rw [List.length_map]
    exact RL.C.len
  · obtain ⟨x, hx, rfl⟩ := List.mem_map.mp hc
    have h1 := RL.top x hx
    have h2 : x * f ≤ (size - 1) * f := Int.mul_le_mul_of_nonneg_right h1 (by omega)
    rw [Int.sub_mul] at h2
    omega
  · rw [List.length_map]
    have := RL.few
    omega
theorem right_ok {p : Nat} {h : Hm} (P : Pool p 0 h) : Ok (m__law_right [.ref p] h) fun v _ => v = .bl true := by
  unfold m__law_right b__law_right
  simp only [ok_ok, ok_bind, ok_ite, ok_mVar, ok_mC, ok_mOp, ok_mUn, ok_mNil, ok_mCons, ok_mTup, ok_mLst, ok_mCB, ok_mTest, ok_mAnd, ok_mOr, ok_mNot, ok_mIf, ok_mTru, ok_truM_bl, ok_mAndV, ok_mOrV, ok_mNotV, ok_mChain, ok_mNoPart, ok_mPart, ok_mSlice, ok_mBack, ok_mCall, ok_mCallK, ok_mMeth, ok_mIter, ok_mRng1, ok_mRng2, ok_mZip, ok_rng1, ok_rng2, ok_gmName, ok_gmNil, ok_gmCons, ok_gmTup, ok_gmSub, sn_nx, sn_rt, sn_ite, sn_sSeq, sn_sNext, sn_sBreak, sn_sCont, sn_sRetN, sn_sExpr, sn_sRet, sn_sIf, sn_sAsg, sn_sPar, sn_sAug, ok_runD, sn_sFor, ok_mComp, ok_mYes, ok_add, ok_addT, ok_sub, ok_mul, ok_div, ok_mod, ok_pow, ok_lt, ok_le, ok_gt, ok_ge, ok_neg, ok_eqI, ok_neI, ok_isN, ok_notN, ok_ixT, ok_ixF, ok_slT, ok_slF, ok_backT, ok_lenT, ok_lenF, ok_abs, ok_max2, ok_min2, ok_intB, ok_divmod, ok_itT, ok_itF, ok_isiII, ok_isiIB, ok_isiIT, ok_isiTT, ok_isiTI, ok_isiSS, getAt0, getAt1, getAt2, wipeM, List.map_cons, List.map_nil, List.cons_append, List.nil_append, List.append_nil, List.length_cons, List.length_nil, List.length_map, Nat.reduceAdd, Nat.reduceSub, List.replicate_zero, List.replicate_succ, List.getElem?_cons_zero, List.getElem?_cons_succ, List.set_cons_zero, List.set_cons_succ, Option.some.injEq, exists_eq_left', MV.bl.injEq, MV.int.injEq, true_and, and_true, Int.reduceLT, Int.reduceLE, Nat.reduceLT, Nat.reduceLeDiff, decide_true, decide_false, Bool.not_true, Bool.not_false, Bool.false_eq_true, if_true, if_false, reduceIte]
  refine (draw_ok P (by decide) (by decide) (by decide)).mono fun v h1 ⟨d, e, hd, P1, K1⟩ => ?_
  subst e
  (try simp only [ok_ok, ok_bind, ok_ite, ok_mVar, ok_mC, ok_mOp, ok_mUn, ok_mNil, ok_mCons, ok_mTup, ok_mLst, ok_mCB, ok_mTest, ok_mAnd, ok_mOr, ok_mNot, ok_mIf, ok_mTru, ok_truM_bl, ok_mAndV, ok_mOrV, ok_mNotV, ok_mChain, ok_mNoPart, ok_mPart, ok_mSlice, ok_mBack, ok_mCall, ok_mCallK, ok_mMeth, ok_mIter, ok_mRng1, ok_mRng2, ok_mZip, ok_rng1, ok_rng2, ok_gmName, ok_gmNil, ok_gmCons, ok_gmTup, ok_gmSub, sn_nx, sn_rt, sn_ite, sn_sSeq, sn_sNext, sn_sBreak, sn_sCont, sn_sRetN, sn_sExpr, sn_sRet, sn_sIf, sn_sAsg, sn_sPar, sn_sAug, ok_runD, sn_sFor, ok_mComp, ok_mYes, ok_add, ok_addT, ok_sub, ok_mul, ok_div, ok_mod, ok_pow, ok_lt, ok_le, ok_gt, ok_ge, ok_neg, ok_eqI, ok_neI, ok_isN, ok_notN, ok_ixT, ok_ixF, ok_slT, ok_slF, ok_backT, ok_lenT, ok_lenF, ok_abs, ok_max2, ok_min2, ok_intB, ok_divmod, ok_itT, ok_itF, ok_isiII, ok_isiIB, ok_isiIT, ok_isiTT, ok_isiTI, ok_isiSS, getAt0, getAt1, getAt2, wipeM, List.map_cons, List.map_nil, List.cons_append, List.nil_append, List.append_nil, List.length_cons, List.length_nil, List.length_map, Nat.reduceAdd, Nat.reduceSub, List.replicate_zero, List.replicate_succ, List.getElem?_cons_zero, List.getElem?_cons_succ, List.set_cons_zero, List.set_cons_succ, Option.some.injEq, exists_eq_left', MV.bl.injEq, MV.int.injEq, true_and, and_true, Int.reduceLT, Int.reduceLE, Nat.reduceLT, Nat.reduceLeDiff, decide_true, decide_false, Bool.not_true, Bool.not_false, Bool.false_eq_true, if_true, if_false, reduceIte])
  generalize hs : 1 + d = size
  have hs' : 1 ≤ size ∧ size ≤ 16 := by omega
  clear hs hd
  refine (spots_ok P1 (by decide) hs'.1 hs'.2).mono fun v h2 ⟨cs, e, RL, P2, K2⟩ => ?_
  subst e
  (try simp only [ok_ok, ok_bind, ok_ite, ok_mVar, ok_mC, ok_mOp, ok_mUn, ok_mNil, ok_mCons, ok_mTup, ok_mLst, ok_mCB, ok_mTest, ok_mAnd, ok_mOr, ok_mNot, ok_mIf, ok_mTru, ok_truM_bl, ok_mAndV, ok_mOrV, ok_mNotV, ok_mChain, ok_mNoPart, ok_mPart, ok_mSlice, ok_mBack, ok_mCall, ok_mCallK, ok_mMeth, ok_mIter, ok_mRng1, ok_mRng2, ok_mZip, ok_rng1, ok_rng2, ok_gmName, ok_gmNil, ok_gmCons, ok_gmTup, ok_gmSub, sn_nx, sn_rt, sn_ite, sn_sSeq, sn_sNext, sn_sBreak, sn_sCont, sn_sRetN, sn_sExpr, sn_sRet, sn_sIf, sn_sAsg, sn_sPar, sn_sAug, ok_runD, sn_sFor, ok_mComp, ok_mYes, ok_add, ok_addT, ok_sub, ok_mul, ok_div, ok_mod, ok_pow, ok_lt, ok_le, ok_gt, ok_ge, ok_neg, ok_eqI, ok_neI, ok_isN, ok_notN, ok_ixT, ok_ixF, ok_slT, ok_slF, ok_backT, ok_lenT, ok_lenF, ok_abs, ok_max2, ok_min2, ok_intB, ok_divmod, ok_itT, ok_itF, ok_isiII, ok_isiIB, ok_isiIT, ok_isiTT, ok_isiTI, ok_isiSS, getAt0, getAt1, getAt2, wipeM, List.map_cons, List.map_nil, List.cons_append, List.nil_append, List.append_nil, List.length_cons, List.length_nil, List.length_map, Nat.reduceAdd, Nat.reduceSub, List.replicate_zero, List.replicate_succ, List.getElem?_cons_zero, List.getElem?_cons_succ, List.set_cons_zero, List.set_cons_succ, Option.some.injEq, exists_eq_left', MV.bl.injEq, MV.int.injEq, true_and, and_true, Int.reduceLT, Int.reduceLE, Nat.reduceLT, Nat.reduceLeDiff, decide_true, decide_false, Bool.not_true, Bool.not_false, Bool.false_eq_true, if_true, if_false, reduceIte])
  refine ⟨by decide, by decide, ?_⟩
  have P3 := P2.gr (Gr.one h2 (MO.lst ([1, 1, 5, 10 ^ (6 : Int).toNat, 10 ^ (13 : Int).toNat].map MV.int)))
  have hF : (h2 ++ [MO.lst ([1, 1, 5, 10 ^ (6 : Int).toNat, 10 ^ (13 : Int).toNat].map MV.int)])[h2.length]? = some (.lst ([1, 1, 5, 10 ^ (6 : Int).toNat, 10 ^ (13 : Int).toNat].map MV.int)) := new_at
  have hp2 : h2.length ≠ p := Nat.ne_of_gt P2.lt
  refine (draw_ok P3 (by decide) (by decide) (by decide)).mono fun v h4 ⟨d, e, hd, P4, K4⟩ => ?_
  subst e
  rw [ok_ixL (K4.get hF hp2)]
  have hfx : ∃ f : Int, getAt ([1, 1, 5, 10 ^ (6 : Int).toNat, 10 ^ (13 : Int).toNat].map MV.int) d = some (.int f) ∧ 1 ≤ f ∧ f ≤ 10000000000000 := by
    have : d = 0 ∨ d = 1 ∨ d = 2 ∨ d = 3 ∨ d = 4 := by omega
    rcases this with rfl | rfl | rfl | rfl | rfl <;> exact ⟨_, getAt_at (by decide), by decide, by decide⟩
  obtain ⟨f, hf, hf1, hf2⟩ := hfx
  refine ⟨.int f, hf, ?_⟩
  (try simp only [ok_ok, ok_bind, ok_ite, ok_mVar, ok_mC, ok_mOp, ok_mUn, ok_mNil, ok_mCons, ok_mTup, ok_mLst, ok_mCB, ok_mTest, ok_mAnd, ok_mOr, ok_mNot, ok_mIf, ok_mTru, ok_truM_bl, ok_mAndV, ok_mOrV, ok_mNotV, ok_mChain, ok_mNoPart, ok_mPart, ok_mSlice, ok_mBack, ok_mCall, ok_mCallK, ok_mMeth, ok_mIter, ok_mRng1, ok_mRng2, ok_mZip, ok_rng1, ok_rng2, ok_gmName, ok_gmNil, ok_gmCons, ok_gmTup, ok_gmSub, sn_nx, sn_rt, sn_ite, sn_sSeq, sn_sNext, sn_sBreak, sn_sCont, sn_sRetN, sn_sExpr, sn_sRet, sn_sIf, sn_sAsg, sn_sPar, sn_sAug, ok_runD, sn_sFor, ok_mComp, ok_mYes, ok_add, ok_addT, ok_sub, ok_mul, ok_div, ok_mod, ok_pow, ok_lt, ok_le, ok_gt, ok_ge, ok_neg, ok_eqI, ok_neI, ok_isN, ok_notN, ok_ixT, ok_ixF, ok_slT, ok_slF, ok_backT, ok_lenT, ok_lenF, ok_abs, ok_max2, ok_min2, ok_intB, ok_divmod, ok_itT, ok_itF, ok_isiII, ok_isiIB, ok_isiIT, ok_isiTT, ok_isiTI, ok_isiSS, getAt0, getAt1, getAt2, wipeM, List.map_cons, List.map_nil, List.cons_append, List.nil_append, List.append_nil, List.length_cons, List.length_nil, List.length_map, Nat.reduceAdd, Nat.reduceSub, List.replicate_zero, List.replicate_succ, List.getElem?_cons_zero, List.getElem?_cons_succ, List.set_cons_zero, List.set_cons_succ, Option.some.injEq, exists_eq_left', MV.bl.injEq, MV.int.injEq, true_and, and_true, Int.reduceLT, Int.reduceLE, Nat.reduceLT, Nat.reduceLeDiff, decide_true, decide_false, Bool.not_true, Bool.not_false, Bool.false_eq_true, if_true, if_false, reduceIte])
  clear hf hd hF hp2 K4 K2 K1 P3 P2 P1 P
  obtain ⟨C, hct, hcl⟩ := reel_scale RL hf1
  refine comp_pure (cs.map .int) (fun _ => true) (fun v => match v with | .int c => .int (c * f) | v => v) (by rw [List.length_map]; have := RL.few; omega) (fun i => rfl) (fun v hv => ?_) ?_
  · obtain ⟨c, hc, rfl⟩ := List.mem_map.mp hv
    have := RL.C.pos c hc
    have := RL.top c hc
    simp only [ok_ok, ok_bind, ok_ite, ok_mVar, ok_mC, ok_mOp, ok_mUn, ok_mNil, ok_mCons, ok_mTup, ok_mLst, ok_mCB, ok_mTest, ok_mAnd, ok_mOr, ok_mNot, ok_mIf, ok_mTru, ok_truM_bl, ok_mAndV, ok_mOrV, ok_mNotV, ok_mChain, ok_mNoPart, ok_mPart, ok_mSlice, ok_mBack, ok_mCall, ok_mCallK, ok_mMeth, ok_mIter, ok_mRng1, ok_mRng2, ok_mZip, ok_rng1, ok_rng2, ok_gmName, ok_gmNil, ok_gmCons, ok_gmTup, ok_gmSub, sn_nx, sn_rt, sn_ite, sn_sSeq, sn_sNext, sn_sBreak, sn_sCont, sn_sRetN, sn_sExpr, sn_sRet, sn_sIf, sn_sAsg, sn_sPar, sn_sAug, ok_runD, sn_sFor, ok_mComp, ok_mYes, ok_add, ok_addT, ok_sub, ok_mul, ok_div, ok_mod, ok_pow, ok_lt, ok_le, ok_gt, ok_ge, ok_neg, ok_eqI, ok_neI, ok_isN, ok_notN, ok_ixT, ok_ixF, ok_slT, ok_slF, ok_backT, ok_lenT, ok_lenF, ok_abs, ok_max2, ok_min2, ok_intB, ok_divmod, ok_itT, ok_itF, ok_isiII, ok_isiIB, ok_isiIT, ok_isiTT, ok_isiTI, ok_isiSS, getAt0, getAt1, getAt2, wipeM, List.map_cons, List.map_nil, List.cons_append, List.nil_append, List.append_nil, List.length_cons, List.length_nil, List.length_map, Nat.reduceAdd, Nat.reduceSub, List.replicate_zero, List.replicate_succ, List.getElem?_cons_zero, List.getElem?_cons_succ, List.set_cons_zero, List.set_cons_succ, Option.some.injEq, exists_eq_left', MV.bl.injEq, MV.int.injEq, true_and, and_true, Int.reduceLT, Int.reduceLE, Nat.reduceLT, Nat.reduceLeDiff, decide_true, decide_false, Bool.not_true, Bool.not_false, Bool.false_eq_true, if_true, if_false, reduceIte]
    exact fun _ => mul_ok (by omega) (by omega)
  have ef : (((cs.map MV.int).filter fun _ => true).map fun v => match v with | .int c => .int (c * f) | v => v) = (cs.map (· * f)).map MV.int := by
    rw [List.filter_eq_self.mpr (by intros; rfl), List.map_map, List.map_map]
    rfl
  rw [ef]
  have P5 := P4.gr (Gr.one h4 (MO.lst ((cs.map (· * f)).map MV.int)))
  rw [ok_tupleL new_at]
  generalize h4 ++ [MO.lst ((cs.map (· * f)).map MV.int)] = h5 at *
  have sf := mul_ok (i := size) (j := f) (by omega) (by omega)
  have hL : 1 ≤ size * f ∧ size * f ≤ 1000000000000000 := by
    have a1 : 1 * 1 ≤ size * f := Int.mul_le_mul hs'.1 hf1 (by omega) (by omega)
    have a2 : size * f ≤ 16 * f := Int.mul_le_mul_of_nonneg_right hs'.2 (by omega)
    omega
  generalize hcs : cs.map (· * f) = ls at *
  generalize hLL : size * f = L at *
  (try simp only [ok_ok, ok_bind, ok_ite, ok_mVar, ok_mC, ok_mOp, ok_mUn, ok_mNil, ok_mCons, ok_mTup, ok_mLst, ok_mCB, ok_mTest, ok_mAnd, ok_mOr, ok_mNot, ok_mIf, ok_mTru, ok_truM_bl, ok_mAndV, ok_mOrV, ok_mNotV, ok_mChain, ok_mNoPart, ok_mPart, ok_mSlice, ok_mBack, ok_mCall, ok_mCallK, ok_mMeth, ok_mIter, ok_mRng1, ok_mRng2, ok_mZip, ok_rng1, ok_rng2, ok_gmName, ok_gmNil, ok_gmCons, ok_gmTup, ok_gmSub, sn_nx, sn_rt, sn_ite, sn_sSeq, sn_sNext, sn_sBreak, sn_sCont, sn_sRetN, sn_sExpr, sn_sRet, sn_sIf, sn_sAsg, sn_sPar, sn_sAug, ok_runD, sn_sFor, ok_mComp, ok_mYes, ok_add, ok_addT, ok_sub, ok_mul, ok_div, ok_mod, ok_pow, ok_lt, ok_le, ok_gt, ok_ge, ok_neg, ok_eqI, ok_neI, ok_isN, ok_notN, ok_ixT, ok_ixF, ok_slT, ok_slF, ok_backT, ok_lenT, ok_lenF, ok_abs, ok_max2, ok_min2, ok_intB, ok_divmod, ok_itT, ok_itF, ok_isiII, ok_isiIB, ok_isiIT, ok_isiTT, ok_isiTI, ok_isiSS, getAt0, getAt1, getAt2, wipeM, List.map_cons, List.map_nil, List.cons_append, List.nil_append, List.append_nil, List.length_cons, List.length_nil, List.length_map, Nat.reduceAdd, Nat.reduceSub, List.replicate_zero, List.replicate_succ, List.getElem?_cons_zero, List.getElem?_cons_succ, List.set_cons_zero, List.set_cons_succ, Option.some.injEq, exists_eq_left', MV.bl.injEq, MV.int.injEq, true_and, and_true, Int.reduceLT, Int.reduceLE, Nat.reduceLT, Nat.reduceLeDiff, decide_true, decide_false, Bool.not_true, Bool.not_false, Bool.false_eq_true, if_true, if_false, reduceIte, hLL])
  refine ⟨by decide, ?_⟩
  -- judged, a due answer at hand
  have J : ∀ (rs : List (Int × List (Int × Int))) (m : Int) (due : MV) (h6 : Hm), rs.length ≤ 1000 → (∀ x ∈ rs, x.2.length ≤ 1000) → IsB (Al L ls m rs) due →
      Ok (m__law_judged [.tup [.str "at least", .int L, .tup (ls.map .int), .int m], .tup (rs.map pq), due] h6) fun v h7 => v = .bl true ∧ Gr h6 h7 := fun rs m due h6 hr hp D =>
    judged_ok (fun h1 g1 => accepts_ok C hL hct hcl hr hp) D
  refine for_ok ((rngL 0 6).map .int) (fun i ρ h' => ∃ y5 y6 y7 y8 y9 y10 y11 : Option MV, ρ = [some (.ref p), some (.int size), some (.tup (cs.map .int)), some (.int f), some (.tup (ls.map .int)), y5, y6, y7, y8, y9, y10, y11] ∧ Pool p (32 + 400 * i) h' ∧ i ≤ 6)
    (by rw [List.length_map, rngL_len]; decide) ⟨_, _, _, _, _, _, _, rfl, P5.le (by decide), by decide⟩ (fun i ρ h' q => itRng_at) (fun i v hv ρ h' I => ?_) (fun ρ h' I => ?_)
  · obtain ⟨turn, ho, rfl, b1, b2⟩ := rng_get hv
    obtain ⟨y5, y6, y7, y8, y9, y10, y11, rfl, P6, hi⟩ := I
    have hil := (List.getElem?_eq_some_iff.mp ho).1
    rw [rngL_len] at hil
    simp only [ok_ok, ok_bind, ok_ite, ok_mVar, ok_mC, ok_mOp, ok_mUn, ok_mNil, ok_mCons, ok_mTup, ok_mLst, ok_mCB, ok_mTest, ok_mAnd, ok_mOr, ok_mNot, ok_mIf, ok_mTru, ok_truM_bl, ok_mAndV, ok_mOrV, ok_mNotV, ok_mChain, ok_mNoPart, ok_mPart, ok_mSlice, ok_mBack, ok_mCall, ok_mCallK, ok_mMeth, ok_mIter, ok_mRng1, ok_mRng2, ok_mZip, ok_rng1, ok_rng2, ok_gmName, ok_gmNil, ok_gmCons, ok_gmTup, ok_gmSub, sn_nx, sn_rt, sn_ite, sn_sSeq, sn_sNext, sn_sBreak, sn_sCont, sn_sRetN, sn_sExpr, sn_sRet, sn_sIf, sn_sAsg, sn_sPar, sn_sAug, ok_runD, sn_sFor, ok_mComp, ok_mYes, ok_add, ok_addT, ok_sub, ok_mul, ok_div, ok_mod, ok_pow, ok_lt, ok_le, ok_gt, ok_ge, ok_neg, ok_eqI, ok_neI, ok_isN, ok_notN, ok_ixT, ok_ixF, ok_slT, ok_slF, ok_backT, ok_lenT, ok_lenF, ok_abs, ok_max2, ok_min2, ok_intB, ok_divmod, ok_itT, ok_itF, ok_isiII, ok_isiIB, ok_isiIT, ok_isiTT, ok_isiTI, ok_isiSS, getAt0, getAt1, getAt2, wipeM, List.map_cons, List.map_nil, List.cons_append, List.nil_append, List.append_nil, List.length_cons, List.length_nil, List.length_map, Nat.reduceAdd, Nat.reduceSub, List.replicate_zero, List.replicate_succ, List.getElem?_cons_zero, List.getElem?_cons_succ, List.set_cons_zero, List.set_cons_succ, Option.some.injEq, exists_eq_left', MV.bl.injEq, MV.int.injEq, true_and, and_true, Int.reduceLT, Int.reduceLE, Nat.reduceLT, Nat.reduceLeDiff, decide_true, decide_false, Bool.not_true, Bool.not_false, Bool.false_eq_true, if_true, if_false, reduceIte]
    refine (parts_ok P6 (by omega) RL hs').mono fun v h6 ⟨rs0, e, hr0, hsm, P7, K7⟩ => ?_
    subst e
    (try simp only [ok_ok, ok_bind, ok_ite, ok_mVar, ok_mC, ok_mOp, ok_mUn, ok_mNil, ok_mCons, ok_mTup, ok_mLst, ok_mCB, ok_mTest, ok_mAnd, ok_mOr, ok_mNot, ok_mIf, ok_mTru, ok_truM_bl, ok_mAndV, ok_mOrV, ok_mNotV, ok_mChain, ok_mNoPart, ok_mPart, ok_mSlice, ok_mBack, ok_mCall, ok_mCallK, ok_mMeth, ok_mIter, ok_mRng1, ok_mRng2, ok_mZip, ok_rng1, ok_rng2, ok_gmName, ok_gmNil, ok_gmCons, ok_gmTup, ok_gmSub, sn_nx, sn_rt, sn_ite, sn_sSeq, sn_sNext, sn_sBreak, sn_sCont, sn_sRetN, sn_sExpr, sn_sRet, sn_sIf, sn_sAsg, sn_sPar, sn_sAug, ok_runD, sn_sFor, ok_mComp, ok_mYes, ok_add, ok_addT, ok_sub, ok_mul, ok_div, ok_mod, ok_pow, ok_lt, ok_le, ok_gt, ok_ge, ok_neg, ok_eqI, ok_neI, ok_isN, ok_notN, ok_ixT, ok_ixF, ok_slT, ok_slF, ok_backT, ok_lenT, ok_lenF, ok_abs, ok_max2, ok_min2, ok_intB, ok_divmod, ok_itT, ok_itF, ok_isiII, ok_isiIB, ok_isiIT, ok_isiTT, ok_isiTI, ok_isiSS, getAt0, getAt1, getAt2, wipeM, List.map_cons, List.map_nil, List.cons_append, List.nil_append, List.append_nil, List.length_cons, List.length_nil, List.length_map, Nat.reduceAdd, Nat.reduceSub, List.replicate_zero, List.replicate_succ, List.getElem?_cons_zero, List.getElem?_cons_succ, List.set_cons_zero, List.set_cons_succ, Option.some.injEq, exists_eq_left', MV.bl.injEq, MV.int.injEq, true_and, and_true, Int.reduceLT, Int.reduceLE, Nat.reduceLT, Nat.reduceLeDiff, decide_true, decide_false, Bool.not_true, Bool.not_false, Bool.false_eq_true, if_true, if_false, reduceIte])
    refine (times_ok P7 hr0 hsm ⟨hf1, hf2⟩).mono fun v h7 ⟨rs, e, hr, hrs, P8, K8⟩ => ?_
    subst e
    (try simp only [ok_ok, ok_bind, ok_ite, ok_mVar, ok_mC, ok_mOp, ok_mUn, ok_mNil, ok_mCons, ok_mTup, ok_mLst, ok_mCB, ok_mTest, ok_mAnd, ok_mOr, ok_mNot, ok_mIf, ok_mTru, ok_truM_bl, ok_mAndV, ok_mOrV, ok_mNotV, ok_mChain, ok_mNoPart, ok_mPart, ok_mSlice, ok_mBack, ok_mCall, ok_mCallK, ok_mMeth, ok_mIter, ok_mRng1, ok_mRng2, ok_mZip, ok_rng1, ok_rng2, ok_gmName, ok_gmNil, ok_gmCons, ok_gmTup, ok_gmSub, sn_nx, sn_rt, sn_ite, sn_sSeq, sn_sNext, sn_sBreak, sn_sCont, sn_sRetN, sn_sExpr, sn_sRet, sn_sIf, sn_sAsg, sn_sPar, sn_sAug, ok_runD, sn_sFor, ok_mComp, ok_mYes, ok_add, ok_addT, ok_sub, ok_mul, ok_div, ok_mod, ok_pow, ok_lt, ok_le, ok_gt, ok_ge, ok_neg, ok_eqI, ok_neI, ok_isN, ok_notN, ok_ixT, ok_ixF, ok_slT, ok_slF, ok_backT, ok_lenT, ok_lenF, ok_abs, ok_max2, ok_min2, ok_intB, ok_divmod, ok_itT, ok_itF, ok_isiII, ok_isiIB, ok_isiIT, ok_isiTT, ok_isiTI, ok_isiSS, getAt0, getAt1, getAt2, wipeM, List.map_cons, List.map_nil, List.cons_append, List.nil_append, List.append_nil, List.length_cons, List.length_nil, List.length_map, Nat.reduceAdd, Nat.reduceSub, List.replicate_zero, List.replicate_succ, List.getElem?_cons_zero, List.getElem?_cons_succ, List.set_cons_zero, List.set_cons_succ, Option.some.injEq, exists_eq_left', MV.bl.injEq, MV.int.injEq, true_and, and_true, Int.reduceLT, Int.reduceLE, Nat.reduceLT, Nat.reduceLeDiff, decide_true, decide_false, Bool.not_true, Bool.not_false, Bool.false_eq_true, if_true, if_false, reduceIte])
    refine (bent_ok P8 (by omega) hr hrs).mono fun v h8 ⟨qs, e, hq, hqs, P9, K9⟩ => ?_
    subst e
    (try simp only [ok_ok, ok_bind, ok_ite, ok_mVar, ok_mC, ok_mOp, ok_mUn, ok_mNil, ok_mCons, ok_mTup, ok_mLst, ok_mCB, ok_mTest, ok_mAnd, ok_mOr, ok_mNot, ok_mIf, ok_mTru, ok_truM_bl, ok_mAndV, ok_mOrV, ok_mNotV, ok_mChain, ok_mNoPart, ok_mPart, ok_mSlice, ok_mBack, ok_mCall, ok_mCallK, ok_mMeth, ok_mIter, ok_mRng1, ok_mRng2, ok_mZip, ok_rng1, ok_rng2, ok_gmName, ok_gmNil, ok_gmCons, ok_gmTup, ok_gmSub, sn_nx, sn_rt, sn_ite, sn_sSeq, sn_sNext, sn_sBreak, sn_sCont, sn_sRetN, sn_sExpr, sn_sRet, sn_sIf, sn_sAsg, sn_sPar, sn_sAug, ok_runD, sn_sFor, ok_mComp, ok_mYes, ok_add, ok_addT, ok_sub, ok_mul, ok_div, ok_mod, ok_pow, ok_lt, ok_le, ok_gt, ok_ge, ok_neg, ok_eqI, ok_neI, ok_isN, ok_notN, ok_ixT, ok_ixF, ok_slT, ok_slF, ok_backT, ok_lenT, ok_lenF, ok_abs, ok_max2, ok_min2, ok_intB, ok_divmod, ok_itT, ok_itF, ok_isiII, ok_isiIB, ok_isiIT, ok_isiTT, ok_isiTI, ok_isiSS, getAt0, getAt1, getAt2, wipeM, List.map_cons, List.map_nil, List.cons_append, List.nil_append, List.append_nil, List.length_cons, List.length_nil, List.length_map, Nat.reduceAdd, Nat.reduceSub, List.replicate_zero, List.replicate_succ, List.getElem?_cons_zero, List.getElem?_cons_succ, List.set_cons_zero, List.set_cons_succ, Option.some.injEq, exists_eq_left', MV.bl.injEq, MV.int.injEq, true_and, and_true, Int.reduceLT, Int.reduceLE, Nat.reduceLT, Nat.reduceLeDiff, decide_true, decide_false, Bool.not_true, Bool.not_false, Bool.false_eq_true, if_true, if_false, reduceIte])
    rw [ok_itL new_at]
    have hA : (h8 ++ [MO.lst [.tup (rs.map pq), .tup (qs.map pq)]])[h8.length]? = some (.lst [.tup (rs.map pq), .tup (qs.map pq)]) := new_at
    have P10 := P9.gr (Gr.one h8 (MO.lst [.tup (rs.map pq), .tup (qs.map pq)]))
    have hAp : h8.length ≠ p := Nat.ne_of_gt P9.lt
    generalize h8 ++ [MO.lst [.tup (rs.map pq), .tup (qs.map pq)]] = h9 at *
    generalize h8.length = a at *
    refine for_ok [.tup (rs.map pq), .tup (qs.map pq)] (fun j ρ h' => ∃ y7 y8 y9 y10 y11 : Option MV, ρ = [some (.ref p), some (.int size), some (.tup (cs.map .int)), some (.int f), some (.tup (ls.map .int)), some (.int turn), some (.tup (rs.map pq)), y7, y8, y9, y10, y11] ∧
      h'[a]? = some (.lst [.tup (rs.map pq), .tup (qs.map pq)]) ∧ Pool p (32 + 400 * i + 160 + j) h' ∧ j ≤ 2) (show (2 : Nat) ≤ 10 ^ 39 by decide) ⟨_, _, _, _, _, rfl, hA, P10.le (by omega), by decide⟩ (fun j ρ h' q => by
        obtain ⟨_, _, _, _, _, _, q, _⟩ := q
        exact itLst_at q) (fun j v hv ρ h' I => ?_) (fun ρ h' I => ?_)
    · have hx : ∃ us : List (Int × List (Int × Int)), v = .tup (us.map pq) ∧ us.length ≤ 200 ∧ (∀ x ∈ us, x.2.length ≤ 1000) ∧ j < 2 := by
        have hj := (List.getElem?_eq_some_iff.mp hv).1
        have hj' : j < 2 := hj
        have : j = 0 ∨ j = 1 := by omega
        rcases this with rfl | rfl
        · cases hv
          exact ⟨rs, rfl, by omega, fun x hx => Nat.le_trans (hrs x hx) (by decide), by decide⟩
        · cases hv
          exact ⟨qs, rfl, by omega, fun x hx => Nat.le_trans (hqs x hx) (by decide), by decide⟩
      obtain ⟨us, rfl, hus, hux, hj⟩ := hx
      obtain ⟨y7, y8, y9, y10, y11, rfl, hA2, P11, _⟩ := I
      simp only [ok_ok, ok_bind, ok_ite, ok_mVar, ok_mC, ok_mOp, ok_mUn, ok_mNil, ok_mCons, ok_mTup, ok_mLst, ok_mCB, ok_mTest, ok_mAnd, ok_mOr, ok_mNot, ok_mIf, ok_mTru, ok_truM_bl, ok_mAndV, ok_mOrV, ok_mNotV, ok_mChain, ok_mNoPart, ok_mPart, ok_mSlice, ok_mBack, ok_mCall, ok_mCallK, ok_mMeth, ok_mIter, ok_mRng1, ok_mRng2, ok_mZip, ok_rng1, ok_rng2, ok_gmName, ok_gmNil, ok_gmCons, ok_gmTup, ok_gmSub, sn_nx, sn_rt, sn_ite, sn_sSeq, sn_sNext, sn_sBreak, sn_sCont, sn_sRetN, sn_sExpr, sn_sRet, sn_sIf, sn_sAsg, sn_sPar, sn_sAug, ok_runD, sn_sFor, ok_mComp, ok_mYes, ok_add, ok_addT, ok_sub, ok_mul, ok_div, ok_mod, ok_pow, ok_lt, ok_le, ok_gt, ok_ge, ok_neg, ok_eqI, ok_neI, ok_isN, ok_notN, ok_ixT, ok_ixF, ok_slT, ok_slF, ok_backT, ok_lenT, ok_lenF, ok_abs, ok_max2, ok_min2, ok_intB, ok_divmod, ok_itT, ok_itF, ok_isiII, ok_isiIB, ok_isiIT, ok_isiTT, ok_isiTI, ok_isiSS, getAt0, getAt1, getAt2, wipeM, List.map_cons, List.map_nil, List.cons_append, List.nil_append, List.append_nil, List.length_cons, List.length_nil, List.length_map, Nat.reduceAdd, Nat.reduceSub, List.replicate_zero, List.replicate_succ, List.getElem?_cons_zero, List.getElem?_cons_succ, List.set_cons_zero, List.set_cons_succ, Option.some.injEq, exists_eq_left', MV.bl.injEq, MV.int.injEq, true_and, and_true, Int.reduceLT, Int.reduceLE, Nat.reduceLT, Nat.reduceLeDiff, decide_true, decide_false, Bool.not_true, Bool.not_false, Bool.false_eq_true, if_true, if_false, reduceIte, hLL]
      refine ⟨sf, ?_⟩
      refine (holds_ok C.len (by omega) hux).mono fun v h10 ⟨g3, hb⟩ => ?_
      obtain ⟨bh, e, hbh⟩ := hb
      subst e
      (try simp only [ok_ok, ok_bind, ok_ite, ok_mVar, ok_mC, ok_mOp, ok_mUn, ok_mNil, ok_mCons, ok_mTup, ok_mLst, ok_mCB, ok_mTest, ok_mAnd, ok_mOr, ok_mNot, ok_mIf, ok_mTru, ok_truM_bl, ok_mAndV, ok_mOrV, ok_mNotV, ok_mChain, ok_mNoPart, ok_mPart, ok_mSlice, ok_mBack, ok_mCall, ok_mCallK, ok_mMeth, ok_mIter, ok_mRng1, ok_mRng2, ok_mZip, ok_rng1, ok_rng2, ok_gmName, ok_gmNil, ok_gmCons, ok_gmTup, ok_gmSub, sn_nx, sn_rt, sn_ite, sn_sSeq, sn_sNext, sn_sBreak, sn_sCont, sn_sRetN, sn_sExpr, sn_sRet, sn_sIf, sn_sAsg, sn_sPar, sn_sAug, ok_runD, sn_sFor, ok_mComp, ok_mYes, ok_add, ok_addT, ok_sub, ok_mul, ok_div, ok_mod, ok_pow, ok_lt, ok_le, ok_gt, ok_ge, ok_neg, ok_eqI, ok_neI, ok_isN, ok_notN, ok_ixT, ok_ixF, ok_slT, ok_slF, ok_backT, ok_lenT, ok_lenF, ok_abs, ok_max2, ok_min2, ok_intB, ok_divmod, ok_itT, ok_itF, ok_isiII, ok_isiIB, ok_isiIT, ok_isiTT, ok_isiTI, ok_isiSS, getAt0, getAt1, getAt2, wipeM, List.map_cons, List.map_nil, List.cons_append, List.nil_append, List.append_nil, List.length_cons, List.length_nil, List.length_map, Nat.reduceAdd, Nat.reduceSub, List.replicate_zero, List.replicate_succ, List.getElem?_cons_zero, List.getElem?_cons_succ, List.set_cons_zero, List.set_cons_succ, Option.some.injEq, exists_eq_left', MV.bl.injEq, MV.int.injEq, true_and, and_true, Int.reduceLT, Int.reduceLE, Nat.reduceLT, Nat.reduceLeDiff, decide_true, decide_false, Bool.not_true, Bool.not_false, Bool.false_eq_true, if_true, if_false, reduceIte])
      have P12 := P11.gr g3
      refine (draw_ok P12 (by omega) (by decide) (by decide)).mono fun v h11 ⟨d, e, hd, P13, K13⟩ => ?_
      subst e
      (try simp only [ok_ok, ok_bind, ok_ite, ok_mVar, ok_mC, ok_mOp, ok_mUn, ok_mNil, ok_mCons, ok_mTup, ok_mLst, ok_mCB, ok_mTest, ok_mAnd, ok_mOr, ok_mNot, ok_mIf, ok_mTru, ok_truM_bl, ok_mAndV, ok_mOrV, ok_mNotV, ok_mChain, ok_mNoPart, ok_mPart, ok_mSlice, ok_mBack, ok_mCall, ok_mCallK, ok_mMeth, ok_mIter, ok_mRng1, ok_mRng2, ok_mZip, ok_rng1, ok_rng2, ok_gmName, ok_gmNil, ok_gmCons, ok_gmTup, ok_gmSub, sn_nx, sn_rt, sn_ite, sn_sSeq, sn_sNext, sn_sBreak, sn_sCont, sn_sRetN, sn_sExpr, sn_sRet, sn_sIf, sn_sAsg, sn_sPar, sn_sAug, ok_runD, sn_sFor, ok_mComp, ok_mYes, ok_add, ok_addT, ok_sub, ok_mul, ok_div, ok_mod, ok_pow, ok_lt, ok_le, ok_gt, ok_ge, ok_neg, ok_eqI, ok_neI, ok_isN, ok_notN, ok_ixT, ok_ixF, ok_slT, ok_slF, ok_backT, ok_lenT, ok_lenF, ok_abs, ok_max2, ok_min2, ok_intB, ok_divmod, ok_itT, ok_itF, ok_isiII, ok_isiIB, ok_isiIT, ok_isiTT, ok_isiTI, ok_isiSS, getAt0, getAt1, getAt2, wipeM, List.map_cons, List.map_nil, List.cons_append, List.nil_append, List.append_nil, List.length_cons, List.length_nil, List.length_map, Nat.reduceAdd, Nat.reduceSub, List.replicate_zero, List.replicate_succ, List.getElem?_cons_zero, List.getElem?_cons_succ, List.set_cons_zero, List.set_cons_succ, Option.some.injEq, exists_eq_left', MV.bl.injEq, MV.int.injEq, true_and, and_true, Int.reduceLT, Int.reduceLE, Nat.reduceLT, Nat.reduceLeDiff, decide_true, decide_false, Bool.not_true, Bool.not_false, Bool.false_eq_true, if_true, if_false, reduceIte])
      rw [ok_itL new_at]
      generalize hmx : (if (us.length : Int) - 1 > 0 then (us.length : Int) - 1 else 0) = mx
      have hB : (h11 ++ [MO.lst [.int us.length, .int (us.length + 1), .int mx, .int d]])[h11.length]? = some (.lst ([(us.length : Int), us.length + 1, mx, d].map .int)) := new_at
      have P14 := P13.gr (Gr.one h11 (MO.lst [.int us.length, .int (us.length + 1), .int mx, .int d]))
      have hA3 := (Gr.one h11 (MO.lst [.int us.length, .int (us.length + 1), .int mx, .int d])).at (K13.get (g3.at hA2) hAp)
      generalize h11 ++ [MO.lst [.int us.length, .int (us.length + 1), .int mx, .int d]] = h12 at *
      generalize h11.length = b at *
      refine for_ok ([(us.length : Int), us.length + 1, mx, d].map .int) (fun k ρ h' => ∃ y9 y10 y11 : Option MV, ρ = [some (.ref p), some (.int size), some (.tup (cs.map .int)), some (.int f), some (.tup (ls.map .int)), some (.int turn), some (.tup (rs.map pq)), some (.tup (us.map pq)), some (.bl bh), y9, y10, y11] ∧ Gr h12 h')
        (show (4 : Nat) ≤ 10 ^ 39 by decide) ⟨_, _, _, rfl, Gr.refl _⟩ (fun k ρ h' q => by
          obtain ⟨_, _, _, _, q⟩ := q
          exact itLst_at (q.at hB)) (fun k v hv ρ h' I => ?_) (fun ρ h' I => ?_)
      · obtain ⟨m, _, rfl⟩ := map_int_get hv
        obtain ⟨y9, y10, y11, rfl, G⟩ := I
        simp only [ok_ok, ok_bind, ok_ite, ok_mVar, ok_mC, ok_mOp, ok_mUn, ok_mNil, ok_mCons, ok_mTup, ok_mLst, ok_mCB, ok_mTest, ok_mAnd, ok_mOr, ok_mNot, ok_mIf, ok_mTru, ok_truM_bl, ok_mAndV, ok_mOrV, ok_mNotV, ok_mChain, ok_mNoPart, ok_mPart, ok_mSlice, ok_mBack, ok_mCall, ok_mCallK, ok_mMeth, ok_mIter, ok_mRng1, ok_mRng2, ok_mZip, ok_rng1, ok_rng2, ok_gmName, ok_gmNil, ok_gmCons, ok_gmTup, ok_gmSub, sn_nx, sn_rt, sn_ite, sn_sSeq, sn_sNext, sn_sBreak, sn_sCont, sn_sRetN, sn_sExpr, sn_sRet, sn_sIf, sn_sAsg, sn_sPar, sn_sAug, ok_runD, sn_sFor, ok_mComp, ok_mYes, ok_add, ok_addT, ok_sub, ok_mul, ok_div, ok_mod, ok_pow, ok_lt, ok_le, ok_gt, ok_ge, ok_neg, ok_eqI, ok_neI, ok_isN, ok_notN, ok_ixT, ok_ixF, ok_slT, ok_slF, ok_backT, ok_lenT, ok_lenF, ok_abs, ok_max2, ok_min2, ok_intB, ok_divmod, ok_itT, ok_itF, ok_isiII, ok_isiIB, ok_isiIT, ok_isiTT, ok_isiTI, ok_isiSS, getAt0, getAt1, getAt2, wipeM, List.map_cons, List.map_nil, List.cons_append, List.nil_append, List.append_nil, List.length_cons, List.length_nil, List.length_map, Nat.reduceAdd, Nat.reduceSub, List.replicate_zero, List.replicate_succ, List.getElem?_cons_zero, List.getElem?_cons_succ, List.set_cons_zero, List.set_cons_succ, Option.some.injEq, exists_eq_left', MV.bl.injEq, MV.int.injEq, true_and, and_true, Int.reduceLT, Int.reduceLE, Nat.reduceLT, Nat.reduceLeDiff, decide_true, decide_false, Bool.not_true, Bool.not_false, Bool.false_eq_true, if_true, if_false, reduceIte, hLL]
        refine ⟨sf, ?_⟩
        have fin : ∀ due : Bool, (due = true ↔ Al L ls m us) → Ok (m__law_judged [.tup [.str "at least", .int L, .tup (ls.map .int), .int m], .tup (us.map pq), .bl due] h') fun v h13 => v = .bl true ∧ Gr h12 h13 := fun due k =>
          (J us m (.bl due) h' (by omega) hux ⟨due, rfl, k⟩).mono fun v h13 ⟨q1, q2⟩ => ⟨q1, G.trans q2⟩
        have hb2 : bh = true ↔ Ch ls L us := hbh.trans (same_all C us L)
        cases bh with
        | true =>
          (try simp only [ok_ok, ok_bind, ok_ite, ok_mVar, ok_mC, ok_mOp, ok_mUn, ok_mNil, ok_mCons, ok_mTup, ok_mLst, ok_mCB, ok_mTest, ok_mAnd, ok_mOr, ok_mNot, ok_mIf, ok_mTru, ok_truM_bl, ok_mAndV, ok_mOrV, ok_mNotV, ok_mChain, ok_mNoPart, ok_mPart, ok_mSlice, ok_mBack, ok_mCall, ok_mCallK, ok_mMeth, ok_mIter, ok_mRng1, ok_mRng2, ok_mZip, ok_rng1, ok_rng2, ok_gmName, ok_gmNil, ok_gmCons, ok_gmTup, ok_gmSub, sn_nx, sn_rt, sn_ite, sn_sSeq, sn_sNext, sn_sBreak, sn_sCont, sn_sRetN, sn_sExpr, sn_sRet, sn_sIf, sn_sAsg, sn_sPar, sn_sAug, ok_runD, sn_sFor, ok_mComp, ok_mYes, ok_add, ok_addT, ok_sub, ok_mul, ok_div, ok_mod, ok_pow, ok_lt, ok_le, ok_gt, ok_ge, ok_neg, ok_eqI, ok_neI, ok_isN, ok_notN, ok_ixT, ok_ixF, ok_slT, ok_slF, ok_backT, ok_lenT, ok_lenF, ok_abs, ok_max2, ok_min2, ok_intB, ok_divmod, ok_itT, ok_itF, ok_isiII, ok_isiIB, ok_isiIT, ok_isiTT, ok_isiTI, ok_isiSS, getAt0, getAt1, getAt2, wipeM, List.map_cons, List.map_nil, List.cons_append, List.nil_append, List.append_nil, List.length_cons, List.length_nil, List.length_map, Nat.reduceAdd, Nat.reduceSub, List.replicate_zero, List.replicate_succ, List.getElem?_cons_zero, List.getElem?_cons_succ, List.set_cons_zero, List.set_cons_succ, Option.some.injEq, exists_eq_left', MV.bl.injEq, MV.int.injEq, true_and, and_true, Int.reduceLT, Int.reduceLE, Nat.reduceLT, Nat.reduceLeDiff, decide_true, decide_false, Bool.not_true, Bool.not_false, Bool.false_eq_true, if_true, if_false, reduceIte])
          have hul : (us.length : Int) ≤ 200 := by omega
          refine (fin (decide (m = (us.length : Int))) ?_).mono fun v h13 ⟨q1, q2⟩ => ?_
          · rw [decide_eq_true_iff]
            exact ⟨fun e => ⟨by omega, e.symm, hb2.mp rfl⟩, fun q => q.2.1.symm⟩
          · subst q1
            (try simp only [ok_ok, ok_bind, ok_ite, ok_mVar, ok_mC, ok_mOp, ok_mUn, ok_mNil, ok_mCons, ok_mTup, ok_mLst, ok_mCB, ok_mTest, ok_mAnd, ok_mOr, ok_mNot, ok_mIf, ok_mTru, ok_truM_bl, ok_mAndV, ok_mOrV, ok_mNotV, ok_mChain, ok_mNoPart, ok_mPart, ok_mSlice, ok_mBack, ok_mCall, ok_mCallK, ok_mMeth, ok_mIter, ok_mRng1, ok_mRng2, ok_mZip, ok_rng1, ok_rng2, ok_gmName, ok_gmNil, ok_gmCons, ok_gmTup, ok_gmSub, sn_nx, sn_rt, sn_ite, sn_sSeq, sn_sNext, sn_sBreak, sn_sCont, sn_sRetN, sn_sExpr, sn_sRet, sn_sIf, sn_sAsg, sn_sPar, sn_sAug, ok_runD, sn_sFor, ok_mComp, ok_mYes, ok_add, ok_addT, ok_sub, ok_mul, ok_div, ok_mod, ok_pow, ok_lt, ok_le, ok_gt, ok_ge, ok_neg, ok_eqI, ok_neI, ok_isN, ok_notN, ok_ixT, ok_ixF, ok_slT, ok_slF, ok_backT, ok_lenT, ok_lenF, ok_abs, ok_max2, ok_min2, ok_intB, ok_divmod, ok_itT, ok_itF, ok_isiII, ok_isiIB, ok_isiIT, ok_isiTT, ok_isiTI, ok_isiSS, getAt0, getAt1, getAt2, wipeM, List.map_cons, List.map_nil, List.cons_append, List.nil_append, List.append_nil, List.length_cons, List.length_nil, List.length_map, Nat.reduceAdd, Nat.reduceSub, List.replicate_zero, List.replicate_succ, List.getElem?_cons_zero, List.getElem?_cons_succ, List.set_cons_zero, List.set_cons_succ, Option.some.injEq, exists_eq_left', MV.bl.injEq, MV.int.injEq, true_and, and_true, Int.reduceLT, Int.reduceLE, Nat.reduceLT, Nat.reduceLeDiff, decide_true, decide_false, Bool.not_true, Bool.not_false, Bool.false_eq_true, if_true, if_false, reduceIte])
            exact ⟨_, _, _, rfl, q2⟩
        | false =>
          (try simp only [ok_ok, ok_bind, ok_ite, ok_mVar, ok_mC, ok_mOp, ok_mUn, ok_mNil, ok_mCons, ok_mTup, ok_mLst, ok_mCB, ok_mTest, ok_mAnd, ok_mOr, ok_mNot, ok_mIf, ok_mTru, ok_truM_bl, ok_mAndV, ok_mOrV, ok_mNotV, ok_mChain, ok_mNoPart, ok_mPart, ok_mSlice, ok_mBack, ok_mCall, ok_mCallK, ok_mMeth, ok_mIter, ok_mRng1, ok_mRng2, ok_mZip, ok_rng1, ok_rng2, ok_gmName, ok_gmNil, ok_gmCons, ok_gmTup, ok_gmSub, sn_nx, sn_rt, sn_ite, sn_sSeq, sn_sNext, sn_sBreak, sn_sCont, sn_sRetN, sn_sExpr, sn_sRet, sn_sIf, sn_sAsg, sn_sPar, sn_sAug, ok_runD, sn_sFor, ok_mComp, ok_mYes, ok_add, ok_addT, ok_sub, ok_mul, ok_div, ok_mod, ok_pow, ok_lt, ok_le, ok_gt, ok_ge, ok_neg, ok_eqI, ok_neI, ok_isN, ok_notN, ok_ixT, ok_ixF, ok_slT, ok_slF, ok_backT, ok_lenT, ok_lenF, ok_abs, ok_max2, ok_min2, ok_intB, ok_divmod, ok_itT, ok_itF, ok_isiII, ok_isiIB, ok_isiIT, ok_isiTT, ok_isiTI, ok_isiSS, getAt0, getAt1, getAt2, wipeM, List.map_cons, List.map_nil, List.cons_append, List.nil_append, List.append_nil, List.length_cons, List.length_nil, List.length_map, Nat.reduceAdd, Nat.reduceSub, List.replicate_zero, List.replicate_succ, List.getElem?_cons_zero, List.getElem?_cons_succ, List.set_cons_zero, List.set_cons_succ, Option.some.injEq, exists_eq_left', MV.bl.injEq, MV.int.injEq, true_and, and_true, Int.reduceLT, Int.reduceLE, Nat.reduceLT, Nat.reduceLeDiff, decide_true, decide_false, Bool.not_true, Bool.not_false, Bool.false_eq_true, if_true, if_false, reduceIte])
          refine (fin false ⟨fun k => (nomatch k), fun q => (nomatch hb2.mpr q.2.2)⟩).mono fun v h13 ⟨q1, q2⟩ => ?_
          subst q1
          (try simp only [ok_ok, ok_bind, ok_ite, ok_mVar, ok_mC, ok_mOp, ok_mUn, ok_mNil, ok_mCons, ok_mTup, ok_mLst, ok_mCB, ok_mTest, ok_mAnd, ok_mOr, ok_mNot, ok_mIf, ok_mTru, ok_truM_bl, ok_mAndV, ok_mOrV, ok_mNotV, ok_mChain, ok_mNoPart, ok_mPart, ok_mSlice, ok_mBack, ok_mCall, ok_mCallK, ok_mMeth, ok_mIter, ok_mRng1, ok_mRng2, ok_mZip, ok_rng1, ok_rng2, ok_gmName, ok_gmNil, ok_gmCons, ok_gmTup, ok_gmSub, sn_nx, sn_rt, sn_ite, sn_sSeq, sn_sNext, sn_sBreak, sn_sCont, sn_sRetN, sn_sExpr, sn_sRet, sn_sIf, sn_sAsg, sn_sPar, sn_sAug, ok_runD, sn_sFor, ok_mComp, ok_mYes, ok_add, ok_addT, ok_sub, ok_mul, ok_div, ok_mod, ok_pow, ok_lt, ok_le, ok_gt, ok_ge, ok_neg, ok_eqI, ok_neI, ok_isN, ok_notN, ok_ixT, ok_ixF, ok_slT, ok_slF, ok_backT, ok_lenT, ok_lenF, ok_abs, ok_max2, ok_min2, ok_intB, ok_divmod, ok_itT, ok_itF, ok_isiII, ok_isiIB, ok_isiIT, ok_isiTT, ok_isiTI, ok_isiSS, getAt0, getAt1, getAt2, wipeM, List.map_cons, List.map_nil, List.cons_append, List.nil_append, List.append_nil, List.length_cons, List.length_nil, List.length_map, Nat.reduceAdd, Nat.reduceSub, List.replicate_zero, List.replicate_succ, List.getElem?_cons_zero, List.getElem?_cons_succ, List.set_cons_zero, List.set_cons_succ, Option.some.injEq, exists_eq_left', MV.bl.injEq, MV.int.injEq, true_and, and_true, Int.reduceLT, Int.reduceLE, Nat.reduceLT, Nat.reduceLeDiff, decide_true, decide_false, Bool.not_true, Bool.not_false, Bool.false_eq_true, if_true, if_false, reduceIte])
          exact ⟨_, _, _, rfl, q2⟩
      · obtain ⟨y9, y10, y11, rfl, G⟩ := I
        exact ⟨_, _, _, _, _, rfl, G.at hA3, (P14.gr G).le (by omega), by omega⟩
    · obtain ⟨y7, y8, y9, y10, y11, rfl, _, P11, _⟩ := I
      exact ⟨_, _, _, _, _, _, _, rfl, P11.le (by simp; omega), by omega⟩
  · obtain ⟨y5, y6, y7, y8, y9, y10, y11, rfl, P6, hi⟩ := I
    clear P5 P6
    simp only [ok_ok, ok_bind, ok_ite, ok_mVar, ok_mC, ok_mOp, ok_mUn, ok_mNil, ok_mCons, ok_mTup, ok_mLst, ok_mCB, ok_mTest, ok_mAnd, ok_mOr, ok_mNot, ok_mIf, ok_mTru, ok_truM_bl, ok_mAndV, ok_mOrV, ok_mNotV, ok_mChain, ok_mNoPart, ok_mPart, ok_mSlice, ok_mBack, ok_mCall, ok_mCallK, ok_mMeth, ok_mIter, ok_mRng1, ok_mRng2, ok_mZip, ok_rng1, ok_rng2, ok_gmName, ok_gmNil, ok_gmCons, ok_gmTup, ok_gmSub, sn_nx, sn_rt, sn_ite, sn_sSeq, sn_sNext, sn_sBreak, sn_sCont, sn_sRetN, sn_sExpr, sn_sRet, sn_sIf, sn_sAsg, sn_sPar, sn_sAug, ok_runD, sn_sFor, ok_mComp, ok_mYes, ok_add, ok_addT, ok_sub, ok_mul, ok_div, ok_mod, ok_pow, ok_lt, ok_le, ok_gt, ok_ge, ok_neg, ok_eqI, ok_neI, ok_isN, ok_notN, ok_ixT, ok_ixF, ok_slT, ok_slF, ok_backT, ok_lenT, ok_lenF, ok_abs, ok_max2, ok_min2, ok_intB, ok_divmod, ok_itT, ok_itF, ok_isiII, ok_isiIB, ok_isiIT, ok_isiTT, ok_isiTI, ok_isiSS, getAt0, getAt1, getAt2, wipeM, List.map_cons, List.map_nil, List.cons_append, List.nil_append, List.append_nil, List.length_cons, List.length_nil, List.length_map, Nat.reduceAdd, Nat.reduceSub, List.replicate_zero, List.replicate_succ, List.getElem?_cons_zero, List.getElem?_cons_succ, List.set_cons_zero, List.set_cons_succ, Option.some.injEq, exists_eq_left', MV.bl.injEq, MV.int.injEq, true_and, and_true, Int.reduceLT, Int.reduceLE, Nat.reduceLT, Nat.reduceLeDiff, decide_true, decide_false, Bool.not_true, Bool.not_false, Bool.false_eq_true, if_true, if_false, reduceIte, hLL]
    refine ⟨sf, ?_⟩
    exact (J [] 0 (.bl true) h' (by decide) (fun x hx => (nomatch hx)) (.t ⟨by decide, rfl, trivial⟩)).mono fun v h7 q => q.1
end K74

namespace K74
open Cutp
open PySem (Str)
theorem pool_ok {c : Int} {h : Hm} : Ok (m__law_pool [.int c] h) fun v h' => ∃ p, v = .ref p ∧ Pool p 0 h' := by
  unfold m__law_pool b__law_pool
  have m0 : 0 ≤ c % 2147483237 ∧ c % 2147483237 < 2147483237 := ⟨Int.emod_nonneg _ (by decide), Int.emod_lt_of_pos _ (by decide)⟩
  have fin : ∀ b : Int, Pool h.length 0 (h ++ [MO.lst [.int (c % 2147483237), .int b, .int 0]]) := fun b => ⟨_, b, 0, new_at, m0, by decide, by decide⟩
  simp only [ok_ok, ok_bind, ok_ite, ok_mVar, ok_mC, ok_mOp, ok_mUn, ok_mNil, ok_mCons, ok_mTup, ok_mLst, ok_mCB, ok_mTest, ok_mAnd, ok_mOr, ok_mNot, ok_mIf, ok_mTru, ok_truM_bl, ok_mAndV, ok_mOrV, ok_mNotV, ok_mChain, ok_mNoPart, ok_mPart, ok_mSlice, ok_mBack, ok_mCall, ok_mCallK, ok_mMeth, ok_mIter, ok_mRng1, ok_mRng2, ok_mZip, ok_rng1, ok_rng2, ok_gmName, ok_gmNil, ok_gmCons, ok_gmTup, ok_gmSub, sn_nx, sn_rt, sn_ite, sn_sSeq, sn_sNext, sn_sBreak, sn_sCont, sn_sRetN, sn_sExpr, sn_sRet, sn_sIf, sn_sAsg, sn_sPar, sn_sAug, ok_runD, sn_sFor, ok_mComp, ok_mYes, ok_add, ok_addT, ok_sub, ok_mul, ok_div, ok_mod, ok_pow, ok_lt, ok_le, ok_gt, ok_ge, ok_neg, ok_eqI, ok_neI, ok_isN, ok_notN, ok_ixT, ok_ixF, ok_slT, ok_slF, ok_backT, ok_lenT, ok_lenF, ok_abs, ok_max2, ok_min2, ok_intB, ok_divmod, ok_itT, ok_itF, ok_isiII, ok_isiIB, ok_isiIT, ok_isiTT, ok_isiTI, ok_isiSS, getAt0, getAt1, getAt2, wipeM, List.map_cons, List.map_nil, List.cons_append, List.nil_append, List.append_nil, List.length_cons, List.length_nil, List.length_map, Nat.reduceAdd, Nat.reduceSub, List.replicate_zero, List.replicate_succ, List.getElem?_cons_zero, List.getElem?_cons_succ, List.set_cons_zero, List.set_cons_succ, Option.some.injEq, exists_eq_left', MV.bl.injEq, MV.int.injEq, true_and, and_true, Int.reduceLT, Int.reduceLE, Nat.reduceLT, Nat.reduceLeDiff, decide_true, decide_false, Bool.not_true, Bool.not_false, Bool.false_eq_true, if_true, if_false, reduceIte]
  by_cases g1 : c < 0
  · rw [decide_eq_true g1]
    (try simp only [ok_ok, ok_bind, ok_ite, ok_mVar, ok_mC, ok_mOp, ok_mUn, ok_mNil, ok_mCons, ok_mTup, ok_mLst, ok_mCB, ok_mTest, ok_mAnd, ok_mOr, ok_mNot, ok_mIf, ok_mTru, ok_truM_bl, ok_mAndV, ok_mOrV, ok_mNotV, ok_mChain, ok_mNoPart, ok_mPart, ok_mSlice, ok_mBack, ok_mCall, ok_mCallK, ok_mMeth, ok_mIter, ok_mRng1, ok_mRng2, ok_mZip, ok_rng1, ok_rng2, ok_gmName, ok_gmNil, ok_gmCons, ok_gmTup, ok_gmSub, sn_nx, sn_rt, sn_ite, sn_sSeq, sn_sNext, sn_sBreak, sn_sCont, sn_sRetN, sn_sExpr, sn_sRet, sn_sIf, sn_sAsg, sn_sPar, sn_sAug, ok_runD, sn_sFor, ok_mComp, ok_mYes, ok_add, ok_addT, ok_sub, ok_mul, ok_div, ok_mod, ok_pow, ok_lt, ok_le, ok_gt, ok_ge, ok_neg, ok_eqI, ok_neI, ok_isN, ok_notN, ok_ixT, ok_ixF, ok_slT, ok_slF, ok_backT, ok_lenT, ok_lenF, ok_abs, ok_max2, ok_min2, ok_intB, ok_divmod, ok_itT, ok_itF, ok_isiII, ok_isiIB, ok_isiIT, ok_isiTT, ok_isiTI, ok_isiSS, getAt0, getAt1, getAt2, wipeM, List.map_cons, List.map_nil, List.cons_append, List.nil_append, List.append_nil, List.length_cons, List.length_nil, List.length_map, Nat.reduceAdd, Nat.reduceSub, List.replicate_zero, List.replicate_succ, List.getElem?_cons_zero, List.getElem?_cons_succ, List.set_cons_zero, List.set_cons_succ, Option.some.injEq, exists_eq_left', MV.bl.injEq, MV.int.injEq, true_and, and_true, Int.reduceLT, Int.reduceLE, Nat.reduceLT, Nat.reduceLeDiff, decide_true, decide_false, Bool.not_true, Bool.not_false, Bool.false_eq_true, if_true, if_false, reduceIte])
    exact ⟨_, rfl, fin _⟩
  · rw [decide_eq_false g1]
    (try simp only [ok_ok, ok_bind, ok_ite, ok_mVar, ok_mC, ok_mOp, ok_mUn, ok_mNil, ok_mCons, ok_mTup, ok_mLst, ok_mCB, ok_mTest, ok_mAnd, ok_mOr, ok_mNot, ok_mIf, ok_mTru, ok_truM_bl, ok_mAndV, ok_mOrV, ok_mNotV, ok_mChain, ok_mNoPart, ok_mPart, ok_mSlice, ok_mBack, ok_mCall, ok_mCallK, ok_mMeth, ok_mIter, ok_mRng1, ok_mRng2, ok_mZip, ok_rng1, ok_rng2, ok_gmName, ok_gmNil, ok_gmCons, ok_gmTup, ok_gmSub, sn_nx, sn_rt, sn_ite, sn_sSeq, sn_sNext, sn_sBreak, sn_sCont, sn_sRetN, sn_sExpr, sn_sRet, sn_sIf, sn_sAsg, sn_sPar, sn_sAug, ok_runD, sn_sFor, ok_mComp, ok_mYes, ok_add, ok_addT, ok_sub, ok_mul, ok_div, ok_mod, ok_pow, ok_lt, ok_le, ok_gt, ok_ge, ok_neg, ok_eqI, ok_neI, ok_isN, ok_notN, ok_ixT, ok_ixF, ok_slT, ok_slF, ok_backT, ok_lenT, ok_lenF, ok_abs, ok_max2, ok_min2, ok_intB, ok_divmod, ok_itT, ok_itF, ok_isiII, ok_isiIB, ok_isiIT, ok_isiTT, ok_isiTI, ok_isiSS, getAt0, getAt1, getAt2, wipeM, List.map_cons, List.map_nil, List.cons_append, List.nil_append, List.append_nil, List.length_cons, List.length_nil, List.length_map, Nat.reduceAdd, Nat.reduceSub, List.replicate_zero, List.replicate_succ, List.getElem?_cons_zero, List.getElem?_cons_succ, List.set_cons_zero, List.set_cons_succ, Option.some.injEq, exists_eq_left', MV.bl.injEq, MV.int.injEq, true_and, and_true, Int.reduceLT, Int.reduceLE, Nat.reduceLT, Nat.reduceLeDiff, decide_true, decide_false, Bool.not_true, Bool.not_false, Bool.false_eq_true, if_true, if_false, reduceIte])
    refine ⟨by decide, ?_⟩
    generalize hb : decide ((10 : Int) ^ (18 : Int).toNat ≤ c) = b
    cases b with
    | true =>
      (try simp only [ok_ok, ok_bind, ok_ite, ok_mVar, ok_mC, ok_mOp, ok_mUn, ok_mNil, ok_mCons, ok_mTup, ok_mLst, ok_mCB, ok_mTest, ok_mAnd, ok_mOr, ok_mNot, ok_mIf, ok_mTru, ok_truM_bl, ok_mAndV, ok_mOrV, ok_mNotV, ok_mChain, ok_mNoPart, ok_mPart, ok_mSlice, ok_mBack, ok_mCall, ok_mCallK, ok_mMeth, ok_mIter, ok_mRng1, ok_mRng2, ok_mZip, ok_rng1, ok_rng2, ok_gmName, ok_gmNil, ok_gmCons, ok_gmTup, ok_gmSub, sn_nx, sn_rt, sn_ite, sn_sSeq, sn_sNext, sn_sBreak, sn_sCont, sn_sRetN, sn_sExpr, sn_sRet, sn_sIf, sn_sAsg, sn_sPar, sn_sAug, ok_runD, sn_sFor, ok_mComp, ok_mYes, ok_add, ok_addT, ok_sub, ok_mul, ok_div, ok_mod, ok_pow, ok_lt, ok_le, ok_gt, ok_ge, ok_neg, ok_eqI, ok_neI, ok_isN, ok_notN, ok_ixT, ok_ixF, ok_slT, ok_slF, ok_backT, ok_lenT, ok_lenF, ok_abs, ok_max2, ok_min2, ok_intB, ok_divmod, ok_itT, ok_itF, ok_isiII, ok_isiIB, ok_isiIT, ok_isiTT, ok_isiTI, ok_isiSS, getAt0, getAt1, getAt2, wipeM, List.map_cons, List.map_nil, List.cons_append, List.nil_append, List.append_nil, List.length_cons, List.length_nil, List.length_map, Nat.reduceAdd, Nat.reduceSub, List.replicate_zero, List.replicate_succ, List.getElem?_cons_zero, List.getElem?_cons_succ, List.set_cons_zero, List.set_cons_succ, Option.some.injEq, exists_eq_left', MV.bl.injEq, MV.int.injEq, true_and, and_true, Int.reduceLT, Int.reduceLE, Nat.reduceLT, Nat.reduceLeDiff, decide_true, decide_false, Bool.not_true, Bool.not_false, Bool.false_eq_true, if_true, if_false, reduceIte])
      exact ⟨_, rfl, fin _⟩
    | false =>
      (try simp only [ok_ok, ok_bind, ok_ite, ok_mVar, ok_mC, ok_mOp, ok_mUn, ok_mNil, ok_mCons, ok_mTup, ok_mLst, ok_mCB, ok_mTest, ok_mAnd, ok_mOr, ok_mNot, ok_mIf, ok_mTru, ok_truM_bl, ok_mAndV, ok_mOrV, ok_mNotV, ok_mChain, ok_mNoPart, ok_mPart, ok_mSlice, ok_mBack, ok_mCall, ok_mCallK, ok_mMeth, ok_mIter, ok_mRng1, ok_mRng2, ok_mZip, ok_rng1, ok_rng2, ok_gmName, ok_gmNil, ok_gmCons, ok_gmTup, ok_gmSub, sn_nx, sn_rt, sn_ite, sn_sSeq, sn_sNext, sn_sBreak, sn_sCont, sn_sRetN, sn_sExpr, sn_sRet, sn_sIf, sn_sAsg, sn_sPar, sn_sAug, ok_runD, sn_sFor, ok_mComp, ok_mYes, ok_add, ok_addT, ok_sub, ok_mul, ok_div, ok_mod, ok_pow, ok_lt, ok_le, ok_gt, ok_ge, ok_neg, ok_eqI, ok_neI, ok_isN, ok_notN, ok_ixT, ok_ixF, ok_slT, ok_slF, ok_backT, ok_lenT, ok_lenF, ok_abs, ok_max2, ok_min2, ok_intB, ok_divmod, ok_itT, ok_itF, ok_isiII, ok_isiIB, ok_isiIT, ok_isiTT, ok_isiTI, ok_isiSS, getAt0, getAt1, getAt2, wipeM, List.map_cons, List.map_nil, List.cons_append, List.nil_append, List.append_nil, List.length_cons, List.length_nil, List.length_map, Nat.reduceAdd, Nat.reduceSub, List.replicate_zero, List.replicate_succ, List.getElem?_cons_zero, List.getElem?_cons_succ, List.set_cons_zero, List.set_cons_succ, Option.some.injEq, exists_eq_left', MV.bl.injEq, MV.int.injEq, true_and, and_true, Int.reduceLT, Int.reduceLE, Nat.reduceLT, Nat.reduceLeDiff, decide_true, decide_false, Bool.not_true, Bool.not_false, Bool.false_eq_true, if_true, if_false, reduceIte])
      exact ⟨_, rfl, fin _⟩
theorem cell_ok {ns : List Int} {k : Int} {h : Hm} (hk : 0 ≤ k ∧ k < 100) (hl : ns.length ≤ 1000) : Ok (m__law_cell [.flst (ns.map .int), .int k] h) fun v h' => ∃ x, v = .int x := by
  unfold m__law_cell b__law_cell
  simp only [ok_ok, ok_bind, ok_ite, ok_mVar, ok_mC, ok_mOp, ok_mUn, ok_mNil, ok_mCons, ok_mTup, ok_mLst, ok_mCB, ok_mTest, ok_mAnd, ok_mOr, ok_mNot, ok_mIf, ok_mTru, ok_truM_bl, ok_mAndV, ok_mOrV, ok_mNotV, ok_mChain, ok_mNoPart, ok_mPart, ok_mSlice, ok_mBack, ok_mCall, ok_mCallK, ok_mMeth, ok_mIter, ok_mRng1, ok_mRng2, ok_mZip, ok_rng1, ok_rng2, ok_gmName, ok_gmNil, ok_gmCons, ok_gmTup, ok_gmSub, sn_nx, sn_rt, sn_ite, sn_sSeq, sn_sNext, sn_sBreak, sn_sCont, sn_sRetN, sn_sExpr, sn_sRet, sn_sIf, sn_sAsg, sn_sPar, sn_sAug, ok_runD, sn_sFor, ok_mComp, ok_mYes, ok_add, ok_addT, ok_sub, ok_mul, ok_div, ok_mod, ok_pow, ok_lt, ok_le, ok_gt, ok_ge, ok_neg, ok_eqI, ok_neI, ok_isN, ok_notN, ok_ixT, ok_ixF, ok_slT, ok_slF, ok_backT, ok_lenT, ok_lenF, ok_abs, ok_max2, ok_min2, ok_intB, ok_divmod, ok_itT, ok_itF, ok_isiII, ok_isiIB, ok_isiIT, ok_isiTT, ok_isiTI, ok_isiSS, getAt0, getAt1, getAt2, wipeM, List.map_cons, List.map_nil, List.cons_append, List.nil_append, List.append_nil, List.length_cons, List.length_nil, List.length_map, Nat.reduceAdd, Nat.reduceSub, List.replicate_zero, List.replicate_succ, List.getElem?_cons_zero, List.getElem?_cons_succ, List.set_cons_zero, List.set_cons_succ, Option.some.injEq, exists_eq_left', MV.bl.injEq, MV.int.injEq, true_and, and_true, Int.reduceLT, Int.reduceLE, Nat.reduceLT, Nat.reduceLeDiff, decide_true, decide_false, Bool.not_true, Bool.not_false, Bool.false_eq_true, if_true, if_false, reduceIte]
  by_cases g : k < (ns.length : Int)
  · rw [decide_eq_true g]
    (try simp only [ok_ok, ok_bind, ok_ite, ok_mVar, ok_mC, ok_mOp, ok_mUn, ok_mNil, ok_mCons, ok_mTup, ok_mLst, ok_mCB, ok_mTest, ok_mAnd, ok_mOr, ok_mNot, ok_mIf, ok_mTru, ok_truM_bl, ok_mAndV, ok_mOrV, ok_mNotV, ok_mChain, ok_mNoPart, ok_mPart, ok_mSlice, ok_mBack, ok_mCall, ok_mCallK, ok_mMeth, ok_mIter, ok_mRng1, ok_mRng2, ok_mZip, ok_rng1, ok_rng2, ok_gmName, ok_gmNil, ok_gmCons, ok_gmTup, ok_gmSub, sn_nx, sn_rt, sn_ite, sn_sSeq, sn_sNext, sn_sBreak, sn_sCont, sn_sRetN, sn_sExpr, sn_sRet, sn_sIf, sn_sAsg, sn_sPar, sn_sAug, ok_runD, sn_sFor, ok_mComp, ok_mYes, ok_add, ok_addT, ok_sub, ok_mul, ok_div, ok_mod, ok_pow, ok_lt, ok_le, ok_gt, ok_ge, ok_neg, ok_eqI, ok_neI, ok_isN, ok_notN, ok_ixT, ok_ixF, ok_slT, ok_slF, ok_backT, ok_lenT, ok_lenF, ok_abs, ok_max2, ok_min2, ok_intB, ok_divmod, ok_itT, ok_itF, ok_isiII, ok_isiIB, ok_isiIT, ok_isiTT, ok_isiTI, ok_isiSS, getAt0, getAt1, getAt2, wipeM, List.map_cons, List.map_nil, List.cons_append, List.nil_append, List.append_nil, List.length_cons, List.length_nil, List.length_map, Nat.reduceAdd, Nat.reduceSub, List.replicate_zero, List.replicate_succ, List.getElem?_cons_zero, List.getElem?_cons_succ, List.set_cons_zero, List.set_cons_succ, Option.some.injEq, exists_eq_left', MV.bl.injEq, MV.int.injEq, true_and, and_true, Int.reduceLT, Int.reduceLE, Nat.reduceLT, Nat.reduceLeDiff, decide_true, decide_false, Bool.not_true, Bool.not_false, Bool.false_eq_true, if_true, if_false, reduceIte])
    have hlt : k.toNat < ns.length := by omega
    exact ⟨.int ns[k.toNat], by rw [getAt_at hk.1, List.getElem?_map, List.getElem?_eq_getElem hlt]; rfl, _, rfl⟩
  · rw [decide_eq_false g]
    (try simp only [ok_ok, ok_bind, ok_ite, ok_mVar, ok_mC, ok_mOp, ok_mUn, ok_mNil, ok_mCons, ok_mTup, ok_mLst, ok_mCB, ok_mTest, ok_mAnd, ok_mOr, ok_mNot, ok_mIf, ok_mTru, ok_truM_bl, ok_mAndV, ok_mOrV, ok_mNotV, ok_mChain, ok_mNoPart, ok_mPart, ok_mSlice, ok_mBack, ok_mCall, ok_mCallK, ok_mMeth, ok_mIter, ok_mRng1, ok_mRng2, ok_mZip, ok_rng1, ok_rng2, ok_gmName, ok_gmNil, ok_gmCons, ok_gmTup, ok_gmSub, sn_nx, sn_rt, sn_ite, sn_sSeq, sn_sNext, sn_sBreak, sn_sCont, sn_sRetN, sn_sExpr, sn_sRet, sn_sIf, sn_sAsg, sn_sPar, sn_sAug, ok_runD, sn_sFor, ok_mComp, ok_mYes, ok_add, ok_addT, ok_sub, ok_mul, ok_div, ok_mod, ok_pow, ok_lt, ok_le, ok_gt, ok_ge, ok_neg, ok_eqI, ok_neI, ok_isN, ok_notN, ok_ixT, ok_ixF, ok_slT, ok_slF, ok_backT, ok_lenT, ok_lenF, ok_abs, ok_max2, ok_min2, ok_intB, ok_divmod, ok_itT, ok_itF, ok_isiII, ok_isiIB, ok_isiIT, ok_isiTT, ok_isiTI, ok_isiSS, getAt0, getAt1, getAt2, wipeM, List.map_cons, List.map_nil, List.cons_append, List.nil_append, List.append_nil, List.length_cons, List.length_nil, List.length_map, Nat.reduceAdd, Nat.reduceSub, List.replicate_zero, List.replicate_succ, List.getElem?_cons_zero, List.getElem?_cons_succ, List.set_cons_zero, List.set_cons_succ, Option.some.injEq, exists_eq_left', MV.bl.injEq, MV.int.injEq, true_and, and_true, Int.reduceLT, Int.reduceLE, Nat.reduceLT, Nat.reduceLeDiff, decide_true, decide_false, Bool.not_true, Bool.not_false, Bool.false_eq_true, if_true, if_false, reduceIte])
    have kk : k * k ≤ 100 * 100 := by
      have h1 : k * k ≤ 100 * k := Int.mul_le_mul_of_nonneg_right (by omega) hk.1
      omega
    have kk0 : 0 ≤ k * k := Int.mul_nonneg hk.1 hk.1
    refine ⟨mul_ok (by omega) (by omega), mul_ok (by omega) (by omega), mul_ok (by omega) (by omega), ?_⟩
    have e3 : cutM (ns.map MV.int) none (some 3) = (ns.take 3).map .int := by
      rw [cut_hi (by decide)]
      simp
    rw [e3, ok_itL new_at]
    have hA : (h ++ [MO.lst ((ns.take 3).map MV.int)])[h.length]? = some (.lst ((ns.take 3).map .int)) := new_at
    generalize h ++ [MO.lst ((ns.take 3).map MV.int)] = h1 at *
    have m0 : ∀ z : Int, 0 ≤ z % 2147483237 ∧ z % 2147483237 < 2147483237 := fun z => ⟨Int.emod_nonneg _ (by decide), Int.emod_lt_of_pos _ (by decide)⟩
    refine for_ok ((ns.take 3).map .int) (fun i ρ h' => h' = h1 ∧ ∃ (x : Int) (y : Option MV), ρ = [some (.flst (ns.map .int)), some (.int k), some (.int x), y] ∧ 0 ≤ x ∧ x < 2147483237) (by rw [List.length_map, List.length_take]; exact Nat.le_trans (show min 3 ns.length ≤ 3 by omega) (by decide)) ⟨rfl, _, _, rfl, (m0 _).1, (m0 _).2⟩ (fun i ρ h' q => by rw [q.1]; exact itLst_at hA) (fun i v hv ρ h' I => ?_) (fun ρ h' I => ?_)
    · obtain ⟨rfl, x, y, rfl, x0, x1⟩ := I
      obtain ⟨c, _, rfl⟩ := map_int_get hv
      simp only [ok_ok, ok_bind, ok_ite, ok_mVar, ok_mC, ok_mOp, ok_mUn, ok_mNil, ok_mCons, ok_mTup, ok_mLst, ok_mCB, ok_mTest, ok_mAnd, ok_mOr, ok_mNot, ok_mIf, ok_mTru, ok_truM_bl, ok_mAndV, ok_mOrV, ok_mNotV, ok_mChain, ok_mNoPart, ok_mPart, ok_mSlice, ok_mBack, ok_mCall, ok_mCallK, ok_mMeth, ok_mIter, ok_mRng1, ok_mRng2, ok_mZip, ok_rng1, ok_rng2, ok_gmName, ok_gmNil, ok_gmCons, ok_gmTup, ok_gmSub, sn_nx, sn_rt, sn_ite, sn_sSeq, sn_sNext, sn_sBreak, sn_sCont, sn_sRetN, sn_sExpr, sn_sRet, sn_sIf, sn_sAsg, sn_sPar, sn_sAug, ok_runD, sn_sFor, ok_mComp, ok_mYes, ok_add, ok_addT, ok_sub, ok_mul, ok_div, ok_mod, ok_pow, ok_lt, ok_le, ok_gt, ok_ge, ok_neg, ok_eqI, ok_neI, ok_isN, ok_notN, ok_ixT, ok_ixF, ok_slT, ok_slF, ok_backT, ok_lenT, ok_lenF, ok_abs, ok_max2, ok_min2, ok_intB, ok_divmod, ok_itT, ok_itF, ok_isiII, ok_isiIB, ok_isiIT, ok_isiTT, ok_isiTI, ok_isiSS, getAt0, getAt1, getAt2, wipeM, List.map_cons, List.map_nil, List.cons_append, List.nil_append, List.append_nil, List.length_cons, List.length_nil, List.length_map, Nat.reduceAdd, Nat.reduceSub, List.replicate_zero, List.replicate_succ, List.getElem?_cons_zero, List.getElem?_cons_succ, List.set_cons_zero, List.set_cons_succ, Option.some.injEq, exists_eq_left', MV.bl.injEq, MV.int.injEq, true_and, and_true, Int.reduceLT, Int.reduceLE, Nat.reduceLT, Nat.reduceLeDiff, decide_true, decide_false, Bool.not_true, Bool.not_false, Bool.false_eq_true, if_true, if_false, reduceIte]
      exact ⟨mul_ok (by omega) (by omega), _, _, rfl, (m0 _).1, (m0 _).2⟩
    · obtain ⟨rfl, x, y, rfl, x0, x1⟩ := I
      (try simp only [ok_ok, ok_bind, ok_ite, ok_mVar, ok_mC, ok_mOp, ok_mUn, ok_mNil, ok_mCons, ok_mTup, ok_mLst, ok_mCB, ok_mTest, ok_mAnd, ok_mOr, ok_mNot, ok_mIf, ok_mTru, ok_truM_bl, ok_mAndV, ok_mOrV, ok_mNotV, ok_mChain, ok_mNoPart, ok_mPart, ok_mSlice, ok_mBack, ok_mCall, ok_mCallK, ok_mMeth, ok_mIter, ok_mRng1, ok_mRng2, ok_mZip, ok_rng1, ok_rng2, ok_gmName, ok_gmNil, ok_gmCons, ok_gmTup, ok_gmSub, sn_nx, sn_rt, sn_ite, sn_sSeq, sn_sNext, sn_sBreak, sn_sCont, sn_sRetN, sn_sExpr, sn_sRet, sn_sIf, sn_sAsg, sn_sPar, sn_sAug, ok_runD, sn_sFor, ok_mComp, ok_mYes, ok_add, ok_addT, ok_sub, ok_mul, ok_div, ok_mod, ok_pow, ok_lt, ok_le, ok_gt, ok_ge, ok_neg, ok_eqI, ok_neI, ok_isN, ok_notN, ok_ixT, ok_ixF, ok_slT, ok_slF, ok_backT, ok_lenT, ok_lenF, ok_abs, ok_max2, ok_min2, ok_intB, ok_divmod, ok_itT, ok_itF, ok_isiII, ok_isiIB, ok_isiIT, ok_isiTT, ok_isiTI, ok_isiSS, getAt0, getAt1, getAt2, wipeM, List.map_cons, List.map_nil, List.cons_append, List.nil_append, List.append_nil, List.length_cons, List.length_nil, List.length_map, Nat.reduceAdd, Nat.reduceSub, List.replicate_zero, List.replicate_succ, List.getElem?_cons_zero, List.getElem?_cons_succ, List.set_cons_zero, List.set_cons_succ, Option.some.injEq, exists_eq_left', MV.bl.injEq, MV.int.injEq, true_and, and_true, Int.reduceLT, Int.reduceLE, Nat.reduceLT, Nat.reduceLeDiff, decide_true, decide_false, Bool.not_true, Bool.not_false, Bool.false_eq_true, if_true, if_false, reduceIte])
      exact ⟨x, rfl⟩
theorem plain (ns : List Int) (hn : ns.length ≤ 63) : ∃ h', m_law [.flst (ns.map .int)] [] = .ok (.bl true) h' := by
  have key : Ok (m_law [.flst (ns.map .int)] []) fun v _ => v = .bl true := by
    unfold m_law b_law
    simp only [ok_ok, ok_bind, ok_ite, ok_mVar, ok_mC, ok_mOp, ok_mUn, ok_mNil, ok_mCons, ok_mTup, ok_mLst, ok_mCB, ok_mTest, ok_mAnd, ok_mOr, ok_mNot, ok_mIf, ok_mTru, ok_truM_bl, ok_mAndV, ok_mOrV, ok_mNotV, ok_mChain, ok_mNoPart, ok_mPart, ok_mSlice, ok_mBack, ok_mCall, ok_mCallK, ok_mMeth, ok_mIter, ok_mRng1, ok_mRng2, ok_mZip, ok_rng1, ok_rng2, ok_gmName, ok_gmNil, ok_gmCons, ok_gmTup, ok_gmSub, sn_nx, sn_rt, sn_ite, sn_sSeq, sn_sNext, sn_sBreak, sn_sCont, sn_sRetN, sn_sExpr, sn_sRet, sn_sIf, sn_sAsg, sn_sPar, sn_sAug, ok_runD, sn_sFor, ok_mComp, ok_mYes, ok_add, ok_addT, ok_sub, ok_mul, ok_div, ok_mod, ok_pow, ok_lt, ok_le, ok_gt, ok_ge, ok_neg, ok_eqI, ok_neI, ok_isN, ok_notN, ok_ixT, ok_ixF, ok_slT, ok_slF, ok_backT, ok_lenT, ok_lenF, ok_abs, ok_max2, ok_min2, ok_intB, ok_divmod, ok_itT, ok_itF, ok_isiII, ok_isiIB, ok_isiIT, ok_isiTT, ok_isiTI, ok_isiSS, getAt0, getAt1, getAt2, wipeM, List.map_cons, List.map_nil, List.cons_append, List.nil_append, List.append_nil, List.length_cons, List.length_nil, List.length_map, Nat.reduceAdd, Nat.reduceSub, List.replicate_zero, List.replicate_succ, List.getElem?_cons_zero, List.getElem?_cons_succ, List.set_cons_zero, List.set_cons_succ, Option.some.injEq, exists_eq_left', MV.bl.injEq, MV.int.injEq, true_and, and_true, Int.reduceLT, Int.reduceLE, Nat.reduceLT, Nat.reduceLeDiff, decide_true, decide_false, Bool.not_true, Bool.not_false, Bool.false_eq_true, if_true, if_false, reduceIte]
    generalize hj : (if (if (6 : Int) < (ns.length : Int) then 6 else (ns.length : Int)) > 2 then (if (6 : Int) < (ns.length : Int) then 6 else (ns.length : Int)) else 2) = j
    have hj' : 0 ≤ j ∧ j ≤ 6 := by
      rw [← hj]
      split <;> split <;> omega
    refine ⟨by omega, ?_⟩
    refine comp_ok ((rngL 0 j.toNat).map .int) (fun i acc h' => ∃ bs : List Bool, acc = bs.map .bl ∧ bs.length ≤ i ∧ ∀ b ∈ bs, b = true) (by rw [List.length_map, rngL_len]; exact Nat.le_trans (show j.toNat ≤ 6 by omega) (by decide)) ⟨[], rfl, Nat.le_refl _, fun b hb => nomatch hb⟩ (fun i acc h' q => itRng_at) (fun i v hv acc h' I => ?_) (fun acc h' I => ?_)
    · obtain ⟨k, hk, rfl, b1, b2⟩ := rng_get hv
      have hil := (List.getElem?_eq_some_iff.mp hk).1
      rw [rngL_len] at hil
      obtain ⟨bs, rfl, hb, ht⟩ := I
      simp only [ok_ok, ok_bind, ok_ite, ok_mVar, ok_mC, ok_mOp, ok_mUn, ok_mNil, ok_mCons, ok_mTup, ok_mLst, ok_mCB, ok_mTest, ok_mAnd, ok_mOr, ok_mNot, ok_mIf, ok_mTru, ok_truM_bl, ok_mAndV, ok_mOrV, ok_mNotV, ok_mChain, ok_mNoPart, ok_mPart, ok_mSlice, ok_mBack, ok_mCall, ok_mCallK, ok_mMeth, ok_mIter, ok_mRng1, ok_mRng2, ok_mZip, ok_rng1, ok_rng2, ok_gmName, ok_gmNil, ok_gmCons, ok_gmTup, ok_gmSub, sn_nx, sn_rt, sn_ite, sn_sSeq, sn_sNext, sn_sBreak, sn_sCont, sn_sRetN, sn_sExpr, sn_sRet, sn_sIf, sn_sAsg, sn_sPar, sn_sAug, ok_runD, sn_sFor, ok_mComp, ok_mYes, ok_add, ok_addT, ok_sub, ok_mul, ok_div, ok_mod, ok_pow, ok_lt, ok_le, ok_gt, ok_ge, ok_neg, ok_eqI, ok_neI, ok_isN, ok_notN, ok_ixT, ok_ixF, ok_slT, ok_slF, ok_backT, ok_lenT, ok_lenF, ok_abs, ok_max2, ok_min2, ok_intB, ok_divmod, ok_itT, ok_itF, ok_isiII, ok_isiIB, ok_isiIT, ok_isiTT, ok_isiTI, ok_isiSS, getAt0, getAt1, getAt2, wipeM, List.map_cons, List.map_nil, List.cons_append, List.nil_append, List.append_nil, List.length_cons, List.length_nil, List.length_map, Nat.reduceAdd, Nat.reduceSub, List.replicate_zero, List.replicate_succ, List.getElem?_cons_zero, List.getElem?_cons_succ, List.set_cons_zero, List.set_cons_succ, Option.some.injEq, exists_eq_left', MV.bl.injEq, MV.int.injEq, true_and, and_true, Int.reduceLT, Int.reduceLE, Nat.reduceLT, Nat.reduceLeDiff, decide_true, decide_false, Bool.not_true, Bool.not_false, Bool.false_eq_true, if_true, if_false, reduceIte]
      refine (cell_ok (by omega) (by omega)).mono fun v h1 ⟨x, e⟩ => ?_
      subst e
      (try simp only [ok_ok, ok_bind, ok_ite, ok_mVar, ok_mC, ok_mOp, ok_mUn, ok_mNil, ok_mCons, ok_mTup, ok_mLst, ok_mCB, ok_mTest, ok_mAnd, ok_mOr, ok_mNot, ok_mIf, ok_mTru, ok_truM_bl, ok_mAndV, ok_mOrV, ok_mNotV, ok_mChain, ok_mNoPart, ok_mPart, ok_mSlice, ok_mBack, ok_mCall, ok_mCallK, ok_mMeth, ok_mIter, ok_mRng1, ok_mRng2, ok_mZip, ok_rng1, ok_rng2, ok_gmName, ok_gmNil, ok_gmCons, ok_gmTup, ok_gmSub, sn_nx, sn_rt, sn_ite, sn_sSeq, sn_sNext, sn_sBreak, sn_sCont, sn_sRetN, sn_sExpr, sn_sRet, sn_sIf, sn_sAsg, sn_sPar, sn_sAug, ok_runD, sn_sFor, ok_mComp, ok_mYes, ok_add, ok_addT, ok_sub, ok_mul, ok_div, ok_mod, ok_pow, ok_lt, ok_le, ok_gt, ok_ge, ok_neg, ok_eqI, ok_neI, ok_isN, ok_notN, ok_ixT, ok_ixF, ok_slT, ok_slF, ok_backT, ok_lenT, ok_lenF, ok_abs, ok_max2, ok_min2, ok_intB, ok_divmod, ok_itT, ok_itF, ok_isiII, ok_isiIB, ok_isiIT, ok_isiTT, ok_isiTI, ok_isiSS, getAt0, getAt1, getAt2, wipeM, List.map_cons, List.map_nil, List.cons_append, List.nil_append, List.append_nil, List.length_cons, List.length_nil, List.length_map, Nat.reduceAdd, Nat.reduceSub, List.replicate_zero, List.replicate_succ, List.getElem?_cons_zero, List.getElem?_cons_succ, List.set_cons_zero, List.set_cons_succ, Option.some.injEq, exists_eq_left', MV.bl.injEq, MV.int.injEq, true_and, and_true, Int.reduceLT, Int.reduceLE, Nat.reduceLT, Nat.reduceLeDiff, decide_true, decide_false, Bool.not_true, Bool.not_false, Bool.false_eq_true, if_true, if_false, reduceIte])
      refine pool_ok.mono fun v h2 ⟨p, e, P⟩ => ?_
      subst e
      (try simp only [ok_ok, ok_bind, ok_ite, ok_mVar, ok_mC, ok_mOp, ok_mUn, ok_mNil, ok_mCons, ok_mTup, ok_mLst, ok_mCB, ok_mTest, ok_mAnd, ok_mOr, ok_mNot, ok_mIf, ok_mTru, ok_truM_bl, ok_mAndV, ok_mOrV, ok_mNotV, ok_mChain, ok_mNoPart, ok_mPart, ok_mSlice, ok_mBack, ok_mCall, ok_mCallK, ok_mMeth, ok_mIter, ok_mRng1, ok_mRng2, ok_mZip, ok_rng1, ok_rng2, ok_gmName, ok_gmNil, ok_gmCons, ok_gmTup, ok_gmSub, sn_nx, sn_rt, sn_ite, sn_sSeq, sn_sNext, sn_sBreak, sn_sCont, sn_sRetN, sn_sExpr, sn_sRet, sn_sIf, sn_sAsg, sn_sPar, sn_sAug, ok_runD, sn_sFor, ok_mComp, ok_mYes, ok_add, ok_addT, ok_sub, ok_mul, ok_div, ok_mod, ok_pow, ok_lt, ok_le, ok_gt, ok_ge, ok_neg, ok_eqI, ok_neI, ok_isN, ok_notN, ok_ixT, ok_ixF, ok_slT, ok_slF, ok_backT, ok_lenT, ok_lenF, ok_abs, ok_max2, ok_min2, ok_intB, ok_divmod, ok_itT, ok_itF, ok_isiII, ok_isiIB, ok_isiIT, ok_isiTT, ok_isiTI, ok_isiSS, getAt0, getAt1, getAt2, wipeM, List.map_cons, List.map_nil, List.cons_append, List.nil_append, List.append_nil, List.length_cons, List.length_nil, List.length_map, Nat.reduceAdd, Nat.reduceSub, List.replicate_zero, List.replicate_succ, List.getElem?_cons_zero, List.getElem?_cons_succ, List.set_cons_zero, List.set_cons_succ, Option.some.injEq, exists_eq_left', MV.bl.injEq, MV.int.injEq, true_and, and_true, Int.reduceLT, Int.reduceLE, Nat.reduceLT, Nat.reduceLeDiff, decide_true, decide_false, Bool.not_true, Bool.not_false, Bool.false_eq_true, if_true, if_false, reduceIte])
      refine (right_ok P).mono fun v h3 e => ?_
      subst e
      refine ⟨by omega, bs ++ [true], by simp, by simp; omega, fun b hb => ?_⟩
      rcases List.mem_append.mp hb with z | z
      · exact ht b z
      · exact List.mem_singleton.mp z
    · obtain ⟨bs, rfl, hb, ht⟩ := I
      rw [ok_bls new_at]
      have : bs.all id = true := List.all_eq_true.mpr fun b hb => ht b hb
      rw [this]
  obtain ⟨v, h', e, q⟩ := ok_iff.mp key
  subst q
  exact ⟨h', e⟩
end K74

open PySem PySem.W PyProof.Rows
set_option maxRecDepth 100000 in
set_option maxHeartbeats 0 in
theorem PySem.Challenge.cw_cutplans_k74_fewest_lengths_judged_holds : PySem.Challenge.rw_cutplans_k74_fewest_lengths_judged.Holds := by
  w_on; o_law; k_head; (case hw => w_witness2)
  k_fill
  refine Cutp.walkG (l := PySem.Challenge.rw_cutplans_k74_fewest_lengths_judged) (fm := K74.m_law) (x := "_law_script") (k := 7) rfl (by decide) rfl ⟨rfl, by decide, by decide⟩ (fun w h Y => PySem.W.kIn_of Y) ?F K74.plain
  case F =>
    intro w mg fa h KX G hmg
    refine' K74.all_mk KX G hmg ?x_is_between ?l_is_between ?c_is_between ?k_is_between ?x_is_cut_reel ?l_is_cut_reel ?c_is_cut_reel ?k_is_cut_reel ?x_reel_rest ?l_reel_rest ?c_reel_rest ?k_reel_rest ?x_breaks_hold ?l_breaks_hold ?c_breaks_hold ?k_breaks_hold ?x_accepts_at_least ?l_accepts_at_least ?c_accepts_at_least ?k_accepts_at_least ?x_accepts ?l_accepts ?c_accepts ?k_accepts ?x__law_judged ?l__law_judged ?c__law_judged ?k__law_judged ?x__law_draw ?l__law_draw ?c__law_draw ?k__law_draw ?x__law_rest ?l__law_rest ?c__law_rest ?k__law_rest ?x__law_spots ?l__law_spots ?c__law_spots ?k__law_spots ?x__law_times ?l__law_times ?c__law_times ?k__law_times ?x__law_left ?l__law_left ?c__law_left ?k__law_left ?x__law_pairs ?l__law_pairs ?c__law_pairs ?k__law_pairs ?x__law_is_period ?l__law_is_period ?c__law_is_period ?k__law_is_period ?x__law_parts ?l__law_parts ?c__law_parts ?k__law_parts ?x__law_bent_pairs ?l__law_bent_pairs ?c__law_bent_pairs ?k__law_bent_pairs ?x__law_bent ?l__law_bent ?c__law_bent ?k__law_bent ?x__law_holds ?l__law_holds ?c__law_holds ?k__law_holds ?x__law_right ?l__law_right ?c__law_right ?k__law_right ?x__law_pool ?l__law_pool ?c__law_pool ?k__law_pool ?x__law_cell ?l__law_cell ?c__law_cell ?k__law_cell ?x_law ?l_law ?c_law ?k_law ?b_abs ?b_all ?b_bool ?b_divmod ?b_int ?b_isinstance ?b_len ?b_max ?b_min ?b_range ?b_repr ?b_sorted ?b_str ?b_tuple ?b_zip ?g_LONGEST ?g_MOST_CUTS ?m_JUDGES ?at_JUDGES ?lit_JUDGES ?low_JUDGES ?it_JUDGES_0
    (case x_is_between => k_is)
    (case l_is_between => k_is)
    (case c_is_between => k_is)
    (case k_is_between => k_is)
    (case x_is_cut_reel => k_is)
    (case l_is_cut_reel => k_is)
    (case c_is_cut_reel => k_is)
    (case k_is_cut_reel => k_is)
    (case x_reel_rest => k_is)
    (case l_reel_rest => k_is)
    (case c_reel_rest => k_is)
    (case k_reel_rest => k_is)
    (case x_breaks_hold => k_is)
    (case l_breaks_hold => k_is)
    (case c_breaks_hold => k_is)
    (case k_breaks_hold => k_is)
    (case x_accepts_at_least => k_is)
    (case l_accepts_at_least => k_is)
    (case c_accepts_at_least => k_is)
    (case k_accepts_at_least => k_is)
    (case x_accepts => k_is)
    (case l_accepts => k_is)
    (case c_accepts => k_is)
    (case k_accepts => k_is)
    (case x__law_judged => k_is)
    (case l__law_judged => k_is)
    (case c__law_judged => k_is)
    (case k__law_judged => k_is)
    (case x__law_draw => k_is)
    (case l__law_draw => k_is)
    (case c__law_draw => k_is)
    (case k__law_draw => k_is)
    (case x__law_rest => k_is)
    (case l__law_rest => k_is)
    (case c__law_rest => k_is)
    (case k__law_rest => k_is)
    (case x__law_spots => k_is)
    (case l__law_spots => k_is)
    (case c__law_spots => k_is)
    (case k__law_spots => k_is)
    (case x__law_times => k_is)
    (case l__law_times => k_is)
    (case c__law_times => k_is)
    (case k__law_times => k_is)
    (case x__law_left => k_is)
    (case l__law_left => k_is)
    (case c__law_left => k_is)
    (case k__law_left => k_is)
    (case x__law_pairs => k_is)
    (case l__law_pairs => k_is)
    (case c__law_pairs => k_is)
    (case k__law_pairs => k_is)
    (case x__law_is_period => k_is)
    (case l__law_is_period => k_is)
    (case c__law_is_period => k_is)
    (case k__law_is_period => k_is)
    (case x__law_parts => k_is)
    (case l__law_parts => k_is)
    (case c__law_parts => k_is)
    (case k__law_parts => k_is)
    (case x__law_bent_pairs => k_is)
    (case l__law_bent_pairs => k_is)
    (case c__law_bent_pairs => k_is)
    (case k__law_bent_pairs => k_is)
    (case x__law_bent => k_is)
    (case l__law_bent => k_is)
    (case c__law_bent => k_is)
    (case k__law_bent => k_is)
    (case x__law_holds => k_is)
    (case l__law_holds => k_is)
    (case c__law_holds => k_is)
    (case k__law_holds => k_is)
    (case x__law_right => k_is)
    (case l__law_right => k_is)
    (case c__law_right => k_is)
    (case k__law_right => k_is)
    (case x__law_pool => k_is)
    (case l__law_pool => k_is)
    (case c__law_pool => k_is)
    (case k__law_pool => k_is)
    (case x__law_cell => k_is)
    (case l__law_cell => k_is)
    (case c__law_cell => k_is)
    (case k__law_cell => k_is)
    (case x_law => k_is)
    (case l_law => k_is)
    (case c_law => k_is)
    (case k_law => k_is)
    (case b_abs => k_is)
    (case b_all => k_is)
    (case b_bool => k_is)
    (case b_divmod => k_is)
    (case b_int => k_is)
    (case b_isinstance => k_is)
    (case b_len => k_is)
    (case b_max => k_is)
    (case b_min => k_is)
    (case b_range => k_is)
    (case b_repr => k_is)
    (case b_sorted => k_is)
    (case b_str => k_is)
    (case b_tuple => k_is)
    (case b_zip => k_is)
    (case g_LONGEST => k_is)
    (case g_MOST_CUTS => k_is)
    (case m_JUDGES => k_is)
    (case at_JUDGES => k_is)
    (case lit_JUDGES => k_keys)
    (case low_JUDGES => exact rfl)
    (case it_JUDGES_0 => k_is)
#print axioms PySem.Challenge.cw_cutplans_k74_fewest_lengths_judged_holds
