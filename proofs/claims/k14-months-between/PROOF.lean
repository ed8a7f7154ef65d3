import PyProof.Rows.All
import Wide.All
import OpenK.AllK
import Wide.FinOn
import HandS.ForMost
import HandS.Flow
import HandS.Defaults
import HandS.Wide
import HandS.SortInts
import HandS.SortRule
import HandS.IsInst
import HandS.More
import HandS.Conv
import HandS.Zip
import HandS.HeadHook1
import HandS.HeadHook2
import HandS.HeadEnd
import KE.KStateDown
import HandS.Head0
import HandS.Head1
import HandS.Head2
import HandS.HeadHook3
import HandS.HeadHook4
import PySem.Challenge.RW_loanroll_k14_months_between
set_option Elab.async false
set_option linter.all false
set_option maxRecDepth 100000
set_option maxHeartbeats 2000000
/-! THE PURE READING: data D, owned data M, the relation to the abstract heap. -/
namespace Z
open PySem PySem.Spec PyProof.Rows L2

/-- data without addresses -/
inductive D where
  | non | bl (b : Bool) | int (i : Int) | str (s : Str)
  | tup (l : List D) | lst (l : List D) | dct (l : List (Key × D)) | ins (c : Nat) (l : List (Nat × D))
  /-- the script; a tuple of the module: read alone -/
  | scr (l : List Int) | ktp (l : List D)
/-- what a slot holds: shared data, or a thing of its own -/
inductive M where
  | fz (d : D) | lst (l : List D) | dct (l : List (Key × D)) | ins (c : Nat) (l : List (Nat × M))
mutual
def M.er : M → D
  | .fz d => d
  | .lst l => .lst l
  | .dct l => .dct l
  | .ins c l => .ins c (M.erL l)
def M.erL : List (Nat × M) → List (Nat × D)
  | [] => []
  | (f, m) :: r => (f, m.er) :: M.erL r
end
inductive R (α : Type) where
  | ok (a : α) | exc (c : Nat) (ds : List D) | stuck
def R.bind {α β : Type} (x : R α) (f : α → R β) : R β := match x with
  | .ok a => f a
  | .exc c ds => .exc c ds
  | .stuck => .stuck
@[simp] theorem R.bind_ok {α β : Type} (a : α) (f : α → R β) : (R.ok a).bind f = f a := rfl
@[simp] theorem R.bind_exc {α β : Type} (c ds) (f : α → R β) : (R.exc c ds).bind f = .exc c ds := rfl
@[simp] theorem R.bind_stuck {α β : Type} (f : α → R β) : (R.stuck).bind f = .stuck := rfl
theorem R.bind_eq {α β : Type} {x : R α} {f : α → R β} {b : β} (h : x.bind f = .ok b) : ∃ a, x = .ok a ∧ f a = .ok b := by
  cases x with
  | ok a => exact ⟨a, rfl, h⟩
  | exc c ds => cases h
  | stuck => cases h

inductive Col where
  | no | fz | bor | lck (i : Nat) (p : List Nat) | own (i : Nat) (p : List Nat)
structure Kx where
  K : PySem.W.Frag
  cls : Nat → Addr
  nc : Nat
  fn : Nat → Str
  nf : Nat
abbrev Colr := Addr → Col
abbrev nil0 : Hp := fun _ => none
def SqLc (κ : Kx) (c : Colr) (H : Hp) (a : Addr) (vs : List V) : Prop := (c a = .fz ∧ Rd H a (.lst vs)) ∨ SqL κ.K nil0 a vs
def SqTc (κ : Kx) (c : Colr) (H : Hp) (a : Addr) (vs : List V) : Prop := c a = .fz ∧ H a = some (.tup vs)
theorem SqL.nil0 {K : PySem.W.Frag} {a : Addr} {vs : List V} (h : SqL K nil0 a vs) (H : Hp) : SqL K H a vs := by
  rcases h with (h | ⟨o, h⟩) | h
  · cases h
  · cases h
  · exact .inr h
theorem SqT.nil0 {K : PySem.W.Frag} {a : Addr} {vs : List V} (h : SqT K nil0 a vs) (H : Hp) : SqT K H a vs := by
  rcases h with (h | ⟨o, h⟩) | h
  · cases h
  · cases h
  · exact .inr h
theorem SqLc.sq {κ : Kx} {c : Colr} {H : Hp} {a : Addr} {vs : List V} (h : SqLc κ c H a vs) : SqL κ.K H a vs := by
  rcases h with ⟨_, h⟩ | h
  · exact .inl h
  · exact SqL.nil0 h H
theorem SqTc.sq {κ : Kx} {c : Colr} {H : Hp} {a : Addr} {vs : List V} (h : SqTc κ c H a vs) : SqT κ.K H a vs := .inl (.inl h.2)
/-- what is frozen stays: the colours and the objects -/
def Stay (c : Colr) (H : Hp) (c' : Colr) (H' : Hp) : Prop := ∀ a o, H a = some o → c a = .fz → H' a = some o ∧ c' a = .fz
theorem Stay.rd {c c' : Colr} {H H' : Hp} {a : Addr} {u : HO} (k : Stay c H c' H') (f : c a = .fz) (h : Rd H a u) : c' a = .fz ∧ Rd H' a u := by
  rcases h with h | ⟨o, h⟩
  · exact ⟨(k a _ h f).2, .inl (k a _ h f).1⟩
  · exact ⟨(k a _ h f).2, .inr ⟨o, (k a _ h f).1⟩⟩
theorem SqLc.stay {κ : Kx} {c c' : Colr} {H H' : Hp} {a : Addr} {vs : List V} (k : Stay c H c' H') (h : SqLc κ c H a vs) : SqLc κ c' H' a vs := by
  rcases h with ⟨f, h⟩ | h
  · exact .inl (k.rd f h)
  · exact .inr h
theorem SqTc.stay {κ : Kx} {c c' : Colr} {H H' : Hp} {a : Addr} {vs : List V} (k : Stay c H c' H') (h : SqTc κ c H a vs) : SqTc κ c' H' a vs := ⟨(k a _ h.2 h.1).2, (k a _ h.2 h.1).1⟩
mutual
inductive Fz (κ : Kx) (c : Colr) (H : Hp) : V → D → Prop
  | non : Fz κ c H .non .non
  | bl (b : Bool) : Fz κ c H (.bl b) (.bl b)
  | int (i : Int) : Fz κ c H (.int i) (.int i)
  | str (s : Str) : Fz κ c H (.str s) (.str s)
  | tup {a : Addr} {vs : List V} {ds : List D} : SqTc κ c H a vs → FzL κ c H vs ds → Fz κ c H (.ref a) (.tup ds)
  | lst {a : Addr} {vs : List V} {ds : List D} : c a = .fz → H a = some (.lst vs) → FzL κ c H vs ds → Fz κ c H (.ref a) (.lst ds)
  | scr {a : Addr} {ns : List Int} : SqLc κ c H a (ns.map V.int) → Fz κ c H (.ref a) (.scr ns)
  | ktp {a : Addr} {vs : List V} {ds : List D} : SqT κ.K nil0 a vs → FzL κ c H vs ds → Fz κ c H (.ref a) (.ktp ds)
  | dct {a : Addr} {kvs : List (Key × V)} {ds : List (Key × D)} : c a = .fz → H a = some (.dK kvs) → FzK κ c H kvs ds → Fz κ c H (.ref a) (.dct ds)
  | ins {a dx : Addr} {n : Nat} {fvs : List (Str × V)} {fs : List (Nat × D)} : c a = .fz → H a = some (.ins (κ.cls n) dx fvs) → n < κ.nc → FzF κ c H fvs fs → Fz κ c H (.ref a) (.ins n fs)
inductive FzL (κ : Kx) (c : Colr) (H : Hp) : List V → List D → Prop
  | nil : FzL κ c H [] []
  | cons {v : V} {vs : List V} {d : D} {ds : List D} : Fz κ c H v d → FzL κ c H vs ds → FzL κ c H (v :: vs) (d :: ds)
inductive FzK (κ : Kx) (c : Colr) (H : Hp) : List (Key × V) → List (Key × D) → Prop
  | nil : FzK κ c H [] []
  | cons {k : Key} {v : V} {vs : List (Key × V)} {d : D} {ds : List (Key × D)} : Fz κ c H v d → FzK κ c H vs ds → FzK κ c H ((k, v) :: vs) ((k, d) :: ds)
inductive FzF (κ : Kx) (c : Colr) (H : Hp) : List (Str × V) → List (Nat × D) → Prop
  | nil : FzF κ c H [] []
  | cons {f : Nat} {v : V} {vs : List (Str × V)} {d : D} {ds : List (Nat × D)} : f < κ.nf → Fz κ c H v d → FzF κ c H vs ds → FzF κ c H ((κ.fn f, v) :: vs) ((f, d) :: ds)
end
section
variable {κ : Kx} {c c' : Colr} {H H' : Hp}
mutual
theorem Fz.stay (k : Stay c H c' H') : ∀ {v : V} {d : D}, Fz κ c H v d → Fz κ c' H' v d
  | _, _, .non => .non
  | _, _, .bl b => .bl b
  | _, _, .int i => .int i
  | _, _, .str s => .str s
  | _, _, .tup h l => .tup (h.stay k) (FzL.stay k l)
  | _, _, .lst f h l => .lst (k _ _ h f).2 (k _ _ h f).1 (FzL.stay k l)
  | _, _, .scr h => .scr (h.stay k)
  | _, _, .ktp h l => .ktp h (FzL.stay k l)
  | _, _, .dct f h l => .dct (k _ _ h f).2 (k _ _ h f).1 (FzK.stay k l)
  | _, _, .ins f h n l => .ins (k _ _ h f).2 (k _ _ h f).1 n (FzF.stay k l)
theorem FzL.stay (k : Stay c H c' H') : ∀ {v : List V} {d : List D}, FzL κ c H v d → FzL κ c' H' v d
  | _, _, .nil => .nil
  | _, _, .cons h l => .cons (Fz.stay k h) (FzL.stay k l)
theorem FzK.stay (k : Stay c H c' H') : ∀ {v : List (Key × V)} {d : List (Key × D)}, FzK κ c H v d → FzK κ c' H' v d
  | _, _, .nil => .nil
  | _, _, .cons h l => .cons (Fz.stay k h) (FzK.stay k l)
theorem FzF.stay (k : Stay c H c' H') : ∀ {v : List (Str × V)} {d : List (Nat × D)}, FzF κ c H v d → FzF κ c' H' v d
  | _, _, .nil => .nil
  | _, _, .cons n h l => .cons n (Fz.stay k h) (FzF.stay k l)
end
end
abbrev Pth := List Nat → Addr → Prop
mutual
inductive Own (κ : Kx) (c : Colr) (H : Hp) : Pth → V → M → Prop
  | fz {P : Pth} {v : V} {d : D} : Fz κ c H v d → Own κ c H P v (.fz d)
  | lst {P : Pth} {a : Addr} {vs : List V} {ds : List D} : P [] a → H a = some (.lst vs) → FzL κ c H vs ds → Own κ c H P (.ref a) (.lst ds)
  | dct {P : Pth} {a : Addr} {kvs : List (Key × V)} {ds : List (Key × D)} : P [] a → H a = some (.dK kvs) → FzK κ c H kvs ds → Own κ c H P (.ref a) (.dct ds)
  | ins {P : Pth} {a dx : Addr} {n : Nat} {fvs : List (Str × V)} {fs : List (Nat × M)} : P [] a → H a = some (.ins (κ.cls n) dx fvs) → n < κ.nc → OwnF κ c H P fvs fs → Own κ c H P (.ref a) (.ins n fs)
inductive OwnF (κ : Kx) (c : Colr) (H : Hp) : Pth → List (Str × V) → List (Nat × M) → Prop
  | nil {P : Pth} : OwnF κ c H P [] []
  | cons {P : Pth} {f : Nat} {v : V} {vs : List (Str × V)} {m : M} {ms : List (Nat × M)} : f < κ.nf → Own κ c H (fun p => P (f :: p)) v m → OwnF κ c H P vs ms → OwnF κ c H P ((κ.fn f, v) :: vs) ((f, m) :: ms)
end
section
variable {κ : Kx} {c c' : Colr} {H H' : Hp}
-- an owned thing stays where its own objects do
mutual
theorem Own.stay (k : Stay c H c' H') : ∀ {P P' : Pth} {v : V} {m : M}, (∀ p a o, P p a → H a = some o → P' p a ∧ H' a = some o) → Own κ c H P v m → Own κ c' H' P' v m
  | _, _, _, _, q, .fz h => .fz (h.stay k)
  | _, _, _, _, q, .lst p h l => .lst (q _ _ _ p h).1 (q _ _ _ p h).2 (l.stay k)
  | _, _, _, _, q, .dct p h l => .dct (q _ _ _ p h).1 (q _ _ _ p h).2 (l.stay k)
  | _, _, _, _, q, .ins p h n l => .ins (q _ _ _ p h).1 (q _ _ _ p h).2 n (OwnF.stay k q l)
theorem OwnF.stay (k : Stay c H c' H') : ∀ {P P' : Pth} {v : List (Str × V)} {m : List (Nat × M)}, (∀ p a o, P p a → H a = some o → P' p a ∧ H' a = some o) → OwnF κ c H P v m → OwnF κ c' H' P' v m
  | _, _, _, _, q, .nil => .nil
  | _, _, _, _, q, .cons n h l => .cons n (Own.stay k (fun p a o => q (_ :: p) a o) h) (OwnF.stay k q l)
end
-- what is owned may be frozen
mutual
theorem Own.freeze (k : Stay c H c' H') : ∀ {P : Pth} {v : V} {m : M}, (∀ p a o, P p a → H a = some o → c' a = .fz ∧ H' a = some o) → Own κ c H P v m → Fz κ c' H' v m.er
  | _, _, _, q, .fz h => h.stay k
  | _, _, _, q, .lst p h l => .lst (q _ _ _ p h).1 (q _ _ _ p h).2 (l.stay k)
  | _, _, _, q, .dct p h l => .dct (q _ _ _ p h).1 (q _ _ _ p h).2 (l.stay k)
  | _, _, _, q, .ins p h n l => .ins (q _ _ _ p h).1 (q _ _ _ p h).2 n (OwnF.freeze k q l)
theorem OwnF.freeze (k : Stay c H c' H') : ∀ {P : Pth} {v : List (Str × V)} {m : List (Nat × M)}, (∀ p a o, P p a → H a = some o → c' a = .fz ∧ H' a = some o) → OwnF κ c H P v m → FzF κ c' H' v (M.erL m)
  | _, _, _, q, .nil => .nil
  | _, _, _, q, .cons n h l => .cons n (Own.freeze k (fun p a o => q (_ :: p) a o) h) (OwnF.freeze k q l)
end
end
end Z

set_option Elab.async false
set_option linter.all false
set_option maxRecDepth 100000
set_option maxHeartbeats 2000000
namespace Z
open PySem PySem.Spec PyProof.Rows L2
abbrev Env := List (Option M)
/-- the slots that are lent or locked; the parameters that are changed for the caller -/
structure Md where
  ro : List Nat
  lk : List Nat
  mu : List Nat
def Md.contains (m : Md) (i : Nat) : Bool := m.ro.contains i || m.lk.contains i
def Md.lock (m : Md) (i : Nat) : Md := ⟨m.ro, i :: m.lk, m.mu⟩
theorem Md.lock_self (m : Md) (i : Nat) : (m.lock i).lk.contains i = true := by unfold Md.lock; simp
theorem Md.lock_ne (m : Md) {i j : Nat} (h : j ≠ i) : (m.lock i).lk.contains j = m.lk.contains j := by
  unfold Md.lock
  rw [List.contains_cons, beq_eq_false_iff_ne.mpr h, Bool.false_or]
theorem Md.not {m : Md} {i : Nat} (h : m.contains i = false) : m.ro.contains i = false ∧ m.lk.contains i = false := by
  unfold Md.contains at h
  exact Bool.or_eq_false_iff.mp h
/-- a slot's own objects: lent ones are not to be changed -/
def slotP (ro : Md) (c : Colr) (i : Nat) : Pth := fun p a => if ro.ro.contains i then c a = Col.bor else if ro.lk.contains i then c a = Col.lck i p else c a = Col.own i p
theorem slotP_fz {ro : Md} {c : Colr} {i : Nat} {p : List Nat} {a : Addr} (h : slotP ro c i p a) : c a ≠ .fz := by
  intro z
  unfold slotP at h
  rw [z] at h
  split at h
  · cases h
  · split at h <;> cases h
structure EnvR (κ : Kx) (ro : Md) (c : Colr) (H : Hp) (σ : L2.St) (env : Env) : Prop where
  al : ∀ a, H a = none → c a = .no
  len : σ.length = env.length
  bo : ∀ a i p, c a = .lck i p → ro.lk.contains i = true
  sl : ∀ (i : Nat) (m : M), env[i]? = some (some m) → ∃ v, σ[i]? = some (some v) ∧ Own κ c H (slotP ro c i) v m
/-- a pure step: the heap grows, new things are frozen or uncoloured -/
structure Ext (c : Colr) (H : Hp) (c' : Colr) (H' : Hp) : Prop where
  old : ∀ a o, H a = some o → H' a = some o ∧ c' a = c a
  new : ∀ a, H a = none → c' a = .no ∨ c' a = .fz
  al : ∀ a, H' a = none → c' a = .no
theorem Ext.refl {c : Colr} {H : Hp} (al : ∀ a, H a = none → c a = .no) : Ext c H c H := ⟨fun _ _ e => ⟨e, rfl⟩, fun a n => .inl (al a n), al⟩
theorem Ext.trans {c c1 c2 : Colr} {H H1 H2 : Hp} (x : Ext c H c1 H1) (y : Ext c1 H1 c2 H2) : Ext c H c2 H2 := by
  refine ⟨fun a o e => ?_, fun a n => ?_, y.al⟩
  · obtain ⟨e1, k1⟩ := x.old a o e
    obtain ⟨e2, k2⟩ := y.old a o e1
    exact ⟨e2, k2.trans k1⟩
  · cases q : H1 a with
    | none => exact y.new a q
    | some o =>
      rw [(y.old a o q).2]
      exact x.new a n
theorem Ext.stay {c c' : Colr} {H H' : Hp} (x : Ext c H c' H') : Stay c H c' H' := fun a o e f => ⟨(x.old a o e).1, (x.old a o e).2.trans f⟩
theorem Ext.nn {c c' : Colr} {H H' : Hp} (x : Ext c H c' H') {a : Addr} (h : H' a = none) : H a = none := by
  cases q : H a with
  | none => rfl
  | some o => rw [(x.old a o q).1] at h; cases h
theorem Ext.bo {c c' : Colr} {H H' : Hp} (x : Ext c H c' H') {ro : Md} (b : ∀ a i p, c a = .lck i p → ro.lk.contains i = true) {a : Addr} {i : Nat} {p : List Nat} (e : c' a = .lck i p) : ro.lk.contains i = true := by
  cases q : H a with
  | none => rcases x.new a q with z | z <;> rw [z] at e <;> cases e
  | some o => exact b a i p (by rw [← (x.old a o q).2]; exact e)
section
variable {κ : Kx} {ro : Md} {c c' : Colr} {H H' : Hp} {σ : L2.St} {env : Env}
theorem Own.ext (x : Ext c H c' H') {P : Pth} {v : V} {m : M} (h : Own κ c H P v m) : Own κ c' H' P v m :=
  Own.stay x.stay (fun _ a o p e => ⟨p, (x.old a o e).1⟩) h
theorem EnvR.ext (x : Ext c H c' H') (R : EnvR κ ro c H σ env) : EnvR κ ro c' H' σ env :=
  ⟨x.al, R.len, fun a i p e => x.bo R.bo e, fun i m e => by
    obtain ⟨v, e1, o⟩ := R.sl i m e
    refine ⟨v, e1, Own.stay x.stay (fun p a ob q ha => ⟨?_, (x.old a ob ha).1⟩) o⟩
    unfold slotP at q ⊢
    rw [(x.old a ob ha).2]
    exact q⟩
end
/-- the result of a pure expression, whoever owns it -/
def Lent (κ : Kx) (c : Colr) (H : Hp) (v : V) (m : M) : Prop := ∃ P : Pth, (∀ p a, P p a → c a ≠ .fz ∧ H a ≠ none) ∧ Own κ c H P v m
theorem Own.here {κ : Kx} {c : Colr} {H : Hp} {P : Pth} {v : V} {m : M} (o : Own κ c H P v m) : Own κ c H (fun p a => P p a ∧ H a ≠ none) v m :=
  Own.stay (P' := fun p a => P p a ∧ H a ≠ none) (fun a o e f => ⟨e, f⟩) (fun p a ob h ha => ⟨⟨h, by rw [ha]; simp⟩, ha⟩) o
theorem Own.lent {κ : Kx} {c : Colr} {H : Hp} {P : Pth} {v : V} {m : M} (o : Own κ c H P v m) (h : ∀ p a, P p a → c a ≠ .fz) : Lent κ c H v m :=
  ⟨fun p a => P p a ∧ H a ≠ none, fun p a q => ⟨h p a q.1, q.2⟩, o.here⟩
theorem Lent.ext {κ : Kx} {c c' : Colr} {H H' : Hp} {v : V} {m : M} (x : Ext c H c' H') : Lent κ c H v m → Lent κ c' H' v m := fun ⟨P, h, o⟩ =>
  ⟨P, fun p a q => by
    obtain ⟨h1, h2⟩ := h p a q
    cases e : H a with
    | none => exact absurd e h2
    | some ob =>
      obtain ⟨e1, e2⟩ := x.old a ob e
      exact ⟨by rw [e2]; exact h1, by rw [e1]; simp⟩, o.ext x⟩
def pB (κ : Kx) (c : Colr) (H : Hp) (m : M) (Q : VK) : Prop := ∀ (v : V) (c' : Colr) (H' : Hp), Ext c H c' H' → Lent κ c' H' v m → Q v H'
/-- .. a thing of its own: new, uncoloured -/
structure New (c' : Colr) (H : Hp) (P : Pth) : Prop where
  fresh : ∀ p a, P p a → H a = none ∧ c' a = .no
  one : ∀ p q a, P p a → P q a → p = q
def pV (κ : Kx) (c : Colr) (H : Hp) (m : M) (Q : VK) : Prop := ∀ (v : V) (c' : Colr) (H' : Hp) (P : Pth), Ext c H c' H' → New c' H P → Own κ c' H' P v m → Q v H'
theorem pV_of {κ : Kx} {c : Colr} {H : Hp} {m : M} {Q : VK} (h : pB κ c H m Q) : pV κ c H m Q := fun v c' H' P x n o => h v c' H' x (o.lent fun p a q z => by rw [(n.fresh p a q).2] at z; cases z)
abbrev noP : Pth := fun _ _ => False
theorem New.no {c' : Colr} {H : Hp} : New c' H noP := ⟨fun _ _ h => h.elim, fun _ _ _ h => h.elim⟩
abbrev SemE := Env → R M
abbrev SemT := Env → R Bool
def tB (κ : Kx) (ro : Md) (f : SemE) : TE := fun σ H Q => ∃ c env, EnvR κ ro c H σ env ∧ ∃ m, f env = .ok m ∧ pB κ c H m Q
def tV (κ : Kx) (ro : Md) (f : SemE) : TE := fun σ H Q => ∃ c env, EnvR κ ro c H σ env ∧ ∃ m, f env = .ok m ∧ pV κ c H m Q
def tT (κ : Kx) (ro : Md) (f : SemT) : TT := fun σ H Q => ∃ c env, EnvR κ ro c H σ env ∧ ∃ b, f env = .ok b ∧ ∀ c' H', Ext c H c' H' → Q b H'
def pL (κ : Kx) (c : Colr) (H : Hp) (ms : List M) (Q : List V → Hp → Prop) : Prop := ∀ (vs : List V) (c' : Colr) (H' : Hp), Ext c H c' H' → Paired (Lent κ c' H') vs ms → Q vs H'
/-- arguments, borrowed -/
def tA (κ : Kx) (ro : Md) (f : Env → R (List M)) : TA := fun σ H Q => ∃ c env, EnvR κ ro c H σ env ∧ ∃ ms, f env = .ok ms ∧ pL κ c H ms Q
/-- where the reading is taken: the context's names -/
structure At (X : Cx) (κ : Kx) : Prop where
  K : X.K = κ.K
theorem PE.imp {X : Cx} {e : Expr} {t t' : TE} (h : PE X e t) (k : ∀ σ H Q, t' σ H Q → t σ H Q) : PE X e t' := ⟨fun pins s σ H Q I q => h.run pins s σ H Q I (k σ H Q q)⟩
theorem PT.imp {X : Cx} {e : Expr} {t t' : TT} (h : PT X e t) (k : ∀ σ H Q, t' σ H Q → t σ H Q) : PT X e t' := ⟨fun pins s σ H Q I q => h.run pins s σ H Q I (k σ H Q q)⟩
theorem PW.imp {X : Cx} {e : Expr} {t t' : TT} (h : PW X e t) (k : ∀ σ H Q, t' σ H Q → t σ H Q) : PW X e t' := ⟨fun wh pins s σ H Q I q => h.run wh pins s σ H Q I (k σ H Q q)⟩
theorem PA.imp {X : Cx} {e : List Expr} {t t' : TA} (h : PA X e t) (k : ∀ σ H Q, t' σ H Q → t σ H Q) : PA X e t' := ⟨fun po pins s σ H Q I q => h.run po pins s σ H Q I (k σ H Q q)⟩
theorem PS.imp {X : Cx} {e : Stmt} {t t' : TS} (h : PS X e t) (k : ∀ D σ H, t' D σ H → t D σ H) : PS X e t' := ⟨fun pins s σ H D I q => h.run pins s σ H D I (k D σ H q)⟩
theorem PSs.imp {X : Cx} {e : List Stmt} {t t' : TS} (h : PSs X e t) (k : ∀ D σ H, t' D σ H → t D σ H) : PSs X e t' := ⟨fun pins s σ H D I q => h.run pins s σ H D I (k D σ H q)⟩
abbrev BE (X : Cx) (κ : Kx) (ro : Md) (e : Expr) (f : SemE) : Prop := PE X e (tB κ ro f)
abbrev VE (X : Cx) (κ : Kx) (ro : Md) (e : Expr) (f : SemE) : Prop := PE X e (tV κ ro f)
abbrev TB (X : Cx) (κ : Kx) (ro : Md) (e : Expr) (f : SemT) : Prop := PT X e (tT κ ro f)
abbrev AB (X : Cx) (κ : Kx) (ro : Md) (e : List Expr) (f : Env → R (List M)) : Prop := PA X e (tA κ ro f)
section
variable {X : Cx} {κ : Kx} {ro : Md}
theorem VE.b {e : Expr} {f : SemE} (h : VE X κ ro e f) : BE X κ ro e f := PE.imp h fun σ H Q ⟨c, env, R, m, e, q⟩ => ⟨c, env, R, m, e, pV_of q⟩
/-! ### constants, names -/
def fC (d : D) : SemE := fun _ => .ok (.fz d)
def fVar (i : Nat) : SemE := fun env => match env[i]? with
  | some (some m) => .ok m
  | _ => .stuck
theorem fz_here {c : Colr} {H : Hp} {σ : L2.St} {env : Env} {v : V} {d : D} {Q : VK} (R : EnvR κ ro c H σ env) (h : Fz κ c H v d) (q : pV κ c H (.fz d) Q) : Q v H :=
  q v c H noP (Ext.refl R.al) New.no (.fz h)
theorem v_int {i j pos} : VE X κ ro (.Constant (.int i) j pos) (fC (.int i)) := PE.imp pe_int fun σ H Q ⟨c, env, R, m, e, q⟩ => by
  cases e
  exact fz_here R (.int i) q
theorem v_bl {i j pos} : VE X κ ro (.Constant (.bool i) j pos) (fC (.bl i)) := PE.imp pe_bl fun σ H Q ⟨c, env, R, m, e, q⟩ => by
  cases e
  exact fz_here R (.bl i) q
theorem v_str {i j pos} : VE X κ ro (.Constant (.str i) j pos) (fC (.str i)) := PE.imp pe_str fun σ H Q ⟨c, env, R, m, e, q⟩ => by
  cases e
  exact fz_here R (.str i) q
theorem v_non {j pos} : VE X κ ro (.Constant .none j pos) (fC .non) := PE.imp pe_non fun σ H Q ⟨c, env, R, m, e, q⟩ => by
  cases e
  exact fz_here R .non q
theorem fVar_ok {i : Nat} {env : Env} {m : M} (h : fVar i env = .ok m) : env[i]? = some (some m) := by
  unfold fVar at h
  split at h
  · next e => cases h; exact e
  · cases h
theorem b_var {i : Nat} {x : Str} {pos : Pos} (hN : X.N[i]? = some x) (hv : Vis X.env.scope x) (hd : (x == ("__debug__" : Str)) = false := by decide) (hcd : (x == ("__classdict__" : Str)) = false := by decide) : BE X κ ro (.Name x pos) (fVar i) :=
  PE.imp (pe_var hN hv hd hcd) fun σ H Q ⟨c, env, R, m, e, q⟩ => by
    obtain ⟨v, e1, o⟩ := R.sl i m (fVar_ok e)
    exact ⟨v, e1, q v c H (Ext.refl R.al) (o.lent fun p a => slotP_fz)⟩
/-- a name as a value: what it holds must be shared -/
def fUse (i : Nat) : SemE := fun env => match env[i]? with
  | some (some (.fz d)) => .ok (.fz d)
  | _ => .stuck
theorem v_var {i : Nat} {x : Str} {pos : Pos} (hN : X.N[i]? = some x) (hv : Vis X.env.scope x) (hd : (x == ("__debug__" : Str)) = false := by decide) (hcd : (x == ("__classdict__" : Str)) = false := by decide) : VE X κ ro (.Name x pos) (fUse i) :=
  PE.imp (pe_var hN hv hd hcd) fun σ H Q ⟨c, env, R, m, e, q⟩ => by
    unfold fUse at e
    split at e
    · next d h =>
      cases e
      obtain ⟨v, e1, o⟩ := R.sl i _ h
      cases o with
      | fz o => exact ⟨v, e1, fz_here R o q⟩
    · cases e
/-! ### operators by values -/
/-- what an operator's rule must give: from the operands as they stand -/
def OpS (κ : Kx) (r : R2) (op : M → M → R M) : Prop :=
  ∀ (c : Colr) (H : Hp) (x y : V) (m n k : M) (Q : VK), (∀ a, H a = none → c a = .no) → Lent κ c H x m → Lent κ c H y n → op m n = .ok k → pV κ c H k Q → r x y H Q
def fBin (op : M → M → R M) (f g : SemE) : SemE := fun env => (f env).bind fun x => (g env).bind fun y => op x y
theorem tOp_of {r : R2} {op : M → M → R M} {f g : SemE} (h : OpS κ r op) {σ : L2.St} {H : Hp} {Q : VK} (q : tV κ ro (fBin op f g) σ H Q) : tOp r (tB κ ro f) (tB κ ro g) σ H Q := by
  obtain ⟨c, env, R, m, e, q⟩ := q
  obtain ⟨m1, e1, e⟩ := Z.R.bind_eq e
  obtain ⟨m2, e2, e⟩ := Z.R.bind_eq e
  refine ⟨c, env, R, m1, e1, fun x c1 H1 x1 o1 => ?_⟩
  refine ⟨c1, env, R.ext x1, m2, e2, fun y c2 H2 x2 o2 => ?_⟩
  refine h c2 H2 x y m1 m2 m Q x2.al (o1.ext x2) o2 e fun v c3 H3 P3 x3 n3 o3 => ?_
  refine q v c3 H3 P3 ((x1.trans x2).trans x3) ⟨fun p a h => ?_, n3.one⟩ o3
  obtain ⟨k1, k2⟩ := n3.fresh p a h
  exact ⟨x1.nn (x2.nn k1), k2⟩
theorem v_op {op : Operator} {r : R2} {o : M → M → R M} {a b : Expr} {f g : SemE} {pos : Pos} (ho : OpR X (binaryOp op) r) (hs : OpS κ r o) (ha : BE X κ ro a f) (hb : BE X κ ro b g) : VE X κ ro (.BinOp a op b pos) (fBin o f g) :=
  PE.imp (pe_op ho ha hb) fun _ _ _ q => tOp_of hs q
theorem v_cmp {op : CmpOp} {r : R2} {o : M → M → R M} {a b : Expr} {f g : SemE} {pos : Pos} (ho : OpR X (compareOp op) r) (hs : OpS κ r o) (ha : BE X κ ro a f) (hb : BE X κ ro b g) (hm : behindInMarks op b = false) : VE X κ ro (.Compare a [op] [b] pos) (fBin o f g) :=
  PE.imp (pe_cmpR ho ha hb hm) fun _ _ _ q => tOp_of hs q
/-- a truth, of a truth alone -/
def blM : M → R Bool
  | .fz (.bl b) => .ok b
  | _ => .stuck
theorem blM_ok {m : M} {b : Bool} (h : blM m = .ok b) : m = .fz (.bl b) := by
  cases m with
  | fz d => cases d with
    | bl x => cases h; rfl
    | _ => cases h
  | _ => cases h
def fTest (f : SemE) : SemT := fun env => (f env).bind blM
theorem Own.bl {c : Colr} {H : Hp} {P : Pth} {v : V} {b : Bool} (h : Own κ c H P v (.fz (.bl b))) : v = .bl b := by
  cases h with
  | fz h => cases h; rfl
theorem tTest_of {t : TE} {f : SemE} {σ : L2.St} {H : Hp} {Q : Bool → Hp → Prop} (k : ∀ Q', tV κ ro f σ H Q' → t σ H Q') (q : tT κ ro (fTest f) σ H Q) : tTest t σ H Q := by
  obtain ⟨c, env, R, b, e, q⟩ := q
  obtain ⟨m, e1, e2⟩ := Z.R.bind_eq e
  have em := blM_ok e2
  subst em
  exact k _ ⟨c, env, R, _, e1, fun v c' H' P x _ o => ⟨b, o.bl, q c' H' x⟩⟩
theorem t_cmp {op : CmpOp} {r : R2} {o : M → M → R M} {a b : Expr} {f g : SemE} {pos : Pos} (ho : OpR X (compareOp op) r) (hs : OpS κ r o) (ha : BE X κ ro a f) (hb : BE X κ ro b g) (hm : behindInMarks op b = false) : TB X κ ro (.Compare a [op] [b] pos) (fTest (fBin o f g)) :=
  PT.imp (pt_cmpR ho ha hb hm) fun _ _ _ q => tTest_of (fun _ => tOp_of hs) q
/-- a value that is a truth, as a test -/
theorem t_val {e : Expr} {f : SemE} (h : VE X κ ro e f) (he : ∀ whole, isTrue e X.env whole = (do let v ← whole; standAt e.pos; holding [v] (truthy v)) := by intro _; rfl) : TB X κ ro e (fTest f) :=
  PT.imp (pt_val h he) fun σ H Q q => by
    obtain ⟨c, env, R, b, e, q⟩ := q
    obtain ⟨m, e1, e2⟩ := Z.R.bind_eq e
    have em := blM_ok e2
    subst em
    exact ⟨c, env, R, _, e1, fun v c' H' P x _ o => ⟨b, o.bl, q c' H' x⟩⟩
/-! ### and, or, not -/
def fAnd (f g : SemT) : SemT := fun env => (f env).bind fun b => if b = true then g env else .ok false
def fOr (f g : SemT) : SemT := fun env => (f env).bind fun b => if b = true then .ok true else g env
def fNot (f : SemT) : SemT := fun env => (f env).bind fun b => .ok (!b)
abbrev WB (X : Cx) (κ : Kx) (ro : Md) (e : Expr) (f : SemT) : Prop := PW X e (tT κ ro f)
theorem w_and1 {a : Expr} {f : SemT} {pos : Pos} (ha : TB X κ ro a f) : WB X κ ro (.BoolOp .And [a] pos) f := pw_and1 ha
theorem w_or1 {a : Expr} {f : SemT} {pos : Pos} (ha : TB X κ ro a f) : WB X κ ro (.BoolOp .Or [a] pos) f := pw_or1 ha
theorem w_and {a b : Expr} {rest : List Expr} {f g : SemT} {pos : Pos} (ha : TB X κ ro a f) (hb : WB X κ ro (.BoolOp .And (b :: rest) pos) g) : WB X κ ro (.BoolOp .And (a :: b :: rest) pos) (fAnd f g) :=
  PW.imp (pw_and ha hb) fun σ H Q ⟨c, env, R, b, e, q⟩ => by
    obtain ⟨b1, e1, e⟩ := Z.R.bind_eq e
    refine ⟨c, env, R, b1, e1, fun c1 H1 x1 => ?_⟩
    cases b1 with
    | true => exact ⟨c1, env, R.ext x1, b, e, fun c2 H2 x2 => q c2 H2 (x1.trans x2)⟩
    | false => cases e; exact q c1 H1 x1
theorem w_or {a b : Expr} {rest : List Expr} {f g : SemT} {pos : Pos} (ha : TB X κ ro a f) (hb : WB X κ ro (.BoolOp .Or (b :: rest) pos) g) : WB X κ ro (.BoolOp .Or (a :: b :: rest) pos) (fOr f g) :=
  PW.imp (pw_or ha hb) fun σ H Q ⟨c, env, R, b, e, q⟩ => by
    obtain ⟨b1, e1, e⟩ := Z.R.bind_eq e
    refine ⟨c, env, R, b1, e1, fun c1 H1 x1 => ?_⟩
    cases b1 with
    | false => exact ⟨c1, env, R.ext x1, b, e, fun c2 H2 x2 => q c2 H2 (x1.trans x2)⟩
    | true => cases e; exact q c1 H1 x1
theorem t_w {e : Expr} {f : SemT} (h : WB X κ ro e f) : TB X κ ro e f := PW.pt h
theorem t_not {a : Expr} {f : SemT} {pos : Pos} (ha : TB X κ ro a f) : TB X κ ro (.UnaryOp .Not a pos) (fNot f) :=
  PT.imp (pt_not ha) fun σ H Q ⟨c, env, R, b, e, q⟩ => by
    obtain ⟨b1, e1, e⟩ := Z.R.bind_eq e
    cases e
    exact ⟨c, env, R, b1, e1, q⟩
end
end Z

set_option Elab.async false
set_option linter.all false
set_option maxRecDepth 100000
set_option maxHeartbeats 2000000
namespace Z
open PySem PySem.Spec PyProof.Rows L2
/-- a step that may change what this frame owns -/
structure Upd (c : Colr) (H : Hp) (c' : Colr) (H' : Hp) : Prop where
  keep : ∀ a o, H a = some o → (∀ i p, c a ≠ .own i p) → H' a = some o ∧ c' a = c a
  there : ∀ a, H' a = none → H a = none
  nb : ∀ a i p, c' a = .lck i p → c a = .lck i p
  al : ∀ a, H' a = none → c' a = .no
theorem Upd.refl {c : Colr} {H : Hp} (al : ∀ a, H a = none → c a = .no) : Upd c H c H := ⟨fun _ _ e _ => ⟨e, rfl⟩, fun _ n => n, fun _ _ _ e => e, al⟩
theorem Upd.trans {c c1 c2 : Colr} {H H1 H2 : Hp} (x : Upd c H c1 H1) (y : Upd c1 H1 c2 H2) : Upd c H c2 H2 := by
  refine ⟨fun a o e n => ?_, fun a n => x.there a (y.there a n), fun a i p e => x.nb a i p (y.nb a i p e), y.al⟩
  obtain ⟨e1, k1⟩ := x.keep a o e n
  obtain ⟨e2, k2⟩ := y.keep a o e1 (by rw [k1]; exact n)
  exact ⟨e2, k2.trans k1⟩
theorem Ext.upd {c c' : Colr} {H H' : Hp} (x : Ext c H c' H') (al : ∀ a, H a = none → c a = .no) : Upd c H c' H' := by
  refine ⟨fun a o e _ => x.old a o e, fun a n => x.nn n, fun a i p e => ?_, x.al⟩
  cases q : H a with
  | none => rcases x.new a q with z | z <;> rw [z] at e <;> cases e
  | some o => rw [← (x.old a o q).2]; exact e
theorem Upd.stay {c c' : Colr} {H H' : Hp} (x : Upd c H c' H') : Stay c H c' H' := fun a o e f =>
  let ⟨h1, h2⟩ := x.keep a o e (by intro i p z; rw [f] at z; cases z)
  ⟨h1, h2.trans f⟩
inductive Out where
  | nx (e : Env) | rt (m : M) (e : Env) | bk (e : Env) | ct (e : Env) | exc (c : Nat) (ds : List D) | stuck
abbrev SemS := Env → Out
structure NewS (c : Colr) (H : Hp) (c' : Colr) (P : Pth) : Prop where
  fresh : ∀ p a, P p a → c' a = .no ∧ (H a = none ∨ ∃ i q, c a = .own i q)
  one : ∀ p q a, P p a → P q a → p = q
theorem NewS.trans {c c1 c2 : Colr} {H H1 : Hp} {P : Pth} (x : Upd c H c1 H1) (n : NewS c1 H1 c2 P) : NewS c H c2 P := by
  refine ⟨fun p a h => ?_, n.one⟩
  obtain ⟨k, q⟩ := n.fresh p a h
  refine ⟨k, ?_⟩
  cases e : H a with
  | none => exact .inl rfl
  | some o =>
    right
    rcases q with q | ⟨i, r, q⟩
    · have z := x.there a q
      rw [e] at z
      cases z
    · cases ec : c a with
      | own j s => exact ⟨j, s, rfl⟩
      | _ =>
        have z := (x.keep a o e (by intro i p z; rw [ec] at z; cases z)).2
        rw [q, ec] at z
        cases z
/-- the parameters that are changed for the caller are the same things -/
def Fix (ro : Md) (σ σ' : L2.St) : Prop := ∀ i, ro.mu.contains i = true → σ'[i]? = σ[i]?
theorem Fix.refl {ro : Md} {σ : L2.St} : Fix ro σ σ := fun _ _ => rfl
theorem Fix.trans {ro : Md} {σ σ1 σ2 : L2.St} (x : Fix ro σ σ1) (y : Fix ro σ1 σ2) : Fix ro σ σ2 := fun i h => (y i h).trans (x i h)
def pN (κ : Kx) (ro : Md) (c : Colr) (H : Hp) (σ : L2.St) (env' : Env) (Q : L2.St → Hp → Prop) : Prop := ∀ σ' c' H', EnvR κ ro c' H' σ' env' → Upd c H c' H' → Fix ro σ σ' → Q σ' H'
def pR (κ : Kx) (ro : Md) (c : Colr) (H : Hp) (σ : L2.St) (m : M) (env' : Env) (Q : VK) : Prop := ∀ v σ' c' H' P, EnvR κ ro c' H' σ' env' → Upd c H c' H' → Fix ro σ σ' → NewS c H c' P → Own κ c' H' P v m → Q v H'
def pO (κ : Kx) (ro : Md) (c : Colr) (H : Hp) (σ : L2.St) (o : Out) (D : Ends) : Prop := match o with
  | .nx e => pN κ ro c H σ e D.nx
  | .bk e => pN κ ro c H σ e D.bk
  | .ct e => pN κ ro c H σ e D.ct
  | .rt m e => pR κ ro c H σ m e D.rt
  | _ => False
def tS (κ : Kx) (ro : Md) (g : SemS) : TS := fun D σ H => ∃ c env, EnvR κ ro c H σ env ∧ pO κ ro c H σ (g env) D
abbrev SS (X : Cx) (κ : Kx) (ro : Md) (st : Stmt) (g : SemS) : Prop := PS X st (tS κ ro g)
abbrev SB (X : Cx) (κ : Kx) (ro : Md) (st : List Stmt) (g : SemS) : Prop := PSs X st (tS κ ro g)
theorem pN.after {κ : Kx} {ro : Md} {c c1 : Colr} {H H1 : Hp} {σ σ1 : L2.St} {env' : Env} {Q : L2.St → Hp → Prop} (x : Upd c H c1 H1) (f : Fix ro σ σ1) (h : pN κ ro c H σ env' Q) : pN κ ro c1 H1 σ1 env' Q :=
  fun σ' c' H' R u k => h σ' c' H' R (x.trans u) (f.trans k)
theorem pO.after {κ : Kx} {ro : Md} {c c1 : Colr} {H H1 : Hp} {σ σ1 : L2.St} {o : Out} {D : Ends} (x : Upd c H c1 H1) (f : Fix ro σ σ1) (h : pO κ ro c H σ o D) : pO κ ro c1 H1 σ1 o D := by
  cases o with
  | nx e => exact pN.after x f h
  | bk e => exact pN.after x f h
  | ct e => exact pN.after x f h
  | rt m e => exact fun v σ' c' H' P R u k n ow => h v σ' c' H' P R (x.trans u) (f.trans k) (n.trans x) ow
  | exc _ _ => exact h
  | stuck => exact h
section
variable {X : Cx} {κ : Kx} {ro : Md}
def gNext : SemS := fun env => .nx env
def gSeq (g h : SemS) : SemS := fun env => match g env with
  | .nx e => h e
  | o => o
theorem s_nil : SB X κ ro [] gNext := PSs.imp pss_nil fun D σ H ⟨c, env, R, q⟩ => q σ c H R (Upd.refl R.al) Fix.refl
theorem s_cons {st : Stmt} {rest : List Stmt} {g h : SemS} (h1 : SS X κ ro st g) (h2 : SB X κ ro rest h) : SB X κ ro (st :: rest) (gSeq g h) :=
  PSs.imp (pss_cons h1 h2) fun D σ H ⟨c, env, R, q⟩ => by
    show tS κ ro g { D with nx := tS κ ro h D } σ H
    refine ⟨c, env, R, ?_⟩
    unfold gSeq at q
    cases e : g env with
    | nx e1 =>
      rw [e] at q
      exact fun σ' c' H' R' u k => ⟨c', e1, R', pO.after u k q⟩
    | bk e1 => rw [e] at q; exact q
    | ct e1 => rw [e] at q; exact q
    | rt m e1 => rw [e] at q; exact q
    | exc _ _ => rw [e] at q; exact q
    | stuck => rw [e] at q; exact q
theorem s_one {st : Stmt} {g : SemS} (h1 : SS X κ ro st g) : SB X κ ro [st] g := pss_one h1
theorem s_never {st : Stmt} : SS X κ ro st (fun _ => .stuck) := PS.imp ps_never fun D σ H ⟨c, env, R, q⟩ => q
theorem s_doc {x j pos pos'} : SS X κ ro (.Expr (.Constant (.str x) j pos) pos') gNext := PS.imp ps_doc fun D σ H ⟨c, env, R, q⟩ => q σ c H R (Upd.refl R.al) Fix.refl
theorem s_pass {pos} : SS X κ ro (.Pass pos) gNext := PS.imp ps_pass fun D σ H ⟨c, env, R, q⟩ => q σ c H R (Upd.refl R.al) Fix.refl
theorem s_break {pos} : SS X κ ro (.Break pos) (fun env => .bk env) := PS.imp ps_break fun D σ H ⟨c, env, R, q⟩ => q σ c H R (Upd.refl R.al) Fix.refl
theorem s_continue {pos} : SS X κ ro (.Continue pos) (fun env => .ct env) := PS.imp ps_continue fun D σ H ⟨c, env, R, q⟩ => q σ c H R (Upd.refl R.al) Fix.refl
/-! ### return -/
def obind (x : R M) (k : M → Out) : Out := match x with
  | .ok m => k m
  | .exc c ds => .exc c ds
  | .stuck => .stuck
def gRet (f : SemE) : SemS := fun env => obind (f env) fun m => .rt m env
theorem s_ret {e : Expr} {f : SemE} {pos : Pos} (he : VE X κ ro e f) : SS X κ ro (.Return (some e) pos) (gRet f) :=
  PS.imp (ps_ret he) fun D σ H ⟨c, env, R, q⟩ => by
    unfold gRet obind at q
    cases em : f env with
    | ok m =>
      rw [em] at q
      refine ⟨c, env, R, m, em, fun v c' H' P x n o => q v σ c' H' P (R.ext x) (x.upd R.al) Fix.refl ⟨fun p a h => ?_, n.one⟩ o⟩
      obtain ⟨h1, h2⟩ := n.fresh p a h
      exact ⟨h2, .inl h1⟩
    | exc _ _ => rw [em] at q; exact q.elim
    | stuck => rw [em] at q; exact q.elim
def gRetN : SemS := fun env => .rt (.fz .non) env
theorem s_retN {pos : Pos} : SS X κ ro (.Return none pos) gRetN := PS.imp ps_retN fun D σ H ⟨c, env, R, q⟩ =>
  q .non σ c H noP R (Upd.refl R.al) Fix.refl ⟨fun _ _ h => h.elim, fun _ _ _ h => h.elim⟩ (.fz .non)
/-! ### recolouring -/
open Classical in
noncomputable def recol (c : Colr) (i : Nat) (k : List Nat → Col) : Colr := fun a => match c a with
  | .own j p => if j = i then k p else .own j p
  | z => z
theorem recol_ne {c : Colr} {i : Nat} {k : List Nat → Col} {a : Addr} (h : ∀ p, c a ≠ .own i p) : recol c i k a = c a := by
  unfold recol
  split
  · next j p e =>
    split
    · next z => subst z; exact absurd e (h p)
    · exact e.symm
  · rfl
theorem recol_eq {c : Colr} {i : Nat} {k : List Nat → Col} {a : Addr} {p : List Nat} (h : c a = .own i p) : recol c i k a = k p := by
  unfold recol
  rw [h]
  exact if_pos rfl
theorem recol_ext {c : Colr} {H : Hp} {i : Nat} {k : List Nat → Col} : Stay c H (recol c i k) H := fun a o e f => ⟨e, by rw [recol_ne (by intro p z; rw [f] at z; cases z)]; exact f⟩
theorem recol_upd {c : Colr} {H : Hp} {i : Nat} {k : List Nat → Col} (al : ∀ a, H a = none → c a = .no) (hk : ∀ p j q, k p ≠ .lck j q) : Upd c H (recol c i k) H := by
  refine ⟨fun a o e n => ⟨e, recol_ne fun p => n i p⟩, fun _ n => n, fun a j p e => ?_, fun a n => ?_⟩
  · by_cases h : ∃ q, c a = .own i q
    · obtain ⟨q, h⟩ := h
      rw [recol_eq h] at e
      exact absurd e (hk _ _ _)
    · rw [recol_ne (fun q z => h ⟨q, z⟩)] at e
      exact e
  · have z := al a n
    rw [recol_ne (by intro p q; rw [z] at q; cases q), z]
theorem slotP_own {ro : Md} {c : Colr} {i : Nat} (h : ro.contains i = false) {p : List Nat} {a : Addr} : slotP ro c i p a ↔ c a = .own i p := by
  unfold slotP
  rw [(Md.not h).1, (Md.not h).2]
  exact Iff.rfl
theorem slotP_lck {ro : Md} {c : Colr} {i : Nat} (h : ro.ro.contains i = false) (h2 : ro.lk.contains i = true) {p : List Nat} {a : Addr} : slotP ro c i p a ↔ c a = .lck i p := by
  unfold slotP
  rw [h, h2]
  exact Iff.rfl
theorem slotP_ne {ro : Md} {c c' : Colr} {i j : Nat} (hij : j ≠ i) {p : List Nat} {a : Addr} (hc : (∀ q, c a ≠ .own i q) → c' a = c a) (h : slotP ro c j p a) : slotP ro c' j p a := by
  unfold slotP at h ⊢
  rw [hc ?_]
  · exact h
  · intro q z
    rw [z] at h
    split at h
    · cases h
    · split at h
      · cases h
      · injection h with z1 _
        exact hij z1.symm
theorem recol_bo {c : Colr} {i : Nat} {k : List Nat → Col} (b : ∀ a i p, c a = .lck i p → ro.lk.contains i = true) (hk : ∀ p j q, k p ≠ .lck j q) {a : Addr} {j : Nat} {p : List Nat} (e : recol c i k a = .lck j p) : ro.lk.contains j = true := by
  by_cases h : ∃ q, c a = .own i q
  · obtain ⟨q, h⟩ := h
    rw [recol_eq h] at e
    exact absurd e (hk _ _ _)
  · rw [recol_ne (fun q z => h ⟨q, z⟩)] at e
    exact b a j p e
/-- a slot that is no lent one is given up: its things may be recoloured -/
theorem EnvR.recol {c : Colr} {H : Hp} {σ : L2.St} {env : Env} {i : Nat} {k : List Nat → Col} (R : EnvR κ ro c H σ env) (hk : ∀ p j q, k p ≠ .lck j q) : EnvR κ ro (recol c i k) H σ (env.set i none) := by
  refine ⟨fun a n => ?_, by simpa using R.len, fun a j p e => recol_bo R.bo hk e, fun j m e => ?_⟩
  · have z := R.al a n
    rw [recol_ne (by intro p q; rw [z] at q; cases q), z]
  · have hj : j ≠ i := by
      rintro rfl
      rw [List.getElem?_set] at e
      by_cases hl : j < env.length
      · rw [if_pos rfl, if_pos hl] at e
        cases e
      · rw [if_pos rfl, if_neg hl] at e
        cases e
    rw [List.getElem?_set_ne (Ne.symm hj)] at e
    obtain ⟨v, e1, o⟩ := R.sl j m e
    exact ⟨v, e1, Own.stay recol_ext (fun p a ob h ha => ⟨slotP_ne hj (fun z => recol_ne z) h, ha⟩) o⟩
def gMove (i : Nat) : SemS := fun env => match env[i]? with
  | some (some m) => .rt m (env.set i none)
  | _ => .stuck
/-- return x, x a name of one's own: it is handed on -/
theorem s_retMove {i : Nat} {x : Str} {p pos : Pos} (hN : X.N[i]? = some x) (hv : Vis X.env.scope x) (hi : ro.contains i = false) (hd : (x == ("__debug__" : Str)) = false := by decide) (hcd : (x == ("__classdict__" : Str)) = false := by decide) :
    SS X κ ro (.Return (some (.Name x p)) pos) (gMove i) :=
  PS.imp (ps_ret (pe_var hN hv hd hcd)) fun D σ H ⟨c, env, R, q⟩ => by
    unfold gMove at q
    split at q
    · next m h =>
      obtain ⟨v, e1, o⟩ := R.sl i m h
      refine ⟨v, e1, q v σ (Z.recol c i fun _ => .no) H (fun p a => c a = .own i p) (R.recol (by intro p j q z; cases z)) (recol_upd R.al (by intro p j q z; cases z)) Fix.refl ⟨fun p a h => ⟨recol_eq h, .inr ⟨i, p, h⟩⟩, fun p q a h1 h2 => ?_⟩ (Own.stay recol_ext (fun p a ob h ha => ⟨(slotP_own hi).mp h, ha⟩) o)⟩
      rw [h1] at h2
      injection h2 with _ z
    · exact q.elim
/-! ### freezing a slot -/
def gFreeze (i : Nat) (g : SemS) : SemS := fun env => match env[i]? with
  | some (some m) => g (env.set i (some (.fz m.er)))
  | _ => g env
theorem EnvR.freeze {c : Colr} {H : Hp} {σ : L2.St} {env : Env} {i : Nat} {m : M} (hi : ro.contains i = false) (h : env[i]? = some (some m)) (R : EnvR κ ro c H σ env) : EnvR κ ro (Z.recol c i fun _ => .fz) H σ (env.set i (some (.fz m.er))) := by
  refine ⟨fun a n => ?_, by simpa using R.len, fun a j p e => recol_bo R.bo (by intro p j q z; cases z) e, fun j k e => ?_⟩
  · have z := R.al a n
    rw [recol_ne (by intro p q; rw [z] at q; cases q), z]
  · by_cases hj : j = i
    · subst hj
      obtain ⟨v, e1, o⟩ := R.sl j m h
      have hl := (List.getElem?_eq_some_iff.mp h).1
      rw [List.getElem?_set_self hl] at e
      cases e
      exact ⟨v, e1, .fz (Own.freeze recol_ext (fun p a ob h ha => ⟨recol_eq ((slotP_own hi).mp h), ha⟩) o)⟩
    · rw [List.getElem?_set_ne (Ne.symm hj)] at e
      obtain ⟨v, e1, o⟩ := R.sl j k e
      exact ⟨v, e1, Own.stay recol_ext (fun p a ob h ha => ⟨slotP_ne hj (fun z => recol_ne z) h, ha⟩) o⟩
theorem s_freeze {st : Stmt} {g : SemS} (i : Nat) (hi : ro.contains i = false) (h : SS X κ ro st g) : SS X κ ro st (gFreeze i g) :=
  PS.imp h fun D σ H ⟨c, env, R, q⟩ => by
    unfold gFreeze at q
    split at q
    · next m hm => exact ⟨_, _, R.freeze hi hm, pO.after (recol_upd R.al (by intro p j q z; cases z)) Fix.refl q⟩
    · exact ⟨c, env, R, q⟩
/-! ### storing into a slot -/
open Classical in
noncomputable def paint (c : Colr) (i : Nat) (P : Pth) : Colr := fun a => if h : ∃ p, P p a then .own i (Classical.choose h) else c a
theorem paint_of {c : Colr} {i : Nat} {P : Pth} {p : List Nat} {a : Addr} (one : ∀ p q a, P p a → P q a → p = q) (h : P p a) : paint c i P a = .own i p := by
  unfold paint
  rw [dif_pos ⟨p, h⟩]
  exact congrArg (Col.own i) (one _ _ _ (Classical.choose_spec (⟨p, h⟩ : ∃ p, P p a)) h)
theorem paint_ne {c : Colr} {i : Nat} {P : Pth} {a : Addr} (h : ∀ p, ¬ P p a) : paint c i P a = c a := by
  unfold paint
  rw [dif_neg (fun ⟨p, q⟩ => h p q)]
theorem EnvR.store {c : Colr} {H : Hp} {σ : L2.St} {env : Env} {i : Nat} {m : M} {v : V} {P : Pth} (R : EnvR κ ro c H σ env) (hi : ro.contains i = false) (hl : i < env.length)
    (hno : ∀ p a, P p a → c a = .no) (hh : ∀ p a, P p a → H a ≠ none) (one : ∀ p q a, P p a → P q a → p = q) (o : Own κ c H P v m) : EnvR κ ro (paint c i P) H (σ.set i (some v)) (env.set i (some m)) := by
  have st : Stay c H (paint c i P) H := fun a ob e f => ⟨e, by rw [paint_ne (by intro p z; rw [hno p a z] at f; cases f)]; exact f⟩
  refine ⟨fun a n => ?_, by simpa using R.len, fun a j p e => ?_, fun j k e => ?_⟩
  · rw [paint_ne (fun p z => hh p a z n)]
    exact R.al a n
  · by_cases h : ∃ q, P q a
    · exfalso
      unfold paint at e
      rw [dif_pos h] at e
      cases e
    · rw [paint_ne (fun q z => h ⟨q, z⟩)] at e
      exact R.bo a j p e
  · by_cases hj : j = i
    · subst hj
      rw [List.getElem?_set_self hl] at e
      cases e
      exact ⟨v, by rw [List.getElem?_set_self (by rw [R.len]; exact hl)], Own.stay st (fun p a ob h ha => ⟨(slotP_own hi).mpr (paint_of one h), ha⟩) o⟩
    · rw [List.getElem?_set_ne (Ne.symm hj)] at e
      obtain ⟨w, e1, ow⟩ := R.sl j k e
      refine ⟨w, by rw [List.getElem?_set_ne (Ne.symm hj)]; exact e1, Own.stay st (fun p a ob h ha => ⟨?_, ha⟩) ow⟩
      have hq : ∀ q, ¬ P q a := fun q z => by
        have zz := hno q a z
        unfold slotP at h
        rw [zz] at h
        split at h
        · cases h
        · split at h <;> cases h
      unfold slotP
      rw [paint_ne hq]
      exact h
theorem paint_upd {c : Colr} {H : Hp} {i : Nat} {P : Pth} (al : ∀ a, H a = none → c a = .no) (hno : ∀ p a, P p a → c a = .no) (hh : ∀ p a, P p a → H a ≠ none)
    {c0 : Colr} {H0 : Hp} (u : Upd c0 H0 c H) (hn : ∀ p a, P p a → H0 a = none ∨ ∃ i q, c0 a = .own i q) : Upd c0 H0 (paint c i P) H := by
  refine ⟨fun a o e n => ?_, u.there, fun a j p e => ?_, fun a n => ?_⟩
  · have hq : ∀ q, ¬ P q a := fun q z => by
      rcases hn q a z with z | ⟨i, r, z⟩
      · rw [z] at e; cases e
      · exact n i r z
    rw [paint_ne hq]
    exact u.keep a o e n
  · refine u.nb a j p ?_
    by_cases h : ∃ q, P q a
    · exfalso
      unfold paint at e
      rw [dif_pos h] at e
      cases e
    · rw [paint_ne (fun q z => h ⟨q, z⟩)] at e
      exact e
  · rw [paint_ne (fun q z => hh q a z n)]
    exact al a n
def gSet (i : Nat) (f : SemE) : SemS := fun env => obind (f env) fun m => if i < env.length then .nx (env.set i (some m)) else .stuck
theorem set_done {c c' : Colr} {H H' : Hp} {σ : L2.St} {env : Env} {i : Nat} {m : M} {v : V} {P : Pth} {Q : L2.St → Hp → Prop} (R : EnvR κ ro c H σ env) (hi : ro.contains i = false) (hl : i < env.length) (x : Ext c H c' H') (n : New c' H P) (o : Own κ c' H' P v m)
    (q : pN κ ro c H σ (env.set i (some m)) Q) (hm : ro.mu.contains i = false) : Q (σ.set i (some v)) H' := by
  have R' := R.ext x
  have o' := Own.here o
  exact q _ _ _ (R'.store hi hl (fun p a h => (n.fresh p a h.1).2) (fun p a h => h.2) (fun p q a h1 h2 => n.one p q a h1.1 h2.1) o')
    (paint_upd R'.al (fun p a h => (n.fresh p a h.1).2) (fun p a h => h.2) (x.upd R.al) fun p a h => .inl (n.fresh p a h.1).1) (fun j hj => List.getElem?_set_ne (by rintro rfl; rw [hm] at hj; cases hj))
theorem s_set {i : Nat} {x : Str} {e : Expr} {f : SemE} {pos pos' : Pos} (hN : X.N.Nodup) (hx : X.N[i]? = some x) (hl : Loc X.env.scope x) (hi : ro.contains i = false) (hm : ro.mu.contains i = false) (he : VE X κ ro e f) (hs : swapsWith e (some (.Name x pos')) pos.line X.env = pure false := by rfl)
    (hf : X.fn x = true ∨ X.env.scope.names.lookup x = some .local := by first | exact .inl rfl | exact .inr rfl | assumption) : SS X κ ro (.Assign [.Name x pos'] e pos) (gSet i f) :=
  PS.imp (ps_set hN hx hl he hs hf) fun D σ H ⟨c, env, R, q⟩ => by
    unfold gSet obind at q
    cases em : f env with
    | ok m =>
      rw [em] at q
      have q : pO κ ro c H σ (if i < env.length then .nx (env.set i (some m)) else .stuck) D := q
      by_cases h : i < env.length
      · rw [if_pos h] at q
        exact ⟨c, env, R, m, em, fun v c' H' P x n o => set_done R hi h x n o q hm⟩
      · rw [if_neg h] at q
        exact q.elim
    | exc _ _ => rw [em] at q; exact q.elim
    | stuck => rw [em] at q; exact q.elim
/-! ### if -/
def tbind (x : R Bool) (k : Bool → Out) : Out := match x with
  | .ok b => k b
  | .exc c ds => .exc c ds
  | .stuck => .stuck
def gIf (t : SemT) (g h : SemS) : SemS := fun env => tbind (t env) fun b => if b = true then g env else h env
theorem s_if {e : Expr} {a b : List Stmt} {t : SemT} {g h : SemS} {pos : Pos} (ht : TB X κ ro e t) (hg : SB X κ ro a g) (hh : SB X κ ro b h) : SS X κ ro (.If e a b pos) (gIf t g h) :=
  PS.imp (ps_if ht hg hh) fun D σ H ⟨c, env, R, q⟩ => by
    unfold gIf tbind at q
    cases em : t env with
    | ok m =>
      rw [em] at q
      refine ⟨c, env, R, m, em, fun c' H' x => ?_⟩
      have q : pO κ ro c H σ (if m = true then g env else h env) D := q
      cases m with
      | true => exact ⟨c', env, R.ext x, pO.after (x.upd R.al) Fix.refl q⟩
      | false => exact ⟨c', env, R.ext x, pO.after (x.upd R.al) Fix.refl q⟩
    | exc _ _ => rw [em] at q; exact q.elim
    | stuck => rw [em] at q; exact q.elim
/-! ### a pure expression as a statement -/
def gDrop (f : SemE) : SemS := fun env => obind (f env) fun _ => .nx env
theorem s_expr {e : Expr} {f : SemE} {pos : Pos} (he : BE X κ ro e f) (hs : swapsWith e none pos.line X.env = pure false := by rfl) : SS X κ ro (.Expr e pos) (gDrop f) :=
  PS.imp (ps_expr he hs) fun D σ H ⟨c, env, R, q⟩ => by
    unfold gDrop obind at q
    cases em : f env with
    | ok m =>
      rw [em] at q
      exact ⟨c, env, R, m, em, fun v c' H' x o => q σ c' H' (R.ext x) (x.upd R.al) Fix.refl⟩
    | exc _ _ => rw [em] at q; exact q.elim
    | stuck => rw [em] at q; exact q.elim
/-! ### locking a slot -/
def unlk (c : Colr) (i : Nat) : Colr := fun a => match c a with
  | .lck j p => if j = i then .own i p else .lck j p
  | z => z
theorem unlk_eq {c : Colr} {i : Nat} {a : Addr} {p : List Nat} (h : c a = .lck i p) : unlk c i a = .own i p := by
  unfold unlk
  rw [h]
  exact if_pos rfl
theorem unlk_ne {c : Colr} {i : Nat} {a : Addr} (h : ∀ p, c a ≠ .lck i p) : unlk c i a = c a := by
  unfold unlk
  split
  · next j p e =>
    split
    · next z => subst z; exact absurd e (h p)
    · exact e.symm
  · rfl
theorem lock_env {c : Colr} {H : Hp} {σ : L2.St} {env : Env} {i : Nat} (hi : ro.contains i = false) (R : EnvR κ ro c H σ env) : EnvR κ (ro.lock i) (Z.recol c i fun p => .lck i p) H σ env := by
  refine ⟨fun a n => ?_, R.len, fun a j p e => ?_, fun j m e => ?_⟩
  · have z := R.al a n
    rw [recol_ne (by intro p q; rw [z] at q; cases q), z]
  · by_cases h : ∃ q, c a = .own i q
    · obtain ⟨q, h⟩ := h
      rw [recol_eq h] at e
      injection e with e1 _
      subst e1
      exact ro.lock_self i
    · rw [recol_ne (fun q z => h ⟨q, z⟩)] at e
      have z := R.bo a j p e
      by_cases hj : j = i
      · subst hj
        exact ro.lock_self j
      · rw [ro.lock_ne hj]
        exact z
  · obtain ⟨v, e1, o⟩ := R.sl j m e
    refine ⟨v, e1, Own.stay recol_ext (fun p a ob hh ha => ⟨?_, ha⟩) o⟩
    by_cases hj : j = i
    · rw [hj] at hh ⊢
      exact (slotP_lck (ro := ro.lock i) (Md.not hi).1 (ro.lock_self i)).mpr (recol_eq ((slotP_own hi).mp hh))
    · have hc : (ro.lock i).lk.contains j = ro.lk.contains j := ro.lock_ne hj
      have q := slotP_ne (c' := Z.recol c i fun p => .lck i p) hj (fun z => recol_ne z) hh
      unfold slotP at q ⊢
      rw [hc]
      exact q
theorem unlock_env {c c' : Colr} {H H' : Hp} {σ' : L2.St} {env' : Env} {i : Nat} (hi : ro.contains i = false) (b : ∀ a i p, c a = .lck i p → ro.lk.contains i = true)
    (R : EnvR κ (ro.lock i) c' H' σ' env') (u : Upd (Z.recol c i fun p => .lck i p) H c' H') : EnvR κ ro (unlk c' i) H' σ' env' ∧ Upd c H (unlk c' i) H' ∧ Stay c' H' (unlk c' i) H' := by
  have nb : ∀ a p, c a ≠ .lck i p := fun a p e => by
    have z := b a i p e
    rw [(Md.not hi).2] at z
    cases z
  have st : Stay c' H' (unlk c' i) H' := fun a o e f => ⟨e, by rw [unlk_ne (by intro p z; rw [f] at z; cases z)]; exact f⟩
  have bb : ∀ a j p, j ≠ i → unlk c' i a = .lck j p → c a = .lck j p := fun a j p hj e => by
    have e1 : c' a = .lck j p := by
      by_cases h : ∃ q, c' a = .lck i q
      · obtain ⟨q, h⟩ := h
        rw [unlk_eq h] at e
        cases e
      · rw [unlk_ne (fun q z => h ⟨q, z⟩)] at e
        exact e
    have e2 := u.nb a j p e1
    by_cases h : ∃ q, c a = .own i q
    · obtain ⟨q, h⟩ := h
      rw [recol_eq h] at e2
      injection e2 with z _
      exact absurd z.symm hj
    · rw [recol_ne (fun q z => h ⟨q, z⟩)] at e2
      exact e2
  have bi : ∀ a p, unlk c' i a ≠ .lck i p := fun a p e => by
    by_cases h : ∃ q, c' a = .lck i q
    · obtain ⟨q, h⟩ := h
      rw [unlk_eq h] at e
      cases e
    · rw [unlk_ne (fun q z => h ⟨q, z⟩)] at e
      exact h ⟨p, e⟩
  have bb' : ∀ a j p, unlk c' i a = .lck j p → c a = .lck j p := fun a j p e => by
    by_cases hj : j = i
    · subst hj
      exact absurd e (bi a p)
    · exact bb a j p hj e
  refine ⟨⟨fun a n => ?_, R.len, fun a j p e => b a j p (bb' a j p e), fun j m e => ?_⟩, ⟨fun a o e n => ?_, u.there, fun a j p e => bb' a j p e, fun a n => ?_⟩, st⟩
  · have z := R.al a n
    rw [unlk_ne (by intro p q; rw [z] at q; cases q), z]
  · obtain ⟨v, e1, o⟩ := R.sl j m e
    refine ⟨v, e1, Own.stay st (fun p a ob hh ha => ⟨?_, ha⟩) o⟩
    by_cases hj : j = i
    · rw [hj] at hh ⊢
      exact (slotP_own hi).mpr (unlk_eq ((slotP_lck (ro := ro.lock i) (Md.not hi).1 (ro.lock_self i)).mp hh))
    · have hc : (ro.lock i).lk.contains j = ro.lk.contains j := ro.lock_ne hj
      have hr : (ro.lock i).ro = ro.ro := rfl
      unfold slotP at hh ⊢
      rw [hc, hr] at hh
      rw [unlk_ne ?_]
      · exact hh
      · intro q z
        rw [z] at hh
        split at hh
        · cases hh
        · split at hh
          · injection hh with z1 _
            exact hj z1.symm
          · cases hh
  · obtain ⟨e1, k1⟩ := u.keep a o e (by intro k q z; rw [recol_ne (n i)] at z; exact n k q z)
    rw [recol_ne (n i)] at k1
    refine ⟨e1, ?_⟩
    rw [unlk_ne (by intro q z; rw [k1] at z; exact nb a q z)]
    exact k1
  · have z := u.al a n
    rw [unlk_ne (by intro p q; rw [z] at q; cases q), z]
theorem s_lock {st : Stmt} {g : SemS} (i : Nat) (hi : ro.contains i = false) (h : SS X κ (ro.lock i) st g) : SS X κ ro st g := by
  refine PS.imp h fun D σ H ⟨c, env, R, q⟩ => ⟨_, env, lock_env hi R, ?_⟩
  have nx : ∀ {e : Env} {Q : L2.St → Hp → Prop}, pN κ ro c H σ e Q → pN κ (ro.lock i) (Z.recol c i fun p => .lck i p) H σ e Q := fun k σ' c' H' R' u f => by
    obtain ⟨a1, a2, _⟩ := unlock_env hi R.bo R' u
    exact k σ' _ H' a1 a2 f
  cases e : g env with
  | nx e1 => rw [e] at q; exact nx q
  | bk e1 => rw [e] at q; exact nx q
  | ct e1 => rw [e] at q; exact nx q
  | rt m e1 =>
    rw [e] at q
    intro v σ' c' H' P R' u f n ow
    obtain ⟨a1, a2, a3⟩ := unlock_env hi R.bo R' u
    refine q v σ' _ H' P a1 a2 f ⟨fun p a hp => ?_, n.one⟩ (Own.stay a3 (fun p a o hp ha => ⟨hp, ha⟩) ow)
    obtain ⟨k1, k2⟩ := n.fresh p a hp
    refine ⟨by rw [unlk_ne (by intro q z; rw [k1] at z; cases z)]; exact k1, ?_⟩
    rcases k2 with k2 | ⟨j, r, k2⟩
    · exact .inl k2
    · right
      by_cases hh : ∃ q, c a = .own i q
      · obtain ⟨q, hh⟩ := hh
        exact ⟨i, q, hh⟩
      · rw [recol_ne (fun q z => hh ⟨q, z⟩)] at k2
        exact ⟨j, r, k2⟩
  | exc _ _ => rw [e] at q; exact q.elim
  | stuck => rw [e] at q; exact q.elim
end
end Z

set_option Elab.async false
set_option linter.all false
set_option maxRecDepth 100000
set_option maxHeartbeats 2000000
namespace Z
open PySem PySem.Spec PyProof.Rows L2
/-! ### what stands still: neither owned by a slot nor frozen -/
def Quiet (κ : Kx) (c : Colr) (H : Hp) (v : V) (m : M) : Prop := ∃ P : Pth, (∀ p a, P p a → c a ≠ .fz ∧ H a ≠ none ∧ ∀ i q, c a ≠ .own i q) ∧ Own κ c H P v m
theorem Quiet.lent {κ : Kx} {c : Colr} {H : Hp} {v : V} {m : M} : Quiet κ c H v m → Lent κ c H v m := fun ⟨P, h, o⟩ => ⟨P, fun p a q => ⟨(h p a q).1, (h p a q).2.1⟩, o⟩
theorem Quiet.upd {κ : Kx} {c c' : Colr} {H H' : Hp} {v : V} {m : M} (u : Upd c H c' H') : Quiet κ c H v m → Quiet κ c' H' v m := fun ⟨P, h, o⟩ => by
  have key : ∀ p a ob, P p a → H a = some ob → H' a = some ob ∧ c' a = c a := fun p a ob q e => u.keep a ob e (h p a q).2.2
  refine ⟨fun p a => P p a ∧ ∃ ob, H a = some ob, fun p a q => ?_, Own.stay u.stay (fun p a ob q e => ⟨⟨q, ob, e⟩, (key p a ob q e).1⟩) o⟩
  obtain ⟨q, ob, e⟩ := q
  obtain ⟨k1, k2⟩ := key p a ob q e
  obtain ⟨h1, h2, h3⟩ := h p a q
  exact ⟨by rw [k2]; exact h1, by rw [k1]; simp, by rw [k2]; exact h3⟩
def pQ (κ : Kx) (c : Colr) (H : Hp) (m : M) (Q : VK) : Prop := ∀ (v : V) (c' : Colr) (H' : Hp), Ext c H c' H' → Quiet κ c' H' v m → Q v H'
def tQ (κ : Kx) (ro : Md) (f : SemE) : TE := fun σ H Q => ∃ c env, EnvR κ ro c H σ env ∧ ∃ m, f env = .ok m ∧ pQ κ c H m Q
abbrev QE (X : Cx) (κ : Kx) (ro : Md) (e : Expr) (f : SemE) : Prop := PE X e (tQ κ ro f)
theorem New.quiet {κ : Kx} {c' : Colr} {H H' : Hp} {P : Pth} {v : V} {m : M} (n : New c' H P) (o : Own κ c' H' P v m) : Quiet κ c' H' v m :=
  ⟨fun p a => P p a ∧ H' a ≠ none, fun p a q => by
    have z := (n.fresh p a q.1).2
    exact ⟨(by rw [z]; exact fun h => Col.noConfusion h), q.2, fun i r => (by rw [z]; exact fun h => Col.noConfusion h)⟩, o.here⟩
section
variable {X : Cx} {κ : Kx} {ro : Md}
theorem VE.q {e : Expr} {f : SemE} (h : VE X κ ro e f) : QE X κ ro e f := PE.imp h fun σ H Q ⟨c, env, R, m, e, q⟩ => ⟨c, env, R, m, e, fun v c' H' P x n o => q v c' H' x (n.quiet o)⟩
theorem QE.b {e : Expr} {f : SemE} (h : QE X κ ro e f) : BE X κ ro e f := PE.imp h fun σ H Q ⟨c, env, R, m, e, q⟩ => ⟨c, env, R, m, e, fun v c' H' x o => q v c' H' x o.lent⟩
theorem q_var {i : Nat} {x : Str} {pos : Pos} (hN : X.N[i]? = some x) (hv : Vis X.env.scope x) (hi : ro.contains i = true) (hd : (x == ("__debug__" : Str)) = false := by decide) (hcd : (x == ("__classdict__" : Str)) = false := by decide) : QE X κ ro (.Name x pos) (fVar i) :=
  PE.imp (pe_var hN hv hd hcd) fun σ H Q ⟨c, env, R, m, e, q⟩ => by
    obtain ⟨v, e1, o⟩ := R.sl i m (fVar_ok e)
    refine ⟨v, e1, q v c H (Ext.refl R.al) ⟨fun p a => slotP ro c i p a ∧ H a ≠ none, fun p a h => ⟨slotP_fz h.1, h.2, fun j r z => ?_⟩, o.here⟩⟩
    have h1 := h.1
    unfold slotP at h1
    split at h1
    · rw [z] at h1; cases h1
    · next hr =>
      split at h1
      · rw [z] at h1; cases h1
      · next hl =>
        unfold Md.contains at hi
        rcases Bool.or_eq_true_iff.mp hi with w | w
        · exact hr w
        · exact hl w
/-! ### what a loop walks -/
/-- whatever changes but the quiet things: the turns give ds -/
def Iterates (κ : Kx) (c0 : Colr) (H0 : Hp) (J : It) (ds : List D) : Prop := ∀ c H, Upd c0 H0 c H → ∀ i,
  (∀ d, ds[i]? = some d → J.go i H ∧ ∀ x H', J.yld i H x H' → ∃ c', Ext c H c' H' ∧ Fz κ c' H' x d) ∧ (i = ds.length → J.stop i H)
def tI (κ : Kx) (ro : Md) (f : Env → R (List D)) : TI := fun σ H R => ∃ c env, EnvR κ ro c H σ env ∧ ∃ ds, f env = .ok ds ∧ ∀ c' H' J, Ext c H c' H' → Iterates κ c' H' J ds → R J H'
abbrev IB (X : Cx) (κ : Kx) (ro : Md) (tg iter : Expr) (f : Env → R (List D)) : Prop := PI X tg iter (tI κ ro f)
theorem FzL.get {κ : Kx} {c : Colr} {H : Hp} : ∀ {vs : List V} {ds : List D} {i : Nat}, FzL κ c H vs ds → ∀ {d}, ds[i]? = some d → ∃ v, vs[i]? = some v ∧ Fz κ c H v d
  | _, _, _, .nil, _, e => by simp at e
  | _, _, 0, .cons h l, d, e => by
    simp at e
    subst e
    exact ⟨_, rfl, h⟩
  | _, _, i + 1, .cons h l, d, e => by
    obtain ⟨v, e1, h1⟩ := FzL.get (i := i) l (d := d) (by simpa using e)
    exact ⟨v, by simpa using e1, h1⟩
theorem FzL.length {κ : Kx} {c : Colr} {H : Hp} : ∀ {vs : List V} {ds : List D}, FzL κ c H vs ds → vs.length = ds.length
  | _, _, .nil => rfl
  | _, _, .cons h l => congrArg (· + 1) (FzL.length l)
/-- a list, as it is read -/
theorem Quiet.list {c : Colr} {H : Hp} {v : V} {m : M} {ds : List D} (h : Quiet κ c H v m) (e : m.er = .lst ds) : ∃ a vs, v = .ref a ∧ FzL κ c H vs ds ∧ SqL κ.K H a vs ∧ ∀ c' H', Upd c H c' H' → SqL κ.K H' a vs := by
  obtain ⟨P, hp, o⟩ := h
  cases o with
  | fz o =>
    cases o with
    | lst f s l =>
      cases e
      exact ⟨_, _, rfl, l, .inl (.inl s), fun c' H' u => .inl (.inl (u.stay _ _ s f).1)⟩
    | _ => cases e
  | lst p h l =>
    cases e
    exact ⟨_, _, rfl, l, .inl (.inl h), fun c' H' u => .inl (.inl (u.keep _ _ h (hp _ _ p).2.2).1)⟩
  | dct => cases e
  | ins => cases e
theorem Lent.list {c : Colr} {H : Hp} {v : V} {m : M} {ds : List D} (h : Lent κ c H v m) (e : m.er = .lst ds) : ∃ a vs, v = .ref a ∧ FzL κ c H vs ds ∧ H a = some (.lst vs) := by
  obtain ⟨P, hp, o⟩ := h
  cases o with
  | fz o =>
    cases o with
    | lst f s l =>
      cases e
      exact ⟨_, _, rfl, l, s⟩
    | _ => cases e
  | lst p h l =>
    cases e
    exact ⟨_, _, rfl, l, h⟩
  | dct => cases e
  | ins => cases e
theorem Lent.scr {c : Colr} {H : Hp} {v : V} {m : M} {ns : List Int} (h : Lent κ c H v m) (e : m.er = .scr ns) : ∃ a, v = .ref a ∧ SqLc κ c H a (ns.map V.int) := by
  obtain ⟨P, hp, o⟩ := h
  cases o with
  | fz o =>
    cases o with
    | scr s =>
      cases e
      exact ⟨_, rfl, s⟩
    | _ => cases e
  | lst p h l => cases e
  | dct => cases e
  | ins => cases e
theorem Lent.ktp {c : Colr} {H : Hp} {v : V} {m : M} {ds : List D} (h : Lent κ c H v m) (e : m.er = .ktp ds) : ∃ a vs, v = .ref a ∧ FzL κ c H vs ds ∧ SqT κ.K nil0 a vs := by
  obtain ⟨P, hp, o⟩ := h
  cases o with
  | fz o =>
    cases o with
    | ktp s l =>
      cases e
      exact ⟨_, _, rfl, l, s⟩
    | _ => cases e
  | lst p h l => cases e
  | dct => cases e
  | ins => cases e
theorem FzL.ints {c : Colr} {H : Hp} : ∀ ns : List Int, FzL κ c H (ns.map V.int) (ns.map D.int)
  | [] => .nil
  | n :: ns => .cons (.int n) (FzL.ints ns)
theorem Lent.fz {c : Colr} {H : Hp} {v : V} {d : D} (h : Lent κ c H v (.fz d)) : Fz κ c H v d := by
  obtain ⟨P, hp, o⟩ := h
  cases o with
  | fz o => exact o
theorem Lent.tup {c : Colr} {H : Hp} {v : V} {m : M} {ds : List D} (h : Lent κ c H v m) (e : m.er = .tup ds) : ∃ a vs, v = .ref a ∧ FzL κ c H vs ds ∧ SqTc κ c H a vs := by
  obtain ⟨P, hp, o⟩ := h
  cases o with
  | fz o =>
    cases o with
    | tup s l =>
      cases e
      exact ⟨_, _, rfl, l, s⟩
    | _ => cases e
  | lst p h l => cases e
  | dct => cases e
  | ins => cases e
theorem Lent.int {c : Colr} {H : Hp} {v : V} {m : M} {i : Int} (h : Lent κ c H v m) (e : m.er = .int i) : v = .int i := by
  obtain ⟨P, hp, o⟩ := h
  cases o with
  | fz o => cases e; cases o; rfl
  | lst p h l => cases e
  | dct => cases e
  | ins => cases e
theorem Lent.bl {c : Colr} {H : Hp} {v : V} {m : M} {i : Bool} (h : Lent κ c H v m) (e : m.er = .bl i) : v = .bl i := by
  obtain ⟨P, hp, o⟩ := h
  cases o with
  | fz o => cases e; cases o; rfl
  | lst p h l => cases e
  | dct => cases e
  | ins => cases e
theorem Lent.str {c : Colr} {H : Hp} {v : V} {m : M} {i : Str} (h : Lent κ c H v m) (e : m.er = .str i) : v = .str i := by
  obtain ⟨P, hp, o⟩ := h
  cases o with
  | fz o => cases e; cases o; rfl
  | lst p h l => cases e
  | dct => cases e
  | ins => cases e
theorem Lent.non {c : Colr} {H : Hp} {v : V} {m : M} (h : Lent κ c H v m) (e : m.er = .non) : v = .non := by
  obtain ⟨P, hp, o⟩ := h
  cases o with
  | fz o => cases e; cases o; rfl
  | lst p h l => cases e
  | dct => cases e
  | ins => cases e
theorem FzL.getq {c : Colr} {H : Hp} {vs : List V} {ds : List D} {i : Nat} {x : V} {d : D} (l : FzL κ c H vs ds) (e : vs[i]? = some x) (e2 : ds[i]? = some d) : Fz κ c H x d := by
  obtain ⟨v, e1, h⟩ := l.get e2
  rw [e] at e1
  cases e1
  exact h
theorem iter_list {c0 : Colr} {H0 : Hp} {a : Addr} {vs : List V} {ds : List D} (l : FzL κ c0 H0 vs ds) (k : ∀ c' H', Upd c0 H0 c' H' → SqL κ.K H' a vs) : Iterates κ c0 H0 (Itl κ.K a) ds := by
  intro c H u i
  have s := k c H u
  have l' := l.stay u.stay
  refine ⟨fun d e => ?_, fun e => ?_⟩
  · obtain ⟨v, e1, h⟩ := l'.get e
    refine ⟨⟨vs, v, s, e1⟩, fun x H' y => ?_⟩
    obtain ⟨eh, y⟩ := y
    subst eh
    refine ⟨c, Ext.refl u.al, ?_⟩
    have e2 := y vs s
    rw [e1] at e2
    cases e2
    exact h
  · exact ⟨vs, s, by rw [l.length, e]; exact Nat.le_refl _⟩
theorem iter_tup {c0 : Colr} {H0 : Hp} {a : Addr} {vs : List V} {ds : List D} (l : FzL κ c0 H0 vs ds) (k : ∀ c' H', Upd c0 H0 c' H' → SqT κ.K H' a vs) : Iterates κ c0 H0 (Itt κ.K a) ds := by
  intro c H u i
  have s := k c H u
  have l' := l.stay u.stay
  refine ⟨fun d e => ?_, fun e => ?_⟩
  · obtain ⟨v, e1, h⟩ := l'.get e
    refine ⟨⟨vs, v, s, e1⟩, fun x H' y => ?_⟩
    obtain ⟨eh, y⟩ := y
    subst eh
    refine ⟨c, Ext.refl u.al, ?_⟩
    have e2 := y vs s
    rw [e1] at e2
    cases e2
    exact h
  · exact ⟨vs, s, by rw [l.length, e]; exact Nat.le_refl _⟩
def listOf (m : M) : R (List D) := match m.er with
  | .lst l => .ok l
  | .tup l => .ok l
  | .scr ns => .ok (ns.map D.int)
  | .ktp l => .ok l
  | _ => .stuck
theorem listOf_ok {m : M} {ds : List D} (h : listOf m = .ok ds) : m.er = .lst ds ∨ m.er = .tup ds ∨ (∃ ns, m.er = .scr ns ∧ ds = ns.map D.int) ∨ m.er = .ktp ds := by
  unfold listOf at h
  split at h
  · next l e => cases h; exact .inl e
  · next l e => cases h; exact .inr (.inl e)
  · next l e => cases h; exact .inr (.inr (.inl ⟨_, e, rfl⟩))
  · next l e => cases h; exact .inr (.inr (.inr e))
  · cases h
def fList (f : SemE) : Env → R (List D) := fun env => (f env).bind listOf
theorem i_list (A : At X κ) {tg e : Expr} {f : SemE} (h : QE X κ ro e f) : IB X κ ro tg e (fList f) := by
  refine ⟨fun pins s σ H R I q => ?_⟩
  obtain ⟨c, env, Re, ds, e1, q⟩ := q
  obtain ⟨m, em, el⟩ := Z.R.bind_eq e1
  rcases listOf_ok el with er | er | ⟨ns, er, rfl⟩ | er
  · refine (pi_list h).run pins s σ H R I ⟨c, env, Re, m, em, fun v c' H' x o => ?_⟩
    obtain ⟨a, vs, ev, l, s1, k⟩ := o.list er
    refine ⟨a, ev, ⟨vs, by rw [A.K]; exact s1⟩, ?_⟩
    rw [A.K]
    exact q c' H' _ x (iter_list l k)
  · refine (pi_tup h).run pins s σ H R I ⟨c, env, Re, m, em, fun v c' H' x o => ?_⟩
    obtain ⟨a, vs, ev, l, s1⟩ := o.lent.tup er
    refine ⟨a, ev, ⟨vs, by rw [A.K]; exact s1.sq⟩, ?_⟩
    rw [A.K]
    exact q c' H' _ x (iter_tup l fun c2 H2 u => (s1.stay u.stay).sq)
  · refine (pi_list h).run pins s σ H R I ⟨c, env, Re, m, em, fun v c' H' x o => ?_⟩
    obtain ⟨a, ev, s1⟩ := o.lent.scr er
    refine ⟨a, ev, ⟨_, by rw [A.K]; exact s1.sq⟩, ?_⟩
    rw [A.K]
    exact q c' H' _ x (iter_list (FzL.ints ns) fun c2 H2 u => (s1.stay u.stay).sq)
  · refine (pi_tup h).run pins s σ H R I ⟨c, env, Re, m, em, fun v c' H' x o => ?_⟩
    obtain ⟨a, vs, ev, l, s1⟩ := o.lent.ktp er
    refine ⟨a, ev, ⟨vs, by rw [A.K]; exact SqT.nil0 s1 _⟩, ?_⟩
    rw [A.K]
    exact q c' H' _ x (iter_tup l fun c2 H2 u => SqT.nil0 s1 _)
/-! ### arguments -/
def fNil : Env → R (List M) := fun _ => .ok []
def fCons (f : SemE) (g : Env → R (List M)) : Env → R (List M) := fun env => (f env).bind fun x => (g env).bind fun xs => .ok (x :: xs)
theorem a_nil : AB X κ ro [] fNil := PA.imp pa_nil fun σ H Q ⟨c, env, R, m, e, q⟩ => by
  cases e
  exact q [] c H (Ext.refl R.al) .nil
theorem Paired.lentx {c c' : Colr} {H H' : Hp} (x : Ext c H c' H') {vs : List V} {ms : List M} (h : Paired (Lent κ c H) vs ms) : Paired (Lent κ c' H') vs ms := Paired.mapP h fun _ _ l => l.ext x
theorem a_cons {e : Expr} {es : List Expr} {f : SemE} {g : Env → R (List M)} (h : BE X κ ro e f) (t : AB X κ ro es g) (hs : starEach (e :: es) X.env = (false, eval e X.env) :: starEach es X.env := by rfl) : AB X κ ro (e :: es) (fCons f g) :=
  PA.imp (pa_cons h t hs) fun σ H Q ⟨c, env, R, m, e, q⟩ => by
    obtain ⟨m1, e1, e⟩ := Z.R.bind_eq e
    obtain ⟨ms, e2, e⟩ := Z.R.bind_eq e
    cases e
    refine ⟨c, env, R, m1, e1, fun v c1 H1 x1 o1 => ?_⟩
    exact ⟨c1, env, R.ext x1, ms, e2, fun vs c2 H2 x2 o2 => q _ c2 H2 (x1.trans x2) (.cons (o1.ext x2) o2)⟩
/-! ### range -/
theorem iter_range {c0 : Colr} {H0 : Hp} {lo : Int} {n : Nat} : Iterates κ c0 H0 (Itr lo n) ((List.range n).map fun (i : Nat) => D.int (lo + (i : Int))) := by
  intro c H u i
  refine ⟨fun d e => ?_, fun e => ?_⟩
  · have hi : i < n := by
      have := (List.getElem?_eq_some_iff.mp e).1
      simpa using this
    rw [List.getElem?_map, List.getElem?_range hi] at e
    cases e
    refine ⟨hi, fun x H' y => ?_⟩
    obtain ⟨eh, ex⟩ := y
    subst eh ex
    exact ⟨c, Ext.refl u.al, .int _⟩
  · rw [e]
    show n ≤ _
    simp
def rangeL (lo hi : Int) : List D := (List.range (hi - lo).toNat).map fun (i : Nat) => D.int (lo + (i : Int))
def rangeOk (i : Int) : Bool := decide (-(2 ^ 62) ≤ i ∧ i < 2 ^ 62)
def intM (m : M) : R Int := match m.er with
  | .int i => .ok i
  | _ => .stuck
theorem intM_ok {m : M} {i : Int} (h : intM m = .ok i) : m.er = .int i := by
  unfold intM at h
  split at h
  · next j e => cases h; exact e
  · cases h
def guard (b : Bool) (x : R α) : R α := if b = true then x else .stuck
theorem guard_ok {b : Bool} {x : R α} {y : α} (h : guard b x = .ok y) : b = true ∧ x = .ok y := by
  unfold guard at h
  split at h
  · next e => exact ⟨e, h⟩
  · cases h
def fRange1 (f : SemE) : Env → R (List D) := fun env => (f env).bind fun m => (intM m).bind fun j => guard (rangeOk j) (.ok (rangeL 0 j))
def fRange2 (f g : SemE) : Env → R (List D) := fun env => (f env).bind fun m => (g env).bind fun n => (intM m).bind fun i => (intM n).bind fun j => guard (rangeOk i && rangeOk j) (.ok (rangeL i j))
theorem i_range1 {tg a : Expr} {f : SemE} {p pos : Pos} (hg : Gl X "range") (hm : X.mg "range" = none) (ha : BE X κ ro a f) (hs : starEach [a] X.env = [(false, eval a X.env)] := by rfl) : IB X κ ro tg (.Call (.Name "range" p) [a] [] pos) (fRange1 f) := by
  refine ⟨fun pins s σ H R I q => ?_⟩
  obtain ⟨c, env, Re, ds, e1, q⟩ := q
  obtain ⟨m, em, el⟩ := Z.R.bind_eq e1
  obtain ⟨j, ej, el⟩ := Z.R.bind_eq el
  obtain ⟨hj, el⟩ := guard_ok el
  cases el
  refine (pi_range1 hg hm (a_cons ha a_nil hs) hs).run pins s σ H R I ⟨c, env, Re, [m], by simp [fCons, fNil, em], fun vs c' H' x o => ?_⟩
  cases o with
  | cons o1 o2 =>
    cases o2
    cases o1.int (intM_ok ej)
    have hj := of_decide_eq_true hj
    refine ⟨j, rfl, hj.1, hj.2, q c' H' _ x ?_⟩
    have e0 : j.toNat = (j - 0).toNat := by simp
    rw [e0]
    exact iter_range
theorem i_range2 {tg a b : Expr} {f g : SemE} {p pos : Pos} (hg : Gl X "range") (hm : X.mg "range" = none) (ha : BE X κ ro a f) (hb : BE X κ ro b g)
    (hs : starEach [a, b] X.env = [(false, eval a X.env), (false, eval b X.env)] := by rfl) (hs2 : starEach [b] X.env = [(false, eval b X.env)] := by rfl) : IB X κ ro tg (.Call (.Name "range" p) [a, b] [] pos) (fRange2 f g) := by
  refine ⟨fun pins s σ H R I q => ?_⟩
  obtain ⟨c, env, Re, ds, e1, q⟩ := q
  obtain ⟨m, em, el⟩ := Z.R.bind_eq e1
  obtain ⟨n, en, el⟩ := Z.R.bind_eq el
  obtain ⟨i, ei, el⟩ := Z.R.bind_eq el
  obtain ⟨j, ej, el⟩ := Z.R.bind_eq el
  obtain ⟨hj, el⟩ := guard_ok el
  cases el
  refine (pi_range2 hg hm (a_cons ha (a_cons hb a_nil hs2) (by rw [hs, hs2])) hs hs2).run pins s σ H R I ⟨c, env, Re, [m, n], by simp [fCons, fNil, em, en], fun vs c' H' x o => ?_⟩
  cases o with
  | cons o1 o2 => cases o2 with
    | cons o2 o3 =>
      cases o3
      cases o1.int (intM_ok ei)
      cases o2.int (intM_ok ej)
      obtain ⟨h1, h2⟩ := Bool.and_eq_true_iff.mp hj
      have h1 := of_decide_eq_true h1
      have h2 := of_decide_eq_true h2
      exact ⟨i, j, rfl, ⟨h1.1, h1.2, h2.1, h2.2⟩, q c' H' _ x iter_range⟩
/-! ### zip -/
def pairsL : List D → List D → List D
  | x :: xs, y :: ys => .tup [x, y] :: pairsL xs ys
  | _, _ => []
theorem pairsL_length : ∀ xs ys : List D, (pairsL xs ys).length = min xs.length ys.length
  | [], ys => by simp [pairsL]
  | _ :: _, [] => by simp [pairsL]
  | x :: xs, y :: ys => by simp [pairsL, pairsL_length xs ys, Nat.succ_min_succ]
theorem pairsL_get : ∀ {xs ys : List D} {i : Nat} {d : D}, (pairsL xs ys)[i]? = some d → ∃ x y, xs[i]? = some x ∧ ys[i]? = some y ∧ d = .tup [x, y]
  | [], ys, i, d, h => by simp [pairsL] at h
  | _ :: _, [], i, d, h => by simp [pairsL] at h
  | x :: xs, y :: ys, 0, d, h => by
    simp [pairsL] at h
    exact ⟨x, y, rfl, rfl, h.symm⟩
  | x :: xs, y :: ys, i + 1, d, h => by
    obtain ⟨u, w, e1, e2, e3⟩ := pairsL_get (xs := xs) (ys := ys) (i := i) (d := d) (by simpa [pairsL] using h)
    exact ⟨u, w, by simpa using e1, by simpa using e2, e3⟩
def lstOf (m : M) : R (List D) := match m.er with
  | .lst l => .ok l
  | _ => .stuck
theorem lstOf_ok {m : M} {ds : List D} (h : lstOf m = .ok ds) : m.er = .lst ds := by
  unfold lstOf at h
  split at h
  · next l e => cases h; exact e
  · cases h
def fZip (f g : SemE) : Env → R (List D) := fun env => (f env).bind fun m => (g env).bind fun n => (lstOf m).bind fun xs => (lstOf n).bind fun ys => .ok (pairsL xs ys)
theorem ext_newtup {c : Colr} {H : Hp} {T : Addr} {o : HO} (al : ∀ a, H a = none → c a = .no) (h : H T = none) : ∃ c', Ext c H c' (upd H T o) ∧ c' T = .fz := by
  refine ⟨fun a => if a = T then .fz else c a, ⟨fun a ob e => ?_, fun a n => ?_, fun a n => ?_⟩, if_pos rfl⟩
  · have ne := ne_of_none e h
    exact ⟨by rw [upd_ne ne]; exact e, if_neg ne⟩
  · by_cases e : a = T
    · exact .inr (if_pos e)
    · exact .inl (by rw [if_neg e]; exact al a n)
  · have ne : a ≠ T := by
      rintro rfl
      rw [upd_same] at n
      cases n
    rw [upd_ne ne] at n
    show (if a = T then _ else _) = _
    rw [if_neg ne]
    exact al a n
theorem iter_zip {c0 : Colr} {H0 : Hp} {a b : Addr} {vs ws : List V} {ds es : List D} (l : FzL κ c0 H0 vs ds) (l2 : FzL κ c0 H0 ws es) (k : ∀ c' H', Upd c0 H0 c' H' → SqL κ.K H' a vs) (k2 : ∀ c' H', Upd c0 H0 c' H' → SqL κ.K H' b ws) : Iterates κ c0 H0 (Itz κ.K a b) (pairsL ds es) := by
  intro c H u i
  have s := k c H u
  have s2 := k2 c H u
  refine ⟨fun d e => ?_, fun e => ?_⟩
  · obtain ⟨x, y, e1, e2, ed⟩ := pairsL_get e
    obtain ⟨v, ev, hv⟩ := (l.stay u.stay).get e1
    obtain ⟨w, ew, hw⟩ := (l2.stay u.stay).get e2
    refine ⟨⟨vs, ws, v, w, s, s2, ev, ew⟩, fun z H' h => ?_⟩
    obtain ⟨T, v', w', ez, hT, eH, h1, h2⟩ := h
    have q1 := h1 vs s
    have q2 := h2 ws s2
    rw [ev] at q1
    rw [ew] at q2
    cases q1
    cases q2
    subst ez eH ed
    obtain ⟨c', xt, ct⟩ := ext_newtup (c := c) (H := H) (T := T) (o := .tup [v, w]) u.al hT
    exact ⟨c', xt, .tup ⟨ct, upd_same⟩ (.cons (hv.stay xt.stay) (.cons (hw.stay xt.stay) .nil))⟩
  · refine ⟨vs, ws, s, s2, ?_⟩
    rw [e, pairsL_length, l.length, l2.length]
    omega
theorem i_zip (A : At X κ) {tg a b : Expr} {f g : SemE} {p pos tpos : Pos} {elts : List Expr} {kk : Nat} (hg : Gl X "zip") (hm : X.mg "zip" = none) (ha : QE X κ ro a f) (hb : QE X κ ro b g)
    (hs : starEach [a, b] X.env = (false, eval a X.env) :: starEach [b] X.env := by rfl) (hs2 : starEach [b] X.env = [(false, eval b X.env)] := by rfl) (hpl : (backTo pos (starEach [b] X.env)).any (·.1) = false := by rfl) :
    IB X κ ro (.Tuple elts kk tpos) (.Call (.Name "zip" p) [a, b] [] pos) (fZip f g) := by
  refine ⟨fun pins s σ H R I q => ?_⟩
  obtain ⟨c, env, Re, ds, e1, q⟩ := q
  obtain ⟨m, em, el⟩ := Z.R.bind_eq e1
  obtain ⟨n, en, el⟩ := Z.R.bind_eq el
  obtain ⟨xs, ex, el⟩ := Z.R.bind_eq el
  obtain ⟨ys, ey, el⟩ := Z.R.bind_eq el
  cases el
  refine (pi_zip hg hm (pa_cons ha (pa_cons hb pa_nil (by rw [hs2] <;> rfl)) hs) hs hpl).run pins s σ H R I ⟨c, env, Re, m, em, fun v c1 H1 x1 o1 => ?_⟩
  refine ⟨c1, env, Re.ext x1, n, en, fun w c2 H2 x2 o2 => ?_⟩
  have o1 := o1.upd (x2.upd x1.al)
  obtain ⟨a1, vs, ev, l, s1, k⟩ := o1.list (lstOf_ok ex)
  obtain ⟨a2, ws, ew, l2, s2, k2⟩ := o2.list (lstOf_ok ey)
  subst ev ew
  rw [A.K]
  exact ⟨a1, a2, vs, ws, rfl, s1, s2, q c2 H2 _ (x1.trans x2) (iter_zip l l2 k k2)⟩
/-! ### targets -/
abbrev SemG := D → Env → R Env
def gG (κ : Kx) (ro : Md) (b : SemG) : TG := fun v σ H Q => ∃ c env d, EnvR κ ro c H σ env ∧ Fz κ c H v d ∧ ∃ env', b d env = .ok env' ∧ ∀ σ' c' H', EnvR κ ro c' H' σ' env' → Upd c H c' H' → Fix ro σ σ' → Q σ' H'
abbrev GB (X : Cx) (κ : Kx) (ro : Md) (tg : Expr) (b : SemG) : Prop := PG X tg (gG κ ro b)
def bName (i : Nat) : SemG := fun d env => if i < env.length then .ok (env.set i (some (.fz d))) else .stuck
theorem g_name {i : Nat} {x : Str} {pos : Pos} (hN : X.N.Nodup) (hx : X.N[i]? = some x) (hl : Loc X.env.scope x) (hi : ro.contains i = false) (hm : ro.mu.contains i = false)
    (hf : X.fn x = true ∨ X.env.scope.names.lookup x = some .local := by first | exact .inl rfl | exact .inr rfl | assumption) : GB X κ ro (.Name x pos) (bName i) := by
  refine ⟨fun pins s σ H v u Q I r q => (pg_name hN hx hl hf).run pins s σ H v u Q I r ?_⟩
  obtain ⟨c, env, d, R, h, env', e, q⟩ := q
  unfold bName at e
  split at e
  · next hl =>
    cases e
    exact set_done R hi hl (Ext.refl R.al) New.no (.fz h) q hm
  · cases e
def bTupL : List SemG → List D → Env → R Env
  | [], [], env => .ok env
  | b :: bs, d :: ds, env => (b d env).bind fun e => bTupL bs ds e
  | _, _, _ => .stuck
def gGs (κ : Kx) (ro : Md) (bs : List SemG) : TGs := fun vs σ H Q => ∃ c env ds, EnvR κ ro c H σ env ∧ FzL κ c H vs ds ∧ ∃ env', bTupL bs ds env = .ok env' ∧ ∀ σ' c' H', EnvR κ ro c' H' σ' env' → Upd c H c' H' → Fix ro σ σ' → Q σ' H'
abbrev GBs (X : Cx) (κ : Kx) (ro : Md) (tg : List Expr) (b : List SemG) : Prop := PGs X tg (gGs κ ro b)
theorem PGs.imp {ts : List Expr} {t t' : TGs} (h : PGs X ts t) (k : ∀ vs σ H Q, t' vs σ H Q → t vs σ H Q) : PGs X ts t' := ⟨fun pins s σ H vs us Q I r q => h.run pins s σ H vs us Q I r (k vs σ H Q q)⟩
theorem PG.imp {ts : Expr} {t t' : TG} (h : PG X ts t) (k : ∀ vs σ H Q, t' vs σ H Q → t vs σ H Q) : PG X ts t' := ⟨fun pins s σ H vs us Q I r q => h.run pins s σ H vs us Q I r (k vs σ H Q q)⟩
theorem g_nil : GBs X κ ro [] [] := PGs.imp pgs_nil fun vs σ H Q ⟨c, env, ds, R, l, env', e, q⟩ => by
  cases l with
  | nil =>
    cases e
    exact ⟨rfl, q σ c H R (Upd.refl R.al) Fix.refl⟩
  | cons => cases e
theorem g_cons {e : Expr} {es : List Expr} {b : SemG} {bs : List SemG} (h1 : GB X κ ro e b) (h2 : GBs X κ ro es bs)
    (hs : (assignEach (e :: es) X.env).map (·.2) = assign e X.env :: (assignEach es X.env).map (·.2) := by rfl) : GBs X κ ro (e :: es) (b :: bs) :=
  PGs.imp (pgs_cons h1 h2 hs) fun vs σ H Q ⟨c, env, ds, R, l, env', e, q⟩ => by
    cases l with
    | nil => cases e
    | cons hv l =>
      obtain ⟨e1, h1, e⟩ := Z.R.bind_eq e
      refine ⟨_, _, rfl, c, env, _, R, hv, e1, h1, fun σ' c' H' R' u f => ?_⟩
      exact ⟨c', e1, _, R', l.stay u.stay, env', e, fun σ2 c2 H2 R2 u2 f2 => q σ2 c2 H2 R2 (u.trans u2) (f.trans f2)⟩
def bTup (bs : List SemG) : SemG := fun d env => match d with
  | .tup ds => if ds.length = bs.length then bTupL bs ds env else .stuck
  | _ => .stuck
theorem g_tup (A : At X κ) {es : List Expr} {k : Nat} {bs : List SemG} {n : Nat} {pos : Pos} (hc : X.calm = true) (h : GBs X κ ro es bs) (hl : bs.length = n)
    (hn : (assignEach es X.env).length = n := by rfl) (hst : (assignEach es X.env).findIdx? (·.1) = none := by rfl) : GB X κ ro (.Tuple es k pos) (bTup bs) :=
  PG.imp (pg_tup hc h hn hst) fun v σ H Q ⟨c, env, d, R, hd, env', e, q⟩ => by
    unfold bTup at e
    split at e
    · next ds =>
      split at e
      · next hlen =>
        cases hd with
        | tup s l => exact ⟨_, _, rfl, by rw [A.K]; exact s.sq, by rw [l.length, hlen, hl], c, env, ds, R, l, env', e, q⟩
      · cases e
    · cases e
/-! ### for -/
def gLoop (b : SemG) (g : SemS) : List D → Env → Out
  | [], env => .nx env
  | d :: ds, env => match b d env with
    | .ok e => (match g e with
      | .nx e' => gLoop b g ds e'
      | .ct e' => gLoop b g ds e'
      | .bk e' => .nx e'
      | o => o)
    | .exc c l => .exc c l
    | .stuck => .stuck
def lbind (x : R (List D)) (k : List D → Out) : Out := match x with
  | .ok m => k m
  | .exc c ds => .exc c ds
  | .stuck => .stuck
def gFor (f : Env → R (List D)) (b : SemG) (g : SemS) : SemS := fun env => lbind (f env) fun ds => gLoop b g ds env
theorem s_for {tg iter : Expr} {body : List Stmt} {f : Env → R (List D)} {b : SemG} {g : SemS} {pos : Pos} (hp : PassesOwn (model X.prog X.w) X.A X.env X.xe) (hc : X.calm = true) (hi : IB X κ ro tg iter f) (hg : GB X κ ro tg b) (hb : SB X κ ro body g)
    (hs : ∀ x, foldedSetIterable iter X.env x = pure x := by intro _; rfl) : SS X κ ro (.For tg iter body [] pos) (gFor f b g) :=
  PS.imp (ps_for hp hc hi hg hb hs) fun D σ H ⟨c, env, R, q⟩ => by
    unfold gFor lbind at q
    cases ef : f env with
    | exc _ _ => rw [ef] at q; exact q.elim
    | stuck => rw [ef] at q; exact q.elim
    | ok ds =>
      rw [ef] at q
      have q : pO κ ro c H σ (gLoop b g ds env) D := q
      refine ⟨c, env, R, ds, ef, fun c1 H1 J x1 it => ?_⟩
      have q := pO.after (x1.upd R.al) Fix.refl q
      refine ⟨fun i m σ' H' => m = ds.length - i ∧ i ≤ ds.length ∧ ∃ c' env', EnvR κ ro c' H' σ' env' ∧ Upd c1 H1 c' H' ∧ Fix ro σ σ' ∧ pO κ ro c' H' σ' (gLoop b g (ds.drop i) env') D,
        ⟨ds.length, by simp, Nat.zero_le _, c1, env, R.ext x1, Upd.refl x1.al, Fix.refl, by simpa using q⟩, ?_⟩
      rintro i m σ2 H2 ⟨rfl, hi, c2, env2, R2, u2, f2, q2⟩
      obtain ⟨turn, stop⟩ := it c2 H2 u2 i
      by_cases hlt : i < ds.length
      · have hd : ds[i]? = some ds[i] := List.getElem?_eq_getElem hlt
        obtain ⟨go, yld⟩ := turn _ hd
        rw [List.drop_eq_getElem_cons hlt] at q2
        refine .inr ⟨go, fun σ' H' => ∃ c' env', EnvR κ ro c' H' σ' env' ∧ Upd c1 H1 c' H' ∧ Fix ro σ σ' ∧ pO κ ro c' H' σ' (gLoop b g (ds.drop (i + 1)) env') D, fun σ' H' p => ⟨ds.length - (i + 1), by omega, rfl, hlt, p⟩, fun x H3 y => ?_⟩
        obtain ⟨c3, x3, hx⟩ := yld x H3 y
        unfold gLoop at q2
        cases eb : b ds[i] env2 with
        | exc _ _ => rw [eb] at q2; exact q2.elim
        | stuck => rw [eb] at q2; exact q2.elim
        | ok env3 =>
          rw [eb] at q2
          refine ⟨c3, env2, ds[i], R2.ext x3, hx, env3, eb, fun σ4 c4 H4 R4 u4 f4 => ?_⟩
          have u24 : Upd c2 H2 c4 H4 := (x3.upd R2.al).trans u4
          refine ⟨c4, env3, R4, ?_⟩
          cases eg : g env3 with
          | nx e5 =>
            simp only [eg] at q2
            exact fun σ5 c5 H5 R5 u5 f5 => ⟨c5, e5, R5, (u2.trans u24).trans u5, (f2.trans f4).trans f5, pO.after (u24.trans u5) (f4.trans f5) q2⟩
          | ct e5 =>
            simp only [eg] at q2
            exact fun σ5 c5 H5 R5 u5 f5 => ⟨c5, e5, R5, (u2.trans u24).trans u5, (f2.trans f4).trans f5, pO.after (u24.trans u5) (f4.trans f5) q2⟩
          | bk e5 =>
            simp only [eg] at q2
            exact fun σ5 c5 H5 R5 u5 f5 => q2 σ5 c5 H5 R5 (u24.trans u5) (f4.trans f5)
          | rt m5 e5 =>
            simp only [eg] at q2
            exact fun v σ5 c5 H5 P R5 u5 f5 n5 o5 => q2 v σ5 c5 H5 P R5 (u24.trans u5) (f4.trans f5) (n5.trans u24) o5
          | exc _ _ => simp only [eg] at q2; exact q2.elim
          | stuck => simp only [eg] at q2; exact q2.elim
      · have e : i = ds.length := by omega
        subst e
        rw [List.drop_length] at q2
        exact .inl ⟨stop rfl, q2 σ2 c2 H2 R2 (Upd.refl R2.al) Fix.refl⟩
/-! ### while -/
def gWhile (t : SemT) (g : SemS) : Nat → Env → Out
  | 0, _ => .stuck
  | n + 1, env => tbind (t env) fun b => if b = true then (match g env with
      | .nx e' => gWhile t g n e'
      | .ct e' => gWhile t g n e'
      | .bk e' => .nx e'
      | o => o) else .nx env
theorem s_while {e : Expr} {body : List Stmt} {t : SemT} {g : SemS} {pos : Pos} (n : Nat) (hp : PassesOwn (model X.prog X.w) X.A X.env X.xe) (ht : TB X κ ro e t) (hb : SB X κ ro body g) : SS X κ ro (.While e body [] pos) (gWhile t g n) :=
  PS.imp (ps_while hp ht hb) fun D σ H ⟨c, env, R, q⟩ => by
    refine ⟨fun m σ' H' => ∃ c' env', EnvR κ ro c' H' σ' env' ∧ Fix ro σ σ' ∧ pO κ ro c' H' σ' (gWhile t g m env') D, ⟨n, c, env, R, Fix.refl, q⟩, ?_⟩
    rintro m σ1 H1 ⟨c1, env1, R1, f1, q1⟩
    cases m with
    | zero => exact q1.elim
    | succ m =>
      unfold gWhile tbind at q1
      cases et : t env1 with
      | exc _ _ => rw [et] at q1; exact q1.elim
      | stuck => rw [et] at q1; exact q1.elim
      | ok b =>
        rw [et] at q1
        refine ⟨c1, env1, R1, b, et, fun c2 H2 x2 => ?_⟩
        have u12 := x2.upd R1.al
        cases b with
        | false => exact q1 σ1 c2 H2 (R1.ext x2) u12 Fix.refl
        | true =>
          refine ⟨fun σ' H' => ∃ c' env', EnvR κ ro c' H' σ' env' ∧ Fix ro σ σ' ∧ pO κ ro c' H' σ' (gWhile t g m env') D, fun σ' H' p => ⟨m, Nat.lt_succ_self _, p⟩, ?_⟩
          refine ⟨c2, env1, R1.ext x2, ?_⟩
          cases eg : g env1 with
          | nx e5 =>
            simp only [if_pos, eg] at q1
            exact fun σ5 c5 H5 R5 u5 f5 => ⟨c5, e5, R5, f1.trans f5, pO.after (u12.trans u5) f5 q1⟩
          | ct e5 =>
            simp only [if_pos, eg] at q1
            exact fun σ5 c5 H5 R5 u5 f5 => ⟨c5, e5, R5, f1.trans f5, pO.after (u12.trans u5) f5 q1⟩
          | bk e5 =>
            simp only [if_pos, eg] at q1
            exact fun σ5 c5 H5 R5 u5 f5 => q1 σ5 c5 H5 R5 (u12.trans u5) f5
          | rt m5 e5 =>
            simp only [if_pos, eg] at q1
            exact fun v σ5 c5 H5 P R5 u5 f5 n5 o5 => q1 v σ5 c5 H5 P R5 (u12.trans u5) f5 (n5.trans u12) o5
          | exc _ _ => simp only [if_pos, eg] at q1; exact q1.elim
          | stuck => simp only [if_pos, eg] at q1; exact q1.elim
end
end Z

set_option Elab.async false
set_option linter.all false
set_option maxRecDepth 100000
set_option maxHeartbeats 2000000
namespace Z
open PySem PySem.Spec PyProof.Rows L2
/-! ### new things -/
section
variable {κ : Kx}
theorem ext_new {c : Colr} {H : Hp} {p : Addr} {o : HO} (al : ∀ a, H a = none → c a = .no) (h : H p = none) : Ext c H c (L2.upd H p o) := by
  refine ⟨fun a ob e => ⟨by rw [upd_ne (ne_of_none e h)]; exact e, rfl⟩, fun a n => .inl (al a n), fun a n => ?_⟩
  by_cases e : a = p
  · rw [e, upd_same] at n; cases n
  · rw [upd_ne e] at n
    exact al a n
theorem new_lst {c : Colr} {H : Hp} {vs : List V} {ds : List D} {Q : VK} {p : Addr} (al : ∀ a, H a = none → c a = .no) (l : FzL κ c H vs ds) (q : pV κ c H (.lst ds) Q) (h : H p = none) : Q (.ref p) (L2.upd H p (.lst vs)) :=
  q (.ref p) c _ (fun pt a => pt = [] ∧ a = p) (ext_new al h) ⟨fun pt a e => ⟨by rw [e.2]; exact h, by rw [e.2]; exact al p h⟩, fun x y a e f => e.1.trans f.1.symm⟩
    (.lst ⟨rfl, rfl⟩ upd_same (l.stay (ext_new al h).stay))
theorem new_tup {c : Colr} {H : Hp} {vs : List V} {ds : List D} {Q : VK} {p : Addr} (al : ∀ a, H a = none → c a = .no) (l : FzL κ c H vs ds) (q : pV κ c H (.fz (.tup ds)) Q) (h : H p = none) : Q (.ref p) (L2.upd H p (.tup vs)) := by
  obtain ⟨c', x, ct⟩ := ext_newtup (o := .tup vs) al h
  exact q (.ref p) c' _ noP x New.no (.fz (.tup ⟨ct, upd_same⟩ (l.stay x.stay)))
theorem q_fz {c : Colr} {H : Hp} {v : V} {d : D} {Q : VK} (al : ∀ a, H a = none → c a = .no) (h : Fz κ c H v d) (q : pV κ c H (.fz d) Q) : Q v H := q v c H noP (Ext.refl al) New.no (.fz h)
theorem FzL.app {c : Colr} {H : Hp} : ∀ {vs ws : List V} {ds es : List D}, FzL κ c H vs ds → FzL κ c H ws es → FzL κ c H (vs ++ ws) (ds ++ es)
  | _, _, _, _, .nil, l => l
  | _, _, _, _, .cons h t, l => .cons h (FzL.app t l)
theorem FzL.drop {c : Colr} {H : Hp} : ∀ {vs : List V} {ds : List D} (n : Nat), FzL κ c H vs ds → FzL κ c H (vs.drop n) (ds.drop n)
  | _, _, 0, l => l
  | _, _, n + 1, .nil => .nil
  | _, _, n + 1, .cons h t => FzL.drop n t
theorem FzL.take {c : Colr} {H : Hp} : ∀ {vs : List V} {ds : List D} (n : Nat), FzL κ c H vs ds → FzL κ c H (vs.take n) (ds.take n)
  | _, _, 0, l => .nil
  | _, _, n + 1, .nil => .nil
  | _, _, n + 1, .cons h t => .cons h (FzL.take n t)
theorem FzL.at {c : Colr} {H : Hp} {vs : List V} {ds : List D} {i : Int} {d : D} (l : FzL κ c H vs ds) (e : atI ds i = some d) : ∃ v, atI vs i = some v ∧ Fz κ c H v d := by
  unfold atI at e ⊢
  rw [l.length]
  cases h : ixN ds.length i with
  | none => rw [h] at e; cases e
  | some j =>
    rw [h] at e
    exact l.get e
end
/-! ### arithmetic -/
def addM (x y : M) : R M := match x.er, y.er with
  | .int i, .int j => .ok (.fz (.int (i + j)))
  | .str a, .str b => guard (decide (a.length + b.length ≤ sizeLine)) (.ok (.fz (.str (a ++ b))))
  | .lst a, .lst b => guard (decide (a.length + b.length ≤ sizeLine)) (.ok (.lst (a ++ b)))
  | .tup a, .tup b => guard (!a.isEmpty && decide (a.length + b.length ≤ sizeLine)) (.ok (.fz (.tup (a ++ b))))
  | _, _ => .stuck
def intOp (C : Int → Int → Bool) (g : Int → Int → D) (x y : M) : R M := match x.er, y.er with
  | .int i, .int j => guard (C i j) (.ok (.fz (g i j)))
  | _, _ => .stuck
abbrev yes : Int → Int → Bool := fun _ _ => true
def subM := intOp yes fun i j => .int (i - j)
def mulC (i j : Int) : Bool := decide ((-(2 ^ 64) < i ∧ i < 2 ^ 64) ∨ (-(2 ^ 64) < j ∧ j < 2 ^ 64)) || decide (i.natAbs.log2 + j.natAbs.log2 < 1000000)
def mulM := intOp mulC fun i j => .int (i * j)
def fdivC (_ j : Int) : Bool := decide (0 < j) && decide (j.natAbs.log2 < 9000)
def fdivM := intOp fdivC fun i j => .int (i / j)
def modM := intOp (fun _ j => decide (0 < j)) fun i j => .int (i % j)
def powM := intOp (fun i j => decide (0 ≤ j ∧ j ≤ 1000000 ∧ i.natAbs < 2 ^ 64)) fun i j => .int (i ^ j.toNat)
def ltM := intOp yes fun i j => .bl (decide (i < j))
def leM := intOp yes fun i j => .bl (decide (i ≤ j))
def gtM := intOp yes fun i j => .bl (decide (j < i))
def geM := intOp yes fun i j => .bl (decide (j ≤ i))
section
variable {X : Cx} {κ : Kx} {ro : Md}
theorem intOp_ok {C : Int → Int → Bool} {g : Int → Int → D} {x y k : M} (h : intOp C g x y = .ok k) : ∃ i j, x.er = .int i ∧ y.er = .int j ∧ C i j = true ∧ k = .fz (g i j) := by
  unfold intOp at h
  split at h
  · next i j e1 e2 =>
    obtain ⟨h1, h2⟩ := guard_ok h
    cases h2
    exact ⟨i, j, e1, e2, h1, rfl⟩
  · cases h
/-- ints: the rule gives a flat thing -/
theorem ops_int {C : Int → Int → Bool} {Cp : Int → Int → Prop} {g : Int → Int → D} {gv : Int → Int → V} (hc : ∀ i j, C i j = true → Cp i j) (hg : ∀ c H i j, Fz κ c H (gv i j) (g i j)) : OpS κ (rI Cp gv) (intOp C g) := by
  intro c H x y m n k Q al lx ly e q
  obtain ⟨i, j, e1, e2, h, rfl⟩ := intOp_ok e
  exact ⟨i, j, lx.int e1, ly.int e2, hc i j h, q_fz al (hg c H i j) q⟩
theorem ops_int0 {g : Int → Int → D} {gv : Int → Int → V} (hg : ∀ c H i j, Fz κ c H (gv i j) (g i j)) : OpS κ (rI0 gv) (intOp yes g) := by
  intro c H x y m n k Q al lx ly e q
  obtain ⟨i, j, e1, e2, h, rfl⟩ := intOp_ok e
  exact ⟨i, j, lx.int e1, ly.int e2, q_fz al (hg c H i j) q⟩
variable {a b : Expr} {f g : SemE} {pos : Pos}
theorem v_sub (ha : BE X κ ro a f) (hb : BE X κ ro b g) : VE X κ ro (.BinOp a .Sub b pos) (fBin subM f g) := v_op op_sub (ops_int0 fun _ _ _ _ => .int _) ha hb
theorem v_mul (ha : BE X κ ro a f) (hb : BE X κ ro b g) : VE X κ ro (.BinOp a .Mult b pos) (fBin mulM f g) := by
  refine v_op (OpR.or op_mul op_mulW) ?_ ha hb
  intro c H x y m n k Q al lx ly e q
  obtain ⟨i, j, e1, e2, h, rfl⟩ := intOp_ok e
  rcases Bool.or_eq_true_iff.mp h with h | h
  · exact .inl ⟨i, j, lx.int e1, ly.int e2, (of_decide_eq_true h : (-(2 ^ 64) < i ∧ i < 2 ^ 64) ∨ (-(2 ^ 64) < j ∧ j < 2 ^ 64)), q_fz al (.int _) q⟩
  · exact .inr ⟨i, j, lx.int e1, ly.int e2, (of_decide_eq_true h : i.natAbs.log2 + j.natAbs.log2 < 1000000), q_fz al (.int _) q⟩
theorem v_fdiv (ha : BE X κ ro a f) (hb : BE X κ ro b g) : VE X κ ro (.BinOp a .FloorDiv b pos) (fBin fdivM f g) :=
  v_op op_fdivW (ops_int (fun i j h => by
    obtain ⟨h1, h2⟩ := Bool.and_eq_true_iff.mp h
    exact ⟨of_decide_eq_true h1, of_decide_eq_true h2⟩) fun _ _ _ _ => .int _) ha hb
theorem v_mod (ha : BE X κ ro a f) (hb : BE X κ ro b g) : VE X κ ro (.BinOp a .Mod b pos) (fBin modM f g) := v_op op_mod (ops_int (fun i j h => of_decide_eq_true h) fun _ _ _ _ => .int _) ha hb
theorem v_pow (ha : BE X κ ro a f) (hb : BE X κ ro b g) : VE X κ ro (.BinOp a .Pow b pos) (fBin powM f g) := v_op op_pow (ops_int (fun i j h => (of_decide_eq_true h : 0 ≤ j ∧ j ≤ 1000000 ∧ i.natAbs < 2 ^ 64)) fun _ _ _ _ => .int _) ha hb
theorem ops_add : OpS κ (fun x y H Q => (rI0 (fun i j => .int (i + j)) x y H Q ∨ (∃ i j, x = .str i ∧ y = .str j ∧ i.length + j.length ≤ sizeLine ∧ Q (.str (i ++ j)) H)) ∨ (rCat x y H Q ∨ rCatT κ.K x y H Q)) addM := by
  intro c H x y m n k Q al lx ly e q
  unfold addM at e
  split at e
  · next i j e1 e2 =>
    cases e
    exact .inl (.inl ⟨i, j, lx.int e1, ly.int e2, q_fz al (.int _) q⟩)
  · next i j e1 e2 =>
    obtain ⟨h, e⟩ := guard_ok e
    cases e
    exact .inl (.inr ⟨i, j, lx.str e1, ly.str e2, of_decide_eq_true h, q_fz al (.str _) q⟩)
  · next i j e1 e2 =>
    obtain ⟨h, e⟩ := guard_ok e
    cases e
    obtain ⟨p, vs, rfl, l, hp⟩ := lx.list e1
    obtain ⟨r, ws, rfl, l2, hr⟩ := ly.list e2
    have h := of_decide_eq_true h
    exact .inr (.inl ⟨p, r, vs, ws, rfl, rfl, hp, hr, by rw [l.length, l2.length]; exact h, fun z hz => new_lst al (l.app l2) q hz⟩)
  · next i j e1 e2 =>
    obtain ⟨h, e⟩ := guard_ok e
    cases e
    obtain ⟨p, vs, rfl, l, hp⟩ := lx.tup e1
    obtain ⟨r, ws, rfl, l2, hr⟩ := ly.tup e2
    obtain ⟨h1, h2⟩ := Bool.and_eq_true_iff.mp h
    have h2 := of_decide_eq_true h2
    refine .inr (.inr ⟨p, r, vs, ws, rfl, rfl, hp.sq, hr.sq, ?_, by rw [l.length, l2.length]; exact h2, fun z => ?_, fun z w hw => new_tup al (l.app l2) q hw⟩)
    · rintro rfl
      cases l
      simp at h1
    · subst z
      cases l2
      rw [List.append_nil] at q
      exact q_fz al (.tup hp l) q
  · cases e
theorem v_add (A : At X κ) (ha : BE X κ ro a f) (hb : BE X κ ro b g) : VE X κ ro (.BinOp a .Add b pos) (fBin addM f g) := v_op (OpR.or (OpR.or op_add op_add_str) (OpR.or op_cat op_catT)) (by rw [A.K]; exact ops_add) ha hb
/-- -a -/
def negM (x : M) : R M := (intM x).bind fun i => .ok (.fz (.int (-i)))
def fUn (op : M → R M) (f : SemE) : SemE := fun env => (f env).bind op
theorem v_neg (ha : BE X κ ro a f) : VE X κ ro (.UnaryOp .USub a pos) (fUn negM f) := PE.imp (pe_un un_neg ha) fun σ H Q ⟨c, env, R, m, e, q⟩ => by
  obtain ⟨m1, e1, e⟩ := Z.R.bind_eq e
  obtain ⟨i, e2, e⟩ := Z.R.bind_eq e
  cases e
  refine ⟨c, env, R, m1, e1, fun v c1 H1 x1 o1 => ⟨i, o1.int (intM_ok e2), ?_⟩⟩
  exact q _ c1 H1 noP x1 New.no (.fz (.int _))
/-! ### comparisons -/
theorem t_lt (ha : BE X κ ro a f) (hb : BE X κ ro b g) : TB X κ ro (.Compare a [.Lt] [b] pos) (fTest (fBin ltM f g)) := t_cmp op_lt (ops_int0 fun _ _ _ _ => .bl _) ha hb (nomark _)
theorem t_le (ha : BE X κ ro a f) (hb : BE X κ ro b g) : TB X κ ro (.Compare a [.LtE] [b] pos) (fTest (fBin leM f g)) := t_cmp op_le (ops_int0 fun _ _ _ _ => .bl _) ha hb (nomark _)
theorem t_gt (ha : BE X κ ro a f) (hb : BE X κ ro b g) : TB X κ ro (.Compare a [.Gt] [b] pos) (fTest (fBin gtM f g)) := t_cmp op_gt (ops_int0 fun _ _ _ _ => .bl _) ha hb (nomark _)
theorem t_ge (ha : BE X κ ro a f) (hb : BE X κ ro b g) : TB X κ ro (.Compare a [.GtE] [b] pos) (fTest (fBin geM f g)) := t_cmp op_ge (ops_int0 fun _ _ _ _ => .bl _) ha hb (nomark _)
theorem v_lt (ha : BE X κ ro a f) (hb : BE X κ ro b g) : VE X κ ro (.Compare a [.Lt] [b] pos) (fBin ltM f g) := v_cmp op_lt (ops_int0 fun _ _ _ _ => .bl _) ha hb (nomark _)
theorem v_le (ha : BE X κ ro a f) (hb : BE X κ ro b g) : VE X κ ro (.Compare a [.LtE] [b] pos) (fBin leM f g) := v_cmp op_le (ops_int0 fun _ _ _ _ => .bl _) ha hb (nomark _)
theorem v_gt (ha : BE X κ ro a f) (hb : BE X κ ro b g) : VE X κ ro (.Compare a [.Gt] [b] pos) (fBin gtM f g) := v_cmp op_gt (ops_int0 fun _ _ _ _ => .bl _) ha hb (nomark _)
theorem v_ge (ha : BE X κ ro a f) (hb : BE X κ ro b g) : VE X κ ro (.Compare a [.GtE] [b] pos) (fBin geM f g) := v_cmp op_ge (ops_int0 fun _ _ _ _ => .bl _) ha hb (nomark _)
end
/-! equality of data -/
mutual
def D.py : D → Option PyData
  | .non => some .none
  | .bl b => some (.bool b)
  | .int i => some (.int i)
  | .str s => some (.str s)
  | .tup l => (D.pyL l).map .tuple
  | .lst l => (D.pyL l).map .list
  | .scr ns => some (.list (ns.map .int))
  | .dct _ => none
  | .ins _ _ => none
  | .ktp _ => none
def D.pyL : List D → Option (List PyData)
  | [] => some []
  | d :: l => d.py.bind fun p => (D.pyL l).map (p :: ·)
end
def eqM (x y : M) : R M := match x.er.py, y.er.py with
  | some d, some e => guard (SeqAt.shaped d && SeqAt.shaped e) (.ok (.fz (.bl (PyData.eqv d e))))
  | _, _ => .stuck
def neM (x y : M) : R M := match x.er.py, y.er.py with
  | some d, some e => guard (SeqAt.shaped d && SeqAt.shaped e) (.ok (.fz (.bl (!PyData.eqv d e))))
  | _, _ => .stuck
section
variable {X : Cx} {κ : Kx} {ro : Md}
theorem dp_ints {H : Hp} : ∀ ns : List Int, DpAll κ.K H (ns.map V.int) (ns.map PyData.int)
  | [] => .nil
  | n :: ns => .cons (.int n) (dp_ints ns)
mutual
theorem Fz.dp {c : Colr} {H : Hp} : ∀ {v : V} {d : D} {p : PyData}, Fz κ c H v d → d.py = some p → Dp κ.K H v p
  | _, _, _, .non, e => by cases e; exact .non
  | _, _, _, .bl b, e => by cases e; exact .bl b
  | _, _, _, .int i, e => by cases e; exact .int i
  | _, _, _, .str s, e => by cases e; exact .str s
  | _, .tup ds, p, .tup s l, e => by
    have e : (D.pyL ds).map PyData.tuple = some p := e
    cases h : D.pyL ds with
    | none => rw [h] at e; cases e
    | some ps =>
      rw [h] at e
      cases e
      exact .tup s.sq (FzL.dp l h)
  | _, .lst ds, p, .lst f s l, e => by
    have e : (D.pyL ds).map PyData.list = some p := e
    cases h : D.pyL ds with
    | none => rw [h] at e; cases e
    | some ps =>
      rw [h] at e
      cases e
      exact .lst (.inl (.inl s)) (FzL.dp l h)
  | _, _, _, .scr s, e => by cases e; exact .lst s.sq (dp_ints _)
  | _, _, _, .dct f h l, e => by cases e
  | _, _, _, .ktp h l, e => by cases e
  | _, _, _, .ins f h n l, e => by cases e
theorem FzL.dp {c : Colr} {H : Hp} : ∀ {v : List V} {d : List D} {p : List PyData}, FzL κ c H v d → D.pyL d = some p → DpAll κ.K H v p
  | _, _, _, .nil, e => by cases e; exact .nil
  | _, d :: ds, p, .cons h l, e => by
    have e : (d.py.bind fun p => (D.pyL ds).map (p :: ·)) = some p := e
    cases h1 : d.py with
    | none => rw [h1] at e; cases e
    | some q =>
      rw [h1] at e
      have e : (D.pyL ds).map (q :: ·) = some p := e
      cases h2 : D.pyL ds with
      | none => rw [h2] at e; cases e
      | some qs =>
        rw [h2] at e
        cases e
        exact .cons (Fz.dp h h1) (FzL.dp l h2)
end
theorem Lent.dp {c : Colr} {H : Hp} {v : V} {m : M} {p : PyData} (h : Lent κ c H v m) (e : m.er.py = some p) : Dp κ.K H v p := by
  obtain ⟨P, hp, o⟩ := h
  cases o with
  | fz o => exact o.dp e
  | @lst _ a vs ds pp h l =>
    have e : (D.pyL ds).map PyData.list = some p := e
    cases h2 : D.pyL ds with
    | none => rw [h2] at e; cases e
    | some ps =>
      rw [h2] at e
      cases e
      exact .lst (.inl (.inl h)) (l.dp h2)
  | dct => cases e
  | ins => cases e
theorem ops_eq : OpS κ (rEqD κ.K) eqM := by
  intro c H x y m n k Q al lx ly e q
  unfold eqM at e
  split at e
  · next d e' e1 e2 =>
    obtain ⟨h, e⟩ := guard_ok e
    cases e
    obtain ⟨h1, h2⟩ := Bool.and_eq_true_iff.mp h
    exact ⟨d, e', lx.dp e1, ly.dp e2, h1, h2, q_fz al (.bl _) q⟩
  · cases e
theorem ops_ne : OpS κ (rNeD κ.K) neM := by
  intro c H x y m n k Q al lx ly e q
  unfold neM at e
  split at e
  · next d e' e1 e2 =>
    obtain ⟨h, e⟩ := guard_ok e
    cases e
    obtain ⟨h1, h2⟩ := Bool.and_eq_true_iff.mp h
    exact ⟨d, e', lx.dp e1, ly.dp e2, h1, h2, q_fz al (.bl _) q⟩
  · cases e
variable {a b : Expr} {f g : SemE} {pos : Pos}
theorem t_eq (A : At X κ) (hu : X.A.units + 64 < cLine) (ha : BE X κ ro a f) (hb : BE X κ ro b g) : TB X κ ro (.Compare a [.Eq] [b] pos) (fTest (fBin eqM f g)) := t_cmp (op_eqD hu) (by rw [A.K]; exact ops_eq) ha hb (nomark _)
theorem t_ne (A : At X κ) (hu : X.A.units + 64 < cLine) (ha : BE X κ ro a f) (hb : BE X κ ro b g) : TB X κ ro (.Compare a [.NotEq] [b] pos) (fTest (fBin neM f g)) := t_cmp (op_neD hu) (by rw [A.K]; exact ops_ne) ha hb (nomark _)
theorem v_eq (A : At X κ) (hu : X.A.units + 64 < cLine) (ha : BE X κ ro a f) (hb : BE X κ ro b g) : VE X κ ro (.Compare a [.Eq] [b] pos) (fBin eqM f g) := v_cmp (op_eqD hu) (by rw [A.K]; exact ops_eq) ha hb (nomark _)
theorem v_ne (A : At X κ) (hu : X.A.units + 64 < cLine) (ha : BE X κ ro a f) (hb : BE X κ ro b g) : VE X κ ro (.Compare a [.NotEq] [b] pos) (fBin neM f g) := v_cmp (op_neD hu) (by rw [A.K]; exact ops_ne) ha hb (nomark _)
/-! chains of int comparisons: a < b <= c -/
def fChain (o o' : M → M → R M) (f g h : SemE) : SemE := fun env => (f env).bind fun x => (g env).bind fun y => (o x y).bind fun z => (blM z).bind fun k => if k = true then (h env).bind fun w => o' y w else .ok (.fz (.bl false))
theorem chain_of {r r' : R2} {o o' : M → M → R M} {f g h : SemE} (hs : OpS κ r o) (hs' : OpS κ r' o') {σ : L2.St} {H : Hp} {Q : VK} (q : tV κ ro (fChain o o' f g h) σ H Q) : tChain r r' (tB κ ro f) (tB κ ro g) (tB κ ro h) σ H Q := by
  obtain ⟨c, env, R, m, e, q⟩ := q
  obtain ⟨m1, e1, e⟩ := Z.R.bind_eq e
  obtain ⟨m2, e2, e⟩ := Z.R.bind_eq e
  obtain ⟨z, e3, e⟩ := Z.R.bind_eq e
  obtain ⟨k, e4, e⟩ := Z.R.bind_eq e
  have ez := blM_ok e4
  subst ez
  refine ⟨c, env, R, m1, e1, fun x c1 H1 x1 o1 => ?_⟩
  refine ⟨c1, env, R.ext x1, m2, e2, fun y c2 H2 x2 o2 => ?_⟩
  refine hs c2 H2 x y m1 m2 _ _ x2.al (o1.ext x2) o2 e3 fun v c3 H3 P3 x3 n3 o3 => ⟨k, o3.bl, ?_⟩
  have x13 := (x1.trans x2).trans x3
  cases k with
  | false =>
    cases e
    exact q _ c3 H3 noP x13 New.no (.fz (.bl _))
  | true =>
    have e : ((h env).bind fun w => o' m2 w) = .ok m := e
    obtain ⟨m5, e5, e⟩ := Z.R.bind_eq e
    rw [if_pos rfl]
    refine ⟨c3, env, R.ext x13, m5, e5, fun w c5 H5 x5 o5 => ?_⟩
    refine hs' c5 H5 y w m2 m5 m Q x5.al ((o2.ext x3).ext x5) o5 e fun v' c6 H6 P6 x6 n6 o6 => ?_
    refine q v' c6 H6 P6 ((x13.trans x5).trans x6) ⟨fun p a h => ?_, n6.one⟩ o6
    obtain ⟨k1, k2⟩ := n6.fresh p a h
    exact ⟨(x13.trans x5).nn k1, k2⟩
variable {c : Expr} {h : SemE}
theorem t_chain {op op' : CmpOp} {r r' : R2} {o o' : M → M → R M} (ho : OpR X (compareOp op) r) (ho' : OpR X (compareOp op') r') (hs : OpS κ r o) (hs' : OpS κ r' o') (ha : BE X κ ro a f) (hb : BE X κ ro b g) (hc : BE X κ ro c h) (hm : lastMarks [op, op'] [b, c] = false := by with_unfolding_all rfl) :
    TB X κ ro (.Compare a [op, op'] [b, c] pos) (fTest (fChain o o' f g h)) := PT.imp (pt_chain ho ho' ha hb hc hm) fun _ _ _ q => tTest_of (fun _ => chain_of hs hs') q
theorem v_chain {op op' : CmpOp} {r r' : R2} {o o' : M → M → R M} (ho : OpR X (compareOp op) r) (ho' : OpR X (compareOp op') r') (hs : OpS κ r o) (hs' : OpS κ r' o') (ha : BE X κ ro a f) (hb : BE X κ ro b g) (hc : BE X κ ro c h) (hm : lastMarks [op, op'] [b, c] = false := by with_unfolding_all rfl) :
    VE X κ ro (.Compare a [op, op'] [b, c] pos) (fChain o o' f g h) := PE.imp (pe_chain ho ho' ha hb hc hm) fun _ _ _ q => chain_of hs hs' q
theorem s_lt : OpS κ (rI0 fun i j => .bl (decide (i < j))) ltM := ops_int0 fun _ _ _ _ => .bl _
theorem s_le : OpS κ (rI0 fun i j => .bl (decide (i ≤ j))) leM := ops_int0 fun _ _ _ _ => .bl _
/-! ### and, or, not as values -/
def fAndV (f g : SemE) : SemE := fun env => (f env).bind fun x => (blM x).bind fun k => if k = true then g env else .ok (.fz (.bl false))
def fOrV (f g : SemE) : SemE := fun env => (f env).bind fun x => (blM x).bind fun k => if k = true then .ok (.fz (.bl true)) else g env
def fNotV (f : SemE) : SemE := fun env => (f env).bind fun x => (blM x).bind fun k => .ok (.fz (.bl (!k)))
theorem v_one {op : BoolOp} (ha : VE X κ ro a f) : VE X κ ro (.BoolOp op [a] pos) f := pe_one ha
theorem pV.ext {c c1 : Colr} {H H1 : Hp} {m : M} {Q : VK} (x : Ext c H c1 H1) (q : pV κ c H m Q) : pV κ c1 H1 m Q := fun v c' H' P y n o => q v c' H' P (x.trans y) ⟨fun p a h => ⟨x.nn (n.fresh p a h).1, (n.fresh p a h).2⟩, n.one⟩ o
variable {rest : List Expr}
theorem v_and (ha : VE X κ ro a f) (hb : VE X κ ro (.BoolOp .And (b :: rest) pos) g) : VE X κ ro (.BoolOp .And (a :: b :: rest) pos) (fAndV f g) := PE.imp (pe_and ha hb) fun σ H Q ⟨c, env, R, m, e, q⟩ => by
  obtain ⟨m1, e1, e⟩ := Z.R.bind_eq e
  obtain ⟨k, e2, e⟩ := Z.R.bind_eq e
  have em := blM_ok e2
  subst em
  refine ⟨c, env, R, _, e1, fun v c1 H1 P1 x1 n1 o1 => ⟨k, o1.bl, ?_⟩⟩
  cases k with
  | true => exact ⟨c1, env, R.ext x1, m, e, q.ext x1⟩
  | false =>
    cases e
    exact q _ c1 H1 noP x1 New.no (.fz (.bl _))
theorem v_or (ha : VE X κ ro a f) (hb : VE X κ ro (.BoolOp .Or (b :: rest) pos) g) : VE X κ ro (.BoolOp .Or (a :: b :: rest) pos) (fOrV f g) := PE.imp (pe_or ha hb) fun σ H Q ⟨c, env, R, m, e, q⟩ => by
  obtain ⟨m1, e1, e⟩ := Z.R.bind_eq e
  obtain ⟨k, e2, e⟩ := Z.R.bind_eq e
  have em := blM_ok e2
  subst em
  refine ⟨c, env, R, _, e1, fun v c1 H1 P1 x1 n1 o1 => ⟨k, o1.bl, ?_⟩⟩
  cases k with
  | false => exact ⟨c1, env, R.ext x1, m, e, q.ext x1⟩
  | true =>
    cases e
    exact q _ c1 H1 noP x1 New.no (.fz (.bl _))
theorem v_not (ha : VE X κ ro a f) : VE X κ ro (.UnaryOp .Not a pos) (fNotV f) := PE.imp (pe_not ha) fun σ H Q ⟨c, env, R, m, e, q⟩ => by
  obtain ⟨m1, e1, e⟩ := Z.R.bind_eq e
  obtain ⟨k, e2, e⟩ := Z.R.bind_eq e
  have em := blM_ok e2
  subst em
  cases e
  exact ⟨c, env, R, _, e1, fun v c1 H1 P1 x1 n1 o1 => ⟨k, o1.bl, q _ c1 H1 noP x1 New.no (.fz (.bl _))⟩⟩
/-- a if t else b -/
def fIfE (t : SemT) (f g : SemE) : SemE := fun env => (t env).bind fun k => if k = true then f env else g env
theorem v_ifE {t : SemT} (ht : TB X κ ro c t) (ha : VE X κ ro a f) (hb : VE X κ ro b g) : VE X κ ro (.IfExp c a b pos) (fIfE t f g) := PE.imp (pe_ifExp ht ha hb) fun σ H Q ⟨c, env, R, m, e, q⟩ => by
  obtain ⟨k, e1, e⟩ := Z.R.bind_eq e
  refine ⟨c, env, R, k, e1, fun c1 H1 x1 => ?_⟩
  cases k with
  | true => exact ⟨c1, env, R.ext x1, m, e, q.ext x1⟩
  | false => exact ⟨c1, env, R.ext x1, m, e, q.ext x1⟩
/-! ### is None -/
def isNM (neg : Bool) (x y : M) : R M := match y.er with
  | .non => .ok (.fz (.bl (neg != (match x.er with | .non => true | _ => false))))
  | _ => .stuck
theorem Lent.isN {c : Colr} {H : Hp} {v : V} {m : M} (h : Lent κ c H v m) : decide (v = .non) = (match m.er with | .non => true | _ => false) := by
  obtain ⟨P, hp, o⟩ := h
  cases o with
  | fz o => cases o <;> rfl
  | lst => rfl
  | dct => rfl
  | ins => rfl
theorem ops_is : OpS κ (fun x y H Q => y = .non ∧ Q (.bl (decide (x = .non))) H) (isNM false) := by
  intro c H x y m n k Q al lx ly e q
  unfold isNM at e
  split at e
  · next e1 =>
    cases e
    refine ⟨ly.non e1, ?_⟩
    rw [lx.isN]
    exact q_fz al (by simp; exact .bl _) q
  · cases e
theorem ops_isnot : OpS κ (fun x y H Q => y = .non ∧ Q (.bl (!decide (x = .non))) H) (isNM true) := by
  intro c H x y m n k Q al lx ly e q
  unfold isNM at e
  split at e
  · next e1 =>
    cases e
    refine ⟨ly.non e1, ?_⟩
    rw [lx.isN]
    exact q_fz al (by simp; exact .bl _) q
  · cases e
theorem t_is (ha : BE X κ ro a f) (hb : BE X κ ro b g) : TB X κ ro (.Compare a [.Is] [b] pos) (fTest (fBin (isNM false) f g)) := t_cmp op_isN ops_is ha hb (nomark _)
theorem t_isnot (ha : BE X κ ro a f) (hb : BE X κ ro b g) : TB X κ ro (.Compare a [.IsNot] [b] pos) (fTest (fBin (isNM true) f g)) := t_cmp op_notN ops_isnot ha hb (nomark _)
theorem v_is (ha : BE X κ ro a f) (hb : BE X κ ro b g) : VE X κ ro (.Compare a [.Is] [b] pos) (fBin (isNM false) f g) := v_cmp op_isN ops_is ha hb (nomark _)
theorem v_isnot (ha : BE X κ ro a f) (hb : BE X κ ro b g) : VE X κ ro (.Compare a [.IsNot] [b] pos) (fBin (isNM true) f g) := v_cmp op_notN ops_isnot ha hb (nomark _)
end
end Z

set_option Elab.async false
set_option linter.all false
set_option maxRecDepth 100000
set_option maxHeartbeats 2000000
namespace Z
open PySem PySem.Spec PyProof.Rows L2
theorem PE.or {X : Cx} {e : Expr} {t u : TE} (h : PE X e t) (k : PE X e u) : PE X e (fun σ H Q => t σ H Q ∨ u σ H Q) := ⟨fun pins s σ H Q I q => q.elim (h.run pins s σ H Q I) (k.run pins s σ H Q I)⟩
theorem PS.or {X : Cx} {e : Stmt} {t u : TS} (h : PS X e t) (k : PS X e u) : PS X e (fun D σ H => t D σ H ∨ u D σ H) := ⟨fun pins s σ H D I q => q.elim (h.run pins s σ H D I) (k.run pins s σ H D I)⟩
/-! ### a value handed on, frozen -/
def pF (κ : Kx) (c : Colr) (H : Hp) (m : M) (Q : VK) : Prop := ∀ (v : V) (c' : Colr) (H' : Hp), Ext c H c' H' → Fz κ c' H' v m.er → Q v H'
def tF (κ : Kx) (ro : Md) (f : SemE) : TE := fun σ H Q => ∃ c env, EnvR κ ro c H σ env ∧ ∃ m, f env = .ok m ∧ pF κ c H m Q
abbrev FE (X : Cx) (κ : Kx) (ro : Md) (e : Expr) (f : SemE) : Prop := PE X e (tF κ ro f)
open Classical in
noncomputable def ice (c : Colr) (H : Hp) (P : Pth) : Colr := fun a => if (∃ p, P p a) ∧ H a ≠ none then .fz else c a
theorem New.freeze {κ : Kx} {c c' : Colr} {H H' : Hp} {P : Pth} {v : V} {m : M} (x : Ext c H c' H') (n : New c' H P) (o : Own κ c' H' P v m) : Ext c H (ice c' H' P) H' ∧ Fz κ (ice c' H' P) H' v m.er := by
  have old : ∀ a o, H a = some o → ice c' H' P a = c' a := fun a ob e => if_neg fun ⟨⟨p, h⟩, _⟩ => by
    have z := (n.fresh p a h).1
    rw [e] at z
    cases z
  refine ⟨⟨fun a ob e => ⟨(x.old a ob e).1, (old a ob e).trans (x.old a ob e).2⟩, fun a e => ?_, fun a e => ?_⟩, Own.freeze (fun a ob e f => ⟨e, ?_⟩) (fun p a ob h e => ⟨if_pos ⟨⟨p, h⟩, by rw [e]; simp⟩, e⟩) o⟩
  · unfold ice
    split
    · exact .inr rfl
    · exact x.new a e
  · have : ice c' H' P a = c' a := if_neg fun ⟨_, h⟩ => h e
    rw [this]
    exact x.al a e
  · unfold ice
    split
    · rfl
    · exact f
section
variable {X : Cx} {κ : Kx} {ro : Md}
theorem VE.f {e : Expr} {f : SemE} (h : VE X κ ro e f) : FE X κ ro e f := PE.imp h fun σ H Q ⟨c, env, R, m, e, q⟩ => ⟨c, env, R, m, e, fun v c' H' P x n o => by
  obtain ⟨x', h'⟩ := n.freeze x o
  exact q v _ H' x' h'⟩
/-- a shared argument -/
def fFz (f : SemE) : SemE := fun env => (f env).bind fun m => .ok (.fz m.er)
theorem FE.v {e : Expr} {f : SemE} (h : FE X κ ro e f) : VE X κ ro e (fFz f) := PE.imp h fun σ H Q ⟨c, env, R, m, e, q⟩ => by
  obtain ⟨m1, e1, e⟩ := Z.R.bind_eq e
  cases e
  exact ⟨c, env, R, m1, e1, fun v c' H' x h => q v c' H' noP x New.no (.fz h)⟩
def evL : List SemE → Env → R (List D)
  | [], _ => .ok []
  | f :: fs, env => (f env).bind fun m => (evL fs env).bind fun ds => .ok (m.er :: ds)
theorem evL_len : ∀ {fs : List SemE} {env : Env} {ds : List D}, evL fs env = .ok ds → ds.length = fs.length
  | [], _, _, h => by cases h; rfl
  | f :: fs, env, ds, h => by
    obtain ⟨m, e1, h⟩ := Z.R.bind_eq h
    obtain ⟨es, e2, h⟩ := Z.R.bind_eq h
    cases h
    exact congrArg (· + 1) (evL_len e2)
def tAF (κ : Kx) (ro : Md) (fs : List SemE) : TA := fun σ H Q => ∃ c env, EnvR κ ro c H σ env ∧ ∃ ds, evL fs env = .ok ds ∧ ∀ vs c' H', Ext c H c' H' → FzL κ c' H' vs ds → Q vs H'
abbrev AF (X : Cx) (κ : Kx) (ro : Md) (e : List Expr) (f : List SemE) : Prop := PA X e (tAF κ ro f)
theorem af_nil : AF X κ ro [] [] := PA.imp pa_nil fun σ H Q ⟨c, env, R, m, e, q⟩ => by
  cases e
  exact q [] c H (Ext.refl R.al) .nil
theorem af_cons {e : Expr} {es : List Expr} {f : SemE} {fs : List SemE} (h : FE X κ ro e f) (t : AF X κ ro es fs) (hs : starEach (e :: es) X.env = (false, eval e X.env) :: starEach es X.env := by rfl) : AF X κ ro (e :: es) (f :: fs) :=
  PA.imp (pa_cons h t hs) fun σ H Q ⟨c, env, R, m, e, q⟩ => by
    obtain ⟨m1, e1, e⟩ := Z.R.bind_eq e
    obtain ⟨ms, e2, e⟩ := Z.R.bind_eq e
    cases e
    refine ⟨c, env, R, m1, e1, fun v c1 H1 x1 o1 => ?_⟩
    exact ⟨c1, env, R.ext x1, ms, e2, fun vs c2 H2 x2 o2 => q _ c2 H2 (x1.trans x2) (.cons (o1.stay x2.stay) o2)⟩
/-! ### displays -/
def fTup (fs : List SemE) : SemE := fun env => (evL fs env).bind fun ds => .ok (.fz (.tup ds))
def fLst (fs : List SemE) : SemE := fun env => (evL fs env).bind fun ds => .ok (.lst ds)
theorem v_tup {es : List Expr} {fs : List SemE} {k : Nat} {pos : Pos} (h : AF X κ ro es fs) (hl : fs.length ≤ sizeLine := by show _ ≤ 16777216; decide) : VE X κ ro (.Tuple es k pos) (fTup fs) := PE.imp (pe_tup h) fun σ H Q ⟨c, env, R, m, e, q⟩ => by
  obtain ⟨ds, e1, e⟩ := Z.R.bind_eq e
  cases e
  refine ⟨c, env, R, ds, e1, fun vs c1 H1 x1 l => ⟨by rw [l.length, evL_len e1]; exact hl, fun p hp => ?_⟩⟩
  exact new_tup x1.al l (q.ext x1) hp
theorem v_lst {es : List Expr} {fs : List SemE} {pos : Pos} (h : AF X κ ro es fs) (hl : fs.length ≤ sizeLine := by show _ ≤ 16777216; decide) : VE X κ ro (.List es pos) (fLst fs) := PE.imp (pe_lst h) fun σ H Q ⟨c, env, R, m, e, q⟩ => by
  obtain ⟨ds, e1, e⟩ := Z.R.bind_eq e
  cases e
  refine ⟨c, env, R, ds, e1, fun vs c1 H1 x1 l => ⟨by rw [l.length, evL_len e1]; exact hl, fun p hp => ?_⟩⟩
  exact new_lst x1.al l (q.ext x1) hp
/-! ### keys -/
def keyOf (m : M) : R Key := match m.er with
  | .int i => .ok (.inl i)
  | .str s => .ok (.inr s)
  | _ => .stuck
theorem Lent.key {c : Colr} {H : Hp} {v : V} {m : M} {k : Key} (h : Lent κ c H v m) (e : keyOf m = .ok k) : v = kV k := by
  unfold keyOf at e
  split at e
  · next i e1 => cases e; exact h.int e1
  · next i e1 => cases e; exact h.str e1
  · cases e
def valD (kvs : List (Key × D)) (k : Key) : Option D := (kvs.find? fun kv => decide (kv.1 = k)).map (·.2)
def putD (kvs : List (Key × D)) (k : Key) (d : D) : List (Key × D) :=
  if (kvs.any fun kv => decide (kv.1 = k)) = true then kvs.map (fun kv => if kv.1 = k then (kv.1, d) else kv) else kvs ++ [(k, d)]
def dropD (kvs : List (Key × D)) (k : Key) : List (Key × D) := kvs.filter fun kv => decide (kv.1 ≠ k)
theorem FzK.val {c : Colr} {H : Hp} {k : Key} : ∀ {vs : List (Key × V)} {ds : List (Key × D)}, FzK κ c H vs ds → (valD ds k = none → valV vs k = none) ∧ ∀ d, valD ds k = some d → ∃ v, valV vs k = some v ∧ Fz κ c H v d
  | _, _, .nil => ⟨fun _ => rfl, fun d h => by cases h⟩
  | (k0, v) :: vs, (_, d0) :: ds, .cons h l => by
    obtain ⟨h1, h2⟩ := FzK.val (k := k) l
    by_cases e : k0 = k
    · have e1 : valV ((k0, v) :: vs) k = some v := by simp [valV, List.find?_cons, e]
      have e2 : valD ((k0, d0) :: ds) k = some d0 := by simp [valD, List.find?_cons, e]
      rw [e1, e2]
      exact ⟨fun z => (by cases z), fun d z => by cases z; exact ⟨v, rfl, h⟩⟩
    · have e1 : valV ((k0, v) :: vs) k = valV vs k := by simp [valV, List.find?_cons, e]
      have e2 : valD ((k0, d0) :: ds) k = valD ds k := by simp [valD, List.find?_cons, e]
      rw [e1, e2]
      exact ⟨h1, h2⟩
theorem FzK.len {c : Colr} {H : Hp} : ∀ {vs : List (Key × V)} {ds : List (Key × D)}, FzK κ c H vs ds → vs.length = ds.length
  | _, _, .nil => rfl
  | _, _, .cons h l => congrArg (· + 1) (FzK.len l)
theorem FzK.any {c : Colr} {H : Hp} {k : Key} : ∀ {vs : List (Key × V)} {ds : List (Key × D)}, FzK κ c H vs ds → (vs.any fun kv => decide (kv.1 = k)) = (ds.any fun kv => decide (kv.1 = k))
  | _, _, .nil => rfl
  | _, _, .cons h l => by simp only [List.any_cons, FzK.any l]
theorem FzK.map {c : Colr} {H : Hp} {k : Key} {v : V} {d : D} (hv : Fz κ c H v d) : ∀ {vs : List (Key × V)} {ds : List (Key × D)}, FzK κ c H vs ds → FzK κ c H (vs.map fun kv => if kv.1 = k then (kv.1, v) else kv) (ds.map fun kv => if kv.1 = k then (kv.1, d) else kv)
  | _, _, .nil => .nil
  | (k0, w) :: vs, (_, e) :: ds, .cons h l => by
    simp only [List.map_cons]
    by_cases z : k0 = k
    · rw [if_pos z, if_pos z]
      exact .cons hv (FzK.map hv l)
    · rw [if_neg z, if_neg z]
      exact .cons h (FzK.map hv l)
theorem FzK.app1 {c : Colr} {H : Hp} {k : Key} {v : V} {d : D} (hv : Fz κ c H v d) : ∀ {vs : List (Key × V)} {ds : List (Key × D)}, FzK κ c H vs ds → FzK κ c H (vs ++ [(k, v)]) (ds ++ [(k, d)])
  | _, _, .nil => .cons hv .nil
  | _, _, .cons h l => .cons h (FzK.app1 hv l)
theorem FzK.put {c : Colr} {H : Hp} {k : Key} {v : V} {d : D} (hv : Fz κ c H v d) {vs : List (Key × V)} {ds : List (Key × D)} (l : FzK κ c H vs ds) : FzK κ c H (putK vs k v) (putD ds k d) := by
  unfold putK putD
  rw [l.any]
  split
  · exact FzK.map hv l
  · exact FzK.app1 hv l
theorem FzK.drop {c : Colr} {H : Hp} {k : Key} : ∀ {vs : List (Key × V)} {ds : List (Key × D)}, FzK κ c H vs ds → FzK κ c H (dropK vs k) (dropD ds k)
  | _, _, .nil => .nil
  | (k0, w) :: vs, (_, e) :: ds, .cons h l => by
    unfold dropK dropD
    rw [List.filter_cons, List.filter_cons]
    by_cases z : k0 = k
    · rw [if_neg (by simp [z]), if_neg (by simp [z])]
      exact FzK.drop l
    · rw [if_pos (by simp [z]), if_pos (by simp [z])]
      exact .cons h (FzK.drop l)
theorem Lent.dct {c : Colr} {H : Hp} {v : V} {m : M} {ds : List (Key × D)} (h : Lent κ c H v m) (e : m.er = .dct ds) : ∃ a vs, v = .ref a ∧ FzK κ c H vs ds ∧ H a = some (.dK vs) := by
  obtain ⟨P, hp, o⟩ := h
  cases o with
  | fz o =>
    cases o with
    | dct f s l =>
      cases e
      exact ⟨_, _, rfl, l, s⟩
    | _ => cases e
  | lst p h l => cases e
  | dct p h l =>
    cases e
    exact ⟨_, _, rfl, l, h⟩
  | ins => cases e
/-! ### subscripts -/
def ixM (x y : M) : R M := match x.er with
  | .lst ds => (intM y).bind fun i => match atI ds i with
    | some d => .ok (.fz d)
    | none => .stuck
  | .tup ds => (intM y).bind fun i => match atI ds i with
    | some d => .ok (.fz d)
    | none => .stuck
  | .ktp ds => (intM y).bind fun i => match atI ds i with
    | some d => .ok (.fz d)
    | none => .stuck
  | .scr ns => (intM y).bind fun i => match atI ns i with
    | some d => .ok (.fz (.int d))
    | none => .stuck
  | .str s => (intM y).bind fun i => guard (decide (s.length ≤ sizeLine)) (match atI s.cps.toList i with
    | some d => .ok (.fz (.str ⟨#[d]⟩))
    | none => .stuck)
  | .dct kvs => (keyOf y).bind fun k => match valD kvs k with
    | some d => .ok (.fz d)
    | none => .stuck
  | _ => .stuck
theorem atI_map {α β : Type} (f : α → β) (xs : List α) (i : Int) : atI (xs.map f) i = (atI xs i).map f := by
  unfold atI
  rw [List.length_map]
  cases ixN xs.length i with
  | none => rfl
  | some j => simp
theorem IxR.or {r r' : R2} (h : IxR X r) (k : IxR X r') : IxR X (fun x y H Q => r x y H Q ∨ r' x y H Q) := fun a b pins s σ H x y v u Q I rx ry q e => q.elim (fun q => h a b pins s σ H x y v u Q I rx ry q e) fun q => k a b pins s σ H x y v u Q I rx ry q e
theorem v_ix (A : At X κ) (hu : X.A.units + 1 < cLine) {a b : Expr} {f g : SemE} {pos : Pos} (ha : BE X κ ro a f) (hb : BE X κ ro b g) (hs : NoSl b := by intro _ _; rfl) (hs' : PlainIx b := by intro _ _; rfl) : VE X κ ro (.Subscript a b pos) (fBin ixM f g) := by
  refine PE.imp (PE.or (pe_ix (IxR.or (IxR.or ix_list ix_tup) ix_str) ha hb hs') (pe_dget hu ha hb hs)) fun σ H Q ⟨c, env, R, m, e, q⟩ => ?_
  obtain ⟨m1, e1, e⟩ := Z.R.bind_eq e
  obtain ⟨m2, e2, e⟩ := Z.R.bind_eq e
  have qq : ∀ {c1 : Colr} {H1 : Hp} {v : V} {d : D}, Ext c H c1 H1 → Fz κ c1 H1 v d → m = .fz d → Q v H1 := fun {c1 H1 v d} x h e => by
    subst e
    exact q v c1 H1 noP x New.no (.fz h)
  unfold ixM at e
  split at e
  · next ds er =>
    obtain ⟨i, ei, e⟩ := Z.R.bind_eq e
    split at e
    · next d hd =>
      cases e
      refine .inl ⟨c, env, R, m1, e1, fun x c1 H1 x1 o1 => ⟨c1, env, R.ext x1, m2, e2, fun y c2 H2 x2 o2 => .inl (.inl ?_)⟩⟩
      obtain ⟨p, vs, rfl, l, hp⟩ := (o1.ext x2).list er
      obtain ⟨v, hv, h⟩ := l.at hd
      exact ⟨p, vs, i, v, rfl, o2.int (intM_ok ei), .inl (.inl hp), hv, qq (x1.trans x2) h rfl⟩
    · cases e
  · next ds er =>
    obtain ⟨i, ei, e⟩ := Z.R.bind_eq e
    split at e
    · next d hd =>
      cases e
      refine .inl ⟨c, env, R, m1, e1, fun x c1 H1 x1 o1 => ⟨c1, env, R.ext x1, m2, e2, fun y c2 H2 x2 o2 => .inl (.inr ?_)⟩⟩
      obtain ⟨p, vs, rfl, l, hp⟩ := (o1.ext x2).tup er
      obtain ⟨v, hv, h⟩ := l.at hd
      exact ⟨p, vs, i, v, rfl, o2.int (intM_ok ei), by rw [A.K]; exact hp.sq, hv, qq (x1.trans x2) h rfl⟩
    · cases e
  · next ds er =>
    obtain ⟨i, ei, e⟩ := Z.R.bind_eq e
    split at e
    · next d hd =>
      cases e
      refine .inl ⟨c, env, R, m1, e1, fun x c1 H1 x1 o1 => ⟨c1, env, R.ext x1, m2, e2, fun y c2 H2 x2 o2 => .inl (.inr ?_)⟩⟩
      obtain ⟨p, vs, rfl, l, hp⟩ := (o1.ext x2).ktp er
      obtain ⟨v, hv, h⟩ := l.at hd
      exact ⟨p, vs, i, v, rfl, o2.int (intM_ok ei), by rw [A.K]; exact SqT.nil0 hp _, hv, qq (x1.trans x2) h rfl⟩
    · cases e
  · next ns er =>
    obtain ⟨i, ei, e⟩ := Z.R.bind_eq e
    split at e
    · next d hd =>
      cases e
      refine .inl ⟨c, env, R, m1, e1, fun x c1 H1 x1 o1 => ⟨c1, env, R.ext x1, m2, e2, fun y c2 H2 x2 o2 => .inl (.inl ?_)⟩⟩
      obtain ⟨p, rfl, hp⟩ := (o1.ext x2).scr er
      exact ⟨p, _, i, .int d, rfl, o2.int (intM_ok ei), by rw [A.K]; exact hp.sq, by rw [atI_map, hd]; rfl, qq (x1.trans x2) (.int d) rfl⟩
    · cases e
  · next s er =>
    obtain ⟨i, ei, e⟩ := Z.R.bind_eq e
    obtain ⟨hl, e⟩ := guard_ok e
    split at e
    · next d hd =>
      cases e
      refine .inl ⟨c, env, R, m1, e1, fun x c1 H1 x1 o1 => ⟨c1, env, R.ext x1, m2, e2, fun y c2 H2 x2 o2 => .inr ?_⟩⟩
      exact ⟨s, i, d, o1.str er, o2.int (intM_ok ei), of_decide_eq_true hl, hd, qq (x1.trans x2) (.str _) rfl⟩
    · cases e
  · next kvs er =>
    obtain ⟨k, ei, e⟩ := Z.R.bind_eq e
    split at e
    · next d hd =>
      cases e
      refine .inr ⟨c, env, R, m1, e1, fun x c1 H1 x1 o1 => ⟨c1, env, R.ext x1, m2, e2, fun y c2 H2 x2 o2 => ?_⟩⟩
      obtain ⟨p, vs, rfl, l, hp⟩ := (o1.ext x2).dct er
      obtain ⟨v, hv, h⟩ := (l.val (k := k)).2 d hd
      refine ⟨p, v, rfl, ?_, qq (x1.trans x2) h rfl⟩
      rw [o2.key ei, ← hv]
      exact DGet.k hp
    · cases e
  · cases e
/-! ### slices of lists -/
def cutD {α : Type} (xs : List α) (lo hi : Option Int) : List α := (xs.drop (HT.sIx xs.length 0 lo)).take (HT.sIx xs.length xs.length hi - HT.sIx xs.length 0 lo)
def optI (f : Option SemE) (env : Env) : R (Option Int) := match f with
  | none => .ok none
  | some f => (f env).bind fun m => (intM m).bind fun i => .ok (some i)
def fCut (f : SemE) (lo hi : Option SemE) : SemE := fun env => (f env).bind fun m => (optI lo env).bind fun l => (optI hi env).bind fun h => match m.er with
  | .lst ds => .ok (.lst (cutD ds l h))
  | _ => .stuck
def tO (κ : Kx) (ro : Md) (f : Option SemE) : TO := fun σ H Q => ∃ c env, EnvR κ ro c H σ env ∧ ∃ i, optI f env = .ok i ∧ ∀ c' H', Ext c H c' H' → Q i H'
theorem PO.imp {X : Cx} {e : Option Expr} {t t' : TO} (h : PO X e t) (k : ∀ σ H Q, t' σ H Q → t σ H Q) : PO X e t' := ⟨fun pins s σ H Q I q => h.run pins s σ H Q I (k σ H Q q)⟩
theorem o_none : PO X none (tO κ ro none) := PO.imp po_none fun σ H Q ⟨c, env, R, i, e, q⟩ => by
  cases e
  exact q c H (Ext.refl R.al)
theorem o_some {e : Expr} {f : SemE} (h : BE X κ ro e f) : PO X (some e) (tO κ ro (some f)) := PO.imp (po_some h) fun σ H Q ⟨c, env, R, i, e, q⟩ => by
  obtain ⟨m, e1, e⟩ := Z.R.bind_eq e
  obtain ⟨j, e2, e⟩ := Z.R.bind_eq e
  cases e
  exact ⟨c, env, R, m, e1, fun v c1 H1 x1 o1 => ⟨j, o1.int (intM_ok e2), q c1 H1 x1⟩⟩
theorem v_cut {e : Expr} {lo hi : Option Expr} {f : SemE} {l h : Option SemE} {p2 pos : Pos} (he : BE X κ ro e f) (hl : PO X lo (tO κ ro l)) (hh : PO X hi (tO κ ro h)) : VE X κ ro (.Subscript e (.Slice lo hi none p2) pos) (fCut f l h) :=
  PE.imp (pe_slice sl_list he hl hh) fun σ H Q ⟨c, env, R, m, e, q⟩ => by
    obtain ⟨m1, e1, e⟩ := Z.R.bind_eq e
    obtain ⟨i, e2, e⟩ := Z.R.bind_eq e
    obtain ⟨j, e3, e⟩ := Z.R.bind_eq e
    split at e
    · next ds er =>
      cases e
      refine ⟨c, env, R, m1, e1, fun v c1 H1 x1 o1 => ⟨c1, env, R.ext x1, i, e2, fun c2 H2 x2 => ⟨c2, env, (R.ext x1).ext x2, j, e3, fun c3 H3 x3 => ?_⟩⟩⟩
      obtain ⟨p, vs, rfl, l, hp⟩ := ((o1.ext x2).ext x3).list er
      refine ⟨p, vs, rfl, .inl (.inl hp), fun z hz => ?_⟩
      refine new_lst x3.al ?_ (q.ext ((x1.trans x2).trans x3)) hz
      unfold cutV cutD
      rw [l.length]
      exact (l.drop _).take _
    · cases e
/-! ### a slot's own list or dict is changed -/
theorem EnvR.change {c : Colr} {H : Hp} {σ : L2.St} {env : Env} {i : Nat} {a : Addr} {o : HO} {m : M} (R : EnvR κ ro c H σ env) (hi : ro.contains i = false) (hc : c a = .own i []) (hs : σ[i]? = some (some (.ref a))) (hl : i < env.length)
    (k : ∀ P, P [] a → Own κ c (L2.upd H a o) P (.ref a) m) : EnvR κ ro c (L2.upd H a o) σ (env.set i (some m)) ∧ Upd c H c (L2.upd H a o) := by
  have no : ∀ b, c b ≠ .own i [] → b ≠ a := fun b h e => h (e ▸ hc)
  have st : Stay c H c (L2.upd H a o) := fun b ob e f => ⟨by rw [upd_ne (no b (by rw [f]; intro z; cases z))]; exact e, f⟩
  have al : ∀ b, L2.upd H a o b = none → c b = .no := fun b n => by
    by_cases e : b = a
    · rw [e, upd_same] at n; cases n
    · rw [upd_ne e] at n
      exact R.al b n
  refine ⟨⟨al, by simpa using R.len, R.bo, fun j n e => ?_⟩, ⟨fun b ob e h => ⟨by rw [upd_ne (no b (h i []))]; exact e, rfl⟩, fun b n => ?_, fun _ _ _ e => e, al⟩⟩
  · by_cases hj : j = i
    · subst hj
      rw [List.getElem?_set_self hl] at e
      cases e
      exact ⟨_, hs, k _ ((slotP_own hi).mpr hc)⟩
    · rw [List.getElem?_set_ne (Ne.symm hj)] at e
      obtain ⟨v, e1, o1⟩ := R.sl j n e
      refine ⟨v, e1, Own.stay st (fun p b ob h ha => ⟨h, ?_⟩) o1⟩
      rw [upd_ne (no b fun z => ?_)]
      · exact ha
      · unfold slotP at h
        rw [z] at h
        split at h
        · cases h
        · split at h
          · cases h
          · injection h with z1 _
            exact hj z1.symm
  · by_cases e : b = a
    · rw [e, upd_same] at n; cases n
    · rw [upd_ne e] at n
      exact n
theorem Fz.upd {c : Colr} {H : Hp} {a : Addr} {o : HO} (h : c a ≠ .fz) {v : V} {d : D} (f : Fz κ c H v d) : Fz κ c (L2.upd H a o) v d := f.stay fun b ob e k => ⟨by rw [upd_ne (by rintro rfl; exact h k)]; exact e, k⟩
theorem FzL.upd {c : Colr} {H : Hp} {a : Addr} {o : HO} (h : c a ≠ .fz) {v : List V} {d : List D} (f : FzL κ c H v d) : FzL κ c (L2.upd H a o) v d := f.stay fun b ob e k => ⟨by rw [upd_ne (by rintro rfl; exact h k)]; exact e, k⟩
theorem FzK.upd {c : Colr} {H : Hp} {a : Addr} {o : HO} (h : c a ≠ .fz) {v : List (Key × V)} {d : List (Key × D)} (f : FzK κ c H v d) : FzK κ c (L2.upd H a o) v d := f.stay fun b ob e k => ⟨by rw [upd_ne (by rintro rfl; exact h k)]; exact e, k⟩
theorem EnvR.own_lst {c : Colr} {H : Hp} {σ : L2.St} {env : Env} {i : Nat} {ds : List D} (R : EnvR κ ro c H σ env) (hi : ro.contains i = false) (e : env[i]? = some (some (.lst ds))) : ∃ a vs, σ[i]? = some (some (.ref a)) ∧ H a = some (.lst vs) ∧ c a = .own i [] ∧ FzL κ c H vs ds := by
  obtain ⟨v, e1, o⟩ := R.sl i _ e
  cases o with
  | lst p h l => exact ⟨_, _, e1, h, (slotP_own hi).mp p, l⟩
theorem EnvR.own_dct {c : Colr} {H : Hp} {σ : L2.St} {env : Env} {i : Nat} {ds : List (Key × D)} (R : EnvR κ ro c H σ env) (hi : ro.contains i = false) (e : env[i]? = some (some (.dct ds))) : ∃ a vs, σ[i]? = some (some (.ref a)) ∧ H a = some (.dK vs) ∧ c a = .own i [] ∧ FzK κ c H vs ds := by
  obtain ⟨v, e1, o⟩ := R.sl i _ e
  cases o with
  | dct p h l => exact ⟨_, _, e1, h, (slotP_own hi).mp p, l⟩
def gAppend (i : Nat) (f : SemE) : SemS := fun env => obind (f env) fun m => match env[i]? with
  | some (some (.lst ds)) => if ds.length < sizeLine then .nx (env.set i (some (.lst (ds ++ [m.er])))) else .stuck
  | _ => .stuck
theorem s_append {i : Nat} {x : Str} {e : Expr} {f : SemE} {p apos cpos pos : Pos} (hN : X.N[i]? = some x) (hv : Vis X.env.scope x) (hi : ro.contains i = false) (he : FE X κ ro e f)
    (hd : (x == ("__debug__" : Str)) = false := by decide) (hcd : (x == ("__classdict__" : Str)) = false := by decide)
    (hfew : ((backTo cpos (starEach [e] X.env)).all (fun x => !x.1) && (backToKw cpos (keywordEach [] X.env)).all (fun x => x.1.isSome) && decide (([e] : List Expr).length + ([] : List Keyword).length + (if ([] : List Keyword).isEmpty then 0 else 1) < 30)) = true := by rfl)
    (hbase : attributeBase (.Name x p) "append" X.env (eval (.Name x p) X.env) = eval (.Name x p) X.env := by rfl) (hline : (apos.endLine == cpos.line) = true := by rfl) (hs : starEach [e] X.env = (false, eval e X.env) :: starEach [] X.env := by rfl) (hplain : (backTo cpos (starEach [] X.env)).any (·.1) = false := by rfl)
    (hsw : swapsWith (.Call (.Attribute (.Name x p) "append" apos) [e] [] cpos) none pos.line X.env = pure false := by rfl) :
    SS X κ ro (.Expr (.Call (.Attribute (.Name x p) "append" apos) [e] [] cpos) pos) (gAppend i f) :=
  PS.imp (ps_expr (pe_bm PySem.F.plainAttrs_list PySem.F.slot_list_append PySem.F.type_list_append mt_append (pe_var hN hv hd hcd) (pa_cons he pa_nil hs) hbase hfew hline hs hplain) hsw) fun D σ H ⟨c, env, R, q⟩ => by
    unfold gAppend obind at q
    cases em : f env with
    | exc _ _ => rw [em] at q; exact q.elim
    | stuck => rw [em] at q; exact q.elim
    | ok m =>
      simp only [em] at q
      split at q
      · next ds hds =>
        split at q
        · next hlen =>
          obtain ⟨a, vs, hs, ha, hc, l⟩ := R.own_lst hi hds
          refine ⟨_, hs, .inl ⟨rfl, _, .inl (.inl ha)⟩, c, env, R, m, em, fun y c1 H1 x1 hy => ?_⟩
          obtain ⟨ha1, hc1⟩ := x1.old a _ ha
          have hc2 : c1 a = .own i [] := hc1.trans hc
          have l1 := l.stay x1.stay
          have nf : c1 a ≠ .fz := by rw [hc2]; intro z; cases z
          refine ⟨a, vs, y, rfl, rfl, ha1, by rw [l.length]; exact hlen, ?_⟩
          obtain ⟨R', u'⟩ := (R.ext x1).change (o := .lst (vs ++ [y])) (m := .lst (ds ++ [m.er])) hi hc2 hs (List.getElem?_eq_some_iff.mp hds).1 fun P hp => .lst hp upd_same ((l1.app (.cons hy .nil)).upd nf)
          exact q σ c1 _ R' ((x1.upd R.al).trans u') Fix.refl
        · exact q.elim
      · exact q.elim
/-- x[k] = v, of a list or dict of one's own -/
def gPut (i : Nat) (fk fv : SemE) : SemS := fun env => obind (fv env) fun v => obind (fk env) fun k => match env[i]? with
  | some (some (.lst ds)) => (match k.er with
    | .int j => (match ixN ds.length j with
      | some n => .nx (env.set i (some (.lst (ds.set n v.er))))
      | none => .stuck)
    | _ => .stuck)
  | some (some (.dct kvs)) => (match keyOf k with
    | .ok k => if kvs.length < sizeLine then .nx (env.set i (some (.dct (putD kvs k v.er)))) else .stuck
    | _ => .stuck)
  | _ => .stuck
theorem FzL.set {c : Colr} {H : Hp} {v : V} {d : D} (h : Fz κ c H v d) : ∀ {vs : List V} {ds : List D} (n : Nat), FzL κ c H vs ds → FzL κ c H (vs.set n v) (ds.set n d)
  | _, _, _, .nil => .nil
  | _, _, 0, .cons _ l => .cons h l
  | _, _, n + 1, .cons h' l => .cons h' (FzL.set h n l)
theorem s_put (hu : X.A.units + 1 < cLine) {i : Nat} {x : Str} {ek ev : Expr} {fk fv : SemE} {p tpos pos : Pos} (hN : X.N[i]? = some x) (hv : Vis X.env.scope x) (hi : ro.contains i = false) (hk : BE X κ ro ek fk) (he : FE X κ ro ev fv)
    (hd : (x == ("__debug__" : Str)) = false := by decide) (hcd : (x == ("__classdict__" : Str)) = false := by decide)
    (hs : swapsWith ev (some (.Subscript (.Name x p) ek tpos)) pos.line X.env = pure false := by rfl) (hs1 : swapsWithSole [.Subscript (.Name x p) ek tpos] ev pos.line X.env = pure false := by rfl) (hw : swappedStores [.Subscript (.Name x p) ek tpos] ev X.env = pure none := by rfl)
    (h1 : (assignEach [.Subscript (.Name x p) ek tpos] X.env).map (·.2) = [assign (.Subscript (.Name x p) ek tpos) X.env] := by rfl)
    (ha : ∀ v, assign (.Subscript (.Name x p) ek tpos) X.env v = (do
      let ov ← holding [v] (eval (.Name x p) X.env)
      let iv ← holding [v, ov] (eval ek X.env)
      standAt tpos
      holding [v, ov, iv] (setItem ov iv v)
      release [v, ov, iv] []) := by intro _; rfl) :
    SS X κ ro (.Assign [.Subscript (.Name x p) ek tpos] ev pos) (gPut i fk fv) := by
  refine PS.imp (PS.or (ps_asg he (pg_sub (pe_var hN hv hd hcd) hk set_list ha) hs1 hw h1) (ps_dput hu (pe_var hN hv hd hcd) hk he hs)) fun D σ H ⟨c, env, R, q⟩ => ?_
  unfold gPut obind at q
  cases em : fv env with
  | exc _ _ => rw [em] at q; exact q.elim
  | stuck => rw [em] at q; exact q.elim
  | ok m =>
    simp only [em] at q
    cases ek : fk env with
    | exc _ _ => rw [ek] at q; exact q.elim
    | stuck => rw [ek] at q; exact q.elim
    | ok k =>
      simp only [ek] at q
      split at q
      · next ds hds =>
        split at q
        · next j hj =>
          split at q
          · next n hn =>
            obtain ⟨a, vs, hs, ha, hc, l⟩ := R.own_lst hi hds
            refine .inl ⟨c, env, R, m, em, fun y c1 H1 x1 hy => ⟨_, hs, c1, env, R.ext x1, k, ek, fun z c2 H2 x2 hz => ?_⟩⟩
            have x12 := x1.trans x2
            obtain ⟨ha1, hc1⟩ := x12.old a _ ha
            have hc2 : c2 a = .own i [] := hc1.trans hc
            have l1 := l.stay x12.stay
            have nf : c2 a ≠ .fz := by rw [hc2]; intro z; cases z
            refine ⟨a, vs, j, n, rfl, hz.int hj, ha1, by rw [l.length]; exact hn, ?_⟩
            obtain ⟨R', u'⟩ := (R.ext x12).change (o := .lst (vs.set n y)) (m := .lst (ds.set n m.er)) hi hc2 hs (List.getElem?_eq_some_iff.mp hds).1 fun P hp => .lst hp upd_same ((FzL.set (hy.stay x2.stay) n l1).upd nf)
            exact q σ c2 _ R' ((x12.upd R.al).trans u') Fix.refl
          · exact q.elim
        · exact q.elim
      · next kvs hds =>
        split at q
        · next key hkey =>
          split at q
          · next hlen =>
            obtain ⟨a, vs, hs, ha, hc, l⟩ := R.own_dct hi hds
            refine .inr ⟨c, env, R, m, em, fun y c1 H1 x1 hy => ⟨_, hs, c1, env, R.ext x1, k, ek, fun z c2 H2 x2 hz => ?_⟩⟩
            have x12 := x1.trans x2
            obtain ⟨ha1, hc1⟩ := x12.old a _ ha
            have hc2 : c2 a = .own i [] := hc1.trans hc
            have l1 := l.stay x12.stay
            have nf : c2 a ≠ .fz := by rw [hc2]; intro z; cases z
            refine ⟨a, _, rfl, by rw [hz.key hkey]; exact DPut.k ha1 (by rw [l.len]; exact hlen), ?_⟩
            obtain ⟨R', u'⟩ := (R.ext x12).change (o := .dK (putK vs key y)) (m := .dct (putD kvs key m.er)) hi hc2 hs (List.getElem?_eq_some_iff.mp hds).1 fun P hp => .dct hp upd_same ((FzK.put (hy.stay x2.stay) l1).upd nf)
            exact q σ c2 _ R' ((x12.upd R.al).trans u') Fix.refl
          · exact q.elim
        · exact q.elim
      · exact q.elim
/-- {} -/
theorem v_dnew {pos : Pos} : VE X κ ro (.Dict [] [] pos) (fun _ => .ok (.dct [])) := PE.imp pe_dnewK fun σ H Q ⟨c, env, R, m, e, q⟩ => by
  cases e
  intro p h
  exact q (.ref p) c _ (fun pt a => pt = [] ∧ a = p) (ext_new R.al h) ⟨fun pt a e => ⟨by rw [e.2]; exact h, by rw [e.2]; exact R.al p h⟩, fun x y a e f => e.1.trans f.1.symm⟩ (.dct ⟨rfl, rfl⟩ upd_same .nil)
/-- d.get(k, x) -/
def fGet2 (f g h : SemE) : SemE := fun env => (f env).bind fun d => (g env).bind fun k => (h env).bind fun x => match d.er with
  | .dct kvs => (keyOf k).bind fun k => .ok (.fz ((valD kvs k).getD x.er))
  | _ => .stuck
theorem v_get2 (hu : X.A.units + 1 < cLine) {o e x : Expr} {f g h : SemE} {apos cpos : Pos} (ho : BE X κ ro o f) (he : BE X κ ro e g) (hx : FE X κ ro x h) (m : M2 X o "get" apos e x cpos := by exact ⟨rfl, rfl, rfl, rfl⟩) : VE X κ ro (.Call (.Attribute o "get" apos) [e, x] [] cpos) (fGet2 f g h) :=
  PE.imp (pe_dget2 hu ho he hx m) fun σ H Q ⟨c, env, R, m, e, q⟩ => by
    obtain ⟨m1, e1, e⟩ := Z.R.bind_eq e
    obtain ⟨m2, e2, e⟩ := Z.R.bind_eq e
    obtain ⟨m3, e3, e⟩ := Z.R.bind_eq e
    split at e
    · next kvs er =>
      obtain ⟨k, ek, e⟩ := Z.R.bind_eq e
      cases e
      refine ⟨c, env, R, m1, e1, fun v c1 H1 x1 o1 => ?_⟩
      obtain ⟨a, vs, rfl, l, ha⟩ := o1.dct er
      refine ⟨a, rfl, .inl ⟨vs, .inl ha⟩, c1, env, R.ext x1, m2, e2, fun y c2 H2 x2 o2 => ⟨c2, env, (R.ext x1).ext x2, m3, e3, fun z c3 H3 x3 hz => ?_⟩⟩
      have x23 := x2.trans x3
      have x13 := x1.trans x23
      refine ⟨valV vs k, by rw [o2.key ek]; exact DGet.k (x23.old a _ ha).1, ?_⟩
      have l3 := l.stay x23.stay
      obtain ⟨h1, h2⟩ := l3.val (k := k)
      cases hv : valD kvs k with
      | none =>
        rw [h1 hv]
        rw [hv] at q
        exact q _ c3 H3 noP x13 New.no (.fz hz)
      | some d =>
        obtain ⟨w, hw, hd⟩ := h2 d hv
        rw [hw]
        rw [hv] at q
        exact q _ c3 H3 noP x13 New.no (.fz hd)
    · cases e
end
end Z

set_option Elab.async false
set_option linter.all false
set_option maxRecDepth 100000
set_option maxHeartbeats 2000000
namespace Z
open PySem PySem.Spec PyProof.Rows L2
/-! ### built-ins by values -/
def CallS (κ : Kx) (r : List V → Hp → VK → Prop) (op : List M → R M) : Prop :=
  ∀ (c : Colr) (H : Hp) (vs : List V) (ms : List M) (k : M) (Q : VK), (∀ a, H a = none → c a = .no) → Paired (Lent κ c H) vs ms → op ms = .ok k → pV κ c H k Q → r vs H Q
def fCall (op : List M → R M) (g : Env → R (List M)) : SemE := fun env => (g env).bind op
theorem CallR.or {X : Cx} {f : Value} {r r' : List V → Hp → VK → Prop} (h : CallR X f r) (k : CallR X f r') : CallR X f (fun xs H Q => r xs H Q ∨ r' xs H Q) := fun pins s σ H xs us Q I rv q => q.elim (h pins s σ H xs us Q I rv) (k pins s σ H xs us Q I rv)
section
variable {X : Cx} {κ : Kx} {ro : Md}
theorem tCB_of {r : List V → Hp → VK → Prop} {op : List M → R M} {g : Env → R (List M)} (h : CallS κ r op) {σ : L2.St} {H : Hp} {Q : VK} (q : tV κ ro (fCall op g) σ H Q) : tCB r (tA κ ro g) σ H Q := by
  obtain ⟨c, env, R, m, e, q⟩ := q
  obtain ⟨ms, e1, e⟩ := Z.R.bind_eq e
  exact ⟨c, env, R, ms, e1, fun vs c1 H1 x1 o1 => h c1 H1 vs ms m Q x1.al o1 e (q.ext x1)⟩
variable {x : Str} {id T : String} {p pos : Pos} {e : Expr} {es : List Expr} {g : Env → R (List M)} {r : List V → Hp → VK → Prop} {op : List M → R M}
theorem v_callB (hc : CallR X (.builtin id) r) (hs : CallS κ r op) (hg : Gl X x) (hm : X.mg x = none) (hv : bootBuiltins x = some (.builtin id)) (ha : AB X κ ro (e :: es) g) (hn : x ≠ "__name__" := by decide) (hdb : (x == ("__debug__" : Str)) = false := by decide)
    (he : starEach (e :: es) X.env = (false, eval e X.env) :: starEach es X.env := by rfl) (hpl : (backTo pos (starEach es X.env)).any (·.1) = false := by rfl) : VE X κ ro (.Call (.Name x p) (e :: es) [] pos) (fCall op g) :=
  PE.imp (pe_callB hc hg hm hv ha hn hdb he hpl) fun _ _ _ q => tCB_of hs q
theorem v_callTy (hc : CallR X (.type T) r) (hs : CallS κ r op) (hg : Gl X x) (hm : X.mg x = none) (hv : bootBuiltins x = some (.type T)) (ha : AB X κ ro (e :: es) g) (hn : x ≠ "__name__" := by decide) (hdb : (x == ("__debug__" : Str)) = false := by decide)
    (he : starEach (e :: es) X.env = (false, eval e X.env) :: starEach es X.env := by rfl) (hpl : (backTo pos (starEach es X.env)).any (·.1) = false := by rfl) : VE X κ ro (.Call (.Name x p) (e :: es) [] pos) (fCall op g) :=
  PE.imp (pe_callTy hc hg hm hv ha hn hdb he hpl) fun _ _ _ q => tCB_of hs q
theorem paired1 {F : V → M → Prop} {vs : List V} {m : M} (h : Paired F vs [m]) : ∃ v, vs = [v] ∧ F v m := by
  cases h with
  | cons h t => cases t; exact ⟨_, rfl, h⟩
theorem paired2 {F : V → M → Prop} {vs : List V} {m n : M} (h : Paired F vs [m, n]) : ∃ v w, vs = [v, w] ∧ F v m ∧ F w n := by
  cases h with
  | cons h t =>
    obtain ⟨w, e, k⟩ := paired1 t
    subst e
    exact ⟨_, _, rfl, h, k⟩
def op1 (f : M → R M) : List M → R M
  | [m] => f m
  | _ => .stuck
def op2 (f : M → M → R M) : List M → R M
  | [m, n] => f m n
  | _ => .stuck
theorem op1_ok {f : M → R M} {ms : List M} {k : M} (h : op1 f ms = .ok k) : ∃ m, ms = [m] ∧ f m = .ok k := by
  unfold op1 at h
  split at h
  · exact ⟨_, rfl, h⟩
  · cases h
theorem op2_ok {f : M → M → R M} {ms : List M} {k : M} (h : op2 f ms = .ok k) : ∃ m n, ms = [m, n] ∧ f m n = .ok k := by
  unfold op2 at h
  split at h
  · exact ⟨_, _, rfl, h⟩
  · cases h
def lenM (m : M) : R M := match m.er with
  | .lst l => .ok (.fz (.int l.length))
  | .tup l => .ok (.fz (.int l.length))
  | .scr l => .ok (.fz (.int l.length))
  | .str s => guard (decide (s.length ≤ sizeLine)) (.ok (.fz (.int s.length)))
  | _ => .stuck
theorem cs_len : CallS κ (fun xs H Q => ∃ x n, xs = [x] ∧ LenV κ.K x H n ∧ Q (.int n) H) (op1 lenM) := by
  intro c H vs ms k Q al hp e q
  have eh := op1_ok e
  clear e
  obtain ⟨m, rfl, e⟩ := eh
  obtain ⟨v, rfl, l⟩ := paired1 hp
  unfold lenM at e
  split at e
  · next ds er =>
    cases e
    obtain ⟨a, ws, rfl, fl, ha⟩ := l.list er
    exact ⟨_, _, rfl, .inl ⟨ws, .inl (.inl ha), rfl⟩, by rw [fl.length]; exact q_fz al (.int _) q⟩
  · next ds er =>
    cases e
    obtain ⟨a, ws, rfl, fl, ha⟩ := l.tup er
    exact ⟨_, _, rfl, .inr ⟨ws, ha.sq, rfl⟩, by rw [fl.length]; exact q_fz al (.int _) q⟩
  · next ns er =>
    cases e
    obtain ⟨a, rfl, ha⟩ := l.scr er
    exact ⟨_, _, rfl, .inl ⟨_, ha.sq, rfl⟩, by rw [List.length_map]; exact q_fz al (.int _) q⟩
  · next s er =>
    obtain ⟨h, e⟩ := guard_ok e
    cases e
    rw [l.str er]
    exact ⟨.str s, s.length, rfl, ⟨of_decide_eq_true h, rfl⟩, q_fz al (.int _) q⟩
  · cases e
def min2M (m n : M) : R M := (intM m).bind fun i => (intM n).bind fun j => .ok (.fz (.int (if j < i then j else i)))
def max2M (m n : M) : R M := (intM m).bind fun i => (intM n).bind fun j => .ok (.fz (.int (if j > i then j else i)))
theorem cs_min2 : CallS κ (fun xs H Q => ∃ i j, xs = [.int i, .int j] ∧ Q (.int (if j < i then j else i)) H) (op2 min2M) := by
  intro c H vs ms k Q al hp e q
  have eh := op2_ok e
  clear e
  obtain ⟨m, n, rfl, e⟩ := eh
  obtain ⟨v, w, rfl, l, l2⟩ := paired2 hp
  obtain ⟨i, ei, e⟩ := Z.R.bind_eq e
  obtain ⟨j, ej, e⟩ := Z.R.bind_eq e
  cases e
  exact ⟨i, j, by rw [l.int (intM_ok ei), l2.int (intM_ok ej)], q_fz al (.int _) q⟩
theorem cs_max2 : CallS κ (fun xs H Q => ∃ i j, xs = [.int i, .int j] ∧ Q (.int (if j > i then j else i)) H) (op2 max2M) := by
  intro c H vs ms k Q al hp e q
  have eh := op2_ok e
  clear e
  obtain ⟨m, n, rfl, e⟩ := eh
  obtain ⟨v, w, rfl, l, l2⟩ := paired2 hp
  obtain ⟨i, ei, e⟩ := Z.R.bind_eq e
  obtain ⟨j, ej, e⟩ := Z.R.bind_eq e
  cases e
  exact ⟨i, j, by rw [l.int (intM_ok ei), l2.int (intM_ok ej)], q_fz al (.int _) q⟩
def absM (m : M) : R M := (intM m).bind fun i => .ok (.fz (.int (if i < 0 then -i else i)))
theorem cs_abs : CallS κ (fun xs H Q => ∃ i, xs = [.int i] ∧ Q (.int (if i < 0 then -i else i)) H) (op1 absM) := by
  intro c H vs ms k Q al hp e q
  have eh := op1_ok e
  clear e
  obtain ⟨m, rfl, e⟩ := eh
  obtain ⟨v, rfl, l⟩ := paired1 hp
  obtain ⟨i, ei, e⟩ := Z.R.bind_eq e
  cases e
  exact ⟨i, by rw [l.int (intM_ok ei)], q_fz al (.int _) q⟩
def int1M (m : M) : R M := match m.er with
  | .int i => .ok (.fz (.int i))
  | .bl b => .ok (.fz (.int (if b then 1 else 0)))
  | _ => .stuck
theorem cs_int1 : CallS κ (fun xs H Q => (∃ i, xs = [.int i] ∧ Q (.int i) H) ∨ ∃ k, xs = [.bl k] ∧ Q (.int (if k then 1 else 0)) H) (op1 int1M) := by
  intro c H vs ms k Q al hp e q
  have eh := op1_ok e
  clear e
  obtain ⟨m, rfl, e⟩ := eh
  obtain ⟨v, rfl, l⟩ := paired1 hp
  unfold int1M at e
  split at e
  · next i er =>
    cases e
    exact .inl ⟨i, by rw [l.int er], q_fz al (.int _) q⟩
  · next i er =>
    cases e
    exact .inr ⟨i, by rw [l.bl er], q_fz al (.int _) q⟩
  · cases e
def str1M (m : M) : R M := (intM m).bind fun i => guard (decide (i.natAbs.log2 < 1920)) (.ok (.fz (.str (toString i))))
theorem cs_str : CallS κ (fun xs H Q => ∃ i, xs = [.int i] ∧ i.natAbs.log2 < 1920 ∧ Q (.str (toString i)) H) (op1 str1M) := by
  intro c H vs ms k Q al hp e q
  have eh := op1_ok e
  clear e
  obtain ⟨m, rfl, e⟩ := eh
  obtain ⟨v, rfl, l⟩ := paired1 hp
  obtain ⟨i, ei, e⟩ := Z.R.bind_eq e
  obtain ⟨h, e⟩ := guard_ok e
  cases e
  exact ⟨i, by rw [l.int (intM_ok ei)], of_decide_eq_true h, q_fz al (.str _) q⟩
def list1M (m : M) : R M := (listOf m).bind fun ds => .ok (.lst ds)
theorem cs_list : CallS κ (fun xs H Q => ∃ p ys, xs = [.ref p] ∧ (SqL κ.K H p ys ∨ SqT κ.K H p ys) ∧ ∀ l, H l = none → Q (.ref l) (L2.upd H l (.lst ys))) (op1 list1M) := by
  intro c H vs ms k Q al hp e q
  have eh := op1_ok e
  clear e
  obtain ⟨m, rfl, e⟩ := eh
  obtain ⟨v, rfl, l⟩ := paired1 hp
  obtain ⟨ds, ed, e⟩ := Z.R.bind_eq e
  cases e
  rcases listOf_ok ed with er | er | ⟨ns, er, rfl⟩ | er
  · obtain ⟨a, ws, rfl, fl, ha⟩ := l.list er
    exact ⟨a, ws, rfl, .inl (.inl (.inl ha)), fun z hz => new_lst al fl q hz⟩
  · obtain ⟨a, ws, rfl, fl, ha⟩ := l.tup er
    exact ⟨a, ws, rfl, .inr ha.sq, fun z hz => new_lst al fl q hz⟩
  · obtain ⟨a, rfl, ha⟩ := l.scr er
    exact ⟨a, _, rfl, .inl ha.sq, fun z hz => new_lst al (FzL.ints ns) q hz⟩
  · obtain ⟨a, ws, rfl, fl, ha⟩ := l.ktp er
    exact ⟨a, ws, rfl, .inr (SqT.nil0 ha _), fun z hz => new_lst al fl q hz⟩
/-- a list of ints -/
def intsD : List D → Option (List Int)
  | [] => some []
  | .int i :: r => (intsD r).map (i :: ·)
  | _ :: _ => none
theorem intsD_ok {c : Colr} {H : Hp} : ∀ {ds : List D} {ns : List Int} {vs : List V}, intsD ds = some ns → FzL κ c H vs ds → vs = ns.map V.int
  | [], ns, _, e, .nil => by cases e; rfl
  | .int i :: r, ns, _, e, .cons h l => by
    have e : (intsD r).map (i :: ·) = some ns := e
    cases q : intsD r with
    | none => rw [q] at e; cases e
    | some k =>
      rw [q] at e
      cases e
      cases h
      rw [intsD_ok q l]
      rfl
  | .non :: r, _, _, e, _ => by cases e
  | .bl _ :: r, _, _, e, _ => by cases e
  | .str _ :: r, _, _, e, _ => by cases e
  | .tup _ :: r, _, _, e, _ => by cases e
  | .lst _ :: r, _, _, e, _ => by cases e
  | .dct _ :: r, _, _, e, _ => by cases e
  | .ins _ _ :: r, _, _, e, _ => by cases e
  | .scr _ :: r, _, _, e, _ => by cases e
  | .ktp _ :: r, _, _, e, _ => by cases e
theorem intsD_map : ∀ ns : List Int, intsD (ns.map D.int) = some ns
  | [] => rfl
  | n :: ns => by simp [intsD, intsD_map ns]
def intsM (m : M) : R (List Int) := match m.er with
  | .lst ds => (match intsD ds with
    | some ns => .ok ns
    | none => .stuck)
  | .scr ns => .ok ns
  | _ => .stuck
theorem intsM_ok {c : Colr} {H : Hp} {v : V} {m : M} {ns : List Int} (l : Lent κ c H v m) (h : intsM m = .ok ns) : ∃ a, v = .ref a ∧ SqL κ.K H a (ns.map V.int) := by
  unfold intsM at h
  split at h
  · next ds er =>
    split at h
    · next k hk =>
      cases h
      obtain ⟨a, vs, ev, fl, ha⟩ := l.list er
      rw [intsD_ok hk fl] at ha
      exact ⟨a, ev, .inl (.inl ha)⟩
    · cases h
  · next k er =>
    cases h
    obtain ⟨a, ev, ha⟩ := l.scr er
    exact ⟨a, ev, ha.sq⟩
  · cases h
def sumM (m : M) : R M := (intsM m).bind fun ns => .ok (.fz (.int ns.sum))
theorem cs_sum : CallS κ (rSum κ.K) (op1 sumM) := by
  intro c H vs ms k Q al hp e q
  have eh := op1_ok e
  clear e
  obtain ⟨m, rfl, e⟩ := eh
  obtain ⟨v, rfl, l⟩ := paired1 hp
  obtain ⟨ns, ei, e⟩ := Z.R.bind_eq e
  cases e
  obtain ⟨a, rfl, ha⟩ := intsM_ok l ei
  exact ⟨a, ns, rfl, ha, q_fz al (.int _) q⟩
/-! sorting -/
def insI (i : Int) : List Int → List Int
  | [] => [i]
  | j :: r => if i ≤ j then i :: j :: r else j :: insI i r
def sortI : List Int → List Int
  | [] => []
  | i :: r => insI i (sortI r)
theorem insI_perm (i : Int) : ∀ l, (insI i l).Perm (i :: l)
  | [] => List.Perm.refl _
  | j :: r => by
    unfold insI
    split
    · exact List.Perm.refl _
    · exact ((insI_perm i r).cons j).trans (List.Perm.swap i j r)
theorem sortI_perm : ∀ l, (sortI l).Perm l
  | [] => List.Perm.refl _
  | i :: r => (insI_perm i _).trans ((sortI_perm r).cons i)
theorem insI_sorted (i : Int) : ∀ l : List Int, l.Pairwise (· ≤ ·) → (insI i l).Pairwise (· ≤ ·)
  | [], _ => by simp [insI]
  | j :: r, h => by
    obtain ⟨h1, h2⟩ := List.pairwise_cons.mp h
    unfold insI
    split
    · next hij =>
      refine List.pairwise_cons.mpr ⟨fun a ha => ?_, h⟩
      rcases List.mem_cons.mp ha with rfl | ha
      · exact hij
      · exact Int.le_trans hij (h1 a ha)
    · next hij =>
      refine List.pairwise_cons.mpr ⟨fun a ha => ?_, insI_sorted i r h2⟩
      rcases List.mem_cons.mp ((insI_perm i r).mem_iff.mp ha) with rfl | ha
      · omega
      · exact h1 a ha
theorem sortI_sorted : ∀ l, (sortI l).Pairwise (· ≤ ·)
  | [] => List.Pairwise.nil
  | i :: r => insI_sorted i _ (sortI_sorted r)
theorem sorted_uniq : ∀ {l m : List Int}, l.Pairwise (· ≤ ·) → m.Pairwise (· ≤ ·) → l.Perm m → l = m
  | [], m, _, _, p => (List.Perm.eq_nil p.symm).symm
  | x :: l, [], _, _, p => absurd p.length_eq (by simp)
  | x :: l, y :: m, hl, hm, p => by
    obtain ⟨l1, l2⟩ := List.pairwise_cons.mp hl
    obtain ⟨m1, m2⟩ := List.pairwise_cons.mp hm
    have h1 : x ≤ y := by
      rcases List.mem_cons.mp (p.mem_iff.mpr (List.mem_cons_self (a := y) (l := m))) with e | h
      · exact Int.le_of_eq e.symm
      · exact l1 y h
    have h2 : y ≤ x := by
      rcases List.mem_cons.mp (p.mem_iff.mp (List.mem_cons_self (a := x) (l := l))) with e | h
      · exact Int.le_of_eq e.symm
      · exact m1 x h
    have e : x = y := by omega
    subst e
    rw [sorted_uniq l2 m2 p.cons_inv]
/-- pairs of ints -/
def prD : D → Option (Int × Int)
  | .tup [.int i, .int j] => some (i, j)
  | _ => none
def prsD : List D → Option (List (Int × Int))
  | [] => some []
  | d :: r => (prD d).bind fun p => (prsD r).map (p :: ·)
def insP (p : Int × Int) : List (Int × Int) → List (Int × Int)
  | [] => [p]
  | q :: r => if SrtO.lexB q p = true then q :: insP p r else p :: q :: r
def sortP : List (Int × Int) → List (Int × Int)
  | [] => []
  | p :: r => insP p (sortP r)
def prV (p : Int × Int) : D := .tup [.int p.1, .int p.2]
theorem insP_perm (i : Int × Int) : ∀ l, (insP i l).Perm (i :: l)
  | [] => List.Perm.refl _
  | j :: r => by
    unfold insP
    split
    · exact ((insP_perm i r).cons j).trans (List.Perm.swap i j r)
    · exact List.Perm.refl _
theorem sortP_perm : ∀ l, (sortP l).Perm l
  | [] => List.Perm.refl _
  | i :: r => (insP_perm i _).trans ((sortP_perm r).cons i)
theorem lex_swo : SrtO.Swo SrtO.lexB := by
  refine ⟨fun x y h => ?_, fun x y z h1 h2 => ?_⟩
  · have a := SrtO.lexB_iff.mp h
    refine SrtO.lexB_no.mpr ?_
    omega
  · have a := SrtO.lexB_no.mp h1
    have b := SrtO.lexB_no.mp h2
    refine SrtO.lexB_no.mpr ?_
    omega
theorem insP_sorted (i : Int × Int) : ∀ l : List (Int × Int), l.Pairwise (fun p q => SrtO.lexB q p = false) → (insP i l).Pairwise (fun p q => SrtO.lexB q p = false)
  | [], _ => by simp [insP]
  | j :: r, h => by
    obtain ⟨h1, h2⟩ := List.pairwise_cons.mp h
    unfold insP
    split
    · next hij =>
      refine List.pairwise_cons.mpr ⟨fun a ha => ?_, insP_sorted i r h2⟩
      rcases List.mem_cons.mp ((insP_perm i r).mem_iff.mp ha) with rfl | ha
      · exact lex_swo.asym _ _ hij
      · exact h1 a ha
    · next hij =>
      have hij : SrtO.lexB j i = false := by simpa using hij
      refine List.pairwise_cons.mpr ⟨fun a ha => ?_, h⟩
      rcases List.mem_cons.mp ha with rfl | ha
      · exact hij
      · exact lex_swo.tr _ _ _ hij (h1 a ha)
theorem sortP_sorted : ∀ l, (sortP l).Pairwise (fun p q => SrtO.lexB q p = false)
  | [] => List.Pairwise.nil
  | i :: r => insP_sorted i _ (sortP_sorted r)
theorem prD_ok {d : D} {p : Int × Int} (h : prD d = some p) : d = prV p := by
  unfold prD at h
  split at h
  · cases h; rfl
  · cases h
theorem prsD_ok : ∀ {ds : List D} {ps : List (Int × Int)}, prsD ds = some ps → ds = ps.map prV
  | [], ps, h => by cases h; rfl
  | d :: r, ps, h => by
    have h : ((prD d).bind fun p => (prsD r).map (p :: ·)) = some ps := h
    cases h1 : prD d with
    | none => rw [h1] at h; cases h
    | some p =>
      rw [h1] at h
      have h : (prsD r).map (p :: ·) = some ps := h
      cases h2 : prsD r with
      | none => rw [h2] at h; cases h
      | some qs =>
        rw [h2] at h
        cases h
        rw [prD_ok h1, prsD_ok h2]
        rfl
theorem prsD_map : ∀ ps : List (Int × Int), prsD (ps.map prV) = some ps
  | [] => rfl
  | p :: ps => by simp [prsD, prD, prV, prsD_map ps]
theorem sortP_uniq : ∀ {l m : List (Int × Int)}, l.Pairwise (fun p q => SrtO.lexB q p = false) → m.Pairwise (fun p q => SrtO.lexB q p = false) → l.Perm m → l = m
  | [], m, _, _, p => (List.Perm.eq_nil p.symm).symm
  | x :: l, [], _, _, p => absurd p.length_eq (by simp)
  | x :: l, y :: m, hl, hm, p => by
    obtain ⟨l1, l2⟩ := List.pairwise_cons.mp hl
    obtain ⟨m1, m2⟩ := List.pairwise_cons.mp hm
    have e : x = y := by
      have h1 : SrtO.lexB y x = false := by
        rcases List.mem_cons.mp (p.mem_iff.mpr (List.mem_cons_self (a := y) (l := m))) with e | h
        · rw [e]; exact lex_swo.refl x
        · exact l1 y h
      have h2 : SrtO.lexB x y = false := by
        rcases List.mem_cons.mp (p.mem_iff.mp (List.mem_cons_self (a := x) (l := l))) with e | h
        · rw [e]; exact lex_swo.refl y
        · exact m1 x h
      have a := SrtO.lexB_no.mp h1
      have b := SrtO.lexB_no.mp h2
      exact Prod.ext (by omega) (by omega)
    subst e
    rw [sortP_uniq l2 m2 p.cons_inv]
open Classical in
/-- which pair a value is -/
noncomputable def pairOf (κ : Kx) (c : Colr) (H : Hp) (v : V) : Int × Int := if h : ∃ p : Int × Int, Fz κ c H v (prV p) then Classical.choose h else (0, 0)
theorem Fz.pr {c : Colr} {H : Hp} {v : V} {p : Int × Int} (h : Fz κ c H v (prV p)) : ∃ t, v = .ref t ∧ SqT κ.K H t [.int p.1, .int p.2] := by
  cases h with
  | tup s l =>
    cases l with
    | cons h1 l =>
      cases l with
      | cons h2 l =>
        cases l
        cases h1
        cases h2
        exact ⟨_, rfl, s.sq⟩
theorem Fz.pr_inj {c : Colr} {H : Hp} {v : V} {p q : Int × Int} (h : Fz κ c H v (prV p)) (k : Fz κ c H v (prV q)) : p = q := by
  cases h with
  | tup s l =>
    cases k with
    | tup s2 l2 =>
      have e := s.2.symm.trans s2.2
      injection e with e
      injection e with e
      subst e
      cases l with
      | cons h1 l =>
        cases l with
        | cons h2 l =>
          cases l2 with
          | cons k1 l2 =>
            cases l2 with
            | cons k2 l2 =>
              obtain ⟨p1, p2⟩ := p
              obtain ⟨q1, q2⟩ := q
              cases h1
              cases h2
              cases k1
              cases k2
              rfl
theorem FzL.prs {c : Colr} {H : Hp} : ∀ {vs : List V} {ps : List (Int × Int)}, FzL κ c H vs (ps.map prV) → ∀ v ∈ vs, ∃ p, Fz κ c H v (prV p)
  | [], _, _, v, h => by cases h
  | _ :: _, [], l, _, _ => by cases l
  | w :: vs, p :: ps, .cons h l, v, hm => by
    rcases List.mem_cons.mp hm with e | hm
    · rw [e]; exact ⟨p, h⟩
    · exact FzL.prs l v hm
theorem pairOf_spec {c : Colr} {H : Hp} {v : V} (h : ∃ p : Int × Int, Fz κ c H v (prV p)) : Fz κ c H v (prV (pairOf κ c H v)) := by
  unfold pairOf
  rw [dif_pos h]
  exact Classical.choose_spec h
theorem FzL.of_pairs {c : Colr} {H : Hp} : ∀ {vs : List V}, (∀ v ∈ vs, Fz κ c H v (prV (pairOf κ c H v))) → FzL κ c H vs ((vs.map (pairOf κ c H)).map prV)
  | [], _ => .nil
  | v :: vs, h => .cons (h v List.mem_cons_self) (FzL.of_pairs fun u hu => h u (List.mem_cons_of_mem _ hu))
theorem pairs_map {c : Colr} {H : Hp} : ∀ {ws : List V} {ps : List (Int × Int)}, FzL κ c H ws (ps.map prV) → ws.map (pairOf κ c H) = ps
  | [], [], _ => rfl
  | [], _ :: _, l => by cases l
  | _ :: _, [], l => by cases l
  | w :: ws, p :: ps, .cons h l => by
    rw [List.map_cons, pairs_map l, Fz.pr_inj (pairOf_spec ⟨p, h⟩) h]
/-- sorted(xs) of pairs of ints, however they are held -/
def rSortZ (K : PySem.W.Frag) : List V → Hp → VK → Prop := fun vs H Q => ∃ (a : Addr) (xs : List V) (k : V → Int × Int), vs = [V.ref a] ∧ SqL K H a xs ∧ (∀ x ∈ xs, ∃ t, x = V.ref t ∧ SqT K H t [.int (k x).1, .int (k x).2]) ∧
  ∀ ys p, SrtO.Srtd (ltP k) ys → ys.Perm xs → H p = none → Q (.ref p) (L2.upd H p (.lst ys))
theorem cr_sortZ : CallR X (.builtin "sorted") (rSortZ X.K) := by
  intro pins s σ H vs us Q I r h
  obtain ⟨a, xs, k, rfl, hs, hx, q⟩ := h
  obtain ⟨its, rv, hl, hz⟩ := I.list hs
  obtain ⟨u, rfl, ru⟩ := vals1 r
  obtain rfl : u = Value.ref a := ru
  obtain ⟨e1, e2⟩ := refs_back rv fun x m => by
    obtain ⟨t, e, _⟩ := hx x m
    exact ⟨t, e⟩
  refine SrtO.sorted_pairsO (k := fun u => k (backV u)) hl.isList (by rw [← rv.length]; exact hz) (fun v hv => ?_) fun h' d out h1 h2 kp hd hn => ?_
  · obtain ⟨t, rfl⟩ := e2 v hv
    have hm : V.ref t ∈ xs := by rw [e1]; exact List.mem_map.mpr ⟨_, hv, rfl⟩
    obtain ⟨t', e, ht⟩ := hx _ hm
    cases e
    obtain ⟨its2, r2, ⟨o, ho, hc, n, hd⟩, _⟩ := I.tuple ht
    obtain ⟨u1, u2, rfl, ri, rj⟩ := vals2 r2
    obtain ⟨t1, rfl⟩ := ri
    obtain ⟨t2, rfl⟩ := rj
    exact ⟨t, o, t1, t2, n, rfl, ho, hc, hd⟩
  · have h3 : ∀ u ∈ out, ∃ a, u = Value.ref a := fun u hu => e2 u (h2.perm.mem_iff.mp hu)
    obtain ⟨n, hn⟩ := hn
    have hb : (out.map backV).Perm xs := by
      rw [e1]
      exact h2.perm.map backV
    refine ⟨.ref d, L2.upd H d (.lst (out.map backV)), I.laid (t' := s.toks) kp hd ⟨?_, out, n, vals_back h3, hn⟩, rfl, q _ d (SrtO.srtd_map h1) hb (I.hok.fresh hd)⟩
    rw [hb.length_eq]
    exact hz
/-- sorted(xs): ints; pairs of ints -/
def sortedM (m : M) : R M := match m.er with
  | .lst ds => (match intsD ds with
    | some ns => .ok (.lst ((sortI ns).map D.int))
    | none => (match prsD ds with
      | some ps => .ok (.lst ((sortP ps).map prV))
      | none => .stuck))
  | _ => .stuck
theorem cs_sorted : CallS κ (fun xs H Q => rSortedI κ.K xs H Q ∨ rSortZ κ.K xs H Q) (op1 sortedM) := by
  intro c H vs ms k Q al hp e q
  have eh := op1_ok e
  clear e
  obtain ⟨m, rfl, e⟩ := eh
  obtain ⟨v, rfl, l⟩ := paired1 hp
  unfold sortedM at e
  split at e
  · next ds er =>
    obtain ⟨a, ws, rfl, fl, ha⟩ := l.list er
    split at e
    · next ns hns =>
      cases e
      rw [intsD_ok hns fl] at ha
      refine .inl ⟨a, ns, rfl, .inl (.inl ha), fun ns' p hp hs hn => ?_⟩
      rw [sorted_uniq hs (sortI_sorted ns) (hp.trans (sortI_perm ns).symm)]
      exact new_lst al (FzL.ints _) q hn
    · split at e
      · next ps hps =>
        cases e
        have ed := prsD_ok hps
        subst ed
        have hk := fun v hv => pairOf_spec (fl.prs v hv)
        have hmap : ws.map (pairOf κ c H) = ps := pairs_map fl
        refine .inr ⟨a, ws, pairOf κ c H, rfl, .inl (.inl ha), fun x hx => (hk x hx).pr, fun ys p hs hy hn => ?_⟩
        have hys : FzL κ c H ys ((ys.map (pairOf κ c H)).map prV) := FzL.of_pairs fun y hy' => hk y (hy.mem_iff.mp hy')
        have e2 : ys.map (pairOf κ c H) = sortP ps := by
          refine sortP_uniq (List.pairwise_map.mpr hs) (sortP_sorted ps) ?_
          have := hy.map (pairOf κ c H)
          rw [hmap] at this
          exact this.trans (sortP_perm ps).symm
        rw [e2] at hys
        exact new_lst al hys q hn
      · cases e
  · cases e
end
end Z

set_option Elab.async false
set_option linter.all false
set_option maxRecDepth 100000
set_option maxHeartbeats 2000000
namespace Z
open PySem PySem.Spec PyProof.Rows L2
/-! ### a def: its meaning, its promise -/
def outsOf (md : Md) (k : Nat) (e : Env) : Env := (List.range k).map fun i => if md.mu.contains i then (e[i]?).join else none
/-- shared arguments are frozen -/
def shrOk (md : Md) : Nat → List M → Bool
  | _, [] => true
  | i, .fz _ :: r => shrOk md (i + 1) r
  | i, _ :: r => (md.ro.contains i || md.mu.contains i) && shrOk md (i + 1) r
def runF (n : Nat) (md : Md) (g : SemS) (ms : List M) : R (M × Env) :=
  if shrOk md 0 ms = true then (match g (ms.map some ++ List.replicate (n - ms.length) none) with
    | .rt m e => .ok (m, outsOf md ms.length e)
    | .nx e => .ok (.fz .non, outsOf md ms.length e)
    | .exc c ds => .exc c ds
    | _ => .stuck) else .stuck
def spZ (κ : Kx) (md : Md) (k : Nat) (F : List M → R (M × Env)) : Sp := fun vs H Q E => ∃ c ms, vs.length = k ∧ EnvR κ md c H (vs.map some) (ms.map some) ∧ ∃ m outs, F ms = .ok (m, outs) ∧
  ∀ v c' H' P, EnvR κ md c' H' (vs.map some) outs → Upd c H c' H' → NewS c H c' P → Own κ c' H' P v m → Q v H'
theorem outsOf_get {md : Md} {k : Nat} {e : Env} {i : Nat} {m : M} (h : (outsOf md k e)[i]? = some (some m)) : i < k ∧ md.mu.contains i = true ∧ e[i]? = some (some m) := by
  unfold outsOf at h
  rw [List.getElem?_map] at h
  by_cases hi : i < k
  · rw [List.getElem?_range hi] at h
    have h : (if md.mu.contains i then (e[i]?).join else none) = some m := by simpa using h
    split at h
    · next hm =>
      refine ⟨hi, hm, ?_⟩
      cases q : e[i]? with
      | none => rw [q] at h; cases h
      | some o =>
        rw [q] at h
        cases o with
        | none => cases h
        | some x => cases h; rfl
    · cases h
  · rw [List.getElem?_eq_none (by simpa using hi)] at h
    cases h
section
variable {P : Program} {w : World} {κ : Kx} {mg : Str → Option Value} {base : Heap}
theorem start_get {N : List Str} {vs : List V} {i : Nat} (hi : i < vs.length) : (L2.start N vs)[i]? = some (some vs[i]) := by
  unfold L2.start
  rw [List.getElem?_append_left (by simpa using hi), List.getElem?_map, List.getElem?_eq_getElem hi]
  rfl
theorem fn_ok {x qual : Str} {params : Arguments} {body : List Stmt} {scope : Scope} {f : Addr} {fd : FuncData} {N ps : List Str} {k : Nat} {md : Md} {g : SemS}
    (F : FunD κ.K x qual params body scope [] [] f fd) (S : FnScope N ps scope)
    (hbody : ∀ (cdv : Value) (A : Around) (outer : List PySem.Env) (s : Shared) (H : Hp) (E : XK), Room k (A.deeper (envOfC qual scope s.heap.objs.size f cdv)) → SB (cxOf CX0 P w κ.K mg base N qual scope f cdv A outer s H E).nox κ md body g) :
    FnOk P w κ.K mg base CX0 (k + 1) f fd ps (spZ κ md ps.length (runF N.length md g)) := by
  refine F.ok S (fun vs H Q E h => ?_) (fun cdv A outer s H vs Q E hr h => ?_)
  · obtain ⟨c, ms, hl, _⟩ := h
    exact hl
  · obtain ⟨c, ms, hl, R, m, outs, hF, q⟩ := h
    refine ⟨_, PSs.nox (hbody cdv A outer s H E hr), ?_⟩
    have hlm : vs.length = ms.length := by simpa using R.len
    have hps : ps.length ≤ N.length := by
      have := congrArg List.length S.pre
      rw [List.length_take] at this
      omega
    have R0 : EnvR κ md c H (L2.start N vs) (ms.map some ++ List.replicate (N.length - ms.length) none) := by
      refine ⟨R.al, by simp [L2.start, hlm], R.bo, fun i m e => ?_⟩
      by_cases hi : i < ms.length
      · rw [List.getElem?_append_left (by simpa using hi)] at e
        obtain ⟨v, e1, o⟩ := R.sl i m e
        refine ⟨v, ?_, o⟩
        unfold L2.start
        rw [List.getElem?_append_left (by simpa [hlm] using hi)]
        exact e1
      · rw [List.getElem?_append_right (by simpa using hi), List.getElem?_replicate] at e
        split at e <;> cases e
    refine ⟨c, _, R0, ?_⟩
    unfold runF at hF
    split at hF
    · have fin : ∀ {σ' : L2.St} {c' : Colr} {H' : Hp} {e : Env}, EnvR κ md c' H' σ' e → Fix md (L2.start N vs) σ' → EnvR κ md c' H' (vs.map some) (outsOf md ms.length e) := fun {σ' c' H' e} R' fx => by
        refine ⟨R'.al, by simp [outsOf, hlm], R'.bo, fun i m h => ?_⟩
        obtain ⟨hi, hm, he⟩ := outsOf_get h
        obtain ⟨v, e1, o⟩ := R'.sl i m he
        have hiv : i < vs.length := by omega
        rw [fx i hm, start_get hiv] at e1
        cases e1
        refine ⟨_, ?_, o⟩
        rw [List.getElem?_map, List.getElem?_eq_getElem hiv]
        rfl
      cases hg : g (ms.map some ++ List.replicate (N.length - ms.length) none) with
      | rt m' e =>
        rw [hg] at hF
        cases hF
        exact fun v σ' c' H' P R' u fx n o => q v c' H' P (fin R' fx) u n o
      | nx e =>
        rw [hg] at hF
        cases hF
        exact fun σ' c' H' R' u fx => q .non c' H' noP (fin R' fx) u ⟨fun _ _ h => h.elim, fun _ _ _ h => h.elim⟩ (.fz .non)
      | bk e => rw [hg] at hF; cases hF
      | ct e => rw [hg] at hF; cases hF
      | exc _ _ => rw [hg] at hF; cases hF
      | stuck => rw [hg] at hF; cases hF
    · cases hF
end
/-! ### calls of defs that change nothing -/
open Classical in
/-- the callee's colours: what is frozen is; all else is lent -/
noncomputable def lend (c : Colr) (H : Hp) : Colr := fun a => match c a with
  | .fz => .fz
  | _ => if H a = none then .no else .bor
theorem lend_fz {c : Colr} {H : Hp} {a : Addr} (h : c a = .fz) : lend c H a = .fz := by
  unfold lend
  rw [h]
theorem lend_ne {c : Colr} {H : Hp} {a : Addr} (h : c a ≠ .fz) (h2 : H a ≠ none) : lend c H a = .bor := by
  unfold lend
  split
  · next e => exact absurd e h
  · exact if_neg h2
theorem lend_no {c : Colr} {H : Hp} {a : Addr} (h : c a = .no) (h2 : H a = none) : lend c H a = .no := by
  unfold lend
  rw [h]
  exact if_pos h2
theorem lend_own {c : Colr} {H : Hp} {a : Addr} {i : Nat} {p : List Nat} : lend c H a ≠ .own i p := by
  unfold lend
  split
  · intro h; cases h
  · split <;> (intro h; cases h)
theorem lend_lck {c : Colr} {H : Hp} {a : Addr} {i : Nat} {p : List Nat} : lend c H a ≠ .lck i p := by
  unfold lend
  split
  · intro h; cases h
  · split <;> (intro h; cases h)
theorem lend_isfz {c : Colr} {H : Hp} {a : Addr} (h : lend c H a = .fz) : c a = .fz := by
  unfold lend at h
  split at h
  · next e => exact e
  · split at h <;> cases h
theorem shrOk_get {md : Md} : ∀ {ms : List M} {k i : Nat} {m : M}, shrOk md k ms = true → ms[i]? = some m → (∃ d, m = .fz d) ∨ md.ro.contains (k + i) = true ∨ md.mu.contains (k + i) = true
  | [], _, _, _, _, e => by simp at e
  | n :: r, k, 0, m, h, e => by
    simp at e
    subst e
    cases n with
    | fz d => exact .inl ⟨d, rfl⟩
    | _ =>
      right
      have h : ((md.ro.contains k || md.mu.contains k) && shrOk md (k + 1) r) = true := h
      exact Bool.or_eq_true_iff.mp (Bool.and_eq_true_iff.mp h).1
  | n :: r, k, i + 1, m, h, e => by
    have h2 : shrOk md (k + 1) r = true := by
      cases n with
      | fz d => exact h
      | _ => exact (Bool.and_eq_true_iff.mp (show ((md.ro.contains k || md.mu.contains k) && shrOk md (k + 1) r) = true from h)).2
    have := shrOk_get (i := i) h2 (by simpa using e)
    rw [show k + 1 + i = k + (i + 1) by omega] at this
    exact this
section
variable {X : Cx} {κ : Kx} {ro : Md}
theorem Paired.getM {F : V → M → Prop} : ∀ {vs : List V} {ms : List M} {i : Nat} {m : M}, Paired F vs ms → ms[i]? = some m → ∃ v, vs[i]? = some v ∧ F v m
  | _, _, _, _, .nil, e => by simp at e
  | _, _, 0, _, .cons h t, e => by
    simp at e
    subst e
    exact ⟨_, rfl, h⟩
  | _, _, i + 1, m, .cons h t, e => by
    obtain ⟨v, e1, h1⟩ := Paired.getM (i := i) (m := m) t (by simpa using e)
    exact ⟨v, by simpa using e1, h1⟩
theorem lend_env {c : Colr} {H : Hp} {md : Md} {vs : List V} {ms : List M} (al : ∀ a, H a = none → c a = .no) (hk : md.lk = []) (hm : md.mu = []) (h : shrOk md 0 ms = true) (p : Paired (Lent κ c H) vs ms) : EnvR κ md (lend c H) H (vs.map some) (ms.map some) := by
  refine ⟨fun a n => lend_no (al a n) n, by simpa using p.length, fun a i p e => absurd e lend_lck, fun i m e => ?_⟩
  rw [List.getElem?_map] at e
  cases q : ms[i]? with
  | none => rw [q] at e; cases e
  | some n =>
    rw [q] at e
    cases e
    obtain ⟨v, e1, P, hP, o⟩ := Paired.getM p q
    refine ⟨v, by rw [List.getElem?_map, e1]; rfl, ?_⟩
    have st : Stay c H (lend c H) H := fun a ob e f => ⟨e, lend_fz f⟩
    rcases shrOk_get h q with ⟨d, rfl⟩ | z | z
    · cases o with
      | fz o => exact .fz (o.stay st)
    · rw [Nat.zero_add] at z
      refine Own.stay st (fun pt a ob hp ha => ⟨?_, ha⟩) o
      unfold slotP
      rw [z]
      exact lend_ne (hP pt a hp).1 (hP pt a hp).2
    · rw [hm] at z
      simp at z
/-- a call's meaning, by the callee's -/
def fnM (md : Md) (F : List M → R (M × Env)) (ms : List M) : R M := if shrOk md 0 ms = true then (F ms).bind fun r => .ok r.1 else .stuck
theorem sp_of {md : Md} {k : Nat} {F : List M → R (M × Env)} {c : Colr} {H : Hp} {vs : List V} {ms : List M} {m : M} {Q : VK} {E : XK} (al : ∀ a, H a = none → c a = .no) (hk : md.lk = []) (hm : md.mu = []) (hl : vs.length = k)
    (p : Paired (Lent κ c H) vs ms) (e : fnM md F ms = .ok m) (q : pV κ c H m Q) : spZ κ md k F vs H Q E := by
  unfold fnM at e
  split at e
  · next hs =>
    obtain ⟨⟨m', outs⟩, e1, e2⟩ := Z.R.bind_eq e
    cases e2
    refine ⟨lend c H, ms, hl, lend_env al hk hm hs p, m', outs, e1, fun v c' H' P R' u n o => ?_⟩
    have old : ∀ a ob, H a = some ob → H' a = some ob ∧ c' a = lend c H a := fun a ob e => u.keep a ob e fun i p => lend_own
    have nw : ∀ pt a, P pt a → c' a = .no ∧ H a = none := fun pt a h => by
      obtain ⟨h1, h2⟩ := n.fresh pt a h
      refine ⟨h1, h2.resolve_right ?_⟩
      rintro ⟨i, r, z⟩
      exact lend_own z
    let cc : Colr := fun a => match H a with
      | some _ => c a
      | none => (match c' a with | .fz => .fz | _ => .no)
    have cold : ∀ a ob, H a = some ob → cc a = c a := fun a ob e => by
      show (match H a with | some _ => c a | none => _) = c a
      rw [e]
    have cnew : ∀ a, H a = none → cc a = (match c' a with | .fz => .fz | _ => .no) := fun a e => by
      show (match H a with | some _ => c a | none => _) = _
      rw [e]
    have x : Ext c H cc H' := by
      refine ⟨fun a ob e => ⟨(old a ob e).1, cold a ob e⟩, fun a e => ?_, fun a e => ?_⟩
      · rw [cnew a e]
        split
        · exact .inr rfl
        · exact .inl rfl
      · have e0 := u.there a e
        rw [cnew a e0]
        have := u.al a e
        rw [this]
    refine q v cc H' P x ⟨fun pt a h => ⟨(nw pt a h).2, ?_⟩, n.one⟩ (Own.stay (fun a ob e f => ⟨e, ?_⟩) (fun pt a ob h e => ⟨h, e⟩) o)
    · rw [cnew a (nw pt a h).2, (nw pt a h).1]
    · cases e0 : H a with
      | none => rw [cnew a e0, f]
      | some ob' =>
        rw [cold a ob' e0]
        have := (old a ob' e0).2
        rw [f] at this
        exact lend_isfz this.symm
  · cases e
variable {x : Str} {p pos : Pos} {e : Expr} {es : List Expr} {g : Env → R (List M)} {k n : Nat} {f : Addr} {fd : FuncData} {ps : List Str} {md : Md} {F : List M → R (M × Env)}
theorem EnvR.plen {c : Colr} {H : Hp} {σ : L2.St} {env : Env} (R : EnvR κ ro c H σ env) : σ.length = env.length := R.len
theorem v_call (hF : FnOk X.prog X.w X.K X.mg X.base CX0 k f fd ps (spZ κ md n F)) (hr : Room k X.A) (hg : Gl X x) (hm : X.mg x = some (.ref f)) (hk : PySem.W.keepIn X.K (.ref f) = true) (hb : Binds X.K fd ps []) (hlk : md.lk = []) (hmu : md.mu = []) (hn : n = (e :: es).length)
    (ha : AB X κ ro (e :: es) g) (hlen : ∀ env ms, g env = .ok ms → ms.length = n) (hdb : (x == ("__debug__" : Str)) = false := by decide) (he : starEach (e :: es) X.env = (false, eval e X.env) :: starEach es X.env := by rfl) (hpl : (backTo pos (starEach es X.env)).any (·.1) = false := by rfl) :
    VE X κ ro (.Call (.Name x p) (e :: es) [] pos) (fCall (fnM md F) g) :=
  PE.imp (pe_call hF hr hg hm hk hb .nil pass0 ha hdb he hpl) fun σ H Q q => by
    obtain ⟨c, env, R, m, e, q⟩ := q
    obtain ⟨ms, e1, e⟩ := Z.R.bind_eq e
    refine ⟨c, env, R, ms, e1, fun vs c1 H1 x1 o1 => ?_⟩
    show spZ κ md n F (vs ++ []) H1 Q E0
    rw [List.append_nil]
    exact sp_of x1.al hlk hmu (by rw [o1.length]; exact hlen env ms e1) o1 e (q.ext x1)
theorem v_call0 (hF : FnOk X.prog X.w X.K X.mg X.base CX0 k f fd ps (spZ κ md 0 F)) (hr : Room k X.A) (hg : Gl X x) (hm : X.mg x = some (.ref f)) (hk : PySem.W.keepIn X.K (.ref f) = true) (hb : Binds X.K fd ps []) (hlk : md.lk = []) (hmu : md.mu = [])
    (hdb : (x == ("__debug__" : Str)) = false := by decide) : VE X κ ro (.Call (.Name x p) [] [] pos) (fCall (fnM md F) fNil) :=
  PE.imp (pe_call0 hF hr hg hm hk hb .nil pass0 hdb) fun σ H Q q => by
    obtain ⟨c, env, R, m, e, q⟩ := q
    obtain ⟨ms, e1, e⟩ := Z.R.bind_eq e
    cases e1
    show spZ κ md 0 F ([] ++ []) H Q E0
    exact sp_of R.al hlk hmu rfl .nil e q
/-! ### x += e, ints -/
def gAug (i : Nat) (op : M → M → R M) (f : SemE) : SemS := fun env => obind (fBin op (fVar i) f env) fun m => if i < env.length then .nx (env.set i (some m)) else .stuck
theorem s_augI {i : Nat} {x : Str} {e : Expr} {f : SemE} {op : Operator} {h : Int → Int → Int} {pos pos' : Pos} (hop : PIp X op (ipI h)) (hN : X.N.Nodup) (hx : X.N[i]? = some x) (hl : Loc X.env.scope x) (hi : ro.contains i = false) (hm : ro.mu.contains i = false) (he : BE X κ ro e f)
    (hf : X.fn x = true ∨ X.env.scope.names.lookup x = some .local := by first | exact .inl rfl | exact .inr rfl | assumption) : SS X κ ro (.AugAssign (.Name x pos') op e pos) (gAug i (intOp yes fun a b => .int (h a b)) f) :=
  PS.imp (ps_aug hN hx hl he hop hf) fun D σ H ⟨c, env, R, q⟩ => by
    unfold gAug obind at q
    cases em : fBin (intOp yes fun a b => .int (h a b)) (fVar i) f env with
    | exc _ _ => rw [em] at q; exact q.elim
    | stuck => rw [em] at q; exact q.elim
    | ok m =>
      rw [em] at q
      have q : pO κ ro c H σ (if i < env.length then .nx (env.set i (some m)) else .stuck) D := q
      by_cases hlt : i < env.length
      · rw [if_pos hlt] at q
        obtain ⟨m1, e1, em⟩ := Z.R.bind_eq em
        obtain ⟨m2, e2, em⟩ := Z.R.bind_eq em
        obtain ⟨a, b, ea, eb, _, rfl⟩ := intOp_ok em
        obtain ⟨v, hv, o⟩ := R.sl i m1 (fVar_ok e1)
        have lv : Lent κ c H v m1 := o.lent fun p a => slotP_fz
        refine ⟨v, hv, c, env, R, m2, e2, fun y c1 H1 x1 o1 => ⟨a, b, lv.int ea, o1.int eb, ?_⟩⟩
        exact set_done R hi hlt x1 New.no (.fz (.int _)) q hm
      · rw [if_neg hlt] at q
        exact q.elim
theorem s_augAdd {i : Nat} {x : Str} {e : Expr} {f : SemE} {pos pos' : Pos} (hN : X.N.Nodup) (hx : X.N[i]? = some x) (hl : Loc X.env.scope x) (hi : ro.contains i = false) (hm : ro.mu.contains i = false) (he : BE X κ ro e f)
    (hf : X.fn x = true ∨ X.env.scope.names.lookup x = some .local := by first | exact .inl rfl | exact .inr rfl | assumption) : SS X κ ro (.AugAssign (.Name x pos') .Add e pos) (gAug i (intOp yes fun a b => .int (a + b)) f) := s_augI ip_add hN hx hl hi hm he hf
theorem s_augSub {i : Nat} {x : Str} {e : Expr} {f : SemE} {pos pos' : Pos} (hN : X.N.Nodup) (hx : X.N[i]? = some x) (hl : Loc X.env.scope x) (hi : ro.contains i = false) (hm : ro.mu.contains i = false) (he : BE X κ ro e f)
    (hf : X.fn x = true ∨ X.env.scope.names.lookup x = some .local := by first | exact .inl rfl | exact .inr rfl | assumption) : SS X κ ro (.AugAssign (.Name x pos') .Sub e pos) (gAug i (intOp yes fun a b => .int (a - b)) f) := s_augI ip_sub hN hx hl hi hm he hf
/-! ### name, name = a tuple -/
def gAsg (b : SemG) (f : SemE) : SemS := fun env => obind (f env) fun m => match b m.er env with
  | .ok e => .nx e
  | .exc c ds => .exc c ds
  | .stuck => .stuck
theorem s_asg {tg e : Expr} {f : SemE} {b : SemG} {pos : Pos} (he : FE X κ ro e f) (hg : GB X κ ro tg b) (hs : swapsWithSole [tg] e pos.line X.env = pure false := by rfl) (hw : swappedStores [tg] e X.env = pure none := by rfl)
    (h1 : (assignEach [tg] X.env).map (·.2) = [assign tg X.env] := by rfl) : SS X κ ro (.Assign [tg] e pos) (gAsg b f) :=
  PS.imp (ps_asg he hg hs hw h1) fun D σ H ⟨c, env, R, q⟩ => by
    unfold gAsg obind at q
    cases em : f env with
    | exc _ _ => rw [em] at q; exact q.elim
    | stuck => rw [em] at q; exact q.elim
    | ok m =>
      simp only [em] at q
      cases eb : b m.er env with
      | exc _ _ => rw [eb] at q; exact q.elim
      | stuck => rw [eb] at q; exact q.elim
      | ok env' =>
        rw [eb] at q
        refine ⟨c, env, R, m, em, fun v c1 H1 x1 hv => ⟨c1, env, m.er, R.ext x1, hv, env', eb, fun σ' c' H' R' u f => ?_⟩⟩
        exact q σ' c' H' R' ((x1.upd R.al).trans u) f
/-! ### isinstance of a built-in type -/
inductive Ty where
  | non | bool | int | str | tuple | list | dict
def Ty.s : Ty → String
  | .non => "NoneType"
  | .bool => "bool"
  | .int => "int"
  | .str => "str"
  | .tuple => "tuple"
  | .list => "list"
  | .dict => "dict"
def subTy : Ty → Ty → Bool
  | .non, .non => true
  | .bool, .bool => true
  | .bool, .int => true
  | .int, .int => true
  | .str, .str => true
  | .tuple, .tuple => true
  | .list, .list => true
  | .dict, .dict => true
  | _, _ => false
theorem kit_sub : ∀ t u : Ty, kitB t.s u.s = some (subTy t u) := by
  intro t u
  cases t <;> cases u <;> decide +kernel
def D.ty : D → Option Ty
  | .non => some .non
  | .bl _ => some .bool
  | .int _ => some .int
  | .str _ => some .str
  | .tup _ => some .tuple
  | .ktp _ => some .tuple
  | .lst _ => some .list
  | .scr _ => some .list
  | .dct _ => some .dict
  | .ins _ _ => none
def isTM (T : Ty) (m : M) : R M := match m.er.ty with
  | some t => .ok (.fz (.bl (subTy t T)))
  | none => .stuck
theorem SqL.tyX {K : PySem.W.Frag} {H : Hp} {a : Addr} {vs : List V} (h : SqL K H a vs) : TyX K H (.ref a) (.type "list") := by
  rcases h with (h | ⟨o, h⟩) | ⟨o, its, n, h, hc, _⟩
  · exact .base (.lst h)
  · exact .base (.frz h)
  · exact .kList h hc
theorem SqT.tyX {K : PySem.W.Frag} {H : Hp} {a : Addr} {vs : List V} (h : SqT K H a vs) : TyX K H (.ref a) (.type "tuple") := by
  rcases h with (h | ⟨o, h⟩) | ⟨o, its, n, h, hc, _⟩
  · exact .base (.tup h)
  · exact .fTuple h
  · exact .kTuple h hc
theorem Fz.tyX {c : Colr} {H : Hp} {v : V} {d : D} {t : Ty} (h : Fz κ c H v d) (e : d.ty = some t) : TyX κ.K H v (.type t.s) := by
  cases h with
  | non => cases e; exact .base .non
  | bl b => cases e; exact .base (.bl b)
  | int b => cases e; exact .base (.int b)
  | str b => cases e; exact .base (.str b)
  | tup s l => cases e; exact SqT.tyX s.sq
  | ktp s l => cases e; exact SqT.tyX (SqT.nil0 s H)
  | lst f s l => cases e; exact .base (.lst s)
  | scr s => cases e; exact SqL.tyX s.sq
  | dct f s l => cases e; exact .base (.dK s)
  | ins => cases e
theorem Lent.tyX {c : Colr} {H : Hp} {v : V} {m : M} {t : Ty} (h : Lent κ c H v m) (e : m.er.ty = some t) : TyX κ.K H v (.type t.s) := by
  obtain ⟨P, hp, o⟩ := h
  cases o with
  | fz o => exact o.tyX e
  | lst p s l => cases e; exact .base (.lst s)
  | dct p s l => cases e; exact .base (.dK s)
  | ins => cases e
theorem v_isinst (A : At X κ) (T : Ty) {T' : Str} {p1 p2 : Pos} {a : Expr} {h : SemE} (hg : Gl X "isinstance") (hm : X.mg "isinstance" = none) (hgT : Gl X T') (hmT : X.mg T' = none) (hT : bootBuiltins T' = some (.type T.s)) (ha : BE X κ ro a h)
    (hn : T' ≠ "__name__" := by decide) (hd : (T' == ("__debug__" : Str)) = false := by decide)
    (he : starEach [a, .Name T' p2] X.env = (false, eval a X.env) :: starEach [.Name T' p2] X.env := by rfl) (hpl : (backTo pos (starEach [.Name T' p2] X.env)).any (·.1) = false := by rfl) :
    VE X κ ro (.Call (.Name "isinstance" p1) [a, .Name T' p2] [] pos) (fUn (isTM T) h) :=
  PE.imp (pe_callB call_isi hg hm (by decide +kernel) (pa_cons ha (pa_cons (pe_bltn (v := .ty T.s) hgT hmT hT rfl hn hd) pa_nil) he) (by decide) (by decide) he hpl) fun σ H Q ⟨c, env, R, m, e, q⟩ => by
    obtain ⟨m1, e1, e⟩ := Z.R.bind_eq e
    unfold isTM at e
    split at e
    · next t ht =>
      cases e
      refine ⟨c, env, R, m1, e1, fun v c1 H1 x1 o1 => ?_⟩
      exact ⟨v, .ty T.s, .type t.s, .type T.s, subTy t T, rfl, .ty _, by rw [A.K]; exact o1.tyX ht, kit_ty (kit_sub t T), q _ c1 H1 noP x1 New.no (.fz (.bl _))⟩
    · cases e
/-- a constant of the module -/
theorem v_globI {x : Str} {i : Int} {t : Tok} {pos : Pos} (hg : Gl X x) (hm : X.mg x = some (.int i t)) (hd : (x == ("__debug__" : Str)) = false := by decide) : VE X κ ro (.Name x pos) (fC (.int i)) :=
  PE.imp (pe_glob (v := .int i) hg hm ⟨t, rfl⟩ hd) fun σ H Q ⟨c, env, R, m, e, q⟩ => by
    cases e
    exact fz_here R (.int i) q
/-- a tuple of ints of the module -/
theorem v_globT (A : At X κ) {x : Str} {a : Addr} {ns : List Int} {pos : Pos} (hg : Gl X x) (hm : X.mg x = some (.ref a)) (hs : SqT κ.K nil0 a (ns.map V.int)) (hd : (x == ("__debug__" : Str)) = false := by decide) : VE X κ ro (.Name x pos) (fC (.ktp (ns.map D.int))) :=
  PE.imp (pe_glob (v := .ref a) hg hm rfl hd) fun σ H Q ⟨c, env, R, m, e, q⟩ => by
    cases e
    exact fz_here R (.ktp hs (FzL.ints ns)) q
/-! ### comprehensions -/
def wipeE (e : Env) : List Nat → Env
  | [] => e
  | v :: vs => (wipeE e vs).set v none
def gC (κ : Kx) (ro : Md) (b : SemG) (vs : List Nat) : TG := fun v σ H Q => ∃ c env d, EnvR κ ro c H σ env ∧ Fz κ c H v d ∧ ∃ env', b d env = .ok env' ∧ ∀ σ', EnvR κ ro c H σ' env' → wipe σ' vs = wipe σ vs → Q σ' H
abbrev GC (X : Cx) (κ : Kx) (ro : Md) (tg : Expr) (b : SemG) (vs : List Nat) : Prop := PG X tg (gC κ ro b vs)
theorem wipe_set {σ : L2.St} {i : Nat} {v : Option V} : ∀ {vs : List Nat}, i ∈ vs → wipe (σ.set i v) vs = wipe σ vs
  | [], h => by cases h
  | j :: vs, h => by
    show (wipe (σ.set i v) vs).set j none = (wipe σ vs).set j none
    by_cases e : i = j
    · subst e
      by_cases h2 : i ∈ vs
      · rw [wipe_set h2]
      · have : wipe (σ.set i v) vs = (wipe σ vs).set i v := by
          clear h
          induction vs with
          | nil => rfl
          | cons k vs ih =>
            have hk : i ≠ k := fun e => h2 (e ▸ List.mem_cons_self)
            show (wipe (σ.set i v) vs).set k none = ((wipe σ vs).set k none).set i v
            rw [ih (fun z => h2 (List.mem_cons_of_mem _ z)), List.set_comm _ _ hk]
        rw [this, List.set_set]
    · rw [wipe_set (List.mem_of_ne_of_mem e h)]
theorem wipe_wipe {σ : L2.St} (vs : List Nat) : wipe (wipe σ vs) vs = wipe σ vs := by
  have key : ∀ us : List Nat, (∀ u ∈ us, u ∈ vs) → wipe (wipe σ us) vs = wipe σ vs := by
    intro us
    induction us with
    | nil => intro _; rfl
    | cons u us ih =>
      intro h
      show wipe ((wipe σ us).set u none) vs = _
      rw [wipe_set (h u List.mem_cons_self)]
      exact ih fun v hv => h v (List.mem_cons_of_mem _ hv)
  exact key vs fun _ h => h
theorem EnvR.setfz {c : Colr} {H : Hp} {σ : L2.St} {env : Env} {i : Nat} {d : D} {v : V} (R : EnvR κ ro c H σ env) (hl : i < env.length) (h : Fz κ c H v d) : EnvR κ ro c H (σ.set i (some v)) (env.set i (some (.fz d))) := by
  refine ⟨R.al, by simpa using R.len, R.bo, fun j m e => ?_⟩
  by_cases hj : j = i
  · subst hj
    rw [List.getElem?_set_self hl] at e
    cases e
    exact ⟨v, by rw [List.getElem?_set_self (by rw [R.len]; exact hl)], .fz h⟩
  · rw [List.getElem?_set_ne (Ne.symm hj)] at e
    obtain ⟨w, e1, o⟩ := R.sl j m e
    exact ⟨w, by rw [List.getElem?_set_ne (Ne.symm hj)]; exact e1, o⟩
theorem gc_name {i : Nat} {x : Str} {pos : Pos} {vs : List Nat} (hN : X.N.Nodup) (hx : X.N[i]? = some x) (hl : Loc X.env.scope x) (hv : i ∈ vs)
    (hf : X.fn x = true ∨ X.env.scope.names.lookup x = some .local := by first | exact .inl rfl | exact .inr rfl | assumption) : GC X κ ro (.Name x pos) (bName i) vs := by
  refine PG.imp (pg_name hN hx hl hf) fun v σ H Q ⟨c, env, d, R, h, env', e, q⟩ => ?_
  unfold bName at e
  split at e
  · next hl =>
    cases e
    exact q _ (R.setfz hl h) (wipe_set hv)
  · cases e
def gCs (κ : Kx) (ro : Md) (bs : List SemG) (vs : List Nat) : TGs := fun ws σ H Q => ∃ c env ds, EnvR κ ro c H σ env ∧ FzL κ c H ws ds ∧ ∃ env', bTupL bs ds env = .ok env' ∧ ∀ σ', EnvR κ ro c H σ' env' → wipe σ' vs = wipe σ vs → Q σ' H
abbrev GCs (X : Cx) (κ : Kx) (ro : Md) (tg : List Expr) (b : List SemG) (vs : List Nat) : Prop := PGs X tg (gCs κ ro b vs)
theorem gc_nil {vs : List Nat} : GCs X κ ro [] [] vs := PGs.imp pgs_nil fun ws σ H Q ⟨c, env, ds, R, l, env', e, q⟩ => by
  cases l with
  | nil =>
    cases e
    exact ⟨rfl, q σ R rfl⟩
  | cons => cases e
theorem gc_cons {e : Expr} {es : List Expr} {b : SemG} {bs : List SemG} {vs : List Nat} (h1 : GC X κ ro e b vs) (h2 : GCs X κ ro es bs vs)
    (hs : (assignEach (e :: es) X.env).map (·.2) = assign e X.env :: (assignEach es X.env).map (·.2) := by rfl) : GCs X κ ro (e :: es) (b :: bs) vs :=
  PGs.imp (pgs_cons h1 h2 hs) fun ws σ H Q ⟨c, env, ds, R, l, env', e, q⟩ => by
    cases l with
    | nil => cases e
    | cons hv l =>
      obtain ⟨e1, h1, e⟩ := Z.R.bind_eq e
      exact ⟨_, _, rfl, c, env, _, R, hv, e1, h1, fun σ' R' w => ⟨c, e1, _, R', l, env', e, fun σ2 R2 w2 => q σ2 R2 (w2.trans w)⟩⟩
theorem gc_tup (A : At X κ) {es : List Expr} {k : Nat} {bs : List SemG} {n : Nat} {pos : Pos} {vs : List Nat} (hc : X.calm = true) (h : GCs X κ ro es bs vs) (hl : bs.length = n)
    (hn : (assignEach es X.env).length = n := by rfl) (hst : (assignEach es X.env).findIdx? (·.1) = none := by rfl) : GC X κ ro (.Tuple es k pos) (bTup bs) vs :=
  PG.imp (pg_tup hc h hn hst) fun v σ H Q ⟨c, env, d, R, hd, env', e, q⟩ => by
    unfold bTup at e
    split at e
    · next ds =>
      split at e
      · next hlen =>
        cases hd with
        | tup s l => exact ⟨_, _, rfl, by rw [A.K]; exact s.sq, by rw [l.length, hlen, hl], c, env, ds, R, l, env', e, q⟩
      · cases e
    · cases e
/-- as Iterates, while nothing is changed -/
def IterX (κ : Kx) (c0 : Colr) (H0 : Hp) (J : It) (ds : List D) : Prop := ∀ c H, Ext c0 H0 c H → ∀ i,
  (∀ d, ds[i]? = some d → J.go i H ∧ ∀ x H', J.yld i H x H' → ∃ c', Ext c H c' H' ∧ Fz κ c' H' x d) ∧ (i = ds.length → J.stop i H)
def tIX (κ : Kx) (ro : Md) (f : Env → R (List D)) : TI := fun σ H R => ∃ c env, EnvR κ ro c H σ env ∧ ∃ ds, f env = .ok ds ∧ ∀ c' H' J, Ext c H c' H' → IterX κ c' H' J ds → R J H'
abbrev IX (X : Cx) (κ : Kx) (ro : Md) (tg iter : Expr) (f : Env → R (List D)) : Prop := PI X tg iter (tIX κ ro f)
theorem ix_of {tg iter : Expr} {f : Env → R (List D)} (h : IB X κ ro tg iter f) : IX X κ ro tg iter f := ⟨fun pins s σ H R I q => by
  obtain ⟨c, env, Re, ds, e, q⟩ := q
  exact h.run pins s σ H R I ⟨c, env, Re, ds, e, fun c' H' J x it => q c' H' J x fun c2 H2 x2 => it c2 H2 (x2.upd x.al)⟩⟩
theorem iterX_list {c0 : Colr} {H0 : Hp} {a : Addr} {vs : List V} {ds : List D} (l : FzL κ c0 H0 vs ds) (k : ∀ c' H', Ext c0 H0 c' H' → SqL κ.K H' a vs) : IterX κ c0 H0 (Itl κ.K a) ds := by
  intro c H u i
  have s := k c H u
  have l' := l.stay u.stay
  refine ⟨fun d e => ?_, fun e => ?_⟩
  · obtain ⟨v, e1, h⟩ := l'.get e
    refine ⟨⟨vs, v, s, e1⟩, fun x H' y => ?_⟩
    obtain ⟨eh, y⟩ := y
    subst eh
    refine ⟨c, Ext.refl u.al, ?_⟩
    have e2 := y vs s
    rw [e1] at e2
    cases e2
    exact h
  · exact ⟨vs, s, by rw [l.length, e]; exact Nat.le_refl _⟩
theorem iterX_tup {c0 : Colr} {H0 : Hp} {a : Addr} {vs : List V} {ds : List D} (l : FzL κ c0 H0 vs ds) (k : ∀ c' H', Ext c0 H0 c' H' → SqT κ.K H' a vs) : IterX κ c0 H0 (Itt κ.K a) ds := by
  intro c H u i
  have s := k c H u
  have l' := l.stay u.stay
  refine ⟨fun d e => ?_, fun e => ?_⟩
  · obtain ⟨v, e1, h⟩ := l'.get e
    refine ⟨⟨vs, v, s, e1⟩, fun x H' y => ?_⟩
    obtain ⟨eh, y⟩ := y
    subst eh
    refine ⟨c, Ext.refl u.al, ?_⟩
    have e2 := y vs s
    rw [e1] at e2
    cases e2
    exact h
  · exact ⟨vs, s, by rw [l.length, e]; exact Nat.le_refl _⟩
theorem ix_list' (A : At X κ) {tg e : Expr} {f : SemE} (h : BE X κ ro e f) : IX X κ ro tg e (fList f) := by
  refine ⟨fun pins s σ H R I q => ?_⟩
  obtain ⟨c, env, Re, ds, e1, q⟩ := q
  obtain ⟨m, em, el⟩ := Z.R.bind_eq e1
  rcases listOf_ok el with er | er | ⟨ns, er, rfl⟩ | er
  · refine (pi_list h).run pins s σ H R I ⟨c, env, Re, m, em, fun v c' H' x o => ?_⟩
    obtain ⟨a, vs, ev, l, s1⟩ := o.list er
    refine ⟨a, ev, ⟨vs, .inl (.inl s1)⟩, ?_⟩
    rw [A.K]
    exact q c' H' _ x (iterX_list l fun c2 H2 u => .inl (.inl (u.old _ _ s1).1))
  · refine (pi_tup h).run pins s σ H R I ⟨c, env, Re, m, em, fun v c' H' x o => ?_⟩
    obtain ⟨a, vs, ev, l, s1⟩ := o.tup er
    refine ⟨a, ev, ⟨vs, by rw [A.K]; exact s1.sq⟩, ?_⟩
    rw [A.K]
    exact q c' H' _ x (iterX_tup l fun c2 H2 u => (s1.stay u.stay).sq)
  · refine (pi_list h).run pins s σ H R I ⟨c, env, Re, m, em, fun v c' H' x o => ?_⟩
    obtain ⟨a, ev, s1⟩ := o.scr er
    refine ⟨a, ev, ⟨_, by rw [A.K]; exact s1.sq⟩, ?_⟩
    rw [A.K]
    exact q c' H' _ x (iterX_list (FzL.ints ns) fun c2 H2 u => (s1.stay u.stay).sq)
  · refine (pi_tup h).run pins s σ H R I ⟨c, env, Re, m, em, fun v c' H' x o => ?_⟩
    obtain ⟨a, vs, ev, l, s1⟩ := o.ktp er
    refine ⟨a, ev, ⟨vs, by rw [A.K]; exact SqT.nil0 s1 _⟩, ?_⟩
    rw [A.K]
    exact q c' H' _ x (iterX_tup l fun c2 H2 u => SqT.nil0 s1 _)
def lcLoop (b : SemG) (t : SemT) (f : SemE) (env : Env) : List D → R (List D)
  | [] => .ok []
  | d :: ds => (b d env).bind fun e => (t e).bind fun k => if k = true then (f e).bind fun m => (lcLoop b t f env ds).bind fun r => .ok (m.er :: r) else lcLoop b t f env ds
def fComp (it : Env → R (List D)) (b : SemG) (t : SemT) (f : SemE) (vs : List Nat) : SemE := fun env => (it env).bind fun ds => guard (decide (ds.length ≤ sizeLine)) ((lcLoop b t f (wipeE env vs) ds).bind fun r => .ok (.lst r))
def tYesM : SemT := fun _ => .ok true
abbrev TBs (X : Cx) (κ : Kx) (ro : Md) (e : List Expr) (f : SemT) : Prop := PTs X e (tT κ ro f)
theorem tb_nil : TBs X κ ro [] tYesM := ⟨fun pins s σ H Q I q => pts_nil.run pins s σ H Q I (by
  obtain ⟨c, env, R, b, e, q⟩ := q
  cases e
  exact q c H (Ext.refl R.al))⟩
theorem tb_one {e : Expr} {f : SemT} (h : TB X κ ro e f) : TBs X κ ro [e] f := pts_one h
theorem EnvR.wipe {c : Colr} {H : Hp} {σ : L2.St} {env : Env} (R : EnvR κ ro c H σ env) : ∀ vs : List Nat, EnvR κ ro c H (L2.wipe σ vs) (wipeE env vs)
  | [] => R
  | v :: vs => by
    have R' := EnvR.wipe R vs
    refine ⟨R'.al, by show ((L2.wipe σ vs).set v none).length = ((wipeE env vs).set v none).length; simpa using R'.len, R'.bo, fun j m e => ?_⟩
    have e : ((wipeE env vs).set v none)[j]? = some (some m) := e
    show ∃ w, ((L2.wipe σ vs).set v none)[j]? = some (some w) ∧ _
    by_cases hj : j = v
    · subst hj
      rw [List.getElem?_set] at e
      by_cases hl : j < (wipeE env vs).length
      · rw [if_pos rfl, if_pos hl] at e; cases e
      · rw [if_pos rfl, if_neg hl] at e; cases e
    · rw [List.getElem?_set_ne (Ne.symm hj)] at e ⊢
      exact R'.sl j m e
theorem lc_of {it : Env → R (List D)} {b : SemG} {t : SemT} {f : SemE} {vs : List Nat} {σ : L2.St} {H : Hp} {Q : VK} (q : tV κ ro (fComp it b t f vs) σ H Q) : tLc (tIX κ ro it) (gC κ ro b vs) (tT κ ro t) (tF κ ro f) vs σ H Q := by
  obtain ⟨c, env, R, m, e, q⟩ := q
  obtain ⟨ds, e1, e⟩ := Z.R.bind_eq e
  obtain ⟨hz, e⟩ := guard_ok e
  obtain ⟨out, e2, e⟩ := Z.R.bind_eq e
  cases e
  have hz := of_decide_eq_true hz
  refine ⟨c, env, R, ds, e1, fun c1 H1 J x1 itr => fun Dn hD => ?_⟩
  have al1 := x1.al
  refine ⟨fun i m H' => m = ds.length - i ∧ i ≤ ds.length ∧ ∃ c' acc accD r, EnvR κ ro c' H' (L2.wipe σ vs) (wipeE env vs) ∧ Ext c1 H1 c' H' ∧ H' Dn = some (.lst acc) ∧ c' Dn = .no ∧ FzL κ c' H' acc accD ∧ accD.length ≤ i ∧ lcLoop b t f (wipeE env vs) (ds.drop i) = .ok r ∧ accD ++ r = out,
    ⟨ds.length, by simp, Nat.zero_le _, c1, [], [], out, ?_, ext_new al1 hD, upd_same, al1 Dn hD, .nil, Nat.le_refl _, by simpa using e2, rfl⟩, ?_⟩
  · exact ((R.ext x1).wipe vs).ext (ext_new al1 hD)
  · rintro i m H' ⟨rfl, hi, c', acc, accD, r, R', x', hacc, hno, l, hlen, hr, ho⟩
    obtain ⟨turn, stop⟩ := itr c' H' x' i
    by_cases hlt : i < ds.length
    · have hd : ds[i]? = some ds[i] := List.getElem?_eq_getElem hlt
      obtain ⟨go, yld⟩ := turn _ hd
      rw [List.drop_eq_getElem_cons hlt] at hr
      refine .inr ⟨go, fun H' => ∃ c' acc accD r, EnvR κ ro c' H' (L2.wipe σ vs) (wipeE env vs) ∧ Ext c1 H1 c' H' ∧ H' Dn = some (.lst acc) ∧ c' Dn = .no ∧ FzL κ c' H' acc accD ∧ accD.length ≤ i + 1 ∧ lcLoop b t f (wipeE env vs) (ds.drop (i + 1)) = .ok r ∧ accD ++ r = out, fun H'' p => ⟨ds.length - (i + 1), by omega, rfl, hlt, p⟩, fun x H3 y => ?_⟩
      obtain ⟨c3, x3, hx⟩ := yld x H3 y
      unfold lcLoop at hr
      obtain ⟨env3, hb, hr⟩ := Z.R.bind_eq hr
      obtain ⟨k, hk, hr⟩ := Z.R.bind_eq hr
      refine ⟨c3, _, _, R'.ext x3, hx, env3, hb, fun σ4 R4 w4 => ⟨w4.trans (wipe_wipe vs), c3, env3, R4, k, hk, fun c5 H5 x5 => ?_⟩⟩
      have x35 := x3.trans x5
      have l5 := l.stay x35.stay
      have hacc5 := (x35.old Dn _ hacc).1
      have hno5 : c5 Dn = .no := (x35.old Dn _ hacc).2.trans hno
      cases k with
      | false =>
        rw [if_neg Bool.false_ne_true] at hr
        refine L2.iteF ?_
        exact ⟨c5, acc, accD, r, R'.ext x35, x'.trans x35, hacc5, hno5, l5, Nat.le_succ_of_le hlen, hr, ho⟩
      | true =>
        rw [if_pos rfl] at hr
        refine L2.iteT ?_
        obtain ⟨mm, hm, hr⟩ := Z.R.bind_eq hr
        obtain ⟨r', hr', hr⟩ := Z.R.bind_eq hr
        cases hr
        refine ⟨c5, env3, R4.ext x5, mm, hm, fun y c6 H6 x6 hy => ?_⟩
        have x36 := x35.trans x6
        have l6 := l5.stay x6.stay
        have hacc6 := (x6.old Dn _ hacc5).1
        have hno6 : c6 Dn = .no := (x6.old Dn _ hacc5).2.trans hno5
        have nf : c6 Dn ≠ .fz := by rw [hno6]; intro z; cases z
        have hup : ∀ a ob, a ≠ Dn → H6 a = some ob → L2.upd H6 Dn (.lst (acc ++ [y])) a = some ob := fun a ob ne e => by rw [upd_ne ne]; exact e
        refine ⟨acc, hacc6, by rw [l6.length]; omega, c6, acc ++ [y], accD ++ [mm.er], r', ?_, ?_, upd_same, hno6, (l6.app (.cons hy .nil)).upd nf, by simp; omega, hr', by rw [List.append_assoc]; exact ho⟩
        · have R6 := R'.ext x36
          refine ⟨fun a n => ?_, R6.len, R6.bo, fun j mj e => ?_⟩
          · by_cases ea : a = Dn
            · rw [ea, upd_same] at n; cases n
            · rw [upd_ne ea] at n; exact R6.al a n
          · obtain ⟨w, e1, o⟩ := R6.sl j mj e
            refine ⟨w, e1, Own.stay (fun a ob e f => ⟨hup a ob (by rintro rfl; exact nf f) e, f⟩) (fun p a ob h e => ⟨h, hup a ob ?_ e⟩) o⟩
            rintro rfl
            unfold slotP at h
            rw [hno6] at h
            split at h
            · cases h
            · split at h <;> cases h
        · have x16 := x'.trans x36
          refine ⟨fun a ob e => ?_, fun a n => ?_, fun a n => ?_⟩
          · have ne : a ≠ Dn := ne_of_none e hD
            rw [upd_ne ne]
            exact x16.old a ob e
          · exact x16.new a n
          · by_cases ea : a = Dn
            · rw [ea, upd_same] at n; cases n
            · rw [upd_ne ea] at n; exact x16.al a n
    · have e : i = ds.length := by omega
      subst e
      rw [List.drop_length] at hr
      cases hr
      rw [List.append_nil] at ho
      subst ho
      refine .inl ⟨stop rfl, q (.ref Dn) c' H' (fun pt a => pt = [] ∧ a = Dn) (x1.trans x') ⟨fun pt a e => ⟨by rw [e.2]; exact x1.nn hD, by rw [e.2]; exact hno⟩, fun x y a e f => e.1.trans f.1.symm⟩ (.lst ⟨rfl, rfl⟩ hacc l)⟩
theorem v_lc {elt tg iter : Expr} {ifs : List Expr} {scope : Scope} {own : List (Str × Nat)} {pos : Pos} {it : Env → R (List D)} {b : SemG} {t : SemT} {f : SemE} (hc : X.calm = true) (hN : X.N.Nodup) (hi : IX X κ ro tg iter it) (ok : BlkOk X.N X.env.scope scope own)
    (hg : ∀ (s : Shared) (H : Hp) (C : Addr) (cl : List (Str × Addr)) (fp : List Addr), GC (X.blk s H scope (compEnvC scope cl C X.env) fp) κ ro tg b (own.map (·.2))) (ht : ∀ (s : Shared) (H : Hp) (C : Addr) (cl : List (Str × Addr)) (fp : List Addr), TBs (X.blk s H scope (compEnvC scope cl C X.env) fp) κ ro ifs t)
    (he : ∀ (s : Shared) (H : Hp) (C : Addr) (cl : List (Str × Addr)) (fp : List Addr), FE (X.blk s H scope (compEnvC scope cl C X.env) fp) κ ro elt f) (hs : ∀ x, foldedSetIterable iter X.env x = pure x := by intro _; rfl) :
    VE X κ ro (.ListComp elt [⟨tg, iter, ifs, 0⟩] scope pos) (fComp it b t f (own.map (·.2))) := PE.imp (pe_lc hc hN hi ok hg ht he hs) fun _ _ _ q => lc_of q
/-- x = [..] -/
theorem s_setLc {i : Nat} {y : Str} {py : Pos} {elt tg iter : Expr} {ifs : List Expr} {scope : Scope} {own : List (Str × Nat)} {pos spos : Pos} {it : Env → R (List D)} {b : SemG} {t : SemT} {f : SemE} (hc : X.calm = true) (hN : X.N.Nodup) (hy : X.N[i]? = some y) (hyl : X.env.scope.names.lookup y = some .local) (hi' : ro.contains i = false) (hm : ro.mu.contains i = false)
    (hsw : swapsWith (.ListComp elt [⟨tg, iter, ifs, 0⟩] scope pos) (some (.Name y py)) spos.line X.env = pure true) (hi : IX X κ ro tg iter it) (ok : BlkOk X.N X.env.scope scope own)
    (hg : ∀ (s : Shared) (H : Hp) (C : Addr) (cl : List (Str × Addr)) (fp : List Addr), GC (X.blk s H scope (compEnvC scope cl C X.env) fp) κ ro tg b (own.map (·.2))) (ht : ∀ (s : Shared) (H : Hp) (C : Addr) (cl : List (Str × Addr)) (fp : List Addr), TBs (X.blk s H scope (compEnvC scope cl C X.env) fp) κ ro ifs t)
    (he : ∀ (s : Shared) (H : Hp) (C : Addr) (cl : List (Str × Addr)) (fp : List Addr), FE (X.blk s H scope (compEnvC scope cl C X.env) fp) κ ro elt f) (hs : ∀ x, foldedSetIterable iter X.env x = pure x := by intro _; rfl) :
    SS X κ ro (.Assign [.Name y py] (.ListComp elt [⟨tg, iter, ifs, 0⟩] scope pos) spos) (gSet i (fComp it b t f (own.map (·.2)))) :=
  PS.imp (ps_setLc hc hN hy hyl hsw hi ok hg ht he hs) fun D σ H ⟨c, env, R, q⟩ => by
    unfold gSet obind at q
    cases em : fComp it b t f (own.map (·.2)) env with
    | exc _ _ => rw [em] at q; exact q.elim
    | stuck => rw [em] at q; exact q.elim
    | ok m =>
      rw [em] at q
      have q : pO κ ro c H σ (if i < env.length then .nx (env.set i (some m)) else .stuck) D := q
      by_cases h : i < env.length
      · rw [if_pos h] at q
        refine lc_of ⟨c, env, R, m, em, fun v c' H' P x n o => ?_⟩
        exact set_done R hi' h x n o q hm
      · rw [if_neg h] at q
        exact q.elim
end
end Z

set_option Elab.async false
set_option linter.all false
set_option maxRecDepth 100000
set_option maxHeartbeats 2000000
namespace Z
open PySem PySem.Spec PyProof.Rows L2
section
variable {X : Cx} {κ : Kx} {ro : Md}
/-! ### short words -/
theorem bv (i : Nat) {x : Str} {pos : Pos} (hN : X.N[i]? = some x := by rfl) (hv : Vis X.env.scope x := by first | exact Or.inl rfl | exact Or.inr (Or.inl rfl) | exact Or.inr (Or.inr rfl))
    (hd : (x == ("__debug__" : Str)) = false := by decide) (hcd : (x == ("__classdict__" : Str)) = false := by decide) : BE X κ ro (.Name x pos) (fVar i) := b_var hN hv hd hcd
theorem uv (i : Nat) {x : Str} {pos : Pos} (hN : X.N[i]? = some x := by rfl) (hv : Vis X.env.scope x := by first | exact Or.inl rfl | exact Or.inr (Or.inl rfl) | exact Or.inr (Or.inr rfl))
    (hd : (x == ("__debug__" : Str)) = false := by decide) (hcd : (x == ("__classdict__" : Str)) = false := by decide) : VE X κ ro (.Name x pos) (fUse i) := v_var hN hv hd hcd
theorem qv (i : Nat) {x : Str} {pos : Pos} (hi : ro.contains i = true := by rfl) (hN : X.N[i]? = some x := by rfl) (hv : Vis X.env.scope x := by first | exact Or.inl rfl | exact Or.inr (Or.inl rfl) | exact Or.inr (Or.inr rfl))
    (hd : (x == ("__debug__" : Str)) = false := by decide) (hcd : (x == ("__classdict__" : Str)) = false := by decide) : QE X κ ro (.Name x pos) (fVar i) := q_var hN hv hi hd hcd
variable {a b : Expr} {f g : SemE} {p pos : Pos}
theorem v_len (A : At X κ) (hm : X.mg "len" = none) (ha : BE X κ ro a f) (hg : Gl X "len" := by rfl) (he : starEach [a] X.env = (false, eval a X.env) :: starEach [] X.env := by rfl) (hpl : (backTo pos (starEach [] X.env)).any (·.1) = false := by rfl) :
    VE X κ ro (.Call (.Name "len" p) [a] [] pos) (fCall (op1 lenM) (fCons f fNil)) := v_callB call_len (by rw [A.K]; exact cs_len) hg hm PySem.boot_len (a_cons ha a_nil he) (by decide) (by decide) he hpl
theorem v_abs (hm : X.mg "abs" = none) (ha : BE X κ ro a f) (hg : Gl X "abs" := by rfl) (he : starEach [a] X.env = (false, eval a X.env) :: starEach [] X.env := by rfl) (hpl : (backTo pos (starEach [] X.env)).any (·.1) = false := by rfl) :
    VE X κ ro (.Call (.Name "abs" p) [a] [] pos) (fCall (op1 absM) (fCons f fNil)) := v_callB call_abs cs_abs hg hm (by decide +kernel) (a_cons ha a_nil he) (by decide) (by decide) he hpl
theorem v_sum (A : At X κ) (hm : X.mg "sum" = none) (hc : X.calm = true) (ha : BE X κ ro a f) (hg : Gl X "sum" := by rfl) (he : starEach [a] X.env = (false, eval a X.env) :: starEach [] X.env := by rfl) (hpl : (backTo pos (starEach [] X.env)).any (·.1) = false := by rfl) :
    VE X κ ro (.Call (.Name "sum" p) [a] [] pos) (fCall (op1 sumM) (fCons f fNil)) := v_callB (cr_sum hc) (by rw [A.K]; exact cs_sum) hg hm (by decide +kernel) (a_cons ha a_nil he) (by decide) (by decide) he hpl
theorem v_sorted (A : At X κ) (hm : X.mg "sorted" = none) (ha : BE X κ ro a f) (hg : Gl X "sorted" := by rfl) (he : starEach [a] X.env = (false, eval a X.env) :: starEach [] X.env := by rfl) (hpl : (backTo pos (starEach [] X.env)).any (·.1) = false := by rfl) :
    VE X κ ro (.Call (.Name "sorted" p) [a] [] pos) (fCall (op1 sortedM) (fCons f fNil)) := v_callB (CallR.or cr_sortedI cr_sortZ) (by rw [A.K]; exact cs_sorted) hg hm (by decide +kernel) (a_cons ha a_nil he) (by decide) (by decide) he hpl
theorem v_intc (hm : X.mg "int" = none) (ha : BE X κ ro a f) (hg : Gl X "int" := by rfl) (he : starEach [a] X.env = (false, eval a X.env) :: starEach [] X.env := by rfl) (hpl : (backTo pos (starEach [] X.env)).any (·.1) = false := by rfl) :
    VE X κ ro (.Call (.Name "int" p) [a] [] pos) (fCall (op1 int1M) (fCons f fNil)) := v_callTy call_int1 cs_int1 hg hm (by decide +kernel) (a_cons ha a_nil he) (by decide) (by decide) he hpl
theorem v_strI (hm : X.mg "str" = none) (ha : BE X κ ro a f) (hg : Gl X "str" := by rfl) (he : starEach [a] X.env = (false, eval a X.env) :: starEach [] X.env := by rfl) (hpl : (backTo pos (starEach [] X.env)).any (·.1) = false := by rfl) :
    VE X κ ro (.Call (.Name "str" p) [a] [] pos) (fCall (op1 str1M) (fCons f fNil)) := v_callTy call_str_int cs_str hg hm (by decide +kernel) (a_cons ha a_nil he) (by decide) (by decide) he hpl
theorem v_list (A : At X κ) (hm : X.mg "list" = none) (ha : BE X κ ro a f) (hg : Gl X "list" := by rfl) (he : starEach [a] X.env = (false, eval a X.env) :: starEach [] X.env := by rfl) (hpl : (backTo pos (starEach [] X.env)).any (·.1) = false := by rfl) :
    VE X κ ro (.Call (.Name "list" p) [a] [] pos) (fCall (op1 list1M) (fCons f fNil)) := v_callTy call_list_of (by rw [A.K]; exact cs_list) hg hm (by decide +kernel) (a_cons ha a_nil he) (by decide) (by decide) he hpl
theorem v_min2 (hm : X.mg "min" = none) (hc : X.calm = true) (ha : BE X κ ro a f) (hb : BE X κ ro b g) (hg : Gl X "min" := by rfl) (he : starEach [a, b] X.env = (false, eval a X.env) :: starEach [b] X.env := by rfl) (he2 : starEach [b] X.env = (false, eval b X.env) :: starEach [] X.env := by rfl) (hpl : (backTo pos (starEach [b] X.env)).any (·.1) = false := by rfl) :
    VE X κ ro (.Call (.Name "min" p) [a, b] [] pos) (fCall (op2 min2M) (fCons f (fCons g fNil))) := v_callB (call_min2 hc) cs_min2 hg hm (by decide +kernel) (a_cons ha (a_cons hb a_nil he2) he) (by decide) (by decide) he hpl
theorem v_max2 (hm : X.mg "max" = none) (hc : X.calm = true) (ha : BE X κ ro a f) (hb : BE X κ ro b g) (hg : Gl X "max" := by rfl) (he : starEach [a, b] X.env = (false, eval a X.env) :: starEach [b] X.env := by rfl) (he2 : starEach [b] X.env = (false, eval b X.env) :: starEach [] X.env := by rfl) (hpl : (backTo pos (starEach [b] X.env)).any (·.1) = false := by rfl) :
    VE X κ ro (.Call (.Name "max" p) [a, b] [] pos) (fCall (op2 max2M) (fCons f (fCons g fNil))) := v_callB (call_max2 hc) cs_max2 hg hm (by decide +kernel) (a_cons ha (a_cons hb a_nil he2) he) (by decide) (by decide) he hpl
theorem fCons_len {f : SemE} {g : Env → R (List M)} {n : Nat} (h : ∀ env ms, g env = .ok ms → ms.length = n) : ∀ env ms, fCons f g env = .ok ms → ms.length = n + 1 := fun env ms e => by
  obtain ⟨m, e1, e⟩ := Z.R.bind_eq e
  obtain ⟨r, e2, e⟩ := Z.R.bind_eq e
  cases e
  exact congrArg (· + 1) (h env r e2)
theorem fNil_len : ∀ (env : Env) ms, fNil env = .ok ms → ms.length = 0 := fun env ms e => by cases e; rfl
/-! ### in -/
/-- a flat value -/
def D.flat : D → Option V
  | .non => some .non
  | .bl b => some (.bl b)
  | .int i => some (.int i)
  | .str s => some (.str s)
  | _ => none
def flatL : List D → Option (List V)
  | [] => some []
  | d :: r => d.flat.bind fun v => (flatL r).map (v :: ·)
theorem Fz.flat {c : Colr} {H : Hp} {v w : V} {d : D} (h : Fz κ c H v d) (e : d.flat = some w) : v = w ∧ flatV v = true := by
  cases h <;> first | (cases e; exact ⟨rfl, rfl⟩) | cases e
theorem FzL.flat {c : Colr} {H : Hp} : ∀ {vs ws : List V} {ds : List D}, FzL κ c H vs ds → flatL ds = some ws → vs = ws ∧ vs.all flatV = true
  | [], ws, [], .nil, e => by cases e; exact ⟨rfl, rfl⟩
  | v :: vs, ws, d :: ds, .cons h l, e => by
    have e : (d.flat.bind fun v => (flatL ds).map (v :: ·)) = some ws := e
    cases h1 : d.flat with
    | none => rw [h1] at e; cases e
    | some w =>
      rw [h1] at e
      have e : (flatL ds).map (w :: ·) = some ws := e
      cases h2 : flatL ds with
      | none => rw [h2] at e; cases e
      | some us =>
        rw [h2] at e
        cases e
        obtain ⟨e1, e2⟩ := h.flat h1
        obtain ⟨e3, e4⟩ := l.flat h2
        subst e1 e3
        exact ⟨rfl, by rw [List.all_cons, e2, e4]; rfl⟩
def inM (neg : Bool) (x y : M) : R M := match y.er with
  | .dct kvs => (keyOf x).bind fun k => .ok (.fz (.bl (if neg then !(valD kvs k).isSome else (valD kvs k).isSome)))
  | .lst ds => (match x.er.flat, flatL ds with
    | some v, some vs => .ok (.fz (.bl (if neg then !inV v vs else inV v vs)))
    | _, _ => .stuck)
  | .tup ds => (match x.er.flat, flatL ds with
    | some v, some vs => .ok (.fz (.bl (if neg then !inV v vs else inV v vs)))
    | _, _ => .stuck)
  | _ => .stuck
theorem Lent.flat {c : Colr} {H : Hp} {v w : V} {m : M} (h : Lent κ c H v m) (e : m.er.flat = some w) : v = w ∧ flatV v = true := by
  obtain ⟨P, hp, o⟩ := h
  cases o with
  | fz o => exact o.flat e
  | lst => cases e
  | dct => cases e
  | ins => cases e
theorem ops_inD {neg : Bool} {c : Colr} {H : Hp} {x y : V} {m n k : M} {kvs : List (Key × D)} {Q : VK} (al : ∀ a, H a = none → c a = .no) (lx : Lent κ c H x m) (ly : Lent κ c H y n) (er : n.er = .dct kvs) (e : inM neg m n = .ok k) (q : pV κ c H k Q) :
    ∃ a o, y = .ref a ∧ DGet H a x o ∧ Q (.bl (if neg then !o.isSome else o.isSome)) H := by
  unfold inM at e
  rw [er] at e
  obtain ⟨kk, ek, e⟩ := Z.R.bind_eq e
  cases e
  obtain ⟨a, vs, rfl, l, ha⟩ := ly.dct er
  refine ⟨a, valV vs kk, rfl, by rw [lx.key ek]; exact DGet.k ha, ?_⟩
  have : (valV vs kk).isSome = (valD kvs kk).isSome := by
    obtain ⟨h1, h2⟩ := l.val (k := kk)
    cases h : valD kvs kk with
    | none => rw [h1 h]; rfl
    | some d =>
      obtain ⟨v, hv, _⟩ := h2 d h
      rw [hv]; rfl
  rw [this]
  exact q_fz al (.bl _) q
theorem ops_inS {neg : Bool} {c : Colr} {H : Hp} {x y : V} {m n k : M} {Q : VK} (al : ∀ a, H a = none → c a = .no) (lx : Lent κ c H x m) (ly : Lent κ c H y n) (nd : ∀ kvs, n.er ≠ .dct kvs) (e : inM neg m n = .ok k) (q : pV κ c H k Q) :
    rIn κ.K neg x y H Q := by
  unfold inM at e
  split at e
  · next kvs er => exact absurd er (nd kvs)
  · next ds er =>
    split at e
    · next v vs hv hvs =>
      cases e
      obtain ⟨a, ws, rfl, l, ha⟩ := ly.list er
      obtain ⟨e1, e2⟩ := lx.flat hv
      obtain ⟨e3, e4⟩ := l.flat hvs
      subst e1 e3
      exact ⟨a, ws, rfl, .inl (.inl (.inl ha)), e2, e4, q_fz al (.bl _) q⟩
    · cases e
  · next ds er =>
    split at e
    · next v vs hv hvs =>
      cases e
      obtain ⟨a, ws, rfl, l, ha⟩ := ly.tup er
      obtain ⟨e1, e2⟩ := lx.flat hv
      obtain ⟨e3, e4⟩ := l.flat hvs
      subst e1 e3
      exact ⟨a, ws, rfl, .inr ha.sq, e2, e4, q_fz al (.bl _) q⟩
    · cases e
  · cases e
theorem PT.or {e : Expr} {t u : TT} (h : PT X e t) (k : PT X e u) : PT X e (fun σ H Q => t σ H Q ∨ u σ H Q) := ⟨fun pins s σ H Q I q => q.elim (h.run pins s σ H Q I) (k.run pins s σ H Q I)⟩
theorem in_of {σ : L2.St} {H : Hp} {Q : VK} (q : tV κ ro (fBin (inM false) f g) σ H Q) : tOp (rIn κ.K false) (tB κ ro f) (tB κ ro g) σ H Q ∨ tDIn (tB κ ro f) (tB κ ro g) σ H Q := by
  obtain ⟨c, env, R, m, e, q⟩ := q
  obtain ⟨m1, e1, e⟩ := Z.R.bind_eq e
  obtain ⟨m2, e2, e⟩ := Z.R.bind_eq e
  by_cases hd : ∃ kvs, m2.er = .dct kvs
  · obtain ⟨kvs, hd⟩ := hd
    exact .inr ⟨c, env, R, m1, e1, fun x c1 H1 x1 o1 => ⟨c1, env, R.ext x1, m2, e2, fun y c2 H2 x2 o2 => ops_inD x2.al (o1.ext x2) o2 hd e (q.ext (x1.trans x2))⟩⟩
  · exact .inl ⟨c, env, R, m1, e1, fun x c1 H1 x1 o1 => ⟨c1, env, R.ext x1, m2, e2, fun y c2 H2 x2 o2 => ops_inS x2.al (o1.ext x2) o2 (fun kvs h => hd ⟨kvs, h⟩) e (q.ext (x1.trans x2))⟩⟩
theorem notin_of {σ : L2.St} {H : Hp} {Q : VK} (q : tV κ ro (fBin (inM true) f g) σ H Q) : tOp (rIn κ.K true) (tB κ ro f) (tB κ ro g) σ H Q ∨ tDNotIn (tB κ ro f) (tB κ ro g) σ H Q := by
  obtain ⟨c, env, R, m, e, q⟩ := q
  obtain ⟨m1, e1, e⟩ := Z.R.bind_eq e
  obtain ⟨m2, e2, e⟩ := Z.R.bind_eq e
  by_cases hd : ∃ kvs, m2.er = .dct kvs
  · obtain ⟨kvs, hd⟩ := hd
    exact .inr ⟨c, env, R, m1, e1, fun x c1 H1 x1 o1 => ⟨c1, env, R.ext x1, m2, e2, fun y c2 H2 x2 o2 => ops_inD x2.al (o1.ext x2) o2 hd e (q.ext (x1.trans x2))⟩⟩
  · exact .inl ⟨c, env, R, m1, e1, fun x c1 H1 x1 o1 => ⟨c1, env, R.ext x1, m2, e2, fun y c2 H2 x2 o2 => ops_inS x2.al (o1.ext x2) o2 (fun kvs h => hd ⟨kvs, h⟩) e (q.ext (x1.trans x2))⟩⟩
theorem v_in (A : At X κ) (hu : X.A.units + 1 < cLine) (ha : BE X κ ro a f) (hb : BE X κ ro b g) (hm : behindInMarks .In b = false := by rfl) : VE X κ ro (.Compare a [.In] [b] pos) (fBin (inM false) f g) :=
  PE.imp (PE.or (pe_cmpR op_in_seq ha hb hm) (pe_cmp (pc_din hu ha hb) hm)) fun σ H Q q => by
    rw [A.K]
    exact in_of q
theorem v_notin (A : At X κ) (hu : X.A.units + 1 < cLine) (ha : BE X κ ro a f) (hb : BE X κ ro b g) (hm : behindInMarks .NotIn b = false := by rfl) : VE X κ ro (.Compare a [.NotIn] [b] pos) (fBin (inM true) f g) :=
  PE.imp (PE.or (pe_cmpR op_notIn_seq ha hb hm) (pe_cmp (pc_dnotin hu ha hb) hm)) fun σ H Q q => by
    rw [A.K]
    exact notin_of q
theorem test_of {f : SemE} {σ : L2.St} {H : Hp} {Q : Bool → Hp → Prop} (q : tT κ ro (fTest f) σ H Q) : tV κ ro f σ H fun x H' => ∃ k, x = .bl k ∧ Q k H' := by
  obtain ⟨c, env, R, b, e, q⟩ := q
  obtain ⟨m, e1, e2⟩ := Z.R.bind_eq e
  have em := blM_ok e2
  subst em
  exact ⟨c, env, R, _, e1, fun v c' H' P x _ o => ⟨b, o.bl, q c' H' x⟩⟩
theorem t_in (A : At X κ) (hu : X.A.units + 1 < cLine) (ha : BE X κ ro a f) (hb : BE X κ ro b g) (hm : behindInMarks .In b = false := by rfl) : TB X κ ro (.Compare a [.In] [b] pos) (fTest (fBin (inM false) f g)) :=
  PT.imp (PT.or (pt_cmpR op_in_seq ha hb hm) (pt_cmp (pc_din hu ha hb) hm)) fun σ H Q q => by
    rw [A.K]
    exact in_of (test_of q)
theorem t_notin (A : At X κ) (hu : X.A.units + 1 < cLine) (ha : BE X κ ro a f) (hb : BE X κ ro b g) (hm : behindInMarks .NotIn b = false := by rfl) : TB X κ ro (.Compare a [.NotIn] [b] pos) (fTest (fBin (inM true) f g)) :=
  PT.imp (PT.or (pt_cmpR op_notIn_seq ha hb hm) (pt_cmp (pc_dnotin hu ha hb) hm)) fun σ H Q q => by
    rw [A.K]
    exact notin_of (test_of q)
end
/-! ### a def as it is known to its callers; the end -/
structure GF (P : Program) (w : World) (κ : Kx) (mg : Str → Option Value) (base : Heap) (x : Str) (k : Nat) (n : Nat) (md : Md) (F : List M → R (M × Env)) : Prop where
  ex : ∃ (f : Addr) (fd : FuncData) (ps : List Str), FnOk P w κ.K mg base CX0 k f fd ps (spZ κ md n F) ∧ mg x = some (.ref f) ∧ PySem.W.keepIn κ.K (.ref f) = true ∧ Binds κ.K fd ps []
section
variable {X : Cx} {κ : Kx} {ro : Md} {k n : Nat} {md : Md} {F : List M → R (M × Env)} {x : Str} {e : Expr} {es : List Expr} {g : Env → R (List M)} {p pos : Pos}
theorem v_fn (G : GF X.prog X.w κ X.mg X.base x k n md F) (A : At X κ) (hr : Room k X.A) (ha : AB X κ ro (e :: es) g) (hlen : ∀ env ms, g env = .ok ms → ms.length = n) (hlk : md.lk = [] := by rfl) (hmu : md.mu = [] := by rfl) (hn : n = (e :: es).length := by rfl) (hg : Gl X x := by rfl)
    (hdb : (x == ("__debug__" : Str)) = false := by decide) (he : starEach (e :: es) X.env = (false, eval e X.env) :: starEach es X.env := by rfl) (hpl : (backTo pos (starEach es X.env)).any (·.1) = false := by rfl) :
    VE X κ ro (.Call (.Name x p) (e :: es) [] pos) (fCall (fnM md F) g) := by
  obtain ⟨f, fd, ps, h1, h2, h3, h4⟩ := G.ex
  rw [← A.K] at h1 h3 h4
  exact v_call h1 hr hg h2 h3 h4 hlk hmu hn ha hlen hdb he hpl
theorem v_fn0 (G : GF X.prog X.w κ X.mg X.base x k 0 md F) (A : At X κ) (hr : Room k X.A) (hlk : md.lk = [] := by rfl) (hmu : md.mu = [] := by rfl) (hg : Gl X x := by rfl) (hdb : (x == ("__debug__" : Str)) = false := by decide) :
    VE X κ ro (.Call (.Name x p) [] [] pos) (fCall (fnM md F) fNil) := by
  obtain ⟨f, fd, ps, h1, h2, h3, h4⟩ := G.ex
  rw [← A.K] at h1 h3 h4
  exact v_call0 h1 hr hg h2 h3 h4 hlk hmu hdb
end
/-- the law: what its meaning is for every script -/
theorem law_end {F : List M → R (M × Env)} {κ : Kx} {H : Hp} {a : Addr} {ns : List Int} (hO : Only H) (hS : SqL κ.K H a (ns.map V.int)) (h : ∃ outs, F [.fz (.scr ns)] = .ok (.fz (.bl true), outs)) : spZ κ ⟨[0], [], []⟩ 1 F [.ref a] H (fun v _ => v = .bl true) fun _ _ _ => False := by
  obtain ⟨outs, e⟩ := h
  let c : Colr := fun b => match H b with | none => .no | some _ => .fz
  have cn : ∀ b, H b = none → c b = .no := fun b n => by
    show (match H b with | none => Col.no | some _ => .fz) = _
    rw [n]
  have cs : ∀ b o, H b = some o → c b = .fz := fun b o n => by
    show (match H b with | none => Col.no | some _ => .fz) = _
    rw [n]
  have hc : SqLc κ c H a (ns.map V.int) := by
    rcases hS with (h | ⟨o, h⟩) | h
    · exact .inl ⟨cs a _ h, .inl h⟩
    · exact .inl ⟨cs a _ h, .inr ⟨o, h⟩⟩
    · exact .inr (.inr h)
  refine ⟨c, [.fz (.scr ns)], rfl, ⟨cn, rfl, fun b i p e => ?_, fun i m e => ?_⟩, _, outs, e, fun v c' H' P R u n o => o.bl⟩
  · cases q : H b with
    | none => rw [cn b q] at e; cases e
    | some o => rw [cs b o q] at e; cases e
  · cases i with
    | zero => cases e; exact ⟨_, rfl, .fz (.scr hc)⟩
    | succ i => simp at e
end Z

set_option Elab.async false
set_option linter.all false
set_option maxRecDepth 100000
set_option maxHeartbeats 4000000
namespace Lw
open PySem PySem.Spec PyProof.Rows L2 Z
def top (i : Nat) : Stmt := PySem.Challenge.pw_loanroll_k14_months_between.main.body.getD i (.Pass ⟨0, 0, 0, 0⟩)
def WF : Nat := 1000000
abbrev st_is_leap : Stmt := top 3
abbrev N_is_leap : List Str := ["year"]
def g_is_leap : SemS := gRet (fAndV (fBin eqM (fBin modM (fVar 0) (fC (.int 4))) (fC (.int 0))) (fOrV (fBin neM (fBin modM (fVar 0) (fC (.int 100))) (fC (.int 0))) (fBin eqM (fBin modM (fVar 0) (fC (.int 400))) (fC (.int 0)))))
def F_is_leap : List M → R (M × Z.Env) := runF 1 ⟨[0], [], []⟩ g_is_leap
theorem sc_is_leap : FnScope N_is_leap ["year"] (defScope st_is_leap) := ⟨rfl, rfl, rfl, by decide +kernel, rfl, by decide +kernel, by decide +kernel⟩
abbrev st_month_days : Stmt := top 4
abbrev N_month_days : List Str := ["year", "month"]
def g_month_days : SemS := gSeq (gIf (fAnd (fTest (fBin eqM (fVar 1) (fC (.int 2)))) (fTest (fCall (fnM ⟨[0], [], []⟩ F_is_leap) (fCons (fVar 0) fNil)))) (gRet (fC (.int 29))) gNext) (gRet (fBin ixM (fC (.ktp (([31, 28, 31, 30, 31, 30, 31, 31, 30, 31, 30, 31] : List Int).map D.int))) (fBin subM (fVar 1) (fC (.int 1)))))
def F_month_days : List M → R (M × Z.Env) := runF 2 ⟨[0, 1], [], []⟩ g_month_days
theorem sc_month_days : FnScope N_month_days ["year", "month"] (defScope st_month_days) := ⟨rfl, rfl, rfl, by decide +kernel, rfl, by decide +kernel, by decide +kernel⟩
abbrev st_leap_years : Stmt := top 5
abbrev N_leap_years : List Str := ["year"]
def g_leap_years : SemS := gRet (fBin addM (fBin subM (fBin fdivM (fVar 0) (fC (.int 4))) (fBin fdivM (fVar 0) (fC (.int 100)))) (fBin fdivM (fVar 0) (fC (.int 400))))
def F_leap_years : List M → R (M × Z.Env) := runF 1 ⟨[0], [], []⟩ g_leap_years
theorem sc_leap_years : FnScope N_leap_years ["year"] (defScope st_leap_years) := ⟨rfl, rfl, rfl, by decide +kernel, rfl, by decide +kernel, by decide +kernel⟩
abbrev st_year_begins : Stmt := top 6
abbrev N_year_begins : List Str := ["year"]
def g_year_begins : SemS := gRet (fBin subM (fBin addM (fBin mulM (fC (.int 365)) (fBin subM (fVar 0) (fC (.int 2000)))) (fCall (fnM ⟨[0], [], []⟩ F_leap_years) (fCons (fBin subM (fVar 0) (fC (.int 1))) fNil))) (fCall (fnM ⟨[0], [], []⟩ F_leap_years) (fCons (fBin subM (fC (.int 2000)) (fC (.int 1))) fNil)))
def F_year_begins : List M → R (M × Z.Env) := runF 1 ⟨[0], [], []⟩ g_year_begins
theorem sc_year_begins : FnScope N_year_begins ["year"] (defScope st_year_begins) := ⟨rfl, rfl, rfl, by decide +kernel, rfl, by decide +kernel, by decide +kernel⟩
abbrev st_number_of : Stmt := top 7
abbrev N_number_of : List Str := ["year", "month", "day", "ahead", "one"]
def g_number_of : SemS := gSeq (gSet 3 (fCall (op1 sumM) (fCons (fComp (fRange2 (fC (.int 1)) (fVar 1)) (bName 4) tYesM (fCall (fnM ⟨[0, 1], [], []⟩ F_month_days) (fCons (fVar 0) (fCons (fVar 4) fNil))) [4]) fNil))) (gRet (fBin subM (fBin addM (fBin addM (fCall (fnM ⟨[0], [], []⟩ F_year_begins) (fCons (fVar 0) fNil)) (fVar 3)) (fVar 2)) (fC (.int 1))))
def F_number_of : List M → R (M × Z.Env) := runF 5 ⟨[0, 1, 2], [], []⟩ g_number_of
theorem sc_number_of : FnScope N_number_of ["year", "month", "day"] (defScope st_number_of) := ⟨rfl, rfl, rfl, by decide +kernel, rfl, by decide +kernel, by decide +kernel⟩
abbrev st_year_of : Stmt := top 8
abbrev N_year_of : List Str := ["day", "year"]
def lt_year_of_0 : SemT := fTest (fBin leM (fCall (fnM ⟨[0], [], []⟩ F_year_begins) (fCons (fBin addM (fVar 1) (fC (.int 1))) fNil)) (fVar 0))
theorem lt_year_of_0_ap (env : Z.Env) : lt_year_of_0 env = (fTest (fBin leM (fCall (fnM ⟨[0], [], []⟩ F_year_begins) (fCons (fBin addM (fVar 1) (fC (.int 1))) fNil)) (fVar 0)) : SemT) env := rfl
def lb_year_of_0 : SemS := gAug 1 (intOp yes fun a b => .int (a + b)) (fC (.int 1))
theorem lb_year_of_0_ap (env : Z.Env) : lb_year_of_0 env = (gAug 1 (intOp yes fun a b => .int (a + b)) (fC (.int 1)) : SemS) env := rfl
def g_year_of : SemS := gSeq (gSet 1 (fBin addM (fC (.int 2000)) (fBin fdivM (fVar 0) (fC (.int 366))))) (gSeq (gWhile lt_year_of_0 lb_year_of_0 WF) (gRet (fUse 1)))
def F_year_of : List M → R (M × Z.Env) := runF 2 ⟨[0], [], []⟩ g_year_of
theorem sc_year_of : FnScope N_year_of ["day"] (defScope st_year_of) := ⟨rfl, rfl, rfl, by decide +kernel, rfl, by decide +kernel, by decide +kernel⟩
abbrev st_date_of : Stmt := top 9
abbrev N_date_of : List Str := ["day", "year", "rest", "month"]
def lt_date_of_0 : SemT := fTest (fBin geM (fVar 2) (fCall (fnM ⟨[0, 1], [], []⟩ F_month_days) (fCons (fVar 1) (fCons (fVar 3) fNil))))
theorem lt_date_of_0_ap (env : Z.Env) : lt_date_of_0 env = (fTest (fBin geM (fVar 2) (fCall (fnM ⟨[0, 1], [], []⟩ F_month_days) (fCons (fVar 1) (fCons (fVar 3) fNil)))) : SemT) env := rfl
def lb_date_of_0 : SemS := gSeq (gAug 2 (intOp yes fun a b => .int (a - b)) (fCall (fnM ⟨[0, 1], [], []⟩ F_month_days) (fCons (fVar 1) (fCons (fVar 3) fNil)))) (gAug 3 (intOp yes fun a b => .int (a + b)) (fC (.int 1)))
theorem lb_date_of_0_ap (env : Z.Env) : lb_date_of_0 env = (gSeq (gAug 2 (intOp yes fun a b => .int (a - b)) (fCall (fnM ⟨[0, 1], [], []⟩ F_month_days) (fCons (fVar 1) (fCons (fVar 3) fNil)))) (gAug 3 (intOp yes fun a b => .int (a + b)) (fC (.int 1))) : SemS) env := rfl
def g_date_of : SemS := gSeq (gSet 1 (fCall (fnM ⟨[0], [], []⟩ F_year_of) (fCons (fVar 0) fNil))) (gSeq (gSet 2 (fBin subM (fVar 0) (fCall (fnM ⟨[0], [], []⟩ F_year_begins) (fCons (fVar 1) fNil)))) (gSeq (gSet 3 (fC (.int 1))) (gSeq (gWhile lt_date_of_0 lb_date_of_0 WF) (gRet (fTup [fUse 1, fUse 3, fBin addM (fVar 2) (fC (.int 1))])))))
def F_date_of : List M → R (M × Z.Env) := runF 4 ⟨[0], [], []⟩ g_date_of
theorem sc_date_of : FnScope N_date_of ["day"] (defScope st_date_of) := ⟨rfl, rfl, rfl, by decide +kernel, rfl, by decide +kernel, by decide +kernel⟩
abbrev st_months_on : Stmt := top 11
abbrev N_months_on : List Str := ["day", "many", "year", "month", "date", "past", "least"]
def g_months_on : SemS := gSeq (gAsg (bTup [bName 2, bName 3, bName 4]) (fCall (fnM ⟨[0], [], []⟩ F_date_of) (fCons (fVar 0) fNil))) (gSeq (gSet 5 (fBin addM (fBin subM (fBin addM (fBin mulM (fC (.int 12)) (fVar 2)) (fVar 3)) (fC (.int 1))) (fVar 1))) (gSeq (gSet 6 (fCall (op2 min2M) (fCons (fVar 4) (fCons (fCall (fnM ⟨[0, 1], [], []⟩ F_month_days) (fCons (fBin fdivM (fVar 5) (fC (.int 12))) (fCons (fBin addM (fBin modM (fVar 5) (fC (.int 12))) (fC (.int 1))) fNil))) fNil)))) (gRet (fCall (fnM ⟨[0, 1, 2], [], []⟩ F_number_of) (fCons (fBin fdivM (fVar 5) (fC (.int 12))) (fCons (fBin addM (fBin modM (fVar 5) (fC (.int 12))) (fC (.int 1))) (fCons (fVar 6) fNil)))))))
def F_months_on : List M → R (M × Z.Env) := runF 7 ⟨[0, 1], [], []⟩ g_months_on
theorem sc_months_on : FnScope N_months_on ["day", "many"] (defScope st_months_on) := ⟨rfl, rfl, rfl, by decide +kernel, rfl, by decide +kernel, by decide +kernel⟩
abbrev st_months_between : Stmt := top 12
abbrev N_months_between : List Str := ["one", "other", "year", "month", "date", "there", "goal", "last", "many"]
def g_months_between : SemS := gSeq (gAsg (bTup [bName 2, bName 3, bName 4]) (fCall (fnM ⟨[0], [], []⟩ F_date_of) (fCons (fVar 0) fNil))) (gSeq (gAsg (bTup [bName 5, bName 6, bName 7]) (fCall (fnM ⟨[0], [], []⟩ F_date_of) (fCons (fVar 1) fNil))) (gSeq (gSet 8 (fBin subM (fBin addM (fBin mulM (fC (.int 12)) (fBin subM (fVar 5) (fVar 2))) (fVar 6)) (fVar 3))) (gSeq (gIf (fTest (fBin gtM (fCall (fnM ⟨[0, 1], [], []⟩ F_months_on) (fCons (fVar 0) (fCons (fVar 8) fNil))) (fVar 1))) (gRet (fBin subM (fVar 8) (fC (.int 1)))) gNext) (gRet (fUse 8)))))
def F_months_between : List M → R (M × Z.Env) := runF 9 ⟨[0, 1], [], []⟩ g_months_between
theorem sc_months_between : FnScope N_months_between ["one", "other"] (defScope st_months_between) := ⟨rfl, rfl, rfl, by decide +kernel, rfl, by decide +kernel, by decide +kernel⟩
abbrev st__law_draw : Stmt := top 14
abbrev N__law_draw : List Str := ["_law_script", "_law_k", "_law_many", "_law_cell", "_law_one", "_law_other_here"]
def g__law_draw : SemS := gSeq (gSet 3 (fC (.int 6))) (gSeq (gIf (fTest (fBin gtM (fCall (op1 lenM) (fCons (fVar 0) fNil)) (fC (.int 0)))) (gSet 3 (fBin ixM (fVar 0) (fBin modM (fVar 1) (fCall (op1 lenM) (fCons (fVar 0) fNil))))) gNext) (gSeq (gIf (fAnd (fTest (fBin gtM (fVar 3) (fBin powM (fC (.int 10)) (fC (.int 18))))) (fAnd (fTest (fBin eqM (fBin modM (fVar 3) (fC (.int 2))) (fC (.int 1)))) (fTest (fBin ltM (fVar 1) (fCall (op1 lenM) (fCons (fVar 0) fNil)))))) (gRet (fBin modM (fBin fdivM (fVar 3) (fC (.int 2))) (fVar 2))) gNext) (gSeq (gSet 4 (fBin modM (fBin mulM (fBin addM (fBin modM (fVar 3) (fC (.int 2147483647))) (fC (.int 7919))) (fBin addM (fC (.int 48271)) (fBin mulM (fBin mulM (fC (.int 2)) (fVar 1)) (fBin addM (fVar 1) (fC (.int 1009)))))) (fC (.int 2147483647)))) (gSeq (gSet 5 (fBin modM (fBin addM (fBin mulM (fVar 4) (fVar 4)) (fC (.int 104729))) (fC (.int 998244353)))) (gRet (fBin modM (fBin fdivM (fBin modM (fBin addM (fVar 4) (fBin mulM (fVar 5) (fC (.int 69621)))) (fC (.int 2147483647))) (fC (.int 7))) (fVar 2)))))))
def F__law_draw : List M → R (M × Z.Env) := runF 6 ⟨[0, 1, 2], [], []⟩ g__law_draw
theorem sc__law_draw : FnScope N__law_draw ["_law_script", "_law_k", "_law_many"] (defScope st__law_draw) := ⟨rfl, rfl, rfl, by decide +kernel, rfl, by decide +kernel, by decide +kernel⟩
abbrev st__law_whole : Stmt := top 15
abbrev N__law_whole : List Str := ["_law_found"]
def g__law_whole : SemS := gRet (fAndV (fUn (isTM .int) (fVar 0)) (fNotV (fUn (isTM .bool) (fVar 0))))
def F__law_whole : List M → R (M × Z.Env) := runF 1 ⟨[0], [], []⟩ g__law_whole
theorem sc__law_whole : FnScope N__law_whole ["_law_found"] (defScope st__law_whole) := ⟨rfl, rfl, rfl, by decide +kernel, rfl, by decide +kernel, by decide +kernel⟩
abbrev st__law_leap : Stmt := top 16
abbrev N__law_leap : List Str := ["_law_year"]
def g__law_leap : SemS := gRet (fAndV (fBin eqM (fBin modM (fVar 0) (fC (.int 4))) (fC (.int 0))) (fOrV (fBin gtM (fBin modM (fVar 0) (fC (.int 100))) (fC (.int 0))) (fBin eqM (fBin modM (fVar 0) (fC (.int 400))) (fC (.int 0)))))
def F__law_leap : List M → R (M × Z.Env) := runF 1 ⟨[0], [], []⟩ g__law_leap
theorem sc__law_leap : FnScope N__law_leap ["_law_year"] (defScope st__law_leap) := ⟨rfl, rfl, rfl, by decide +kernel, rfl, by decide +kernel, by decide +kernel⟩
abbrev st__law_long : Stmt := top 17
abbrev N__law_long : List Str := ["_law_year", "_law_month"]
def g__law_long : SemS := gSeq (gIf (fTest (fBin eqM (fVar 1) (fC (.int 2)))) (gRet (fBin addM (fC (.int 28)) (fCall (op1 int1M) (fCons (fCall (fnM ⟨[0], [], []⟩ F__law_leap) (fCons (fVar 0) fNil)) fNil)))) gNext) (gRet (fBin subM (fC (.int 31)) (fBin modM (fBin modM (fBin subM (fVar 1) (fC (.int 1))) (fC (.int 7))) (fC (.int 2)))))
def F__law_long : List M → R (M × Z.Env) := runF 2 ⟨[0, 1], [], []⟩ g__law_long
theorem sc__law_long : FnScope N__law_long ["_law_year", "_law_month"] (defScope st__law_long) := ⟨rfl, rfl, rfl, by decide +kernel, rfl, by decide +kernel, by decide +kernel⟩
abbrev st__law_begin : Stmt := top 18
abbrev N__law_begin : List Str := ["_law_year", "_law_past"]
def g__law_begin : SemS := gSeq (gSet 1 (fBin subM (fVar 0) (fC (.int 2000)))) (gRet (fBin addM (fBin subM (fBin addM (fBin mulM (fC (.int 365)) (fVar 1)) (fBin fdivM (fBin addM (fVar 1) (fC (.int 3))) (fC (.int 4)))) (fBin fdivM (fBin addM (fVar 1) (fC (.int 99))) (fC (.int 100)))) (fBin fdivM (fBin addM (fVar 1) (fC (.int 399))) (fC (.int 400)))))
def F__law_begin : List M → R (M × Z.Env) := runF 2 ⟨[0], [], []⟩ g__law_begin
theorem sc__law_begin : FnScope N__law_begin ["_law_year"] (defScope st__law_begin) := ⟨rfl, rfl, rfl, by decide +kernel, rfl, by decide +kernel, by decide +kernel⟩
abbrev st__law_number : Stmt := top 19
abbrev N__law_number : List Str := ["_law_year", "_law_month", "_law_day_here", "_law_found", "_law_one"]
def lb__law_number_0 : SemS := gSet 3 (fBin addM (fVar 3) (fCall (fnM ⟨[0, 1], [], []⟩ F__law_long) (fCons (fVar 0) (fCons (fVar 4) fNil))))
theorem lb__law_number_0_ap (env : Z.Env) : lb__law_number_0 env = (gSet 3 (fBin addM (fVar 3) (fCall (fnM ⟨[0, 1], [], []⟩ F__law_long) (fCons (fVar 0) (fCons (fVar 4) fNil)))) : SemS) env := rfl
def g__law_number : SemS := gSeq (gSet 3 (fCall (fnM ⟨[0], [], []⟩ F__law_begin) (fCons (fVar 0) fNil))) (gSeq (gFor (fRange2 (fC (.int 1)) (fVar 1)) (bName 4) lb__law_number_0) (gRet (fBin subM (fBin addM (fVar 3) (fVar 2)) (fC (.int 1)))))
def F__law_number : List M → R (M × Z.Env) := runF 5 ⟨[0, 1, 2], [], []⟩ g__law_number
theorem sc__law_number : FnScope N__law_number ["_law_year", "_law_month", "_law_day_here"] (defScope st__law_number) := ⟨rfl, rfl, rfl, by decide +kernel, rfl, by decide +kernel, by decide +kernel⟩
abbrev st__law_date : Stmt := top 20
abbrev N__law_date : List Str := ["_law_number_here", "_law_year", "_law_rest", "_law_month"]
def lt__law_date_0 : SemT := fTest (fBin leM (fCall (fnM ⟨[0], [], []⟩ F__law_begin) (fCons (fBin addM (fVar 1) (fC (.int 1))) fNil)) (fVar 0))
theorem lt__law_date_0_ap (env : Z.Env) : lt__law_date_0 env = (fTest (fBin leM (fCall (fnM ⟨[0], [], []⟩ F__law_begin) (fCons (fBin addM (fVar 1) (fC (.int 1))) fNil)) (fVar 0)) : SemT) env := rfl
def lb__law_date_0 : SemS := gSet 1 (fBin addM (fVar 1) (fC (.int 1)))
theorem lb__law_date_0_ap (env : Z.Env) : lb__law_date_0 env = (gSet 1 (fBin addM (fVar 1) (fC (.int 1))) : SemS) env := rfl
def lt__law_date_1 : SemT := fTest (fBin geM (fVar 2) (fCall (fnM ⟨[0, 1], [], []⟩ F__law_long) (fCons (fVar 1) (fCons (fVar 3) fNil))))
theorem lt__law_date_1_ap (env : Z.Env) : lt__law_date_1 env = (fTest (fBin geM (fVar 2) (fCall (fnM ⟨[0, 1], [], []⟩ F__law_long) (fCons (fVar 1) (fCons (fVar 3) fNil)))) : SemT) env := rfl
def lb__law_date_1 : SemS := gSeq (gSet 2 (fBin subM (fVar 2) (fCall (fnM ⟨[0, 1], [], []⟩ F__law_long) (fCons (fVar 1) (fCons (fVar 3) fNil))))) (gSet 3 (fBin addM (fVar 3) (fC (.int 1))))
theorem lb__law_date_1_ap (env : Z.Env) : lb__law_date_1 env = (gSeq (gSet 2 (fBin subM (fVar 2) (fCall (fnM ⟨[0, 1], [], []⟩ F__law_long) (fCons (fVar 1) (fCons (fVar 3) fNil))))) (gSet 3 (fBin addM (fVar 3) (fC (.int 1)))) : SemS) env := rfl
def g__law_date : SemS := gSeq (gSet 1 (fBin addM (fC (.int 2000)) (fBin fdivM (fVar 0) (fC (.int 366))))) (gSeq (gWhile lt__law_date_0 lb__law_date_0 WF) (gSeq (gSet 2 (fBin subM (fVar 0) (fCall (fnM ⟨[0], [], []⟩ F__law_begin) (fCons (fVar 1) fNil)))) (gSeq (gSet 3 (fC (.int 1))) (gSeq (gWhile lt__law_date_1 lb__law_date_1 WF) (gRet (fTup [fUse 1, fUse 3, fBin addM (fVar 2) (fC (.int 1))]))))))
def F__law_date : List M → R (M × Z.Env) := runF 4 ⟨[0], [], []⟩ g__law_date
theorem sc__law_date : FnScope N__law_date ["_law_number_here"] (defScope st__law_date) := ⟨rfl, rfl, rfl, by decide +kernel, rfl, by decide +kernel, by decide +kernel⟩
abbrev st__law_day : Stmt := top 21
abbrev N__law_day : List Str := ["_law_script", "_law_k", "_law_way", "_law_number_here", "_law_year"]
def g__law_day : SemS := gSeq (gSet 2 (fCall (fnM ⟨[0, 1, 2], [], []⟩ F__law_draw) (fCons (fVar 0) (fCons (fVar 1) (fCons (fC (.int 5)) fNil))))) (gSeq (gSet 3 (fCall (fnM ⟨[0, 1, 2], [], []⟩ F__law_draw) (fCons (fVar 0) (fCons (fBin addM (fVar 1) (fC (.int 1))) (fCons (fC (.int 1000000)) fNil))))) (gSeq (gSet 4 (fBin addM (fC (.int 2000)) (fCall (fnM ⟨[0, 1, 2], [], []⟩ F__law_draw) (fCons (fVar 0) (fCons (fBin addM (fVar 1) (fC (.int 1))) (fCons (fC (.int 2738)) fNil)))))) (gSeq (gIf (fTest (fBin eqM (fBin modM (fVar 3) (fC (.int 3))) (fC (.int 0)))) (gSet 4 (fBin mulM (fBin fdivM (fVar 4) (fC (.int 100))) (fC (.int 100)))) gNext) (gSeq (gIf (fTest (fBin eqM (fVar 2) (fC (.int 1)))) (gSet 3 (fBin addM (fCall (fnM ⟨[0, 1, 2], [], []⟩ F__law_number) (fCons (fVar 4) (fCons (fC (.int 2)) (fCons (fC (.int 27)) fNil)))) (fCall (fnM ⟨[0, 1, 2], [], []⟩ F__law_draw) (fCons (fVar 0) (fCons (fBin addM (fVar 1) (fC (.int 2))) (fCons (fC (.int 4)) fNil)))))) gNext) (gSeq (gIf (fTest (fBin eqM (fVar 2) (fC (.int 2)))) (gSet 3 (fBin addM (fCall (fnM ⟨[0, 1, 2], [], []⟩ F__law_number) (fCons (fVar 4) (fCons (fBin addM (fC (.int 1)) (fBin modM (fVar 3) (fC (.int 12)))) (fCons (fC (.int 28)) fNil)))) (fCall (fnM ⟨[0, 1, 2], [], []⟩ F__law_draw) (fCons (fVar 0) (fCons (fBin addM (fVar 1) (fC (.int 2))) (fCons (fC (.int 6)) fNil)))))) gNext) (gSeq (gIf (fTest (fBin eqM (fVar 2) (fC (.int 3)))) (gSet 3 (fBin subM (fC (.int 999999)) (fCall (fnM ⟨[0, 1, 2], [], []⟩ F__law_draw) (fCons (fVar 0) (fCons (fBin addM (fVar 1) (fC (.int 2))) (fCons (fC (.int 400)) fNil)))))) gNext) (gSeq (gIf (fTest (fBin eqM (fVar 2) (fC (.int 4)))) (gSet 3 (fCall (fnM ⟨[0, 1, 2], [], []⟩ F__law_draw) (fCons (fVar 0) (fCons (fBin addM (fVar 1) (fC (.int 2))) (fCons (fC (.int 1500)) fNil))))) gNext) (gRet (fCall (op2 min2M) (fCons (fVar 3) (fCons (fC (.int 999999)) fNil)))))))))))
def F__law_day : List M → R (M × Z.Env) := runF 5 ⟨[0, 1], [], []⟩ g__law_day
theorem sc__law_day : FnScope N__law_day ["_law_script", "_law_k"] (defScope st__law_day) := ⟨rfl, rfl, rfl, by decide +kernel, rfl, by decide +kernel, by decide +kernel⟩
abbrev st__law_on : Stmt := top 22
abbrev N__law_on : List Str := ["_law_day_here", "_law_many", "_law_year", "_law_month", "_law_date_here", "_law_past", "_law_least"]
def g__law_on : SemS := gSeq (gAsg (bTup [bName 2, bName 3, bName 4]) (fCall (fnM ⟨[0], [], []⟩ F__law_date) (fCons (fVar 0) fNil))) (gSeq (gSet 5 (fBin addM (fBin subM (fBin addM (fBin mulM (fC (.int 12)) (fVar 2)) (fVar 3)) (fC (.int 1))) (fVar 1))) (gSeq (gSet 6 (fCall (op2 min2M) (fCons (fVar 4) (fCons (fCall (fnM ⟨[0, 1], [], []⟩ F__law_long) (fCons (fBin fdivM (fVar 5) (fC (.int 12))) (fCons (fBin addM (fBin modM (fVar 5) (fC (.int 12))) (fC (.int 1))) fNil))) fNil)))) (gRet (fCall (fnM ⟨[0, 1, 2], [], []⟩ F__law_number) (fCons (fBin fdivM (fVar 5) (fC (.int 12))) (fCons (fBin addM (fBin modM (fVar 5) (fC (.int 12))) (fC (.int 1))) (fCons (fVar 6) fNil)))))))
def F__law_on : List M → R (M × Z.Env) := runF 7 ⟨[0, 1], [], []⟩ g__law_on
theorem sc__law_on : FnScope N__law_on ["_law_day_here", "_law_many"] (defScope st__law_on) := ⟨rfl, rfl, rfl, by decide +kernel, rfl, by decide +kernel, by decide +kernel⟩
abbrev st__law_other : Stmt := top 23
abbrev N__law_other : List Str := ["_law_script", "_law_k", "_law_day_here", "_law_way", "_law_rest", "_law_far"]
def g__law_other : SemS := gSeq (gSet 3 (fCall (fnM ⟨[0, 1, 2], [], []⟩ F__law_draw) (fCons (fVar 0) (fCons (fVar 1) (fCons (fC (.int 7)) fNil))))) (gSeq (gSet 4 (fBin subM (fC (.int 999999)) (fVar 2))) (gSeq (gSet 5 (fCall (fnM ⟨[0, 1, 2], [], []⟩ F__law_draw) (fCons (fVar 0) (fCons (fBin addM (fVar 1) (fC (.int 1))) (fCons (fBin addM (fVar 4) (fC (.int 1))) fNil))))) (gSeq (gIf (fTest (fBin ltM (fVar 3) (fC (.int 2)))) (gSet 5 (fCall (fnM ⟨[0, 1, 2], [], []⟩ F__law_draw) (fCons (fVar 0) (fCons (fBin addM (fVar 1) (fC (.int 1))) (fCons (fBin ixM (fLst [fC (.int 71), fC (.int 4001)]) (fVar 3)) fNil))))) gNext) (gSeq (gIf (fTest (fBin eqM (fVar 3) (fC (.int 2)))) (gSet 5 (fC (.int 0))) gNext) (gSeq (gIf (fTest (fBin eqM (fVar 3) (fC (.int 3)))) (gSet 5 (fUse 4)) gNext) (gSeq (gIf (fTest (fBin gtM (fVar 3) (fC (.int 4)))) (gSet 5 (fBin subM (fBin addM (fBin subM (fCall (fnM ⟨[0, 1], [], []⟩ F__law_on) (fCons (fVar 2) (fCons (fCall (fnM ⟨[0, 1, 2], [], []⟩ F__law_draw) (fCons (fVar 0) (fCons (fBin addM (fVar 1) (fC (.int 1))) (fCons (fBin ixM (fLst [fC (.int 30), fC (.int 2000)]) (fBin subM (fVar 3) (fC (.int 5)))) fNil)))) fNil))) (fVar 2)) (fCall (fnM ⟨[0, 1, 2], [], []⟩ F__law_draw) (fCons (fVar 0) (fCons (fBin addM (fVar 1) (fC (.int 2))) (fCons (fC (.int 3)) fNil))))) (fC (.int 1)))) gNext) (gRet (fBin addM (fVar 2) (fCall (op2 max2M) (fCons (fC (.int 0)) (fCons (fCall (op2 min2M) (fCons (fVar 5) (fCons (fVar 4) fNil))) fNil)))))))))))
def F__law_other : List M → R (M × Z.Env) := runF 6 ⟨[0, 1, 2], [], []⟩ g__law_other
theorem sc__law_other : FnScope N__law_other ["_law_script", "_law_k", "_law_day_here"] (defScope st__law_other) := ⟨rfl, rfl, rfl, by decide +kernel, rfl, by decide +kernel, by decide +kernel⟩
abbrev st_law : Stmt := top 24
abbrev N_law : List Str := ["_law_script", "_law_turn", "_law_k", "_law_day_here", "_law_other_here", "_law_found"]
def lb_law_0 : SemS := gSeq (gSet 3 (fCall (fnM ⟨[0, 1], [], []⟩ F__law_day) (fCons (fVar 0) (fCons (fBin mulM (fC (.int 6)) (fVar 2)) fNil)))) (gSeq (gSet 4 (fCall (fnM ⟨[0, 1, 2], [], []⟩ F__law_other) (fCons (fVar 0) (fCons (fBin addM (fBin mulM (fC (.int 6)) (fVar 2)) (fC (.int 3))) (fCons (fVar 3) fNil))))) (gSeq (gSet 5 (fCall (fnM ⟨[0, 1], [], []⟩ F_months_between) (fCons (fVar 3) (fCons (fVar 4) fNil)))) (gSeq (gIf (fOr (fNot (fTest (fCall (fnM ⟨[0], [], []⟩ F__law_whole) (fCons (fVar 5) fNil)))) (fTest (fBin ltM (fVar 5) (fC (.int 0))))) (gRet (fC (.bl false))) gNext) (gIf (fOr (fTest (fBin gtM (fCall (fnM ⟨[0, 1], [], []⟩ F__law_on) (fCons (fVar 3) (fCons (fVar 5) fNil))) (fVar 4))) (fTest (fBin leM (fCall (fnM ⟨[0, 1], [], []⟩ F__law_on) (fCons (fVar 3) (fCons (fBin addM (fVar 5) (fC (.int 1))) fNil))) (fVar 4)))) (gRet (fC (.bl false))) gNext))))
theorem lb_law_0_ap (env : Z.Env) : lb_law_0 env = (gSeq (gSet 3 (fCall (fnM ⟨[0, 1], [], []⟩ F__law_day) (fCons (fVar 0) (fCons (fBin mulM (fC (.int 6)) (fVar 2)) fNil)))) (gSeq (gSet 4 (fCall (fnM ⟨[0, 1, 2], [], []⟩ F__law_other) (fCons (fVar 0) (fCons (fBin addM (fBin mulM (fC (.int 6)) (fVar 2)) (fC (.int 3))) (fCons (fVar 3) fNil))))) (gSeq (gSet 5 (fCall (fnM ⟨[0, 1], [], []⟩ F_months_between) (fCons (fVar 3) (fCons (fVar 4) fNil)))) (gSeq (gIf (fOr (fNot (fTest (fCall (fnM ⟨[0], [], []⟩ F__law_whole) (fCons (fVar 5) fNil)))) (fTest (fBin ltM (fVar 5) (fC (.int 0))))) (gRet (fC (.bl false))) gNext) (gIf (fOr (fTest (fBin gtM (fCall (fnM ⟨[0, 1], [], []⟩ F__law_on) (fCons (fVar 3) (fCons (fVar 5) fNil))) (fVar 4))) (fTest (fBin leM (fCall (fnM ⟨[0, 1], [], []⟩ F__law_on) (fCons (fVar 3) (fCons (fBin addM (fVar 5) (fC (.int 1))) fNil))) (fVar 4)))) (gRet (fC (.bl false))) gNext)))) : SemS) env := rfl
def lb_law_1 : SemS := gFor (fRange1 (fC (.int 8))) (bName 2) lb_law_0
theorem lb_law_1_ap (env : Z.Env) : lb_law_1 env = (gFor (fRange1 (fC (.int 8))) (bName 2) lb_law_0 : SemS) env := rfl
def g_law : SemS := gSeq (gFor (fRange1 (fC (.int 2))) (bName 1) lb_law_1) (gRet (fC (.bl true)))
def F_law : List M → R (M × Z.Env) := runF 6 ⟨[0], [], []⟩ g_law
theorem sc_law : FnScope N_law ["_law_script"] (defScope st_law) := ⟨rfl, rfl, rfl, by decide +kernel, rfl, by decide +kernel, by decide +kernel⟩
/-- what the top has left of names -/
structure Tx (K : PySem.W.Frag) (mg : Str → Option Value) : Prop where
  b_bool : mg "bool" = none
  b_int : mg "int" = none
  b_isinstance : mg "isinstance" = none
  b_len : mg "len" = none
  b_max : mg "max" = none
  b_min : mg "min" = none
  b_range : mg "range" = none
  b_sum : mg "sum" = none
  c_FIRST_YEAR : ∃ t, mg "FIRST_YEAR" = some (.int 2000 t)
  g_LENGTHS : mg "LENGTHS" = some (.ref (He.ga K "LENGTHS"))
  c_LENGTHS : SqT K nil0 (He.ga K "LENGTHS") (([31, 28, 31, 30, 31, 30, 31, 31, 30, 31, 30, 31] : List Int).map V.int)
section
variable {P : Program} {w : World} {κ : Kx} {mg : Str → Option Value} {base : Heap} {f : Addr} {fd : FuncData}
theorem ok_is_leap (T : Tx κ.K mg)  (F : FunD κ.K "is_leap" "is_leap" (defArgs st_is_leap) (defBody st_is_leap) (defScope st_is_leap) [] [] f fd) : FnOk P w κ.K mg base CX0 1 f fd ["year"] (spZ κ ⟨[0], [], []⟩ 1 F_is_leap) := by
  refine fn_ok (N := N_is_leap) (k := 0) F sc_is_leap (fun cdv A outer s H E hr => ?_)
  have hU := hr.units
  have hu := hu_of hr
  exact (s_one (s_ret (v_and (v_eq ⟨rfl⟩ hU (VE.b (v_mod (bv 0) (VE.b v_int))) (VE.b v_int)) (v_one (v_or (v_ne ⟨rfl⟩ hU (VE.b (v_mod (bv 0) (VE.b v_int))) (VE.b v_int)) (v_one (v_eq ⟨rfl⟩ hU (VE.b (v_mod (bv 0) (VE.b v_int))) (VE.b v_int))))))))
theorem ok_month_days (T : Tx κ.K mg) (G_is_leap : GF P w κ mg base "is_leap" 1 1 ⟨[0], [], []⟩ F_is_leap) (F : FunD κ.K "month_days" "month_days" (defArgs st_month_days) (defBody st_month_days) (defScope st_month_days) [] [] f fd) : FnOk P w κ.K mg base CX0 2 f fd ["year", "month"] (spZ κ ⟨[0, 1], [], []⟩ 2 F_month_days) := by
  refine fn_ok (N := N_month_days) (k := 1) F sc_month_days (fun cdv A outer s H E hr => ?_)
  have hU := hr.units
  have hu := hu_of hr
  exact (s_cons (s_if (t_w (w_and (t_eq ⟨rfl⟩ hU (bv 1) (VE.b v_int)) (w_and1 (t_val (v_fn G_is_leap ⟨rfl⟩ (hr.mono (by decide)) (a_cons (bv 0) a_nil) (fCons_len fNil_len)))))) (s_one (s_ret v_int)) s_nil)
      (s_one (s_ret (v_ix ⟨rfl⟩ hu (VE.b (v_globT ⟨rfl⟩ rfl T.g_LENGTHS T.c_LENGTHS)) (VE.b (v_sub (bv 1) (VE.b v_int)))))))
theorem ok_leap_years (T : Tx κ.K mg)  (F : FunD κ.K "leap_years" "leap_years" (defArgs st_leap_years) (defBody st_leap_years) (defScope st_leap_years) [] [] f fd) : FnOk P w κ.K mg base CX0 1 f fd ["year"] (spZ κ ⟨[0], [], []⟩ 1 F_leap_years) := by
  refine fn_ok (N := N_leap_years) (k := 0) F sc_leap_years (fun cdv A outer s H E hr => ?_)
  have hU := hr.units
  have hu := hu_of hr
  exact (s_one (s_ret (v_add ⟨rfl⟩ (VE.b (v_sub (VE.b (v_fdiv (bv 0) (VE.b v_int))) (VE.b (v_fdiv (bv 0) (VE.b v_int))))) (VE.b (v_fdiv (bv 0) (VE.b v_int))))))
theorem ok_year_begins (T : Tx κ.K mg) (G_leap_years : GF P w κ mg base "leap_years" 1 1 ⟨[0], [], []⟩ F_leap_years) (F : FunD κ.K "year_begins" "year_begins" (defArgs st_year_begins) (defBody st_year_begins) (defScope st_year_begins) [] [] f fd) : FnOk P w κ.K mg base CX0 2 f fd ["year"] (spZ κ ⟨[0], [], []⟩ 1 F_year_begins) := by
  refine fn_ok (N := N_year_begins) (k := 1) F sc_year_begins (fun cdv A outer s H E hr => ?_)
  have hU := hr.units
  have hu := hu_of hr
  exact (s_one (s_ret (v_sub (VE.b (v_add ⟨rfl⟩ (VE.b (v_mul (VE.b v_int) (VE.b (v_sub (bv 0) (VE.b (v_globI rfl (T.c_FIRST_YEAR).choose_spec)))))) (VE.b (v_fn G_leap_years ⟨rfl⟩ (hr.mono (by decide)) (a_cons (VE.b (v_sub (bv 0) (VE.b v_int))) a_nil) (fCons_len fNil_len))))) (VE.b (v_fn G_leap_years ⟨rfl⟩ (hr.mono (by decide)) (a_cons (VE.b (v_sub (VE.b (v_globI rfl (T.c_FIRST_YEAR).choose_spec)) (VE.b v_int))) a_nil) (fCons_len fNil_len))))))
theorem ok_number_of (T : Tx κ.K mg) (G_month_days : GF P w κ mg base "month_days" 2 2 ⟨[0, 1], [], []⟩ F_month_days) (G_year_begins : GF P w κ mg base "year_begins" 2 1 ⟨[0], [], []⟩ F_year_begins) (F : FunD κ.K "number_of" "number_of" (defArgs st_number_of) (defBody st_number_of) (defScope st_number_of) [] [] f fd) : FnOk P w κ.K mg base CX0 3 f fd ["year", "month", "day"] (spZ κ ⟨[0, 1, 2], [], []⟩ 3 F_number_of) := by
  refine fn_ok (N := N_number_of) (k := 2) F sc_number_of (fun cdv A outer s H E hr => ?_)
  have hU := hr.units
  have hu := hu_of hr
  exact (s_cons (s_set (i := 3) sc_number_of.nd rfl (by first | exact .inl rfl | exact .inr rfl) rfl rfl (v_sum ⟨rfl⟩ T.b_sum rfl (VE.b (v_lc (own := [("one", 4)]) rfl sc_number_of.nd (ix_of (i_range2 rfl T.b_range (VE.b v_int) (bv 1))) (blkOk_by (own := [("one", 4)]) (N := N_number_of) (sc := defScope st_number_of) (by decide +kernel)) (fun _ _ _ _ _ => (gc_name (i := 4) sc_number_of.nd rfl (by first | exact .inl rfl | exact .inr rfl) (by decide))) (fun _ _ _ _ _ => tb_nil) (fun _ _ _ _ _ => (VE.f (v_fn G_month_days ⟨rfl⟩ (hr.mono (by decide)) (a_cons (bv 0) (a_cons (bv 4) a_nil)) (fCons_len (fCons_len fNil_len)))))))))
      (s_one (s_ret (v_sub (VE.b (v_add ⟨rfl⟩ (VE.b (v_add ⟨rfl⟩ (VE.b (v_fn G_year_begins ⟨rfl⟩ (hr.mono (by decide)) (a_cons (bv 0) a_nil) (fCons_len fNil_len))) (bv 3))) (bv 2))) (VE.b v_int)))))
theorem ok_year_of (T : Tx κ.K mg) (G_year_begins : GF P w κ mg base "year_begins" 2 1 ⟨[0], [], []⟩ F_year_begins) (F : FunD κ.K "year_of" "year_of" (defArgs st_year_of) (defBody st_year_of) (defScope st_year_of) [] [] f fd) : FnOk P w κ.K mg base CX0 3 f fd ["day"] (spZ κ ⟨[0], [], []⟩ 1 F_year_of) := by
  refine fn_ok (N := N_year_of) (k := 2) F sc_year_of (fun cdv A outer s H E hr => ?_)
  have hU := hr.units
  have hu := hu_of hr
  exact (s_cons (s_set (i := 1) sc_year_of.nd rfl (by first | exact .inl rfl | exact .inr rfl) rfl rfl (v_add ⟨rfl⟩ (VE.b (v_globI rfl (T.c_FIRST_YEAR).choose_spec)) (VE.b (v_fdiv (bv 0) (VE.b v_int)))))
      (s_cons (s_while WF .never (t_le (VE.b (v_fn G_year_begins ⟨rfl⟩ (hr.mono (by decide)) (a_cons (VE.b (v_add ⟨rfl⟩ (bv 1) (VE.b v_int))) a_nil) (fCons_len fNil_len))) (bv 0)) (s_one (s_augAdd (i := 1) sc_year_of.nd rfl (by first | exact .inl rfl | exact .inr rfl) rfl rfl (VE.b v_int))))
      (s_one (s_ret (uv 1)))))
theorem ok_date_of (T : Tx κ.K mg) (G_year_of : GF P w κ mg base "year_of" 3 1 ⟨[0], [], []⟩ F_year_of) (G_year_begins : GF P w κ mg base "year_begins" 2 1 ⟨[0], [], []⟩ F_year_begins) (G_month_days : GF P w κ mg base "month_days" 2 2 ⟨[0, 1], [], []⟩ F_month_days) (F : FunD κ.K "date_of" "date_of" (defArgs st_date_of) (defBody st_date_of) (defScope st_date_of) [] [] f fd) : FnOk P w κ.K mg base CX0 4 f fd ["day"] (spZ κ ⟨[0], [], []⟩ 1 F_date_of) := by
  refine fn_ok (N := N_date_of) (k := 3) F sc_date_of (fun cdv A outer s H E hr => ?_)
  have hU := hr.units
  have hu := hu_of hr
  exact (s_cons (s_set (i := 1) sc_date_of.nd rfl (by first | exact .inl rfl | exact .inr rfl) rfl rfl (v_fn G_year_of ⟨rfl⟩ (hr.mono (by decide)) (a_cons (bv 0) a_nil) (fCons_len fNil_len)))
      (s_cons (s_set (i := 2) sc_date_of.nd rfl (by first | exact .inl rfl | exact .inr rfl) rfl rfl (v_sub (bv 0) (VE.b (v_fn G_year_begins ⟨rfl⟩ (hr.mono (by decide)) (a_cons (bv 1) a_nil) (fCons_len fNil_len)))))
      (s_cons (s_set (i := 3) sc_date_of.nd rfl (by first | exact .inl rfl | exact .inr rfl) rfl rfl v_int)
      (s_cons (s_while WF .never (t_ge (bv 2) (VE.b (v_fn G_month_days ⟨rfl⟩ (hr.mono (by decide)) (a_cons (bv 1) (a_cons (bv 3) a_nil)) (fCons_len (fCons_len fNil_len))))) (s_cons (s_augSub (i := 2) sc_date_of.nd rfl (by first | exact .inl rfl | exact .inr rfl) rfl rfl (VE.b (v_fn G_month_days ⟨rfl⟩ (hr.mono (by decide)) (a_cons (bv 1) (a_cons (bv 3) a_nil)) (fCons_len (fCons_len fNil_len)))))
      (s_one (s_augAdd (i := 3) sc_date_of.nd rfl (by first | exact .inl rfl | exact .inr rfl) rfl rfl (VE.b v_int)))))
      (s_one (s_ret (v_tup (af_cons (VE.f (uv 1)) (af_cons (VE.f (uv 3)) (af_cons (VE.f (v_add ⟨rfl⟩ (bv 2) (VE.b v_int))) af_nil))))))))))
theorem ok_months_on (T : Tx κ.K mg) (G_date_of : GF P w κ mg base "date_of" 4 1 ⟨[0], [], []⟩ F_date_of) (G_number_of : GF P w κ mg base "number_of" 3 3 ⟨[0, 1, 2], [], []⟩ F_number_of) (G_month_days : GF P w κ mg base "month_days" 2 2 ⟨[0, 1], [], []⟩ F_month_days) (F : FunD κ.K "months_on" "months_on" (defArgs st_months_on) (defBody st_months_on) (defScope st_months_on) [] [] f fd) : FnOk P w κ.K mg base CX0 5 f fd ["day", "many"] (spZ κ ⟨[0, 1], [], []⟩ 2 F_months_on) := by
  refine fn_ok (N := N_months_on) (k := 4) F sc_months_on (fun cdv A outer s H E hr => ?_)
  have hU := hr.units
  have hu := hu_of hr
  exact (s_cons (s_asg (VE.f (v_fn G_date_of ⟨rfl⟩ (hr.mono (by decide)) (a_cons (bv 0) a_nil) (fCons_len fNil_len))) (g_tup ⟨rfl⟩ rfl (g_cons (g_name (i := 2) sc_months_on.nd rfl (by first | exact .inl rfl | exact .inr rfl) rfl rfl) (g_cons (g_name (i := 3) sc_months_on.nd rfl (by first | exact .inl rfl | exact .inr rfl) rfl rfl) (g_cons (g_name (i := 4) sc_months_on.nd rfl (by first | exact .inl rfl | exact .inr rfl) rfl rfl) g_nil))) rfl))
      (s_cons (s_set (i := 5) sc_months_on.nd rfl (by first | exact .inl rfl | exact .inr rfl) rfl rfl (v_add ⟨rfl⟩ (VE.b (v_sub (VE.b (v_add ⟨rfl⟩ (VE.b (v_mul (VE.b v_int) (bv 2))) (bv 3))) (VE.b v_int))) (bv 1)))
      (s_cons (s_set (i := 6) sc_months_on.nd rfl (by first | exact .inl rfl | exact .inr rfl) rfl rfl (v_min2 T.b_min rfl (bv 4) (VE.b (v_fn G_month_days ⟨rfl⟩ (hr.mono (by decide)) (a_cons (VE.b (v_fdiv (bv 5) (VE.b v_int))) (a_cons (VE.b (v_add ⟨rfl⟩ (VE.b (v_mod (bv 5) (VE.b v_int))) (VE.b v_int))) a_nil)) (fCons_len (fCons_len fNil_len))))))
      (s_one (s_ret (v_fn G_number_of ⟨rfl⟩ (hr.mono (by decide)) (a_cons (VE.b (v_fdiv (bv 5) (VE.b v_int))) (a_cons (VE.b (v_add ⟨rfl⟩ (VE.b (v_mod (bv 5) (VE.b v_int))) (VE.b v_int))) (a_cons (bv 6) a_nil))) (fCons_len (fCons_len (fCons_len fNil_len)))))))))
theorem ok_months_between (T : Tx κ.K mg) (G_date_of : GF P w κ mg base "date_of" 4 1 ⟨[0], [], []⟩ F_date_of) (G_months_on : GF P w κ mg base "months_on" 5 2 ⟨[0, 1], [], []⟩ F_months_on) (F : FunD κ.K "months_between" "months_between" (defArgs st_months_between) (defBody st_months_between) (defScope st_months_between) [] [] f fd) : FnOk P w κ.K mg base CX0 6 f fd ["one", "other"] (spZ κ ⟨[0, 1], [], []⟩ 2 F_months_between) := by
  refine fn_ok (N := N_months_between) (k := 5) F sc_months_between (fun cdv A outer s H E hr => ?_)
  have hU := hr.units
  have hu := hu_of hr
  exact (s_cons (s_asg (VE.f (v_fn G_date_of ⟨rfl⟩ (hr.mono (by decide)) (a_cons (bv 0) a_nil) (fCons_len fNil_len))) (g_tup ⟨rfl⟩ rfl (g_cons (g_name (i := 2) sc_months_between.nd rfl (by first | exact .inl rfl | exact .inr rfl) rfl rfl) (g_cons (g_name (i := 3) sc_months_between.nd rfl (by first | exact .inl rfl | exact .inr rfl) rfl rfl) (g_cons (g_name (i := 4) sc_months_between.nd rfl (by first | exact .inl rfl | exact .inr rfl) rfl rfl) g_nil))) rfl))
      (s_cons (s_asg (VE.f (v_fn G_date_of ⟨rfl⟩ (hr.mono (by decide)) (a_cons (bv 1) a_nil) (fCons_len fNil_len))) (g_tup ⟨rfl⟩ rfl (g_cons (g_name (i := 5) sc_months_between.nd rfl (by first | exact .inl rfl | exact .inr rfl) rfl rfl) (g_cons (g_name (i := 6) sc_months_between.nd rfl (by first | exact .inl rfl | exact .inr rfl) rfl rfl) (g_cons (g_name (i := 7) sc_months_between.nd rfl (by first | exact .inl rfl | exact .inr rfl) rfl rfl) g_nil))) rfl))
      (s_cons (s_set (i := 8) sc_months_between.nd rfl (by first | exact .inl rfl | exact .inr rfl) rfl rfl (v_sub (VE.b (v_add ⟨rfl⟩ (VE.b (v_mul (VE.b v_int) (VE.b (v_sub (bv 5) (bv 2))))) (bv 6))) (bv 3)))
      (s_cons (s_if (t_gt (VE.b (v_fn G_months_on ⟨rfl⟩ (hr.mono (by decide)) (a_cons (bv 0) (a_cons (bv 8) a_nil)) (fCons_len (fCons_len fNil_len)))) (bv 1)) (s_one (s_ret (v_sub (bv 8) (VE.b v_int)))) s_nil)
      (s_one (s_ret (uv 8)))))))
theorem ok__law_draw (T : Tx κ.K mg)  (F : FunD κ.K "_law_draw" "_law_draw" (defArgs st__law_draw) (defBody st__law_draw) (defScope st__law_draw) [] [] f fd) : FnOk P w κ.K mg base CX0 1 f fd ["_law_script", "_law_k", "_law_many"] (spZ κ ⟨[0, 1, 2], [], []⟩ 3 F__law_draw) := by
  refine fn_ok (N := N__law_draw) (k := 0) F sc__law_draw (fun cdv A outer s H E hr => ?_)
  have hU := hr.units
  have hu := hu_of hr
  exact (s_cons (s_set (i := 3) sc__law_draw.nd rfl (by first | exact .inl rfl | exact .inr rfl) rfl rfl v_int)
      (s_cons (s_if (t_gt (VE.b (v_len ⟨rfl⟩ T.b_len (bv 0))) (VE.b v_int)) (s_one (s_set (i := 3) sc__law_draw.nd rfl (by first | exact .inl rfl | exact .inr rfl) rfl rfl (v_ix ⟨rfl⟩ hu (bv 0) (VE.b (v_mod (bv 1) (VE.b (v_len ⟨rfl⟩ T.b_len (bv 0)))))))) s_nil)
      (s_cons (s_if (t_w (w_and (t_gt (bv 3) (VE.b (v_pow (VE.b v_int) (VE.b v_int)))) (w_and (t_eq ⟨rfl⟩ hU (VE.b (v_mod (bv 3) (VE.b v_int))) (VE.b v_int)) (w_and1 (t_lt (bv 1) (VE.b (v_len ⟨rfl⟩ T.b_len (bv 0)))))))) (s_one (s_ret (v_mod (VE.b (v_fdiv (bv 3) (VE.b v_int))) (bv 2)))) s_nil)
      (s_cons (s_set (i := 4) sc__law_draw.nd rfl (by first | exact .inl rfl | exact .inr rfl) rfl rfl (v_mod (VE.b (v_mul (VE.b (v_add ⟨rfl⟩ (VE.b (v_mod (bv 3) (VE.b v_int))) (VE.b v_int))) (VE.b (v_add ⟨rfl⟩ (VE.b v_int) (VE.b (v_mul (VE.b (v_mul (VE.b v_int) (bv 1))) (VE.b (v_add ⟨rfl⟩ (bv 1) (VE.b v_int))))))))) (VE.b v_int)))
      (s_cons (s_set (i := 5) sc__law_draw.nd rfl (by first | exact .inl rfl | exact .inr rfl) rfl rfl (v_mod (VE.b (v_add ⟨rfl⟩ (VE.b (v_mul (bv 4) (bv 4))) (VE.b v_int))) (VE.b v_int)))
      (s_one (s_ret (v_mod (VE.b (v_fdiv (VE.b (v_mod (VE.b (v_add ⟨rfl⟩ (bv 4) (VE.b (v_mul (bv 5) (VE.b v_int))))) (VE.b v_int))) (VE.b v_int))) (bv 2)))))))))
theorem ok__law_whole (T : Tx κ.K mg)  (F : FunD κ.K "_law_whole" "_law_whole" (defArgs st__law_whole) (defBody st__law_whole) (defScope st__law_whole) [] [] f fd) : FnOk P w κ.K mg base CX0 1 f fd ["_law_found"] (spZ κ ⟨[0], [], []⟩ 1 F__law_whole) := by
  refine fn_ok (N := N__law_whole) (k := 0) F sc__law_whole (fun cdv A outer s H E hr => ?_)
  have hU := hr.units
  have hu := hu_of hr
  exact (s_one (s_ret (v_and (v_isinst ⟨rfl⟩ .int rfl T.b_isinstance rfl T.b_int (by decide +kernel) (bv 0)) (v_one (v_not (v_isinst ⟨rfl⟩ .bool rfl T.b_isinstance rfl T.b_bool (by decide +kernel) (bv 0)))))))
theorem ok__law_leap (T : Tx κ.K mg)  (F : FunD κ.K "_law_leap" "_law_leap" (defArgs st__law_leap) (defBody st__law_leap) (defScope st__law_leap) [] [] f fd) : FnOk P w κ.K mg base CX0 1 f fd ["_law_year"] (spZ κ ⟨[0], [], []⟩ 1 F__law_leap) := by
  refine fn_ok (N := N__law_leap) (k := 0) F sc__law_leap (fun cdv A outer s H E hr => ?_)
  have hU := hr.units
  have hu := hu_of hr
  exact (s_one (s_ret (v_and (v_eq ⟨rfl⟩ hU (VE.b (v_mod (bv 0) (VE.b v_int))) (VE.b v_int)) (v_one (v_or (v_gt (VE.b (v_mod (bv 0) (VE.b v_int))) (VE.b v_int)) (v_one (v_eq ⟨rfl⟩ hU (VE.b (v_mod (bv 0) (VE.b v_int))) (VE.b v_int))))))))
theorem ok__law_long (T : Tx κ.K mg) (G__law_leap : GF P w κ mg base "_law_leap" 1 1 ⟨[0], [], []⟩ F__law_leap) (F : FunD κ.K "_law_long" "_law_long" (defArgs st__law_long) (defBody st__law_long) (defScope st__law_long) [] [] f fd) : FnOk P w κ.K mg base CX0 2 f fd ["_law_year", "_law_month"] (spZ κ ⟨[0, 1], [], []⟩ 2 F__law_long) := by
  refine fn_ok (N := N__law_long) (k := 1) F sc__law_long (fun cdv A outer s H E hr => ?_)
  have hU := hr.units
  have hu := hu_of hr
  exact (s_cons (s_if (t_eq ⟨rfl⟩ hU (bv 1) (VE.b v_int)) (s_one (s_ret (v_add ⟨rfl⟩ (VE.b v_int) (VE.b (v_intc T.b_int (VE.b (v_fn G__law_leap ⟨rfl⟩ (hr.mono (by decide)) (a_cons (bv 0) a_nil) (fCons_len fNil_len)))))))) s_nil)
      (s_one (s_ret (v_sub (VE.b v_int) (VE.b (v_mod (VE.b (v_mod (VE.b (v_sub (bv 1) (VE.b v_int))) (VE.b v_int))) (VE.b v_int)))))))
theorem ok__law_begin (T : Tx κ.K mg)  (F : FunD κ.K "_law_begin" "_law_begin" (defArgs st__law_begin) (defBody st__law_begin) (defScope st__law_begin) [] [] f fd) : FnOk P w κ.K mg base CX0 1 f fd ["_law_year"] (spZ κ ⟨[0], [], []⟩ 1 F__law_begin) := by
  refine fn_ok (N := N__law_begin) (k := 0) F sc__law_begin (fun cdv A outer s H E hr => ?_)
  have hU := hr.units
  have hu := hu_of hr
  exact (s_cons (s_set (i := 1) sc__law_begin.nd rfl (by first | exact .inl rfl | exact .inr rfl) rfl rfl (v_sub (bv 0) (VE.b v_int)))
      (s_one (s_ret (v_add ⟨rfl⟩ (VE.b (v_sub (VE.b (v_add ⟨rfl⟩ (VE.b (v_mul (VE.b v_int) (bv 1))) (VE.b (v_fdiv (VE.b (v_add ⟨rfl⟩ (bv 1) (VE.b v_int))) (VE.b v_int))))) (VE.b (v_fdiv (VE.b (v_add ⟨rfl⟩ (bv 1) (VE.b v_int))) (VE.b v_int))))) (VE.b (v_fdiv (VE.b (v_add ⟨rfl⟩ (bv 1) (VE.b v_int))) (VE.b v_int)))))))
theorem ok__law_number (T : Tx κ.K mg) (G__law_begin : GF P w κ mg base "_law_begin" 1 1 ⟨[0], [], []⟩ F__law_begin) (G__law_long : GF P w κ mg base "_law_long" 2 2 ⟨[0, 1], [], []⟩ F__law_long) (F : FunD κ.K "_law_number" "_law_number" (defArgs st__law_number) (defBody st__law_number) (defScope st__law_number) [] [] f fd) : FnOk P w κ.K mg base CX0 3 f fd ["_law_year", "_law_month", "_law_day_here"] (spZ κ ⟨[0, 1, 2], [], []⟩ 3 F__law_number) := by
  refine fn_ok (N := N__law_number) (k := 2) F sc__law_number (fun cdv A outer s H E hr => ?_)
  have hU := hr.units
  have hu := hu_of hr
  exact (s_cons (s_set (i := 3) sc__law_number.nd rfl (by first | exact .inl rfl | exact .inr rfl) rfl rfl (v_fn G__law_begin ⟨rfl⟩ (hr.mono (by decide)) (a_cons (bv 0) a_nil) (fCons_len fNil_len)))
      (s_cons (s_for .never rfl (i_range2 rfl T.b_range (VE.b v_int) (bv 1)) (g_name (i := 4) sc__law_number.nd rfl (by first | exact .inl rfl | exact .inr rfl) rfl rfl) (s_one (s_set (i := 3) sc__law_number.nd rfl (by first | exact .inl rfl | exact .inr rfl) rfl rfl (v_add ⟨rfl⟩ (bv 3) (VE.b (v_fn G__law_long ⟨rfl⟩ (hr.mono (by decide)) (a_cons (bv 0) (a_cons (bv 4) a_nil)) (fCons_len (fCons_len fNil_len))))))))
      (s_one (s_ret (v_sub (VE.b (v_add ⟨rfl⟩ (bv 3) (bv 2))) (VE.b v_int))))))
theorem ok__law_date (T : Tx κ.K mg) (G__law_begin : GF P w κ mg base "_law_begin" 1 1 ⟨[0], [], []⟩ F__law_begin) (G__law_long : GF P w κ mg base "_law_long" 2 2 ⟨[0, 1], [], []⟩ F__law_long) (F : FunD κ.K "_law_date" "_law_date" (defArgs st__law_date) (defBody st__law_date) (defScope st__law_date) [] [] f fd) : FnOk P w κ.K mg base CX0 3 f fd ["_law_number_here"] (spZ κ ⟨[0], [], []⟩ 1 F__law_date) := by
  refine fn_ok (N := N__law_date) (k := 2) F sc__law_date (fun cdv A outer s H E hr => ?_)
  have hU := hr.units
  have hu := hu_of hr
  exact (s_cons (s_set (i := 1) sc__law_date.nd rfl (by first | exact .inl rfl | exact .inr rfl) rfl rfl (v_add ⟨rfl⟩ (VE.b v_int) (VE.b (v_fdiv (bv 0) (VE.b v_int)))))
      (s_cons (s_while WF .never (t_le (VE.b (v_fn G__law_begin ⟨rfl⟩ (hr.mono (by decide)) (a_cons (VE.b (v_add ⟨rfl⟩ (bv 1) (VE.b v_int))) a_nil) (fCons_len fNil_len))) (bv 0)) (s_one (s_set (i := 1) sc__law_date.nd rfl (by first | exact .inl rfl | exact .inr rfl) rfl rfl (v_add ⟨rfl⟩ (bv 1) (VE.b v_int)))))
      (s_cons (s_set (i := 2) sc__law_date.nd rfl (by first | exact .inl rfl | exact .inr rfl) rfl rfl (v_sub (bv 0) (VE.b (v_fn G__law_begin ⟨rfl⟩ (hr.mono (by decide)) (a_cons (bv 1) a_nil) (fCons_len fNil_len)))))
      (s_cons (s_set (i := 3) sc__law_date.nd rfl (by first | exact .inl rfl | exact .inr rfl) rfl rfl v_int)
      (s_cons (s_while WF .never (t_ge (bv 2) (VE.b (v_fn G__law_long ⟨rfl⟩ (hr.mono (by decide)) (a_cons (bv 1) (a_cons (bv 3) a_nil)) (fCons_len (fCons_len fNil_len))))) (s_cons (s_set (i := 2) sc__law_date.nd rfl (by first | exact .inl rfl | exact .inr rfl) rfl rfl (v_sub (bv 2) (VE.b (v_fn G__law_long ⟨rfl⟩ (hr.mono (by decide)) (a_cons (bv 1) (a_cons (bv 3) a_nil)) (fCons_len (fCons_len fNil_len))))))
      (s_one (s_set (i := 3) sc__law_date.nd rfl (by first | exact .inl rfl | exact .inr rfl) rfl rfl (v_add ⟨rfl⟩ (bv 3) (VE.b v_int))))))
      (s_one (s_ret (v_tup (af_cons (VE.f (uv 1)) (af_cons (VE.f (uv 3)) (af_cons (VE.f (v_add ⟨rfl⟩ (bv 2) (VE.b v_int))) af_nil)))))))))))
theorem ok__law_day (T : Tx κ.K mg) (G__law_draw : GF P w κ mg base "_law_draw" 1 3 ⟨[0, 1, 2], [], []⟩ F__law_draw) (G__law_number : GF P w κ mg base "_law_number" 3 3 ⟨[0, 1, 2], [], []⟩ F__law_number) (F : FunD κ.K "_law_day" "_law_day" (defArgs st__law_day) (defBody st__law_day) (defScope st__law_day) [] [] f fd) : FnOk P w κ.K mg base CX0 4 f fd ["_law_script", "_law_k"] (spZ κ ⟨[0, 1], [], []⟩ 2 F__law_day) := by
  refine fn_ok (N := N__law_day) (k := 3) F sc__law_day (fun cdv A outer s H E hr => ?_)
  have hU := hr.units
  have hu := hu_of hr
  exact (s_cons (s_set (i := 2) sc__law_day.nd rfl (by first | exact .inl rfl | exact .inr rfl) rfl rfl (v_fn G__law_draw ⟨rfl⟩ (hr.mono (by decide)) (a_cons (bv 0) (a_cons (bv 1) (a_cons (VE.b v_int) a_nil))) (fCons_len (fCons_len (fCons_len fNil_len)))))
      (s_cons (s_set (i := 3) sc__law_day.nd rfl (by first | exact .inl rfl | exact .inr rfl) rfl rfl (v_fn G__law_draw ⟨rfl⟩ (hr.mono (by decide)) (a_cons (bv 0) (a_cons (VE.b (v_add ⟨rfl⟩ (bv 1) (VE.b v_int))) (a_cons (VE.b v_int) a_nil))) (fCons_len (fCons_len (fCons_len fNil_len)))))
      (s_cons (s_set (i := 4) sc__law_day.nd rfl (by first | exact .inl rfl | exact .inr rfl) rfl rfl (v_add ⟨rfl⟩ (VE.b v_int) (VE.b (v_fn G__law_draw ⟨rfl⟩ (hr.mono (by decide)) (a_cons (bv 0) (a_cons (VE.b (v_add ⟨rfl⟩ (bv 1) (VE.b v_int))) (a_cons (VE.b v_int) a_nil))) (fCons_len (fCons_len (fCons_len fNil_len)))))))
      (s_cons (s_if (t_eq ⟨rfl⟩ hU (VE.b (v_mod (bv 3) (VE.b v_int))) (VE.b v_int)) (s_one (s_set (i := 4) sc__law_day.nd rfl (by first | exact .inl rfl | exact .inr rfl) rfl rfl (v_mul (VE.b (v_fdiv (bv 4) (VE.b v_int))) (VE.b v_int)))) s_nil)
      (s_cons (s_if (t_eq ⟨rfl⟩ hU (bv 2) (VE.b v_int)) (s_one (s_set (i := 3) sc__law_day.nd rfl (by first | exact .inl rfl | exact .inr rfl) rfl rfl (v_add ⟨rfl⟩ (VE.b (v_fn G__law_number ⟨rfl⟩ (hr.mono (by decide)) (a_cons (bv 4) (a_cons (VE.b v_int) (a_cons (VE.b v_int) a_nil))) (fCons_len (fCons_len (fCons_len fNil_len))))) (VE.b (v_fn G__law_draw ⟨rfl⟩ (hr.mono (by decide)) (a_cons (bv 0) (a_cons (VE.b (v_add ⟨rfl⟩ (bv 1) (VE.b v_int))) (a_cons (VE.b v_int) a_nil))) (fCons_len (fCons_len (fCons_len fNil_len)))))))) s_nil)
      (s_cons (s_if (t_eq ⟨rfl⟩ hU (bv 2) (VE.b v_int)) (s_one (s_set (i := 3) sc__law_day.nd rfl (by first | exact .inl rfl | exact .inr rfl) rfl rfl (v_add ⟨rfl⟩ (VE.b (v_fn G__law_number ⟨rfl⟩ (hr.mono (by decide)) (a_cons (bv 4) (a_cons (VE.b (v_add ⟨rfl⟩ (VE.b v_int) (VE.b (v_mod (bv 3) (VE.b v_int))))) (a_cons (VE.b v_int) a_nil))) (fCons_len (fCons_len (fCons_len fNil_len))))) (VE.b (v_fn G__law_draw ⟨rfl⟩ (hr.mono (by decide)) (a_cons (bv 0) (a_cons (VE.b (v_add ⟨rfl⟩ (bv 1) (VE.b v_int))) (a_cons (VE.b v_int) a_nil))) (fCons_len (fCons_len (fCons_len fNil_len)))))))) s_nil)
      (s_cons (s_if (t_eq ⟨rfl⟩ hU (bv 2) (VE.b v_int)) (s_one (s_set (i := 3) sc__law_day.nd rfl (by first | exact .inl rfl | exact .inr rfl) rfl rfl (v_sub (VE.b v_int) (VE.b (v_fn G__law_draw ⟨rfl⟩ (hr.mono (by decide)) (a_cons (bv 0) (a_cons (VE.b (v_add ⟨rfl⟩ (bv 1) (VE.b v_int))) (a_cons (VE.b v_int) a_nil))) (fCons_len (fCons_len (fCons_len fNil_len)))))))) s_nil)
      (s_cons (s_if (t_eq ⟨rfl⟩ hU (bv 2) (VE.b v_int)) (s_one (s_set (i := 3) sc__law_day.nd rfl (by first | exact .inl rfl | exact .inr rfl) rfl rfl (v_fn G__law_draw ⟨rfl⟩ (hr.mono (by decide)) (a_cons (bv 0) (a_cons (VE.b (v_add ⟨rfl⟩ (bv 1) (VE.b v_int))) (a_cons (VE.b v_int) a_nil))) (fCons_len (fCons_len (fCons_len fNil_len)))))) s_nil)
      (s_one (s_ret (v_min2 T.b_min rfl (bv 3) (VE.b v_int))))))))))))
theorem ok__law_on (T : Tx κ.K mg) (G__law_date : GF P w κ mg base "_law_date" 3 1 ⟨[0], [], []⟩ F__law_date) (G__law_number : GF P w κ mg base "_law_number" 3 3 ⟨[0, 1, 2], [], []⟩ F__law_number) (G__law_long : GF P w κ mg base "_law_long" 2 2 ⟨[0, 1], [], []⟩ F__law_long) (F : FunD κ.K "_law_on" "_law_on" (defArgs st__law_on) (defBody st__law_on) (defScope st__law_on) [] [] f fd) : FnOk P w κ.K mg base CX0 4 f fd ["_law_day_here", "_law_many"] (spZ κ ⟨[0, 1], [], []⟩ 2 F__law_on) := by
  refine fn_ok (N := N__law_on) (k := 3) F sc__law_on (fun cdv A outer s H E hr => ?_)
  have hU := hr.units
  have hu := hu_of hr
  exact (s_cons (s_asg (VE.f (v_fn G__law_date ⟨rfl⟩ (hr.mono (by decide)) (a_cons (bv 0) a_nil) (fCons_len fNil_len))) (g_tup ⟨rfl⟩ rfl (g_cons (g_name (i := 2) sc__law_on.nd rfl (by first | exact .inl rfl | exact .inr rfl) rfl rfl) (g_cons (g_name (i := 3) sc__law_on.nd rfl (by first | exact .inl rfl | exact .inr rfl) rfl rfl) (g_cons (g_name (i := 4) sc__law_on.nd rfl (by first | exact .inl rfl | exact .inr rfl) rfl rfl) g_nil))) rfl))
      (s_cons (s_set (i := 5) sc__law_on.nd rfl (by first | exact .inl rfl | exact .inr rfl) rfl rfl (v_add ⟨rfl⟩ (VE.b (v_sub (VE.b (v_add ⟨rfl⟩ (VE.b (v_mul (VE.b v_int) (bv 2))) (bv 3))) (VE.b v_int))) (bv 1)))
      (s_cons (s_set (i := 6) sc__law_on.nd rfl (by first | exact .inl rfl | exact .inr rfl) rfl rfl (v_min2 T.b_min rfl (bv 4) (VE.b (v_fn G__law_long ⟨rfl⟩ (hr.mono (by decide)) (a_cons (VE.b (v_fdiv (bv 5) (VE.b v_int))) (a_cons (VE.b (v_add ⟨rfl⟩ (VE.b (v_mod (bv 5) (VE.b v_int))) (VE.b v_int))) a_nil)) (fCons_len (fCons_len fNil_len))))))
      (s_one (s_ret (v_fn G__law_number ⟨rfl⟩ (hr.mono (by decide)) (a_cons (VE.b (v_fdiv (bv 5) (VE.b v_int))) (a_cons (VE.b (v_add ⟨rfl⟩ (VE.b (v_mod (bv 5) (VE.b v_int))) (VE.b v_int))) (a_cons (bv 6) a_nil))) (fCons_len (fCons_len (fCons_len fNil_len)))))))))
theorem ok__law_other (T : Tx κ.K mg) (G__law_draw : GF P w κ mg base "_law_draw" 1 3 ⟨[0, 1, 2], [], []⟩ F__law_draw) (G__law_on : GF P w κ mg base "_law_on" 4 2 ⟨[0, 1], [], []⟩ F__law_on) (F : FunD κ.K "_law_other" "_law_other" (defArgs st__law_other) (defBody st__law_other) (defScope st__law_other) [] [] f fd) : FnOk P w κ.K mg base CX0 5 f fd ["_law_script", "_law_k", "_law_day_here"] (spZ κ ⟨[0, 1, 2], [], []⟩ 3 F__law_other) := by
  refine fn_ok (N := N__law_other) (k := 4) F sc__law_other (fun cdv A outer s H E hr => ?_)
  have hU := hr.units
  have hu := hu_of hr
  exact (s_cons (s_set (i := 3) sc__law_other.nd rfl (by first | exact .inl rfl | exact .inr rfl) rfl rfl (v_fn G__law_draw ⟨rfl⟩ (hr.mono (by decide)) (a_cons (bv 0) (a_cons (bv 1) (a_cons (VE.b v_int) a_nil))) (fCons_len (fCons_len (fCons_len fNil_len)))))
      (s_cons (s_set (i := 4) sc__law_other.nd rfl (by first | exact .inl rfl | exact .inr rfl) rfl rfl (v_sub (VE.b v_int) (bv 2)))
      (s_cons (s_set (i := 5) sc__law_other.nd rfl (by first | exact .inl rfl | exact .inr rfl) rfl rfl (v_fn G__law_draw ⟨rfl⟩ (hr.mono (by decide)) (a_cons (bv 0) (a_cons (VE.b (v_add ⟨rfl⟩ (bv 1) (VE.b v_int))) (a_cons (VE.b (v_add ⟨rfl⟩ (bv 4) (VE.b v_int))) a_nil))) (fCons_len (fCons_len (fCons_len fNil_len)))))
      (s_cons (s_if (t_lt (bv 3) (VE.b v_int)) (s_one (s_set (i := 5) sc__law_other.nd rfl (by first | exact .inl rfl | exact .inr rfl) rfl rfl (v_fn G__law_draw ⟨rfl⟩ (hr.mono (by decide)) (a_cons (bv 0) (a_cons (VE.b (v_add ⟨rfl⟩ (bv 1) (VE.b v_int))) (a_cons (VE.b (v_ix ⟨rfl⟩ hu (VE.b (v_lst (af_cons (VE.f v_int) (af_cons (VE.f v_int) af_nil)))) (bv 3))) a_nil))) (fCons_len (fCons_len (fCons_len fNil_len)))))) s_nil)
      (s_cons (s_if (t_eq ⟨rfl⟩ hU (bv 3) (VE.b v_int)) (s_one (s_set (i := 5) sc__law_other.nd rfl (by first | exact .inl rfl | exact .inr rfl) rfl rfl v_int)) s_nil)
      (s_cons (s_if (t_eq ⟨rfl⟩ hU (bv 3) (VE.b v_int)) (s_one (s_set (i := 5) sc__law_other.nd rfl (by first | exact .inl rfl | exact .inr rfl) rfl rfl (uv 4))) s_nil)
      (s_cons (s_if (t_gt (bv 3) (VE.b v_int)) (s_one (s_set (i := 5) sc__law_other.nd rfl (by first | exact .inl rfl | exact .inr rfl) rfl rfl (v_sub (VE.b (v_add ⟨rfl⟩ (VE.b (v_sub (VE.b (v_fn G__law_on ⟨rfl⟩ (hr.mono (by decide)) (a_cons (bv 2) (a_cons (VE.b (v_fn G__law_draw ⟨rfl⟩ (hr.mono (by decide)) (a_cons (bv 0) (a_cons (VE.b (v_add ⟨rfl⟩ (bv 1) (VE.b v_int))) (a_cons (VE.b (v_ix ⟨rfl⟩ hu (VE.b (v_lst (af_cons (VE.f v_int) (af_cons (VE.f v_int) af_nil)))) (VE.b (v_sub (bv 3) (VE.b v_int))))) a_nil))) (fCons_len (fCons_len (fCons_len fNil_len))))) a_nil)) (fCons_len (fCons_len fNil_len)))) (bv 2))) (VE.b (v_fn G__law_draw ⟨rfl⟩ (hr.mono (by decide)) (a_cons (bv 0) (a_cons (VE.b (v_add ⟨rfl⟩ (bv 1) (VE.b v_int))) (a_cons (VE.b v_int) a_nil))) (fCons_len (fCons_len (fCons_len fNil_len))))))) (VE.b v_int)))) s_nil)
      (s_one (s_ret (v_add ⟨rfl⟩ (bv 2) (VE.b (v_max2 T.b_max rfl (VE.b v_int) (VE.b (v_min2 T.b_min rfl (bv 5) (bv 4)))))))))))))))
theorem ok_law (T : Tx κ.K mg) (G__law_day : GF P w κ mg base "_law_day" 4 2 ⟨[0, 1], [], []⟩ F__law_day) (G__law_other : GF P w κ mg base "_law_other" 5 3 ⟨[0, 1, 2], [], []⟩ F__law_other) (G_months_between : GF P w κ mg base "months_between" 6 2 ⟨[0, 1], [], []⟩ F_months_between) (G__law_whole : GF P w κ mg base "_law_whole" 1 1 ⟨[0], [], []⟩ F__law_whole) (G__law_on : GF P w κ mg base "_law_on" 4 2 ⟨[0, 1], [], []⟩ F__law_on) (F : FunD κ.K "law" "law" (defArgs st_law) (defBody st_law) (defScope st_law) [] [] f fd) : FnOk P w κ.K mg base CX0 7 f fd ["_law_script"] (spZ κ ⟨[0], [], []⟩ 1 F_law) := by
  refine fn_ok (N := N_law) (k := 6) F sc_law (fun cdv A outer s H E hr => ?_)
  have hU := hr.units
  have hu := hu_of hr
  exact (s_cons (s_for .never rfl (i_range1 rfl T.b_range (VE.b v_int)) (g_name (i := 1) sc_law.nd rfl (by first | exact .inl rfl | exact .inr rfl) rfl rfl) (s_one (s_for .never rfl (i_range1 rfl T.b_range (VE.b v_int)) (g_name (i := 2) sc_law.nd rfl (by first | exact .inl rfl | exact .inr rfl) rfl rfl) (s_cons (s_set (i := 3) sc_law.nd rfl (by first | exact .inl rfl | exact .inr rfl) rfl rfl (v_fn G__law_day ⟨rfl⟩ (hr.mono (by decide)) (a_cons (bv 0) (a_cons (VE.b (v_mul (VE.b v_int) (bv 2))) a_nil)) (fCons_len (fCons_len fNil_len))))
      (s_cons (s_set (i := 4) sc_law.nd rfl (by first | exact .inl rfl | exact .inr rfl) rfl rfl (v_fn G__law_other ⟨rfl⟩ (hr.mono (by decide)) (a_cons (bv 0) (a_cons (VE.b (v_add ⟨rfl⟩ (VE.b (v_mul (VE.b v_int) (bv 2))) (VE.b v_int))) (a_cons (bv 3) a_nil))) (fCons_len (fCons_len (fCons_len fNil_len)))))
      (s_cons (s_set (i := 5) sc_law.nd rfl (by first | exact .inl rfl | exact .inr rfl) rfl rfl (v_fn G_months_between ⟨rfl⟩ (hr.mono (by decide)) (a_cons (bv 3) (a_cons (bv 4) a_nil)) (fCons_len (fCons_len fNil_len))))
      (s_cons (s_if (t_w (w_or (t_not (t_val (v_fn G__law_whole ⟨rfl⟩ (hr.mono (by decide)) (a_cons (bv 5) a_nil) (fCons_len fNil_len)))) (w_or1 (t_lt (bv 5) (VE.b v_int))))) (s_one (s_ret v_bl)) s_nil)
      (s_one (s_if (t_w (w_or (t_gt (VE.b (v_fn G__law_on ⟨rfl⟩ (hr.mono (by decide)) (a_cons (bv 3) (a_cons (bv 5) a_nil)) (fCons_len (fCons_len fNil_len)))) (bv 4)) (w_or1 (t_le (VE.b (v_fn G__law_on ⟨rfl⟩ (hr.mono (by decide)) (a_cons (bv 3) (a_cons (VE.b (v_add ⟨rfl⟩ (bv 5) (VE.b v_int))) a_nil)) (fCons_len (fCons_len fNil_len)))) (bv 4))))) (s_one (s_ret v_bl)) s_nil)))))))))
      (s_one (s_ret v_bl)))
end
def d_is_leap : He.DefD := ⟨("is_leap", none), "is_leap", "is_leap", defArgs st_is_leap, defBody st_is_leap, defScope st_is_leap, [], []⟩
def d_month_days : He.DefD := ⟨("month_days", none), "month_days", "month_days", defArgs st_month_days, defBody st_month_days, defScope st_month_days, [], []⟩
def d_leap_years : He.DefD := ⟨("leap_years", none), "leap_years", "leap_years", defArgs st_leap_years, defBody st_leap_years, defScope st_leap_years, [], []⟩
def d_year_begins : He.DefD := ⟨("year_begins", none), "year_begins", "year_begins", defArgs st_year_begins, defBody st_year_begins, defScope st_year_begins, [], []⟩
def d_number_of : He.DefD := ⟨("number_of", none), "number_of", "number_of", defArgs st_number_of, defBody st_number_of, defScope st_number_of, [], []⟩
def d_year_of : He.DefD := ⟨("year_of", none), "year_of", "year_of", defArgs st_year_of, defBody st_year_of, defScope st_year_of, [], []⟩
def d_date_of : He.DefD := ⟨("date_of", none), "date_of", "date_of", defArgs st_date_of, defBody st_date_of, defScope st_date_of, [], []⟩
def d_months_on : He.DefD := ⟨("months_on", none), "months_on", "months_on", defArgs st_months_on, defBody st_months_on, defScope st_months_on, [], []⟩
def d_months_between : He.DefD := ⟨("months_between", none), "months_between", "months_between", defArgs st_months_between, defBody st_months_between, defScope st_months_between, [], []⟩
def d__law_draw : He.DefD := ⟨("_law_draw", none), "_law_draw", "_law_draw", defArgs st__law_draw, defBody st__law_draw, defScope st__law_draw, [], []⟩
def d__law_whole : He.DefD := ⟨("_law_whole", none), "_law_whole", "_law_whole", defArgs st__law_whole, defBody st__law_whole, defScope st__law_whole, [], []⟩
def d__law_leap : He.DefD := ⟨("_law_leap", none), "_law_leap", "_law_leap", defArgs st__law_leap, defBody st__law_leap, defScope st__law_leap, [], []⟩
def d__law_long : He.DefD := ⟨("_law_long", none), "_law_long", "_law_long", defArgs st__law_long, defBody st__law_long, defScope st__law_long, [], []⟩
def d__law_begin : He.DefD := ⟨("_law_begin", none), "_law_begin", "_law_begin", defArgs st__law_begin, defBody st__law_begin, defScope st__law_begin, [], []⟩
def d__law_number : He.DefD := ⟨("_law_number", none), "_law_number", "_law_number", defArgs st__law_number, defBody st__law_number, defScope st__law_number, [], []⟩
def d__law_date : He.DefD := ⟨("_law_date", none), "_law_date", "_law_date", defArgs st__law_date, defBody st__law_date, defScope st__law_date, [], []⟩
def d__law_day : He.DefD := ⟨("_law_day", none), "_law_day", "_law_day", defArgs st__law_day, defBody st__law_day, defScope st__law_day, [], []⟩
def d__law_on : He.DefD := ⟨("_law_on", none), "_law_on", "_law_on", defArgs st__law_on, defBody st__law_on, defScope st__law_on, [], []⟩
def d__law_other : He.DefD := ⟨("_law_other", none), "_law_other", "_law_other", defArgs st__law_other, defBody st__law_other, defScope st__law_other, [], []⟩
def d_law : He.DefD := ⟨("law", none), "law", "law", defArgs st_law, defBody st_law, defScope st_law, [], []⟩
def fn : List He.DefD := [d_is_leap, d_month_days, d_leap_years, d_year_begins, d_number_of, d_year_of, d_date_of, d_months_on, d_months_between, d__law_draw, d__law_whole, d__law_leap, d__law_long, d__law_begin, d__law_number, d__law_date, d__law_day, d__law_on, d__law_other, d_law]
def fa : List He.Fa := [.glo "is_leap", .glo "month_days", .glo "leap_years", .glo "year_begins", .glo "number_of", .glo "year_of", .glo "date_of", .glo "months_on", .glo "months_between", .glo "_law_draw", .glo "_law_whole", .glo "_law_leap", .glo "_law_long", .glo "_law_begin", .glo "_law_number", .glo "_law_date", .glo "_law_day", .glo "_law_on", .glo "_law_other", .glo "law", .free "bool", .free "int", .free "isinstance", .free "len", .free "max", .free "min", .free "range", .free "sum", .int "FIRST_YEAR" 2000, .glo "LENGTHS"]
def exB (K : PySem.W.Frag) : Bool := He.tupB K "LENGTHS" [.int 31, .int 28, .int 31, .int 30, .int 31, .int 30, .int 31, .int 31, .int 30, .int 31, .int 30, .int 31]
abbrev R0 : PySem.W.OpenRow := PySem.W.OpenLaw.row PySem.Challenge.rw_loanroll_k14_months_between
abbrev hk : PySem.W.Hook := He.hookX 5 fa fn [] [] exB
def ob (s : PySem.W.SharedT) : He.AlX := He.obsX 5 fa fn [] [] exB (HandSHeadRun.getT s)
theorem ob_eq (s : PySem.W.SharedT) : ob s = hk.obs s.abs := He.obsX_eq (HandSHeadRun.getT_eq s)
theorem run (w : World) : HandSHeadRun.RunEq R0 (PySem.W.view R0.prog [24]) hk ob 20000 (["FIRST_YEAR", "LENGTHS", "is_leap", "month_days", "leap_years", "year_begins", "number_of", "year_of", "date_of", "months_on", "months_between", "_law_draw", "_law_whole", "_law_leap", "_law_long", "_law_begin", "_law_number", "_law_date", "_law_day", "_law_on", "_law_other"]) w := by
  intro os
  kernel_rfl
def kx (K : PySem.W.Frag) : Kx := ⟨K, fun _ => 0, 0, fun _ => "", 0⟩
theorem bind1 {f : Addr} {fd : FuncData} {K : PySem.W.Frag} (F : FunD K "law" "law" (defArgs st_law) (defBody st_law) (defScope st_law) [] [] f fd) (s : Shared) (v : Value) : BindsTo s fd ⟨[v], []⟩ [("_law_script", v)] :=
  FunD.bindsA (ps := ["_law_script"]) F (fun _ _ _ _ _ _ us hl => match us, hl with | [_], _ => rfl) s [v] rfl
theorem facts {P : Program} {w : World} {K : PySem.W.Frag} {h : Heap} {mg : Str → Option Value} {fl : Addr} (X : K.In h) (G : h.Ns mainGlobals mg) (hfa : mg ("law" : Str) = some (.ref fl)) (c : He.SaysX fa fn [] [] exB w h K) :
    ∃ fd : FuncData, (∀ (s : Shared) (v : Value), BindsTo s fd ⟨[v], []⟩ [("_law_script", v)]) ∧ ∀ base : Heap, K.In base → base.Ns mainGlobals mg → FnOk P w K mg base CX0 7 fl fd ["_law_script"] (spZ (kx K) ⟨[0], [], []⟩ 1 F_law) := by
  have cd : He.SaysD fa fn K := congrArg (fun z : He.AlT => z.1) c.t
  have cx : exB K = true := c.more
  have T : Tx K mg := ⟨He.free_ok X G (cd.fact 20 (f := .free "bool") rfl), He.free_ok X G (cd.fact 21 (f := .free "int") rfl), He.free_ok X G (cd.fact 22 (f := .free "isinstance") rfl), He.free_ok X G (cd.fact 23 (f := .free "len") rfl), He.free_ok X G (cd.fact 24 (f := .free "max") rfl), He.free_ok X G (cd.fact 25 (f := .free "min") rfl), He.free_ok X G (cd.fact 26 (f := .free "range") rfl), He.free_ok X G (cd.fact 27 (f := .free "sum") rfl), He.int_ok X G (cd.fact 28 (f := .int "FIRST_YEAR" 2000) rfl), He.glo_ok X G (cd.fact 29 (f := .glo "LENGTHS") rfl), He.tupB_ok cx nil0⟩
  obtain ⟨fd_is_leap, Fd_is_leap⟩ := cd.def_ 0 (d := d_is_leap) rfl
  obtain ⟨fd_month_days, Fd_month_days⟩ := cd.def_ 1 (d := d_month_days) rfl
  obtain ⟨fd_leap_years, Fd_leap_years⟩ := cd.def_ 2 (d := d_leap_years) rfl
  obtain ⟨fd_year_begins, Fd_year_begins⟩ := cd.def_ 3 (d := d_year_begins) rfl
  obtain ⟨fd_number_of, Fd_number_of⟩ := cd.def_ 4 (d := d_number_of) rfl
  obtain ⟨fd_year_of, Fd_year_of⟩ := cd.def_ 5 (d := d_year_of) rfl
  obtain ⟨fd_date_of, Fd_date_of⟩ := cd.def_ 6 (d := d_date_of) rfl
  obtain ⟨fd_months_on, Fd_months_on⟩ := cd.def_ 7 (d := d_months_on) rfl
  obtain ⟨fd_months_between, Fd_months_between⟩ := cd.def_ 8 (d := d_months_between) rfl
  obtain ⟨fd__law_draw, Fd__law_draw⟩ := cd.def_ 9 (d := d__law_draw) rfl
  obtain ⟨fd__law_whole, Fd__law_whole⟩ := cd.def_ 10 (d := d__law_whole) rfl
  obtain ⟨fd__law_leap, Fd__law_leap⟩ := cd.def_ 11 (d := d__law_leap) rfl
  obtain ⟨fd__law_long, Fd__law_long⟩ := cd.def_ 12 (d := d__law_long) rfl
  obtain ⟨fd__law_begin, Fd__law_begin⟩ := cd.def_ 13 (d := d__law_begin) rfl
  obtain ⟨fd__law_number, Fd__law_number⟩ := cd.def_ 14 (d := d__law_number) rfl
  obtain ⟨fd__law_date, Fd__law_date⟩ := cd.def_ 15 (d := d__law_date) rfl
  obtain ⟨fd__law_day, Fd__law_day⟩ := cd.def_ 16 (d := d__law_day) rfl
  obtain ⟨fd__law_on, Fd__law_on⟩ := cd.def_ 17 (d := d__law_on) rfl
  obtain ⟨fd__law_other, Fd__law_other⟩ := cd.def_ 18 (d := d__law_other) rfl
  obtain ⟨fd_law, Fd_law⟩ := cd.def_ 19 (d := d_law) rfl
  have e := hfa.symm.trans (He.glo_ok X G (cd.fact 19 (f := .glo "law") rfl))
  cases e
  refine ⟨fd_law, bind1 Fd_law, fun base _ _ => ?_⟩
  have G_is_leap : GF P w (kx K) mg base "is_leap" 1 1 ⟨[0], [], []⟩ F_is_leap := ⟨_, fd_is_leap, _, ok_is_leap (κ := kx K) T  Fd_is_leap, He.glo_ok X G (cd.fact 0 (f := .glo "is_leap") rfl), Fd_is_leap.kp, Fd_is_leap.bindsN fun _ _ _ _ _ _ us hl => match us, hl with | [_], _ => rfl⟩
  have G_month_days : GF P w (kx K) mg base "month_days" 2 2 ⟨[0, 1], [], []⟩ F_month_days := ⟨_, fd_month_days, _, ok_month_days (κ := kx K) T G_is_leap Fd_month_days, He.glo_ok X G (cd.fact 1 (f := .glo "month_days") rfl), Fd_month_days.kp, Fd_month_days.bindsN fun _ _ _ _ _ _ us hl => match us, hl with | [_, _], _ => rfl⟩
  have G_leap_years : GF P w (kx K) mg base "leap_years" 1 1 ⟨[0], [], []⟩ F_leap_years := ⟨_, fd_leap_years, _, ok_leap_years (κ := kx K) T  Fd_leap_years, He.glo_ok X G (cd.fact 2 (f := .glo "leap_years") rfl), Fd_leap_years.kp, Fd_leap_years.bindsN fun _ _ _ _ _ _ us hl => match us, hl with | [_], _ => rfl⟩
  have G_year_begins : GF P w (kx K) mg base "year_begins" 2 1 ⟨[0], [], []⟩ F_year_begins := ⟨_, fd_year_begins, _, ok_year_begins (κ := kx K) T G_leap_years Fd_year_begins, He.glo_ok X G (cd.fact 3 (f := .glo "year_begins") rfl), Fd_year_begins.kp, Fd_year_begins.bindsN fun _ _ _ _ _ _ us hl => match us, hl with | [_], _ => rfl⟩
  have G_number_of : GF P w (kx K) mg base "number_of" 3 3 ⟨[0, 1, 2], [], []⟩ F_number_of := ⟨_, fd_number_of, _, ok_number_of (κ := kx K) T G_month_days G_year_begins Fd_number_of, He.glo_ok X G (cd.fact 4 (f := .glo "number_of") rfl), Fd_number_of.kp, Fd_number_of.bindsN fun _ _ _ _ _ _ us hl => match us, hl with | [_, _, _], _ => rfl⟩
  have G_year_of : GF P w (kx K) mg base "year_of" 3 1 ⟨[0], [], []⟩ F_year_of := ⟨_, fd_year_of, _, ok_year_of (κ := kx K) T G_year_begins Fd_year_of, He.glo_ok X G (cd.fact 5 (f := .glo "year_of") rfl), Fd_year_of.kp, Fd_year_of.bindsN fun _ _ _ _ _ _ us hl => match us, hl with | [_], _ => rfl⟩
  have G_date_of : GF P w (kx K) mg base "date_of" 4 1 ⟨[0], [], []⟩ F_date_of := ⟨_, fd_date_of, _, ok_date_of (κ := kx K) T G_year_of G_year_begins G_month_days Fd_date_of, He.glo_ok X G (cd.fact 6 (f := .glo "date_of") rfl), Fd_date_of.kp, Fd_date_of.bindsN fun _ _ _ _ _ _ us hl => match us, hl with | [_], _ => rfl⟩
  have G_months_on : GF P w (kx K) mg base "months_on" 5 2 ⟨[0, 1], [], []⟩ F_months_on := ⟨_, fd_months_on, _, ok_months_on (κ := kx K) T G_date_of G_number_of G_month_days Fd_months_on, He.glo_ok X G (cd.fact 7 (f := .glo "months_on") rfl), Fd_months_on.kp, Fd_months_on.bindsN fun _ _ _ _ _ _ us hl => match us, hl with | [_, _], _ => rfl⟩
  have G_months_between : GF P w (kx K) mg base "months_between" 6 2 ⟨[0, 1], [], []⟩ F_months_between := ⟨_, fd_months_between, _, ok_months_between (κ := kx K) T G_date_of G_months_on Fd_months_between, He.glo_ok X G (cd.fact 8 (f := .glo "months_between") rfl), Fd_months_between.kp, Fd_months_between.bindsN fun _ _ _ _ _ _ us hl => match us, hl with | [_, _], _ => rfl⟩
  have G__law_draw : GF P w (kx K) mg base "_law_draw" 1 3 ⟨[0, 1, 2], [], []⟩ F__law_draw := ⟨_, fd__law_draw, _, ok__law_draw (κ := kx K) T  Fd__law_draw, He.glo_ok X G (cd.fact 9 (f := .glo "_law_draw") rfl), Fd__law_draw.kp, Fd__law_draw.bindsN fun _ _ _ _ _ _ us hl => match us, hl with | [_, _, _], _ => rfl⟩
  have G__law_whole : GF P w (kx K) mg base "_law_whole" 1 1 ⟨[0], [], []⟩ F__law_whole := ⟨_, fd__law_whole, _, ok__law_whole (κ := kx K) T  Fd__law_whole, He.glo_ok X G (cd.fact 10 (f := .glo "_law_whole") rfl), Fd__law_whole.kp, Fd__law_whole.bindsN fun _ _ _ _ _ _ us hl => match us, hl with | [_], _ => rfl⟩
  have G__law_leap : GF P w (kx K) mg base "_law_leap" 1 1 ⟨[0], [], []⟩ F__law_leap := ⟨_, fd__law_leap, _, ok__law_leap (κ := kx K) T  Fd__law_leap, He.glo_ok X G (cd.fact 11 (f := .glo "_law_leap") rfl), Fd__law_leap.kp, Fd__law_leap.bindsN fun _ _ _ _ _ _ us hl => match us, hl with | [_], _ => rfl⟩
  have G__law_long : GF P w (kx K) mg base "_law_long" 2 2 ⟨[0, 1], [], []⟩ F__law_long := ⟨_, fd__law_long, _, ok__law_long (κ := kx K) T G__law_leap Fd__law_long, He.glo_ok X G (cd.fact 12 (f := .glo "_law_long") rfl), Fd__law_long.kp, Fd__law_long.bindsN fun _ _ _ _ _ _ us hl => match us, hl with | [_, _], _ => rfl⟩
  have G__law_begin : GF P w (kx K) mg base "_law_begin" 1 1 ⟨[0], [], []⟩ F__law_begin := ⟨_, fd__law_begin, _, ok__law_begin (κ := kx K) T  Fd__law_begin, He.glo_ok X G (cd.fact 13 (f := .glo "_law_begin") rfl), Fd__law_begin.kp, Fd__law_begin.bindsN fun _ _ _ _ _ _ us hl => match us, hl with | [_], _ => rfl⟩
  have G__law_number : GF P w (kx K) mg base "_law_number" 3 3 ⟨[0, 1, 2], [], []⟩ F__law_number := ⟨_, fd__law_number, _, ok__law_number (κ := kx K) T G__law_begin G__law_long Fd__law_number, He.glo_ok X G (cd.fact 14 (f := .glo "_law_number") rfl), Fd__law_number.kp, Fd__law_number.bindsN fun _ _ _ _ _ _ us hl => match us, hl with | [_, _, _], _ => rfl⟩
  have G__law_date : GF P w (kx K) mg base "_law_date" 3 1 ⟨[0], [], []⟩ F__law_date := ⟨_, fd__law_date, _, ok__law_date (κ := kx K) T G__law_begin G__law_long Fd__law_date, He.glo_ok X G (cd.fact 15 (f := .glo "_law_date") rfl), Fd__law_date.kp, Fd__law_date.bindsN fun _ _ _ _ _ _ us hl => match us, hl with | [_], _ => rfl⟩
  have G__law_day : GF P w (kx K) mg base "_law_day" 4 2 ⟨[0, 1], [], []⟩ F__law_day := ⟨_, fd__law_day, _, ok__law_day (κ := kx K) T G__law_draw G__law_number Fd__law_day, He.glo_ok X G (cd.fact 16 (f := .glo "_law_day") rfl), Fd__law_day.kp, Fd__law_day.bindsN fun _ _ _ _ _ _ us hl => match us, hl with | [_, _], _ => rfl⟩
  have G__law_on : GF P w (kx K) mg base "_law_on" 4 2 ⟨[0, 1], [], []⟩ F__law_on := ⟨_, fd__law_on, _, ok__law_on (κ := kx K) T G__law_date G__law_number G__law_long Fd__law_on, He.glo_ok X G (cd.fact 17 (f := .glo "_law_on") rfl), Fd__law_on.kp, Fd__law_on.bindsN fun _ _ _ _ _ _ us hl => match us, hl with | [_, _], _ => rfl⟩
  have G__law_other : GF P w (kx K) mg base "_law_other" 5 3 ⟨[0, 1, 2], [], []⟩ F__law_other := ⟨_, fd__law_other, _, ok__law_other (κ := kx K) T G__law_draw G__law_on Fd__law_other, He.glo_ok X G (cd.fact 18 (f := .glo "_law_other") rfl), Fd__law_other.kp, Fd__law_other.bindsN fun _ _ _ _ _ _ us hl => match us, hl with | [_, _, _], _ => rfl⟩
  exact ok_law (κ := kx K) T G__law_day G__law_other G_months_between G__law_whole G__law_on Fd_law
end Lw
open PySem PySem.W PySem.Calls PyProof.Rows
theorem Lw.holds (pure : ∀ ns : List Int, ns.length ≤ 63 → ∃ outs, Lw.F_law [.fz (.scr ns)] = .ok (.fz (.bl true), outs)) : PySem.Challenge.rw_loanroll_k14_months_between.Holds := by
  w_on; o_law
  refine HandSHeadRun.head_any (r := OpenLaw.row PySem.Challenge.rw_loanroll_k14_months_between) (q := view (OpenLaw.row PySem.Challenge.rw_loanroll_k14_months_between).prog [24]) (H := Lw.hk) (ob := Lw.ob) (M := 20000) (loose := (["FIRST_YEAR", "LENGTHS", "is_leap", "month_days", "leap_years", "year_begins", "number_of", "year_of", "date_of", "months_on", "months_between", "_law_draw", "_law_whole", "_law_leap", "_law_long", "_law_begin", "_law_number", "_law_date", "_law_day", "_law_on", "_law_other"])) (d := HandSHeadRun.topDef (OpenLaw.row PySem.Challenge.rw_loanroll_k14_months_between).prog 24) (kwd := []) Lw.ob_eq
    (by kernel_rfl) (fun s => by kernel_rfl) Lw.run (by kernel_rfl) (by kernel_rfl) (by kernel_rfl) (by rfl) (by first | assumption | decide +kernel) (by decide +kernel) ⟨rfl, rfl, rfl, rfl, rfl, by decide +kernel⟩ ?hw ?hc
  case hw => w_witness2
  case hc =>
    refine L2.walk_ofE (l := PySem.Challenge.rw_loanroll_k14_months_between) (n := 63) (k := 7) (x := "_law_script") (CX := L2.CX0) rfl (by decide) (by kernel_rfl) ⟨rfl, by decide, by decide⟩ ?F (fun _ _ _ _ z => z)
    intro w mg fa h Y G hmg0
    obtain ⟨K, KX, c⟩ := Y
    have hmg : mg ("law" : PySem.Str) = some (.ref fa) := by
      have e : (HandSHeadRun.topDef (OpenLaw.row PySem.Challenge.rw_loanroll_k14_months_between).prog 24).name = ("law" : PySem.Str) := by kernel_rfl
      rw [← e]
      exact hmg0
    obtain ⟨fd, hb, hF⟩ := Lw.facts (P := (PySem.Challenge.rw_loanroll_k14_months_between).prog) (w := w) KX G hmg c
    exact ⟨K, fd, _, KX, hb, fun H a ns hl hO hS => Z.law_end (κ := Lw.kx K) hO hS (pure ns hl), hF⟩

set_option Elab.async false
set_option linter.all false
set_option maxRecDepth 100000
set_option maxHeartbeats 2000000
/-! EVALUATION: the meanings as equations for simp -/
namespace Z
open PySem PySem.Spec PyProof.Rows L2
/-! outcomes -/
def Out.seq (o : Out) (h : Env → Out) : Out := match o with
  | .nx e => h e
  | o => o
@[simp] theorem gSeq_ap (g h : SemS) (env : Env) : gSeq g h env = (g env).seq h := rfl
@[simp] theorem seq_nx (e : Env) (h : Env → Out) : (Out.nx e).seq h = h e := rfl
@[simp] theorem seq_rt (m : M) (e : Env) (h : Env → Out) : (Out.rt m e).seq h = .rt m e := rfl
@[simp] theorem seq_bk (e : Env) (h : Env → Out) : (Out.bk e).seq h = .bk e := rfl
@[simp] theorem seq_ct (e : Env) (h : Env → Out) : (Out.ct e).seq h = .ct e := rfl
@[simp] theorem seq_ite (c : Prop) [Decidable c] (a b : Out) (h : Env → Out) : (if c then a else b).seq h = if c then a.seq h else b.seq h := by split <;> rfl
def Out.fin (o : Out) (md : Md) (k : Nat) : R (M × Env) := match o with
  | .rt m e => .ok (m, outsOf md k e)
  | .nx e => .ok (.fz .non, outsOf md k e)
  | .exc c ds => .exc c ds
  | _ => .stuck
@[simp] theorem fin_rt (m : M) (e : Env) (md : Md) (k : Nat) : (Out.rt m e).fin md k = .ok (m, outsOf md k e) := rfl
@[simp] theorem fin_nx (e : Env) (md : Md) (k : Nat) : (Out.nx e).fin md k = .ok (.fz .non, outsOf md k e) := rfl
@[simp] theorem fin_ite (c : Prop) [Decidable c] (a b : Out) (md : Md) (k : Nat) : (if c then a else b).fin md k = if c then a.fin md k else b.fin md k := by split <;> rfl
theorem runF_ap (n : Nat) (md : Md) (g : SemS) (ms : List M) (h : shrOk md 0 ms = true) : runF n md g ms = (g (ms.map some ++ List.replicate (n - ms.length) none)).fin md ms.length := by
  unfold runF
  rw [if_pos h]
  cases g (ms.map some ++ List.replicate (n - ms.length) none) <;> rfl
@[simp] theorem shrOk_nil (md : Md) (i : Nat) : shrOk md i [] = true := rfl
@[simp] theorem shrOk_fz (md : Md) (i : Nat) (d : D) (r : List M) : shrOk md i (.fz d :: r) = shrOk md (i + 1) r := rfl
@[simp] theorem shrOk_lst (md : Md) (i : Nat) (d : List D) (r : List M) : shrOk md i (.lst d :: r) = ((md.ro.contains i || md.mu.contains i) && shrOk md (i + 1) r) := rfl
/-- a call, by the body's outcome -/
theorem fnM_run {md : Md} {n : Nat} {g : SemS} {ms : List M} (h : shrOk md 0 ms = true) : fnM md (runF n md g) ms = ((g (ms.map some ++ List.replicate (n - ms.length) none)).fin md ms.length).bind fun r => .ok r.1 := by
  unfold fnM
  rw [if_pos h, runF_ap n md g ms h]
@[simp] theorem bind_ite {α β : Type} (c : Prop) [Decidable c] (a b : R α) (f : α → R β) : (if c then a else b).bind f = if c then a.bind f else b.bind f := by split <;> rfl
/-! expressions -/
@[simp] theorem fC_ap (d : D) (env : Env) : fC d env = .ok (.fz d) := rfl
@[simp] theorem fBin_ap (op : M → M → R M) (f g : SemE) (env : Env) : fBin op f g env = (f env).bind fun x => (g env).bind fun y => op x y := rfl
@[simp] theorem fUn_ap (op : M → R M) (f : SemE) (env : Env) : fUn op f env = (f env).bind op := rfl
@[simp] theorem fVar_0 (m : M) (e : Env) : fVar 0 (some m :: e) = .ok m := rfl
@[simp] theorem fVar_s (i : Nat) (o : Option M) (e : Env) : fVar (i + 1) (o :: e) = fVar i e := by simp [fVar]
@[simp] theorem fUse_0 (d : D) (e : Env) : fUse 0 (some (.fz d) :: e) = .ok (.fz d) := rfl
@[simp] theorem fUse_s (i : Nat) (o : Option M) (e : Env) : fUse (i + 1) (o :: e) = fUse i e := by simp [fUse]
@[simp] theorem fTest_ap (f : SemE) (env : Env) : fTest f env = (f env).bind blM := rfl
@[simp] theorem blM_b (b : Bool) : blM (.fz (.bl b)) = .ok b := rfl
@[simp] theorem fAnd_ap (f g : SemT) (env : Env) : fAnd f g env = (f env).bind fun b => if b = true then g env else .ok false := rfl
@[simp] theorem fOr_ap (f g : SemT) (env : Env) : fOr f g env = (f env).bind fun b => if b = true then .ok true else g env := rfl
@[simp] theorem fNot_ap (f : SemT) (env : Env) : fNot f env = (f env).bind fun b => .ok (!b) := rfl
@[simp] theorem fAndV_ap (f g : SemE) (env : Env) : fAndV f g env = (f env).bind fun x => (blM x).bind fun k => if k = true then g env else .ok (.fz (.bl false)) := rfl
@[simp] theorem fOrV_ap (f g : SemE) (env : Env) : fOrV f g env = (f env).bind fun x => (blM x).bind fun k => if k = true then .ok (.fz (.bl true)) else g env := rfl
@[simp] theorem fNotV_ap (f : SemE) (env : Env) : fNotV f env = (f env).bind fun x => (blM x).bind fun k => .ok (.fz (.bl (!k))) := rfl
@[simp] theorem fIfE_ap (t : SemT) (f g : SemE) (env : Env) : fIfE t f g env = (t env).bind fun k => if k = true then f env else g env := rfl
@[simp] theorem fChain_ap (o o' : M → M → R M) (f g h : SemE) (env : Env) : fChain o o' f g h env = (f env).bind fun x => (g env).bind fun y => (o x y).bind fun z => (blM z).bind fun k => if k = true then (h env).bind fun w => o' y w else .ok (.fz (.bl false)) := rfl
@[simp] theorem fCall_ap (op : List M → R M) (g : Env → R (List M)) (env : Env) : fCall op g env = (g env).bind op := rfl
@[simp] theorem fCons_ap (f : SemE) (g : Env → R (List M)) (env : Env) : fCons f g env = (f env).bind fun x => (g env).bind fun xs => .ok (x :: xs) := rfl
@[simp] theorem fNil_ap (env : Env) : fNil env = .ok [] := rfl
@[simp] theorem fFz_ap (f : SemE) (env : Env) : fFz f env = (f env).bind fun m => .ok (.fz m.er) := rfl
@[simp] theorem er_fz (d : D) : (M.fz d).er = d := rfl
@[simp] theorem er_lst (d : List D) : (M.lst d).er = .lst d := rfl
@[simp] theorem er_dct (d : List (Key × D)) : (M.dct d).er = .dct d := rfl
@[simp] theorem fTup_ap (fs : List SemE) (env : Env) : fTup fs env = (evL fs env).bind fun ds => .ok (.fz (.tup ds)) := rfl
@[simp] theorem fLst_ap (fs : List SemE) (env : Env) : fLst fs env = (evL fs env).bind fun ds => .ok (.lst ds) := rfl
@[simp] theorem evL_nil (env : Env) : evL [] env = .ok [] := rfl
@[simp] theorem evL_cons (f : SemE) (fs : List SemE) (env : Env) : evL (f :: fs) env = (f env).bind fun m => (evL fs env).bind fun ds => .ok (m.er :: ds) := rfl
@[simp] theorem op1_ap (f : M → R M) (m : M) : op1 f [m] = f m := rfl
@[simp] theorem op2_ap (f : M → M → R M) (m n : M) : op2 f [m, n] = f m n := rfl
/-! ints -/
@[simp] theorem addM_i (i j : Int) : addM (.fz (.int i)) (.fz (.int j)) = .ok (.fz (.int (i + j))) := rfl
@[simp] theorem subM_i (i j : Int) : subM (.fz (.int i)) (.fz (.int j)) = .ok (.fz (.int (i - j))) := rfl
@[simp] theorem negM_i (i : Int) : negM (.fz (.int i)) = .ok (.fz (.int (-i))) := rfl
@[simp] theorem augA_i (i j : Int) : intOp yes (fun a b => .int (a + b)) (.fz (.int i)) (.fz (.int j)) = .ok (.fz (.int (i + j))) := rfl
@[simp] theorem augS_i (i j : Int) : intOp yes (fun a b => .int (a - b)) (.fz (.int i)) (.fz (.int j)) = .ok (.fz (.int (i - j))) := rfl
theorem mulM_l {i j : Int} (h : -18446744073709551616 < i ∧ i < 18446744073709551616) : mulM (.fz (.int i)) (.fz (.int j)) = .ok (.fz (.int (i * j))) := by
  have h1 : mulC i j = true := by
    unfold mulC
    rw [Bool.or_eq_true]
    exact .inl (decide_eq_true (.inl (by omega)))
  show guard (mulC i j) _ = _
  rw [h1]
  rfl
theorem mulM_r {i j : Int} (h : -18446744073709551616 < j ∧ j < 18446744073709551616) : mulM (.fz (.int i)) (.fz (.int j)) = .ok (.fz (.int (i * j))) := by
  have h1 : mulC i j = true := by
    unfold mulC
    rw [Bool.or_eq_true]
    exact .inl (decide_eq_true (.inr (by omega)))
  show guard (mulC i j) _ = _
  rw [h1]
  rfl
theorem fdivM_i {i j : Int} (h : 0 < j ∧ j < 18446744073709551616) : fdivM (.fz (.int i)) (.fz (.int j)) = .ok (.fz (.int (i / j))) := by
  have h1 : fdivC i j = true := by
    unfold fdivC
    rw [Bool.and_eq_true]
    refine ⟨decide_eq_true h.1, decide_eq_true ?_⟩
    have : j.natAbs < 2 ^ 64 := by omega
    exact Nat.lt_of_lt_of_le (PySem.Flt.log2_lt_of (by decide) this) (by decide)
  show guard (fdivC i j) _ = _
  rw [h1]
  rfl
theorem modM_i {i j : Int} (h : 0 < j) : modM (.fz (.int i)) (.fz (.int j)) = .ok (.fz (.int (i % j))) := by
  show guard (decide (0 < j)) _ = _
  rw [decide_eq_true h]
  rfl
theorem powM_i {i j : Int} (h : (-18446744073709551616 < i ∧ i < 18446744073709551616) ∧ 0 ≤ j ∧ j ≤ 1000000) : powM (.fz (.int i)) (.fz (.int j)) = .ok (.fz (.int (i ^ j.toNat))) := by
  show guard (decide (0 ≤ j ∧ j ≤ 1000000 ∧ i.natAbs < 2 ^ 64)) _ = _
  rw [decide_eq_true (by omega)]
  rfl
@[simp] theorem ltM_i (i j : Int) : ltM (.fz (.int i)) (.fz (.int j)) = .ok (.fz (.bl (decide (i < j)))) := rfl
@[simp] theorem leM_i (i j : Int) : leM (.fz (.int i)) (.fz (.int j)) = .ok (.fz (.bl (decide (i ≤ j)))) := rfl
@[simp] theorem gtM_i (i j : Int) : gtM (.fz (.int i)) (.fz (.int j)) = .ok (.fz (.bl (decide (j < i)))) := rfl
@[simp] theorem geM_i (i j : Int) : geM (.fz (.int i)) (.fz (.int j)) = .ok (.fz (.bl (decide (j ≤ i)))) := rfl
@[simp] theorem eqM_i (i j : Int) : eqM (.fz (.int i)) (.fz (.int j)) = .ok (.fz (.bl (decide (i = j)))) := by
  show guard _ _ = _
  rw [show (SeqAt.shaped (PyData.int i) && SeqAt.shaped (PyData.int j)) = true from rfl]
  show R.ok (M.fz (D.bl (i == j))) = _
  rw [Bool.beq_eq_decide_eq]
@[simp] theorem neM_i (i j : Int) : neM (.fz (.int i)) (.fz (.int j)) = .ok (.fz (.bl (!decide (i = j)))) := by
  show guard _ _ = _
  rw [show (SeqAt.shaped (PyData.int i) && SeqAt.shaped (PyData.int j)) = true from rfl]
  show R.ok (M.fz (D.bl (!(i == j)))) = _
  rw [Bool.beq_eq_decide_eq]
@[simp] theorem eqM_b (i j : Bool) : eqM (.fz (.bl i)) (.fz (.bl j)) = .ok (.fz (.bl (decide (i = j)))) := by
  cases i <;> cases j <;> rfl
@[simp] theorem neM_b (i j : Bool) : neM (.fz (.bl i)) (.fz (.bl j)) = .ok (.fz (.bl (!decide (i = j)))) := by
  cases i <;> cases j <;> rfl
@[simp] theorem int1M_i (i : Int) : int1M (.fz (.int i)) = .ok (.fz (.int i)) := rfl
@[simp] theorem int1M_b (b : Bool) : int1M (.fz (.bl b)) = .ok (.fz (.int (if b then 1 else 0))) := rfl
@[simp] theorem min2M_i (i j : Int) : min2M (.fz (.int i)) (.fz (.int j)) = .ok (.fz (.int (min i j))) := by
  show R.ok (M.fz (D.int (if j < i then j else i))) = _
  congr 3
  omega
@[simp] theorem max2M_i (i j : Int) : max2M (.fz (.int i)) (.fz (.int j)) = .ok (.fz (.int (max i j))) := by
  show R.ok (M.fz (D.int (if j > i then j else i))) = _
  congr 3
  omega
@[simp] theorem absM_i (i : Int) : absM (.fz (.int i)) = .ok (.fz (.int (if i < 0 then -i else i))) := rfl
@[simp] theorem isTM_int_i (i : Int) : isTM .int (.fz (.int i)) = .ok (.fz (.bl true)) := rfl
@[simp] theorem isTM_bool_i (i : Int) : isTM .bool (.fz (.int i)) = .ok (.fz (.bl false)) := rfl
@[simp] theorem isTM_int_b (i : Bool) : isTM .int (.fz (.bl i)) = .ok (.fz (.bl true)) := rfl
@[simp] theorem isTM_bool_b (i : Bool) : isTM .bool (.fz (.bl i)) = .ok (.fz (.bl true)) := rfl
@[simp] theorem isTM_tuple_t (l : List D) : isTM .tuple (.fz (.tup l)) = .ok (.fz (.bl true)) := rfl
@[simp] theorem isTM_list_l (l : List D) : isTM .list (.lst l) = .ok (.fz (.bl true)) := rfl
@[simp] theorem isTM_list_f (l : List D) : isTM .list (.fz (.lst l)) = .ok (.fz (.bl true)) := rfl
/-! lists -/
@[simp] theorem lenM_l (l : List D) : lenM (.lst l) = .ok (.fz (.int l.length)) := rfl
@[simp] theorem lenM_f (l : List D) : lenM (.fz (.lst l)) = .ok (.fz (.int l.length)) := rfl
@[simp] theorem lenM_t (l : List D) : lenM (.fz (.tup l)) = .ok (.fz (.int l.length)) := rfl
@[simp] theorem lenM_s (l : List Int) : lenM (.fz (.scr l)) = .ok (.fz (.int l.length)) := rfl
theorem atI_nat {α : Type} {xs : List α} {i : Int} (h0 : 0 ≤ i) (h1 : i < xs.length) : atI xs i = xs[i.toNat]? := by
  unfold atI ixN
  rw [if_pos h0, if_pos h1]
  rfl
theorem ixM_scr {ns : List Int} {i : Int} {d : Int} (h : atI ns i = some d) : ixM (.fz (.scr ns)) (.fz (.int i)) = .ok (.fz (.int d)) := by
  show (match atI ns i with | some d => R.ok (M.fz (.int d)) | none => .stuck) = _
  rw [h]
theorem ixM_ktp {ns : List D} {i : Int} {d : D} (h : atI ns i = some d) : ixM (.fz (.ktp ns)) (.fz (.int i)) = .ok (.fz d) := by
  show (match atI ns i with | some d => R.ok (M.fz d) | none => .stuck) = _
  rw [h]
theorem ixM_tup {ns : List D} {i : Int} {d : D} (h : atI ns i = some d) : ixM (.fz (.tup ns)) (.fz (.int i)) = .ok (.fz d) := by
  show (match atI ns i with | some d => R.ok (M.fz d) | none => .stuck) = _
  rw [h]
theorem ixM_lst {ns : List D} {i : Int} {d : D} (h : atI ns i = some d) : ixM (.lst ns) (.fz (.int i)) = .ok (.fz d) := by
  show (match atI ns i with | some d => R.ok (M.fz d) | none => .stuck) = _
  rw [h]
theorem ixM_flst {ns : List D} {i : Int} {d : D} (h : atI ns i = some d) : ixM (.fz (.lst ns)) (.fz (.int i)) = .ok (.fz d) := by
  show (match atI ns i with | some d => R.ok (M.fz d) | none => .stuck) = _
  rw [h]
@[simp] theorem listOf_l (l : List D) : listOf (.lst l) = .ok l := rfl
@[simp] theorem listOf_f (l : List D) : listOf (.fz (.lst l)) = .ok l := rfl
@[simp] theorem listOf_t (l : List D) : listOf (.fz (.tup l)) = .ok l := rfl
@[simp] theorem listOf_s (l : List Int) : listOf (.fz (.scr l)) = .ok (l.map D.int) := rfl
@[simp] theorem list1M_ap (m : M) : list1M m = (listOf m).bind fun ds => .ok (.lst ds) := rfl
@[simp] theorem fList_ap (f : SemE) (env : Env) : fList f env = (f env).bind listOf := rfl
theorem intsM_map (ns : List Int) : intsM (.lst (ns.map D.int)) = .ok ns := by
  show (match intsD (ns.map D.int) with | some ns => R.ok ns | none => .stuck) = _
  rw [intsD_map]
theorem sumM_map (ns : List Int) : sumM (.lst (ns.map D.int)) = .ok (.fz (.int ns.sum)) := by
  unfold sumM
  rw [intsM_map]
  rfl
theorem sumM_f (ns : List Int) : sumM (.fz (.lst (ns.map D.int))) = .ok (.fz (.int ns.sum)) := by
  show (match intsD (ns.map D.int) with | some ns => R.ok ns | none => .stuck).bind _ = _
  rw [intsD_map]
  rfl
/-! statements -/
@[simp] theorem obind_ok (m : M) (k : M → Out) : obind (.ok m) k = k m := rfl
@[simp] theorem obind_ite (c : Prop) [Decidable c] (a b : R M) (k : M → Out) : obind (if c then a else b) k = if c then obind a k else obind b k := by split <;> rfl
@[simp] theorem tbind_ok (m : Bool) (k : Bool → Out) : tbind (.ok m) k = k m := rfl
@[simp] theorem tbind_ite (c : Prop) [Decidable c] (a b : R Bool) (k : Bool → Out) : tbind (if c then a else b) k = if c then tbind a k else tbind b k := by split <;> rfl
@[simp] theorem lbind_ok (m : List D) (k : List D → Out) : lbind (.ok m) k = k m := rfl
@[simp] theorem gRet_ap (f : SemE) (env : Env) : gRet f env = obind (f env) fun m => .rt m env := rfl
@[simp] theorem gRetN_ap (env : Env) : gRetN env = .rt (.fz .non) env := rfl
@[simp] theorem gNext_ap (env : Env) : gNext env = .nx env := rfl
@[simp] theorem gIf_ap (t : SemT) (g h : SemS) (env : Env) : gIf t g h env = tbind (t env) fun b => if b = true then g env else h env := rfl
@[simp] theorem gSet_ap (i : Nat) (f : SemE) (env : Env) : gSet i f env = obind (f env) fun m => if i < env.length then .nx (env.set i (some m)) else .stuck := rfl
@[simp] theorem gAug_ap (i : Nat) (op : M → M → R M) (f : SemE) (env : Env) : gAug i op f env = obind ((fVar i env).bind fun x => (f env).bind fun y => op x y) fun m => if i < env.length then .nx (env.set i (some m)) else .stuck := rfl
@[simp] theorem gDrop_ap (f : SemE) (env : Env) : gDrop f env = obind (f env) fun _ => .nx env := rfl
@[simp] theorem gMove_0 (m : M) (e : Env) : gMove 0 (some m :: e) = .rt m (none :: e) := rfl
def Out.mapE (o : Out) (k : Env → Env) : Out := match o with
  | .nx e => .nx (k e)
  | .rt m e => .rt m (k e)
  | .bk e => .bk (k e)
  | .ct e => .ct (k e)
  | o => o
@[simp] theorem gMove_ap (i : Nat) (env : Env) : gMove i env = match env[i]? with
  | some (some m) => .rt m (env.set i none)
  | _ => .stuck := rfl
@[simp] theorem gFreeze_ap (i : Nat) (g : SemS) (env : Env) : gFreeze i g env = match env[i]? with
  | some (some m) => g (env.set i (some (.fz m.er)))
  | _ => g env := rfl
@[simp] theorem gFor_ap (f : Env → R (List D)) (b : SemG) (g : SemS) (env : Env) : gFor f b g env = lbind (f env) fun ds => gLoop b g ds env := rfl
@[simp] theorem gLoop_nil (b : SemG) (g : SemS) (env : Env) : gLoop b g [] env = .nx env := rfl
def Out.turn (o : Out) (k : Env → Out) : Out := match o with
  | .nx e => k e
  | .ct e => k e
  | .bk e => .nx e
  | o => o
def R.out {α : Type} (x : R α) (k : α → Out) : Out := match x with
  | .ok a => k a
  | .exc c ds => .exc c ds
  | .stuck => .stuck
@[simp] theorem out_ok {α : Type} (a : α) (k : α → Out) : (R.ok a).out k = k a := rfl
theorem gLoop_cons (b : SemG) (g : SemS) (d : D) (ds : List D) (env : Env) : gLoop b g (d :: ds) env = (b d env).out fun e => (g e).turn (gLoop b g ds) := by
  show (match b d env with | .ok e => _ | .exc c l => _ | .stuck => _) = _
  cases b d env with
  | ok e =>
    show (match g e with | .nx e' => gLoop b g ds e' | .ct e' => gLoop b g ds e' | .bk e' => .nx e' | o => o) = (g e).turn (gLoop b g ds)
    cases g e <;> rfl
  | exc _ _ => rfl
  | stuck => rfl
@[simp] theorem turn_nx (e : Env) (k : Env → Out) : (Out.nx e).turn k = k e := rfl
@[simp] theorem turn_ct (e : Env) (k : Env → Out) : (Out.ct e).turn k = k e := rfl
@[simp] theorem turn_bk (e : Env) (k : Env → Out) : (Out.bk e).turn k = .nx e := rfl
@[simp] theorem turn_rt (m : M) (e : Env) (k : Env → Out) : (Out.rt m e).turn k = .rt m e := rfl
@[simp] theorem turn_ite (c : Prop) [Decidable c] (a b : Out) (k : Env → Out) : (if c then a else b).turn k = if c then a.turn k else b.turn k := by split <;> rfl
@[simp] theorem bName_ap (i : Nat) (d : D) (env : Env) : bName i d env = if i < env.length then .ok (env.set i (some (.fz d))) else .stuck := rfl
@[simp] theorem bTup_ap (bs : List SemG) (ds : List D) (env : Env) : bTup bs (.tup ds) env = if ds.length = bs.length then bTupL bs ds env else .stuck := rfl
@[simp] theorem bTupL_nil (env : Env) : bTupL [] [] env = .ok env := rfl
@[simp] theorem bTupL_cons (b : SemG) (bs : List SemG) (d : D) (ds : List D) (env : Env) : bTupL (b :: bs) (d :: ds) env = (b d env).bind fun e => bTupL bs ds e := rfl
@[simp] theorem gAsg_ap (b : SemG) (f : SemE) (env : Env) : gAsg b f env = obind (f env) fun m => (b m.er env).out fun e => .nx e := by
  unfold gAsg
  cases f env with
  | ok m =>
    show (match b m.er env with | .ok e => Out.nx e | .exc c ds => .exc c ds | .stuck => .stuck) = (b m.er env).out _
    cases b m.er env <;> rfl
  | exc _ _ => rfl
  | stuck => rfl
theorem gWhile_s (t : SemT) (g : SemS) (n : Nat) (env : Env) : gWhile t g (n + 1) env = tbind (t env) fun b => if b = true then (g env).turn (gWhile t g n) else .nx env := by
  show tbind (t env) _ = _
  congr 1
@[simp] theorem fRange1_ap (f : SemE) (env : Env) : fRange1 f env = (f env).bind fun m => (intM m).bind fun j => guard (rangeOk j) (.ok (rangeL 0 j)) := rfl
@[simp] theorem fRange2_ap (f g : SemE) (env : Env) : fRange2 f g env = (f env).bind fun m => (g env).bind fun n => (intM m).bind fun i => (intM n).bind fun j => guard (rangeOk i && rangeOk j) (.ok (rangeL i j)) := rfl
@[simp] theorem intM_i (i : Int) : intM (.fz (.int i)) = .ok i := rfl
@[simp] theorem guard_t {α : Type} (x : R α) : guard true x = x := rfl
theorem rangeOk_of {i : Int} (h : -4611686018427387904 ≤ i ∧ i < 4611686018427387904) : rangeOk i = true := decide_eq_true (by omega)
@[simp] theorem fComp_ap (it : Env → R (List D)) (b : SemG) (t : SemT) (f : SemE) (vs : List Nat) (env : Env) : fComp it b t f vs env = (it env).bind fun ds => guard (decide (ds.length ≤ sizeLine)) ((lcLoop b t f (wipeE env vs) ds).bind fun r => .ok (.lst r)) := rfl
@[simp] theorem lcLoop_nil (b : SemG) (t : SemT) (f : SemE) (env : Env) : lcLoop b t f env [] = .ok [] := rfl
theorem lcLoop_cons (b : SemG) (t : SemT) (f : SemE) (env : Env) (d : D) (ds : List D) : lcLoop b t f env (d :: ds) = (b d env).bind fun e => (t e).bind fun k => if k = true then (f e).bind fun m => (lcLoop b t f env ds).bind fun r => .ok (m.er :: r) else lcLoop b t f env ds := rfl
@[simp] theorem tYesM_ap (env : Env) : tYesM env = .ok true := rfl
@[simp] theorem wipeE_nil (e : Env) : wipeE e [] = e := rfl
@[simp] theorem wipeE_cons (e : Env) (v : Nat) (vs : List Nat) : wipeE e (v :: vs) = (wipeE e vs).set v none := rfl
/-- a comprehension without a test, item by item -/
theorem lcLoop_map {b : SemG} {f : SemE} {env : Env} {α : Type} {q : α → D} {h : α → D} : ∀ {ds : List α}, (∀ d ∈ ds, ∃ e m, b (q d) env = .ok e ∧ f e = .ok m ∧ m.er = h d) → lcLoop b tYesM f env (ds.map q) = .ok (ds.map h)
  | [], _ => rfl
  | d :: ds, hd => by
    obtain ⟨e, m, h1, h2, h3⟩ := hd d List.mem_cons_self
    rw [List.map_cons, lcLoop_cons, h1, lcLoop_map fun x hx => hd x (List.mem_cons_of_mem _ hx)]
    simp [h2, h3]
/-- .. with one -/
theorem lcLoop_filter {b : SemG} {t : SemT} {f : SemE} {env : Env} {α : Type} {q : α → D} {h : α → D} {p : α → Bool} : ∀ {ds : List α}, (∀ d ∈ ds, ∃ e, b (q d) env = .ok e ∧ t e = .ok (p d) ∧ (p d = true → ∃ m, f e = .ok m ∧ m.er = h d)) → lcLoop b t f env (ds.map q) = .ok ((ds.filter p).map h)
  | [], _ => rfl
  | d :: ds, hd => by
    obtain ⟨e, h1, h2, h3⟩ := hd d List.mem_cons_self
    rw [List.map_cons, lcLoop_cons, h1, lcLoop_filter fun x hx => hd x (List.mem_cons_of_mem _ hx)]
    cases hp : p d with
    | false => simp [h2, hp]
    | true =>
      obtain ⟨m, h4, h5⟩ := h3 hp
      simp [h2, hp, h4, h5]
/-- a loop, by an invariant of the turn and the names -/
theorem gLoop_inv {b : SemG} {g : SemS} (P : Nat → Env → Prop) : ∀ {ds : List D} {k : Nat} {env : Env}, (∀ i d env, ds[i]? = some d → P (k + i) env → ∃ e env', b d env = .ok e ∧ g e = .nx env' ∧ P (k + i + 1) env') → P k env → ∃ env', gLoop b g ds env = .nx env' ∧ P (k + ds.length) env'
  | [], k, env, _, h0 => ⟨env, rfl, h0⟩
  | d :: ds, k, env, h, h0 => by
    obtain ⟨e, env', h1, h2, h3⟩ := h 0 d env rfl h0
    obtain ⟨env2, h4, h5⟩ := gLoop_inv P (ds := ds) (k := k + 1) (env := env') (fun i d' e' hi hp => by
      have := h (i + 1) d' e' (by simpa using hi) (by rw [show k + (i + 1) = k + 1 + i by omega]; exact hp)
      rw [show k + (i + 1) + 1 = k + 1 + i + 1 by omega] at this
      exact this) h3
    refine ⟨env2, ?_, ?_⟩
    · rw [gLoop_cons, h1, out_ok, h2, turn_nx, h4]
    · rw [show k + (d :: ds).length = k + 1 + ds.length by simp; omega]
      exact h5
/-- over a range -/
theorem gLoop_range {b : SemG} {g : SemS} {lo hi : Int} (P : Nat → Env → Prop) {env : Env} (h : ∀ (i : Nat) env, lo + i < hi → P i env → ∃ e env', b (.int (lo + i)) env = .ok e ∧ g e = .nx env' ∧ P (i + 1) env') (h0 : P 0 env) : ∃ env', gLoop b g (rangeL lo hi) env = .nx env' ∧ P (hi - lo).toNat env' := by
  obtain ⟨env', e, p⟩ := gLoop_inv P (ds := rangeL lo hi) (k := 0) (env := env) (fun i d env hd hp => by
    unfold rangeL at hd
    rw [List.getElem?_map] at hd
    by_cases hi' : i < (hi - lo).toNat
    · rw [List.getElem?_range hi'] at hd
      cases hd
      rw [Nat.zero_add] at hp ⊢
      exact h i env (by omega) hp
    · rw [List.getElem?_eq_none (by simpa using hi')] at hd
      cases hd) h0
  refine ⟨env', e, ?_⟩
  have : (rangeL lo hi).length = (hi - lo).toNat := by simp [rangeL]
  rw [this, Nat.zero_add] at p
  exact p
end Z

set_option Elab.async false
set_option linter.all false
set_option maxRecDepth 100000
set_option maxHeartbeats 2000000
namespace Lw
open PySem L2 Z
/-! ### the calendar, in plain numbers -/
def leap (y : Int) : Bool := decide (y % 4 = 0) && (decide (y % 100 ≠ 0) || decide (y % 400 = 0))
def ml (y m : Int) : Int := if m = 2 then (if leap y = true then 29 else 28) else 31 - (m - 1) % 7 % 2
def lyr (y : Int) : Int := y / 4 - y / 100 + y / 400
def yb (y : Int) : Int := 365 * (y - 2000) + lyr (y - 1) - 484
def mpre (y : Int) : Nat → Int
  | 0 => 0
  | n + 1 => mpre y n + ml y (n + 1)
def num (y m d : Int) : Int := yb y + mpre y (m - 1).toNat + d - 1
theorem c_is_leap (y : Int) : fnM ⟨[0], [], []⟩ F_is_leap [.fz (.int y)] = .ok (.fz (.bl (leap y))) := by
  unfold F_is_leap
  rw [fnM_run (by simp)]
  simp (disch := omega) [g_is_leap, modM_i, leap]
  by_cases h1 : y % 4 = 0 <;> by_cases h2 : y % 100 = 0 <;> simp [h1, h2]
theorem tab12 {m : Int} (h : 1 ≤ m ∧ m ≤ 12) (h2 : m ≠ 2) : atI [D.int 31, D.int 28, D.int 31, D.int 30, D.int 31, D.int 30, D.int 31, D.int 31, D.int 30, D.int 31, D.int 30, D.int 31] (m - 1) = some (.int (31 - (m - 1) % 7 % 2)) := by
  have : m = 1 ∨ m = 3 ∨ m = 4 ∨ m = 5 ∨ m = 6 ∨ m = 7 ∨ m = 8 ∨ m = 9 ∨ m = 10 ∨ m = 11 ∨ m = 12 := by omega
  rcases this with e | e | e | e | e | e | e | e | e | e | e <;> subst e <;> rfl
theorem c_month_days (y m : Int) (h : 1 ≤ m ∧ m ≤ 12) : fnM ⟨[0, 1], [], []⟩ F_month_days [.fz (.int y), .fz (.int m)] = .ok (.fz (.int (ml y m))) := by
  unfold F_month_days
  rw [fnM_run (by simp)]
  by_cases h2 : m = 2
  · subst h2
    by_cases hl : leap y = true
    · simp [g_month_days, c_is_leap, ml, hl]
    · have hl : leap y = false := by simpa using hl
      simp [g_month_days, c_is_leap, ml, hl]
      rw [ixM_ktp (d := .int 28) rfl]
      rfl
  · simp [g_month_days, c_is_leap, ml, h2]
    rw [ixM_ktp (tab12 h h2)]
    rfl
theorem c_leap_years (y : Int) : fnM ⟨[0], [], []⟩ F_leap_years [.fz (.int y)] = .ok (.fz (.int (lyr y))) := by
  unfold F_leap_years
  rw [fnM_run (by simp)]
  simp (disch := omega) [g_leap_years, fdivM_i, lyr]
theorem c_year_begins (y : Int) : fnM ⟨[0], [], []⟩ F_year_begins [.fz (.int y)] = .ok (.fz (.int (yb y))) := by
  unfold F_year_begins
  rw [fnM_run (by simp)]
  simp (disch := omega) [g_year_begins, c_leap_years, mulM_l, yb]
  rfl
def mseq (y m : Int) : List Int := (List.range (m - 1).toNat).map fun (i : Nat) => ml y (1 + (i : Int))
theorem mpre_sum (y : Int) : ∀ n : Nat, ((List.range n).map fun (i : Nat) => ml y (1 + (i : Int))).sum = mpre y n
  | 0 => rfl
  | n + 1 => by
    rw [List.range_succ, List.map_append, List.sum_append, mpre_sum y n]
    simp [mpre]
    rw [Int.add_comm]
theorem mseq_sum (y m : Int) : (mseq y m).sum = mpre y (m - 1).toNat := mpre_sum y _
theorem c_number_of (y m d : Int) (h : 1 ≤ m ∧ m ≤ 13) : fnM ⟨[0, 1, 2], [], []⟩ F_number_of [.fz (.int y), .fz (.int m), .fz (.int d)] = .ok (.fz (.int (num y m d))) := by
  unfold F_number_of
  rw [fnM_run (by simp)]
  have hl : lcLoop (bName 4) tYesM (fCall (fnM ⟨[0, 1], [], []⟩ F_month_days) (fCons (fVar 0) (fCons (fVar 4) fNil))) [some (M.fz (D.int y)), some (M.fz (D.int m)), some (M.fz (D.int d)), none, none] (rangeL 1 m) = .ok ((mseq y m).map D.int) := by
    unfold rangeL mseq
    rw [List.map_map]
    refine lcLoop_map fun i hi => ?_
    have : i < (m - 1).toNat := by simpa using hi
    refine ⟨_, _, by simp; rfl, by simp; exact c_month_days y _ (by omega), rfl⟩
  have hz : (rangeL 1 m).length ≤ sizeLine := by
    show _ ≤ 16777216
    simp [rangeL]
    omega
  simp [g_number_of, rangeOk_of, hl, hz, sumM_map, mseq_sum, c_year_begins, num, rangeOk_of (show -4611686018427387904 ≤ m ∧ m < 4611686018427387904 by omega)]
/-! ### years and months of a day -/
theorem yb_next (y : Int) : yb (y + 1) = yb y + 365 + (if leap y = true then 1 else 0) := by
  unfold yb lyr leap
  by_cases h1 : y % 4 = 0 <;> by_cases h2 : y % 100 = 0 <;> by_cases h3 : y % 400 = 0 <;> simp [h1, h2, h3] <;> omega
def isYear (d y : Int) : Prop := yb y ≤ d ∧ d < yb (y + 1)
theorem yb_bound (y : Int) (h : 2000 ≤ y) : 365 * (y - 2000) ≤ yb y ∧ yb y ≤ 366 * (y - 2000) := by
  unfold yb lyr
  omega
theorem year_loop (d : Int) : ∀ (n : Nat) (y : Int), 2000 ≤ y → yb y ≤ d → d < yb (y + n) → ∀ N, n ≤ N → ∃ z, isYear d z ∧ y ≤ z ∧
    gWhile lt_year_of_0 lb_year_of_0 N [some (.fz (.int d)), some (.fz (.int y))] = .nx [some (.fz (.int d)), some (.fz (.int z))]
  | 0, y, h0, h1, h2, N, hN => by simp at h2; omega
  | n + 1, y, h0, h1, h2, N, hN => by
    obtain ⟨k, rfl⟩ : ∃ k, N = k + 1 := ⟨N - 1, by omega⟩
    rw [gWhile_s]
    by_cases hc : yb (y + 1) ≤ d
    · obtain ⟨z, hz, hy, e⟩ := year_loop d n (y + 1) (by omega) hc (by rw [show y + 1 + (n : Int) = y + ((n + 1 : Nat) : Int) by omega]; exact h2) k (by omega)
      refine ⟨z, hz, by omega, ?_⟩
      simp [lt_year_of_0_ap, lb_year_of_0_ap, c_year_begins, hc, e]
    · refine ⟨y, ⟨h1, by omega⟩, Int.le_refl _, ?_⟩
      simp [lt_year_of_0_ap, lb_year_of_0_ap, c_year_begins, hc]
theorem WF_eq : WF = 1000000 := rfl
theorem year_start (d : Int) (h : 0 ≤ d) : yb (2000 + d / 366) ≤ d := by
  have := (yb_bound (2000 + d / 366) (by omega)).2
  omega
theorem c_year_of (d : Int) (h : 0 ≤ d ∧ d ≤ 2000000) : ∃ y, isYear d y ∧ 2000 ≤ y ∧ fnM ⟨[0], [], []⟩ F_year_of [.fz (.int d)] = .ok (.fz (.int y)) := by
  obtain ⟨y, hy, h2, e⟩ := year_loop d 20000 (2000 + d / 366) (by omega) (year_start d h.1) (by
    have := (yb_bound (2000 + d / 366 + 20000) (by omega)).1
    rw [show ((20000 : Nat) : Int) = 20000 from rfl]
    omega) WF (by rw [WF_eq]; omega)
  refine ⟨y, hy, by omega, ?_⟩
  unfold F_year_of
  rw [fnM_run (by simp)]
  simp (disch := omega) [g_year_of, fdivM_i, e]
/-- month lengths -/
theorem ml_bound (y m : Int) (h : 1 ≤ m ∧ m ≤ 12) : 28 ≤ ml y m ∧ ml y m ≤ 31 := by
  unfold ml
  split
  · split <;> omega
  · omega
theorem mpre_year (y : Int) : mpre y 12 = 365 + (if leap y = true then 1 else 0) := by
  by_cases h : leap y = true <;> simp [mpre, ml, h]
theorem isYear_uniq {d y z : Int} (h : isYear d y) (k : isYear d z) (h1 : 2000 ≤ y) (k1 : 2000 ≤ z) : y = z := by
  have mono : ∀ (n : Nat) (a : Int), yb a ≤ yb (a + n) := by
    intro n
    induction n with
    | zero => intro a; simp
    | succ n ih =>
      intro a
      have e := yb_next (a + n)
      have := ih a
      rw [show a + ((n + 1 : Nat) : Int) = a + n + 1 by omega]
      split at e <;> omega
  obtain ⟨h2, h3⟩ := h
  obtain ⟨k2, k3⟩ := k
  rcases Int.lt_trichotomy y z with l | l | l
  · have := mono (z - (y + 1)).toNat (y + 1)
    rw [show y + 1 + ((z - (y + 1)).toNat : Int) = z by omega] at this
    omega
  · exact l
  · have := mono (y - (z + 1)).toNat (z + 1)
    rw [show z + 1 + ((y - (z + 1)).toNat : Int) = y by omega] at this
    omega
/-- the month loop: from month m with rest r -/
theorem month_loop (d y : Int) : ∀ (n : Nat) (m r : Int), 1 ≤ m → m ≤ 12 → 0 ≤ r → mpre y (m - 1).toNat + r < mpre y 12 → 12 - m ≤ n → ∀ N, n + 1 ≤ N → ∃ m' r', m ≤ m' ∧ m' ≤ 12 ∧ 0 ≤ r' ∧ r' < ml y m' ∧ mpre y (m - 1).toNat + r = mpre y (m' - 1).toNat + r' ∧
    gWhile lt_date_of_0 lb_date_of_0 N
      [some (.fz (.int d)), some (.fz (.int y)), some (.fz (.int r)), some (.fz (.int m))] = .nx [some (.fz (.int d)), some (.fz (.int y)), some (.fz (.int r')), some (.fz (.int m'))] := by
  intro n
  induction n with
  | zero =>
    intro m r h1 h2 h3 h4 h5 N hN
    obtain ⟨k, rfl⟩ : ∃ k, N = k + 1 := ⟨N - 1, by omega⟩
    have e : m = 12 := by omega
    subst e
    have hm : mpre y 12 = mpre y 11 + ml y 12 := rfl
    have h4 : mpre y 11 + r < mpre y 12 := h4
    refine ⟨12, r, by omega, by omega, h3, by omega, rfl, ?_⟩
    rw [gWhile_s]
    have hc : ¬ ml y 12 ≤ r := by omega
    simp [lt_date_of_0_ap, lb_date_of_0_ap, c_month_days y 12 (by omega), hc]
  | succ n ih =>
    intro m r h1 h2 h3 h4 h5 N hN
    obtain ⟨k, rfl⟩ : ∃ k, N = k + 1 := ⟨N - 1, by omega⟩
    have hs : mpre y m.toNat = mpre y (m - 1).toNat + ml y m := by
      obtain ⟨j, rfl⟩ : ∃ j : Nat, m = j + 1 := ⟨(m - 1).toNat, by omega⟩
      have e1 : ((j : Int) + 1).toNat = j + 1 := by omega
      have e2 : ((j : Int) + 1 - 1).toNat = j := by omega
      rw [e1, e2]
      rfl
    rw [gWhile_s]
    by_cases hc : ml y m ≤ r
    · have hm12 : m ≠ 12 := by
        rintro rfl
        have h4 : mpre y 11 + r < mpre y 12 := h4
        have hm : mpre y 12 = mpre y 11 + ml y 12 := rfl
        omega
      have em : (m + 1 - 1).toNat = m.toNat := by omega
      obtain ⟨m', r', a1, a2, a3, a4, a5, e⟩ := ih (m + 1) (r - ml y m) (by omega) (by omega) (by omega) (by rw [em, hs]; omega) (by omega) k (by omega)
      rw [em, hs] at a5
      refine ⟨m', r', by omega, a2, a3, a4, by omega, ?_⟩
      simp [lt_date_of_0_ap, lb_date_of_0_ap, c_month_days y m (by omega), hc, e]
    · refine ⟨m, r, by omega, h2, h3, by omega, rfl, ?_⟩
      simp [lt_date_of_0_ap, lb_date_of_0_ap, c_month_days y m (by omega), hc]
/-- a date of a day -/
structure IsDate (d y m k : Int) : Prop where
  yr : isYear d y
  y0 : 2000 ≤ y
  m0 : 1 ≤ m ∧ m ≤ 12
  k0 : 1 ≤ k ∧ k ≤ ml y m
  eq : d = num y m k
theorem c_date_of (d : Int) (h : 0 ≤ d ∧ d ≤ 2000000) : ∃ y m k, IsDate d y m k ∧ fnM ⟨[0], [], []⟩ F_date_of [.fz (.int d)] = .ok (.fz (.tup [.int y, .int m, .int k])) := by
  obtain ⟨y, hy, h2, e⟩ := c_year_of d h
  have hn := yb_next y
  have hp := mpre_year y
  obtain ⟨hy1, hy2⟩ := hy
  obtain ⟨m, r, a1, a2, a3, a4, a5, el⟩ := month_loop d y 11 1 (d - yb y) (by omega) (by omega) (by omega) (by
    show mpre y 0 + (d - yb y) < _
    have : mpre y 0 = 0 := rfl
    split at hn <;> simp_all <;> omega) (by omega) WF (by rw [WF_eq]; omega)
  have h0 : mpre y (1 - 1 : Int).toNat = 0 := rfl
  refine ⟨y, m, r + 1, ⟨⟨hy1, hy2⟩, h2, ⟨a1, a2⟩, by omega, by unfold num; omega⟩, ?_⟩
  unfold F_date_of
  rw [fnM_run (by simp)]
  simp [g_date_of, e, c_year_begins, el]
end Lw

set_option Elab.async false
set_option linter.all false
set_option maxRecDepth 100000
set_option maxHeartbeats 2000000
namespace Lw
open PySem L2 Z
/-! ### draws -/
theorem c_draw (ns : List Int) (k many : Int) (hk : 0 ≤ k ∧ k ≤ 1000000000) (hm : 0 < many) : ∃ v, (0 ≤ v ∧ v < many) ∧ fnM ⟨[0, 1, 2], [], []⟩ F__law_draw [.fz (.scr ns), .fz (.int k), .fz (.int many)] = .ok (.fz (.int v)) := by
  have key : ∀ cell : Int, ∃ v, (0 ≤ v ∧ v < many) ∧ ∀ b : Bool, True := fun cell => ⟨0, by omega, fun _ => trivial⟩
  have fin : ∀ cell : Int, ∃ v, (0 ≤ v ∧ v < many) ∧ ((((gSeq (gIf (fAnd (fTest (fBin gtM (fVar 3) (fBin powM (fC (.int 10)) (fC (.int 18))))) (fAnd (fTest (fBin eqM (fBin modM (fVar 3) (fC (.int 2))) (fC (.int 1)))) (fTest (fBin ltM (fVar 1) (fCall (op1 lenM) (fCons (fVar 0) fNil)))))) (gRet (fBin modM (fBin fdivM (fVar 3) (fC (.int 2))) (fVar 2))) gNext) (gSeq (gSet 4 (fBin modM (fBin mulM (fBin addM (fBin modM (fVar 3) (fC (.int 2147483647))) (fC (.int 7919))) (fBin addM (fC (.int 48271)) (fBin mulM (fBin mulM (fC (.int 2)) (fVar 1)) (fBin addM (fVar 1) (fC (.int 1009)))))) (fC (.int 2147483647)))) (gSeq (gSet 5 (fBin modM (fBin addM (fBin mulM (fVar 4) (fVar 4)) (fC (.int 104729))) (fC (.int 998244353)))) (gRet (fBin modM (fBin fdivM (fBin modM (fBin addM (fVar 4) (fBin mulM (fVar 5) (fC (.int 69621)))) (fC (.int 2147483647))) (fC (.int 7))) (fVar 2))))))
      [some (.fz (.scr ns)), some (.fz (.int k)), some (.fz (.int many)), some (.fz (.int cell)), none, none]).fin ⟨[0, 1, 2], [], []⟩ 3).bind fun r => .ok r.1) = .ok (.fz (.int v)) := by
    intro cell
    have h1 := Int.emod_nonneg cell (show (2147483647 : Int) ≠ 0 by decide)
    have h2 := Int.emod_lt_of_pos cell (show (0 : Int) < 2147483647 by decide)
    generalize hone : (cell % 2147483647 + 7919) * (48271 + 2 * k * (k + 1009)) % 2147483647 = one
    have o1 : 0 ≤ one := by rw [← hone]; exact Int.emod_nonneg _ (by decide)
    have o2 : one < 2147483647 := by rw [← hone]; exact Int.emod_lt_of_pos _ (by decide)
    generalize hoth : (one * one + 104729) % 998244353 = oth
    have r0 := Int.emod_nonneg ((one + oth * 69621) % 2147483647 / 7) (show many ≠ 0 by omega)
    have r1 := Int.emod_lt_of_pos ((one + oth * 69621) % 2147483647 / 7) hm
    have q0 := Int.emod_nonneg (cell / 2) (show many ≠ 0 by omega)
    have q1 := Int.emod_lt_of_pos (cell / 2) hm
    have p18 : powM (.fz (.int 10)) (.fz (.int 18)) = .ok (.fz (.int 1000000000000000000)) := by
      rw [powM_i (by decide)]
      rfl
    by_cases c1 : 1000000000000000000 < cell <;> by_cases c2 : cell % 2 = 1 <;> by_cases c3 : k < (ns.length : Int) <;> first
      | (refine ⟨_, ⟨q0, q1⟩, ?_⟩; simp (disch := omega) [p18, c1, c2, c3, modM_i, fdivM_i]; done)
      | (refine ⟨_, ⟨r0, r1⟩, ?_⟩; simp (disch := omega) [p18, c1, c2, c3, modM_i, fdivM_i, mulM_l, mulM_r, hone, hoth]; done)
  unfold F__law_draw
  rw [fnM_run (by simp)]
  unfold g__law_draw
  cases ns with
  | nil =>
    obtain ⟨v, hv, e⟩ := fin 6
    refine ⟨v, hv, ?_⟩
    rw [← e]
    simp
  | cons n ns =>
    have hi : 0 ≤ k % ((n :: ns).length : Int) := Int.emod_nonneg _ (by simp <;> omega)
    have hi2 : k % ((n :: ns).length : Int) < ((n :: ns).length : Int) := Int.emod_lt_of_pos _ (by simp <;> omega)
    have hx : (k % ((n :: ns).length : Int)).toNat < (n :: ns).length := by omega
    have ha : atI (n :: ns) (k % ((n :: ns).length : Int)) = some ((n :: ns)[(k % ((n :: ns).length : Int)).toNat]) := by
      rw [atI_nat hi hi2, List.getElem?_eq_getElem hx]
    obtain ⟨v, hv, e⟩ := fin ((n :: ns)[(k % ((n :: ns).length : Int)).toNat])
    refine ⟨v, hv, ?_⟩
    rw [← e]
    have hl : (0 : Int) < ((n :: ns).length : Int) := by simp
    generalize hL : ((n :: ns).length : Int) = L at *
    have lenE : lenM (.fz (.scr (n :: ns))) = .ok (.fz (.int L)) := by rw [lenM_s, hL]
    simp only [gSeq_ap, gSet_ap, gIf_ap, fC_ap, obind_ok]
    simp [lenE, hl, modM_i hl, ixM_scr ha]
end Lw

set_option Elab.async false
set_option linter.all false
set_option maxRecDepth 100000
set_option maxHeartbeats 2000000
namespace Lw
open PySem L2 Z
/-! ### the law's own calendar: the same numbers -/
theorem c_lleap (y : Int) : fnM ⟨[0], [], []⟩ F__law_leap [.fz (.int y)] = .ok (.fz (.bl (leap y))) := by
  unfold F__law_leap
  rw [fnM_run (by simp)]
  simp (disch := omega) [g__law_leap, modM_i, leap]
  have h0 : y % 100 = 0 ∨ 0 < y % 100 := by omega
  by_cases h1 : y % 4 = 0 <;> rcases h0 with h2 | h2 <;> simp [h1, h2] <;> omega
theorem c_llong (y m : Int) : fnM ⟨[0, 1], [], []⟩ F__law_long [.fz (.int y), .fz (.int m)] = .ok (.fz (.int (ml y m))) := by
  unfold F__law_long
  rw [fnM_run (by simp)]
  by_cases h2 : m = 2
  · subst h2
    by_cases hl : leap y = true
    · simp [g__law_long, c_lleap, ml, hl]
    · have hl : leap y = false := by simpa using hl
      simp [g__law_long, c_lleap, ml, hl]
  · simp (disch := omega) [g__law_long, ml, h2, modM_i]
theorem c_lbegin (y : Int) : fnM ⟨[0], [], []⟩ F__law_begin [.fz (.int y)] = .ok (.fz (.int (yb y))) := by
  unfold F__law_begin
  rw [fnM_run (by simp)]
  simp (disch := omega) [g__law_begin, fdivM_i, mulM_l]
  unfold yb lyr
  omega
theorem c_lnumber (y m d : Int) (h : 1 ≤ m ∧ m ≤ 1000) : fnM ⟨[0, 1, 2], [], []⟩ F__law_number [.fz (.int y), .fz (.int m), .fz (.int d)] = .ok (.fz (.int (num y m d))) := by
  unfold F__law_number
  rw [fnM_run (by simp)]
  obtain ⟨env', e, p⟩ := gLoop_range (b := bName 4) (g := lb__law_number_0) (lo := 1) (hi := m)
    (fun i env => ∃ o, env = [some (.fz (.int y)), some (.fz (.int m)), some (.fz (.int d)), some (.fz (.int (yb y + mpre y i))), o]) (env := [some (.fz (.int y)), some (.fz (.int m)), some (.fz (.int d)), some (.fz (.int (yb y))), none])
    (fun i env hi ⟨o, he⟩ => by
      subst he
      have e : yb y + mpre y (i + 1) = yb y + mpre y i + ml y (1 + (i : Int)) := by
        rw [mpre, Int.add_comm 1]
        omega
      refine ⟨_, _, by simp; rfl, by simp [lb__law_number_0_ap, c_llong]; rfl, some (.fz (.int (1 + (i : Int)))), ?_⟩
      rw [e])
    ⟨none, by simp [mpre]⟩
  obtain ⟨o, rfl⟩ := p
  simp [g__law_number, c_lbegin, rangeOk_of, rangeOk_of (show -4611686018427387904 ≤ m ∧ m < 4611686018427387904 by omega), e, num]
theorem lyear_loop (d : Int) : ∀ (n : Nat) (y : Int), 2000 ≤ y → yb y ≤ d → d < yb (y + n) → ∀ N, n ≤ N → ∃ z, isYear d z ∧ y ≤ z ∧
    gWhile lt__law_date_0 lb__law_date_0 N [some (.fz (.int d)), some (.fz (.int y)), none, none] = .nx [some (.fz (.int d)), some (.fz (.int z)), none, none]
  | 0, y, h0, h1, h2, N, hN => by simp at h2; omega
  | n + 1, y, h0, h1, h2, N, hN => by
    obtain ⟨k, rfl⟩ : ∃ k, N = k + 1 := ⟨N - 1, by omega⟩
    rw [gWhile_s]
    by_cases hc : yb (y + 1) ≤ d
    · obtain ⟨z, hz, hy, e⟩ := lyear_loop d n (y + 1) (by omega) hc (by rw [show y + 1 + (n : Int) = y + ((n + 1 : Nat) : Int) by omega]; exact h2) k (by omega)
      refine ⟨z, hz, by omega, ?_⟩
      simp [lt__law_date_0_ap, lb__law_date_0_ap, c_lbegin, hc, e]
    · refine ⟨y, ⟨h1, by omega⟩, Int.le_refl _, ?_⟩
      simp [lt__law_date_0_ap, lb__law_date_0_ap, c_lbegin, hc]
theorem lmonth_loop (d y : Int) : ∀ (n : Nat) (m r : Int), 1 ≤ m → m ≤ 12 → 0 ≤ r → mpre y (m - 1).toNat + r < mpre y 12 → 12 - m ≤ n → ∀ N, n + 1 ≤ N → ∃ m' r', m ≤ m' ∧ m' ≤ 12 ∧ 0 ≤ r' ∧ r' < ml y m' ∧ mpre y (m - 1).toNat + r = mpre y (m' - 1).toNat + r' ∧
    gWhile lt__law_date_1 lb__law_date_1 N
      [some (.fz (.int d)), some (.fz (.int y)), some (.fz (.int r)), some (.fz (.int m))] = .nx [some (.fz (.int d)), some (.fz (.int y)), some (.fz (.int r')), some (.fz (.int m'))] := by
  intro n
  induction n with
  | zero =>
    intro m r h1 h2 h3 h4 h5 N hN
    obtain ⟨k, rfl⟩ : ∃ k, N = k + 1 := ⟨N - 1, by omega⟩
    have e : m = 12 := by omega
    subst e
    have hm : mpre y 12 = mpre y 11 + ml y 12 := rfl
    have h4 : mpre y 11 + r < mpre y 12 := h4
    refine ⟨12, r, by omega, by omega, h3, by omega, rfl, ?_⟩
    rw [gWhile_s]
    have hc : ¬ ml y 12 ≤ r := by omega
    simp [lt__law_date_1_ap, lb__law_date_1_ap, c_llong, hc]
  | succ n ih =>
    intro m r h1 h2 h3 h4 h5 N hN
    obtain ⟨k, rfl⟩ : ∃ k, N = k + 1 := ⟨N - 1, by omega⟩
    have hs : mpre y m.toNat = mpre y (m - 1).toNat + ml y m := by
      obtain ⟨j, rfl⟩ : ∃ j : Nat, m = j + 1 := ⟨(m - 1).toNat, by omega⟩
      have e1 : ((j : Int) + 1).toNat = j + 1 := by omega
      have e2 : ((j : Int) + 1 - 1).toNat = j := by omega
      rw [e1, e2]
      rfl
    rw [gWhile_s]
    by_cases hc : ml y m ≤ r
    · have hm12 : m ≠ 12 := by
        rintro rfl
        have h4 : mpre y 11 + r < mpre y 12 := h4
        have hm : mpre y 12 = mpre y 11 + ml y 12 := rfl
        omega
      have em : (m + 1 - 1).toNat = m.toNat := by omega
      obtain ⟨m', r', a1, a2, a3, a4, a5, e⟩ := ih (m + 1) (r - ml y m) (by omega) (by omega) (by omega) (by rw [em, hs]; omega) (by omega) k (by omega)
      rw [em, hs] at a5
      refine ⟨m', r', by omega, a2, a3, a4, by omega, ?_⟩
      simp [lt__law_date_1_ap, lb__law_date_1_ap, c_llong, hc, e]
    · refine ⟨m, r, by omega, h2, h3, by omega, rfl, ?_⟩
      simp [lt__law_date_1_ap, lb__law_date_1_ap, c_llong, hc]
theorem c_ldate (d : Int) (h : 0 ≤ d ∧ d ≤ 2000000) : ∃ y m k, IsDate d y m k ∧ fnM ⟨[0], [], []⟩ F__law_date [.fz (.int d)] = .ok (.fz (.tup [.int y, .int m, .int k])) := by
  obtain ⟨y, hy, h2, e⟩ := lyear_loop d 20000 (2000 + d / 366) (by omega) (year_start d h.1) (by
    have := (yb_bound (2000 + d / 366 + 20000) (by omega)).1
    rw [show ((20000 : Nat) : Int) = 20000 from rfl]
    omega) WF (by rw [WF_eq]; omega)
  have h2 : 2000 ≤ y := by omega
  have hn := yb_next y
  have hp := mpre_year y
  obtain ⟨hy1, hy2⟩ := hy
  obtain ⟨m, r, a1, a2, a3, a4, a5, el⟩ := lmonth_loop d y 11 1 (d - yb y) (by omega) (by omega) (by omega) (by
    show mpre y 0 + (d - yb y) < _
    have : mpre y 0 = 0 := rfl
    split at hn <;> simp_all <;> omega) (by omega) WF (by rw [WF_eq]; omega)
  have h0 : mpre y (1 - 1 : Int).toNat = 0 := rfl
  refine ⟨y, m, r + 1, ⟨⟨hy1, hy2⟩, h2, ⟨a1, a2⟩, by omega, by unfold num; omega⟩, ?_⟩
  unfold F__law_date
  rw [fnM_run (by simp)]
  simp (disch := omega) [g__law_date, fdivM_i, e, c_lbegin, el]
end Lw

set_option Elab.async false
set_option linter.all false
set_option maxRecDepth 100000
set_option maxHeartbeats 4000000
namespace Lw
open PySem L2 Z
/-! ### months in a row -/
def fstM (p : Int) : Int := num (p / 12) (p % 12 + 1) 1
def mlM (p : Int) : Int := ml (p / 12) (p % 12 + 1)
theorem mlM_b (p : Int) : 28 ≤ mlM p ∧ mlM p ≤ 31 := ml_bound _ _ (by omega)
theorem num_fst (y m k : Int) (h : 1 ≤ m ∧ m ≤ 12) : num y m k = fstM (12 * y + m - 1) + k - 1 ∧ ml y m = mlM (12 * y + m - 1) := by
  unfold fstM mlM
  rw [show (12 * y + m - 1) / 12 = y by omega, show (12 * y + m - 1) % 12 + 1 = m by omega]
  exact ⟨by unfold num; omega, rfl⟩
theorem mpre_s (y : Int) (q : Int) (h : 0 ≤ q) : mpre y (q + 1).toNat = mpre y q.toNat + ml y (q + 1) := by
  obtain ⟨j, rfl⟩ : ∃ j : Nat, q = j := ⟨q.toNat, by omega⟩
  rw [show ((j : Int) + 1).toNat = j + 1 by omega, show ((j : Int)).toNat = j by omega]
  rfl
theorem fst_next (p : Int) : fstM (p + 1) = fstM p + mlM p := by
  unfold fstM mlM num
  by_cases h : p % 12 = 11
  · rw [show (p + 1) / 12 = p / 12 + 1 by omega, show (p + 1) % 12 = 0 by omega, h, yb_next]
    have h1 := mpre_year (p / 12)
    have h2 : mpre (p / 12) 12 = mpre (p / 12) 11 + ml (p / 12) 12 := rfl
    show yb (p / 12) + 365 + _ + mpre (p / 12 + 1) 0 + 1 - 1 = yb (p / 12) + mpre (p / 12) 11 + 1 - 1 + ml (p / 12) 12
    have h3 : mpre (p / 12 + 1) 0 = 0 := rfl
    omega
  · rw [show (p + 1) / 12 = p / 12 by omega, show (p + 1) % 12 = p % 12 + 1 by omega, show p % 12 + 1 + 1 - 1 = p % 12 + 1 by omega, show p % 12 + 1 - 1 = p % 12 by omega, mpre_s _ _ (by omega)]
    omega
theorem fst_le : ∀ (n : Nat) (p : Int), fstM p + 28 * n ≤ fstM (p + n)
  | 0, p => by simp
  | n + 1, p => by
    have h1 := fst_le n p
    have h2 := fst_next (p + n)
    have h3 := mlM_b (p + n)
    rw [show p + ((n + 1 : Nat) : Int) = p + n + 1 by omega]
    omega
theorem fst_mono {p q : Int} (h : p ≤ q) : fstM p + 28 * (q - p) ≤ fstM q := by
  have := fst_le (q - p).toNat p
  rw [show p + ((q - p).toNat : Int) = q by omega] at this
  omega
/-- the day so many months later -/
def onD (p k n : Int) : Int := fstM (p + n) + min k (mlM (p + n)) - 1
/-- a day: its month, its number in it -/
structure Dt (d p k : Int) : Prop where
  eq : d = fstM p + k - 1
  k0 : 1 ≤ k ∧ k ≤ mlM p
theorem IsDate.dt {d y m k : Int} (h : IsDate d y m k) : Dt d (12 * y + m - 1) k := by
  obtain ⟨e1, e2⟩ := num_fst y m k h.m0
  exact ⟨h.eq.trans e1, by rw [← e2]; exact h.k0⟩
theorem Dt.on0 {d p k : Int} (h : Dt d p k) : onD p k 0 = d := by
  unfold onD
  rw [Int.add_zero, h.eq]
  have := h.k0
  omega
theorem Dt.le {d p k d' p' k' : Int} (h : Dt d p k) (h' : Dt d' p' k') (hd : d ≤ d') : p ≤ p' := by
  rcases Int.lt_or_le p' p with l | l
  · exfalso
    have := fst_mono (p := p' + 1) (q := p) (by omega)
    have e := fst_next p'
    have a := h.eq
    have b := h'.eq
    have := h.k0
    have := h'.k0
    omega
  · exact l
/-- months between -/
theorem between {d p k d' p' k' : Int} (h : Dt d p k) (h' : Dt d' p' k') (hd : d ≤ d') (r : Int) (hr : r = if d' < onD p k (p' - p) then p' - p - 1 else p' - p) : 0 ≤ r ∧ onD p k r ≤ d' ∧ d' < onD p k (r + 1) := by
  have hp := h.le h' hd
  have k0 := h.k0
  have k0' := h'.k0
  have e := h.eq
  have e' := h'.eq
  have o0 := h.on0
  split at hr
  · next hc =>
    have hne : p' ≠ p := by
      rintro rfl
      rw [Int.sub_self, o0] at hc
      omega
    have f1 := fst_next (p' - 1)
    have b1 := mlM_b (p' - 1)
    rw [show p' - 1 + 1 = p' by omega] at f1
    refine ⟨by omega, ?_, ?_⟩
    · unfold onD
      rw [show p + r = p' - 1 by omega]
      omega
    · rw [show r + 1 = p' - p by omega]
      exact hc
  · next hc =>
    have f1 := fst_next p'
    have b1 := mlM_b (p' + 1)
    refine ⟨by omega, by rw [hr]; omega, ?_⟩
    unfold onD
    rw [show p + (r + 1) = p' + 1 by omega]
    omega
/-! ### the defs -/
theorem IsDate.y1 {d y m k : Int} (h : IsDate d y m k) : 2000 ≤ y := h.y0
theorem c_months_on (d n : Int) (h : 0 ≤ d ∧ d ≤ 2000000) : ∃ p k, Dt d p k ∧ 0 ≤ p ∧ fnM ⟨[0, 1], [], []⟩ F_months_on [.fz (.int d), .fz (.int n)] = .ok (.fz (.int (onD p k n))) := by
  obtain ⟨y, m, k, hd, e⟩ := c_date_of d h
  have hm := hd.m0
  have hy := hd.y0
  refine ⟨_, _, hd.dt, by omega, ?_⟩
  unfold F_months_on
  rw [fnM_run (by simp)]
  have q : (12 * y + m - 1 + n) % 12 + 1 ≤ 12 := by omega
  simp (disch := omega) [g_months_on, e, mulM_l, fdivM_i, modM_i, c_month_days, c_number_of]
  have h1 := num_fst ((12 * y + m - 1 + n) / 12) ((12 * y + m - 1 + n) % 12 + 1) (min k (ml ((12 * y + m - 1 + n) / 12) ((12 * y + m - 1 + n) % 12 + 1))) (by omega)
  rw [h1.1]
  rw [show 12 * ((12 * y + m - 1 + n) / 12) + ((12 * y + m - 1 + n) % 12 + 1) - 1 = 12 * y + m - 1 + n by omega]
  rfl
theorem Dt.uniq {d p k p' k' : Int} (h : Dt d p k) (h' : Dt d p' k') : p = p' ∧ k = k' := by
  have a := h.le h' (Int.le_refl _)
  have b := h'.le h (Int.le_refl _)
  have e : p = p' := by omega
  subst e
  have := h.eq
  have := h'.eq
  exact ⟨rfl, by omega⟩
theorem c_months_between (d d' : Int) (h : 0 ≤ d ∧ d ≤ 2000000) (h' : 0 ≤ d' ∧ d' ≤ 2000000) : ∃ p k p' k', Dt d p k ∧ Dt d' p' k' ∧ fnM ⟨[0, 1], [], []⟩ F_months_between [.fz (.int d), .fz (.int d')] = .ok (.fz (.int (if d' < onD p k (p' - p) then p' - p - 1 else p' - p))) := by
  obtain ⟨y, m, k, hd, e⟩ := c_date_of d h
  obtain ⟨y', m', k', hd', e'⟩ := c_date_of d' h'
  obtain ⟨p, k2, hp, _, eo⟩ := c_months_on d (12 * (y' - y) + m' - m) h
  obtain ⟨rfl, rfl⟩ := hd.dt.uniq hp
  refine ⟨_, _, _, _, hd.dt, hd'.dt, ?_⟩
  unfold F_months_between
  rw [fnM_run (by simp)]
  have en : 12 * y' + m' - 1 - (12 * y + m - 1) = 12 * (y' - y) + m' - m := by omega
  rw [en]
  by_cases hc : d' < onD (12 * y + m - 1) k (12 * (y' - y) + m' - m)
  · simp (disch := omega) [g_months_between, e, e', mulM_l, eo, hc]
  · simp (disch := omega) [g_months_between, e, e', mulM_l, eo, hc]
theorem c_lon (d n : Int) (h : 0 ≤ d ∧ d ≤ 2000000) : ∃ p k, Dt d p k ∧ fnM ⟨[0, 1], [], []⟩ F__law_on [.fz (.int d), .fz (.int n)] = .ok (.fz (.int (onD p k n))) := by
  obtain ⟨y, m, k, hd, e⟩ := c_ldate d h
  have hm := hd.m0
  refine ⟨_, _, hd.dt, ?_⟩
  unfold F__law_on
  rw [fnM_run (by simp)]
  have q : (12 * y + m - 1 + n) % 12 + 1 ≤ 12 := by omega
  simp (disch := omega) [g__law_on, e, mulM_l, fdivM_i, modM_i, c_llong, c_lnumber]
  have h1 := num_fst ((12 * y + m - 1 + n) / 12) ((12 * y + m - 1 + n) % 12 + 1) (min k (ml ((12 * y + m - 1 + n) / 12) ((12 * y + m - 1 + n) % 12 + 1))) (by omega)
  rw [h1.1]
  rw [show 12 * ((12 * y + m - 1 + n) / 12) + ((12 * y + m - 1 + n) % 12 + 1) - 1 = 12 * y + m - 1 + n by omega]
  rfl
theorem num_pos (y m d : Int) (hy : 2000 ≤ y) (hm : 1 ≤ m ∧ m ≤ 12) (hd : 1 ≤ d) : 0 ≤ num y m d := by
  have h0 := (yb_bound y hy).1
  have : ∀ n : Nat, 0 ≤ mpre y n := by
    intro n
    induction n with
    | zero => exact Int.le_refl _
    | succ n ih =>
      show 0 ≤ mpre y n + ml y (n + 1)
      have : 0 ≤ ml y (n + 1) := by
        unfold ml
        split
        · split <;> omega
        · omega
      omega
  have := this (m - 1).toNat
  unfold num
  omega
/-- a drawn day -/
theorem c_lday (ns : List Int) (k : Int) (hk : 0 ≤ k ∧ k ≤ 100000000) : ∃ v, (0 ≤ v ∧ v ≤ 999999) ∧ fnM ⟨[0, 1], [], []⟩ F__law_day [.fz (.scr ns), .fz (.int k)] = .ok (.fz (.int v)) := by
  obtain ⟨w, hw, ew⟩ := c_draw ns k 5 (by omega) (by omega)
  obtain ⟨a, ha, ea⟩ := c_draw ns (k + 1) 1000000 (by omega) (by omega)
  obtain ⟨b, hb, eb⟩ := c_draw ns (k + 1) 2738 (by omega) (by omega)
  obtain ⟨c4, hc4, e4⟩ := c_draw ns (k + 2) 4 (by omega) (by omega)
  obtain ⟨c6, hc6, e6⟩ := c_draw ns (k + 2) 6 (by omega) (by omega)
  obtain ⟨c400, hc400, e400⟩ := c_draw ns (k + 2) 400 (by omega) (by omega)
  obtain ⟨c15, hc15, e15⟩ := c_draw ns (k + 2) 1500 (by omega) (by omega)
  unfold F__law_day
  rw [fnM_run (by simp)]
  have hy : ∀ y : Int, 2000 ≤ y → 0 ≤ num y 2 27 ∧ 0 ≤ num y (1 + a % 12) 28 := fun y h => ⟨num_pos y 2 27 h (by omega) (by omega), num_pos y _ 28 h (by omega) (by omega)⟩
  have y1 : 2000 ≤ 2000 + b := by omega
  have y2 : 2000 ≤ (2000 + b) / 100 * 100 := by omega
  have hw5 : w = 0 ∨ w = 1 ∨ w = 2 ∨ w = 3 ∨ w = 4 := by omega
  have h1 := hy _ y1
  have h2 := hy _ y2
  by_cases h3 : a % 3 = 0 <;> rcases hw5 with rfl | rfl | rfl | rfl | rfl <;>
    (refine ⟨_, ?_, by simp (disch := omega) [g__law_day, ew, ea, eb, e4, e6, e400, e15, modM_i, fdivM_i, mulM_r, mulM_l, c_lnumber, h3]; rfl⟩
     omega)
end Lw

set_option Elab.async false
set_option linter.all false
set_option maxRecDepth 100000
set_option maxHeartbeats 4000000
namespace Lw
open PySem L2 Z
theorem c_lwhole (i : Int) : fnM ⟨[0], [], []⟩ F__law_whole [.fz (.int i)] = .ok (.fz (.bl true)) := by
  unfold F__law_whole
  rw [fnM_run (by simp)]
  simp [g__law_whole]
theorem c_lother (ns : List Int) (k d : Int) (hk : 0 ≤ k ∧ k ≤ 100000000) (hd : 0 ≤ d ∧ d ≤ 999999) : ∃ v, (d ≤ v ∧ v ≤ 999999) ∧ fnM ⟨[0, 1, 2], [], []⟩ F__law_other [.fz (.scr ns), .fz (.int k), .fz (.int d)] = .ok (.fz (.int v)) := by
  obtain ⟨w, hw, ew⟩ := c_draw ns k 7 (by omega) (by omega)
  obtain ⟨a, ha, ea⟩ := c_draw ns (k + 1) (999999 - d + 1) (by omega) (by omega)
  obtain ⟨b, hb, eb⟩ := c_draw ns (k + 1) 71 (by omega) (by omega)
  obtain ⟨b2, hb2, eb2⟩ := c_draw ns (k + 1) 4001 (by omega) (by omega)
  obtain ⟨c, hc, ec⟩ := c_draw ns (k + 1) 30 (by omega) (by omega)
  obtain ⟨c2, hc2, ec2⟩ := c_draw ns (k + 1) 2000 (by omega) (by omega)
  obtain ⟨c3, hc3, ec3⟩ := c_draw ns (k + 2) 3 (by omega) (by omega)
  obtain ⟨p, q, _, eo⟩ := c_lon d c (by omega)
  obtain ⟨p2, q2, _, eo2⟩ := c_lon d c2 (by omega)
  unfold F__law_other
  rw [fnM_run (by simp)]
  have i0 : ∀ x y : Int, ixM (.lst [.int x, .int y]) (.fz (.int 0)) = .ok (.fz (.int x)) := fun x y => rfl
  have i1 : ∀ x y : Int, ixM (.lst [.int x, .int y]) (.fz (.int 1)) = .ok (.fz (.int y)) := fun x y => rfl
  have hw7 : w = 0 ∨ w = 1 ∨ w = 2 ∨ w = 3 ∨ w = 4 ∨ w = 5 ∨ w = 6 := by omega
  rcases hw7 with rfl | rfl | rfl | rfl | rfl | rfl | rfl <;>
    (refine ⟨_, ?_, by simp (disch := omega) [g__law_other, ew, ea, eb, eb2, ec, ec2, ec3, eo, eo2, i0, i1]; rfl⟩
     omega)
theorem turnL (ns : List Int) (i : Int) (hi : 0 ≤ i ∧ i < 8) (e1 : Option M) (o3 o4 o5 : Option M) : ∃ v w x, lb_law_0 [some (.fz (.scr ns)), e1, some (.fz (.int i)), o3, o4, o5] = .nx [some (.fz (.scr ns)), e1, some (.fz (.int i)), some (.fz (.int v)), some (.fz (.int w)), some (.fz (.int x))] := by
  obtain ⟨d, hd, ed⟩ := c_lday ns (6 * i) (by omega)
  obtain ⟨d', hd', ed'⟩ := c_lother ns (6 * i + 3) d (by omega) hd
  obtain ⟨p, k, p', k', hp, hp', eb⟩ := c_months_between d d' (by omega) (by omega)
  obtain ⟨b0, b1, b2⟩ := between hp hp' hd'.1 _ rfl
  generalize hr : (if d' < onD p k (p' - p) then p' - p - 1 else p' - p) = r at eb b0 b1 b2
  obtain ⟨p1, k1, hp1, eo1⟩ := c_lon d r (by omega)
  obtain ⟨rfl, rfl⟩ := hp.uniq hp1
  obtain ⟨p2, k2, hp2, eo2⟩ := c_lon d (r + 1) (by omega)
  obtain ⟨rfl, rfl⟩ := hp.uniq hp2
  refine ⟨d, d', r, ?_⟩
  have n1 : ¬ r < 0 := by omega
  have n2 : ¬ d' < onD p k r := by omega
  have n3 : ¬ onD p k (r + 1) ≤ d' := by omega
  simp (disch := omega) [lb_law_0_ap, mulM_l, ed, ed', eb, c_lwhole, eo1, eo2, n1, n2, n3]
theorem turnO (ns : List Int) (j : Int) (o2 o3 o4 o5 : Option M) : ∃ o2' o3' o4' o5', lb_law_1 [some (.fz (.scr ns)), some (.fz (.int j)), o2, o3, o4, o5] = .nx [some (.fz (.scr ns)), some (.fz (.int j)), o2', o3', o4', o5'] := by
  obtain ⟨env', e, p⟩ := gLoop_range (b := bName 2) (g := lb_law_0) (lo := 0) (hi := 8) (fun _ env => ∃ o2 o3 o4 o5, env = [some (.fz (.scr ns)), some (.fz (.int j)), o2, o3, o4, o5]) (env := [some (.fz (.scr ns)), some (.fz (.int j)), o2, o3, o4, o5])
    (fun i env hi ⟨o2, o3, o4, o5, he⟩ => by
      subst he
      obtain ⟨v, w, x, et⟩ := turnL ns (i : Int) (by omega) (some (.fz (.int j))) o3 o4 o5
      exact ⟨_, _, by simp, et, _, _, _, _, rfl⟩) ⟨o2, o3, o4, o5, rfl⟩
  obtain ⟨o2', o3', o4', o5', rfl⟩ := p
  refine ⟨o2', o3', o4', o5', ?_⟩
  simp [lb_law_1_ap, rangeOk_of, e]
theorem pure14 (ns : List Int) (hn : ns.length ≤ 63) : ∃ outs, F_law [.fz (.scr ns)] = .ok (.fz (.bl true), outs) := by
  unfold F_law
  rw [runF_ap _ _ _ _ (by simp)]
  obtain ⟨env', e, p⟩ := gLoop_range (b := bName 1) (g := lb_law_1) (lo := 0) (hi := 2) (fun _ env => ∃ o1 o2 o3 o4 o5, env = [some (.fz (.scr ns)), o1, o2, o3, o4, o5]) (env := [some (.fz (.scr ns)), none, none, none, none, none])
    (fun i env hi ⟨o1, o2, o3, o4, o5, he⟩ => by
      subst he
      obtain ⟨o2', o3', o4', o5', et⟩ := turnO ns (i : Int) o2 o3 o4 o5
      exact ⟨_, _, by simp, et, _, _, _, _, _, rfl⟩) ⟨none, none, none, none, none, rfl⟩
  obtain ⟨o1, o2, o3, o4, o5, rfl⟩ := p
  refine ⟨outsOf ⟨[0], [], []⟩ 1 [some (.fz (.scr ns)), o1, o2, o3, o4, o5], ?_⟩
  simp [g_law, rangeOk_of, e]
end Lw
theorem PySem.Challenge.cw_loanroll_k14_months_between_holds : PySem.Challenge.rw_loanroll_k14_months_between.Holds := by
  exact Lw.holds Lw.pure14
